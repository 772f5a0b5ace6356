import PyProof.Rows.All
import Wide.All
import OpenK.AllK
import Wide.FinOn
import PyProof.NeKinds
import KE.KTurnsGround
import PyProof.ExcClass3
import PyProof.ExcFactsAll.Exception
import PyProof.ExcBaseAll.Exception
import PySem.Challenge.RW_xw0010_01
set_option Elab.async false
set_option maxRecDepth 100000
set_option maxHeartbeats 0
set_option compiler.extract_closed false
namespace Mine
section
open PySem PySem.W PyProof.Rows
namespace hd
noncomputable abbrev pE : Program := PySem.Challenge.rw_xw0010_01.row.toRowW.1
theorem bareE : pE.bare := ⟨rfl, rfl, rfl, rfl, rfl, by decide +kernel⟩
noncomputable def zp : Pos := ⟨0, 0, 0, 0⟩
noncomputable def nthS : List Stmt → Nat → Stmt
 | [], _ => .Pass zp
 | x :: _, 0 => x
 | _ :: r, n + 1 => nthS r n
noncomputable def st (i : Nat) : Stmt := nthS PySem.Challenge.pw_xw0010_01.main.body i
noncomputable def mem (i j : Nat) : Stmt := match st i with
 | .ClassDef _ _ _ b _ _ _ _ _ _ _ => nthS b j
 | s => s
noncomputable def fnD (s : Stmt) (q : Str) (g : Addr) (cl : List (Str × Addr)) (d kd doc pm : Value) (an : Option Addr) (code ct : Value) (bl : Addr) : FuncData := match s with
 | .FunctionDef n ps b _ _ _ sc _ _ _ => ⟨n, q, ps, .stmts b, sc, g, cl, d, kd, doc, pm, an, code, ct, bl⟩
 | _ => default
section
local macro_rules | `($n:num) => `(nat_lit $n)
noncomputable def ofS (s : String) : Str := Str.ofString s
noncomputable def vS (s : String) (t : Nat) : Value := .str (Str.ofString s) t
noncomputable def vI (n t : Nat) : Value := .int (.ofNat n) t
noncomputable def R (a : Nat) : Value := .ref a
noncomputable def de (P : Params) (s : String) (t : Nat) (v : Value) : DictEntry := ⟨PyData.keyHash P (Str.ofString s), .str (Str.ofString s) t, v⟩
noncomputable def tup (l : List Value) : Obj := ⟨.type "tuple", none, .seq (.mk l) 0, .mk []⟩
noncomputable def f0 (s : Stmt) (q : String) : Obj := ⟨.none, none, .func (fnD s (Str.ofString q) 0 [] .none .none .none .none none .none .none 0), .mk []⟩
noncomputable def fO (s : Stmt) (q m : String) (t c : Nat) : Obj := ⟨.type "function", none, .func (fnD s (Str.ofString q) 3 [] .none .none .none (vS m t) none (.ref c) .none 0), .mk []⟩
noncomputable def cO (n q : String) (t l a b c d r : Nat) (g : Bool) (r2 : Nat) (v1 v2 v3 v4 : Value) (u : Nat) : Obj := ⟨.type "code", none,
 .fields (.mk [vS n t, vS q (t.add 1), vS "/claim/cut.py" (t.add 2), vI l 0, vI a 0, vI b 0, vI c 0, vI d 0, R r, .bool g, vI 181 0, R r2, v1, v2, v3, v4, vI u 0, vI l 0, vS "/claim/cut.py" (u.add 1)]), .mk []⟩
open BT (node nil)
noncomputable def o_43 : Obj := tup []
noncomputable def o_44 : Obj := (Obj.mk .none none (.fields (.mk [])) (.mk []))
noncomputable def o_45 : Obj := cO "<module>" "<module>" 182 1 0 0 0 0 11 false 12 .none .none .none .none 185
noncomputable def o_46 : Obj := (Obj.mk (.type "frame") none .plain (.mk [(some (R 13)), (some (R 3)), (some (R 3)), none, (some (vS "__main__" 164)), none, (some (R 0))]))
noncomputable def o_49 (P : Params) : Obj := (Obj.mk .none none (.dict (.mk [(de P "type.__subclasses__.Exception.0" 214 (vI 31 0)), (de P "type.__subclasses__.Exception.n" 215 (vI 1 0))]) 2) (.mk []))
noncomputable def o_52 : Obj := tup [(.type "Exception")]
noncomputable def o_53 : Obj := (Obj.mk (.type "builtin_function_or_method") none (.fields (.mk [(.builtin "type.__prepare__"), (.type "type")])) (.mk []))
noncomputable def o_54 (P : Params) : Obj := (Obj.mk (.type "dict") none (.dict (.mk [(de P "__module__" 196 (vS "adacore.errors" 187)), (de P "__qualname__" 198 (vS "AdaError" 197)), (de P "__firstlineno__" 200 (vI 2 199)), (de P "__init__" 208 (R 28)), (de P "__static_attributes__" 210 (R 29))]) 5) (.mk []))
noncomputable def o_56 : Obj := (Obj.mk .none none (.fields (.mk [(vI 4 0), (vI 4 0), (R 27)])) (.mk []))
noncomputable def o_57 : Obj := cO "AdaError" "AdaError" 191 2 0 0 0 0 18 false 19 .none .none .none .none 194
noncomputable def o_58 : Obj := (Obj.mk (.type "frame") none .plain (.mk [(some (R 20)), (some (R 3)), (some (R 17)), none, (some (vS "adacore.errors" 187)), none, (some (R 0))]))
noncomputable def o_61 : Obj := tup [(vS "self" 204), (vS "text" 205)]
noncomputable def o_63 : Obj := f0 (mem 1 0) "AdaError.__init__"
noncomputable def o_64 : Obj := cO "__init__" "AdaError.__init__" 201 4 2 0 0 3 22 true 23 .none (R 24) (R 25) (R 26) 206
noncomputable def o_65 : Obj := fO (mem 1 0) "AdaError.__init__" "adacore.errors" 187 27
noncomputable def o_66 : Obj := tup [(vS "text" 209)]
noncomputable def o_67 (P : Params) : Obj := (Obj.mk (.type "dict") none (.dict (.mk [(de P "__module__" 196 (vS "adacore.errors" 187)), (de P "__firstlineno__" 200 (vI 2 199)), (de P "__init__" 208 (R 28)), (de P "__static_attributes__" 210 (R 29)), (de P "__weakref__" 212 (R 32)), (de P "__doc__" 213 .none)]) 3) (.mk []))
noncomputable def o_69 : Obj := (Obj.mk (.type "getset_descriptor") none (.fields (.mk [(vS "__weakref__" 211), (R 31), (.builtin "ExceptionGroup.__weakref__"), .none])) (.mk []))
noncomputable def o_70 : Obj := (Obj.mk (.type "super") none (.fields (.mk [(R 31), (R 31), (R 31)])) (.mk []))
noncomputable def o_71 : Obj := (Obj.mk (.type "builtin_function_or_method") none (.fields (.mk [(.builtin "object.__init_subclass__"), (R 31)])) (.mk []))
noncomputable def o_75 : Obj := tup [(R 31)]
noncomputable def o_77 (P : Params) : Obj := (Obj.mk (.type "dict") none (.dict (.mk [(de P "__module__" 225 (vS "adacore.errors" 187)), (de P "__qualname__" 227 (vS "CheckFault" 226)), (de P "__firstlineno__" 229 (vI 7 228)), (de P "__init__" 238 (R 48)), (de P "__static_attributes__" 240 (R 49))]) 5) (.mk []))
noncomputable def o_79 : Obj := (Obj.mk .none none (.fields (.mk [(vI 9 0), (vI 4 0), (R 47)])) (.mk []))
noncomputable def o_80 : Obj := cO "CheckFault" "CheckFault" 220 7 0 0 0 0 38 false 39 .none .none .none .none 223
noncomputable def o_81 : Obj := (Obj.mk (.type "frame") none .plain (.mk [(some (R 40)), (some (R 3)), (some (R 37)), none, (some (vS "adacore.errors" 187)), none, (some (R 0))]))
noncomputable def o_84 : Obj := tup [(vS "self" 233), (vS "line" 234), (vS "text" 235)]
noncomputable def o_86 : Obj := f0 (mem 2 0) "CheckFault.__init__"
noncomputable def o_87 : Obj := cO "__init__" "CheckFault.__init__" 230 9 3 0 0 3 42 true 43 .none (R 44) (R 45) (R 46) 236
noncomputable def o_88 : Obj := fO (mem 2 0) "CheckFault.__init__" "adacore.errors" 187 47
noncomputable def o_89 : Obj := tup [(vS "line" 239)]
noncomputable def o_90 (P : Params) : Obj := (Obj.mk (.type "dict") none (.dict (.mk [(de P "__module__" 225 (vS "adacore.errors" 187)), (de P "__firstlineno__" 229 (vI 7 228)), (de P "__init__" 238 (R 48)), (de P "__static_attributes__" 240 (R 49)), (de P "__doc__" 241 .none)]) 2) (.mk []))
noncomputable def o_91 : Obj := (Obj.mk (.type "type") none (.cls (ClassData.mk (ofS "CheckFault") [(R 31)] [(R 51), (R 31), (.type "Exception"), (.type "BaseException"), (.type "object")] 50 (ofS "CheckFault") true [] [] false none false)) (.mk [(some (R 35)), none, (some (vS "CheckFault" 218)), (some (vS "CheckFault" 226)), (some (.builtin "Exception.__new__")), (some (.bool true))]))
noncomputable def o_92 : Obj := (Obj.mk (.type "super") none (.fields (.mk [(R 51), (R 51), (R 51)])) (.mk []))
noncomputable def o_93 : Obj := (Obj.mk (.type "builtin_function_or_method") none (.fields (.mk [(.builtin "object.__init_subclass__"), (R 51)])) (.mk []))
noncomputable def o_96 : Obj := (Obj.mk (.type "type") none (.cls (ClassData.mk (ofS "AdaError") [(.type "Exception")] [(R 31), (.type "Exception"), (.type "BaseException"), (.type "object")] 30 (ofS "AdaError") true [] [(R 51), (R 70)] false none false)) (.mk [(some (R 15)), none, (some (vS "AdaError" 189)), (some (vS "AdaError" 197)), (some (.builtin "Exception.__new__")), (some (.bool true))]))
noncomputable def o_99 (P : Params) : Obj := (Obj.mk (.type "dict") none (.dict (.mk [(de P "__module__" 251 (vS "adacore.errors" 187)), (de P "__qualname__" 253 (vS "AdaRaise" 252)), (de P "__firstlineno__" 255 (vI 12 254)), (de P "__init__" 265 (R 67)), (de P "__static_attributes__" 269 (R 68))]) 5) (.mk []))
noncomputable def o_101 : Obj := (Obj.mk .none none (.fields (.mk [(vI 14 0), (vI 4 0), (R 66)])) (.mk []))
noncomputable def o_102 : Obj := cO "AdaRaise" "AdaRaise" 246 12 0 0 0 0 57 false 58 .none .none .none .none 249
noncomputable def o_103 : Obj := (Obj.mk (.type "frame") none .plain (.mk [(some (R 59)), (some (R 3)), (some (R 56)), none, (some (vS "adacore.errors" 187)), none, (some (R 0))]))
noncomputable def o_106 : Obj := tup [(vS "self" 259), (vS "name" 260), (vS "line" 261), (vS "text" 262)]
noncomputable def o_108 : Obj := f0 (mem 3 0) "AdaRaise.__init__"
noncomputable def o_109 : Obj := cO "__init__" "AdaRaise.__init__" 256 14 4 0 0 3 61 true 62 .none (R 63) (R 64) (R 65) 263
noncomputable def o_110 : Obj := fO (mem 3 0) "AdaRaise.__init__" "adacore.errors" 187 66
noncomputable def o_111 : Obj := tup [(vS "line" 266), (vS "name" 267), (vS "word" 268)]
noncomputable def o_112 (P : Params) : Obj := (Obj.mk (.type "dict") none (.dict (.mk [(de P "__module__" 251 (vS "adacore.errors" 187)), (de P "__firstlineno__" 255 (vI 12 254)), (de P "__init__" 265 (R 67)), (de P "__static_attributes__" 269 (R 68)), (de P "__doc__" 270 .none)]) 2) (.mk []))
noncomputable def o_113 : Obj := (Obj.mk (.type "type") none (.cls (ClassData.mk (ofS "AdaRaise") [(R 31)] [(R 70), (R 31), (.type "Exception"), (.type "BaseException"), (.type "object")] 69 (ofS "AdaRaise") true [] [] false none false)) (.mk [(some (R 54)), none, (some (vS "AdaRaise" 244)), (some (vS "AdaRaise" 252)), (some (.builtin "Exception.__new__")), (some (.bool true))]))
noncomputable def o_114 : Obj := (Obj.mk (.type "super") none (.fields (.mk [(R 70), (R 70), (R 70)])) (.mk []))
noncomputable def o_115 : Obj := (Obj.mk (.type "builtin_function_or_method") none (.fields (.mk [(.builtin "object.__init_subclass__"), (R 70)])) (.mk []))
noncomputable def o_120 (P : Params) : Obj := (Obj.mk (.type "dict") none (.dict (.mk [(de P "__module__" 282 (vS "adacore.values" 273)), (de P "__qualname__" 284 (vS "Unset" 283)), (de P "__firstlineno__" 286 (vI 20 285)), (de P "__init__" 293 (R 86)), (de P "__static_attributes__" 295 (R 87))]) 5) (.mk []))
noncomputable def o_122 : Obj := (Obj.mk .none none (.fields (.mk [(vI 22 0), (vI 4 0), (R 85)])) (.mk []))
noncomputable def o_123 : Obj := cO "Unset" "Unset" 277 20 0 0 0 0 76 false 77 .none .none .none .none 280
noncomputable def o_124 : Obj := (Obj.mk (.type "frame") none .plain (.mk [(some (R 78)), (some (R 3)), (some (R 75)), none, (some (vS "adacore.values" 273)), none, (some (R 0))]))
noncomputable def o_127 : Obj := tup [(vS "self" 290)]
noncomputable def o_129 : Obj := f0 (mem 5 0) "Unset.__init__"
noncomputable def o_130 : Obj := cO "__init__" "Unset.__init__" 287 22 1 0 0 3 80 true 81 .none (R 82) (R 83) (R 84) 291
noncomputable def o_131 : Obj := fO (mem 5 0) "Unset.__init__" "adacore.values" 273 85
noncomputable def o_132 : Obj := tup [(vS "text" 294)]
noncomputable def o_133 (P : Params) : Obj := (Obj.mk (.type "dict") none (.dict (.mk [(de P "__module__" 282 (vS "adacore.values" 273)), (de P "__firstlineno__" 286 (vI 20 285)), (de P "__init__" 293 (R 86)), (de P "__static_attributes__" 295 (R 87)), (de P "__dict__" 297 (R 90)), (de P "__weakref__" 299 (R 91)), (de P "__doc__" 300 .none)]) 4) (.mk []))
noncomputable def o_134 : Obj := (Obj.mk (.type "type") none (.cls (ClassData.mk (ofS "Unset") [(.type "object")] [(R 89), (.type "object")] 88 (ofS "Unset") true [] [] false none false)) (.mk [none, none, (some (vS "Unset" 275)), (some (vS "Unset" 283)), (some (.builtin "object.__new__")), (some (.bool true))]))
noncomputable def o_135 : Obj := (Obj.mk (.type "getset_descriptor") none (.fields (.mk [(vS "__dict__" 296), (R 89), (.builtin "function.__dict__"), (.builtin "function.__dict__#set")])) (.mk []))
noncomputable def o_136 : Obj := (Obj.mk (.type "getset_descriptor") none (.fields (.mk [(vS "__weakref__" 298), (R 89), (.builtin "ExceptionGroup.__weakref__"), .none])) (.mk []))
noncomputable def o_137 : Obj := (Obj.mk (.type "super") none (.fields (.mk [(R 89), (R 89), (R 89)])) (.mk []))
noncomputable def o_138 : Obj := (Obj.mk (.type "builtin_function_or_method") none (.fields (.mk [(.builtin "object.__init_subclass__"), (R 89)])) (.mk []))
noncomputable def o_139 (P : Params) : Obj := (Obj.mk (.type "dict") none (.dict (.mk [(de P "__name__" 165 (vS "adacore.values" 273)), (de P "__doc__" 166 .none), (de P "__package__" 167 .none), (de P "__loader__" 168 (.builtin "__main__.__loader__#opaque")), (de P "__spec__" 169 .none), (de P "__annotations__" 170 (R 6)), (de P "__builtins__" 171 (R 4)), (de P "__file__" 173 (vS "/claim/cut.py" 172)), (de P "__cached__" 174 .none), (de P "AdaError" 217 (R 31)), (de P "CheckFault" 243 (R 51)), (de P "AdaRaise" 272 (R 70)), (de P "Unset" 302 (R 89)), (de P "Cell" 334 (R 110))]) 14) (.mk []))
noncomputable def o_140 : Obj := (Obj.mk .none none (.fields (.mk [(vI 2 0), (vI 0 0), (R 20), (vI 7 0), (vI 0 0), (R 40), (vI 12 0), (vI 0 0), (R 59), (vI 20 0), (vI 0 0), (R 78), (vI 24 0), (vI 0 0), (R 99)])) (.mk []))
noncomputable def o_143 (P : Params) : Obj := (Obj.mk (.type "dict") none (.dict (.mk [(de P "__module__" 310 (vS "adacore.values" 273)), (de P "__qualname__" 312 (vS "Cell" 311)), (de P "__firstlineno__" 314 (vI 24 313)), (de P "__init__" 323 (R 107)), (de P "__static_attributes__" 327 (R 108))]) 5) (.mk []))
noncomputable def o_145 : Obj := (Obj.mk .none none (.fields (.mk [(vI 26 0), (vI 4 0), (R 106)])) (.mk []))
noncomputable def o_146 : Obj := cO "Cell" "Cell" 305 24 0 0 0 0 97 false 98 .none .none .none .none 308
noncomputable def o_147 : Obj := (Obj.mk (.type "frame") none .plain (.mk [(some (R 99)), (some (R 3)), (some (R 96)), none, (some (vS "adacore.values" 273)), none, (some (R 0))]))
noncomputable def o_150 : Obj := tup [(vS "self" 318), (vS "value" 319), (vS "number" 320)]
noncomputable def o_152 : Obj := f0 (mem 6 0) "Cell.__init__"
noncomputable def o_153 : Obj := cO "__init__" "Cell.__init__" 315 26 3 0 0 3 101 true 102 .none (R 103) (R 104) (R 105) 321
noncomputable def o_154 : Obj := fO (mem 6 0) "Cell.__init__" "adacore.values" 273 106
noncomputable def o_155 : Obj := tup [(vS "number" 324), (vS "subtype" 325), (vS "value" 326)]
noncomputable def o_156 (P : Params) : Obj := (Obj.mk (.type "dict") none (.dict (.mk [(de P "__module__" 310 (vS "adacore.values" 273)), (de P "__firstlineno__" 314 (vI 24 313)), (de P "__init__" 323 (R 107)), (de P "__static_attributes__" 327 (R 108)), (de P "__dict__" 329 (R 111)), (de P "__weakref__" 331 (R 112)), (de P "__doc__" 332 .none)]) 4) (.mk []))
noncomputable def o_157 : Obj := (Obj.mk (.type "type") none (.cls (ClassData.mk (ofS "Cell") [(.type "object")] [(R 110), (.type "object")] 109 (ofS "Cell") true [] [] false none false)) (.mk [none, none, (some (vS "Cell" 303)), (some (vS "Cell" 311)), (some (.builtin "object.__new__")), (some (.bool true))]))
noncomputable def o_158 : Obj := (Obj.mk (.type "getset_descriptor") none (.fields (.mk [(vS "__dict__" 328), (R 110), (.builtin "function.__dict__"), (.builtin "function.__dict__#set")])) (.mk []))
noncomputable def o_159 : Obj := (Obj.mk (.type "getset_descriptor") none (.fields (.mk [(vS "__weakref__" 330), (R 110), (.builtin "ExceptionGroup.__weakref__"), .none])) (.mk []))
noncomputable def o_160 : Obj := (Obj.mk (.type "super") none (.fields (.mk [(R 110), (R 110), (R 110)])) (.mk []))
noncomputable def o_161 : Obj := (Obj.mk (.type "builtin_function_or_method") none (.fields (.mk [(.builtin "object.__init_subclass__"), (R 110)])) (.mk []))
noncomputable def o_166 (P : Params) : Obj := (Obj.mk (.type "dict") none (.dict (.mk [(de P "__module__" 342 (vS "adacore.values" 273)), (de P "__qualname__" 344 (vS "ArrayValue" 343)), (de P "__firstlineno__" 346 (vI 30 345)), (de P "__init__" 355 (R 128)), (de P "__static_attributes__" 358 (R 129))]) 5) (.mk []))
noncomputable def o_168 : Obj := (Obj.mk .none none (.fields (.mk [(vI 32 0), (vI 4 0), (R 127)])) (.mk []))
noncomputable def o_169 : Obj := cO "ArrayValue" "ArrayValue" 337 30 0 0 0 0 118 false 119 .none .none .none .none 340
noncomputable def o_170 : Obj := (Obj.mk (.type "frame") none .plain (.mk [(some (R 120)), (some (R 3)), (some (R 117)), none, (some (vS "adacore.values" 273)), none, (some (R 0))]))
noncomputable def o_173 : Obj := tup [(vS "self" 350), (vS "bounds" 351), (vS "items" 352)]
noncomputable def o_175 : Obj := f0 (mem 7 0) "ArrayValue.__init__"
noncomputable def o_176 : Obj := cO "__init__" "ArrayValue.__init__" 347 32 3 0 0 3 122 true 123 .none (R 124) (R 125) (R 126) 353
noncomputable def o_177 : Obj := fO (mem 7 0) "ArrayValue.__init__" "adacore.values" 273 127
noncomputable def o_178 : Obj := tup [(vS "bounds" 356), (vS "items" 357)]
noncomputable def o_179 (P : Params) : Obj := (Obj.mk (.type "dict") none (.dict (.mk [(de P "__module__" 342 (vS "adacore.values" 273)), (de P "__firstlineno__" 346 (vI 30 345)), (de P "__init__" 355 (R 128)), (de P "__static_attributes__" 358 (R 129)), (de P "__dict__" 360 (R 132)), (de P "__weakref__" 362 (R 133)), (de P "__doc__" 363 .none)]) 4) (.mk []))
noncomputable def o_180 : Obj := (Obj.mk (.type "type") none (.cls (ClassData.mk (ofS "ArrayValue") [(.type "object")] [(R 131), (.type "object")] 130 (ofS "ArrayValue") true [] [] false none false)) (.mk [none, none, (some (vS "ArrayValue" 335)), (some (vS "ArrayValue" 343)), (some (.builtin "object.__new__")), (some (.bool true))]))
noncomputable def o_181 : Obj := (Obj.mk (.type "getset_descriptor") none (.fields (.mk [(vS "__dict__" 359), (R 131), (.builtin "function.__dict__"), (.builtin "function.__dict__#set")])) (.mk []))
noncomputable def o_182 : Obj := (Obj.mk (.type "getset_descriptor") none (.fields (.mk [(vS "__weakref__" 361), (R 131), (.builtin "ExceptionGroup.__weakref__"), .none])) (.mk []))
noncomputable def o_183 : Obj := (Obj.mk (.type "super") none (.fields (.mk [(R 131), (R 131), (R 131)])) (.mk []))
noncomputable def o_184 : Obj := (Obj.mk (.type "builtin_function_or_method") none (.fields (.mk [(.builtin "object.__init_subclass__"), (R 131)])) (.mk []))
noncomputable def o_189 (P : Params) : Obj := (Obj.mk (.type "dict") none (.dict (.mk [(de P "__module__" 373 (vS "adacore.values" 273)), (de P "__qualname__" 375 (vS "RecordValue" 374)), (de P "__firstlineno__" 377 (vI 35 376)), (de P "__init__" 386 (R 149)), (de P "__static_attributes__" 389 (R 150))]) 5) (.mk []))
noncomputable def o_191 : Obj := (Obj.mk .none none (.fields (.mk [(vI 37 0), (vI 4 0), (R 148)])) (.mk []))
noncomputable def o_192 : Obj := cO "RecordValue" "RecordValue" 368 35 0 0 0 0 139 false 140 .none .none .none .none 371
noncomputable def o_193 : Obj := (Obj.mk (.type "frame") none .plain (.mk [(some (R 141)), (some (R 3)), (some (R 138)), none, (some (vS "adacore.values" 273)), none, (some (R 0))]))
noncomputable def o_196 : Obj := tup [(vS "self" 381), (vS "t" 382), (vS "fields" 383)]
noncomputable def o_198 : Obj := f0 (mem 8 0) "RecordValue.__init__"
noncomputable def o_199 : Obj := cO "__init__" "RecordValue.__init__" 378 37 3 0 0 3 143 true 144 .none (R 145) (R 146) (R 147) 384
noncomputable def o_200 : Obj := fO (mem 8 0) "RecordValue.__init__" "adacore.values" 273 148
noncomputable def o_201 : Obj := tup [(vS "fields" 387), (vS "type" 388)]
noncomputable def o_202 (P : Params) : Obj := (Obj.mk (.type "dict") none (.dict (.mk [(de P "__module__" 373 (vS "adacore.values" 273)), (de P "__firstlineno__" 377 (vI 35 376)), (de P "__init__" 386 (R 149)), (de P "__static_attributes__" 389 (R 150)), (de P "__dict__" 391 (R 153)), (de P "__weakref__" 393 (R 154)), (de P "__doc__" 394 .none)]) 4) (.mk []))
noncomputable def o_203 : Obj := (Obj.mk (.type "type") none (.cls (ClassData.mk (ofS "RecordValue") [(.type "object")] [(R 152), (.type "object")] 151 (ofS "RecordValue") true [] [] false none false)) (.mk [none, none, (some (vS "RecordValue" 366)), (some (vS "RecordValue" 374)), (some (.builtin "object.__new__")), (some (.bool true))]))
noncomputable def o_204 : Obj := (Obj.mk (.type "getset_descriptor") none (.fields (.mk [(vS "__dict__" 390), (R 152), (.builtin "function.__dict__"), (.builtin "function.__dict__#set")])) (.mk []))
noncomputable def o_205 : Obj := (Obj.mk (.type "getset_descriptor") none (.fields (.mk [(vS "__weakref__" 392), (R 152), (.builtin "ExceptionGroup.__weakref__"), .none])) (.mk []))
noncomputable def o_206 : Obj := (Obj.mk (.type "super") none (.fields (.mk [(R 152), (R 152), (R 152)])) (.mk []))
noncomputable def o_207 : Obj := (Obj.mk (.type "builtin_function_or_method") none (.fields (.mk [(.builtin "object.__init_subclass__"), (R 152)])) (.mk []))
noncomputable def o_210 : Obj := tup [(vS "value" 400)]
noncomputable def o_212 : Obj := f0 (st 9) "need_set"
noncomputable def o_213 : Obj := cO "need_set" "need_set" 397 40 1 0 0 3 157 true 158 .none (R 159) (R 160) (R 161) 401
noncomputable def o_214 : Obj := fO (st 9) "need_set" "adacore.values" 273 162
noncomputable def o_217 : Obj := f0 (st 10) "copy_value"
noncomputable def o_218 : Obj := cO "copy_value" "copy_value" 404 44 1 0 0 3 164 true 165 .none .none .none (R 166) 407
noncomputable def o_219 : Obj := fO (st 10) "copy_value" "adacore.values" 273 167
noncomputable def o_222 : Obj := tup [(vS "old" 413), (vS "fresh" 414), (vS "at" 415), (vS "fields" 416), (vS "name" 417)]
noncomputable def o_224 : Obj := f0 (st 11) "kept_value"
noncomputable def o_225 : Obj := cO "kept_value" "kept_value" 410 53 2 0 0 3 169 true 170 .none (R 171) (R 172) (R 173) 418
noncomputable def o_226 : Obj := fO (st 11) "kept_value" "adacore.values" 273 174
noncomputable def o_229 : Obj := f0 (st 12) "lengths_of"
noncomputable def o_230 : Obj := cO "lengths_of" "lengths_of" 421 66 1 0 0 3 176 true 177 .none .none .none (R 178) 424
noncomputable def o_231 : Obj := fO (st 12) "lengths_of" "adacore.values" 273 179
noncomputable def o_234 : Obj := tup [(vS "place" 430), (vS "low" 431), (vS "high" 432), (vS "count" 433)]
noncomputable def o_236 : Obj := f0 (st 13) "slice_items"
noncomputable def o_237 : Obj := cO "slice_items" "slice_items" 427 68 1 0 0 3 181 true 182 .none (R 183) (R 184) (R 185) 434
noncomputable def o_238 : Obj := fO (st 13) "slice_items" "adacore.values" 273 186
noncomputable def o_241 : Obj := tup [(vS "record" 440), (vS "name" 441)]
noncomputable def o_243 : Obj := f0 (st 14) "fields_with"
noncomputable def o_244 : Obj := cO "fields_with" "fields_with" 437 72 2 0 0 3 188 true 189 .none (R 190) (R 191) (R 192) 442
noncomputable def o_245 : Obj := fO (st 14) "fields_with" "adacore.values" 273 193
noncomputable def o_250 : Obj := f0 (st 15) "read_place"
noncomputable def o_251 : Obj := cO "read_place" "read_place" 445 76 1 0 0 3 195 true 196 .none .none .none (R 197) 448
noncomputable def o_252 : Obj := fO (st 15) "read_place" "adacore.values" 273 198
noncomputable def o_255 : Obj := f0 (st 16) "write_place"
noncomputable def o_256 : Obj := cO "write_place" "write_place" 451 87 2 0 0 3 200 true 201 .none .none .none (R 202) 454
noncomputable def o_257 : Obj := fO (st 16) "write_place" "adacore.values" 273 203
noncomputable def o_260 : Obj := tup [(vS "text" 464)]
noncomputable def o_262 : Obj := f0 (st 19) "raise_constraint"
noncomputable def o_263 : Obj := cO "raise_constraint" "raise_constraint" 461 104 1 0 0 3 205 true 206 .none (R 207) (R 208) (R 209) 465
noncomputable def o_264 : Obj := fO (st 19) "raise_constraint" "adacore.arrays" 457 210
noncomputable def o_267 : Obj := tup [(vS "low" 471), (vS "high" 472)]
noncomputable def o_269 : Obj := f0 (st 20) "dim_length"
noncomputable def o_270 : Obj := cO "dim_length" "dim_length" 468 106 2 0 0 3 212 true 213 .none (R 214) (R 215) (R 216) 473
noncomputable def o_271 : Obj := fO (st 20) "dim_length" "adacore.arrays" 457 217
noncomputable def o_274 : Obj := f0 (st 21) "check_lengths"
noncomputable def o_275 : Obj := cO "check_lengths" "check_lengths" 476 108 2 0 0 3 219 true 220 .none .none .none (R 221) 479
noncomputable def o_276 : Obj := fO (st 21) "check_lengths" "adacore.arrays" 457 222
noncomputable def o_279 : Obj := f0 (st 22) "slide_array"
noncomputable def o_280 : Obj := cO "slide_array" "slide_array" 482 111 2 0 0 3 224 true 225 .none .none .none (R 226) 485
noncomputable def o_281 : Obj := fO (st 22) "slide_array" "adacore.arrays" 457 227
noncomputable def o_284 : Obj := tup [(vS "bounds" 491), (vS "ranges" 492), (vS "place" 493), (vS "low" 494), (vS "high" 495), (vS "least" 496), (vS "most" 497)]
noncomputable def o_286 : Obj := f0 (st 23) "check_index_ranges"
noncomputable def o_287 : Obj := cO "check_index_ranges" "check_index_ranges" 488 114 2 0 0 3 229 true 230 .none (R 231) (R 232) (R 233) 498
noncomputable def o_288 : Obj := fO (st 23) "check_index_ranges" "adacore.arrays" 457 234
noncomputable def o_289 : Obj := tup [(vS "enum" 503), (vS "int" 504), (vS "mod" 505), (vS "fixed" 506), (vS "universal" 507)]
noncomputable def o_290 (P : Params) : Obj := (Obj.mk (.type "dict") none (.dict (.mk [(de P "__name__" 165 (vS "adacore.types" 501)), (de P "__doc__" 166 .none), (de P "__package__" 167 .none), (de P "__loader__" 168 (.builtin "__main__.__loader__#opaque")), (de P "__spec__" 169 .none), (de P "__annotations__" 170 (R 6)), (de P "__builtins__" 171 (R 4)), (de P "__file__" 173 (vS "/claim/cut.py" 172)), (de P "__cached__" 174 .none), (de P "AdaError" 217 (R 31)), (de P "CheckFault" 243 (R 51)), (de P "AdaRaise" 272 (R 70)), (de P "Unset" 302 (R 89)), (de P "Cell" 334 (R 110)), (de P "ArrayValue" 365 (R 131)), (de P "RecordValue" 396 (R 152)), (de P "need_set" 403 (R 163)), (de P "copy_value" 409 (R 168)), (de P "kept_value" 420 (R 175)), (de P "lengths_of" 426 (R 180)), (de P "slice_items" 436 (R 187)), (de P "fields_with" 444 (R 194)), (de P "read_place" 450 (R 199)), (de P "write_place" 456 (R 204)), (de P "OTHERS" 460 (vS "others" 459)), (de P "raise_constraint" 467 (R 211)), (de P "dim_length" 475 (R 218)), (de P "check_lengths" 481 (R 223)), (de P "slide_array" 487 (R 228)), (de P "check_index_ranges" 500 (R 235)), (de P "SCALAR_KINDS" 508 (R 236)), (de P "Type" 561 (R 253))]) 32) (.mk []))
noncomputable def o_291 : Obj := (Obj.mk .none none (.fields (.mk [(vI 2 0), (vI 0 0), (R 20), (vI 7 0), (vI 0 0), (R 40), (vI 12 0), (vI 0 0), (R 59), (vI 20 0), (vI 0 0), (R 78), (vI 24 0), (vI 0 0), (R 99), (vI 30 0), (vI 0 0), (R 120), (vI 35 0), (vI 0 0), (R 141), (vI 40 0), (vI 0 0), (R 162), (vI 44 0), (vI 0 0), (R 167), (vI 53 0), (vI 0 0), (R 174), (vI 66 0), (vI 0 0), (R 179), (vI 68 0), (vI 0 0), (R 186), (vI 72 0), (vI 0 0), (R 193), (vI 76 0), (vI 0 0), (R 198), (vI 87 0), (vI 0 0), (R 203), (vI 104 0), (vI 0 0), (R 210), (vI 106 0), (vI 0 0), (R 217), (vI 108 0), (vI 0 0), (R 222), (vI 111 0), (vI 0 0), (R 227), (vI 114 0), (vI 0 0), (R 234), (vI 122 0), (vI 0 0), (R 242)])) (.mk []))
noncomputable def o_294 (P : Params) : Obj := (Obj.mk (.type "dict") none (.dict (.mk [(de P "__module__" 516 (vS "adacore.types" 501)), (de P "__qualname__" 518 (vS "Type" 517)), (de P "__firstlineno__" 520 (vI 122 519)), (de P "__init__" 529 (R 250)), (de P "__static_attributes__" 554 (R 251))]) 5) (.mk []))
noncomputable def o_296 : Obj := (Obj.mk .none none (.fields (.mk [(vI 124 0), (vI 4 0), (R 249)])) (.mk []))
noncomputable def o_297 : Obj := cO "Type" "Type" 511 122 0 0 0 0 240 false 241 .none .none .none .none 514
noncomputable def o_298 : Obj := (Obj.mk (.type "frame") none .plain (.mk [(some (R 242)), (some (R 3)), (some (R 239)), none, (some (vS "adacore.types" 501)), none, (some (R 0))]))
noncomputable def o_301 : Obj := tup [(vS "self" 524), (vS "kind" 525), (vS "name" 526)]
noncomputable def o_303 : Obj := f0 (mem 26 0) "Type.__init__"
noncomputable def o_304 : Obj := cO "__init__" "Type.__init__" 521 124 3 0 0 3 244 true 245 .none (R 246) (R 247) (R 248) 527
noncomputable def o_305 : Obj := fO (mem 26 0) "Type.__init__" "adacore.types" 501 249
noncomputable def o_306 : Obj := tup [(vS "component" 530), (vS "components" 531), (vS "designated" 532), (vS "discriminants" 533), (vS "high" 534), (vS "index" 535), (vS "is_abstract" 536), (vS "is_constant" 537), (vS "is_constrained" 538), (vS "is_late" 539), (vS "is_limited" 540), (vS "is_private" 541), (vS "is_tagged" 542), (vS "kind" 543), (vS "literals" 544), (vS "low" 545), (vS "modulus" 546), (vS "name" 547), (vS "number" 548), (vS "operations" 549), (vS "parent" 550), (vS "small" 551), (vS "variant" 552), (vS "wide" 553)]
noncomputable def o_307 (P : Params) : Obj := (Obj.mk (.type "dict") none (.dict (.mk [(de P "__module__" 516 (vS "adacore.types" 501)), (de P "__firstlineno__" 520 (vI 122 519)), (de P "__init__" 529 (R 250)), (de P "__static_attributes__" 554 (R 251)), (de P "__dict__" 556 (R 254)), (de P "__weakref__" 558 (R 255)), (de P "__doc__" 559 .none)]) 4) (.mk []))
noncomputable def o_308 : Obj := (Obj.mk (.type "type") none (.cls (ClassData.mk (ofS "Type") [(.type "object")] [(R 253), (.type "object")] 252 (ofS "Type") true [] [] false none false)) (.mk [none, none, (some (vS "Type" 509)), (some (vS "Type" 517)), (some (.builtin "object.__new__")), (some (.bool true))]))
noncomputable def o_309 : Obj := (Obj.mk (.type "getset_descriptor") none (.fields (.mk [(vS "__dict__" 555), (R 253), (.builtin "function.__dict__"), (.builtin "function.__dict__#set")])) (.mk []))
noncomputable def o_310 : Obj := (Obj.mk (.type "getset_descriptor") none (.fields (.mk [(vS "__weakref__" 557), (R 253), (.builtin "ExceptionGroup.__weakref__"), .none])) (.mk []))
noncomputable def o_311 : Obj := (Obj.mk (.type "super") none (.fields (.mk [(R 253), (R 253), (R 253)])) (.mk []))
noncomputable def o_312 : Obj := (Obj.mk (.type "builtin_function_or_method") none (.fields (.mk [(.builtin "object.__init_subclass__"), (R 253)])) (.mk []))
noncomputable def o_317 (P : Params) : Obj := (Obj.mk (.type "dict") none (.dict (.mk [(de P "__module__" 569 (vS "adacore.types" 501)), (de P "__qualname__" 571 (vS "Subtype" 570)), (de P "__firstlineno__" 573 (vI 149 572)), (de P "__init__" 582 (R 271)), (de P "__static_attributes__" 585 (R 272))]) 5) (.mk []))
noncomputable def o_319 : Obj := (Obj.mk .none none (.fields (.mk [(vI 151 0), (vI 4 0), (R 270)])) (.mk []))
noncomputable def o_320 : Obj := cO "Subtype" "Subtype" 564 149 0 0 0 0 261 false 262 .none .none .none .none 567
noncomputable def o_321 : Obj := (Obj.mk (.type "frame") none .plain (.mk [(some (R 263)), (some (R 3)), (some (R 260)), none, (some (vS "adacore.types" 501)), none, (some (R 0))]))
noncomputable def o_324 : Obj := tup [(vS "self" 577), (vS "t" 578), (vS "constraint" 579)]
noncomputable def o_326 : Obj := f0 (mem 27 0) "Subtype.__init__"
noncomputable def o_327 : Obj := cO "__init__" "Subtype.__init__" 574 151 3 0 0 3 265 true 266 .none (R 267) (R 268) (R 269) 580
noncomputable def o_328 : Obj := fO (mem 27 0) "Subtype.__init__" "adacore.types" 501 270
noncomputable def o_329 : Obj := tup [(vS "constraint" 583), (vS "type" 584)]
noncomputable def o_330 (P : Params) : Obj := (Obj.mk (.type "dict") none (.dict (.mk [(de P "__module__" 569 (vS "adacore.types" 501)), (de P "__firstlineno__" 573 (vI 149 572)), (de P "__init__" 582 (R 271)), (de P "__static_attributes__" 585 (R 272)), (de P "__dict__" 587 (R 275)), (de P "__weakref__" 589 (R 276)), (de P "__doc__" 590 .none)]) 4) (.mk []))
noncomputable def o_331 : Obj := (Obj.mk (.type "type") none (.cls (ClassData.mk (ofS "Subtype") [(.type "object")] [(R 274), (.type "object")] 273 (ofS "Subtype") true [] [] false none false)) (.mk [none, none, (some (vS "Subtype" 562)), (some (vS "Subtype" 570)), (some (.builtin "object.__new__")), (some (.bool true))]))
noncomputable def o_332 : Obj := (Obj.mk (.type "getset_descriptor") none (.fields (.mk [(vS "__dict__" 586), (R 274), (.builtin "function.__dict__"), (.builtin "function.__dict__#set")])) (.mk []))
noncomputable def o_333 : Obj := (Obj.mk (.type "getset_descriptor") none (.fields (.mk [(vS "__weakref__" 588), (R 274), (.builtin "ExceptionGroup.__weakref__"), .none])) (.mk []))
noncomputable def o_334 : Obj := (Obj.mk (.type "super") none (.fields (.mk [(R 274), (R 274), (R 274)])) (.mk []))
noncomputable def o_335 : Obj := (Obj.mk (.type "builtin_function_or_method") none (.fields (.mk [(.builtin "object.__init_subclass__"), (R 274)])) (.mk []))
noncomputable def o_338 : Obj := tup [(vS "width" 596)]
noncomputable def o_340 : Obj := f0 (st 28) "base_bounds"
noncomputable def o_341 : Obj := cO "base_bounds" "base_bounds" 593 154 1 0 0 3 279 true 280 .none (R 281) (R 282) (R 283) 597
noncomputable def o_342 : Obj := fO (st 28) "base_bounds" "adacore.types" 501 284
noncomputable def o_345 : Obj := tup [(vS "name" 603), (vS "low" 604), (vS "high" 605), (vS "made" 606)]
noncomputable def o_347 : Obj := f0 (st 29) "int_type"
noncomputable def o_348 : Obj := cO "int_type" "int_type" 600 156 3 0 0 3 286 true 287 .none (R 288) (R 289) (R 290) 607
noncomputable def o_349 : Obj := fO (st 29) "int_type" "adacore.types" 501 291
noncomputable def o_352 : Obj := tup [(vS "name" 613), (vS "index" 614), (vS "component" 615), (vS "is_constrained" 616), (vS "made" 617)]
noncomputable def o_354 : Obj := f0 (st 30) "array_type"
noncomputable def o_355 : Obj := cO "array_type" "array_type" 610 161 4 0 0 3 293 true 294 .none (R 295) (R 296) (R 297) 618
noncomputable def o_356 : Obj := fO (st 30) "array_type" "adacore.types" 501 298
noncomputable def o_359 : Obj := tup [(vS "name" 624), (vS "discriminants" 625), (vS "components" 626), (vS "variant" 627), (vS "made" 628)]
noncomputable def o_361 : Obj := f0 (st 31) "record_type"
noncomputable def o_362 : Obj := cO "record_type" "record_type" 621 167 4 0 0 3 300 true 301 .none (R 302) (R 303) (R 304) 629
noncomputable def o_363 : Obj := fO (st 31) "record_type" "adacore.types" 501 305
noncomputable def o_366 : Obj := tup [(vS "t" 635), (vS "number" 636)]
noncomputable def o_368 : Obj := f0 (st 32) "numbered"
noncomputable def o_369 : Obj := cO "numbered" "numbered" 632 174 2 0 0 3 307 true 308 .none (R 309) (R 310) (R 311) 637
noncomputable def o_370 : Obj := fO (st 32) "numbered" "adacore.types" 501 312
noncomputable def o_375 : Obj := tup [(vS "a" 643), (vS "b" 644)]
noncomputable def o_377 : Obj := f0 (st 33) "same_type"
noncomputable def o_378 : Obj := cO "same_type" "same_type" 640 177 2 0 0 3 314 true 315 .none (R 316) (R 317) (R 318) 645
noncomputable def o_379 : Obj := fO (st 33) "same_type" "adacore.types" 501 319
noncomputable def o_382 : Obj := tup [(vS "t" 651)]
noncomputable def o_384 : Obj := f0 (st 34) "is_scalar"
noncomputable def o_385 : Obj := cO "is_scalar" "is_scalar" 648 179 1 0 0 3 321 true 322 .none (R 323) (R 324) (R 325) 652
noncomputable def o_386 : Obj := fO (st 34) "is_scalar" "adacore.types" 501 326
noncomputable def o_389 : Obj := tup [(vS "t" 658)]
noncomputable def o_391 : Obj := f0 (st 35) "is_numeric"
noncomputable def o_392 : Obj := cO "is_numeric" "is_numeric" 655 181 1 0 0 3 328 true 329 .none (R 330) (R 331) (R 332) 659
noncomputable def o_393 : Obj := fO (st 35) "is_numeric" "adacore.types" 501 333
noncomputable def o_396 : Obj := tup [(vS "width" 665), (vS "low" 666), (vS "high" 667)]
noncomputable def o_398 : Obj := f0 (st 36) "integer_type"
noncomputable def o_399 : Obj := cO "integer_type" "integer_type" 662 183 1 0 0 3 335 true 336 .none (R 337) (R 338) (R 339) 668
noncomputable def o_400 : Obj := fO (st 36) "integer_type" "adacore.types" 501 340
noncomputable def o_403 : Obj := tup [(vS "subtype" 678), (vS "turns" 679), (vS "behind" 680)]
noncomputable def o_405 : Obj := f0 (st 39) "full_subtype"
noncomputable def o_406 : Obj := cO "full_subtype" "full_subtype" 675 188 1 0 0 3 342 true 343 .none (R 344) (R 345) (R 346) 681
noncomputable def o_407 : Obj := fO (st 39) "full_subtype" "adacore.fulltypes" 671 347
noncomputable def o_410 : Obj := tup [(vS "t" 687)]
noncomputable def o_412 : Obj := f0 (st 40) "full_type"
noncomputable def o_413 : Obj := cO "full_type" "full_type" 684 197 1 0 0 3 349 true 350 .none (R 351) (R 352) (R 353) 688
noncomputable def o_414 : Obj := fO (st 40) "full_type" "adacore.fulltypes" 671 354
noncomputable def o_417 : Obj := tup [(vS "t" 698), (vS "found" 699), (vS "here" 700)]
noncomputable def o_419 : Obj := f0 (st 43) "type_line"
noncomputable def o_420 : Obj := cO "type_line" "type_line" 695 203 1 0 0 3 356 true 357 .none (R 358) (R 359) (R 360) 701
noncomputable def o_421 : Obj := fO (st 43) "type_line" "adacore.records" 691 361
noncomputable def o_424 : Obj := tup [(vS "choices" 707), (vS "value" 708), (vS "low" 709), (vS "high" 710)]
noncomputable def o_426 : Obj := f0 (st 44) "covers_choice"
noncomputable def o_427 : Obj := cO "covers_choice" "covers_choice" 704 212 2 0 0 3 363 true 364 .none (R 365) (R 366) (R 367) 711
noncomputable def o_428 : Obj := fO (st 44) "covers_choice" "adacore.records" 691 368
noncomputable def o_431 : Obj := tup [(vS "variant" 717), (vS "discs" 718), (vS "value" 719), (vS "alternative" 720)]
noncomputable def o_433 : Obj := f0 (st 45) "chosen_alternative"
noncomputable def o_434 : Obj := cO "chosen_alternative" "chosen_alternative" 714 219 2 0 0 3 370 true 371 .none (R 372) (R 373) (R 374) 721
noncomputable def o_435 : Obj := fO (st 45) "chosen_alternative" "adacore.records" 691 375
noncomputable def o_438 : Obj := tup [(vS "variant" 727), (vS "discs" 728), (vS "found" 729), (vS "here" 730), (vS "alternative" 731)]
noncomputable def o_440 : Obj := f0 (st 46) "variant_parts"
noncomputable def o_441 : Obj := cO "variant_parts" "variant_parts" 724 225 2 0 0 3 377 true 378 .none (R 379) (R 380) (R 381) 732
noncomputable def o_442 : Obj := fO (st 46) "variant_parts" "adacore.records" 691 382
noncomputable def o_445 : Obj := tup [(vS "t" 738)]
noncomputable def o_447 : Obj := f0 (st 47) "ahead_of_variant"
noncomputable def o_448 : Obj := cO "ahead_of_variant" "ahead_of_variant" 735 233 1 0 0 3 384 true 385 .none (R 386) (R 387) (R 388) 739
noncomputable def o_449 : Obj := fO (st 47) "ahead_of_variant" "adacore.records" 691 389
noncomputable def o_450 (P : Params) : Obj := (Obj.mk (.type "dict") none (.dict (.mk [(de P "__name__" 165 (vS "adacore.records" 691)), (de P "__doc__" 166 .none), (de P "__package__" 167 .none), (de P "__loader__" 168 (.builtin "__main__.__loader__#opaque")), (de P "__spec__" 169 .none), (de P "__annotations__" 170 (R 6)), (de P "__builtins__" 171 (R 4)), (de P "__file__" 173 (vS "/claim/cut.py" 172)), (de P "__cached__" 174 .none), (de P "AdaError" 217 (R 31)), (de P "CheckFault" 243 (R 51)), (de P "AdaRaise" 272 (R 70)), (de P "Unset" 302 (R 89)), (de P "Cell" 334 (R 110)), (de P "ArrayValue" 365 (R 131)), (de P "RecordValue" 396 (R 152)), (de P "need_set" 403 (R 163)), (de P "copy_value" 409 (R 168)), (de P "kept_value" 420 (R 175)), (de P "lengths_of" 426 (R 180)), (de P "slice_items" 436 (R 187)), (de P "fields_with" 444 (R 194)), (de P "read_place" 450 (R 199)), (de P "write_place" 456 (R 204)), (de P "OTHERS" 460 (vS "others" 459)), (de P "raise_constraint" 467 (R 211)), (de P "dim_length" 475 (R 218)), (de P "check_lengths" 481 (R 223)), (de P "slide_array" 487 (R 228)), (de P "check_index_ranges" 500 (R 235)), (de P "SCALAR_KINDS" 508 (R 236)), (de P "Type" 561 (R 253)), (de P "Subtype" 592 (R 274)), (de P "base_bounds" 599 (R 285)), (de P "int_type" 609 (R 292)), (de P "array_type" 620 (R 299)), (de P "record_type" 631 (R 306)), (de P "numbered" 639 (R 313)), (de P "same_type" 647 (R 320)), (de P "is_scalar" 654 (R 327)), (de P "is_numeric" 661 (R 334)), (de P "integer_type" 670 (R 341)), (de P "MOST_PRIVATE" 674 (vI 41 673)), (de P "full_subtype" 683 (R 348)), (de P "full_type" 690 (R 355)), (de P "MOST_LINE" 694 (vI 40 693)), (de P "type_line" 703 (R 362)), (de P "covers_choice" 713 (R 369)), (de P "chosen_alternative" 723 (R 376)), (de P "variant_parts" 734 (R 383)), (de P "ahead_of_variant" 741 (R 390)), (de P "present_parts" 750 (R 397)), (de P "variant_names" 756 (R 402)), (de P "part_names" 762 (R 407)), (de P "discs_in" 773 (R 414)), (de P "check_field" 781 (R 421)), (de P "field_place" 789 (R 428)), (de P "check_discs" 799 (R 435)), (de P "same_discs" 805 (R 440)), (de P "assign_record" 817 (R 447)), (de P "ancestor_view" 830 (R 454)), (de P "is_in_line" 838 (R 461)), (de P "own_part" 846 (R 468)), (de P "assigned_part" 855 (R 475))]) 64) (.mk []))
noncomputable def o_451 : Obj := (Obj.mk .none none (.fields (.mk [(vI 2 0), (vI 0 0), (R 20), (vI 7 0), (vI 0 0), (R 40), (vI 12 0), (vI 0 0), (R 59), (vI 20 0), (vI 0 0), (R 78), (vI 24 0), (vI 0 0), (R 99), (vI 30 0), (vI 0 0), (R 120), (vI 35 0), (vI 0 0), (R 141), (vI 40 0), (vI 0 0), (R 162), (vI 44 0), (vI 0 0), (R 167), (vI 53 0), (vI 0 0), (R 174), (vI 66 0), (vI 0 0), (R 179), (vI 68 0), (vI 0 0), (R 186), (vI 72 0), (vI 0 0), (R 193), (vI 76 0), (vI 0 0), (R 198), (vI 87 0), (vI 0 0), (R 203), (vI 104 0), (vI 0 0), (R 210), (vI 106 0), (vI 0 0), (R 217), (vI 108 0), (vI 0 0), (R 222), (vI 111 0), (vI 0 0), (R 227), (vI 114 0), (vI 0 0), (R 234), (vI 122 0), (vI 0 0), (R 242), (vI 149 0), (vI 0 0), (R 263), (vI 154 0), (vI 0 0), (R 284), (vI 156 0), (vI 0 0), (R 291), (vI 161 0), (vI 0 0), (R 298), (vI 167 0), (vI 0 0), (R 305), (vI 174 0), (vI 0 0), (R 312), (vI 177 0), (vI 0 0), (R 319), (vI 179 0), (vI 0 0), (R 326), (vI 181 0), (vI 0 0), (R 333), (vI 183 0), (vI 0 0), (R 340), (vI 188 0), (vI 0 0), (R 347), (vI 197 0), (vI 0 0), (R 354), (vI 203 0), (vI 0 0), (R 361), (vI 212 0), (vI 0 0), (R 368), (vI 219 0), (vI 0 0), (R 375), (vI 225 0), (vI 0 0), (R 382), (vI 233 0), (vI 0 0), (R 389), (vI 239 0), (vI 0 0), (R 396), (vI 244 0), (vI 0 0), (R 401), (vI 255 0), (vI 0 0), (R 406), (vI 258 0), (vI 0 0), (R 413), (vI 263 0), (vI 0 0), (R 420), (vI 266 0), (vI 0 0), (R 427), (vI 269 0), (vI 0 0), (R 434), (vI 273 0), (vI 0 0), (R 439), (vI 277 0), (vI 0 0), (R 446), (vI 286 0), (vI 0 0), (R 453), (vI 294 0), (vI 0 0), (R 460), (vI 296 0), (vI 0 0), (R 467), (vI 300 0), (vI 0 0), (R 474)])) (.mk []))
noncomputable def o_454 : Obj := tup [(vS "t" 745), (vS "discs" 746), (vS "first" 747)]
noncomputable def o_456 : Obj := f0 (st 48) "present_parts"
noncomputable def o_457 : Obj := cO "present_parts" "present_parts" 742 239 2 0 0 3 391 true 392 .none (R 393) (R 394) (R 395) 748
noncomputable def o_458 : Obj := fO (st 48) "present_parts" "adacore.records" 691 396
noncomputable def o_461 : Obj := f0 (st 49) "variant_names"
noncomputable def o_462 : Obj := cO "variant_names" "variant_names" 751 244 1 0 0 3 398 true 399 .none .none .none (R 400) 754
noncomputable def o_463 : Obj := fO (st 49) "variant_names" "adacore.records" 691 401
noncomputable def o_466 : Obj := f0 (st 50) "part_names"
noncomputable def o_467 : Obj := cO "part_names" "part_names" 757 255 1 0 0 3 403 true 404 .none .none .none (R 405) 760
noncomputable def o_468 : Obj := fO (st 50) "part_names" "adacore.records" 691 406
noncomputable def o_471 : Obj := tup [(vS "value" 766), (vS "found" 767), (vS "name" 768), (vS "subtype" 769), (vS "default" 770)]
noncomputable def o_473 : Obj := f0 (st 51) "discs_in"
noncomputable def o_474 : Obj := cO "discs_in" "discs_in" 763 258 1 0 0 3 408 true 409 .none (R 410) (R 411) (R 412) 771
noncomputable def o_475 : Obj := fO (st 51) "discs_in" "adacore.records" 691 413
noncomputable def o_478 : Obj := tup [(vS "value" 777), (vS "name" 778)]
noncomputable def o_480 : Obj := f0 (st 52) "check_field"
noncomputable def o_481 : Obj := cO "check_field" "check_field" 774 263 2 0 0 3 415 true 416 .none (R 417) (R 418) (R 419) 779
noncomputable def o_482 : Obj := fO (st 52) "check_field" "adacore.records" 691 420
noncomputable def o_485 : Obj := tup [(vS "value" 785), (vS "name" 786)]
noncomputable def o_487 : Obj := f0 (st 53) "field_place"
noncomputable def o_488 : Obj := cO "field_place" "field_place" 782 266 2 0 0 3 422 true 423 .none (R 424) (R 425) (R 426) 787
noncomputable def o_489 : Obj := fO (st 53) "field_place" "adacore.records" 691 427
noncomputable def o_492 : Obj := tup [(vS "value" 793), (vS "constraint" 794), (vS "name" 795), (vS "due" 796)]
noncomputable def o_494 : Obj := f0 (st 54) "check_discs"
noncomputable def o_495 : Obj := cO "check_discs" "check_discs" 790 269 2 0 0 3 429 true 430 .none (R 431) (R 432) (R 433) 797
noncomputable def o_496 : Obj := fO (st 54) "check_discs" "adacore.records" 691 434
noncomputable def o_499 : Obj := f0 (st 55) "same_discs"
noncomputable def o_500 : Obj := cO "same_discs" "same_discs" 800 273 2 0 0 3 436 true 437 .none .none .none (R 438) 803
noncomputable def o_501 : Obj := fO (st 55) "same_discs" "adacore.records" 691 439
noncomputable def o_504 : Obj := tup [(vS "target" 809), (vS "source" 810), (vS "is_fixed" 811), (vS "fresh" 812), (vS "own" 813), (vS "name" 814)]
noncomputable def o_506 : Obj := f0 (st 56) "assign_record"
noncomputable def o_507 : Obj := cO "assign_record" "assign_record" 806 277 3 0 0 3 441 true 442 .none (R 443) (R 444) (R 445) 815
noncomputable def o_508 : Obj := fO (st 56) "assign_record" "adacore.records" 691 446
noncomputable def o_511 : Obj := tup [(vS "value" 821), (vS "t" 822), (vS "discs" 823), (vS "fields" 824), (vS "name" 825), (vS "subtype" 826), (vS "default" 827)]
noncomputable def o_513 : Obj := f0 (st 57) "ancestor_view"
noncomputable def o_514 : Obj := cO "ancestor_view" "ancestor_view" 818 286 2 0 0 3 448 true 449 .none (R 450) (R 451) (R 452) 828
noncomputable def o_515 : Obj := fO (st 57) "ancestor_view" "adacore.records" 691 453
noncomputable def o_518 : Obj := tup [(vS "t" 834), (vS "ancestor" 835)]
noncomputable def o_520 : Obj := f0 (st 58) "is_in_line"
noncomputable def o_521 : Obj := cO "is_in_line" "is_in_line" 831 294 2 0 0 3 455 true 456 .none (R 457) (R 458) (R 459) 836
noncomputable def o_522 : Obj := fO (st 58) "is_in_line" "adacore.records" 691 460
noncomputable def o_525 : Obj := tup [(vS "t" 842), (vS "value" 843)]
noncomputable def o_527 : Obj := f0 (st 59) "own_part"
noncomputable def o_528 : Obj := cO "own_part" "own_part" 839 296 2 0 0 3 462 true 463 .none (R 464) (R 465) (R 466) 844
noncomputable def o_529 : Obj := fO (st 59) "own_part" "adacore.records" 691 467
noncomputable def o_532 : Obj := tup [(vS "t" 850), (vS "old" 851), (vS "value" 852)]
noncomputable def o_534 : Obj := f0 (st 60) "assigned_part"
noncomputable def o_535 : Obj := cO "assigned_part" "assigned_part" 847 300 3 0 0 3 469 true 470 .none (R 471) (R 472) (R 473) 853
noncomputable def o_536 : Obj := fO (st 60) "assigned_part" "adacore.records" 691 474
noncomputable def o_541 : Obj := tup [(vS "text" 861)]
noncomputable def o_543 : Obj := f0 (st 62) "refuse"
noncomputable def o_544 : Obj := cO "refuse" "refuse" 858 305 1 0 0 3 476 true 477 .none (R 478) (R 479) (R 480) 862
noncomputable def o_545 : Obj := fO (st 62) "refuse" "adacore.scalars" 856 481
noncomputable def o_548 : Obj := tup [(vS "subtype" 868)]
noncomputable def o_550 : Obj := f0 (st 63) "bounds_of"
noncomputable def o_551 : Obj := cO "bounds_of" "bounds_of" 865 307 1 0 0 3 483 true 484 .none (R 485) (R 486) (R 487) 869
noncomputable def o_552 : Obj := fO (st 63) "bounds_of" "adacore.scalars" 856 488
noncomputable def o_555 : Obj := tup [(vS "value" 875), (vS "low" 876), (vS "high" 877)]
noncomputable def o_557 : Obj := f0 (st 64) "in_bounds"
noncomputable def o_558 : Obj := cO "in_bounds" "in_bounds" 872 311 3 0 0 3 490 true 491 .none (R 492) (R 493) (R 494) 878
noncomputable def o_559 : Obj := fO (st 64) "in_bounds" "adacore.scalars" 856 495
noncomputable def o_562 : Obj := tup [(vS "subtype" 884), (vS "value" 885), (vS "low" 886), (vS "high" 887)]
noncomputable def o_564 : Obj := f0 (st 65) "is_member"
noncomputable def o_565 : Obj := cO "is_member" "is_member" 881 313 2 0 0 3 497 true 498 .none (R 499) (R 500) (R 501) 888
noncomputable def o_566 : Obj := fO (st 65) "is_member" "adacore.scalars" 856 502
noncomputable def o_569 : Obj := tup [(vS "subtype" 894), (vS "value" 895)]
noncomputable def o_571 : Obj := f0 (st 66) "check_range"
noncomputable def o_572 : Obj := cO "check_range" "check_range" 891 316 2 0 0 3 504 true 505 .none (R 506) (R 507) (R 508) 896
noncomputable def o_573 : Obj := fO (st 66) "check_range" "adacore.scalars" 856 509
noncomputable def o_576 : Obj := tup [(vS "t" 902), (vS "value" 903)]
noncomputable def o_578 : Obj := f0 (st 67) "check_base"
noncomputable def o_579 : Obj := cO "check_base" "check_base" 899 320 2 0 0 3 511 true 512 .none (R 513) (R 514) (R 515) 904
noncomputable def o_580 : Obj := fO (st 67) "check_base" "adacore.scalars" 856 516
noncomputable def o_583 : Obj := tup [(vS "num" 910), (vS "den" 911), (vS "q" 912)]
noncomputable def o_585 : Obj := f0 (st 68) "rounded_quotient"
noncomputable def o_586 : Obj := cO "rounded_quotient" "rounded_quotient" 907 324 2 0 0 3 518 true 519 .none (R 520) (R 521) (R 522) 913
noncomputable def o_587 : Obj := fO (st 68) "rounded_quotient" "adacore.scalars" 856 523
noncomputable def o_590 : Obj := tup [(vS "num" 919), (vS "den" 920), (vS "q" 921)]
noncomputable def o_592 : Obj := f0 (st 69) "cut_toward_zero"
noncomputable def o_593 : Obj := cO "cut_toward_zero" "cut_toward_zero" 916 329 2 0 0 3 525 true 526 .none (R 527) (R 528) (R 529) 922
noncomputable def o_594 : Obj := fO (st 69) "cut_toward_zero" "adacore.scalars" 856 530
noncomputable def o_597 : Obj := tup [(vS "t" 928)]
noncomputable def o_599 : Obj := f0 (st 70) "small_of"
noncomputable def o_600 : Obj := cO "small_of" "small_of" 925 334 1 0 0 3 532 true 533 .none (R 534) (R 535) (R 536) 929
noncomputable def o_601 : Obj := fO (st 70) "small_of" "adacore.scalars" 856 537
noncomputable def o_604 : Obj := tup [(vS "target" 935), (vS "source" 936), (vS "value" 937), (vS "num" 938), (vS "den" 939)]
noncomputable def o_606 : Obj := f0 (st 71) "converted"
noncomputable def o_607 : Obj := cO "converted" "converted" 932 338 3 0 0 3 539 true 540 .none (R 541) (R 542) (R 543) 940
noncomputable def o_608 : Obj := fO (st 71) "converted" "adacore.scalars" 856 544
noncomputable def o_611 : Obj := tup [(vS "subtype" 946), (vS "source" 947), (vS "value" 948)]
noncomputable def o_613 : Obj := f0 (st 72) "convert_to"
noncomputable def o_614 : Obj := cO "convert_to" "convert_to" 943 344 3 0 0 3 546 true 547 .none (R 548) (R 549) (R 550) 949
noncomputable def o_615 : Obj := fO (st 72) "convert_to" "adacore.scalars" 856 551
noncomputable def o_618 : Obj := tup [(vS "t" 957)]
noncomputable def o_620 : Obj := f0 (st 74) "line_head"
noncomputable def o_621 : Obj := cO "line_head" "line_head" 954 347 1 0 0 3 553 true 554 .none (R 555) (R 556) (R 557) 958
noncomputable def o_622 : Obj := fO (st 74) "line_head" "adacore.nodevalues" 952 558
noncomputable def o_627 : Obj := tup [(vS "value" 964), (vS "t" 965)]
noncomputable def o_629 : Obj := f0 (st 75) "check_line"
noncomputable def o_630 : Obj := cO "check_line" "check_line" 961 349 2 0 0 3 560 true 561 .none (R 562) (R 563) (R 564) 966
noncomputable def o_631 : Obj := fO (st 75) "check_line" "adacore.nodevalues" 952 565
noncomputable def o_634 : Obj := f0 (st 76) "index_ranges"
noncomputable def o_635 : Obj := cO "index_ranges" "index_ranges" 969 352 1 0 0 3 567 true 568 .none .none .none (R 569) 972
noncomputable def o_636 : Obj := fO (st 76) "index_ranges" "adacore.nodevalues" 952 570
noncomputable def o_639 : Obj := tup [(vS "subtype" 978)]
noncomputable def o_641 : Obj := f0 (st 77) "fixed_bounds"
noncomputable def o_642 : Obj := cO "fixed_bounds" "fixed_bounds" 975 354 1 0 0 3 572 true 573 .none (R 574) (R 575) (R 576) 979
noncomputable def o_643 : Obj := fO (st 77) "fixed_bounds" "adacore.nodevalues" 952 577
noncomputable def o_646 : Obj := tup [(vS "subtype" 985), (vS "value" 986), (vS "bounds" 987)]
noncomputable def o_648 : Obj := f0 (st 78) "array_fitted"
noncomputable def o_649 : Obj := cO "array_fitted" "array_fitted" 982 361 2 0 0 3 579 true 580 .none (R 581) (R 582) (R 583) 988
noncomputable def o_650 : Obj := fO (st 78) "array_fitted" "adacore.nodevalues" 952 584
noncomputable def o_653 : Obj := tup [(vS "subtype" 994), (vS "value" 995), (vS "found" 996)]
noncomputable def o_655 : Obj := f0 (st 79) "record_fitted"
noncomputable def o_656 : Obj := cO "record_fitted" "record_fitted" 991 367 2 0 0 3 586 true 587 .none (R 588) (R 589) (R 590) 997
noncomputable def o_657 : Obj := fO (st 79) "record_fitted" "adacore.nodevalues" 952 591
noncomputable def o_660 : Obj := tup [(vS "subtype" 1003), (vS "value" 1004), (vS "t" 1005)]
noncomputable def o_662 : Obj := f0 (st 80) "fit_value"
noncomputable def o_663 : Obj := cO "fit_value" "fit_value" 1000 374 2 0 0 3 593 true 594 .none (R 595) (R 596) (R 597) 1006
noncomputable def o_664 : Obj := fO (st 80) "fit_value" "adacore.nodevalues" 952 598
noncomputable def o_667 : Obj := tup [(vS "subtype" 1012), (vS "value" 1013), (vS "t" 1014), (vS "found" 1015)]
noncomputable def o_669 : Obj := f0 (st 81) "record_converted"
noncomputable def o_670 : Obj := cO "record_converted" "record_converted" 1009 384 2 0 0 3 600 true 601 .none (R 602) (R 603) (R 604) 1016
noncomputable def o_671 : Obj := fO (st 81) "record_converted" "adacore.nodevalues" 952 605
noncomputable def o_674 : Obj := tup [(vS "subtype" 1022), (vS "ratio" 1023), (vS "t" 1024), (vS "found" 1025)]
noncomputable def o_676 : Obj := f0 (st 82) "real_converted"
noncomputable def o_677 : Obj := cO "real_converted" "real_converted" 1019 395 2 0 0 3 607 true 608 .none (R 609) (R 610) (R 611) 1026
noncomputable def o_678 : Obj := fO (st 82) "real_converted" "adacore.nodevalues" 952 612
noncomputable def o_681 : Obj := tup [(vS "t" 1032), (vS "value" 1033), (vS "place" 1034), (vS "low" 1035), (vS "high" 1036)]
noncomputable def o_683 : Obj := f0 (st 83) "check_bases"
noncomputable def o_684 : Obj := cO "check_bases" "check_bases" 1029 402 2 0 0 3 614 true 615 .none (R 616) (R 617) (R 618) 1037
noncomputable def o_685 : Obj := fO (st 83) "check_bases" "adacore.nodevalues" 952 619
noncomputable def o_688 : Obj := tup [(vS "subtype" 1043), (vS "source" 1044), (vS "value" 1045), (vS "t" 1046)]
noncomputable def o_690 : Obj := f0 (st 84) "conv_value"
noncomputable def o_691 : Obj := cO "conv_value" "conv_value" 1040 407 3 0 0 3 621 true 622 .none (R 623) (R 624) (R 625) 1047
noncomputable def o_692 : Obj := fO (st 84) "conv_value" "adacore.nodevalues" 952 626
noncomputable def o_695 : Obj := tup [(vS "place" 1055)]
noncomputable def o_697 : Obj := f0 (st 86) "read_checked"
noncomputable def o_698 : Obj := cO "read_checked" "read_checked" 1052 423 1 0 0 3 628 true 629 .none (R 630) (R 631) (R 632) 1056
noncomputable def o_699 : Obj := fO (st 86) "read_checked" "adacore.runplaces" 1050 633
noncomputable def o_702 : Obj := f0 (st 87) "is_mutable"
noncomputable def o_703 : Obj := cO "is_mutable" "is_mutable" 1059 425 1 0 0 3 635 true 636 .none .none .none (R 637) 1062
noncomputable def o_704 : Obj := fO (st 87) "is_mutable" "adacore.runplaces" 1050 638
noncomputable def o_709 : Obj := tup [(vS "run" 1068), (vS "place" 1069), (vS "subtype" 1070), (vS "value" 1071)]
noncomputable def o_711 : Obj := f0 (st 88) "store_into"
noncomputable def o_712 : Obj := cO "store_into" "store_into" 1065 432 4 0 0 3 640 true 641 .none (R 642) (R 643) (R 644) 1072
noncomputable def o_713 : Obj := fO (st 88) "store_into" "adacore.runplaces" 1050 645
noncomputable def o_716 : Obj := tup [(vS "place" 1078), (vS "subtype" 1079), (vS "value" 1080), (vS "is_row" 1081), (vS "old" 1082)]
noncomputable def o_718 : Obj := f0 (st 89) "store_checked"
noncomputable def o_719 : Obj := cO "store_checked" "store_checked" 1075 436 3 0 0 3 647 true 648 .none (R 649) (R 650) (R 651) 1083
noncomputable def o_720 : Obj := fO (st 89) "store_checked" "adacore.runplaces" 1050 652
noncomputable def o_723 : Obj := tup [(vS "number" 1091), (vS "whole" 1092), (vS "row" 1093), (vS "variant" 1094), (vS "disc" 1095)]
noncomputable def o_725 : Obj := f0 (st 91) "_law_kinds"
noncomputable def o_726 : Obj := cO "_law_kinds" "_law_kinds" 1088 452 0 0 0 3 654 true 655 .none (R 656) (R 657) (R 658) 1096
noncomputable def o_727 : Obj := fO (st 91) "_law_kinds" "law_xw0010_01" 1086 659
noncomputable def o_732 : Obj := f0 (st 92) "_law_parts"
noncomputable def o_733 : Obj := cO "_law_parts" "_law_parts" 1099 459 0 0 0 3 661 true 662 .none (R 663) (R 664) (R 665) 1102
noncomputable def o_734 : Obj := fO (st 92) "_law_parts" "law_xw0010_01" 1086 666
noncomputable def o_737 : Obj := tup [(vS "tape" 1108), (vS "many" 1109)]
noncomputable def o_739 : Obj := f0 (st 93) "_law_next"
noncomputable def o_740 : Obj := cO "_law_next" "_law_next" 1105 461 2 0 0 3 668 true 669 .none (R 670) (R 671) (R 672) 1110
noncomputable def o_741 : Obj := fO (st 93) "_law_next" "law_xw0010_01" 1086 673
noncomputable def o_744 : Obj := tup [(vS "tape" 1116), (vS "name" 1117), (vS "first" 1118)]
noncomputable def o_746 : Obj := f0 (st 94) "_law_drawn"
noncomputable def o_747 : Obj := cO "_law_drawn" "_law_drawn" 1113 466 2 0 0 3 675 true 676 .none (R 677) (R 678) (R 679) 1119
noncomputable def o_748 : Obj := fO (st 94) "_law_drawn" "law_xw0010_01" 1086 680
noncomputable def o_751 : Obj := tup [(vS "tape" 1125), (vS "own" 1126), (vS "kinds" 1127), (vS "name" 1128), (vS "fields" 1129)]
noncomputable def o_753 : Obj := f0 (st 95) "_law_record"
noncomputable def o_754 : Obj := cO "_law_record" "_law_record" 1122 469 3 0 0 3 682 true 683 .none (R 684) (R 685) (R 686) 1130
noncomputable def o_755 : Obj := fO (st 95) "_law_record" "law_xw0010_01" 1086 687
noncomputable def o_758 : Obj := tup [(vS "drawn" 1136)]
noncomputable def o_760 : Obj := f0 (st 96) "_law_value"
noncomputable def o_761 : Obj := cO "_law_value" "_law_value" 1133 478 1 0 0 3 689 true 690 .none (R 691) (R 692) (R 693) 1137
noncomputable def o_762 : Obj := fO (st 96) "_law_value" "law_xw0010_01" 1086 694
noncomputable def o_765 : Obj := tup [(vS "value" 1143)]
noncomputable def o_767 : Obj := f0 (st 97) "_law_told"
noncomputable def o_768 : Obj := cO "_law_told" "_law_told" 1140 480 1 0 0 3 696 true 697 .none (R 698) (R 699) (R 700) 1144
noncomputable def o_769 : Obj := fO (st 97) "_law_told" "law_xw0010_01" 1086 701
noncomputable def o_772 : Obj := tup [(vS "place" 1150), (vS "subtype" 1151), (vS "value" 1152), (vS "fault" 1153)]
noncomputable def o_774 : Obj := f0 (st 98) "_law_stored"
noncomputable def o_775 : Obj := cO "_law_stored" "_law_stored" 1147 482 3 0 0 3 703 true 704 .none (R 705) (R 706) (R 707) 1154
noncomputable def o_776 : Obj := fO (st 98) "_law_stored" "law_xw0010_01" 1086 708
noncomputable def o_779 : Obj := tup [(vS "place" 1160), (vS "fault" 1161)]
noncomputable def o_781 : Obj := f0 (st 99) "_law_read"
noncomputable def o_782 : Obj := cO "_law_read" "_law_read" 1157 488 1 0 0 3 710 true 711 .none (R 712) (R 713) (R 714) 1162
noncomputable def o_783 : Obj := fO (st 99) "_law_read" "law_xw0010_01" 1086 715
noncomputable def o_786 : Obj := tup [(vS "tape" 1168), (vS "cell" 1169), (vS "own" 1170), (vS "names" 1171), (vS "kinds" 1172), (vS "way" 1173), (vS "value" 1174), (vS "row" 1175), (vS "name" 1176), (vS "place" 1177), (vS "drawn" 1178), (vS "found" 1179)]
noncomputable def o_788 : Obj := f0 (st 100) "_law_deed"
noncomputable def o_789 : Obj := cO "_law_deed" "_law_deed" 1165 493 5 0 0 3 717 true 718 .none (R 719) (R 720) (R 721) 1180
noncomputable def o_790 : Obj := fO (st 100) "_law_deed" "law_xw0010_01" 1086 722
noncomputable def o_791 (P : Params) : Obj := (Obj.mk (.type "dict") none (.dict (.mk [(de P "__name__" 165 (vS "law_xw0010_01" 1086)), (de P "__doc__" 166 .none), (de P "__package__" 167 .none), (de P "__loader__" 168 (.builtin "__main__.__loader__#opaque")), (de P "__spec__" 169 .none), (de P "__annotations__" 170 (R 6)), (de P "__builtins__" 171 (R 4)), (de P "__file__" 173 (vS "/claim/cut.py" 172)), (de P "__cached__" 174 .none), (de P "AdaError" 217 (R 31)), (de P "CheckFault" 243 (R 51)), (de P "AdaRaise" 272 (R 70)), (de P "Unset" 302 (R 89)), (de P "Cell" 334 (R 110)), (de P "ArrayValue" 365 (R 131)), (de P "RecordValue" 396 (R 152)), (de P "need_set" 403 (R 163)), (de P "copy_value" 409 (R 168)), (de P "kept_value" 420 (R 175)), (de P "lengths_of" 426 (R 180)), (de P "slice_items" 436 (R 187)), (de P "fields_with" 444 (R 194)), (de P "read_place" 450 (R 199)), (de P "write_place" 456 (R 204)), (de P "OTHERS" 460 (vS "others" 459)), (de P "raise_constraint" 467 (R 211)), (de P "dim_length" 475 (R 218)), (de P "check_lengths" 481 (R 223)), (de P "slide_array" 487 (R 228)), (de P "check_index_ranges" 500 (R 235)), (de P "SCALAR_KINDS" 508 (R 236)), (de P "Type" 561 (R 253)), (de P "Subtype" 592 (R 274)), (de P "base_bounds" 599 (R 285)), (de P "int_type" 609 (R 292)), (de P "array_type" 620 (R 299)), (de P "record_type" 631 (R 306)), (de P "numbered" 639 (R 313)), (de P "same_type" 647 (R 320)), (de P "is_scalar" 654 (R 327)), (de P "is_numeric" 661 (R 334)), (de P "integer_type" 670 (R 341)), (de P "MOST_PRIVATE" 674 (vI 41 673)), (de P "full_subtype" 683 (R 348)), (de P "full_type" 690 (R 355)), (de P "MOST_LINE" 694 (vI 40 693)), (de P "type_line" 703 (R 362)), (de P "covers_choice" 713 (R 369)), (de P "chosen_alternative" 723 (R 376)), (de P "variant_parts" 734 (R 383)), (de P "ahead_of_variant" 741 (R 390)), (de P "present_parts" 750 (R 397)), (de P "variant_names" 756 (R 402)), (de P "part_names" 762 (R 407)), (de P "discs_in" 773 (R 414)), (de P "check_field" 781 (R 421)), (de P "field_place" 789 (R 428)), (de P "check_discs" 799 (R 435)), (de P "same_discs" 805 (R 440)), (de P "assign_record" 817 (R 447)), (de P "ancestor_view" 830 (R 454)), (de P "is_in_line" 838 (R 461)), (de P "own_part" 846 (R 468)), (de P "assigned_part" 855 (R 475)), (de P "refuse" 864 (R 482)), (de P "bounds_of" 871 (R 489)), (de P "in_bounds" 880 (R 496)), (de P "is_member" 890 (R 503)), (de P "check_range" 898 (R 510)), (de P "check_base" 906 (R 517)), (de P "rounded_quotient" 915 (R 524)), (de P "cut_toward_zero" 924 (R 531)), (de P "small_of" 931 (R 538)), (de P "converted" 942 (R 545)), (de P "convert_to" 951 (R 552)), (de P "line_head" 960 (R 559)), (de P "check_line" 968 (R 566)), (de P "index_ranges" 974 (R 571)), (de P "fixed_bounds" 981 (R 578)), (de P "array_fitted" 990 (R 585)), (de P "record_fitted" 999 (R 592)), (de P "fit_value" 1008 (R 599)), (de P "record_converted" 1018 (R 606)), (de P "real_converted" 1028 (R 613)), (de P "check_bases" 1039 (R 620)), (de P "conv_value" 1049 (R 627)), (de P "read_checked" 1058 (R 634)), (de P "is_mutable" 1064 (R 639)), (de P "store_into" 1074 (R 646)), (de P "store_checked" 1085 (R 653)), (de P "_law_kinds" 1098 (R 660)), (de P "_law_parts" 1104 (R 667)), (de P "_law_next" 1112 (R 674)), (de P "_law_drawn" 1121 (R 681)), (de P "_law_record" 1132 (R 688)), (de P "_law_value" 1139 (R 695)), (de P "_law_told" 1146 (R 702)), (de P "_law_stored" 1156 (R 709)), (de P "_law_read" 1164 (R 716)), (de P "_law_deed" 1182 (R 723)), (de P "law" 1188 (R 728))]) 101) (.mk []))
noncomputable def o_792 : Obj := (Obj.mk .none none (.fields (.mk [(vI 2 0), (vI 0 0), (R 20), (vI 7 0), (vI 0 0), (R 40), (vI 12 0), (vI 0 0), (R 59), (vI 20 0), (vI 0 0), (R 78), (vI 24 0), (vI 0 0), (R 99), (vI 30 0), (vI 0 0), (R 120), (vI 35 0), (vI 0 0), (R 141), (vI 40 0), (vI 0 0), (R 162), (vI 44 0), (vI 0 0), (R 167), (vI 53 0), (vI 0 0), (R 174), (vI 66 0), (vI 0 0), (R 179), (vI 68 0), (vI 0 0), (R 186), (vI 72 0), (vI 0 0), (R 193), (vI 76 0), (vI 0 0), (R 198), (vI 87 0), (vI 0 0), (R 203), (vI 104 0), (vI 0 0), (R 210), (vI 106 0), (vI 0 0), (R 217), (vI 108 0), (vI 0 0), (R 222), (vI 111 0), (vI 0 0), (R 227), (vI 114 0), (vI 0 0), (R 234), (vI 122 0), (vI 0 0), (R 242), (vI 149 0), (vI 0 0), (R 263), (vI 154 0), (vI 0 0), (R 284), (vI 156 0), (vI 0 0), (R 291), (vI 161 0), (vI 0 0), (R 298), (vI 167 0), (vI 0 0), (R 305), (vI 174 0), (vI 0 0), (R 312), (vI 177 0), (vI 0 0), (R 319), (vI 179 0), (vI 0 0), (R 326), (vI 181 0), (vI 0 0), (R 333), (vI 183 0), (vI 0 0), (R 340), (vI 188 0), (vI 0 0), (R 347), (vI 197 0), (vI 0 0), (R 354), (vI 203 0), (vI 0 0), (R 361), (vI 212 0), (vI 0 0), (R 368), (vI 219 0), (vI 0 0), (R 375), (vI 225 0), (vI 0 0), (R 382), (vI 233 0), (vI 0 0), (R 389), (vI 239 0), (vI 0 0), (R 396), (vI 244 0), (vI 0 0), (R 401), (vI 255 0), (vI 0 0), (R 406), (vI 258 0), (vI 0 0), (R 413), (vI 263 0), (vI 0 0), (R 420), (vI 266 0), (vI 0 0), (R 427), (vI 269 0), (vI 0 0), (R 434), (vI 273 0), (vI 0 0), (R 439), (vI 277 0), (vI 0 0), (R 446), (vI 286 0), (vI 0 0), (R 453), (vI 294 0), (vI 0 0), (R 460), (vI 296 0), (vI 0 0), (R 467), (vI 300 0), (vI 0 0), (R 474), (vI 305 0), (vI 0 0), (R 481), (vI 307 0), (vI 0 0), (R 488), (vI 311 0), (vI 0 0), (R 495), (vI 313 0), (vI 0 0), (R 502), (vI 316 0), (vI 0 0), (R 509), (vI 320 0), (vI 0 0), (R 516), (vI 324 0), (vI 0 0), (R 523), (vI 329 0), (vI 0 0), (R 530), (vI 334 0), (vI 0 0), (R 537), (vI 338 0), (vI 0 0), (R 544), (vI 344 0), (vI 0 0), (R 551), (vI 347 0), (vI 0 0), (R 558), (vI 349 0), (vI 0 0), (R 565), (vI 352 0), (vI 0 0), (R 570), (vI 354 0), (vI 0 0), (R 577), (vI 361 0), (vI 0 0), (R 584), (vI 367 0), (vI 0 0), (R 591), (vI 374 0), (vI 0 0), (R 598), (vI 384 0), (vI 0 0), (R 605), (vI 395 0), (vI 0 0), (R 612), (vI 402 0), (vI 0 0), (R 619), (vI 407 0), (vI 0 0), (R 626), (vI 423 0), (vI 0 0), (R 633), (vI 425 0), (vI 0 0), (R 638), (vI 432 0), (vI 0 0), (R 645), (vI 436 0), (vI 0 0), (R 652), (vI 452 0), (vI 0 0), (R 659), (vI 459 0), (vI 0 0), (R 666), (vI 461 0), (vI 0 0), (R 673), (vI 466 0), (vI 0 0), (R 680), (vI 469 0), (vI 0 0), (R 687), (vI 478 0), (vI 0 0), (R 694), (vI 480 0), (vI 0 0), (R 701), (vI 482 0), (vI 0 0), (R 708), (vI 488 0), (vI 0 0), (R 715), (vI 493 0), (vI 0 0), (R 722), (vI 512 0), (vI 0 0), (R 727)])) (.mk []))
noncomputable def o_795 : Obj := f0 (st 101) "law"
noncomputable def o_796 : Obj := cO "law" "law" 1183 512 1 0 0 3 724 true 725 .none .none .none (R 726) 1186
noncomputable def o_797 : Obj := fO (st 101) "law" "law_xw0010_01" 1086 727
noncomputable def tree_47 (P : Params) : BT := (node (boot_o_0 P) (node (boot_o_1 P) (node (boot_o_3 P) (node (boot_o_7 P) nil nil) (node o_43 nil nil)) (node (boot_o_5 P) (node (boot_o_9 P) nil nil) (node o_45 nil nil))) (node (boot_o_2 P) (node (boot_o_4 P) (node (boot_o_8 P) nil nil) (node o_44 nil nil)) (node (boot_o_6 P) (node (boot_o_10 P) nil nil) (node o_46 nil nil))))
noncomputable def tree_161 (P : Params) : BT := (node (boot_o_0 P) (node (boot_o_1 P) (node (o_139 P) (node (boot_o_7 P) (node o_52 (node o_96 (node o_106 nil nil) (node o_53 nil nil)) (node o_87 (node o_124 nil nil) (node o_158 nil nil))) (node o_44 (node o_79 (node o_114 nil nil) (node o_150 nil nil)) (node o_53 (node o_132 nil nil) nil))) (node o_43 (node o_56 (node o_75 (node o_110 nil nil) (node o_146 nil nil)) (node o_91 (node o_43 nil nil) nil)) (node o_64 (node o_44 (node (o_120 P) nil nil) (node o_154 nil nil)) (node o_102 (node o_136 nil nil) nil)))) (node (boot_o_5 P) (node (boot_o_9 P) (node (o_54 P) (node o_70 (node o_108 nil nil) (node o_43 nil nil)) (node o_89 (node o_44 nil nil) (node o_160 nil nil))) (node o_43 (node o_81 (node o_43 nil nil) (node o_152 nil nil)) (node o_43 (node o_134 nil nil) nil))) (node o_45 (node o_58 (node (o_77 P) (node (o_112 P) nil nil) (node o_43 nil nil)) (node o_93 (node o_130 nil nil) nil)) (node o_66 (node o_43 (node o_122 nil nil) (node (o_156 P) nil nil)) (node o_43 (node o_138 nil nil) nil))))) (node (o_49 P) (node (boot_o_4 P) (node (boot_o_8 P) (node o_53 (node o_69 (node o_43 nil nil) (node (o_143 P) nil nil)) (node o_88 (node o_43 nil nil) (node o_159 nil nil))) (node o_61 (node o_80 (node o_115 nil nil) (node o_43 nil nil)) (node (o_99 P) (node (o_133 P) nil nil) nil))) (node o_140 (node o_57 (node o_53 (node o_111 nil nil) (node o_147 nil nil)) (node o_92 (node o_129 nil nil) nil)) (node o_65 (node o_84 (node o_43 nil nil) (node o_155 nil nil)) (node o_103 (node o_137 nil nil) nil)))) (node (boot_o_6 P) (node (boot_o_10 P) (node o_43 (node o_71 (node o_109 nil nil) (node o_145 nil nil)) (node (o_90 P) (node o_127 nil nil) (node o_161 nil nil))) (node o_63 (node o_43 (node o_53 nil nil) (node o_153 nil nil)) (node o_101 (node o_135 nil nil) nil))) (node o_46 (node o_43 (node o_43 (node o_113 nil nil) (node o_44 nil nil)) (node o_75 (node o_131 nil nil) nil)) (node (o_67 P) (node o_86 (node o_123 nil nil) (node o_157 nil nil)) (node o_44 (node o_43 nil nil) nil))))))
noncomputable def tree_312 (P : Params) : BT := (node (boot_o_0 P) (node (boot_o_1 P) (node (o_290 P) (node (boot_o_7 P) (node o_52 (node o_96 (node o_106 (node o_176 (node o_310 nil nil) nil) (node o_43 nil nil)) (node o_53 (node o_210 nil nil) (node o_276 nil nil))) (node o_87 (node o_124 (node o_43 nil nil) (node o_260 nil nil)) (node o_158 (node o_226 nil nil) (node (o_294 P) nil nil)))) (node o_44 (node o_79 (node o_114 (node o_184 nil nil) (node o_252 nil nil)) (node o_150 (node o_218 nil nil) (node o_284 nil nil))) (node o_53 (node o_132 (node (o_202 P) nil nil) (node o_43 nil nil)) (node o_168 (node o_234 nil nil) (node o_43 nil nil))))) (node o_43 (node o_56 (node o_75 (node o_110 (node o_180 nil nil) (node o_43 nil nil)) (node o_146 (node o_214 nil nil) (node o_280 nil nil))) (node o_91 (node o_43 (node o_198 nil nil) (node o_264 nil nil)) (node o_43 (node o_230 nil nil) (node o_298 nil nil)))) (node o_64 (node o_44 (node (o_120 P) (node o_43 nil nil) (node o_256 nil nil)) (node o_154 (node o_222 nil nil) (node o_288 nil nil))) (node o_102 (node o_136 (node o_206 nil nil) (node o_43 nil nil)) (node o_44 (node o_238 nil nil) (node o_306 nil nil)))))) (node (boot_o_5 P) (node (boot_o_9 P) (node (o_54 P) (node o_70 (node o_108 (node o_178 (node o_312 nil nil) nil) (node o_244 nil nil)) (node o_43 (node o_212 nil nil) (node o_44 nil nil))) (node o_89 (node o_44 (node o_196 nil nil) (node o_262 nil nil)) (node o_160 (node o_44 nil nil) (node o_296 nil nil)))) (node o_43 (node o_81 (node o_43 (node o_53 nil nil) (node o_44 nil nil)) (node o_152 (node o_43 nil nil) (node o_286 nil nil))) (node o_43 (node o_134 (node o_204 nil nil) (node o_270 nil nil)) (node o_170 (node o_236 nil nil) (node o_304 nil nil))))) (node o_45 (node o_58 (node (o_77 P) (node (o_112 P) (node o_182 nil nil) (node o_250 nil nil)) (node o_43 (node o_44 nil nil) (node o_43 nil nil))) (node o_93 (node o_130 (node o_200 nil nil) (node o_44 nil nil)) (node (o_166 P) (node o_43 nil nil) (node o_44 nil nil)))) (node o_66 (node o_43 (node o_122 (node o_192 nil nil) (node o_43 nil nil)) (node (o_156 P) (node o_224 nil nil) (node o_43 nil nil))) (node o_43 (node o_138 (node o_43 nil nil) (node o_274 nil nil)) (node o_43 (node o_44 nil nil) (node o_308 nil nil))))))) (node (o_49 P) (node (boot_o_4 P) (node (boot_o_8 P) (node o_53 (node o_69 (node o_43 (node o_177 (node o_311 nil nil) nil) (node o_243 nil nil)) (node (o_143 P) (node o_43 nil nil) (node o_43 nil nil))) (node o_88 (node o_43 (node o_44 nil nil) (node o_43 nil nil)) (node o_159 (node o_43 nil nil) (node o_43 nil nil)))) (node o_61 (node o_80 (node o_115 (node o_43 nil nil) (node o_43 nil nil)) (node o_43 (node o_219 nil nil) (node o_43 nil nil))) (node (o_99 P) (node (o_133 P) (node o_203 nil nil) (node o_269 nil nil)) (node o_169 (node o_43 nil nil) (node o_303 nil nil))))) (node o_291 (node o_57 (node o_53 (node o_111 (node o_181 nil nil) (node o_44 nil nil)) (node o_147 (node o_43 nil nil) (node o_281 nil nil))) (node o_92 (node o_129 (node o_199 nil nil) (node o_43 nil nil)) (node o_53 (node o_231 nil nil) (node o_43 nil nil)))) (node o_65 (node o_84 (node o_43 (node o_191 nil nil) (node o_257 nil nil)) (node o_155 (node o_43 nil nil) (node o_289 nil nil))) (node o_103 (node o_137 (node o_207 nil nil) (node o_44 nil nil)) (node o_173 (node o_43 nil nil) (node (o_307 P) nil nil)))))) (node (boot_o_6 P) (node (boot_o_10 P) (node o_43 (node o_71 (node o_109 (node (o_179 P) nil nil) (node o_245 nil nil)) (node o_145 (node o_213 nil nil) (node o_279 nil nil))) (node (o_90 P) (node o_127 (node o_43 nil nil) (node o_263 nil nil)) (node o_161 (node o_229 nil nil) (node o_297 nil nil)))) (node o_63 (node o_43 (node o_53 (node (o_189 P) nil nil) (node o_255 nil nil)) (node o_153 (node o_44 nil nil) (node o_287 nil nil))) (node o_101 (node o_135 (node o_205 nil nil) (node o_271 nil nil)) (node o_43 (node o_237 nil nil) (node o_305 nil nil))))) (node o_46 (node o_43 (node o_43 (node o_113 (node o_183 nil nil) (node o_251 nil nil)) (node o_44 (node o_217 nil nil) (node o_44 nil nil))) (node o_75 (node o_131 (node o_201 nil nil) (node o_267 nil nil)) (node o_43 (node o_44 nil nil) (node o_301 nil nil)))) (node (o_67 P) (node o_86 (node o_123 (node o_193 nil nil) (node o_44 nil nil)) (node o_157 (node o_225 nil nil) (node o_53 nil nil))) (node o_44 (node o_43 (node o_44 nil nil) (node o_275 nil nil)) (node o_175 (node o_241 nil nil) (node o_309 nil nil))))))))
noncomputable def tree_536 (P : Params) : BT := (node (boot_o_0 P) (node (boot_o_1 P) (node (o_450 P) (node (boot_o_7 P) (node o_52 (node o_96 (node o_106 (node o_176 (node o_310 nil nil) (node o_442 nil nil)) (node o_43 (node o_378 nil nil) (node o_508 nil nil))) (node o_53 (node o_210 (node o_44 nil nil) (node o_43 nil nil)) (node o_276 (node o_410 nil nil) nil))) (node o_87 (node o_124 (node o_43 (node o_328 nil nil) (node o_44 nil nil)) (node o_260 (node o_43 nil nil) (node o_44 nil nil))) (node o_158 (node o_226 (node o_43 nil nil) (node o_492 nil nil)) (node (o_294 P) (node o_426 nil nil) nil)))) (node o_44 (node o_79 (node o_114 (node o_184 (node o_320 nil nil) (node o_43 nil nil)) (node o_252 (node o_386 nil nil) (node o_43 nil nil))) (node o_150 (node o_218 (node o_352 nil nil) (node o_44 nil nil)) (node o_284 (node o_43 nil nil) nil))) (node o_53 (node o_132 (node (o_202 P) (node o_43 nil nil) (node o_468 nil nil)) (node o_43 (node o_44 nil nil) (node o_532 nil nil))) (node o_168 (node o_234 (node o_368 nil nil) (node o_500 nil nil)) (node o_43 (node o_434 nil nil) nil))))) (node o_43 (node o_56 (node o_75 (node o_110 (node o_180 (node o_53 nil nil) (node o_43 nil nil)) (node o_43 (node o_382 nil nil) (node o_43 nil nil))) (node o_146 (node o_214 (node o_348 nil nil) (node o_480 nil nil)) (node o_280 (node o_414 nil nil) nil))) (node o_91 (node o_43 (node o_198 (node o_332 nil nil) (node o_43 nil nil)) (node o_264 (node o_398 nil nil) (node o_528 nil nil))) (node o_43 (node o_230 (node o_43 nil nil) (node o_496 nil nil)) (node o_298 (node o_44 nil nil) nil)))) (node o_64 (node o_44 (node (o_120 P) (node o_43 (node o_324 nil nil) (node o_456 nil nil)) (node o_256 (node o_43 nil nil) (node o_520 nil nil))) (node o_154 (node o_222 (node o_356 nil nil) (node o_488 nil nil)) (node o_288 (node o_43 nil nil) nil))) (node o_102 (node o_136 (node o_206 (node o_340 nil nil) (node o_43 nil nil)) (node o_43 (node o_406 nil nil) (node o_536 nil nil))) (node o_44 (node o_238 (node o_44 nil nil) (node o_504 nil nil)) (node o_306 (node o_438 nil nil) nil)))))) (node (boot_o_5 P) (node (boot_o_9 P) (node (o_54 P) (node o_70 (node o_108 (node o_178 (node o_312 nil nil) (node o_44 nil nil)) (node o_244 (node o_43 nil nil) (node o_44 nil nil))) (node o_43 (node o_212 (node o_43 nil nil) (node o_478 nil nil)) (node o_44 (node o_412 nil nil) nil))) (node o_89 (node o_44 (node o_196 (node (o_330 P) nil nil) (node o_462 nil nil)) (node o_262 (node o_396 nil nil) (node o_43 nil nil))) (node o_160 (node o_44 (node o_362 nil nil) (node o_494 nil nil)) (node o_296 (node o_428 nil nil) nil)))) (node o_43 (node o_81 (node o_43 (node o_53 (node o_43 nil nil) (node o_454 nil nil)) (node o_44 (node o_44 nil nil) (node o_518 nil nil))) (node o_152 (node o_43 (node o_354 nil nil) (node o_43 nil nil)) (node o_286 (node o_420 nil nil) nil))) (node o_43 (node o_134 (node o_204 (node o_338 nil nil) (node o_44 nil nil)) (node o_270 (node o_43 nil nil) (node o_534 nil nil))) (node o_170 (node o_236 (node o_370 nil nil) (node o_43 nil nil)) (node o_304 (node o_43 nil nil) nil))))) (node o_45 (node o_58 (node (o_77 P) (node (o_112 P) (node o_182 (node o_43 nil nil) (node o_448 nil nil)) (node o_250 (node o_384 nil nil) (node o_514 nil nil))) (node o_43 (node o_44 (node o_43 nil nil) (node o_482 nil nil)) (node o_43 (node o_44 nil nil) nil))) (node o_93 (node o_130 (node o_200 (node o_334 nil nil) (node o_466 nil nil)) (node o_44 (node o_400 nil nil) (node o_43 nil nil))) (node (o_166 P) (node o_43 (node o_366 nil nil) (node o_44 nil nil)) (node o_44 (node o_43 nil nil) nil)))) (node o_66 (node o_43 (node o_122 (node o_192 (node o_326 nil nil) (node o_458 nil nil)) (node o_43 (node o_392 nil nil) (node o_522 nil nil))) (node (o_156 P) (node o_224 (node o_44 nil nil) (node o_43 nil nil)) (node o_43 (node o_424 nil nil) nil))) (node o_43 (node o_138 (node o_43 (node o_342 nil nil) (node o_474 nil nil)) (node o_274 (node o_43 nil nil) nil)) (node o_43 (node o_44 (node o_43 nil nil) (node o_506 nil nil)) (node o_308 (node o_440 nil nil) nil))))))) (node (o_49 P) (node (boot_o_4 P) (node (boot_o_8 P) (node o_53 (node o_69 (node o_43 (node o_177 (node o_311 nil nil) (node o_43 nil nil)) (node o_243 (node o_379 nil nil) (node o_43 nil nil))) (node (o_143 P) (node o_43 (node o_345 nil nil) (node o_44 nil nil)) (node o_43 (node o_43 nil nil) nil))) (node o_88 (node o_43 (node o_44 (node o_329 nil nil) (node o_461 nil nil)) (node o_43 (node o_44 nil nil) (node o_525 nil nil))) (node o_159 (node o_43 (node o_361 nil nil) (node o_43 nil nil)) (node o_43 (node o_427 nil nil) nil)))) (node o_61 (node o_80 (node o_115 (node o_43 (node o_321 nil nil) (node o_44 nil nil)) (node o_43 (node o_43 nil nil) (node o_44 nil nil))) (node o_43 (node o_219 (node o_43 nil nil) (node o_485 nil nil)) (node o_43 (node o_419 nil nil) nil))) (node (o_99 P) (node (o_133 P) (node o_203 (node o_44 nil nil) (node o_43 nil nil)) (node o_269 (node o_403 nil nil) (node o_43 nil nil))) (node o_169 (node o_43 (node o_369 nil nil) (node o_501 nil nil)) (node o_303 (node o_435 nil nil) nil))))) (node o_451 (node o_57 (node o_53 (node o_111 (node o_181 (node (o_317 P) nil nil) (node o_447 nil nil)) (node o_44 (node o_43 nil nil) (node o_513 nil nil))) (node o_147 (node o_43 (node o_349 nil nil) (node o_481 nil nil)) (node o_281 (node o_43 nil nil) nil))) (node o_92 (node o_129 (node o_199 (node o_333 nil nil) (node o_44 nil nil)) (node o_43 (node o_399 nil nil) (node o_529 nil nil))) (node o_53 (node o_231 (node o_44 nil nil) (node o_43 nil nil)) (node o_43 (node o_431 nil nil) nil)))) (node o_65 (node o_84 (node o_43 (node o_191 (node o_43 nil nil) (node o_457 nil nil)) (node o_257 (node o_391 nil nil) (node o_521 nil nil))) (node o_155 (node o_43 (node o_43 nil nil) (node o_489 nil nil)) (node o_289 (node o_44 nil nil) nil))) (node o_103 (node o_137 (node o_207 (node o_341 nil nil) (node o_473 nil nil)) (node o_44 (node o_407 nil nil) nil)) (node o_173 (node o_43 (node o_375 nil nil) (node o_43 nil nil)) (node (o_307 P) (node o_43 nil nil) nil)))))) (node (boot_o_6 P) (node (boot_o_10 P) (node o_43 (node o_71 (node o_109 (node (o_179 P) (node o_43 nil nil) (node o_445 nil nil)) (node o_245 (node o_44 nil nil) (node o_511 nil nil))) (node o_145 (node o_213 (node o_347 nil nil) (node o_43 nil nil)) (node o_279 (node o_413 nil nil) nil))) (node (o_90 P) (node o_127 (node o_43 (node o_331 nil nil) (node o_463 nil nil)) (node o_263 (node o_43 nil nil) (node o_527 nil nil))) (node o_161 (node o_229 (node o_363 nil nil) (node o_495 nil nil)) (node o_297 (node o_43 nil nil) nil)))) (node o_63 (node o_43 (node o_53 (node (o_189 P) (node o_44 nil nil) (node o_43 nil nil)) (node o_255 (node o_389 nil nil) (node o_43 nil nil))) (node o_153 (node o_44 (node o_355 nil nil) (node o_487 nil nil)) (node o_287 (node o_421 nil nil) nil))) (node o_101 (node o_135 (node o_205 (node o_43 nil nil) (node o_471 nil nil)) (node o_271 (node o_405 nil nil) (node o_535 nil nil))) (node o_43 (node o_237 (node o_43 nil nil) (node o_44 nil nil)) (node o_305 (node o_44 nil nil) nil))))) (node o_46 (node o_43 (node o_43 (node o_113 (node o_183 (node o_319 nil nil) (node o_449 nil nil)) (node o_251 (node o_385 nil nil) (node o_515 nil nil))) (node o_44 (node o_217 (node o_44 nil nil) (node o_43 nil nil)) (node o_44 (node o_417 nil nil) nil))) (node o_75 (node o_131 (node o_201 (node o_335 nil nil) (node o_467 nil nil)) (node o_267 (node o_43 nil nil) (node o_44 nil nil))) (node o_43 (node o_44 (node o_43 nil nil) (node o_499 nil nil)) (node o_301 (node o_433 nil nil) nil)))) (node (o_67 P) (node o_86 (node o_123 (node o_193 (node o_327 nil nil) (node o_43 nil nil)) (node o_44 (node o_393 nil nil) (node o_43 nil nil))) (node o_157 (node o_225 (node o_359 nil nil) (node o_44 nil nil)) (node o_53 (node o_43 nil nil) nil))) (node o_44 (node o_43 (node o_44 (node o_43 nil nil) (node o_475 nil nil)) (node o_275 (node o_44 nil nil) nil)) (node o_175 (node o_241 (node o_377 nil nil) (node o_507 nil nil)) (node o_309 (node o_441 nil nil) nil))))))))
noncomputable def tree_797 (P : Params) : BT := (node (boot_o_0 P) (node (boot_o_1 P) (node (o_791 P) (node (boot_o_7 P) (node o_52 (node o_96 (node o_106 (node o_176 (node o_310 (node o_43 nil nil) nil) (node o_442 (node o_704 nil nil) nil)) (node o_43 (node o_378 (node o_43 nil nil) nil) (node o_508 (node o_43 nil nil) nil))) (node o_53 (node o_210 (node o_44 (node o_606 nil nil) nil) (node o_43 (node o_43 nil nil) nil)) (node o_276 (node o_410 (node o_43 nil nil) nil) (node o_43 nil nil)))) (node o_87 (node o_124 (node o_43 (node o_328 (node o_590 nil nil) nil) (node o_44 (node o_44 nil nil) nil)) (node o_260 (node o_43 (node o_656 nil nil) nil) (node o_44 (node o_786 nil nil) nil))) (node o_158 (node o_226 (node o_43 (node o_622 nil nil) nil) (node o_492 (node o_754 nil nil) nil)) (node (o_294 P) (node o_426 (node o_688 nil nil) nil) (node o_558 nil nil))))) (node o_44 (node o_79 (node o_114 (node o_184 (node o_320 (node o_44 nil nil) nil) (node o_43 (node o_43 nil nil) nil)) (node o_252 (node o_386 (node o_648 nil nil) nil) (node o_43 (node o_44 nil nil) nil))) (node o_150 (node o_218 (node o_352 (node o_614 nil nil) nil) (node o_44 (node o_746 nil nil) nil)) (node o_284 (node o_43 (node o_44 nil nil) nil) (node o_550 nil nil)))) (node o_53 (node o_132 (node (o_202 P) (node o_43 (node o_43 nil nil) nil) (node o_468 (node o_43 nil nil) nil)) (node o_43 (node o_44 (node o_664 nil nil) nil) (node o_532 (node o_796 nil nil) nil))) (node o_168 (node o_234 (node o_368 (node o_43 nil nil) nil) (node o_500 (node o_762 nil nil) nil)) (node o_43 (node o_434 (node o_43 nil nil) nil) (node o_566 nil nil)))))) (node o_43 (node o_56 (node o_75 (node o_110 (node o_180 (node o_53 (node o_578 nil nil) nil) (node o_43 (node o_43 nil nil) nil)) (node o_43 (node o_382 (node o_43 nil nil) nil) (node o_43 (node o_774 nil nil) nil))) (node o_146 (node o_214 (node o_348 (node o_44 nil nil) nil) (node o_480 (node o_43 nil nil) nil)) (node o_280 (node o_414 (node o_676 nil nil) nil) (node o_43 nil nil)))) (node o_91 (node o_43 (node o_198 (node o_332 (node o_594 nil nil) nil) (node o_43 (node o_726 nil nil) nil)) (node o_264 (node o_398 (node o_660 nil nil) nil) (node o_528 (node o_790 nil nil) nil))) (node o_43 (node o_230 (node o_43 (node o_43 nil nil) nil) (node o_496 (node o_758 nil nil) nil)) (node o_298 (node o_44 (node o_692 nil nil) nil) (node o_562 nil nil))))) (node o_64 (node o_44 (node (o_120 P) (node o_43 (node o_324 (node o_586 nil nil) nil) (node o_456 (node o_718 nil nil) nil)) (node o_256 (node o_43 (node o_44 nil nil) nil) (node o_520 (node o_782 nil nil) nil))) (node o_154 (node o_222 (node o_356 (node o_618 nil nil) nil) (node o_488 (node o_44 nil nil) nil)) (node o_288 (node o_43 (node o_684 nil nil) nil) (node o_44 nil nil)))) (node o_102 (node o_136 (node o_206 (node o_340 (node o_43 nil nil) nil) (node o_43 (node o_734 nil nil) nil)) (node o_43 (node o_406 (node o_43 nil nil) nil) (node o_536 nil nil))) (node o_44 (node o_238 (node o_44 (node o_636 nil nil) nil) (node o_504 (node o_43 nil nil) nil)) (node o_306 (node o_438 (node o_43 nil nil) nil) (node o_43 nil nil))))))) (node (boot_o_5 P) (node (boot_o_9 P) (node (o_54 P) (node o_70 (node o_108 (node o_178 (node o_312 (node o_576 nil nil) nil) (node o_44 (node o_44 nil nil) nil)) (node o_244 (node o_43 (node o_642 nil nil) nil) (node o_44 (node o_772 nil nil) nil))) (node o_43 (node o_212 (node o_43 (node o_608 nil nil) nil) (node o_478 (node o_740 nil nil) nil)) (node o_44 (node o_412 (node o_674 nil nil) nil) (node o_544 nil nil)))) (node o_89 (node o_44 (node o_196 (node (o_330 P) (node o_592 nil nil) nil) (node o_462 (node o_43 nil nil) nil)) (node o_262 (node o_396 (node o_43 nil nil) nil) (node o_43 (node o_788 nil nil) nil))) (node o_160 (node o_44 (node o_362 (node o_44 nil nil) nil) (node o_494 (node o_43 nil nil) nil)) (node o_296 (node o_428 (node o_690 nil nil) nil) (node o_43 nil nil))))) (node o_43 (node o_81 (node o_43 (node o_53 (node o_43 (node o_43 nil nil) nil) (node o_454 (node o_716 nil nil) nil)) (node o_44 (node o_44 (node o_650 nil nil) nil) (node o_518 (node o_43 nil nil) nil))) (node o_152 (node o_43 (node o_354 (node o_43 nil nil) nil) (node o_43 (node o_748 nil nil) nil)) (node o_286 (node o_420 (node o_43 nil nil) nil) (node o_552 nil nil)))) (node o_43 (node o_134 (node o_204 (node o_338 (node o_600 nil nil) nil) (node o_44 (node o_732 nil nil) nil)) (node o_270 (node o_43 (node o_44 nil nil) nil) (node o_534 nil nil))) (node o_170 (node o_236 (node o_370 (node o_634 nil nil) nil) (node o_43 (node o_44 nil nil) nil)) (node o_304 (node o_43 (node o_698 nil nil) nil) (node o_44 nil nil)))))) (node o_45 (node o_58 (node (o_77 P) (node (o_112 P) (node o_182 (node o_43 (node o_580 nil nil) nil) (node o_448 (node o_712 nil nil) nil)) (node o_250 (node o_384 (node o_646 nil nil) nil) (node o_514 (node o_776 nil nil) nil))) (node o_43 (node o_44 (node o_43 (node o_43 nil nil) nil) (node o_482 (node o_744 nil nil) nil)) (node o_43 (node o_44 (node o_678 nil nil) nil) (node o_548 nil nil)))) (node o_93 (node o_130 (node o_200 (node o_334 (node o_44 nil nil) nil) (node o_466 (node o_43 nil nil) nil)) (node o_44 (node o_400 (node o_662 nil nil) nil) (node o_43 (node o_44 nil nil) nil))) (node (o_166 P) (node o_43 (node o_366 (node o_630 nil nil) nil) (node o_44 (node o_760 nil nil) nil)) (node o_44 (node o_43 (node o_44 nil nil) nil) (node o_564 nil nil))))) (node o_66 (node o_43 (node o_122 (node o_192 (node o_326 (node o_43 nil nil) nil) (node o_458 (node o_720 nil nil) nil)) (node o_43 (node o_392 (node o_43 nil nil) nil) (node o_522 (node o_43 nil nil) nil))) (node (o_156 P) (node o_224 (node o_44 (node o_620 nil nil) nil) (node o_43 (node o_43 nil nil) nil)) (node o_43 (node o_424 (node o_43 nil nil) nil) (node o_43 nil nil)))) (node o_43 (node o_138 (node o_43 (node o_342 (node o_604 nil nil) nil) (node o_474 (node o_44 nil nil) nil)) (node o_274 (node o_43 (node o_670 nil nil) nil) (node o_44 nil nil))) (node o_43 (node o_44 (node o_43 (node o_44 nil nil) nil) (node o_506 (node o_768 nil nil) nil)) (node o_308 (node o_440 (node o_702 nil nil) nil) (node o_572 nil nil)))))))) (node (o_49 P) (node (boot_o_4 P) (node (boot_o_8 P) (node o_53 (node o_69 (node o_43 (node o_177 (node o_311 (node o_44 nil nil) nil) (node o_43 (node o_43 nil nil) nil)) (node o_243 (node o_379 (node o_641 nil nil) nil) (node o_43 (node o_44 nil nil) nil))) (node (o_143 P) (node o_43 (node o_345 (node o_607 nil nil) nil) (node o_44 (node o_739 nil nil) nil)) (node o_43 (node o_43 (node o_44 nil nil) nil) (node o_543 nil nil)))) (node o_88 (node o_43 (node o_44 (node o_329 (node o_43 nil nil) nil) (node o_461 (node o_723 nil nil) nil)) (node o_43 (node o_44 (node o_657 nil nil) nil) (node o_525 (node o_43 nil nil) nil))) (node o_159 (node o_43 (node o_361 (node o_43 nil nil) nil) (node o_43 (node o_755 nil nil) nil)) (node o_43 (node o_427 (node o_43 nil nil) nil) (node o_559 nil nil))))) (node o_61 (node o_80 (node o_115 (node o_43 (node o_321 (node o_583 nil nil) nil) (node o_44 (node o_44 nil nil) nil)) (node o_43 (node o_43 (node o_649 nil nil) nil) (node o_44 (node o_779 nil nil) nil))) (node o_43 (node o_219 (node o_43 (node o_615 nil nil) nil) (node o_485 (node o_747 nil nil) nil)) (node o_43 (node o_419 (node o_681 nil nil) nil) (node o_551 nil nil)))) (node (o_99 P) (node (o_133 P) (node o_203 (node o_44 (node o_599 nil nil) nil) (node o_43 (node o_43 nil nil) nil)) (node o_269 (node o_403 (node o_43 nil nil) nil) (node o_43 (node o_797 nil nil) nil))) (node o_169 (node o_43 (node o_369 (node o_44 nil nil) nil) (node o_501 (node o_43 nil nil) nil)) (node o_303 (node o_435 (node o_697 nil nil) nil) (node o_43 nil nil)))))) (node o_792 (node o_57 (node o_53 (node o_111 (node o_181 (node (o_317 P) (node o_579 nil nil) nil) (node o_447 (node o_711 nil nil) nil)) (node o_44 (node o_43 (node o_44 nil nil) nil) (node o_513 (node o_775 nil nil) nil))) (node o_147 (node o_43 (node o_349 (node o_611 nil nil) nil) (node o_481 (node o_44 nil nil) nil)) (node o_281 (node o_43 (node o_677 nil nil) nil) (node o_44 nil nil)))) (node o_92 (node o_129 (node o_199 (node o_333 (node o_43 nil nil) nil) (node o_44 (node o_727 nil nil) nil)) (node o_43 (node o_399 (node o_43 nil nil) nil) (node o_529 (node o_43 nil nil) nil))) (node o_53 (node o_231 (node o_44 (node o_629 nil nil) nil) (node o_43 (node o_43 nil nil) nil)) (node o_43 (node o_431 (node o_43 nil nil) nil) (node o_43 nil nil))))) (node o_65 (node o_84 (node o_43 (node o_191 (node o_43 (node o_587 nil nil) nil) (node o_457 (node o_719 nil nil) nil)) (node o_257 (node o_391 (node o_653 nil nil) nil) (node o_521 (node o_783 nil nil) nil))) (node o_155 (node o_43 (node o_43 (node o_43 nil nil) nil) (node o_489 (node o_751 nil nil) nil)) (node o_289 (node o_44 (node o_685 nil nil) nil) (node o_555 nil nil)))) (node o_103 (node o_137 (node o_207 (node o_341 (node o_44 nil nil) nil) (node o_473 (node o_43 nil nil) nil)) (node o_44 (node o_407 (node o_669 nil nil) nil) (node o_43 nil nil))) (node o_173 (node o_43 (node o_375 (node o_43 nil nil) nil) (node o_43 (node o_767 nil nil) nil)) (node (o_307 P) (node o_43 (node o_44 nil nil) nil) (node o_571 nil nil))))))) (node (boot_o_6 P) (node (boot_o_10 P) (node o_43 (node o_71 (node o_109 (node (o_179 P) (node o_43 (node o_43 nil nil) nil) (node o_445 (node o_709 nil nil) nil)) (node o_245 (node o_44 (node o_643 nil nil) nil) (node o_511 (node o_43 nil nil) nil))) (node o_145 (node o_213 (node o_347 (node o_43 nil nil) nil) (node o_43 (node o_741 nil nil) nil)) (node o_279 (node o_413 (node o_43 nil nil) nil) (node o_545 nil nil)))) (node (o_90 P) (node o_127 (node o_43 (node o_331 (node o_593 nil nil) nil) (node o_463 (node o_725 nil nil) nil)) (node o_263 (node o_43 (node o_44 nil nil) nil) (node o_527 (node o_789 nil nil) nil))) (node o_161 (node o_229 (node o_363 (node o_627 nil nil) nil) (node o_495 (node o_44 nil nil) nil)) (node o_297 (node o_43 (node o_691 nil nil) nil) (node o_44 nil nil))))) (node o_63 (node o_43 (node o_53 (node (o_189 P) (node o_44 (node o_585 nil nil) nil) (node o_43 (node o_43 nil nil) nil)) (node o_255 (node o_389 (node o_43 nil nil) nil) (node o_43 (node o_781 nil nil) nil))) (node o_153 (node o_44 (node o_355 (node o_44 nil nil) nil) (node o_487 (node o_43 nil nil) nil)) (node o_287 (node o_421 (node o_683 nil nil) nil) (node o_43 nil nil)))) (node o_101 (node o_135 (node o_205 (node o_43 (node o_601 nil nil) nil) (node o_471 (node o_733 nil nil) nil)) (node o_271 (node o_405 (node o_667 nil nil) nil) (node o_535 nil nil))) (node o_43 (node o_237 (node o_43 (node o_635 nil nil) nil) (node o_44 (node o_765 nil nil) nil)) (node o_305 (node o_44 (node o_699 nil nil) nil) (node o_569 nil nil)))))) (node o_46 (node o_43 (node o_43 (node o_113 (node o_183 (node o_319 (node o_43 nil nil) nil) (node o_449 (node o_713 nil nil) nil)) (node o_251 (node o_385 (node o_43 nil nil) nil) (node o_515 (node o_43 nil nil) nil))) (node o_44 (node o_217 (node o_44 (node o_613 nil nil) nil) (node o_43 (node o_43 nil nil) nil)) (node o_44 (node o_417 (node o_43 nil nil) nil) (node o_43 nil nil)))) (node o_75 (node o_131 (node o_201 (node o_335 (node o_597 nil nil) nil) (node o_467 (node o_44 nil nil) nil)) (node o_267 (node o_43 (node o_663 nil nil) nil) (node o_44 (node o_795 nil nil) nil))) (node o_43 (node o_44 (node o_43 (node o_631 nil nil) nil) (node o_499 (node o_761 nil nil) nil)) (node o_301 (node o_433 (node o_695 nil nil) nil) (node o_565 nil nil))))) (node (o_67 P) (node o_86 (node o_123 (node o_193 (node o_327 (node o_44 nil nil) nil) (node o_43 (node o_43 nil nil) nil)) (node o_44 (node o_393 (node o_655 nil nil) nil) (node o_43 (node o_44 nil nil) nil))) (node o_157 (node o_225 (node o_359 (node o_621 nil nil) nil) (node o_44 (node o_753 nil nil) nil)) (node o_53 (node o_43 (node o_44 nil nil) nil) (node o_557 nil nil)))) (node o_44 (node o_43 (node o_44 (node o_43 (node o_43 nil nil) nil) (node o_475 (node o_737 nil nil) nil)) (node o_275 (node o_44 (node o_671 nil nil) nil) (node o_541 nil nil))) (node o_175 (node o_241 (node o_377 (node o_639 nil nil) nil) (node o_507 (node o_769 nil nil) nil)) (node o_309 (node o_441 (node o_703 nil nil) nil) (node o_573 nil nil)))))))))
noncomputable def heap_798 (P : Params) : Heap := ⟨.mk [boot_o_0 P, boot_o_1 P, o_49 P, o_791 P, boot_o_4 P, boot_o_5 P, boot_o_6 P, boot_o_7 P, boot_o_8 P, boot_o_9 P, boot_o_10 P, o_43, o_792, o_45, o_46, o_52, o_53, o_54 P, o_43, o_56, o_57, o_58, o_43, o_44, o_61, o_43, o_63, o_64, o_65, o_66, o_67 P, o_96, o_69, o_70, o_71, o_75, o_53, o_77 P, o_43, o_79, o_80, o_81, o_43, o_44, o_84, o_43, o_86, o_87, o_88, o_89, o_90 P, o_91, o_92, o_93, o_75, o_53, o_99 P, o_43, o_101, o_102, o_103, o_43, o_44, o_106, o_43, o_108, o_109, o_110, o_111, o_112 P, o_113, o_114, o_115, o_43, o_53, o_120 P, o_43, o_122, o_123, o_124, o_43, o_44, o_127, o_43, o_129, o_130, o_131, o_132, o_133 P, o_134, o_135, o_136, o_137, o_138, o_43, o_53, o_143 P, o_43, o_145, o_146, o_147, o_43, o_44, o_150, o_43, o_152, o_153, o_154, o_155, o_156 P, o_157, o_158, o_159, o_160, o_161, o_43, o_53, o_166 P, o_43, o_168, o_169, o_170, o_43, o_44, o_173, o_43, o_175, o_176, o_177, o_178, o_179 P, o_180, o_181, o_182, o_183, o_184, o_43, o_53, o_189 P, o_43, o_191, o_192, o_193, o_43, o_44, o_196, o_43, o_198, o_199, o_200, o_201, o_202 P, o_203, o_204, o_205, o_206, o_207, o_43, o_44, o_210, o_43, o_212, o_213, o_214, o_43, o_44, o_217, o_218, o_219, o_43, o_44, o_222, o_43, o_224, o_225, o_226, o_43, o_44, o_229, o_230, o_231, o_43, o_44, o_234, o_43, o_236, o_237, o_238, o_43, o_44, o_241, o_43, o_243, o_244, o_245, o_43, o_44, o_250, o_251, o_252, o_43, o_44, o_255, o_256, o_257, o_43, o_44, o_260, o_43, o_262, o_263, o_264, o_43, o_44, o_267, o_43, o_269, o_270, o_271, o_43, o_44, o_274, o_275, o_276, o_43, o_44, o_279, o_280, o_281, o_43, o_44, o_284, o_43, o_286, o_287, o_288, o_289, o_43, o_53, o_294 P, o_43, o_296, o_297, o_298, o_43, o_44, o_301, o_43, o_303, o_304, o_305, o_306, o_307 P, o_308, o_309, o_310, o_311, o_312, o_43, o_53, o_317 P, o_43, o_319, o_320, o_321, o_43, o_44, o_324, o_43, o_326, o_327, o_328, o_329, o_330 P, o_331, o_332, o_333, o_334, o_335, o_43, o_44, o_338, o_43, o_340, o_341, o_342, o_43, o_44, o_345, o_43, o_347, o_348, o_349, o_43, o_44, o_352, o_43, o_354, o_355, o_356, o_43, o_44, o_359, o_43, o_361, o_362, o_363, o_43, o_44, o_366, o_43, o_368, o_369, o_370, o_43, o_44, o_375, o_43, o_377, o_378, o_379, o_43, o_44, o_382, o_43, o_384, o_385, o_386, o_43, o_44, o_389, o_43, o_391, o_392, o_393, o_43, o_44, o_396, o_43, o_398, o_399, o_400, o_43, o_44, o_403, o_43, o_405, o_406, o_407, o_43, o_44, o_410, o_43, o_412, o_413, o_414, o_43, o_44, o_417, o_43, o_419, o_420, o_421, o_43, o_44, o_424, o_43, o_426, o_427, o_428, o_43, o_44, o_431, o_43, o_433, o_434, o_435, o_43, o_44, o_438, o_43, o_440, o_441, o_442, o_43, o_44, o_445, o_43, o_447, o_448, o_449, o_43, o_44, o_454, o_43, o_456, o_457, o_458, o_43, o_44, o_461, o_462, o_463, o_43, o_44, o_466, o_467, o_468, o_43, o_44, o_471, o_43, o_473, o_474, o_475, o_43, o_44, o_478, o_43, o_480, o_481, o_482, o_43, o_44, o_485, o_43, o_487, o_488, o_489, o_43, o_44, o_492, o_43, o_494, o_495, o_496, o_43, o_44, o_499, o_500, o_501, o_43, o_44, o_504, o_43, o_506, o_507, o_508, o_43, o_44, o_511, o_43, o_513, o_514, o_515, o_43, o_44, o_518, o_43, o_520, o_521, o_522, o_43, o_44, o_525, o_43, o_527, o_528, o_529, o_43, o_44, o_532, o_43, o_534, o_535, o_536, o_43, o_44, o_541, o_43, o_543, o_544, o_545, o_43, o_44, o_548, o_43, o_550, o_551, o_552, o_43, o_44, o_555, o_43, o_557, o_558, o_559, o_43, o_44, o_562, o_43, o_564, o_565, o_566, o_43, o_44, o_569, o_43, o_571, o_572, o_573, o_43, o_44, o_576, o_43, o_578, o_579, o_580, o_43, o_44, o_583, o_43, o_585, o_586, o_587, o_43, o_44, o_590, o_43, o_592, o_593, o_594, o_43, o_44, o_597, o_43, o_599, o_600, o_601, o_43, o_44, o_604, o_43, o_606, o_607, o_608, o_43, o_44, o_611, o_43, o_613, o_614, o_615, o_43, o_44, o_618, o_43, o_620, o_621, o_622, o_43, o_44, o_627, o_43, o_629, o_630, o_631, o_43, o_44, o_634, o_635, o_636, o_43, o_44, o_639, o_43, o_641, o_642, o_643, o_43, o_44, o_646, o_43, o_648, o_649, o_650, o_43, o_44, o_653, o_43, o_655, o_656, o_657, o_43, o_44, o_660, o_43, o_662, o_663, o_664, o_43, o_44, o_667, o_43, o_669, o_670, o_671, o_43, o_44, o_674, o_43, o_676, o_677, o_678, o_43, o_44, o_681, o_43, o_683, o_684, o_685, o_43, o_44, o_688, o_43, o_690, o_691, o_692, o_43, o_44, o_695, o_43, o_697, o_698, o_699, o_43, o_44, o_702, o_703, o_704, o_43, o_44, o_709, o_43, o_711, o_712, o_713, o_43, o_44, o_716, o_43, o_718, o_719, o_720, o_43, o_44, o_723, o_43, o_725, o_726, o_727, o_43, o_44, o_43, o_43, o_732, o_733, o_734, o_43, o_44, o_737, o_43, o_739, o_740, o_741, o_43, o_44, o_744, o_43, o_746, o_747, o_748, o_43, o_44, o_751, o_43, o_753, o_754, o_755, o_43, o_44, o_758, o_43, o_760, o_761, o_762, o_43, o_44, o_765, o_43, o_767, o_768, o_769, o_43, o_44, o_772, o_43, o_774, o_775, o_776, o_43, o_44, o_779, o_43, o_781, o_782, o_783, o_43, o_44, o_786, o_43, o_788, o_789, o_790, o_43, o_44, o_795, o_796, o_797], {}⟩
noncomputable def heap_39 (P : Params) : Frag := (0, boot_o_0 P) :: (1, boot_o_1 P) :: (2, o_49 P) :: (3, o_791 P) :: (4, boot_o_4 P) :: (5, boot_o_5 P) :: (6, boot_o_6 P) :: (7, boot_o_7 P) :: (8, boot_o_8 P) :: (9, boot_o_9 P) :: (10, boot_o_10 P) :: (11, o_43) :: (12, o_792) :: (13, o_45) :: (14, o_46) :: (15, o_52) :: (22, o_43) :: (23, o_44) :: (24, o_61) :: (25, o_43) :: (26, o_63) :: (27, o_64) :: (28, o_65) :: (29, o_66) :: (30, o_67 P) :: (31, o_96) :: (32, o_69) :: (35, o_75) :: (42, o_43) :: (43, o_44) :: (44, o_84) :: (45, o_43) :: (46, o_86) :: (47, o_87) :: (48, o_88) :: (49, o_89) :: (50, o_90 P) :: (51, o_91) :: (54, o_75) :: (61, o_43) :: (62, o_44) :: (63, o_106) :: (64, o_43) :: (65, o_108) :: (66, o_109) :: (67, o_110) :: (68, o_111) :: (69, o_112 P) :: (70, o_113) :: (80, o_43) :: (81, o_44) :: (82, o_127) :: (83, o_43) :: (84, o_129) :: (85, o_130) :: (86, o_131) :: (87, o_132) :: (88, o_133 P) :: (89, o_134) :: (90, o_135) :: (91, o_136) :: (101, o_43) :: (102, o_44) :: (103, o_150) :: (104, o_43) :: (105, o_152) :: (106, o_153) :: (107, o_154) :: (108, o_155) :: (109, o_156 P) :: (110, o_157) :: (111, o_158) :: (112, o_159) :: (122, o_43) :: (123, o_44) :: (124, o_173) :: (125, o_43) :: (126, o_175) :: (127, o_176) :: (128, o_177) :: (129, o_178) :: (130, o_179 P) :: (131, o_180) :: (132, o_181) :: (133, o_182) :: (143, o_43) :: (144, o_44) :: (145, o_196) :: (146, o_43) :: (147, o_198) :: (148, o_199) :: (149, o_200) :: (150, o_201) :: (151, o_202 P) :: (152, o_203) :: (153, o_204) :: (154, o_205) :: (157, o_43) :: (158, o_44) :: (159, o_210) :: (160, o_43) :: (161, o_212) :: (162, o_213) :: (163, o_214) :: (164, o_43) :: (165, o_44) :: (166, o_217) :: (167, o_218) :: (168, o_219) :: (169, o_43) :: (170, o_44) :: (171, o_222) :: (172, o_43) :: (173, o_224) :: (174, o_225) :: (175, o_226) :: (176, o_43) :: (177, o_44) :: (178, o_229) :: (179, o_230) :: (180, o_231) :: (181, o_43) :: (182, o_44) :: (183, o_234) :: (184, o_43) :: (185, o_236) :: (186, o_237) :: (187, o_238) :: (188, o_43) :: (189, o_44) :: (190, o_241) :: (191, o_43) :: (192, o_243) :: (193, o_244) :: (194, o_245) :: (195, o_43) :: (196, o_44) :: (197, o_250) :: (198, o_251) :: (199, o_252) :: (200, o_43) :: (201, o_44) :: (202, o_255) :: (203, o_256) :: (204, o_257) :: (205, o_43) :: (206, o_44) :: (207, o_260) :: (208, o_43) :: (209, o_262) :: (210, o_263) :: (211, o_264) :: (212, o_43) :: (213, o_44) :: (214, o_267) :: (215, o_43) :: (216, o_269) :: (217, o_270) :: (218, o_271) :: (219, o_43) :: (220, o_44) :: (221, o_274) :: (222, o_275) :: (223, o_276) :: (224, o_43) :: (225, o_44) :: (226, o_279) :: (227, o_280) :: (228, o_281) :: (229, o_43) :: (230, o_44) :: (231, o_284) :: (232, o_43) :: (233, o_286) :: (234, o_287) :: (235, o_288) :: (236, o_289) :: (244, o_43) :: (245, o_44) :: (246, o_301) :: (247, o_43) :: (248, o_303) :: (249, o_304) :: (250, o_305) :: (251, o_306) :: (252, o_307 P) :: (253, o_308) :: (254, o_309) :: (255, o_310) :: (265, o_43) :: (266, o_44) :: (267, o_324) :: (268, o_43) :: (269, o_326) :: (270, o_327) :: (271, o_328) :: (272, o_329) :: (273, o_330 P) :: (274, o_331) :: (275, o_332) :: (276, o_333) :: (279, o_43) :: (280, o_44) :: (281, o_338) :: (282, o_43) :: (283, o_340) :: (284, o_341) :: (285, o_342) :: (286, o_43) :: (287, o_44) :: (288, o_345) :: (289, o_43) :: (290, o_347) :: (291, o_348) :: (292, o_349) :: (293, o_43) :: (294, o_44) :: (295, o_352) :: (296, o_43) :: (297, o_354) :: (298, o_355) :: (299, o_356) :: (300, o_43) :: (301, o_44) :: (302, o_359) :: (303, o_43) :: (304, o_361) :: (305, o_362) :: (306, o_363) :: (307, o_43) :: (308, o_44) :: (309, o_366) :: (310, o_43) :: (311, o_368) :: (312, o_369) :: (313, o_370) :: (314, o_43) :: (315, o_44) :: (316, o_375) :: (317, o_43) :: (318, o_377) :: (319, o_378) :: (320, o_379) :: (321, o_43) :: (322, o_44) :: (323, o_382) :: (324, o_43) :: (325, o_384) :: (326, o_385) :: (327, o_386) :: (328, o_43) :: (329, o_44) :: (330, o_389) :: (331, o_43) :: (332, o_391) :: (333, o_392) :: (334, o_393) :: (335, o_43) :: (336, o_44) :: (337, o_396) :: (338, o_43) :: (339, o_398) :: (340, o_399) :: (341, o_400) :: (342, o_43) :: (343, o_44) :: (344, o_403) :: (345, o_43) :: (346, o_405) :: (347, o_406) :: (348, o_407) :: (349, o_43) :: (350, o_44) :: (351, o_410) :: (352, o_43) :: (353, o_412) :: (354, o_413) :: (355, o_414) :: (356, o_43) :: (357, o_44) :: (358, o_417) :: (359, o_43) :: (360, o_419) :: (361, o_420) :: (362, o_421) :: (363, o_43) :: (364, o_44) :: (365, o_424) :: (366, o_43) :: (367, o_426) :: (368, o_427) :: (369, o_428) :: (370, o_43) :: (371, o_44) :: (372, o_431) :: (373, o_43) :: (374, o_433) :: (375, o_434) :: (376, o_435) :: (377, o_43) :: (378, o_44) :: (379, o_438) :: (380, o_43) :: (381, o_440) :: (382, o_441) :: (383, o_442) :: (384, o_43) :: (385, o_44) :: (386, o_445) :: (387, o_43) :: (388, o_447) :: (389, o_448) :: (390, o_449) :: (391, o_43) :: (392, o_44) :: (393, o_454) :: (394, o_43) :: (395, o_456) :: (396, o_457) :: (397, o_458) :: (398, o_43) :: (399, o_44) :: (400, o_461) :: (401, o_462) :: (402, o_463) :: (403, o_43) :: (404, o_44) :: (405, o_466) :: (406, o_467) :: (407, o_468) :: (408, o_43) :: (409, o_44) :: (410, o_471) :: (411, o_43) :: (412, o_473) :: (413, o_474) :: (414, o_475) :: (415, o_43) :: (416, o_44) :: (417, o_478) :: (418, o_43) :: (419, o_480) :: (420, o_481) :: (421, o_482) :: (422, o_43) :: (423, o_44) :: (424, o_485) :: (425, o_43) :: (426, o_487) :: (427, o_488) :: (428, o_489) :: (429, o_43) :: (430, o_44) :: (431, o_492) :: (432, o_43) :: (433, o_494) :: (434, o_495) :: (435, o_496) :: (436, o_43) :: (437, o_44) :: (438, o_499) :: (439, o_500) :: (440, o_501) :: (441, o_43) :: (442, o_44) :: (443, o_504) :: (444, o_43) :: (445, o_506) :: (446, o_507) :: (447, o_508) :: (448, o_43) :: (449, o_44) :: (450, o_511) :: (451, o_43) :: (452, o_513) :: (453, o_514) :: (454, o_515) :: (455, o_43) :: (456, o_44) :: (457, o_518) :: (458, o_43) :: (459, o_520) :: (460, o_521) :: (461, o_522) :: (462, o_43) :: (463, o_44) :: (464, o_525) :: (465, o_43) :: (466, o_527) :: (467, o_528) :: (468, o_529) :: (469, o_43) :: (470, o_44) :: (471, o_532) :: (472, o_43) :: (473, o_534) :: (474, o_535) :: (475, o_536) :: (476, o_43) :: (477, o_44) :: (478, o_541) :: (479, o_43) :: (480, o_543) :: (481, o_544) :: (482, o_545) :: (483, o_43) :: (484, o_44) :: (485, o_548) :: (486, o_43) :: (487, o_550) :: (488, o_551) :: (489, o_552) :: (490, o_43) :: (491, o_44) :: (492, o_555) :: (493, o_43) :: (494, o_557) :: (495, o_558) :: (496, o_559) :: (497, o_43) :: (498, o_44) :: (499, o_562) :: (500, o_43) :: (501, o_564) :: (502, o_565) :: (503, o_566) :: (504, o_43) :: (505, o_44) :: (506, o_569) :: (507, o_43) :: (508, o_571) :: (509, o_572) :: (510, o_573) :: (511, o_43) :: (512, o_44) :: (513, o_576) :: (514, o_43) :: (515, o_578) :: (516, o_579) :: (517, o_580) :: (518, o_43) :: (519, o_44) :: (520, o_583) :: (521, o_43) :: (522, o_585) :: (523, o_586) :: (524, o_587) :: (525, o_43) :: (526, o_44) :: (527, o_590) :: (528, o_43) :: (529, o_592) :: (530, o_593) :: (531, o_594) :: (532, o_43) :: (533, o_44) :: (534, o_597) :: (535, o_43) :: (536, o_599) :: (537, o_600) :: (538, o_601) :: (539, o_43) :: (540, o_44) :: (541, o_604) :: (542, o_43) :: (543, o_606) :: (544, o_607) :: (545, o_608) :: (546, o_43) :: (547, o_44) :: (548, o_611) :: (549, o_43) :: (550, o_613) :: (551, o_614) :: (552, o_615) :: (553, o_43) :: (554, o_44) :: (555, o_618) :: (556, o_43) :: (557, o_620) :: (558, o_621) :: (559, o_622) :: (560, o_43) :: (561, o_44) :: (562, o_627) :: (563, o_43) :: (564, o_629) :: (565, o_630) :: (566, o_631) :: (567, o_43) :: (568, o_44) :: (569, o_634) :: (570, o_635) :: (571, o_636) :: (572, o_43) :: (573, o_44) :: (574, o_639) :: (575, o_43) :: (576, o_641) :: (577, o_642) :: (578, o_643) :: (579, o_43) :: (580, o_44) :: (581, o_646) :: (582, o_43) :: (583, o_648) :: (584, o_649) :: (585, o_650) :: (586, o_43) :: (587, o_44) :: (588, o_653) :: (589, o_43) :: (590, o_655) :: (591, o_656) :: (592, o_657) :: (593, o_43) :: (594, o_44) :: (595, o_660) :: (596, o_43) :: (597, o_662) :: (598, o_663) :: (599, o_664) :: (600, o_43) :: (601, o_44) :: (602, o_667) :: (603, o_43) :: (604, o_669) :: (605, o_670) :: (606, o_671) :: (607, o_43) :: (608, o_44) :: (609, o_674) :: (610, o_43) :: (611, o_676) :: (612, o_677) :: (613, o_678) :: (614, o_43) :: (615, o_44) :: (616, o_681) :: (617, o_43) :: (618, o_683) :: (619, o_684) :: (620, o_685) :: (621, o_43) :: (622, o_44) :: (623, o_688) :: (624, o_43) :: (625, o_690) :: (626, o_691) :: (627, o_692) :: (628, o_43) :: (629, o_44) :: (630, o_695) :: (631, o_43) :: (632, o_697) :: (633, o_698) :: (634, o_699) :: (635, o_43) :: (636, o_44) :: (637, o_702) :: (638, o_703) :: (639, o_704) :: (640, o_43) :: (641, o_44) :: (642, o_709) :: (643, o_43) :: (644, o_711) :: (645, o_712) :: (646, o_713) :: (647, o_43) :: (648, o_44) :: (649, o_716) :: (650, o_43) :: (651, o_718) :: (652, o_719) :: (653, o_720) :: (654, o_43) :: (655, o_44) :: (656, o_723) :: (657, o_43) :: (658, o_725) :: (659, o_726) :: (660, o_727) :: (661, o_43) :: (662, o_44) :: (663, o_43) :: (664, o_43) :: (665, o_732) :: (666, o_733) :: (667, o_734) :: (668, o_43) :: (669, o_44) :: (670, o_737) :: (671, o_43) :: (672, o_739) :: (673, o_740) :: (674, o_741) :: (675, o_43) :: (676, o_44) :: (677, o_744) :: (678, o_43) :: (679, o_746) :: (680, o_747) :: (681, o_748) :: (682, o_43) :: (683, o_44) :: (684, o_751) :: (685, o_43) :: (686, o_753) :: (687, o_754) :: (688, o_755) :: (689, o_43) :: (690, o_44) :: (691, o_758) :: (692, o_43) :: (693, o_760) :: (694, o_761) :: (695, o_762) :: (696, o_43) :: (697, o_44) :: (698, o_765) :: (699, o_43) :: (700, o_767) :: (701, o_768) :: (702, o_769) :: (703, o_43) :: (704, o_44) :: (705, o_772) :: (706, o_43) :: (707, o_774) :: (708, o_775) :: (709, o_776) :: (710, o_43) :: (711, o_44) :: (712, o_779) :: (713, o_43) :: (714, o_781) :: (715, o_782) :: (716, o_783) :: (717, o_43) :: (718, o_44) :: (719, o_786) :: (720, o_43) :: (721, o_788) :: (722, o_789) :: (723, o_790) :: (724, o_43) :: (725, o_44) :: (726, o_795) :: (727, o_796) :: (728, o_797) :: []
noncomputable def adr_39 : List Addr := [0, 1, 2, 3, 4, 5, 6, 7, 8, 9, 10, 11, 12, 13, 14, 15, 22, 23, 24, 25, 26, 27, 28, 29, 30, 31, 32, 35, 42, 43, 44, 45, 46, 47, 48, 49, 50, 51, 54, 61, 62, 63, 64, 65, 66, 67, 68, 69, 70, 80, 81, 82, 83, 84, 85, 86, 87, 88, 89, 90, 91, 101, 102, 103, 104, 105, 106, 107, 108, 109, 110, 111, 112, 122, 123, 124, 125, 126, 127, 128, 129, 130, 131, 132, 133, 143, 144, 145, 146, 147, 148, 149, 150, 151, 152, 153, 154, 157, 158, 159, 160, 161, 162, 163, 164, 165, 166, 167, 168, 169, 170, 171, 172, 173, 174, 175, 176, 177, 178, 179, 180, 181, 182, 183, 184, 185, 186, 187, 188, 189, 190, 191, 192, 193, 194, 195, 196, 197, 198, 199, 200, 201, 202, 203, 204, 205, 206, 207, 208, 209, 210, 211, 212, 213, 214, 215, 216, 217, 218, 219, 220, 221, 222, 223, 224, 225, 226, 227, 228, 229, 230, 231, 232, 233, 234, 235, 236, 244, 245, 246, 247, 248, 249, 250, 251, 252, 253, 254, 255, 265, 266, 267, 268, 269, 270, 271, 272, 273, 274, 275, 276, 279, 280, 281, 282, 283, 284, 285, 286, 287, 288, 289, 290, 291, 292, 293, 294, 295, 296, 297, 298, 299, 300, 301, 302, 303, 304, 305, 306, 307, 308, 309, 310, 311, 312, 313, 314, 315, 316, 317, 318, 319, 320, 321, 322, 323, 324, 325, 326, 327, 328, 329, 330, 331, 332, 333, 334, 335, 336, 337, 338, 339, 340, 341, 342, 343, 344, 345, 346, 347, 348, 349, 350, 351, 352, 353, 354, 355, 356, 357, 358, 359, 360, 361, 362, 363, 364, 365, 366, 367, 368, 369, 370, 371, 372, 373, 374, 375, 376, 377, 378, 379, 380, 381, 382, 383, 384, 385, 386, 387, 388, 389, 390, 391, 392, 393, 394, 395, 396, 397, 398, 399, 400, 401, 402, 403, 404, 405, 406, 407, 408, 409, 410, 411, 412, 413, 414, 415, 416, 417, 418, 419, 420, 421, 422, 423, 424, 425, 426, 427, 428, 429, 430, 431, 432, 433, 434, 435, 436, 437, 438, 439, 440, 441, 442, 443, 444, 445, 446, 447, 448, 449, 450, 451, 452, 453, 454, 455, 456, 457, 458, 459, 460, 461, 462, 463, 464, 465, 466, 467, 468, 469, 470, 471, 472, 473, 474, 475, 476, 477, 478, 479, 480, 481, 482, 483, 484, 485, 486, 487, 488, 489, 490, 491, 492, 493, 494, 495, 496, 497, 498, 499, 500, 501, 502, 503, 504, 505, 506, 507, 508, 509, 510, 511, 512, 513, 514, 515, 516, 517, 518, 519, 520, 521, 522, 523, 524, 525, 526, 527, 528, 529, 530, 531, 532, 533, 534, 535, 536, 537, 538, 539, 540, 541, 542, 543, 544, 545, 546, 547, 548, 549, 550, 551, 552, 553, 554, 555, 556, 557, 558, 559, 560, 561, 562, 563, 564, 565, 566, 567, 568, 569, 570, 571, 572, 573, 574, 575, 576, 577, 578, 579, 580, 581, 582, 583, 584, 585, 586, 587, 588, 589, 590, 591, 592, 593, 594, 595, 596, 597, 598, 599, 600, 601, 602, 603, 604, 605, 606, 607, 608, 609, 610, 611, 612, 613, 614, 615, 616, 617, 618, 619, 620, 621, 622, 623, 624, 625, 626, 627, 628, 629, 630, 631, 632, 633, 634, 635, 636, 637, 638, 639, 640, 641, 642, 643, 644, 645, 646, 647, 648, 649, 650, 651, 652, 653, 654, 655, 656, 657, 658, 659, 660, 661, 662, 663, 664, 665, 666, 667, 668, 669, 670, 671, 672, 673, 674, 675, 676, 677, 678, 679, 680, 681, 682, 683, 684, 685, 686, 687, 688, 689, 690, 691, 692, 693, 694, 695, 696, 697, 698, 699, 700, 701, 702, 703, 704, 705, 706, 707, 708, 709, 710, 711, 712, 713, 714, 715, 716, 717, 718, 719, 720, 721, 722, 723, 724, 725, 726, 727, 728]
noncomputable def env : Env := { scope := pE.main.scope, locals := mainNs, globals := mainNs, cells := [], code := .ref 13, frame := some 14 }
noncomputable abbrev bE : List Stmt := behindTheImports pE
noncomputable def cE : Code := .body bE env
noncomputable def sl (a n : Nat) : List Stmt := (bE.drop a).take n
noncomputable def S (t : BT) (n k : Nat) (os : OsState) : SharedT := ⟨t, n, {}, .mk [], {}, k, os⟩
noncomputable abbrev aE : Option Value := some (.ref 6)
noncomputable def q1 : Pos := ⟨24, 0, 29, 27⟩
noncomputable def q2 : Pos := ⟨122, 0, 148, 28⟩
noncomputable def q3 : Pos := ⟨300, 0, 303, 29⟩
noncomputable def q4 : Pos := ⟨512, 0, 533, 66⟩
end
theorem segT {w : World} {n : Nat} {s : SharedT} {t : Thread} {r : Option (Flow × SharedT × Code × Pos)} (h : Fast.tw10110043849684766642 Fast.tw14364793385576792824 pE w 11 aE 1 n s t = r) : segRunT treeTable pE w 11 aE 1 n s t = r := by
 rw [Fast.te10110043849684766642, Fast.te14364793385576792824]; exact h
theorem topT {w : World} {n : Nat} {s : Shared} {t : Thread} {r : Option Shared} (h : Fast.tw14082659384304107361 Fast.tw14364793385576792824 pE w 11 aE n s t = r) : topRun treeTable pE w 11 aE n s t = r := by
 rw [Fast.te14082659384304107361, Fast.te14364793385576792824]; exact h
theorem goT {w : World} {n : Nat} {s : Shared} {t : Thread} {r : Option (Shared × Thread)} (h : Fast.tw15667345088766844465 Fast.tw14364793385576792824 pE w 11 aE n s t = r) : topGo treeTable pE w 11 aE n s t = r := by
 rw [Fast.te15667345088766844465, Fast.te14364793385576792824]; exact h
theorem runT {w : World} {n : Nat} {s : Shared} {t : Thread} {r : Option (Flow × Shared × Code × Pos)} (h : Fast.tw14374325043358763698 Fast.tw14364793385576792824 pE w 11 aE 1 n s t = r) : segRun treeTable pE w 11 aE 1 n s t = r := by
 rw [Fast.te14374325043358763698, Fast.te14364793385576792824]; exact h
theorem p1 (w : World) (os : OsState) : segRunT treeTable pE w 11 aE 1 1188 (S (tree_47 w.params) 15 187 os) (piecesOf (sl 0 7) env cE zp [topFrame zp]) = some (.next, S (tree_161 w.params) 115 335 os, cE, q1) := segT (by kernel_rfl)
theorem p2 (w : World) (os : OsState) : segRunT treeTable pE w 11 aE 1 1111 (S (tree_161 w.params) 115 335 os) (piecesOf (sl 7 20) env cE q1 [topFrame zp]) = some (.next, S (tree_312 w.params) 258 562 os, cE, q2) := segT (by kernel_rfl)
theorem p3 (w : World) (os : OsState) : segRunT treeTable pE w 11 aE 1 1148 (S (tree_312 w.params) 258 562 os) (piecesOf (sl 27 34) env cE q2 [topFrame zp]) = some (.next, S (tree_536 w.params) 476 856 os, cE, q3) := segT (by kernel_rfl)
theorem p4 (w : World) (os : OsState) : segRunT treeTable pE w 11 aE 1 1170 (S (tree_536 w.params) 476 856 os) (piecesOf (sl 61 41) env cE q3 [topFrame zp]) = some (.next, S (tree_797 w.params) 729 1189 os, cE, q4) := segT (by kernel_rfl)
theorem fin (w : World) (os : OsState) : topRun treeTable pE w 11 aE 2 (S (tree_797 w.params) 729 1189 os).abs (restOf [] env cE q4 [topFrame zp]) = some ⟨heap_798 w.params, .mk [], {}, 1189, os⟩ := topT (by kernel_rfl)
theorem pre (w : World) (os : OsState) : topGo treeTable pE w 11 aE 12 ⟨boot_heap w.params, .mk [], boot_drawn, boot_toks, os⟩ (topStub pE) = some ((S (tree_47 w.params) 15 187 os).abs, ⟨denote treeTable cE, cE, zp, [topFrame zp]⟩) :=
 goT (by rw [show denote treeTable = Fast.tw11892475500146522536 Fast.tw14364793385576792824 by rw [Fast.te11892475500146522536, Fast.te14364793385576792824]]; kernel_rfl)
theorem block (w : World) (os : OsState) : segRun treeTable pE w 11 aE 1 1 (S (tree_47 w.params) 15 187 os).abs (blockOf bE env cE zp [topFrame zp]) = some (.next, (S (tree_47 w.params) 15 187 os).abs, cE, zp) := runT (by kernel_rfl)
theorem body_eq : bE = sl 0 7 ++ (sl 7 20 ++ (sl 27 34 ++ (sl 61 41 ++ []))) := by kernel_rfl
theorem rest_eq (c : Code) (p : Pos) (B : List Frame) : restOf bE env c p B = restOf (sl 0 7 ++ (sl 7 20 ++ (sl 27 34 ++ (sl 61 41 ++ [])))) env c p B := congrArg (fun l => restOf l env c p B) body_eq
theorem run (w : World) (os : OsState) : topRun treeTable pE w 11 aE (12 + (1 + (1188 + (1111 + (1148 + (1170 + 2)))))) ⟨boot_heap w.params, .mk [], boot_drawn, boot_toks, os⟩ (topStub pE) = some ⟨heap_798 w.params, .mk [], {}, 1189, os⟩ :=
 go_top (pre w os) (piece_block (block w os) ((congrArg (topRun treeTable pE w 11 aE _ _) (rest_eq _ _ _)).trans
  (piece_app (segRun_of (p1 w os)) (piece_app (segRun_of (p2 w os)) (piece_app (segRun_of (p3 w os)) (piece_app (segRun_of (p4 w os)) (fin w os)))))))
noncomputable def view_39 : Program := view pE [101]
noncomputable def loose : List Str := (["AdaError", "CheckFault", "AdaRaise", "Unset", "Cell", "ArrayValue", "RecordValue", "need_set", "copy_value", "kept_value", "lengths_of", "slice_items", "fields_with", "read_place", "write_place", "OTHERS", "raise_constraint", "dim_length", "check_lengths", "slide_array", "check_index_ranges", "SCALAR_KINDS", "Type", "Subtype", "base_bounds", "int_type", "array_type", "record_type", "numbered", "same_type", "is_scalar", "is_numeric", "integer_type", "MOST_PRIVATE", "full_subtype", "full_type", "MOST_LINE", "type_line", "covers_choice", "chosen_alternative", "variant_parts", "ahead_of_variant", "present_parts", "variant_names", "part_names", "discs_in", "check_field", "field_place", "check_discs", "same_discs", "assign_record", "ancestor_view", "is_in_line", "own_part", "assigned_part", "refuse", "bounds_of", "in_bounds", "is_member", "check_range", "check_base", "rounded_quotient", "cut_toward_zero", "small_of", "converted", "convert_to", "line_head", "check_line", "index_ranges", "fixed_bounds", "array_fitted", "record_fitted", "fit_value", "record_converted", "real_converted", "check_bases", "conv_value", "read_checked", "is_mutable", "store_into", "store_checked", "_law_kinds", "_law_parts", "_law_next", "_law_drawn", "_law_record", "_law_value", "_law_told", "_law_stored", "_law_read", "_law_deed"] : List String).map Str.ofString
theorem adr_ok : ∀ P, adr_39 = (heap_39 P).map (·.1) := fun _ => by kernel_rfl
noncomputable def H : Hook := kHook heap_39 adr_39 adr_ok
noncomputable abbrev Xt (s : Shared) : Bool := xlAt view_39 [] s && recOk (RowW.records PySem.Challenge.rw_xw0010_01.row.toRowW) s
noncomputable abbrev sh (w : World) (os : OsState) : Shared := ⟨heap_798 w.params, .mk [], {}, 1189, os⟩
noncomputable abbrev mo : List Str := importedModules pE.main.body
theorem size (w : World) : ((boot_heap w.params).isNs mainGlobals && (Array.mk [] : Array GenState).size == 0, (boot_heap w.params).objs.size, (boot_heap w.params).nsMap mainGlobals "__annotations__") = (true, 11, aE) := by kernel_rfl
theorem lk1 (w : World) (os : OsState) : (staticsOk mo (boot_heap w.params) (heap_798 w.params) && namesBound pE (heap_798 w.params) && gensDone (sh w os) && laidKept (boot_heap w.params) (heap_798 w.params)) = true := by kernel_rfl
theorem lk2 (w : World) (os : OsState) : seen ((recsOf view_39).map (·.name)) (ownsOf view_39) [] { (sh w os) with gens := #[] } = expectedOf view_39 := by kernel_rfl
theorem lk3 (w : World) (os : OsState) : (sh w os).heap.bltView = bltViewBooted := by kernel_rfl
theorem lk4 (w : World) (os : OsState) : ((sh w os).heap.keysOk (looseW view_39 loose) ((recsOf view_39).map (·.name)) ((litsOf view_39).map (·.1)) ((clssOf view_39 (looseW view_39 loose)).map (·.name)) && (sh w os).heap.accountedOkI mo && (sh w os).heap.isNs mainGlobals && (sh w os).heap.isNs builtinsNs && tablesOk view_39 (sh w os).heap && Xt (sh w os) && (if true then (sh w os).gens.size == 0 else !leftWithCleanup (sh w os).gens)) = true := by kernel_rfl
theorem lk5 (w : World) (os : OsState) : tabsOk view_39 (sh w os) = true := by kernel_rfl
theorem lk6 (w : World) (os : OsState) : pinSeenD view_39 (drecsOf view_39) (sh w os) = pinGoodD (drecsOf view_39) := by kernel_rfl
theorem lk7 (w : World) (os : OsState) : plainSeenE view_39 (looseW view_39 loose) (sh w os) = plainGoodE view_39 (looseW view_39 loose) := by kernel_rfl
theorem lk8 (w : World) (os : OsState) : plainSeenD view_39 loose (sh w os) = plainGoodD view_39 loose := by kernel_rfl
theorem lk9 (w : World) (os : OsState) : wideSeen view_39 (sh w os) = wideGood view_39 := by kernel_rfl
theorem lk10 (w : World) (os : OsState) : clsSeenW view_39 loose (sh w os) = clsGoodW view_39 loose := by kernel_rfl
noncomputable def live : Obj → Option Obj
 | ⟨_, _, .freed, _⟩ => none
 | o => some o
noncomputable def pick : List Obj → Nat → List Addr → List (Option Obj)
 | [], _, _ => []
 | _ :: _, _, [] => []
 | o :: l, i, a :: r => bif Nat.beq a i then live o :: pick l (i + 1) r else pick l (i + 1) (a :: r)
theorem pick_ok (h : Heap) : ∀ (l : List Obj) (i : Nat), h.objs.toList.drop i = l → ∀ r : List Addr, (pick l i r).length = r.length → pick l i r = r.map h.get?
 | [], _, _, r, n => by
  cases r with
  | nil => rfl
  | cons a r => cases n
 | o :: l, i, e, [], n => rfl
 | o :: l, i, e, a :: r, n => by
  have e' : h.objs.toList.drop (i + 1) = l := by rw [← List.drop_drop, e]; rfl
  unfold pick at n ⊢
  cases q : Nat.beq a i with
  | true =>
   rw [q] at n
   have := pick_ok h l (i + 1) e' r (Nat.succ.inj n)
   have ai := Nat.eq_of_beq_eq_true q
   subst ai
   show live o :: pick l (a + 1) r = h.get? a :: r.map h.get?
   rw [this]
   have g : h.objs[a]? = some o := by
    rw [← Array.getElem?_toList, ← List.head?_drop, e]; rfl
   have : h.get? a = live o := by
    unfold Heap.get?; rw [g]
    rcases o with ⟨_, _, d, _⟩
    cases d <;> rfl
   rw [this]
  | false =>
   rw [q] at n
   exact pick_ok h l (i + 1) e' (a :: r) n
theorem lk11 (w : World) (os : OsState) : H.obs (sh w os) = H.val w := by
 have e : pick (heap_798 w.params).objs.toList 0 adr_39 = H.val w := by kernel_rfl
 refine (pick_ok (heap_798 w.params) (heap_798 w.params).objs.toList 0 rfl adr_39 ?_).symm.trans e
 rw [e, adr_ok w.params]
 show ((heap_39 w.params).map _).length = _
 rw [List.length_map, List.length_map]
theorem looks (w : World) : (fun os => ((staticsOk mo (boot_heap w.params) (heap_798 w.params) && namesBound pE (heap_798 w.params) && gensDone (sh w os) && laidKept (boot_heap w.params) (heap_798 w.params)), openSeen view_39 loose mo Xt true (sh w os), H.obs (sh w os))) = fun _ => (true, openGood view_39 loose, H.val w) := funext fun os =>
 looks_pair (lk1 w os) (looks_pair (looks_pair (lk2 w os) (looks_pair (lk3 w os) (looks_pair (lk4 w os) (looks_pair (lk5 w os) (looks_pair (lk6 w os) (looks_pair (lk7 w os) (looks_pair (lk8 w os) (looks_pair (lk9 w os) (lk10 w os))))))))) (lk11 w os))
theorem open_eq : opening pE = plainProg pE.main.scope.names := by kernel_rfl
theorem left : LeftO pE view_39 loose Xt H.obs H.val 9352 :=
 LeftO.of_pieces (boot_open open_eq (by decide) (fun _ => rfl)) size run (by decide) looks
noncomputable abbrev lw := PySem.Challenge.rw_xw0010_01
theorem s3 : namesResolve pE = true := by kernel_rfl
theorem s5 : noRoadLSs { strict := !(importedModules pE.main.body).all cThrough.contains, foot := none, bare := (["vars", "dir", "locals"] : List Str).filter (readsOut pE pE.main.body) } pE.main.body = true := by kernel_rfl
theorem s6 : (namesMeet pE pE.main.body fun _ n => attrL n) = true := by kernel_rfl
theorem s8 : noRoadLSs { strict := true, foot := some lw.bound', writes := lw.writes, may := lw.may } lw.footing = true := by kernel_rfl
theorem s10 : lw.bound'.all (fun n => !builtinNamed n || lw.about == [n] || !lw.reads n) = true := by kernel_rfl
theorem s12 : namesMeet lw.prog lw.above (fun _ n => !lw.own.contains n) = true := by kernel_rfl
theorem said : OpenLaw.wellSaid lw = true := by
 delta OpenLaw.wellSaid OpenRow.wellSaid OpenRow.partSaid looksOpen
 repeat' (first | (with_reducible refine look_both ?_ ?_) | with_reducible exact s3 | with_reducible exact s5 | with_reducible exact s6 | with_reducible exact s8 | with_reducible exact s10 | with_reducible exact s12 | kernel_rfl)
theorem chk : (chainsOk view_39 && opensWell lw.row.toRowW.prog && (frees lw.row.toRowW && lw.row.toRowW.within.isEmpty)) = true := by kernel_rfl
end hd
end
section
theorem xAL {p1 p2 : Prop} {G : Prop} (h : p1 ∧ p2) (k : p1 → p2 → G) : G := h.elim fun a0 h => k a0 h
theorem xEL {α1 : Type} {p1 : α1 → Prop} {G : Prop} (h : ∃ x1, p1 x1) (k : ∀ x1, p1 x1 → G) : G := h.elim fun a0 h => k a0 h
theorem xAAL {p1 p2 p3 : Prop} {G : Prop} (h : p1 ∧ p2 ∧ p3) (k : p1 → p2 → p3 → G) : G := h.elim fun a0 h => xAL h (k a0)
theorem xEAL {α1 : Type} {p1 p2 : α1 → Prop} {G : Prop} (h : ∃ x1, p1 x1 ∧ p2 x1) (k : ∀ x1, p1 x1 → p2 x1 → G) : G := h.elim fun a0 h => xAL h (k a0)
theorem xEEL {α1 α2 : Type} {p1 : α1 → α2 → Prop} {G : Prop} (h : ∃ x1, ∃ x2, p1 x1 x2) (k : ∀ x1, ∀ x2, p1 x1 x2 → G) : G := h.elim fun a0 h => xEL h (k a0)
theorem xAAAL {p1 p2 p3 p4 : Prop} {G : Prop} (h : p1 ∧ p2 ∧ p3 ∧ p4) (k : p1 → p2 → p3 → p4 → G) : G := h.elim fun a0 h => xAAL h (k a0)
theorem xAEAL {α1 : Type} {p1 : Prop} {p2 p3 : α1 → Prop} {G : Prop} (h : p1 ∧ ∃ x1, p2 x1 ∧ p3 x1) (k : p1 → ∀ x1, p2 x1 → p3 x1 → G) : G := h.elim fun a0 h => xEAL h (k a0)
theorem xAEEL {α1 α2 : Type} {p1 : Prop} {p2 : α1 → α2 → Prop} {G : Prop} (h : p1 ∧ ∃ x1, ∃ x2, p2 x1 x2) (k : p1 → ∀ x1, ∀ x2, p2 x1 x2 → G) : G := h.elim fun a0 h => xEEL h (k a0)
theorem xEAAL {α1 : Type} {p1 p2 p3 : α1 → Prop} {G : Prop} (h : ∃ x1, p1 x1 ∧ p2 x1 ∧ p3 x1) (k : ∀ x1, p1 x1 → p2 x1 → p3 x1 → G) : G := h.elim fun a0 h => xAAL h (k a0)
theorem xEAEL {α1 α2 : Type} {p1 : α1 → Prop} {p2 : α1 → α2 → Prop} {G : Prop} (h : ∃ x1, p1 x1 ∧ ∃ x2, p2 x1 x2) (k : ∀ x1, p1 x1 → ∀ x2, p2 x1 x2 → G) : G := h.elim fun a0 h => h.elim fun a1 h => xEL h (k a0 a1)
theorem xEEAL {α1 α2 : Type} {p1 p2 : α1 → α2 → Prop} {G : Prop} (h : ∃ x1, ∃ x2, p1 x1 x2 ∧ p2 x1 x2) (k : ∀ x1, ∀ x2, p1 x1 x2 → p2 x1 x2 → G) : G := h.elim fun a0 h => xEAL h (k a0)
theorem xEEEL {α1 α2 α3 : Type} {p1 : α1 → α2 → α3 → Prop} {G : Prop} (h : ∃ x1, ∃ x2, ∃ x3, p1 x1 x2 x3) (k : ∀ x1, ∀ x2, ∀ x3, p1 x1 x2 x3 → G) : G := h.elim fun a0 h => xEEL h (k a0)
theorem xAAAAL {p1 p2 p3 p4 p5 : Prop} {G : Prop} (h : p1 ∧ p2 ∧ p3 ∧ p4 ∧ p5) (k : p1 → p2 → p3 → p4 → p5 → G) : G := h.elim fun a0 h => xAAAL h (k a0)
theorem xAEEAL {α1 α2 : Type} {p1 : Prop} {p2 p3 : α1 → α2 → Prop} {G : Prop} (h : p1 ∧ ∃ x1, ∃ x2, p2 x1 x2 ∧ p3 x1 x2) (k : p1 → ∀ x1, ∀ x2, p2 x1 x2 → p3 x1 x2 → G) : G := h.elim fun a0 h => xEEAL h (k a0)
theorem xEAAEL {α1 α2 : Type} {p1 p2 : α1 → Prop} {p3 : α1 → α2 → Prop} {G : Prop} (h : ∃ x1, p1 x1 ∧ p2 x1 ∧ ∃ x2, p3 x1 x2) (k : ∀ x1, p1 x1 → p2 x1 → ∀ x2, p3 x1 x2 → G) : G := h.elim fun a0 h => h.elim fun a1 h => h.elim fun a2 h => xEL h (k a0 a1 a2)
theorem xEAEAL {α1 α2 : Type} {p1 : α1 → Prop} {p2 p3 : α1 → α2 → Prop} {G : Prop} (h : ∃ x1, p1 x1 ∧ ∃ x2, p2 x1 x2 ∧ p3 x1 x2) (k : ∀ x1, p1 x1 → ∀ x2, p2 x1 x2 → p3 x1 x2 → G) : G := h.elim fun a0 h => xAEAL h (k a0)
theorem xEEAAL {α1 α2 : Type} {p1 p2 p3 : α1 → α2 → Prop} {G : Prop} (h : ∃ x1, ∃ x2, p1 x1 x2 ∧ p2 x1 x2 ∧ p3 x1 x2) (k : ∀ x1, ∀ x2, p1 x1 x2 → p2 x1 x2 → p3 x1 x2 → G) : G := h.elim fun a0 h => xEAAL h (k a0)
theorem xEEAEL {α1 α2 α3 : Type} {p1 : α1 → α2 → Prop} {p2 : α1 → α2 → α3 → Prop} {G : Prop} (h : ∃ x1, ∃ x2, p1 x1 x2 ∧ ∃ x3, p2 x1 x2 x3) (k : ∀ x1, ∀ x2, p1 x1 x2 → ∀ x3, p2 x1 x2 x3 → G) : G := h.elim fun a0 h => xEAEL h (k a0)
theorem xEEEAL {α1 α2 α3 : Type} {p1 p2 : α1 → α2 → α3 → Prop} {G : Prop} (h : ∃ x1, ∃ x2, ∃ x3, p1 x1 x2 x3 ∧ p2 x1 x2 x3) (k : ∀ x1, ∀ x2, ∀ x3, p1 x1 x2 x3 → p2 x1 x2 x3 → G) : G := h.elim fun a0 h => xEEAL h (k a0)
theorem xAAAAAL {p1 p2 p3 p4 p5 p6 : Prop} {G : Prop} (h : p1 ∧ p2 ∧ p3 ∧ p4 ∧ p5 ∧ p6) (k : p1 → p2 → p3 → p4 → p5 → p6 → G) : G := h.elim fun a0 h => xAAAAL h (k a0)
theorem xAEEEAL {α1 α2 α3 : Type} {p1 : Prop} {p2 p3 : α1 → α2 → α3 → Prop} {G : Prop} (h : p1 ∧ ∃ x1, ∃ x2, ∃ x3, p2 x1 x2 x3 ∧ p3 x1 x2 x3) (k : p1 → ∀ x1, ∀ x2, ∀ x3, p2 x1 x2 x3 → p3 x1 x2 x3 → G) : G := h.elim fun a0 h => xEEEAL h (k a0)
theorem xEEAAAL {α1 α2 : Type} {p1 p2 p3 p4 : α1 → α2 → Prop} {G : Prop} (h : ∃ x1, ∃ x2, p1 x1 x2 ∧ p2 x1 x2 ∧ p3 x1 x2 ∧ p4 x1 x2) (k : ∀ x1, ∀ x2, p1 x1 x2 → p2 x1 x2 → p3 x1 x2 → p4 x1 x2 → G) : G := h.elim fun a0 h => h.elim fun a1 h => xAAAL h (k a0 a1)
theorem xEEEAAL {α1 α2 α3 : Type} {p1 p2 p3 : α1 → α2 → α3 → Prop} {G : Prop} (h : ∃ x1, ∃ x2, ∃ x3, p1 x1 x2 x3 ∧ p2 x1 x2 x3 ∧ p3 x1 x2 x3) (k : ∀ x1, ∀ x2, ∀ x3, p1 x1 x2 x3 → p2 x1 x2 x3 → p3 x1 x2 x3 → G) : G := h.elim fun a0 h => xEEAAL h (k a0)
theorem xEEEEEL {α1 α2 α3 α4 α5 : Type} {p1 : α1 → α2 → α3 → α4 → α5 → Prop} {G : Prop} (h : ∃ x1, ∃ x2, ∃ x3, ∃ x4, ∃ x5, p1 x1 x2 x3 x4 x5) (k : ∀ x1, ∀ x2, ∀ x3, ∀ x4, ∀ x5, p1 x1 x2 x3 x4 x5 → G) : G := h.elim fun a0 h => h.elim fun a1 h => xEEEL h (k a0 a1)
theorem xAAAAAAL {p1 p2 p3 p4 p5 p6 p7 : Prop} {G : Prop} (h : p1 ∧ p2 ∧ p3 ∧ p4 ∧ p5 ∧ p6 ∧ p7) (k : p1 → p2 → p3 → p4 → p5 → p6 → p7 → G) : G := h.elim fun a0 h => xAAAAAL h (k a0)
theorem xAEEEAAL {α1 α2 α3 : Type} {p1 : Prop} {p2 p3 p4 : α1 → α2 → α3 → Prop} {G : Prop} (h : p1 ∧ ∃ x1, ∃ x2, ∃ x3, p2 x1 x2 x3 ∧ p3 x1 x2 x3 ∧ p4 x1 x2 x3) (k : p1 → ∀ x1, ∀ x2, ∀ x3, p2 x1 x2 x3 → p3 x1 x2 x3 → p4 x1 x2 x3 → G) : G := h.elim fun a0 h => xEEEAAL h (k a0)
theorem xEEAAAAL {α1 α2 : Type} {p1 p2 p3 p4 p5 : α1 → α2 → Prop} {G : Prop} (h : ∃ x1, ∃ x2, p1 x1 x2 ∧ p2 x1 x2 ∧ p3 x1 x2 ∧ p4 x1 x2 ∧ p5 x1 x2) (k : ∀ x1, ∀ x2, p1 x1 x2 → p2 x1 x2 → p3 x1 x2 → p4 x1 x2 → p5 x1 x2 → G) : G := h.elim fun a0 h => h.elim fun a1 h => xAAAAL h (k a0 a1)
theorem xEEEAAAL {α1 α2 α3 : Type} {p1 p2 p3 p4 : α1 → α2 → α3 → Prop} {G : Prop} (h : ∃ x1, ∃ x2, ∃ x3, p1 x1 x2 x3 ∧ p2 x1 x2 x3 ∧ p3 x1 x2 x3 ∧ p4 x1 x2 x3) (k : ∀ x1, ∀ x2, ∀ x3, p1 x1 x2 x3 → p2 x1 x2 x3 → p3 x1 x2 x3 → p4 x1 x2 x3 → G) : G := h.elim fun a0 h => xEEAAAL h (k a0)
theorem xEEEEAAL {α1 α2 α3 α4 : Type} {p1 p2 p3 : α1 → α2 → α3 → α4 → Prop} {G : Prop} (h : ∃ x1, ∃ x2, ∃ x3, ∃ x4, p1 x1 x2 x3 x4 ∧ p2 x1 x2 x3 x4 ∧ p3 x1 x2 x3 x4) (k : ∀ x1, ∀ x2, ∀ x3, ∀ x4, p1 x1 x2 x3 x4 → p2 x1 x2 x3 x4 → p3 x1 x2 x3 x4 → G) : G := h.elim fun a0 h => xEEEAAL h (k a0)
theorem xEAEEAAAAL {α1 α2 α3 : Type} {p1 : α1 → Prop} {p2 p3 p4 p5 p6 : α1 → α2 → α3 → Prop} {G : Prop} (h : ∃ x1, p1 x1 ∧ ∃ x2, ∃ x3, p2 x1 x2 x3 ∧ p3 x1 x2 x3 ∧ p4 x1 x2 x3 ∧ p5 x1 x2 x3 ∧ p6 x1 x2 x3) (k : ∀ x1, p1 x1 → ∀ x2, ∀ x3, p2 x1 x2 x3 → p3 x1 x2 x3 → p4 x1 x2 x3 → p5 x1 x2 x3 → p6 x1 x2 x3 → G) : G := h.elim fun a0 h => h.elim fun a1 h => xEEAAAAL h (k a0 a1)
theorem xEEEAAAAAL {α1 α2 α3 : Type} {p1 p2 p3 p4 p5 p6 : α1 → α2 → α3 → Prop} {G : Prop} (h : ∃ x1, ∃ x2, ∃ x3, p1 x1 x2 x3 ∧ p2 x1 x2 x3 ∧ p3 x1 x2 x3 ∧ p4 x1 x2 x3 ∧ p5 x1 x2 x3 ∧ p6 x1 x2 x3) (k : ∀ x1, ∀ x2, ∀ x3, p1 x1 x2 x3 → p2 x1 x2 x3 → p3 x1 x2 x3 → p4 x1 x2 x3 → p5 x1 x2 x3 → p6 x1 x2 x3 → G) : G := h.elim fun a0 h => h.elim fun a1 h => h.elim fun a2 h => xAAAAAL h (k a0 a1 a2)
theorem xEEEEAAAAL {α1 α2 α3 α4 : Type} {p1 p2 p3 p4 p5 : α1 → α2 → α3 → α4 → Prop} {G : Prop} (h : ∃ x1, ∃ x2, ∃ x3, ∃ x4, p1 x1 x2 x3 x4 ∧ p2 x1 x2 x3 x4 ∧ p3 x1 x2 x3 x4 ∧ p4 x1 x2 x3 x4 ∧ p5 x1 x2 x3 x4) (k : ∀ x1, ∀ x2, ∀ x3, ∀ x4, p1 x1 x2 x3 x4 → p2 x1 x2 x3 x4 → p3 x1 x2 x3 x4 → p4 x1 x2 x3 x4 → p5 x1 x2 x3 x4 → G) : G := h.elim fun a0 h => h.elim fun a1 h => xEEAAAAL h (k a0 a1)
theorem xEEEEEAAAL {α1 α2 α3 α4 α5 : Type} {p1 p2 p3 p4 : α1 → α2 → α3 → α4 → α5 → Prop} {G : Prop} (h : ∃ x1, ∃ x2, ∃ x3, ∃ x4, ∃ x5, p1 x1 x2 x3 x4 x5 ∧ p2 x1 x2 x3 x4 x5 ∧ p3 x1 x2 x3 x4 x5 ∧ p4 x1 x2 x3 x4 x5) (k : ∀ x1, ∀ x2, ∀ x3, ∀ x4, ∀ x5, p1 x1 x2 x3 x4 x5 → p2 x1 x2 x3 x4 x5 → p3 x1 x2 x3 x4 x5 → p4 x1 x2 x3 x4 x5 → G) : G := h.elim fun a0 h => h.elim fun a1 h => xEEEAAAL h (k a0 a1)
theorem xEEEEEEAAL {α1 α2 α3 α4 α5 α6 : Type} {p1 p2 p3 : α1 → α2 → α3 → α4 → α5 → α6 → Prop} {G : Prop} (h : ∃ x1, ∃ x2, ∃ x3, ∃ x4, ∃ x5, ∃ x6, p1 x1 x2 x3 x4 x5 x6 ∧ p2 x1 x2 x3 x4 x5 x6 ∧ p3 x1 x2 x3 x4 x5 x6) (k : ∀ x1, ∀ x2, ∀ x3, ∀ x4, ∀ x5, ∀ x6, p1 x1 x2 x3 x4 x5 x6 → p2 x1 x2 x3 x4 x5 x6 → p3 x1 x2 x3 x4 x5 x6 → G) : G := h.elim fun a0 h => h.elim fun a1 h => xEEEEAAL h (k a0 a1)
theorem xEEEEEEEAL {α1 α2 α3 α4 α5 α6 α7 : Type} {p1 p2 : α1 → α2 → α3 → α4 → α5 → α6 → α7 → Prop} {G : Prop} (h : ∃ x1, ∃ x2, ∃ x3, ∃ x4, ∃ x5, ∃ x6, ∃ x7, p1 x1 x2 x3 x4 x5 x6 x7 ∧ p2 x1 x2 x3 x4 x5 x6 x7) (k : ∀ x1, ∀ x2, ∀ x3, ∀ x4, ∀ x5, ∀ x6, ∀ x7, p1 x1 x2 x3 x4 x5 x6 x7 → p2 x1 x2 x3 x4 x5 x6 x7 → G) : G := h.elim fun a0 h => h.elim fun a1 h => h.elim fun a2 h => h.elim fun a3 h => xEEEAL h (k a0 a1 a2 a3)
theorem xEEEEAAAAAL {α1 α2 α3 α4 : Type} {p1 p2 p3 p4 p5 p6 : α1 → α2 → α3 → α4 → Prop} {G : Prop} (h : ∃ x1, ∃ x2, ∃ x3, ∃ x4, p1 x1 x2 x3 x4 ∧ p2 x1 x2 x3 x4 ∧ p3 x1 x2 x3 x4 ∧ p4 x1 x2 x3 x4 ∧ p5 x1 x2 x3 x4 ∧ p6 x1 x2 x3 x4) (k : ∀ x1, ∀ x2, ∀ x3, ∀ x4, p1 x1 x2 x3 x4 → p2 x1 x2 x3 x4 → p3 x1 x2 x3 x4 → p4 x1 x2 x3 x4 → p5 x1 x2 x3 x4 → p6 x1 x2 x3 x4 → G) : G := h.elim fun a0 h => xEEEAAAAAL h (k a0)
theorem xEEEEEEEAAL {α1 α2 α3 α4 α5 α6 α7 : Type} {p1 p2 p3 : α1 → α2 → α3 → α4 → α5 → α6 → α7 → Prop} {G : Prop} (h : ∃ x1, ∃ x2, ∃ x3, ∃ x4, ∃ x5, ∃ x6, ∃ x7, p1 x1 x2 x3 x4 x5 x6 x7 ∧ p2 x1 x2 x3 x4 x5 x6 x7 ∧ p3 x1 x2 x3 x4 x5 x6 x7) (k : ∀ x1, ∀ x2, ∀ x3, ∀ x4, ∀ x5, ∀ x6, ∀ x7, p1 x1 x2 x3 x4 x5 x6 x7 → p2 x1 x2 x3 x4 x5 x6 x7 → p3 x1 x2 x3 x4 x5 x6 x7 → G) : G := h.elim fun a0 h => xEEEEEEAAL h (k a0)
theorem xEEEEEEEEEL {α1 α2 α3 α4 α5 α6 α7 α8 α9 : Type} {p1 : α1 → α2 → α3 → α4 → α5 → α6 → α7 → α8 → α9 → Prop} {G : Prop} (h : ∃ x1, ∃ x2, ∃ x3, ∃ x4, ∃ x5, ∃ x6, ∃ x7, ∃ x8, ∃ x9, p1 x1 x2 x3 x4 x5 x6 x7 x8 x9) (k : ∀ x1, ∀ x2, ∀ x3, ∀ x4, ∀ x5, ∀ x6, ∀ x7, ∀ x8, ∀ x9, p1 x1 x2 x3 x4 x5 x6 x7 x8 x9 → G) : G := h.elim fun a0 h => h.elim fun a1 h => h.elim fun a2 h => h.elim fun a3 h => xEEEEEL h (k a0 a1 a2 a3)
theorem xEEEEAAAAAAL {α1 α2 α3 α4 : Type} {p1 p2 p3 p4 p5 p6 p7 : α1 → α2 → α3 → α4 → Prop} {G : Prop} (h : ∃ x1, ∃ x2, ∃ x3, ∃ x4, p1 x1 x2 x3 x4 ∧ p2 x1 x2 x3 x4 ∧ p3 x1 x2 x3 x4 ∧ p4 x1 x2 x3 x4 ∧ p5 x1 x2 x3 x4 ∧ p6 x1 x2 x3 x4 ∧ p7 x1 x2 x3 x4) (k : ∀ x1, ∀ x2, ∀ x3, ∀ x4, p1 x1 x2 x3 x4 → p2 x1 x2 x3 x4 → p3 x1 x2 x3 x4 → p4 x1 x2 x3 x4 → p5 x1 x2 x3 x4 → p6 x1 x2 x3 x4 → p7 x1 x2 x3 x4 → G) : G := h.elim fun a0 h => h.elim fun a1 h => h.elim fun a2 h => h.elim fun a3 h => xAAAAAAL h (k a0 a1 a2 a3)
theorem xEEEEEEEEAAL {α1 α2 α3 α4 α5 α6 α7 α8 : Type} {p1 p2 p3 : α1 → α2 → α3 → α4 → α5 → α6 → α7 → α8 → Prop} {G : Prop} (h : ∃ x1, ∃ x2, ∃ x3, ∃ x4, ∃ x5, ∃ x6, ∃ x7, ∃ x8, p1 x1 x2 x3 x4 x5 x6 x7 x8 ∧ p2 x1 x2 x3 x4 x5 x6 x7 x8 ∧ p3 x1 x2 x3 x4 x5 x6 x7 x8) (k : ∀ x1, ∀ x2, ∀ x3, ∀ x4, ∀ x5, ∀ x6, ∀ x7, ∀ x8, p1 x1 x2 x3 x4 x5 x6 x7 x8 → p2 x1 x2 x3 x4 x5 x6 x7 x8 → p3 x1 x2 x3 x4 x5 x6 x7 x8 → G) : G := h.elim fun a0 h => xEEEEEEEAAL h (k a0)
theorem xEEEEEAAAAAAL {α1 α2 α3 α4 α5 : Type} {p1 p2 p3 p4 p5 p6 p7 : α1 → α2 → α3 → α4 → α5 → Prop} {G : Prop} (h : ∃ x1, ∃ x2, ∃ x3, ∃ x4, ∃ x5, p1 x1 x2 x3 x4 x5 ∧ p2 x1 x2 x3 x4 x5 ∧ p3 x1 x2 x3 x4 x5 ∧ p4 x1 x2 x3 x4 x5 ∧ p5 x1 x2 x3 x4 x5 ∧ p6 x1 x2 x3 x4 x5 ∧ p7 x1 x2 x3 x4 x5) (k : ∀ x1, ∀ x2, ∀ x3, ∀ x4, ∀ x5, p1 x1 x2 x3 x4 x5 → p2 x1 x2 x3 x4 x5 → p3 x1 x2 x3 x4 x5 → p4 x1 x2 x3 x4 x5 → p5 x1 x2 x3 x4 x5 → p6 x1 x2 x3 x4 x5 → p7 x1 x2 x3 x4 x5 → G) : G := h.elim fun a0 h => xEEEEAAAAAAL h (k a0)
theorem xEEEEEEAAAAAL {α1 α2 α3 α4 α5 α6 : Type} {p1 p2 p3 p4 p5 p6 : α1 → α2 → α3 → α4 → α5 → α6 → Prop} {G : Prop} (h : ∃ x1, ∃ x2, ∃ x3, ∃ x4, ∃ x5, ∃ x6, p1 x1 x2 x3 x4 x5 x6 ∧ p2 x1 x2 x3 x4 x5 x6 ∧ p3 x1 x2 x3 x4 x5 x6 ∧ p4 x1 x2 x3 x4 x5 x6 ∧ p5 x1 x2 x3 x4 x5 x6 ∧ p6 x1 x2 x3 x4 x5 x6) (k : ∀ x1, ∀ x2, ∀ x3, ∀ x4, ∀ x5, ∀ x6, p1 x1 x2 x3 x4 x5 x6 → p2 x1 x2 x3 x4 x5 x6 → p3 x1 x2 x3 x4 x5 x6 → p4 x1 x2 x3 x4 x5 x6 → p5 x1 x2 x3 x4 x5 x6 → p6 x1 x2 x3 x4 x5 x6 → G) : G := h.elim fun a0 h => h.elim fun a1 h => xEEEEAAAAAL h (k a0 a1)
theorem xEEEEEEEEEEAL {α1 α2 α3 α4 α5 α6 α7 α8 α9 α10 : Type} {p1 p2 : α1 → α2 → α3 → α4 → α5 → α6 → α7 → α8 → α9 → α10 → Prop} {G : Prop} (h : ∃ x1, ∃ x2, ∃ x3, ∃ x4, ∃ x5, ∃ x6, ∃ x7, ∃ x8, ∃ x9, ∃ x10, p1 x1 x2 x3 x4 x5 x6 x7 x8 x9 x10 ∧ p2 x1 x2 x3 x4 x5 x6 x7 x8 x9 x10) (k : ∀ x1, ∀ x2, ∀ x3, ∀ x4, ∀ x5, ∀ x6, ∀ x7, ∀ x8, ∀ x9, ∀ x10, p1 x1 x2 x3 x4 x5 x6 x7 x8 x9 x10 → p2 x1 x2 x3 x4 x5 x6 x7 x8 x9 x10 → G) : G := h.elim fun a0 h => h.elim fun a1 h => h.elim fun a2 h => xEEEEEEEAL h (k a0 a1 a2)
theorem xEEEEEEEEAAAAL {α1 α2 α3 α4 α5 α6 α7 α8 : Type} {p1 p2 p3 p4 p5 : α1 → α2 → α3 → α4 → α5 → α6 → α7 → α8 → Prop} {G : Prop} (h : ∃ x1, ∃ x2, ∃ x3, ∃ x4, ∃ x5, ∃ x6, ∃ x7, ∃ x8, p1 x1 x2 x3 x4 x5 x6 x7 x8 ∧ p2 x1 x2 x3 x4 x5 x6 x7 x8 ∧ p3 x1 x2 x3 x4 x5 x6 x7 x8 ∧ p4 x1 x2 x3 x4 x5 x6 x7 x8 ∧ p5 x1 x2 x3 x4 x5 x6 x7 x8) (k : ∀ x1, ∀ x2, ∀ x3, ∀ x4, ∀ x5, ∀ x6, ∀ x7, ∀ x8, p1 x1 x2 x3 x4 x5 x6 x7 x8 → p2 x1 x2 x3 x4 x5 x6 x7 x8 → p3 x1 x2 x3 x4 x5 x6 x7 x8 → p4 x1 x2 x3 x4 x5 x6 x7 x8 → p5 x1 x2 x3 x4 x5 x6 x7 x8 → G) : G := h.elim fun a0 h => h.elim fun a1 h => h.elim fun a2 h => h.elim fun a3 h => xEEEEAAAAL h (k a0 a1 a2 a3)
theorem xEEEEEEEEEEEAL {α1 α2 α3 α4 α5 α6 α7 α8 α9 α10 α11 : Type} {p1 p2 : α1 → α2 → α3 → α4 → α5 → α6 → α7 → α8 → α9 → α10 → α11 → Prop} {G : Prop} (h : ∃ x1, ∃ x2, ∃ x3, ∃ x4, ∃ x5, ∃ x6, ∃ x7, ∃ x8, ∃ x9, ∃ x10, ∃ x11, p1 x1 x2 x3 x4 x5 x6 x7 x8 x9 x10 x11 ∧ p2 x1 x2 x3 x4 x5 x6 x7 x8 x9 x10 x11) (k : ∀ x1, ∀ x2, ∀ x3, ∀ x4, ∀ x5, ∀ x6, ∀ x7, ∀ x8, ∀ x9, ∀ x10, ∀ x11, p1 x1 x2 x3 x4 x5 x6 x7 x8 x9 x10 x11 → p2 x1 x2 x3 x4 x5 x6 x7 x8 x9 x10 x11 → G) : G := h.elim fun a0 h => xEEEEEEEEEEAL h (k a0)
theorem xEEEEEAAAAAAAAL {α1 α2 α3 α4 α5 : Type} {p1 p2 p3 p4 p5 p6 p7 p8 p9 : α1 → α2 → α3 → α4 → α5 → Prop} {G : Prop} (h : ∃ x1, ∃ x2, ∃ x3, ∃ x4, ∃ x5, p1 x1 x2 x3 x4 x5 ∧ p2 x1 x2 x3 x4 x5 ∧ p3 x1 x2 x3 x4 x5 ∧ p4 x1 x2 x3 x4 x5 ∧ p5 x1 x2 x3 x4 x5 ∧ p6 x1 x2 x3 x4 x5 ∧ p7 x1 x2 x3 x4 x5 ∧ p8 x1 x2 x3 x4 x5 ∧ p9 x1 x2 x3 x4 x5) (k : ∀ x1, ∀ x2, ∀ x3, ∀ x4, ∀ x5, p1 x1 x2 x3 x4 x5 → p2 x1 x2 x3 x4 x5 → p3 x1 x2 x3 x4 x5 → p4 x1 x2 x3 x4 x5 → p5 x1 x2 x3 x4 x5 → p6 x1 x2 x3 x4 x5 → p7 x1 x2 x3 x4 x5 → p8 x1 x2 x3 x4 x5 → p9 x1 x2 x3 x4 x5 → G) : G := h.elim fun a0 h => h.elim fun a1 h => h.elim fun a2 h => h.elim fun a3 h => h.elim fun a4 h => h.elim fun a5 h => h.elim fun a6 h => xAAAAAAL h (k a0 a1 a2 a3 a4 a5 a6)
theorem xEEEEEEEEEEEAAL {α1 α2 α3 α4 α5 α6 α7 α8 α9 α10 α11 : Type} {p1 p2 p3 : α1 → α2 → α3 → α4 → α5 → α6 → α7 → α8 → α9 → α10 → α11 → Prop} {G : Prop} (h : ∃ x1, ∃ x2, ∃ x3, ∃ x4, ∃ x5, ∃ x6, ∃ x7, ∃ x8, ∃ x9, ∃ x10, ∃ x11, p1 x1 x2 x3 x4 x5 x6 x7 x8 x9 x10 x11 ∧ p2 x1 x2 x3 x4 x5 x6 x7 x8 x9 x10 x11 ∧ p3 x1 x2 x3 x4 x5 x6 x7 x8 x9 x10 x11) (k : ∀ x1, ∀ x2, ∀ x3, ∀ x4, ∀ x5, ∀ x6, ∀ x7, ∀ x8, ∀ x9, ∀ x10, ∀ x11, p1 x1 x2 x3 x4 x5 x6 x7 x8 x9 x10 x11 → p2 x1 x2 x3 x4 x5 x6 x7 x8 x9 x10 x11 → p3 x1 x2 x3 x4 x5 x6 x7 x8 x9 x10 x11 → G) : G := h.elim fun a0 h => h.elim fun a1 h => h.elim fun a2 h => xEEEEEEEEAAL h (k a0 a1 a2)
theorem xEEEEEEEEEEEEEL {α1 α2 α3 α4 α5 α6 α7 α8 α9 α10 α11 α12 α13 : Type} {p1 : α1 → α2 → α3 → α4 → α5 → α6 → α7 → α8 → α9 → α10 → α11 → α12 → α13 → Prop} {G : Prop} (h : ∃ x1, ∃ x2, ∃ x3, ∃ x4, ∃ x5, ∃ x6, ∃ x7, ∃ x8, ∃ x9, ∃ x10, ∃ x11, ∃ x12, ∃ x13, p1 x1 x2 x3 x4 x5 x6 x7 x8 x9 x10 x11 x12 x13) (k : ∀ x1, ∀ x2, ∀ x3, ∀ x4, ∀ x5, ∀ x6, ∀ x7, ∀ x8, ∀ x9, ∀ x10, ∀ x11, ∀ x12, ∀ x13, p1 x1 x2 x3 x4 x5 x6 x7 x8 x9 x10 x11 x12 x13 → G) : G := h.elim fun a0 h => h.elim fun a1 h => h.elim fun a2 h => h.elim fun a3 h => xEEEEEEEEEL h (k a0 a1 a2 a3)
theorem xEEEEEEEEEEEAAAAL {α1 α2 α3 α4 α5 α6 α7 α8 α9 α10 α11 : Type} {p1 p2 p3 p4 p5 : α1 → α2 → α3 → α4 → α5 → α6 → α7 → α8 → α9 → α10 → α11 → Prop} {G : Prop} (h : ∃ x1, ∃ x2, ∃ x3, ∃ x4, ∃ x5, ∃ x6, ∃ x7, ∃ x8, ∃ x9, ∃ x10, ∃ x11, p1 x1 x2 x3 x4 x5 x6 x7 x8 x9 x10 x11 ∧ p2 x1 x2 x3 x4 x5 x6 x7 x8 x9 x10 x11 ∧ p3 x1 x2 x3 x4 x5 x6 x7 x8 x9 x10 x11 ∧ p4 x1 x2 x3 x4 x5 x6 x7 x8 x9 x10 x11 ∧ p5 x1 x2 x3 x4 x5 x6 x7 x8 x9 x10 x11) (k : ∀ x1, ∀ x2, ∀ x3, ∀ x4, ∀ x5, ∀ x6, ∀ x7, ∀ x8, ∀ x9, ∀ x10, ∀ x11, p1 x1 x2 x3 x4 x5 x6 x7 x8 x9 x10 x11 → p2 x1 x2 x3 x4 x5 x6 x7 x8 x9 x10 x11 → p3 x1 x2 x3 x4 x5 x6 x7 x8 x9 x10 x11 → p4 x1 x2 x3 x4 x5 x6 x7 x8 x9 x10 x11 → p5 x1 x2 x3 x4 x5 x6 x7 x8 x9 x10 x11 → G) : G := h.elim fun a0 h => h.elim fun a1 h => h.elim fun a2 h => xEEEEEEEEAAAAL h (k a0 a1 a2)
theorem xEEEEEEEEEEEEEEEEEAL {α1 α2 α3 α4 α5 α6 α7 α8 α9 α10 α11 α12 α13 α14 α15 α16 α17 : Type} {p1 p2 : α1 → α2 → α3 → α4 → α5 → α6 → α7 → α8 → α9 → α10 → α11 → α12 → α13 → α14 → α15 → α16 → α17 → Prop} {G : Prop} (h : ∃ x1, ∃ x2, ∃ x3, ∃ x4, ∃ x5, ∃ x6, ∃ x7, ∃ x8, ∃ x9, ∃ x10, ∃ x11, ∃ x12, ∃ x13, ∃ x14, ∃ x15, ∃ x16, ∃ x17, p1 x1 x2 x3 x4 x5 x6 x7 x8 x9 x10 x11 x12 x13 x14 x15 x16 x17 ∧ p2 x1 x2 x3 x4 x5 x6 x7 x8 x9 x10 x11 x12 x13 x14 x15 x16 x17) (k : ∀ x1, ∀ x2, ∀ x3, ∀ x4, ∀ x5, ∀ x6, ∀ x7, ∀ x8, ∀ x9, ∀ x10, ∀ x11, ∀ x12, ∀ x13, ∀ x14, ∀ x15, ∀ x16, ∀ x17, p1 x1 x2 x3 x4 x5 x6 x7 x8 x9 x10 x11 x12 x13 x14 x15 x16 x17 → p2 x1 x2 x3 x4 x5 x6 x7 x8 x9 x10 x11 x12 x13 x14 x15 x16 x17 → G) : G := h.elim fun a0 h => h.elim fun a1 h => h.elim fun a2 h => h.elim fun a3 h => h.elim fun a4 h => h.elim fun a5 h => xEEEEEEEEEEEAL h (k a0 a1 a2 a3 a4 a5)
theorem xEEEEEEEEEEEEEEEEEAAL {α1 α2 α3 α4 α5 α6 α7 α8 α9 α10 α11 α12 α13 α14 α15 α16 α17 : Type} {p1 p2 p3 : α1 → α2 → α3 → α4 → α5 → α6 → α7 → α8 → α9 → α10 → α11 → α12 → α13 → α14 → α15 → α16 → α17 → Prop} {G : Prop} (h : ∃ x1, ∃ x2, ∃ x3, ∃ x4, ∃ x5, ∃ x6, ∃ x7, ∃ x8, ∃ x9, ∃ x10, ∃ x11, ∃ x12, ∃ x13, ∃ x14, ∃ x15, ∃ x16, ∃ x17, p1 x1 x2 x3 x4 x5 x6 x7 x8 x9 x10 x11 x12 x13 x14 x15 x16 x17 ∧ p2 x1 x2 x3 x4 x5 x6 x7 x8 x9 x10 x11 x12 x13 x14 x15 x16 x17 ∧ p3 x1 x2 x3 x4 x5 x6 x7 x8 x9 x10 x11 x12 x13 x14 x15 x16 x17) (k : ∀ x1, ∀ x2, ∀ x3, ∀ x4, ∀ x5, ∀ x6, ∀ x7, ∀ x8, ∀ x9, ∀ x10, ∀ x11, ∀ x12, ∀ x13, ∀ x14, ∀ x15, ∀ x16, ∀ x17, p1 x1 x2 x3 x4 x5 x6 x7 x8 x9 x10 x11 x12 x13 x14 x15 x16 x17 → p2 x1 x2 x3 x4 x5 x6 x7 x8 x9 x10 x11 x12 x13 x14 x15 x16 x17 → p3 x1 x2 x3 x4 x5 x6 x7 x8 x9 x10 x11 x12 x13 x14 x15 x16 x17 → G) : G := h.elim fun a0 h => h.elim fun a1 h => h.elim fun a2 h => h.elim fun a3 h => h.elim fun a4 h => h.elim fun a5 h => xEEEEEEEEEEEAAL h (k a0 a1 a2 a3 a4 a5)
theorem xEEEEEEEEEEEEEEEEEEEAL {α1 α2 α3 α4 α5 α6 α7 α8 α9 α10 α11 α12 α13 α14 α15 α16 α17 α18 α19 : Type} {p1 p2 : α1 → α2 → α3 → α4 → α5 → α6 → α7 → α8 → α9 → α10 → α11 → α12 → α13 → α14 → α15 → α16 → α17 → α18 → α19 → Prop} {G : Prop} (h : ∃ x1, ∃ x2, ∃ x3, ∃ x4, ∃ x5, ∃ x6, ∃ x7, ∃ x8, ∃ x9, ∃ x10, ∃ x11, ∃ x12, ∃ x13, ∃ x14, ∃ x15, ∃ x16, ∃ x17, ∃ x18, ∃ x19, p1 x1 x2 x3 x4 x5 x6 x7 x8 x9 x10 x11 x12 x13 x14 x15 x16 x17 x18 x19 ∧ p2 x1 x2 x3 x4 x5 x6 x7 x8 x9 x10 x11 x12 x13 x14 x15 x16 x17 x18 x19) (k : ∀ x1, ∀ x2, ∀ x3, ∀ x4, ∀ x5, ∀ x6, ∀ x7, ∀ x8, ∀ x9, ∀ x10, ∀ x11, ∀ x12, ∀ x13, ∀ x14, ∀ x15, ∀ x16, ∀ x17, ∀ x18, ∀ x19, p1 x1 x2 x3 x4 x5 x6 x7 x8 x9 x10 x11 x12 x13 x14 x15 x16 x17 x18 x19 → p2 x1 x2 x3 x4 x5 x6 x7 x8 x9 x10 x11 x12 x13 x14 x15 x16 x17 x18 x19 → G) : G := h.elim fun a0 h => h.elim fun a1 h => xEEEEEEEEEEEEEEEEEAL h (k a0 a1)
theorem xEEEEEEEEEEEEEEEEEEEAAL {α1 α2 α3 α4 α5 α6 α7 α8 α9 α10 α11 α12 α13 α14 α15 α16 α17 α18 α19 : Type} {p1 p2 p3 : α1 → α2 → α3 → α4 → α5 → α6 → α7 → α8 → α9 → α10 → α11 → α12 → α13 → α14 → α15 → α16 → α17 → α18 → α19 → Prop} {G : Prop} (h : ∃ x1, ∃ x2, ∃ x3, ∃ x4, ∃ x5, ∃ x6, ∃ x7, ∃ x8, ∃ x9, ∃ x10, ∃ x11, ∃ x12, ∃ x13, ∃ x14, ∃ x15, ∃ x16, ∃ x17, ∃ x18, ∃ x19, p1 x1 x2 x3 x4 x5 x6 x7 x8 x9 x10 x11 x12 x13 x14 x15 x16 x17 x18 x19 ∧ p2 x1 x2 x3 x4 x5 x6 x7 x8 x9 x10 x11 x12 x13 x14 x15 x16 x17 x18 x19 ∧ p3 x1 x2 x3 x4 x5 x6 x7 x8 x9 x10 x11 x12 x13 x14 x15 x16 x17 x18 x19) (k : ∀ x1, ∀ x2, ∀ x3, ∀ x4, ∀ x5, ∀ x6, ∀ x7, ∀ x8, ∀ x9, ∀ x10, ∀ x11, ∀ x12, ∀ x13, ∀ x14, ∀ x15, ∀ x16, ∀ x17, ∀ x18, ∀ x19, p1 x1 x2 x3 x4 x5 x6 x7 x8 x9 x10 x11 x12 x13 x14 x15 x16 x17 x18 x19 → p2 x1 x2 x3 x4 x5 x6 x7 x8 x9 x10 x11 x12 x13 x14 x15 x16 x17 x18 x19 → p3 x1 x2 x3 x4 x5 x6 x7 x8 x9 x10 x11 x12 x13 x14 x15 x16 x17 x18 x19 → G) : G := h.elim fun a0 h => h.elim fun a1 h => xEEEEEEEEEEEEEEEEEAAL h (k a0 a1)
theorem iE5 {α1 α2 α3 α4 α5 : Type} {P : α1 → α2 → α3 → α4 → α5 → Prop} (a1 : α1) (a2 : α2) (a3 : α3) (a4 : α4) (a5 : α5) (h : P a1 a2 a3 a4 a5) : ∃ x1 x2 x3 x4 x5, P x1 x2 x3 x4 x5 := ⟨a1, a2, a3, a4, a5, h⟩
theorem iE8 {α1 α2 α3 α4 α5 α6 α7 α8 : Type} {P : α1 → α2 → α3 → α4 → α5 → α6 → α7 → α8 → Prop} (a1 : α1) (a2 : α2) (a3 : α3) (a4 : α4) (a5 : α5) (a6 : α6) (a7 : α7) (a8 : α8) (h : P a1 a2 a3 a4 a5 a6 a7 a8) : ∃ x1 x2 x3 x4 x5 x6 x7 x8, P x1 x2 x3 x4 x5 x6 x7 x8 := ⟨a1, a2, a3, a4, a5, a6, a7, a8, h⟩
theorem iE9 {α1 α2 α3 α4 α5 α6 α7 α8 α9 : Type} {P : α1 → α2 → α3 → α4 → α5 → α6 → α7 → α8 → α9 → Prop} (a1 : α1) (a2 : α2) (a3 : α3) (a4 : α4) (a5 : α5) (a6 : α6) (a7 : α7) (a8 : α8) (a9 : α9) (h : P a1 a2 a3 a4 a5 a6 a7 a8 a9) : ∃ x1 x2 x3 x4 x5 x6 x7 x8 x9, P x1 x2 x3 x4 x5 x6 x7 x8 x9 := ⟨a1, a2, a3, a4, a5, a6, a7, a8, a9, h⟩
theorem iE17 {α1 α2 α3 α4 α5 α6 α7 α8 α9 α10 α11 α12 α13 α14 α15 α16 α17 : Type} {P : α1 → α2 → α3 → α4 → α5 → α6 → α7 → α8 → α9 → α10 → α11 → α12 → α13 → α14 → α15 → α16 → α17 → Prop} (a1 : α1) (a2 : α2) (a3 : α3) (a4 : α4) (a5 : α5) (a6 : α6) (a7 : α7) (a8 : α8) (a9 : α9) (a10 : α10) (a11 : α11) (a12 : α12) (a13 : α13) (a14 : α14) (a15 : α15) (a16 : α16) (a17 : α17) (h : P a1 a2 a3 a4 a5 a6 a7 a8 a9 a10 a11 a12 a13 a14 a15 a16 a17) : ∃ x1 x2 x3 x4 x5 x6 x7 x8 x9 x10 x11 x12 x13 x14 x15 x16 x17, P x1 x2 x3 x4 x5 x6 x7 x8 x9 x10 x11 x12 x13 x14 x15 x16 x17 := ⟨a1, a2, a3, a4, a5, a6, a7, a8, a9, a10, a11, a12, a13, a14, a15, a16, a17, h⟩
theorem iE19 {α1 α2 α3 α4 α5 α6 α7 α8 α9 α10 α11 α12 α13 α14 α15 α16 α17 α18 α19 : Type} {P : α1 → α2 → α3 → α4 → α5 → α6 → α7 → α8 → α9 → α10 → α11 → α12 → α13 → α14 → α15 → α16 → α17 → α18 → α19 → Prop} (a1 : α1) (a2 : α2) (a3 : α3) (a4 : α4) (a5 : α5) (a6 : α6) (a7 : α7) (a8 : α8) (a9 : α9) (a10 : α10) (a11 : α11) (a12 : α12) (a13 : α13) (a14 : α14) (a15 : α15) (a16 : α16) (a17 : α17) (a18 : α18) (a19 : α19) (h : P a1 a2 a3 a4 a5 a6 a7 a8 a9 a10 a11 a12 a13 a14 a15 a16 a17 a18 a19) : ∃ x1 x2 x3 x4 x5 x6 x7 x8 x9 x10 x11 x12 x13 x14 x15 x16 x17 x18 x19, P x1 x2 x3 x4 x5 x6 x7 x8 x9 x10 x11 x12 x13 x14 x15 x16 x17 x18 x19 := ⟨a1, a2, a3, a4, a5, a6, a7, a8, a9, a10, a11, a12, a13, a14, a15, a16, a17, a18, a19, h⟩
end
section
section
variable {a b : Nat} {x0 x1 x2 x3 x4 x5 x6 x7 x8 x9 r : Prop}
theorem qn0 (h : @Ne Nat a b ∧ r) : @Ne Nat a b := h.1
theorem qm0 (h : @Ne Nat b a ∧ r) : @Ne Nat a b := Ne.symm h.1
theorem en0 (h : @Ne Nat a b) : @Ne Nat a b := h
theorem em0 (h : @Ne Nat b a) : @Ne Nat a b := Ne.symm h
theorem qg0 (h : @LT.lt Nat _ b a ∧ r) : @Ne Nat a b := Nat.ne_of_gt h.1
theorem ql0 (h : @LT.lt Nat _ a b ∧ r) : @Ne Nat a b := Nat.ne_of_lt h.1
theorem eg0 (h : @LT.lt Nat _ b a) : @Ne Nat a b := Nat.ne_of_gt h
theorem el0 (h : @LT.lt Nat _ a b) : @Ne Nat a b := Nat.ne_of_lt h
theorem qn1 (h : x0 ∧ @Ne Nat a b ∧ r) : @Ne Nat a b := h.2.1
theorem qm1 (h : x0 ∧ @Ne Nat b a ∧ r) : @Ne Nat a b := Ne.symm h.2.1
theorem em1 (h : x0 ∧ @Ne Nat b a) : @Ne Nat a b := Ne.symm h.2
theorem qg1 (h : x0 ∧ @LT.lt Nat _ b a ∧ r) : @Ne Nat a b := Nat.ne_of_gt h.2.1
theorem ql1 (h : x0 ∧ @LT.lt Nat _ a b ∧ r) : @Ne Nat a b := Nat.ne_of_lt h.2.1
theorem eg1 (h : x0 ∧ @LT.lt Nat _ b a) : @Ne Nat a b := Nat.ne_of_gt h.2
theorem el1 (h : x0 ∧ @LT.lt Nat _ a b) : @Ne Nat a b := Nat.ne_of_lt h.2
theorem qm2 (h : x0 ∧ x1 ∧ @Ne Nat b a ∧ r) : @Ne Nat a b := Ne.symm h.2.2.1
theorem en2 (h : x0 ∧ x1 ∧ @Ne Nat a b) : @Ne Nat a b := h.2.2
theorem em2 (h : x0 ∧ x1 ∧ @Ne Nat b a) : @Ne Nat a b := Ne.symm h.2.2
theorem qg2 (h : x0 ∧ x1 ∧ @LT.lt Nat _ b a ∧ r) : @Ne Nat a b := Nat.ne_of_gt h.2.2.1
theorem ql2 (h : x0 ∧ x1 ∧ @LT.lt Nat _ a b ∧ r) : @Ne Nat a b := Nat.ne_of_lt h.2.2.1
theorem eg2 (h : x0 ∧ x1 ∧ @LT.lt Nat _ b a) : @Ne Nat a b := Nat.ne_of_gt h.2.2
theorem qm3 (h : x0 ∧ x1 ∧ x2 ∧ @Ne Nat b a ∧ r) : @Ne Nat a b := Ne.symm h.2.2.2.1
theorem em3 (h : x0 ∧ x1 ∧ x2 ∧ @Ne Nat b a) : @Ne Nat a b := Ne.symm h.2.2.2
theorem qg3 (h : x0 ∧ x1 ∧ x2 ∧ @LT.lt Nat _ b a ∧ r) : @Ne Nat a b := Nat.ne_of_gt h.2.2.2.1
theorem ql3 (h : x0 ∧ x1 ∧ x2 ∧ @LT.lt Nat _ a b ∧ r) : @Ne Nat a b := Nat.ne_of_lt h.2.2.2.1
theorem eg3 (h : x0 ∧ x1 ∧ x2 ∧ @LT.lt Nat _ b a) : @Ne Nat a b := Nat.ne_of_gt h.2.2.2
theorem el3 (h : x0 ∧ x1 ∧ x2 ∧ @LT.lt Nat _ a b) : @Ne Nat a b := Nat.ne_of_lt h.2.2.2
theorem qm4 (h : x0 ∧ x1 ∧ x2 ∧ x3 ∧ @Ne Nat b a ∧ r) : @Ne Nat a b := Ne.symm h.2.2.2.2.1
theorem em4 (h : x0 ∧ x1 ∧ x2 ∧ x3 ∧ @Ne Nat b a) : @Ne Nat a b := Ne.symm h.2.2.2.2
theorem qg4 (h : x0 ∧ x1 ∧ x2 ∧ x3 ∧ @LT.lt Nat _ b a ∧ r) : @Ne Nat a b := Nat.ne_of_gt h.2.2.2.2.1
theorem ql4 (h : x0 ∧ x1 ∧ x2 ∧ x3 ∧ @LT.lt Nat _ a b ∧ r) : @Ne Nat a b := Nat.ne_of_lt h.2.2.2.2.1
theorem eg4 (h : x0 ∧ x1 ∧ x2 ∧ x3 ∧ @LT.lt Nat _ b a) : @Ne Nat a b := Nat.ne_of_gt h.2.2.2.2
theorem el4 (h : x0 ∧ x1 ∧ x2 ∧ x3 ∧ @LT.lt Nat _ a b) : @Ne Nat a b := Nat.ne_of_lt h.2.2.2.2
theorem qn5 (h : x0 ∧ x1 ∧ x2 ∧ x3 ∧ x4 ∧ @Ne Nat a b ∧ r) : @Ne Nat a b := h.2.2.2.2.2.1
theorem qm5 (h : x0 ∧ x1 ∧ x2 ∧ x3 ∧ x4 ∧ @Ne Nat b a ∧ r) : @Ne Nat a b := Ne.symm h.2.2.2.2.2.1
theorem em5 (h : x0 ∧ x1 ∧ x2 ∧ x3 ∧ x4 ∧ @Ne Nat b a) : @Ne Nat a b := Ne.symm h.2.2.2.2.2
theorem qg5 (h : x0 ∧ x1 ∧ x2 ∧ x3 ∧ x4 ∧ @LT.lt Nat _ b a ∧ r) : @Ne Nat a b := Nat.ne_of_gt h.2.2.2.2.2.1
theorem el5 (h : x0 ∧ x1 ∧ x2 ∧ x3 ∧ x4 ∧ @LT.lt Nat _ a b) : @Ne Nat a b := Nat.ne_of_lt h.2.2.2.2.2
theorem qm6 (h : x0 ∧ x1 ∧ x2 ∧ x3 ∧ x4 ∧ x5 ∧ @Ne Nat b a ∧ r) : @Ne Nat a b := Ne.symm h.2.2.2.2.2.2.1
theorem em6 (h : x0 ∧ x1 ∧ x2 ∧ x3 ∧ x4 ∧ x5 ∧ @Ne Nat b a) : @Ne Nat a b := Ne.symm h.2.2.2.2.2.2
theorem qg6 (h : x0 ∧ x1 ∧ x2 ∧ x3 ∧ x4 ∧ x5 ∧ @LT.lt Nat _ b a ∧ r) : @Ne Nat a b := Nat.ne_of_gt h.2.2.2.2.2.2.1
theorem qm8 (h : x0 ∧ x1 ∧ x2 ∧ x3 ∧ x4 ∧ x5 ∧ x6 ∧ x7 ∧ @Ne Nat b a ∧ r) : @Ne Nat a b := Ne.symm h.2.2.2.2.2.2.2.2.1
theorem qm9 (h : x0 ∧ x1 ∧ x2 ∧ x3 ∧ x4 ∧ x5 ∧ x6 ∧ x7 ∧ x8 ∧ @Ne Nat b a ∧ r) : @Ne Nat a b := Ne.symm h.2.2.2.2.2.2.2.2.2.1
theorem em10 (h : x0 ∧ x1 ∧ x2 ∧ x3 ∧ x4 ∧ x5 ∧ x6 ∧ x7 ∧ x8 ∧ x9 ∧ @Ne Nat b a) : @Ne Nat a b := Ne.symm h.2.2.2.2.2.2.2.2.2.2
end
theorem nm1 {a b : Addr} (h : a ≠ b) : a ∉ [b] := fun q => h (List.mem_singleton.mp q)
theorem nm2 {a b c : Addr} {o1 o2 : Obj} (h : a ≠ b) (h' : a ≠ c) : a ∉ [(b, o1), (c, o2)].map (·.1) := fun q => (List.mem_cons.mp q).elim h fun q => h' (List.mem_singleton.mp q)
end
section
open PySem PySem.W PyProof.Rows PySem.Calls
abbrev prog0 := PySem.Challenge.pw_xw0010_01
structure Wd (w : World) (mg mb : Str → Option Value) (hB : Heap) : Prop where
 X : (hd.heap_39 w.params).In hB
 T : TopRead hd.view_39 (looseW hd.view_39 hd.loose) mg mb hB
theorem enter0 {w : World} {mg mb : Str → Option Value} {hB : Heap} {A : Around} {R : Result → Shared → Prop} {s : Shared} {news : List (Addr × Obj)}
  {name : Str} {params : Arguments} {body : List Stmt} {scope : Scope} {pm cd doc : Value} {f : Addr} {oc : Value} {od : Option Addr} {osl : Array (Option Value)} {args : List Value} {binds : List (Str × Value)}
  (W : Wd w mg mb hB) (st : hB.StaysIn s.heap) (N : ∀ q ∈ news, s.heap.get? q.1 = some q.2 ∧ hB.get? q.1 = none)
  (hroom : A.depth < recursionLimit)
  (ho : (hd.heap_39 w.params).lookup f = some ⟨oc, od, .func (docDef name params body scope pm cd doc), osl⟩) (hcd : codeIn (hd.heap_39 w.params) cd name = true)
  (hbind : bindArgs (docDef name params body scope pm cd doc) ⟨args, []⟩ = pure binds)
  (hloc : ∀ x ∈ binds, scope.names.lookup x.1 = some .local)
  (h : ∀ g L h₁, hB.StaysIn g → (∀ b o, s.heap.get? b = some o → b ∉ news.map (·.1) → g.get? b = some o) → (∀ b o, g.get? b = some o → s.heap.get? b = some o) → Fr g L h₁ (fun x => binds.reverse.lookup x) → News g L h₁ news → (hd.heap_39 w.params).In g →
   TopRead hd.view_39 (looseW hd.view_39 hd.loose) mg mb g → AllLt L news →
   wpAny (model prog0 w) (A.deeper (envOf name scope L f cd)) (execs body (envOf name scope L f cd))
    (fun fl s' => R (.ok (.ret (match fl with | .ret v => v | _ => .none))) s') (fun _ _ => False)
    { s with heap := h₁, toks := s.toks + binds.length })
  (hco : scope.isCoroutine = false) (hgen : scope.isGenerator = false) (hk : scope.kind = .function) (hcell : ∀ x ∈ scope.names, x.2 ≠ .cell) :
  codeAny (model prog0 w) A (.call (.ref f) ⟨args, []⟩) R s := by
 have hs := st
 refine call_plain_ret hroom (hs _ _ (W.X _ _ ho)) rfl (W.T.nolimit.keeps hs) (codeRec_of (W.X.keeps hs) hcd) hbind hloc (fun h₁ F => ?_) hco hgen hk hcell
 have st' : hB.StaysIn (hideAll s.heap (news.map (·.1))) := fun b o e => hideAll_get _ (st b o e) fun hm => by
  (refine xEAL (List.mem_map.mp hm) fun q hq z0x2 => ?_; subst z0x2)
  rw [(N q hq).2] at e; cases e
 refine h (hideAll s.heap (news.map (·.1))) _ h₁ st' (fun b o e hb => hideAll_get _ e hb) (fun b o e => of_hideAll _ e)
  ⟨F.ns, fun b o e => F.keep b o (of_hideAll _ e), Nat.le_of_eq (hideAll_size _ _)⟩ (fun q hq => ⟨F.keep _ _ (N q hq).1, Nat.ne_of_lt (Heap.lt_size (N q hq).1), hideAll_none _ (List.mem_map_of_mem hq)⟩)
  (W.X.keeps fun b o e => st' b o e) (W.T.keeps fun b o e => st' b o e) (allLt_of fun q hq => Heap.lt_size (N q hq).1)
end
section
open PySem PySem.W PyProof.Rows PySem.Calls
theorem fill_it : hd.heap_39 = hd.heap_39 ∧ PySem.Challenge.rw_xw0010_01 = PySem.Challenge.rw_xw0010_01 := by
 k_fill
 exact ⟨rfl, rfl⟩
theorem stays_of {hB g h : Heap} {L : Addr} {m : Str → Option Value} (S : hB.StaysIn g) (F : Fr g L h m) : hB.StaysIn h := fun b o e => F.keep b o (S b o e)
abbrev Keeps (h h' : Heap) : Prop := ∀ b o, h.get? b = some o → h'.get? b = some o
theorem newsK {g h h' : Heap} {L : Addr} {news : List (Addr × Obj)} (N : News g L h news) (hk : Keeps h h') : News g L h' news :=
 fun p hp => ⟨hk _ _ (N p hp).1, (N p hp).2⟩
abbrev NewIn (h h' : Heap) (l : List (Addr × Obj)) : Prop := ∀ p ∈ l, h'.get? p.1 = some p.2 ∧ h.get? p.1 = none
theorem newsJ {g h h' : Heap} {L : Addr} {m : Str → Option Value} {news more : List (Addr × Obj)} (F : Fr g L h m) (N : News g L h news) (hk : Keeps h h') (hn : NewIn h h' more) : News g L h' (more ++ news) := by
 intro p hp
 rcases List.mem_append.mp hp with hp | hp
 ·refine xAL (hn p hp) fun h1 h2 => ?_
  refine ⟨h1, fun e => ?_, ?_⟩
  ·refine xEEEAL (F.ns) fun oL _ _ hL _ => ?_
   rw [e, hL] at h2; cases h2
  ·cases q : g.get? p.1 with
   | none => rfl
   | some o => rw [F.keep _ _ q] at h2; cases h2
 ·exact newsK N hk p hp
def AllNe (d : Addr) : List (Addr × Obj) → Prop
 | [] => True
 | p :: r => @Ne Nat p.1 d ∧ AllNe d r
theorem allNe_of {g h : Heap} {L a : Addr} {l : List (Addr × Obj)} (N : News g L h l) (e : h.get? a = none) : AllNe a l := by
 induction l with
 | nil => trivial
 | cons p r ih =>
  refine ⟨fun q => ?_, ih fun x hx => N x (.tail _ hx)⟩
  have := (N p (.head _)).1
  rw [q, e] at this
  cases this
theorem wpAny_weak {α : Type} {M : Model} {A A' : Around} {t : Sem α} {Q : α → Shared → Prop} {E : Value → Shared → Prop} {s : Shared} (hh : A.handled = A'.handled) (hd : A.depth ≤ A'.depth) (hf : A'.frames = none) (hg : A'.guards = none) (hu : A.units ≤ A'.units)
  (h : wpAny M A' t Q E s) : wpAny M A t Q E s := fun Γ p hΓ =>
 h Γ p ⟨hΓ.1.trans hh, Nat.le_trans hΓ.2.1 hd, (fun l hl => by rw [hf] at hl; cases hl), (fun l hl => by rw [hg] at hl; cases hl), Nat.le_trans hΓ.2.2.2.2 hu⟩
abbrev AX : Around := { handled := none, depth := 600, frames := none, guards := none, units := 3000 }
theorem memKeep {h h' : Heap} {news : List (Addr × Obj)} (D : X.Mem h h' [] news) : Keeps h h' := fun b o e => D.keep b o e (Bool.or_eq_true_iff.mpr (.inr rfl))
theorem foldQ {α : Type} {M : Model} {A : Around} {t : Sem α} {Q : α → Shared → Prop} {E : Value → Shared → Prop} {s : Shared} (h : let q := Q; wpAny M A t q E s) : wpAny M A t Q E s := h
theorem foldA {α : Type} {M : Model} {A : Around} {t : Sem α} {Q : α → Shared → Prop} {E : Value → Shared → Prop} {s : Shared} (h : let a := A; wpAny M a t Q E s) : wpAny M A t Q E s := h
theorem foldG {P : Prop} (h : let g := P; g) : P := h
theorem om0 {a n m : Nat} (h : a ≤ n) (e : Nat.ble n m = true) : a ≤ m := Nat.le_trans h (Nat.le_of_ble_eq_true e)
theorem om1 {a n k m : Nat} (h : a ≤ n) (e : Nat.ble (n + k) m = true) : a + k ≤ m := Nat.le_trans (Nat.add_le_add_right h k) (Nat.le_of_ble_eq_true e)
theorem om2 {a n k j m : Nat} (h : a ≤ n) (e : Nat.ble (n + k + j) m = true) : a + k + j ≤ m := Nat.le_trans (Nat.add_le_add_right (Nat.add_le_add_right h k) j) (Nat.le_of_ble_eq_true e)
theorem om3 {a n k j i m : Nat} (h : a ≤ n) (e : Nat.ble (n + k + j + i) m = true) : a + k + j + i ≤ m := Nat.le_trans (Nat.add_le_add_right (Nat.add_le_add_right (Nat.add_le_add_right h k) j) i) (Nat.le_of_ble_eq_true e)
theorem ol0 {a n m : Nat} (h : a ≤ n) (e : Nat.ble (n + 1) m = true) : a < m := om1 (k := 1) h e
theorem ol1 {a n k m : Nat} (h : a ≤ n) (e : Nat.ble (n + k + 1) m = true) : a + k < m := om2 (j := 1) h e
theorem ol2 {a n k j m : Nat} (h : a ≤ n) (e : Nat.ble (n + k + j + 1) m = true) : a + k + j < m := om3 (i := 1) h e
theorem nNil {b : Addr} : b ∉ ([] : List (Addr × Obj)).map (·.1) := List.not_mem_nil
theorem tupEl {h : Heap} {a : Addr} {xs : Array Value} {G : Prop} (i : IsTup h a xs) (k : ∀ d n sl, h.get? a = some { cls := .type "tuple", dict := d, data := .seq xs n, slots := sl } → G) : G := by
 (refine xEAAEL i fun z0x0 ho hc n hd => ?_; try clear i; obtain ⟨c, d, da, sl⟩ := z0x0)
 dsimp only at hc hd
 subst hc hd
 exact k d n sl ho
end
section
open PySem PySem.W PyProof.Rows PySem.Calls PySem.Spec
theorem said_1 : True := by
 k_with "a" => ((rename Fr _ _ _ _ => fF; rename News _ _ _ _ => nN))
 k_with "b" => (((try dsimp only [Around.deeper]); first | exact ol1 (by assumption) rfl | exact ol2 (by assumption) rfl | omega))
 k_with "c" => (exact inst_base (by with_reducible assumption) (by assumption) (by assumption))
 k_with "d" => (((with_reducible show wpAny _ _ (subscriptTail _ _ (Value.ref _) (Value.int _ _)) _ _ _); k_dflt (refine item_tupleT (by first | exact Fr.tup (by assumption) (by with_reducible assumption) | with_reducible assumption) (by decide) (by decide) (by rfl) (by rfl) ?_; k_whole)))
 k_with "e" => (((with_reducible show wpAny _ _ (assign (Expr.Tuple _ _ _) _ (Value.ref _)) _ _ _); k_dflt (refine unpackN_ (by k_asm) (by k_asm) (by first | exact Fr.tup (by assumption) (by with_reducible assumption) | with_reducible assumption) (by rfl) (by rfl) (by rfl) ?_); intro _ _ _; (try k_sweep)))
 k_with "f" => (k_dflt ((first | ((with_reducible show wpAny _ _ (eval (.Subscript _ _ _) _) _ _ _); refine subS (by k_asm) (by rfl) (by rfl) (by rfl) ?_) | ((with_reducible show wpAny _ _ (isTrue (.Compare _ [_] [_] _) _ _) _ _ _); refine cmpS (by k_asm) (by rfl) (by rfl) (by rfl) ?_ (by rfl)) | ((with_reducible show wpAny _ _ (eval (.Attribute (.Name _ _) _ _) _) _ _ _); refine attS (by k_asm) (by rfl) (by rfl) ?_) | ((with_reducible show wpAny _ _ (exec (.Return (some _) _) _) _ _ _); refine retS (by k_asm) (by rfl) (by rfl) ?_) | ((with_reducible show wpAny _ _ (exec (.Assign [.Attribute _ _ _] _ _) _) _ _ _); refine setS (by k_asm) (by rfl) (by rfl) (by rfl) ?_ (by rfl)) | ((with_reducible show wpAny _ _ (eval (.BinOp _ _ _ _) _) _ _ _); refine binS (by k_asm) (by rfl) (by rfl) (by rfl) ?_) | ((with_reducible show wpAny _ _ (eval (.Compare _ [_] [_] _) _) _ _ _); refine cmpE (by k_asm) (by rfl) (by rfl) (by rfl) ?_ (by rfl)) | ((with_reducible show wpAny _ _ (isTrue (.Call (.Name (Str.ofString "isinstance") _) [_, .Name _ _] [] _) _ _) _ _ _); refine isiT (by k_asm) (by k_asm) (by k_asm) (by rfl) (by k_is) (by rfl) (by rfl) (by rfl) (by decide) ?_) | ((with_reducible show wpAny _ _ (spliced (backTo _ (starEach (_ :: _) _))) _ _ _); (with_reducible refine' argsS ?aF ?aH ?_ ?aK); (case aF => k_asm); (case aH => rfl); (case aK => rfl); (try dsimp only [List.nil_append, List.cons_append]))); k_whole))
 k_with "g" => (first | ((with_reducible show wpAny _ _ (eval (PySem.Expr.Call (PySem.Expr.Name _ _) (_ :: _) [] _) _) _ _ _); k_dflt (refine callS (by k_asm) (by k_asm) (by k_asm) (by k_is) (by k_is) (by rfl) ?_ (by rfl) (by rfl) (by decide); k_whole)) | ((with_reducible show wpAny _ _ (exec _ _) _ _ _); (fail_if_success (fail_if_success k_fold)); refine foldQ ?_; intro qk; first | k_extra "f" | walk1) | k_extra "f" | walk1 | (dsimp only; walk1) | (leave1; try dsimp only))
 k_with "h" => ((first | ((with_reducible show wpAny _ _ (execs [_] _) _ _ _); (fail_if_success k_fold); refine execs1 ?_) | ((with_reducible show wpAny _ _ (execs (_ :: _) _) _ _ _); refine execsC fun qk hqn hqr => ?_) | ((with_reducible show qk _ _); (first | refine hqn _ ?_ | refine hqr _ _ nRet ?_ | refine hqr _ _ nBrk ?_ | refine hqr _ _ nCont ?_); (try clear hqn hqr qk); (try dsimp only)) | ((with_reducible show qk _ _); dsimp only [qk]; (try clear qk)) | (k_unfold; (try dsimp only); (try clear qk)) | (k_end; wrow_close)))
 k_with "i" => (((case W => assumption); (case st => exact stays_of (by assumption) (by assumption)); (case hd => (dsimp only; first | exact om1 (by assumption) rfl | omega)); (case hu => (dsimp only; first | exact om1 (by assumption) rfl | omega))))
 k_with "j" => (((case ho => k_is); (case hcd => k_is); (case hb => rfl); (case hl => exact locs rfl); (case c1 => rfl); (case c2 => rfl); (case c3 => rfl); (case c4 => decide); try (case hroom => show _ < recursionLimit; exact ol0 (by assumption) rfl)))
 exact True.intro
local macro_rules | `(tactic| k_inst) => `(tactic| k_extra "c")
local macro_rules | `(tactic| walk_at "subscriptTail") => `(tactic| k_extra "d")
local macro_rules | `(tactic| walk_at "assign Tuple") => `(tactic| k_extra "e")
section
theorem said_2 : True := by
 k_with "k" => ((refine neN ?_; (try dsimp only); first | exact qn0 (by assumption) | exact qm0 (by assumption) | exact en0 (by assumption) | exact em0 (by assumption) | exact qg0 (by assumption) | exact ql0 (by assumption) | exact eg0 (by assumption) | exact el0 (by assumption) | exact qn1 (by assumption) | exact qm1 (by assumption) | exact em1 (by assumption) | exact qg1 (by assumption) | exact ql1 (by assumption) | exact eg1 (by assumption) | exact el1 (by assumption) | exact qm2 (by assumption) | exact en2 (by assumption) | exact em2 (by assumption) | exact qg2 (by assumption) | exact ql2 (by assumption) | exact eg2 (by assumption) | exact qm3 (by assumption) | exact em3 (by assumption) | exact qg3 (by assumption) | exact ql3 (by assumption) | exact eg3 (by assumption) | exact el3 (by assumption) | exact qm4 (by assumption) | exact em4 (by assumption) | exact qg4 (by assumption) | exact ql4 (by assumption) | exact eg4 (by assumption) | exact el4 (by assumption) | exact qn5 (by assumption) | exact qm5 (by assumption) | exact em5 (by assumption) | exact qg5 (by assumption) | exact el5 (by assumption) | exact qm6 (by assumption) | exact em6 (by assumption) | exact qg6 (by assumption) | exact qm8 (by assumption) | exact qm9 (by assumption) | exact em10 (by assumption)))
 k_with "l" => (k_dflt (refine get_own (by k_asm) (by k_asm) (by k_inst) (by k_is) (by k_is) (by k_is) (by k_is) (by assumption) (by k_handed) ?_; k_whole))
 k_with "m" => ((k_dflt (refine whl_start 100 ?_)))
 k_with "n" => ((k_dflt (first | (with_unfolding_all refine' SeqAt.eq_list_lengthsAt ?k1 ?k2 ?k3 ?k4 ?_; (case k1 => is_list); (case k2 => is_list); (case k3 => exact rfl); (case k4 => (show _ < 9900; dsimp only [Around.deeper]; first | exact ol1 (by assumption) rfl | exact ol2 (by assumption) rfl | omega)); k_whole) | (with_unfolding_all refine' ke_eq_ints ?k1 ?k2 ?k5 ?k6 ?k4 ?_; (case k1 => is_list); (case k2 => is_list); (case k5 => exact .nil); (case k6 => exact .nil); (case k4 => (show _ + 64 < 9900; dsimp only [Around.deeper]; first | exact ol1 (by assumption) rfl | exact ol2 (by assumption) rfl | omega)); k_whole))))
 k_with "o" => ((k_dflt (first | (with_unfolding_all refine' ne_list_lens ?k1 ?k2 ?k3 ?k4 ?_; (case k1 => is_list); (case k2 => is_list); (case k3 => exact rfl); (case k4 => (show _ < 9900; dsimp only [Around.deeper]; first | exact ol1 (by assumption) rfl | exact ol2 (by assumption) rfl | omega)); k_whole) | (with_unfolding_all refine' ke_ne_ints ?k1 ?k2 ?k5 ?k6 ?k4 ?_; (case k1 => is_list); (case k2 => is_list); (case k5 => exact .nil); (case k6 => exact .nil); (case k4 => (show _ + 64 < 9900; dsimp only [Around.deeper]; first | exact ol1 (by assumption) rfl | exact ol2 (by assumption) rfl | omega)); k_whole))))
 k_with "p" => (exact listK (by with_reducible assumption) (Fr.keep (by assumption)))
 exact True.intro
local macro_rules | `(tactic| k_ne) => `(tactic| k_extra "k")
local macro_rules | `(tactic| walk_at "getAttr ref") => `(tactic| k_extra "l")
local macro_rules | `(tactic| walk_at "exec While") => `(tactic| k_extra "m")
local macro_rules | `(tactic| walk_at "compareOp Eq ref ref") => `(tactic| k_extra "n")
local macro_rules | `(tactic| walk_at "compareOp NotEq ref ref") => `(tactic| k_extra "o")
local macro_rules | `(tactic| is_list) => `(tactic| k_extra "p")
section
open PySem PySem.W PyProof.Rows PySem.Calls
theorem enterM {w : World} {mg mb : Str → Option Value} {hB : Heap} {A : Around} {R : Result → Shared → Prop} {s : Shared} {news : List (Addr × Obj)}
  {name qual : Str} {params : Arguments} {body : List Stmt} {scope : Scope} {pm cd doc : Value} {f : Addr} {oc : Value} {od : Option Addr} {osl : Array (Option Value)} {args : List Value} {binds : List (Str × Value)}
  (W : Wd w mg mb hB) (st : hB.StaysIn s.heap) (N : ∀ q ∈ news, s.heap.get? q.1 = some q.2 ∧ hB.get? q.1 = none)
  (hroom : A.depth < recursionLimit)
  (ho : (hd.heap_39 w.params).lookup f = some ⟨oc, od, .func (fnOf name qual params body scope .none .none doc pm none cd .none), osl⟩) (hcd : codeIn (hd.heap_39 w.params) cd qual = true)
  (hbind : bindArgs (fnOf name qual params body scope .none .none doc pm none cd .none) ⟨args, []⟩ = pure binds)
  (hloc : ∀ x ∈ binds, scope.names.lookup x.1 = some .local)
  (h : ∀ g L h₁, hB.StaysIn g → (∀ b o, s.heap.get? b = some o → b ∉ news.map (·.1) → g.get? b = some o) → Fr g L h₁ (fun x => binds.reverse.lookup x) → News g L h₁ news → (hd.heap_39 w.params).In g →
   TopRead hd.view_39 (looseW hd.view_39 hd.loose) mg mb g →
   wpAny (model prog0 w) (A.deeper (envOf qual scope L f cd)) (execs body (envOf qual scope L f cd))
    (fun fl s' => R (.ok (.ret (match fl with | .ret v => v | _ => .none))) s') (fun _ _ => False)
    { s with heap := h₁, toks := s.toks + binds.length })
  (hco : scope.isCoroutine = false) (hgen : scope.isGenerator = false) (hk : scope.kind = .function) (hcell : ∀ x ∈ scope.names, x.2 ≠ .cell) :
  codeAny (model prog0 w) A (.call (.ref f) ⟨args, []⟩) R s := by
 have hs := st
 refine codeAny_call_def (fd := fnOf name qual params body scope .none .none doc pm none cd .none) (body := body) (binds := binds) hroom (hs _ _ (W.X _ _ ho)) rfl (W.T.nolimit.keeps hs) (codeRec_of (W.X.keeps hs) hcd) rfl (.of_eq hbind) hcell hloc (fun h₁ hns hk₁ => ?_) hco hgen hk
 have st' : hB.StaysIn (hideAll s.heap (news.map (·.1))) := fun b o e => hideAll_get _ (st b o e) fun hm => by
  (refine xEAL (List.mem_map.mp hm) fun q hq z3x2 => ?_; subst z3x2)
  rw [(N q hq).2] at e; cases e
 exact wpAny_mono (h (hideAll s.heap (news.map (·.1))) _ h₁ st' (fun b o e hb => hideAll_get _ e hb)
  ⟨hns, fun b o e => hk₁ b o (of_hideAll _ e), Nat.le_of_eq (hideAll_size _ _)⟩ (fun q hq => ⟨hk₁ _ _ (N q hq).1, Nat.ne_of_lt (Heap.lt_size (N q hq).1), hideAll_none _ (List.mem_map_of_mem hq)⟩)
  (W.X.keeps fun b o e => st' b o e) (W.T.keeps fun b o e => st' b o e)) (fun _ _ x => x) (fun _ _ x => x.elim)
theorem mk0 {w : World} {mg mb : Str → Option Value} {hB : Heap} {C f : Addr} {s : Shared} {A : Around} {args : List Value} {binds : Addr → List (Str × Value)} {Q : Value → Shared → Prop} {E : Value → Shared → Prop}
  {name qual : Str} {params : Arguments} {body : List Stmt} {scope : Scope} {pm cd doc : Value} {oc : Value} {od : Option Addr} {osl : Array (Option Value)}
  (W : Wd w mg mb hB) (st : hB.StaysIn s.heap) (hh : A.handled = none) (hdd : A.depth ≤ 600)
  (hm : makesIn (hd.heap_39 w.params) C = true) (hi : findIn (hd.heap_39 w.params) (.ref C) "__init__" = some (some (.ref f))) (hf : typeIn (hd.heap_39 w.params) (.ref f) = some (.type "function"))
  (ho : (hd.heap_39 w.params).lookup f = some ⟨oc, od, .func (fnOf name qual params body scope .none .none doc pm none cd .none), osl⟩) (hcd : codeIn (hd.heap_39 w.params) cd qual = true)
  (hbind : ∀ x, bindArgs (fnOf name qual params body scope .none .none doc pm none cd .none) ⟨.ref x :: args, []⟩ = pure (binds x)) (hloc : ∀ x, ∀ y ∈ binds x, scope.names.lookup y.1 = some .local)
  (h : ∀ (A' : Around) x dx g L h₁ tk, A'.handled = none → @Ne Nat x dx → s.heap.get? x = none → s.heap.get? dx = none → (∀ b o, s.heap.get? b = some o → h₁.get? b = some o) → dx < x → Fr g L h₁ (fun y => (binds x).reverse.lookup y) →
   News g L h₁ [(x, instObj C dx), (dx, dictOf [] 0)] → (hd.heap_39 w.params).In g → TopRead hd.view_39 (looseW hd.view_39 hd.loose) mg mb g → (∀ b o, s.heap.get? b = some o → g.get? b = some o) →
   wpAny (model prog0 w) (A'.deeper (envOf qual scope L f cd)) (execs body (envOf qual scope L f cd))
    (fun fl s' => (match fl with | .ret v => v | _ => .none) = .none ∧ Q (.ref x) s') (fun _ _ => False) { s with heap := h₁, toks := tk })
  (hco : scope.isCoroutine = false) (hgen : scope.isGenerator = false) (hk : scope.kind = .function) (hcell : ∀ x ∈ scope.names, x.2 ≠ .cell) :
  wpAny (model prog0 w) A (call (.ref C) args) Q E s := by
 refine wpAny_call ?_
 obtain ⟨H, gn, d, t, os⟩ := s
 have X := W.X.keeps st
 refine make_core (makes_of X hm) (looks_findIn X hi) (fun self => bind_fn X self hf) (.inl rfl) ?_
 have kp : ∀ b o, H.get? b = some o → ((H.push emptyDict).push (instObj C H.objs.size)).get? b = some o := fun b o e => Heap.get?_push_of_some _ (Heap.get?_push_of_some _ e)
 have n1 : H.get? (H.objs.size + 1) = none := by
  cases q : H.get? (H.objs.size + 1) with
  | none => rfl
  | some o => exact absurd (Heap.lt_size q) (Nat.not_lt.mpr (Nat.le_succ _))
 have n2 : H.get? H.objs.size = none := by
  cases q : H.get? H.objs.size with
  | none => rfl
  | some o => exact absurd (Heap.lt_size q) (Nat.lt_irrefl _)
 have g2 : ((H.push emptyDict).push (instObj C H.objs.size)).get? H.objs.size = some emptyDict := Heap.get?_push_of_some _ (Heap.get?_push_size _ rfl)
 have g1 : ((H.push emptyDict).push (instObj C H.objs.size)).get? (H.objs.size + 1) = some (instObj C H.objs.size) := by
  have := Heap.get?_push_size (H.push emptyDict) (o := instObj C H.objs.size) rfl
  rwa [Heap.size_push] at this
 have hBn : ∀ {b : Addr}, H.get? b = none → hB.get? b = none := fun {b} e => by
  cases q : hB.get? b with
  | none => rfl
  | some o => rw [st _ _ q] at e; cases e
 refine' enterM (news := [(H.objs.size + 1, instObj C H.objs.size), (H.objs.size, dictOf [] 0)]) (binds := binds (H.objs.size + 1)) W (fun b o e => kp b o (st b o e)) ?nw ?room ho hcd (hbind _) (hloc _) ?bd hco hgen hk hcell
 case nw =>
  intro q hq
  rcases List.mem_cons.mp hq with rfl | hq
  ·exact ⟨g1, hBn n1⟩
  ·rw [List.mem_singleton.mp hq]; exact ⟨g2, hBn n2⟩
 case room =>
  have : (Around.under A (.builtin "type.__call__" ⟨.ref C :: args, []⟩)).depth = A.depth + 1 := rfl
  show (Around.under A (.builtin "type.__call__" ⟨.ref C :: args, []⟩)).depth < recursionLimit
  rw [this]; simp [recursionLimit]; omega
 case bd =>
  intro g L h₁ S1 S2 F' N' KX' T'
  have in1 : H.objs.size + 1 ≠ H.objs.size := by omega
  have nm : ∀ b o, H.get? b = some o → b ∉ [(H.objs.size + 1, instObj C H.objs.size), (H.objs.size, dictOf [] 0)].map (·.1) := by
   intro b o e hq
   have hq : b = H.objs.size + 1 ∨ b = H.objs.size := by simpa using hq
   rcases hq with rfl | rfl
   ·rw [n1] at e; cases e
   ·rw [n2] at e; cases e
  refine wpAny_mono (h _ _ _ g L h₁ _ ?hh in1 n1 n2 (fun b o e => F'.keep _ _ (S2 b o (kp b o e) (nm b o e))) (Nat.lt_succ_self _) F' N' KX' T' (fun b o e => S2 b o (kp b o e) (nm b o e))) ?x (fun _ _ x => x)
  case hh => exact hh
  case x =>
   intro fl s' x
   exact ⟨x.1, x.2⟩
section
variable {M : Model} {A : Around} {E : Value → Shared → Prop} {s : Shared} {env : Env} {st : Stmt} {rest : List Stmt} {Q : Flow → Shared → Prop}
theorem execsC (h : ∀ qk : Flow → Shared → Prop, (∀ s', wpAny M A (execs rest env) Q E s' → qk .next s') → (∀ f s', (f = .next → False) → Q f s' → qk f s') → wpAny M A (exec st env) qk E s) : wpAny M A (execs (st :: rest) env) Q E s :=
 wpAny_execs_cons (h _ (fun _ x => x) fun f _ n x => by cases f <;> first | exact x | exact (n rfl).elim)
theorem nRet {v : Value} (e : Flow.ret v = .next) : False := nomatch e
theorem nBrk (e : Flow.brk = .next) : False := nomatch e
theorem nCont (e : Flow.cont = .next) : False := nomatch e
theorem execs1 (h : wpAny M A (exec st env) Q E s) : wpAny M A (execs [st] env) Q E s :=
 wpAny_execs_cons (wpAny_mono h (fun f s' x => by cases f <;> first | exact x | exact wpAny_execs_nil x) fun _ _ e => e)
end
def svT (cs : Scope) (m : Str → Option Value) (t : Nat) (e : Expr) : Option (Value × Nat) := match e with
 | .Name x _ => if cs.names.lookup x = some .local then (if (x == ("__debug__" : Str)) = false then (m x).map fun v => (v, t) else none) else none
 | .Constant c _ _ => match c with
  | .none => some (.none, t)
  | .bool b => some (.bool b, t)
  | .int i => some (.int i t, t + 1)
  | .str x => some (.str x t, t + 1)
  | _ => none
 | _ => none
def svTs (cs : Scope) (m : Str → Option Value) (t : Nat) (es : List Expr) : Option (List Value × Nat) := match es with
 | [] => some ([], t)
 | e :: r => (svT cs m t e).bind fun p => (svTs cs m p.2 r).map fun q => (p.1 :: q.1, q.2)
section
variable {M : Model} {A : Around} {E : Value → Shared → Prop} {h₀ hh : Heap} {g : Array GenState} {d : Drawn} {o : OsState} {t t' t'' : Nat} {L a : Addr} {m : Str → Option Value} {cn : Str} {cs : Scope} {ccd : Value} {cl : List (Str × Addr)} {pos : Pos} {e e1 e2 : Expr} {v v1 v2 : Value}
theorem sv_ok (F : Fr h₀ L hh m) (hk : cs.kind = .function) (h : svT cs m t e = some (v, t')) :
  (∀ r, starEach (e :: r) (envX cn cs L a ccd cl) = (false, eval e (envX cn cs L a ccd cl)) :: starEach r (envX cn cs L a ccd cl)) ∧ ∀ (Q : Value → Shared → Prop), Q v ⟨hh, g, d, t', o⟩ → wpAny M A (eval e (envX cn cs L a ccd cl)) Q E ⟨hh, g, d, t, o⟩ := by
 cases e
 case Name x p =>
  refine ⟨fun _ => rfl, fun Q q => ?_⟩
  unfold svT at h
  dsimp only at h
  by_cases h1 : cs.names.lookup x = some .local
  ·by_cases h2 : (x == ("__debug__" : Str)) = false
   ·rw [if_pos h1, if_pos h2] at h
    cases h3 : m x with
    | none => rw [h3] at h; cases h
    | some u => rw [h3] at h; cases h; exact nameX_L F h3 q hk h1 h2
   ·rw [if_pos h1, if_neg h2] at h; cases h
  ·rw [if_neg h1] at h; cases h
 case Constant c k p =>
  refine ⟨fun _ => rfl, fun Q q => ?_⟩
  cases c <;> first | exact nomatch (show none = some _ from h) | (cases h; exact fun _ _ _ => q)
 all_goals exact nomatch (show none = some _ from h)
theorem svs_ok (F : Fr h₀ L hh m) (hk : cs.kind = .function) {es : List Expr} {vs : List Value} (h : svTs cs m t es = some (vs, t')) :
  (backTo pos (starEach es (envX cn cs L a ccd cl))).any (·.1) = false ∧ ∀ (Q : List Value → Shared → Prop), Q vs ⟨hh, g, d, t', o⟩ → wpAny M A (spliced (backTo pos (starEach es (envX cn cs L a ccd cl)))) Q E ⟨hh, g, d, t, o⟩ := by
 induction es generalizing t vs with
 | nil => cases h; exact ⟨rfl, fun Q q => args_nil q⟩
 | cons e r ih =>
  unfold svTs at h
  cases h1 : svT cs m t e with
  | none => rw [h1] at h; cases h
  | some p =>
   rw [h1] at h
   dsimp only [Option.bind] at h
   cases h2 : svTs cs m p.2 r with
   | none => rw [h2] at h; cases h
   | some q =>
    rw [h2] at h
    cases h
    have z := ih h2
    have y := sv_ok (M := M) (A := A) (E := E) (g := g) (d := d) (o := o) (cn := cn) (a := a) (ccd := ccd) (cl := cl) F hk h1
    refine ⟨by rw [y.1 r]; exact z.1, fun Q q => ?_⟩
    exact args_cons (y.2 _ (z.2 _ q)) (y.1 r)
theorem argsS {es : List Expr} {vs : List Value} {Q : List Value → Shared → Prop} (F : Fr h₀ L hh m) (ha : svTs cs m t es = some (vs, t')) (q : Q vs ⟨hh, g, d, t', o⟩) (hk : cs.kind = .function) :
  wpAny M A (spliced (backTo pos (starEach es (envX cn cs L a ccd cl)))) Q E ⟨hh, g, d, t, o⟩ := (svs_ok F hk ha).2 Q q
theorem nameS {Q : Value → Shared → Prop} (F : Fr h₀ L hh m) (h : svT cs m t e = some (v, t')) (hk : cs.kind = .function) (q : Q v ⟨hh, g, d, t', o⟩) : wpAny M A (eval e (envX cn cs L a ccd cl)) Q E ⟨hh, g, d, t, o⟩ := (sv_ok F hk h).2 Q q
theorem callS {K : Frag} {p : Program} {loose : List Str} {mg mb : Str → Option Value} {f : Str} {fp : Pos} {b : Addr} {r : List Expr} {vs : List Value} {Q : Value → Shared → Prop}
  (F : Fr h₀ L hh m) (X : K.In h₀) (T : TopRead p loose mg mb h₀) (hf : nsIn K mainGlobals f = some (some (.ref b))) (hb : keepIn K (.ref b) = true) (ha : svTs cs m t (e :: r) = some (vs, t'))
  (h : wpAny M A (call (.ref b) vs) Q E ⟨hh, g, d, t', o⟩)
  (hk : cs.kind = .function) (hx : (envX cn cs L a ccd cl).kindOf f = some .globalImplicit) (hd : (f == ("__debug__" : Str)) = false) :
  wpAny M A (eval (.Call (.Name f fp) (e :: r) [] pos) (envX cn cs L a ccd cl)) Q E ⟨hh, g, d, t, o⟩ := by
 refine Call_ (nameX_K F X T hf ?_ hk hx hd)
 have z := svs_ok (M := M) (A := A) (E := E) (g := g) (d := d) (o := o) (cn := cn) (a := a) (ccd := ccd) (cl := cl) (pos := pos) F hk ha
 cases h1 : svT cs m t e with
 | none => unfold svTs at ha; rw [h1] at ha; cases ha
 | some p =>
  have y := (sv_ok (M := M) (A := A) (E := E) (g := g) (d := d) (o := o) (cn := cn) (a := a) (ccd := ccd) (cl := cl) F hk h1).1 r
  refine callWith_of (by rw [z.1]; rfl) (keeps_K hb) ?_
  rw [y] at z ⊢
  exact evalArgs_plain (z.2 _ ⟨X.keeps F.keep, h⟩)
theorem subS {Q : Value → Shared → Prop} (F : Fr h₀ L hh m) (h1 : svT cs m t e1 = some (v1, t')) (h2 : svT cs m t' e2 = some (v2, t'')) (hk : cs.kind = .function)
  (h : wpAny M A (subscriptTail e1 e2 v1 v2) Q E ⟨hh, g, d, t'', o⟩) : wpAny M A (eval (.Subscript e1 e2 pos) (envX cn cs L a ccd cl)) Q E ⟨hh, g, d, t, o⟩ :=
 Subscript_ (nameS F h1 hk (nameS F h2 hk h))
theorem cmpS {op : CmpOp} {whole : Sem Value} {Q : Bool → Shared → Prop} (F : Fr h₀ L hh m) (h1 : svT cs m t e1 = some (v1, t')) (h2 : svT cs m t' e2 = some (v2, t'')) (hk : cs.kind = .function)
  (h : wpAny M A (compareOp op v1 v2) (fun c s₃ => wpAny M A (truthy c) Q E s₃) E ⟨hh, g, d, t'', o⟩) (hm : behindInMarks op e2 = false) : wpAny M A (isTrue (.Compare e1 [op] [e2] pos) (envX cn cs L a ccd cl) whole) Q E ⟨hh, g, d, t, o⟩ :=
 wpAny_isTrue_Compare1 (nameS F h1 hk (nameS F h2 hk h)) hm
theorem cmpE {op : CmpOp} {Q : Value → Shared → Prop} (F : Fr h₀ L hh m) (h1 : svT cs m t e1 = some (v1, t')) (h2 : svT cs m t' e2 = some (v2, t'')) (hk : cs.kind = .function)
  (h : wpAny M A (compareOp op v1 v2) Q E ⟨hh, g, d, t'', o⟩) (hm : behindInMarks op e2 = false) : wpAny M A (eval (.Compare e1 [op] [e2] pos) (envX cn cs L a ccd cl)) Q E ⟨hh, g, d, t, o⟩ :=
 wpAny_Compare1 (nameS F h1 hk (nameS F h2 hk h)) hm
theorem binS {op : Operator} {Q : Value → Shared → Prop} (F : Fr h₀ L hh m) (h1 : svT cs m t e1 = some (v1, t')) (h2 : svT cs m t' e2 = some (v2, t'')) (hk : cs.kind = .function)
  (h : wpAny M A (binaryOp op v1 v2) Q E ⟨hh, g, d, t'', o⟩) : wpAny M A (eval (.BinOp e1 op e2 pos) (envX cn cs L a ccd cl)) Q E ⟨hh, g, d, t, o⟩ :=
 wpAny_BinOp (nameS F h1 hk (nameS F h2 hk h))
theorem setS {attr : Str} {p2 : Pos} {Q : Flow → Shared → Prop} (F : Fr h₀ L hh m) (h1 : svT cs m t e1 = some (v1, t')) (h2 : svT cs m t' e2 = some (v2, t'')) (hk : cs.kind = .function)
  (h : wpAny M A (setAttr v2 attr v1) (fun _ => Q .next) E ⟨hh, g, d, t'', o⟩) (hs : swapsWith e1 (some (.Attribute e2 attr p2)) pos.line (envX cn cs L a ccd cl) = pure false) :
  wpAny M A (exec (.Assign [.Attribute e2 attr p2] e1 pos) (envX cn cs L a ccd cl)) Q E ⟨hh, g, d, t, o⟩ :=
 plainObj_wpAny_Assign_Attribute (nameS F h1 hk (nameS F h2 hk h)) hs
theorem attS {x attr : Str} {xp : Pos} {Q : Value → Shared → Prop} (F : Fr h₀ L hh m) (h1 : svT cs m t (.Name x xp) = some (v1, t')) (hk : cs.kind = .function)
  (h : wpAny M A (getAttr v1 attr true) Q E ⟨hh, g, d, t', o⟩) : wpAny M A (eval (.Attribute (.Name x xp) attr pos) (envX cn cs L a ccd cl)) Q E ⟨hh, g, d, t, o⟩ :=
 Attribute_Name_ (nameS F h1 hk h)
theorem retS {Q : Flow → Shared → Prop} (F : Fr h₀ L hh m) (h1 : svT cs m t e1 = some (v1, t')) (hk : cs.kind = .function) (h : Q (.ret v1) ⟨hh, g, d, t', o⟩) :
  wpAny M A (exec (.Return (some e1) pos) (envX cn cs L a ccd cl)) Q E ⟨hh, g, d, t, o⟩ :=
 wpAny_Return_some (nameS F h1 hk h)
theorem isiT {w : World} {mg mb : Str → Option Value} {c : Str} {C : Addr} {fp cp : Pos} {Q : Bool → Shared → Prop} (F : Fr h₀ L hh m) (X : (hd.heap_39 w.params).In h₀) (T : TopRead hd.view_39 (looseW hd.view_39 hd.loose) mg mb h₀)
  (h1 : svT cs m t e1 = some (v, t')) (hC : nsIn (hd.heap_39 w.params) mainGlobals c = some (some (.ref C))) (hk : cs.kind = .function) (hx : (envX cn cs L a ccd cl).kindOf (Str.ofString "isinstance") = some .globalImplicit) (hc : (envX cn cs L a ccd cl).kindOf c = some .globalImplicit) (hd : (c == ("__debug__" : Str)) = false)
  (h : wpAny (model prog0 w) A (call (.builtin "isinstance") [v, .ref C]) (fun b s₁ => wpAny (model prog0 w) A (truthy b) Q E s₁) E ⟨hh, g, d, t', o⟩) :
  wpAny (model prog0 w) A (isTrue (.Call (.Name (Str.ofString "isinstance") fp) [e1, .Name c cp] [] pos) (envX cn cs L a ccd cl) (eval (.Call (.Name (Str.ofString "isinstance") fp) [e1, .Name c cp] [] pos) (envX cn cs L a ccd cl))) Q E ⟨hh, g, d, t, o⟩ := by
 have y := sv_ok (M := model prog0 w) (A := A) (E := E) (g := g) (d := d) (o := o) (cn := cn) (a := a) (ccd := ccd) (cl := cl) F hk h1
 refine wpAny_isTrue_value (Call_ (nameX_B F X T ?e boot_isinstance ?n ?_ hk hx))
 case e => k_is
 case n => decide
 have z : wpAny (model prog0 w) A (spliced (backTo pos (starEach [e1, .Name c cp] (envX cn cs L a ccd cl)))) (fun vs s' => wpAny (model prog0 w) A (call (.builtin "isinstance") vs) (fun b s₁ => wpAny (model prog0 w) A (truthy b) Q E s₁) E s') E ⟨hh, g, d, t, o⟩ :=
  args_cons (y.2 _ (args_cons (nameX_K F X T hC (args_nil h) hk hc hd))) (y.1 _)
 rw [y.1] at z ⊢
 exact Calls.callWith_builtin rfl (Calls.evalArgs_plain z)
end
end
section
open PySem PySem.W PyProof.Rows PySem.Calls
abbrev pairD (h1 : Int) (k1 : String) (t1 : Tok) (v1 : Value) (h2 : Int) (k2 : String) (t2 : Tok) (v2 : Value) (n : Nat) : Obj := dictOf [⟨h1, .str (Str.ofString k1) t1, v1⟩, ⟨h2, .str (Str.ofString k2) t2, v2⟩] n
theorem mkArr {w : World} {mg mb : Str → Option Value} {hB : Heap} {s : Shared} {a b : Addr} {A : Around} {Q : Value → Shared → Prop} {E : Value → Shared → Prop} (WD : Wd w mg mb hB) (st : hB.StaysIn s.heap) (hh : A.handled = none) (hd : A.depth ≤ 600) (hu : A.units ≤ 3000)
  (hQ : ∀ Y YD h1 t1 h2 t2 n h' tk, Keeps s.heap h' → h'.get? Y = some (instObj 131 YD) ∧ s.heap.get? Y = none → h'.get? YD = some (pairD h1 "bounds" t1 (.ref a) h2 "items" t2 (.ref b) n) ∧ s.heap.get? YD = none → @Ne Nat Y YD → Q (.ref Y) {s with heap := h', toks := tk}) :
  wpAny (model prog0 w) A (PySem.call (.ref 131) [.ref a, .ref b]) Q E s := by
 refine' mk0 (binds := fun x => [(Str.ofString "self", .ref x), (Str.ofString "bounds", .ref a), (Str.ofString "items", .ref b)]) WD st hh hd ?hm ?hi ?hf ?ho ?hcd ?hb ?hl ?body ?c1 ?c2 ?c3 ?c4
 case hm => k_is
 case hi => k_is
 case hf => k_is
 case ho => k_is
 case hcd => k_is
 case hb => exact fun _ => rfl
 case hl => exact fun _ => locs rfl
 case c1 => rfl
 case c2 => rfl
 case c3 => rfl
 case c4 => decide
 case body =>
  intro A' x dx g L h₁ tk hA ne n1 n2 kp lx FF NN KX' T' kg
  dsimp only
  (repeat' (first | k_extra "h" | k_extra "g"))
  rename Fr _ _ _ _ => FF
  rename News _ _ _ _ => NN
  exact hQ x dx _ _ _ _ _ _ _ (fun b o e => FF.keep b o (kg b o e)) ⟨(NN (_, _) (.head _)).1, n1⟩ ⟨(NN (_, _) (.tail _ (.head _))).1, n2⟩ ne
theorem mkRec {w : World} {mg mb : Str → Option Value} {hB : Heap} {s : Shared} {a b : Addr} {A : Around} {Q : Value → Shared → Prop} {E : Value → Shared → Prop} (WD : Wd w mg mb hB) (st : hB.StaysIn s.heap) (hh : A.handled = none) (hd : A.depth ≤ 600) (hu : A.units ≤ 3000)
  (hQ : ∀ Y YD h1 t1 h2 t2 n h' tk, Keeps s.heap h' → h'.get? Y = some (instObj 152 YD) ∧ s.heap.get? Y = none → h'.get? YD = some (pairD h1 "type" t1 (.ref a) h2 "fields" t2 (.ref b) n) ∧ s.heap.get? YD = none → @Ne Nat Y YD → Q (.ref Y) {s with heap := h', toks := tk}) :
  wpAny (model prog0 w) A (PySem.call (.ref 152) [.ref a, .ref b]) Q E s := by
 refine' mk0 (binds := fun x => [(Str.ofString "self", .ref x), (Str.ofString "t", .ref a), (Str.ofString "fields", .ref b)]) WD st hh hd ?hm ?hi ?hf ?ho ?hcd ?hb ?hl ?body ?c1 ?c2 ?c3 ?c4
 case hm => k_is
 case hi => k_is
 case hf => k_is
 case ho => k_is
 case hcd => k_is
 case hb => exact fun _ => rfl
 case hl => exact fun _ => locs rfl
 case c1 => rfl
 case c2 => rfl
 case c3 => rfl
 case c4 => decide
 case body =>
  intro A' x dx g L h₁ tk hA ne n1 n2 kp lx FF NN KX' T' kg
  dsimp only
  (repeat' (first | k_extra "h" | k_extra "g"))
  rename Fr _ _ _ _ => FF
  rename News _ _ _ _ => NN
  exact hQ x dx _ _ _ _ _ _ _ (fun b o e => FF.keep b o (kg b o e)) ⟨(NN (_, _) (.head _)).1, n1⟩ ⟨(NN (_, _) (.tail _ (.head _))).1, n2⟩ ne
end
section
theorem said_3 : True := by
 k_with "q" => ((refine inst_base (by k_asm) (by assumption) (by assumption)))
 exact True.intro
local macro_rules | `(tactic| k_inst) => `(tactic| k_extra "q")
section
open PySem PySem.W PyProof.Rows PySem.Calls
variable {w : World} {mg mb : Str → Option Value} {hB : Heap} {s : Shared} {dd uu : Nat} {gs : Option (List Code)} {fr : Option (List Env)} {Q : Value → Shared → Prop} {E : Value → Shared → Prop}
structure ArrAt (h : Heap) (Y YD YB YI tp : Addr) (p q : Int) : Prop where
 o1 : h.get? Y = some (instObj 131 YD)
 o2 : ∃ h1 t1 h2 t2 n, h.get? YD = some (pairD h1 "bounds" t1 (.ref YB) h2 "items" t2 (.ref YI) n)
 o3 : ∃ n, h.get? YB = some (PySem.W.listOf #[.ref tp] n)
 o4 : ∃ n t3 t4, h.get? YI = some (PySem.W.listOf #[.int p t3, .int q t4] n)
theorem arrEl {h : Heap} {Y YD YB YI tp : Addr} {p q : Int} {G : Prop} (x : ArrAt h Y YD YB YI tp p q) (k : h.get? Y = some (instObj 131 YD) → ∀ h1 t1 h2 t2 n, h.get? YD = some (pairD h1 "bounds" t1 (.ref YB) h2 "items" t2 (.ref YI) n) → ∀ n, h.get? YB = some (PySem.W.listOf #[.ref tp] n) →
  ∀ n t3 t4, h.get? YI = some (PySem.W.listOf #[.int p t3, .int q t4] n) → G) : G := by
 (obtain ⟨a, z1x1, z1x2, z1x3⟩ := x; obtain ⟨_, _, _, _, _, b⟩ := z1x1; obtain ⟨_, c⟩ := z1x2; obtain ⟨_, _, _, d⟩ := z1x3)
 exact k a _ _ _ _ _ b _ c _ _ _ d
theorem arrMk {h : Heap} {Y YD YB YI tp : Addr} {p q : Int} {h1 h2 : Int} {t1 t2 t3 t4 : Tok} {n n2 n3 : Nat} (a : h.get? Y = some (instObj 131 YD)) (b : h.get? YD = some (pairD h1 "bounds" t1 (.ref YB) h2 "items" t2 (.ref YI) n)) (c : h.get? YB = some (PySem.W.listOf #[.ref tp] n2)) (d : h.get? YI = some (PySem.W.listOf #[.int p t3, .int q t4] n3)) : ArrAt h Y YD YB YI tp p q :=
 ⟨a, ⟨_, _, _, _, _, b⟩, ⟨_, c⟩, ⟨_, _, _, d⟩⟩
theorem ArrAt.keeps {h h' : Heap} {Y YD YB YI tp : Addr} {p q : Int} (x : ArrAt h Y YD YB YI tp p q) (k : Keeps h h') : ArrAt h' Y YD YB YI tp p q :=
 arrEl x fun a _ _ _ _ _ b _ c _ _ _ d => arrMk (k _ _ a) (k _ _ b) (k _ _ c) (k _ _ d)
theorem keeps_of {h g h' : Heap} {L : Addr} {m : Str → Option Value} {news0 : List (Addr × Obj)} (S2 : ∀ b o, h.get? b = some o → b ∉ news0.map (·.1) → g.get? b = some o) (F : Fr g L h' m)
  (h0 : ∀ q ∈ news0, h.get? q.1 = some q.2) (hN : ∀ q ∈ news0, h'.get? q.1 = some q.2) : Keeps h h' := fun b o e => by
 by_cases hb : b ∈ news0.map (·.1)
 ·(refine xEAL (List.mem_map.mp hb) fun q hq z5x2 => ?_; subst z5x2)
  rw [h0 q hq] at e
  rw [hN q hq]; exact e
 ·exact F.keep b o (S2 b o e hb)
theorem new_of {h g h' : Heap} {L a : Addr} {o : Obj} {news news0 : List (Addr × Obj)} (S2 : ∀ b o, h.get? b = some o → b ∉ news0.map (·.1) → g.get? b = some o) (N : News g L h' news) (hm : (a, o) ∈ news) (hne : a ∉ news0.map (·.1)) : h.get? a = none := by
 cases q : h.get? a with
 | none => rfl
 | some o' => have := S2 a o' q hne; rw [(N _ hm).2.2] at this; cases this
theorem inst_base {g h : Heap} {L x C dx : Addr} {m : Str → Option Value} {od : Obj} {sl : Array (Option Value)} (F : Fr g L h m) (h1 : g.get? x = some ⟨.ref C, some dx, .plain, sl⟩) (h2 : g.get? dx = some od) : InstAt h x ⟨.ref C, some dx, .plain, sl⟩ C (some od) :=
 ⟨F.keep _ _ h1, rfl, rfl, F.keep _ _ h2⟩
structure RecAt (w : World) (h : Heap) (R RD FD RT : Addr) (kvs : List (Str × Value)) : Prop where
 o1 : h.get? R = some (instObj 152 RD)
 o2 : ∃ h1 t1 h2 t2 n, h.get? RD = some (pairD h1 "type" t1 (.ref RT) h2 "fields" t2 (.ref FD) n)
 o3 : ∃ oF, h.get? FD = some oF ∧ oF.IsDictOf (PySem.strKind prog0 w) kvs
 ne : FD ≠ R ∧ FD ≠ RD ∧ R ≠ RD
theorem recEl {w : World} {h : Heap} {R RD FD RT : Addr} {kvs : List (Str × Value)} {G : Prop} (x : RecAt w h R RD FD RT kvs) (k : h.get? R = some (instObj 152 RD) → ∀ h1 t1 h2 t2 n, h.get? RD = some (pairD h1 "type" t1 (.ref RT) h2 "fields" t2 (.ref FD) n) →
  ∀ oF, h.get? FD = some oF → oF.IsDictOf (PySem.strKind prog0 w) kvs → FD ≠ R → FD ≠ RD → R ≠ RD → G) : G := by
 (obtain ⟨a, z2x1, z2x2, z2x3⟩ := x; obtain ⟨_, _, _, _, _, b⟩ := z2x1; obtain ⟨_, c, d⟩ := z2x2; obtain ⟨e, f, g⟩ := z2x3)
 exact k a _ _ _ _ _ b _ c d e f g
theorem recMk {w : World} {h : Heap} {R RD FD RT : Addr} {kvs : List (Str × Value)} {h1 h2 : Int} {t1 t2 : Tok} {n : Nat} {oF : Obj} (a : h.get? R = some (instObj 152 RD)) (b : h.get? RD = some (pairD h1 "type" t1 (.ref RT) h2 "fields" t2 (.ref FD) n)) (c : h.get? FD = some oF) (d : oF.IsDictOf (PySem.strKind prog0 w) kvs) (e : FD ≠ R ∧ FD ≠ RD ∧ R ≠ RD) : RecAt w h R RD FD RT kvs :=
 ⟨a, ⟨_, _, _, _, _, b⟩, ⟨_, c, d⟩, e⟩
theorem RecAt.keeps {w : World} {h h' : Heap} {R RD FD RT : Addr} {kvs : List (Str × Value)} (x : RecAt w h R RD FD RT kvs) (k : Keeps h h') : RecAt w h' R RD FD RT kvs :=
 recEl x fun a _ _ _ _ _ b _ c d e f g => recMk (k _ _ a) (k _ _ b) (k _ _ c) d ⟨e, f, g⟩
theorem copy_int {n : Int} {tn : Tok}
  (WD : Wd w mg mb hB) (st : hB.StaysIn s.heap) (hdd : dd ≤ 500) (huu : uu ≤ 2000)
  (hQ : ∀ h' tk, Keeps s.heap h' → Q (.int n tn) {s with heap := h', toks := tk}) :
  wpAny (model prog0 w) ⟨none, dd, fr, gs, uu⟩ (call (.ref 168) [.int n tn]) Q E s := by
 refine wpAny_call ?_
 refine' enter0 (news := []) (binds := [(Str.ofString "value", .int n tn)]) WD st ?hN ?hroom ?ho ?hcd ?hb ?hl ?body ?c1 ?c2 ?c3 ?c4
 k_extra "j"
 case hN => exact List.forall_mem_nil _
 case body =>
  intro g L h₁ S1 S2 S3 F' N' KX' T' l1
  try simp only [AllLt, and_true] at l1
  dsimp only
  (repeat' (first | k_extra "h" | k_extra "g"))
  all_goals ((try dsimp only); rename Fr _ _ _ _ => FF; exact hQ _ _ fun b o e => FF.keep b o (S2 b o e nNil))
theorem copy_arr {Y YD YB YI tp : Addr} {p q : Int}
  (WD : Wd w mg mb hB) (st : hB.StaysIn s.heap) (hdd : dd ≤ 488) (huu : uu ≤ 1900)
  (hA : ArrAt s.heap Y YD YB YI tp p q)
  (hQ : ∀ Y' YD' YB' YI' h' tk, Keeps s.heap h' → ArrAt h' Y' YD' YB' YI' tp p q → (∀ a ∈ [Y', YD', YB', YI'], s.heap.get? a = none) → [Y', YD', YB', YI'].Nodup → Q (.ref Y') {s with heap := h', toks := tk}) :
  wpAny (model prog0 w) ⟨none, dd, fr, gs, uu⟩ (call (.ref 168) [.ref Y]) Q E s := by
 (refine arrEl hA fun e1 h1 t1 h2 t2 n2 e2 n3 e3 n4 t3 t4 e4 => ?_; try clear hA)
 refine wpAny_call ?_
 refine' enter0 (news := []) (binds := [(Str.ofString "value", .ref Y)]) WD st ?hN ?hroom ?ho ?hcd ?hb ?hl ?body ?c1 ?c2 ?c3 ?c4
 k_extra "j"
 case hN => exact List.forall_mem_nil _
 case body =>
  intro g L h₁ S1 S2 S3 F' N' KX' T' l1
  try simp only [AllLt, and_true] at l1
  have q1 := S2 _ _ e1 nNil
  have q2 := S2 _ _ e2 nNil
  have q3 : g.IsList YB [Value.ref tp].toArray := ⟨_, S2 _ _ e3 nNil, rfl, _, rfl⟩
  have q4 : g.IsList YI [Value.int p t3, Value.int q t4].toArray := ⟨_, S2 _ _ e4 nNil, rfl, _, rfl⟩
  dsimp only
  (repeat' (first | k_extra "h" | ((with_reducible show wpAny _ _ (call (.ref 131) [Value.ref _, Value.ref _]) _ _ _); (with_unfolding_all refine' mkArr ?W ?st ?hh ?hd ?hu ?_); (case W => assumption); (case st => exact stays_of (by assumption) (by assumption)); (case hh => rfl); (case hd => k_extra "b"); (case hu => k_extra "b"); k_whole; intro Y' YD' a1' b1' a2' b2' n' h' tk' hk' g1' g2' ne'; k_extra "a"; (have F' := Fr.keeps fF hk'); (have N' := newsJ fF nN hk' (more := [(Y', _), (YD', _)]) (List.forall_mem_cons.mpr ⟨g1', List.forall_mem_cons.mpr ⟨g2', List.forall_mem_nil _⟩⟩)); (have na' := allNe_of nN g1'.2); (have nb' := allNe_of nN g2'.2); (simp only [AllNe, and_true] at na' nb'); (simp only [List.cons_append, List.nil_append] at N'); clear hk' g1' g2'; k_sweep) | ((with_reducible show wpAny _ _ (call (.ref 168) [Value.int _ _]) _ _ _); (with_unfolding_all refine' copy_int ?W ?st ?hd ?hu ?_); k_extra "i"; k_whole; intro h' tk' hk'; k_extra "a"; (have F' := Fr.keeps fF hk'); (have N' := newsK nN hk'); clear hk'; k_sweep) | k_extra "g"))
  all_goals (try dsimp only)
  refine hQ Y' YD' _ _ h' _ (keeps_of S2 F' (List.forall_mem_nil _) (List.forall_mem_nil _)) (arrMk ((N' _ (.head _)).1) ((N' _ (.tail _ (.head _))).1) ((N' _ (.tail _ (.tail _ (.tail _ (.head _))))).1) ((N' _ (.tail _ (.tail _ (.head _)))).1)) ?_ ?_
  ·refine List.forall_mem_cons.mpr ⟨?_, List.forall_mem_cons.mpr ⟨?_, List.forall_mem_cons.mpr ⟨?_, List.forall_mem_cons.mpr ⟨?_, List.forall_mem_nil _⟩⟩⟩⟩
   ·exact new_of S2 N' (.head _) nNil
   ·exact new_of S2 N' (.tail _ (.head _)) (by simp)
   ·exact new_of S2 N' (.tail _ (.tail _ (.tail _ (.head _)))) (by simp)
   ·exact new_of S2 N' (.tail _ (.tail _ (.head _))) (by simp)
  ·simp only [List.nodup_cons, List.mem_cons, List.not_mem_nil, or_false, not_or, not_false_eq_true, List.nodup_nil, and_true]
   repeat' (first | k_ne | constructor)
end
section
section
variable {w : World} {A : Around} {E : Value → Shared → Prop} {s : Shared} {g h : Heap} {L d : Addr} {m : Str → Option Value} {news : List (Addr × Obj)} {o : Obj} {kvs : List (Str × Value)} {k : Str} {t : Tok} {v : Value}
theorem dB (F : Fr g L h m) (h1 : g.get? d = some o) (hd : o.IsDictOf (PySem.strKind prog0 w) kvs) : h.DictOf (PySem.strKind prog0 w) d kvs := Heap.dictOf_iff.mpr ⟨o, F.keep _ _ h1, hd⟩
theorem dN (N : News g L h news) (hm : (d, o) ∈ news) (hd : o.IsDictOf (PySem.strKind prog0 w) kvs) : h.DictOf (PySem.strKind prog0 w) d kvs := Heap.dictOf_iff.mpr ⟨o, (N _ hm).1, hd⟩
theorem itemD {value slice : PySem.Expr} {Q : Value → Shared → Prop} (hD : s.heap.DictOf (PySem.strKind prog0 w) d kvs) (hl : valueAt kvs k = some v) (h : Q v { s with toks := s.toks + 1 })
  (hs : subscripted slice false (.ref d) (.str k t) = operate [.ref d, .str k t] (getItem (.ref d) (.str k t)) := by with_unfolding_all rfl) (hg : ∀ r, letTemporaryGo value (.ref d) r = pure () := by intro _; with_unfolding_all rfl) :
  wpAny (model prog0 w) A (subscriptTail value slice (.ref d) (.str k t)) Q E s :=
 subscriptTail_builtin hD.typeIs slot_dict_getitem.lookup (wpAny_getItem_of (strKind_is _ _ _ _) hD.mapOf hl h) hs hg
theorem setD {Q : Unit → Shared → Prop} {rest : List (Addr × Obj)} (F : Fr g L s.heap m) (N : News g L s.heap ((d, o) :: rest)) (hne : ∀ p ∈ rest, p.1 ≠ d) (hd : o.IsDictOf (PySem.strKind prog0 w) kvs) (hsz : kvs.length ≤ 100)
  (h : ∀ h' o', Fr g L h' m → News g L h' ((d, o') :: rest) → o'.IsDictOf (PySem.strKind prog0 w) (stored kvs k v) → Q () { s with heap := h', toks := s.toks + 1 }) : wpAny (model prog0 w) A (setItem (.ref d) (.str k t) v) Q E s :=
 kda_set (g := fun o' => (d, o') :: rest) F N (UpdF.head hne) hd (strKind_is _ _ _ _) (by rw [sizeLine_eq]; omega) h
end
section
variable {w : World} {A : Around} {E : Value → Shared → Prop} {s : Shared} {env : Env} {h₀ : Heap} {x : Str} {body : List Stmt} {Q : Flow → Shared → Prop}
theorem iter_dictG {d : Addr} {o : Obj} {kvs : List (Str × Value)} {m₀ : Str → Option Value} {news : List (Addr × Obj)} (J : Nat → (Str → Option Value) → List (Addr × Obj) → Prop)
  (hh : A.handled = none) (lo : (d == sysModules) = false) (ho : h₀.get? d = some o) (hd : o.IsDictOf (PySem.strKind prog0 w) kvs) (F : Fr h₀ env.locals s.heap m₀) (N : News h₀ env.locals s.heap news) (hj : J 0 m₀ news)
  (turn : ∀ i k y t m₁ news₁ h tk own, kvs[i]? = some (k, y) → OwnOff own (news₁.map (·.1)) → J i m₁ news₁ → Fr h₀ env.locals h (fun z => if z = x then some (.str k t) else m₁ z) → News h₀ env.locals h (news₁ ++ own) →
   wpAny (model prog0 w) A (execs body env) (InvPostG h₀ env.locals (J (i + 1)) own { s with heap := h, toks := tk } Q) E { s with heap := h, toks := tk })
  (done : ∀ m₁ news₁ h tk, J kvs.length m₁ news₁ → Fr h₀ env.locals h m₁ → News h₀ env.locals h news₁ → Q .next { s with heap := h, toks := tk }) :
  wpAny (model prog0 w) A (pyIter (.ref d)) (fun it s₂ => LoopAtV prog0 w A h₀ env x body Q E it s₂) E s := by
 refine xEEAAAAL (id hd) fun es ep hcl hdat hks hps hnd => ?_
 have hs : s.heap.get? d = some o := F.keep _ _ ho
 have hA : s.heap.DictAt (PySem.strKind prog0 w) d kvs ep := ⟨o, es, hs, hcl, hdat, hks, hps, hnd⟩
 have hlt : d < h₀.objs.size := Heap.lt_size ho
 have hne : d ≠ s.heap.objs.size := Nat.ne_of_lt (Heap.lt_size hs)
 refine wpAny_pyIter_dict lo hA ?_
 refine iE9 s.heap.objs.size [s.heap.objs.size, d] [s.heap.objs.size] kvs.length _ _ m₀ news J ⟨rfl, Walks.dictKeys (knd := PySem.strKind prog0 w) hh s.heap.objs.size d hne kvs ep, ?_, ?_, ?_, ⟨⟨_, Heap.get?_push_size _ rfl, rfl, rfl⟩, o, es, Heap.get?_push_of_some _ hs, hcl, hdat, hks, hps, hnd⟩, F.push _, newsK N (fun b o e => Heap.get?_push_of_some _ e), hj, ?_, ?_⟩
 ·intro hm
  rcases List.mem_cons.mp hm with e | hm
  ·exact absurd F.ns.lt (e ▸ Nat.lt_irrefl _)
  ·exact absurd (Nat.lt_of_lt_of_le hlt F.above) ((List.mem_singleton.mp hm) ▸ Nat.lt_irrefl _)
 ·intro b hb
  rw [List.mem_singleton.mp hb]
  exact next_is_new F
 ·intro p hp hI
  exact absurd (Heap.lt_size (N p hp).1) ((List.mem_singleton.mp hI) ▸ Nat.lt_irrefl _)
 ·intro i v m₁ news₁ s₁ own w0 hin w1 hJ hoff hown _ hfp hst F₁ N₁
  (refine xEEL w0 fun hh' tk' z3x2 => ?_; try clear w0; subst z3x2)
  (refine xEEAL w1 fun k y hky hkv => ?_; try clear w1)
  (refine xEL (Value.isStrOf_shape hkv) fun t z8x1 => ?_; subst z8x1)
  (refine xAL (id hst) fun z9x0 _ => ?_; (refine xEAL z9x0 fun oI hoI _ => ?_; try clear z9x0))
  have hIown : (s.heap.objs.size, oI) ∈ own := hfp _ (List.mem_cons.mpr (.inl rfl)) (next_is_new F) _ hoI
  have hsep : OwnOff own (news₁.map (·.1)) := by
   intro p hp b hb e
   (refine xEAL (List.mem_map.mp hb) fun q hq z10x2 => ?_; subst z10x2)
   rcases List.mem_cons.mp (hown p hp) with h1 | h1
   ·exact hoff q hq (List.mem_singleton.mpr (e ▸ h1))
   ·have h2 := List.mem_singleton.mp h1
    have h3 := (N₁ q (List.mem_append.mpr (.inr hq))).2.2
    rw [← e, h2, ho] at h3
    cases h3
  have N₂ : News h₀ env.locals hh' (news₁ ++ own) := fun p hp => N₁ p ((List.mem_append.mp hp).elim (fun h => List.mem_append.mpr (.inr h)) fun h => List.mem_append.mpr (.inl h))
  refine wpAny_mono (turn i k y t m₁ news₁ hh' tk' own hky hsep hJ F₁ N₂) (fun f s₂ p => ?_) fun _ _ e => e
  have fin : InvEndG h₀ env.locals (J (i + 1)) own { s with heap := hh', toks := tk' } s₂ → LoopStepU h₀ env.locals [s.heap.objs.size] own (J (i + 1)) { s with heap := hh', toks := tk' } .next s₂ := by
   intro w2
   (refine xEEEEEAAAAAAL w2 fun h' tk m' news' nx e F' N' hn ho ha hm => ?_; try clear w2)
   refine ⟨rfl, h', tk, m', nx, e, F', fun p hp => N' p ((List.mem_append.mp hp).elim (ho p) (hn p)), fun p hp hq => ?_, hm⟩
   exact ha _ hIown p.1 (List.mem_map.mpr ⟨p, hp, rfl⟩) (List.mem_singleton.mp hq).symm
  cases f with
  | ret v => exact .ret p
  | brk => exact .brk p
  | next => exact .next (fin p)
  | cont => exact .cont (fin p)
 ·rintro h' tk m' news' F' N' _ hJ
  exact done m' news' h' tk hJ F' N'
end
end
section
def All2 (R : Value → Value → Prop) : List (Str × Value) → List (Str × Value) → Prop
 | [], l => l = []
 | p :: r, l => ∃ x l', l = (p.1, x) :: l' ∧ R p.2 x ∧ All2 R r l'
theorem All2.mono {R R' : Value → Value → Prop} (h : ∀ x y, R x y → R' x y) : ∀ (l l' : List (Str × Value)), All2 R l l' → All2 R' l l' := by
 intro l
 induction l with
 | nil => intro l' e; exact e
 | cons p r ih => intro l' e; (refine xEEAAL e fun x l₁ e1 e2 e3 => ?_; try clear e); exact ⟨x, l₁, e1, h _ _ e2, ih _ e3⟩
theorem All2.keys {R : Value → Value → Prop} : ∀ (l l' : List (Str × Value)), All2 R l l' → l'.map (·.1) = l.map (·.1) := by
 intro l
 induction l with
 | nil => intro l' e; cases e; rfl
 | cons p r ih => intro l' e; (refine xEEAAL e fun x l₁ z12x2 _ e3 => ?_; try clear e; subst z12x2); simp only [List.map_cons, ih _ e3]
theorem All2.snoc {R : Value → Value → Prop} {k : Str} {x y : Value} (hxy : R x y) : ∀ (l l' : List (Str × Value)), All2 R l l' → All2 R (l ++ [(k, x)]) (l' ++ [(k, y)]) := by
 intro l
 induction l with
 | nil => intro l' e; cases e; exact ⟨y, [], rfl, hxy, rfl⟩
 | cons p r ih => intro l' e; (refine xEEAAL e fun z l₁ z13x2 e2 e3 => ?_; try clear e; subst z13x2); exact ⟨z, _, rfl, e2, ih _ e3⟩
theorem stored_new {kvs : List (Str × Value)} {k : Str} {v : Value} (h : k ∉ kvs.map (·.1)) : stored kvs k v = kvs ++ [(k, v)] := by
 unfold stored
 have : (kvs.any fun kv => decide (kv.1 = k)) = false := by
  rw [List.any_eq_false]
  intro p hp e
  exact h (List.mem_map.mpr ⟨p, hp, by simpa using e⟩)
 rw [if_neg (by rw [this]; exact Bool.false_ne_true)]
theorem valueAt_get {kvs : List (Str × Value)} {k : Str} {v : Value} {i : Nat} (hn : (kvs.map (·.1)).Nodup) (h : kvs[i]? = some (k, v)) : valueAt kvs k = some v := by
 induction kvs generalizing i with
 | nil => simp at h
 | cons p r ih =>
  refine xAL (List.nodup_cons.mp hn) fun h1 h2 => ?_
  unfold valueAt
  cases i with
  | zero =>
   have : p = (k, v) := by simpa using h
   subst this
   simp
  | succ j =>
   have hj : r[j]? = some (k, v) := by exact h
   have hk : p.1 ≠ k := fun e => h1 (List.mem_map.mpr ⟨_, List.mem_of_getElem? hj, e.symm⟩)
   have := ih h2 hj
   unfold valueAt at this
   rw [List.find?_cons_of_neg (by simpa using hk)]
   exact this
theorem key_fresh {kvs : List (Str × Value)} {k : Str} {v : Value} {i : Nat} (hn : (kvs.map (·.1)).Nodup) (h : kvs[i]? = some (k, v)) : k ∉ (kvs.take i).map (·.1) := by
 induction kvs generalizing i with
 | nil => simp at h
 | cons p r ih =>
  refine xAL (List.nodup_cons.mp hn) fun h1 h2 => ?_
  cases i with
  | zero => simp
  | succ j =>
   have hj : r[j]? = some (k, v) := by exact h
   rw [List.take_succ_cons, List.map_cons, List.mem_cons, not_or]
   exact ⟨fun e => h1 (List.mem_map.mpr ⟨_, List.mem_of_getElem? hj, e⟩), ih h2 hj⟩
theorem take_snoc {kvs : List (Str × Value)} {i : Nat} {p : Str × Value} (h : kvs[i]? = some p) : kvs.take (i + 1) = kvs.take i ++ [p] := by
 rw [List.take_add_one, h]; rfl
def ArrIn (l : List (Addr × Obj)) (Y YD YB YI tp : Addr) (p q : Int) : Prop :=
 (Y, instObj 131 YD) ∈ l ∧ (∃ h1 t1 h2 t2 n, (YD, pairD h1 "bounds" t1 (.ref YB) h2 "items" t2 (.ref YI) n) ∈ l) ∧ (∃ n, (YB, PySem.W.listOf #[.ref tp] n) ∈ l) ∧ ∃ n t3 t4, (YI, PySem.W.listOf #[.int p t3, .int q t4] n) ∈ l
theorem arrInEl {l : List (Addr × Obj)} {Y YD YB YI tp : Addr} {p q : Int} {G : Prop} (x : ArrIn l Y YD YB YI tp p q) (k : (Y, instObj 131 YD) ∈ l → ∀ h1 t1 h2 t2 n, (YD, pairD h1 "bounds" t1 (.ref YB) h2 "items" t2 (.ref YI) n) ∈ l → ∀ n, (YB, PySem.W.listOf #[.ref tp] n) ∈ l → ∀ n t3 t4, (YI, PySem.W.listOf #[.int p t3, .int q t4] n) ∈ l → G) : G :=
 xAAAL x fun a b c d => xEEEEEL b fun h1 t1 h2 t2 n b => xEL c fun n2 c => xEEEL d fun n3 t3 t4 d => k a h1 t1 h2 t2 n b n2 c n3 t3 t4 d
theorem arrInMk {l : List (Addr × Obj)} {Y YD YB YI tp : Addr} {p q : Int} {h1 h2 : Int} {t1 t2 t3 t4 : Tok} {n n2 n3 : Nat} (a : (Y, instObj 131 YD) ∈ l) (b : (YD, pairD h1 "bounds" t1 (.ref YB) h2 "items" t2 (.ref YI) n) ∈ l) (c : (YB, PySem.W.listOf #[.ref tp] n2) ∈ l) (d : (YI, PySem.W.listOf #[.int p t3, .int q t4] n3) ∈ l) : ArrIn l Y YD YB YI tp p q :=
 ⟨a, ⟨_, _, _, _, _, b⟩, ⟨_, c⟩, ⟨_, _, _, d⟩⟩
theorem ArrIn.mono {l l' : List (Addr × Obj)} {Y YD YB YI tp : Addr} {p q : Int} (x : ArrIn l Y YD YB YI tp p q) (h : ∀ z ∈ l, z ∈ l') : ArrIn l' Y YD YB YI tp p q :=
 arrInEl x fun a _ _ _ _ _ b _ c _ _ _ d => arrInMk (h _ a) (h _ b) (h _ c) (h _ d)
theorem ArrIn.at' {h : Heap} {l : List (Addr × Obj)} {Y YD YB YI tp : Addr} {p q : Int} (x : ArrIn l Y YD YB YI tp p q) (k : ∀ z ∈ l, h.get? z.1 = some z.2) : ArrAt h Y YD YB YI tp p q :=
 arrInEl x fun a _ _ _ _ _ b _ c _ _ _ d => arrMk (k _ a) (k _ b) (k _ c) (k _ d)
def VOk (h : Heap) (x : Value) : Prop := (∃ n t, x = .int n t) ∨ ∃ Y YD YB YI tp p q, x = .ref Y ∧ ArrAt h Y YD YB YI tp p q
theorem vokMk {h : Heap} {Y YD YB YI tp : Addr} {p q : Int} (a : ArrAt h Y YD YB YI tp p q) : VOk h (.ref Y) := .inr ⟨_, _, _, _, _, _, _, rfl, a⟩
theorem VOk.keeps {h h' : Heap} {x : Value} (v : VOk h x) (k : Keeps h h') : VOk h' x := by
 rcases v with v | w3
 ·exact .inl v
 ·(refine xEEEEEEEAL w3 fun Y YD YB YI tp p q e a => ?_; try clear w3)
  exact e ▸ vokMk (a.keeps k)
def VCp (h : Heap) (l : List (Addr × Obj)) (x x' : Value) : Prop :=
 (∃ n t, x = .int n t ∧ x' = .int n t) ∨ ∃ Y YD YB YI tp p q Y' YD' YB' YI', x = .ref Y ∧ ArrAt h Y YD YB YI tp p q ∧ x' = .ref Y' ∧ ArrIn l Y' YD' YB' YI' tp p q ∧ [Y', YD', YB', YI'].Nodup
theorem vcpMk {h : Heap} {l : List (Addr × Obj)} {Y YD YB YI tp Y' YD' YB' YI' : Addr} {p q : Int} (a : ArrAt h Y YD YB YI tp p q) (b : ArrIn l Y' YD' YB' YI' tp p q) (n : [Y', YD', YB', YI'].Nodup) : VCp h l (.ref Y) (.ref Y') := .inr ⟨_, _, _, _, _, _, _, _, _, _, _, rfl, a, rfl, b, n⟩
theorem VCp.mono {h : Heap} {l l' : List (Addr × Obj)} {x x' : Value} (v : VCp h l x x') (k : ∀ z ∈ l, z ∈ l') : VCp h l' x x' := by
 rcases v with v | w4
 ·exact .inl v
 ·(refine xEEEEEEEEEEEAAAAL w4 fun Y YD YB YI tp p q Y' YD' YB' YI' e a e' b n => ?_; try clear w4)
  exact e ▸ e' ▸ vcpMk a (b.mono k) n
theorem map3 {m₁ : Str → Option Value} {x a b : Str} {v va vb : Value} (ha : m₁ a = some va) (hb : m₁ b = some vb) :
  (fun z => if z = x then some v else m₁ z) = fun z => if z = x then some v else if z = a then some va else if z = b then some vb else m₁ z := by
 funext z
 by_cases h : z = x
 ·simp only [if_pos h]
 ·simp only [if_neg h]
  by_cases h1 : z = a
  ·simp only [if_pos h1]; rw [h1, ha]
  ·simp only [if_neg h1]
   by_cases h2 : z = b
   ·simp only [if_pos h2]; rw [h2, hb]
   ·simp only [if_neg h2]
theorem newsMid {g h h' : Heap} {L : Addr} {m : Str → Option Value} {x : Addr × Obj} {rest more : List (Addr × Obj)} (F : Fr g L h m) (N : News g L h (x :: rest)) (hk : Keeps h h') (hn : NewIn h h' more) : News g L h' (x :: (more ++ rest)) := by
 have N1 := newsJ F N hk hn
 intro p hp
 rcases List.mem_cons.mp hp with rfl | hp
 ·exact N1 _ (List.mem_append_right _ (.head _))
 ·rcases List.mem_append.mp hp with hp | hp
  ·exact N1 _ (List.mem_append_left _ hp)
  ·exact N1 _ (List.mem_append_right _ (.tail _ hp))
theorem midNe {g h : Heap} {L d : Addr} {o : Obj} {rest more : List (Addr × Obj)} (N : News g L h ((d, o) :: rest)) (hne : ∀ p ∈ rest, p.1 ≠ d) (hn : ∀ p ∈ more, h.get? p.1 = none) : ∀ p ∈ more ++ rest, p.1 ≠ d := by
 intro p hp
 rcases List.mem_append.mp hp with hp | hp
 ·intro e
  have := hn p hp
  rw [e, (N _ (.head _)).1] at this
  cases this
 ·exact hne p hp
theorem map2 {m₁ : Str → Option Value} {a b : Str} {va vb : Value} (ha : m₁ a = some va) (hb : m₁ b = some vb) :
  m₁ = fun z => if z = a then some va else if z = b then some vb else m₁ z := by
 funext z
 by_cases h1 : z = a
 ·simp only [if_pos h1]; rw [h1, ha]
 ·simp only [if_neg h1]
  by_cases h2 : z = b
  ·simp only [if_pos h2]; rw [h2, hb]
  ·simp only [if_neg h2]
theorem allNe_mem {d : Addr} {l : List (Addr × Obj)} (h : AllNe d l) : ∀ p ∈ l, @Ne Nat p.1 d := by
 induction l with
 | nil => intro p hp; cases hp
 | cons q r ih =>
  intro p hp
  rcases List.mem_cons.mp hp with rfl | hp
  ·exact h.1
  ·exact ih h.2 p hp
end
section
open PySem PySem.W PyProof.Rows PySem.Calls
variable {w : World} {mg mb : Str → Option Value} {hB : Heap} {s : Shared} {dd uu : Nat} {gs : Option (List Code)} {fr : Option (List Env)} {Q : Value → Shared → Prop} {E : Value → Shared → Prop}
theorem copy_rec {R RD FD RT : Addr} {kvs : List (Str × Value)}
  (WD : Wd w mg mb hB) (st : hB.StaysIn s.heap) (hdd : dd ≤ 476) (huu : uu ≤ 1800)
  (hA : RecAt w s.heap R RD FD RT kvs) (hV : ∀ p ∈ kvs, VOk s.heap p.2) (hkn : kvs.length ≤ 50) (lo : (FD == sysModules) = false)
  (hQ : ∀ R' RD' FD' kvs' vals h' tk, Keeps s.heap h' → RecAt w h' R' RD' FD' RT kvs' → All2 (VCp s.heap vals) kvs kvs' → (∀ p ∈ vals, h'.get? p.1 = some p.2 ∧ s.heap.get? p.1 = none ∧ @Ne Nat p.1 R' ∧ @Ne Nat p.1 RD' ∧ @Ne Nat p.1 FD') → (∀ a ∈ [R', RD', FD'], s.heap.get? a = none) → Q (.ref R') {s with heap := h', toks := tk}) :
  wpAny (model prog0 w) ⟨none, dd, fr, gs, uu⟩ (call (.ref 168) [.ref R]) Q E s := by
 (refine recEl hA fun e1 h1 t1 h2 t2 n2 e2 oF e3 hdF f1 f2 f3 => ?_; try clear hA)
 refine wpAny_call ?_
 refine' enter0 (news := []) (binds := [(Str.ofString "value", .ref R)]) WD st ?hN ?hroom ?ho ?hcd ?hb ?hl ?body ?c1 ?c2 ?c3 ?c4
 k_extra "j"
 case hN => exact List.forall_mem_nil _
 case body =>
  intro g L h₁ S1 S2 S3 F' N' KX' T' l1
  try simp only [AllLt, and_true] at l1
  have q1 := S2 _ _ e1 nNil
  have q2 := S2 _ _ e2 nNil
  have hFg := S2 _ _ e3 nNil
  dsimp only
  (repeat' (first | k_extra "h" | ((with_reducible show wpAny _ _ (setItem (Value.ref _) (Value.str _ _) _) _ _ _); ((refine' setD ?F ?N ?ne ?d ?z ?_); (case F => assumption); (case N => assumption); (case ne => assumption); (case d => assumption); (case z => assumption); k_whole; intro h' o' F' N' hd'; k_sweep)) | ((with_reducible show wpAny _ _ (call (.ref 152) [Value.ref _, Value.ref _]) _ _ _); (with_unfolding_all refine' mkRec ?W ?st ?hh ?hd ?hu ?_); (case W => assumption); (case st => exact stays_of (by assumption) (by assumption)); (case hh => rfl); (case hd => k_extra "b"); (case hu => k_extra "b"); k_whole; intro Y' YD' a1' b1' a2' b2' n' h' tk' hk' g1' g2' ne'; k_extra "a"; (have F' := Fr.keeps fF hk'); (have N' := newsJ fF nN hk' (more := [(Y', _), (YD', _)]) (List.forall_mem_cons.mpr ⟨g1', List.forall_mem_cons.mpr ⟨g2', List.forall_mem_nil _⟩⟩)); (have na' := allNe_of nN g1'.2); (have nb' := allNe_of nN g2'.2); (simp only [AllNe, and_true] at na' nb'); (simp only [List.cons_append, List.nil_append] at N'); clear hk' g1' g2'; k_sweep) | ((with_reducible show wpAny _ _ (call (.ref 168) [Value.int _ _]) _ _ _); (with_unfolding_all refine' copy_int ?W ?st ?hd ?hu ?_); k_extra "i"; k_whole; intro h' tk' hk'; k_extra "a"; (have F' := Fr.keeps fF hk'); (have N' := newsK nN hk'); clear hk'; k_sweep) | ((with_reducible show wpAny _ _ (subscriptTail _ _ (Value.ref _) (Value.str _ _)) _ _ _); (refine' itemD ?D ?v ?_); (case D => exact dB (by assumption) hFg hdF); (case v => exact hval); k_whole) | k_extra "g"))
  rename Fr _ _ _ _ => F1
  rename News _ _ _ _ => N1
  rename Obj.IsDictOf (PySem.strKind _ _) _ _ => hd1
  rename_i dN hX oN lo0 fs0 hi0 fi0 l10 hY
  clear fs0 hi0 fi0 l10
  have hknd : (kvs.map (·.1)).Nodup := by (refine xEEAAAAL hdF fun _ _ _ _ _ _ h => ?_; try clear hdF); exact h
  refine iter_dictG (fun i m led => ∃ oF' kvs' vals, led = (dN, oF') :: vals ∧ (∀ p ∈ vals, p.1 ≠ dN) ∧ oF'.IsDictOf (PySem.strKind prog0 w) kvs' ∧ All2 (VCp g vals) (kvs.take i) kvs' ∧ m (Str.ofString "value") = some (.ref R) ∧ m (Str.ofString "fields") = some (.ref dN)) rfl lo hFg hdF F1 N1
   ⟨oN, [], [], rfl, List.forall_mem_nil _, hd1, rfl, rfl, rfl⟩ ?turn ?done
  case turn =>
   intro i k y t m₁ _ h tk own hky hoff w5 F₁ N₁
   (refine xEEEAAAAAL w5 fun oF' kvs' vals z9x3 hne hd' h2 hm1 hm2 => ?_; try clear w5; subst z9x3)
   rw [map3 hm1 hm2] at F₁
   rw [List.cons_append] at N₁
   have hval := valueAt_get hknd hky
   have hfr := key_fresh hknd hky
   have hne1 : ∀ p ∈ vals ++ own, p.1 ≠ dN := by
    intro p hp
    rcases List.mem_append.mp hp with hp | hp
    ·exact hne p hp
    ·exact hoff p hp dN (by first | k_mem | simp)
   have hlen : kvs'.length ≤ 100 := by
    have := congrArg List.length (h2.keys)
    simp only [List.length_map, List.length_take] at this
    omega
   rcases hV (k, y) (List.mem_of_getElem? hky) with w6 | w7
   ·(refine xEEL w6 fun n tn hy => ?_; try clear w6)
    have hy' : y = .int n tn := hy
    subst hy'
    have hst : stored kvs' k (.int n tn) = kvs' ++ [(k, .int n tn)] := stored_new (by rw [h2.keys]; exact hfr)
    (repeat' (first | k_extra "h" | ((with_reducible show wpAny _ _ (setItem (Value.ref _) (Value.str _ _) _) _ _ _); ((refine' setD ?F ?N ?ne ?d ?z ?_); (case F => assumption); (case N => assumption); (case ne => assumption); (case d => assumption); (case z => assumption); k_whole; intro h' o' F' N' hd'; k_sweep)) | ((with_reducible show wpAny _ _ (call (.ref 152) [Value.ref _, Value.ref _]) _ _ _); (with_unfolding_all refine' mkRec ?W ?st ?hh ?hd ?hu ?_); (case W => assumption); (case st => exact stays_of (by assumption) (by assumption)); (case hh => rfl); (case hd => k_extra "b"); (case hu => k_extra "b"); k_whole; intro Y' YD' a1' b1' a2' b2' n' h' tk' hk' g1' g2' ne'; k_extra "a"; (have F' := Fr.keeps fF hk'); (have N' := newsJ fF nN hk' (more := [(Y', _), (YD', _)]) (List.forall_mem_cons.mpr ⟨g1', List.forall_mem_cons.mpr ⟨g2', List.forall_mem_nil _⟩⟩)); (have na' := allNe_of nN g1'.2); (have nb' := allNe_of nN g2'.2); (simp only [AllNe, and_true] at na' nb'); (simp only [List.cons_append, List.nil_append] at N'); clear hk' g1' g2'; k_sweep) | ((with_reducible show wpAny _ _ (call (.ref 168) [Value.int _ _]) _ _ _); (with_unfolding_all refine' copy_int ?W ?st ?hd ?hu ?_); k_extra "i"; k_whole; intro h' tk' hk'; k_extra "a"; (have F' := Fr.keeps fF hk'); (have N' := newsK nN hk'); clear hk'; k_sweep) | ((with_reducible show wpAny _ _ (subscriptTail _ _ (Value.ref _) (Value.str _ _)) _ _ _); (refine' itemD ?D ?v ?_); (case D => exact dB (by assumption) hFg hdF); (case v => exact hval); k_whole) | k_extra "g"))
    refine InvEndG.intro F' N' ⟨o', _, vals, rfl, hne, by rw [hst] at hd'; exact hd', by rw [take_snoc hky]; exact h2.snoc (.inl ⟨n, tn, rfl, rfl⟩), rfl, rfl⟩ hoff ?_ ?_
    ·intro p hp
     rcases List.mem_cons.mp hp with rfl | hp
     ·exact .head _
     ·exact .tail _ (List.mem_append_left _ hp)
    ·intro p hp
     exact .tail _ (List.mem_append_right _ hp)
   ·(refine xEEEEEEEAL w7 fun Y YD YB YI tp p q hy hArr => ?_; try clear w7)
    have hy' : y = .ref Y := hy
    subst hy'
    have hArg : ArrAt g Y YD YB YI tp p q := hArr.keeps fun b o e => S2 b o e nNil
    (repeat' (first | k_extra "h" | ((with_reducible show wpAny _ _ (setItem (Value.ref _) (Value.str _ _) _) _ _ _); ((refine' setD ?F ?N ?ne ?d ?z ?_); (case F => assumption); (case N => assumption); (case ne => assumption); (case d => assumption); (case z => assumption); k_whole; intro h' o' F' N' hd'; k_sweep)) | ((with_reducible show wpAny _ _ (call (.ref 152) [Value.ref _, Value.ref _]) _ _ _); (with_unfolding_all refine' mkRec ?W ?st ?hh ?hd ?hu ?_); (case W => assumption); (case st => exact stays_of (by assumption) (by assumption)); (case hh => rfl); (case hd => k_extra "b"); (case hu => k_extra "b"); k_whole; intro Y' YD' a1' b1' a2' b2' n' h' tk' hk' g1' g2' ne'; k_extra "a"; (have F' := Fr.keeps fF hk'); (have N' := newsJ fF nN hk' (more := [(Y', _), (YD', _)]) (List.forall_mem_cons.mpr ⟨g1', List.forall_mem_cons.mpr ⟨g2', List.forall_mem_nil _⟩⟩)); (have na' := allNe_of nN g1'.2); (have nb' := allNe_of nN g2'.2); (simp only [AllNe, and_true] at na' nb'); (simp only [List.cons_append, List.nil_append] at N'); clear hk' g1' g2'; k_sweep) | ((with_reducible show wpAny _ _ (call (.ref 168) [Value.int _ _]) _ _ _); (with_unfolding_all refine' copy_int ?W ?st ?hd ?hu ?_); k_extra "i"; k_whole; intro h' tk' hk'; k_extra "a"; (have F' := Fr.keeps fF hk'); (have N' := newsK nN hk'); clear hk'; k_sweep) | ((with_reducible show wpAny _ _ (subscriptTail _ _ (Value.ref _) (Value.str _ _)) _ _ _); (refine' itemD ?D ?v ?_); (case D => exact dB (by assumption) hFg hdF); (case v => exact hval); k_whole) | k_extra "g"))
    (with_unfolding_all refine' copy_arr ?W ?st ?hd ?hu ?hA ?_)
    case W => assumption
    case st => exact stays_of (by assumption) (by assumption)
    case hd => (dsimp only; first | exact om1 (by assumption) rfl | omega)
    case hu => (dsimp only; first | exact om1 (by assumption) rfl | omega)
    case hA => exact hArg.keeps (Fr.keep (by assumption))
    intro Y' YD' YB' YI' h' tk' hk' hAr hnew hnd
    (refine arrEl hAr fun a1 b1 b2 b3 b4 b5 a2 b6 a3 b7 b8 b9 a4 => ?_; try clear hAr)
    k_extra "a"
    have hni : NewIn _ h' [(Y', instObj 131 YD'), (YD', pairD b1 "bounds" b2 (.ref YB') b3 "items" b4 (.ref YI') b5), (YB', PySem.W.listOf #[.ref tp] b6), (YI', PySem.W.listOf #[.int p b8, .int q b9] b7)] :=
     List.forall_mem_cons.mpr ⟨⟨a1, hnew _ (by first | k_mem | simp)⟩, List.forall_mem_cons.mpr ⟨⟨a2, hnew _ (by first | k_mem | simp)⟩, List.forall_mem_cons.mpr ⟨⟨a3, hnew _ (by first | k_mem | simp)⟩, List.forall_mem_cons.mpr ⟨⟨a4, hnew _ (by first | k_mem | simp)⟩, List.forall_mem_nil _⟩⟩⟩⟩
    have hoff4 : ∀ p0 ∈ own, ∀ z ∈ [(Y', instObj 131 YD'), (YD', pairD b1 "bounds" b2 (.ref YB') b3 "items" b4 (.ref YI') b5), (YB', PySem.W.listOf #[.ref tp] b6), (YI', PySem.W.listOf #[.int p b8, .int q b9] b7)], p0.1 ≠ z.1 := fun p0 hp z hz e => by
     have := (hni z hz).2
     rw [← e, (nN p0 (.tail _ (List.mem_append_right _ hp))).1] at this
     cases this
    have hne2 := midNe nN hne1 (fun p hp => (hni p hp).2)
    have F' := Fr.keeps fF hk'
    have N' := newsMid fF nN hk' hni
    clear fF nN hne1
    have hst : stored kvs' k (.ref Y') = kvs' ++ [(k, .ref Y')] := stored_new (by rw [h2.keys]; exact hfr)
    have hdc : News g L h' ((dN, oF') :: ([(Y', instObj 131 YD'), (YD', pairD b1 "bounds" b2 (.ref YB') b3 "items" b4 (.ref YI') b5), (YB', PySem.W.listOf #[.ref tp] b6), (YI', PySem.W.listOf #[.int p b8, .int q b9] b7)] ++ (vals ++ own))) := N'
    clear N'
    (repeat' (first | k_extra "h" | ((with_reducible show wpAny _ _ (setItem (Value.ref _) (Value.str _ _) _) _ _ _); ((refine' setD ?F ?N ?ne ?d ?z ?_); (case F => assumption); (case N => assumption); (case ne => assumption); (case d => assumption); (case z => assumption); k_whole; intro h' o' F' N' hd'; k_sweep)) | ((with_reducible show wpAny _ _ (call (.ref 152) [Value.ref _, Value.ref _]) _ _ _); (with_unfolding_all refine' mkRec ?W ?st ?hh ?hd ?hu ?_); (case W => assumption); (case st => exact stays_of (by assumption) (by assumption)); (case hh => rfl); (case hd => k_extra "b"); (case hu => k_extra "b"); k_whole; intro Y' YD' a1' b1' a2' b2' n' h' tk' hk' g1' g2' ne'; k_extra "a"; (have F' := Fr.keeps fF hk'); (have N' := newsJ fF nN hk' (more := [(Y', _), (YD', _)]) (List.forall_mem_cons.mpr ⟨g1', List.forall_mem_cons.mpr ⟨g2', List.forall_mem_nil _⟩⟩)); (have na' := allNe_of nN g1'.2); (have nb' := allNe_of nN g2'.2); (simp only [AllNe, and_true] at na' nb'); (simp only [List.cons_append, List.nil_append] at N'); clear hk' g1' g2'; k_sweep) | ((with_reducible show wpAny _ _ (call (.ref 168) [Value.int _ _]) _ _ _); (with_unfolding_all refine' copy_int ?W ?st ?hd ?hu ?_); k_extra "i"; k_whole; intro h' tk' hk'; k_extra "a"; (have F' := Fr.keeps fF hk'); (have N' := newsK nN hk'); clear hk'; k_sweep) | ((with_reducible show wpAny _ _ (subscriptTail _ _ (Value.ref _) (Value.str _ _)) _ _ _); (refine' itemD ?D ?v ?_); (case D => exact dB (by assumption) hFg hdF); (case v => exact hval); k_whole) | k_extra "g"))
    refine InvEndG.intro F' N' ⟨o', _, [(Y', instObj 131 YD'), (YD', pairD b1 "bounds" b2 (.ref YB') b3 "items" b4 (.ref YI') b5), (YB', PySem.W.listOf #[.ref tp] b6), (YI', PySem.W.listOf #[.int p b8, .int q b9] b7)] ++ vals, rfl, ?_, by rw [hst] at hd'; exact hd', by rw [take_snoc hky]; exact (h2.mono (fun _ _ z => z.mono fun z hz => List.mem_append_right [_, _, _, _] hz)).snoc (vcpMk hArg (arrInMk (.head _) (.tail _ (.head _)) (.tail _ (.tail _ (.head _))) (.tail _ (.tail _ (.tail _ (.head _))))) hnd), rfl, rfl⟩ ?_ ?_ ?_
    ·intro p hp
     rcases List.mem_append.mp hp with hp | hp
     ·exact hne2 p (List.mem_append_left _ hp)
     ·exact hne2 p (List.mem_append_right _ (List.mem_append_left _ hp))
    ·intro p hp b hb
     rw [List.map_cons, List.map_append] at hb
     rcases List.mem_cons.mp hb with rfl | hb
     ·exact hoff p hp _ (.head _)
     ·rcases List.mem_append.mp hb with hb | hb
      ·(refine xEAL (List.mem_map.mp hb) fun z hz z19x2 => ?_; subst z19x2)
       exact hoff4 p hp z hz
      ·exact hoff p hp _ (.tail _ hb)
    ·intro p hp
     rcases List.mem_cons.mp hp with rfl | hp
     ·exact .head _
     ·rcases List.mem_append.mp hp with hp | hp
      ·exact .tail _ (List.mem_append_left _ hp)
      ·exact .tail _ (List.mem_append_right _ (List.mem_append_left _ hp))
    ·intro p hp
     exact .tail _ (List.mem_append_right _ (List.mem_append_right _ hp))
  case done =>
   intro m₁ _ h tk w8 F₁ N₁
   (refine xEEEAAAAAL w8 fun oF' kvs' vals z12x3 hne hd' h2 hm1 hm2 => ?_; try clear w8; subst z12x3)
   rw [List.take_length] at h2
   rw [map2 hm1 hm2] at F₁
   (repeat' (first | k_extra "h" | ((with_reducible show wpAny _ _ (setItem (Value.ref _) (Value.str _ _) _) _ _ _); ((refine' setD ?F ?N ?ne ?d ?z ?_); (case F => assumption); (case N => assumption); (case ne => assumption); (case d => assumption); (case z => assumption); k_whole; intro h' o' F' N' hd'; k_sweep)) | ((with_reducible show wpAny _ _ (call (.ref 152) [Value.ref _, Value.ref _]) _ _ _); (with_unfolding_all refine' mkRec ?W ?st ?hh ?hd ?hu ?_); (case W => assumption); (case st => exact stays_of (by assumption) (by assumption)); (case hh => rfl); (case hd => k_extra "b"); (case hu => k_extra "b"); k_whole; intro Y' YD' a1' b1' a2' b2' n' h' tk' hk' g1' g2' ne'; k_extra "a"; (have F' := Fr.keeps fF hk'); (have N' := newsJ fF nN hk' (more := [(Y', _), (YD', _)]) (List.forall_mem_cons.mpr ⟨g1', List.forall_mem_cons.mpr ⟨g2', List.forall_mem_nil _⟩⟩)); (have na' := allNe_of nN g1'.2); (have nb' := allNe_of nN g2'.2); (simp only [AllNe, and_true] at na' nb'); (simp only [List.cons_append, List.nil_append] at N'); clear hk' g1' g2'; k_sweep) | ((with_reducible show wpAny _ _ (call (.ref 168) [Value.int _ _]) _ _ _); (with_unfolding_all refine' copy_int ?W ?st ?hd ?hu ?_); k_extra "i"; k_whole; intro h' tk' hk'; k_extra "a"; (have F' := Fr.keeps fF hk'); (have N' := newsK nN hk'); clear hk'; k_sweep) | ((with_reducible show wpAny _ _ (subscriptTail _ _ (Value.ref _) (Value.str _ _)) _ _ _); (refine' itemD ?D ?v ?_); (case D => exact dB (by assumption) hFg hdF); (case v => exact hval); k_whole) | k_extra "g"))
   refine hQ Y' YD' dN kvs' vals _ _ (keeps_of S2 F' (List.forall_mem_nil _) (List.forall_mem_nil _)) (recMk ((N' _ (.head _)).1) ((N' _ (.tail _ (.head _))).1) ((N' _ (.tail _ (.tail _ (.head _)))).1) hd' ⟨na'.1, nb'.1, ne'⟩) (h2.mono fun _ _ z => ?_) (fun p hp => ⟨(N' _ (.tail _ (.tail _ (.tail _ hp)))).1, new_of S2 N' (.tail _ (.tail _ (.tail _ hp))) (by first | k_mem | simp), allNe_mem na'.2 p hp, allNe_mem nb'.2 p hp, hne p hp⟩) ?_
   ·rcases z with z | w9
    ·exact .inl z
    ·(refine xEEEEEEEEEEEAAL w9 fun Y YD YB YI tp p q Y' YD' YB' YI' e a r => ?_; try clear w9)
     exact e ▸ r.1 ▸ vcpMk (a.keeps S3) r.2.1 r.2.2
   ·refine List.forall_mem_cons.mpr ⟨?_, List.forall_mem_cons.mpr ⟨?_, List.forall_mem_cons.mpr ⟨?_, List.forall_mem_nil _⟩⟩⟩
    ·exact new_of S2 N' (.head _) nNil
    ·exact new_of S2 N' (.tail _ (.head _)) (by first | k_mem | simp)
    ·exact new_of S2 N' (.tail _ (.tail _ (.head _))) (by first | k_mem | simp)
end
end
section
section
variable {w : World} {A : Around} {E : Value → Shared → Prop} {s : Shared} {K : Frag} {x C dx L : Addr} {h₀ : Heap} {m : Str → Option Value} {news news' : List (Addr × Obj)} {ox : Obj} {h1 h2 : Int} {k1 k2 : String} {t1 t2 : Tok} {v1 v2 v : Value} {n : Nat}
theorem isStr_str (a b : Str) (t : Tok) : (Value.str a t).isStr b = (a == b) := rfl
theorem set1 {Q : Unit → Shared → Prop} (F : Fr h₀ L s.heap m) (X₀ : K.In h₀) (N : News h₀ L s.heap news) (I : InstAt s.heap x ox C (some (pairD h1 k1 t1 v1 h2 k2 t2 v2 n))) (hd : ox.dict = some dx)
  (hs : findIn K (.ref C) "__setattr__" = some (some (.builtin "object.__setattr__"))) (hp : plainOver K C = true) (ht : takerIn K C (Str.ofString k1) = some none) (hh : hasDictIn K C = true)
  (U : Upd dx (pairD h1 k1 t1 v1 h2 k2 t2 v2 n) (pairD h1 k1 t1 v h2 k2 t2 v2 n) news news')
  (h : ∀ h', Fr h₀ L h' m → News h₀ L h' news' → Q () { s with heap := h', toks := s.toks + 2 }) : wpAny (model prog0 w) A (setAttr (.ref x) (Str.ofString k1) v) Q E s := by
 refine set_dict F X₀ N I hd hs hp ht hh ?_ ?_ U (by simp) h
 ·simp [getL, isStr_str]
 ·simp [putL, putN, isStr_str]
theorem set2 {Q : Unit → Shared → Prop} (hk : (Str.ofString k1 == Str.ofString k2) = false) (F : Fr h₀ L s.heap m) (X₀ : K.In h₀) (N : News h₀ L s.heap news) (I : InstAt s.heap x ox C (some (pairD h1 k1 t1 v1 h2 k2 t2 v2 n))) (hd : ox.dict = some dx)
  (hs : findIn K (.ref C) "__setattr__" = some (some (.builtin "object.__setattr__"))) (hp : plainOver K C = true) (ht : takerIn K C (Str.ofString k2) = some none) (hh : hasDictIn K C = true)
  (U : Upd dx (pairD h1 k1 t1 v1 h2 k2 t2 v2 n) (pairD h1 k1 t1 v1 h2 k2 t2 v n) news news')
  (h : ∀ h', Fr h₀ L h' m → News h₀ L h' news' → Q () { s with heap := h', toks := s.toks + 2 }) : wpAny (model prog0 w) A (setAttr (.ref x) (Str.ofString k2) v) Q E s := by
 refine set_dict F X₀ N I hd hs hp ht hh ?_ ?_ U (by simp) h
 ·simp [getL, isStr_str, hk]
 ·simp [putL, putN, isStr_str, hk]
end
section
variable {w : World} {A : Around} {E : Value → Shared → Prop} {s : Shared} {d : Addr} {kvs : List (Str × Value)} {k : Str} {t : Tok}
theorem getM {pl : Sem Bool} {Q : Value × List Value → Shared → Prop} (hD : s.heap.DictOf (PySem.strKind prog0 w) d kvs) (h : Q (.builtin "dict.get", [.ref d]) s) : wpAny (model prog0 w) A (getMethod (.ref d) (Str.ofString "get") pl) Q E s :=
 getMethod_builtin hD.typeIs PySem.F.plainAttrs_dict PySem.F.slot_dict_get PySem.F.type_dict_get hD.mapOf.noDict h
theorem getC1 {Q : Value → Shared → Prop} (hD : s.heap.DictOf (PySem.strKind prog0 w) d kvs) (lo : (d == sysModules) = false) (x : Option Value) (hl : valueAt kvs k = x) (h : Q (x.getD .none) { s with toks := s.toks + 1 }) :
  wpAny (model prog0 w) A (call (.builtin "dict.get") [.ref d, .str k t]) Q E s :=
 call_meetsIn PySem.F.slot_dict_get hD.typeIs PySem.F.entry_dict_get (PySem.F.args_dict_get_2 _ _) (meets_dict_get (PySem.strKind prog0 w) d (strKind_is _ _ _ _) lo) ⟨_, hD.mapOf, by rw [hl]; exact h⟩
theorem inst_mix {g h : Heap} {L x C dx : Addr} {m : Str → Option Value} {od : Obj} {sl : Array (Option Value)} {news : List (Addr × Obj)} (F : Fr g L h m) (N : News g L h news) (h1 : g.get? x = some ⟨.ref C, some dx, .plain, sl⟩) (h2 : (dx, od) ∈ news) : InstAt h x ⟨.ref C, some dx, .plain, sl⟩ C (some od) :=
 ⟨F.keep _ _ h1, rfl, rfl, (N _ h2).1⟩
theorem frBut2 {g h h' : Heap} {L a1 a2 : Addr} {m : Str → Option Value} (F : Fr g L h m) (hk : ∀ b o, b ≠ a1 → b ≠ a2 → h.get? b = some o → h'.get? b = some o) (n1 : g.get? a1 = none) (n2 : g.get? a2 = none) (l1 : a1 ≠ L) (l2 : a2 ≠ L) : Fr g L h' m := by
 refine xEEEAL (F.ns) fun oL es ep hL r => ?_
 refine ⟨⟨oL, es, ep, hk _ _ (Ne.symm l1) (Ne.symm l2) hL, r⟩, fun b o e => hk b o ?_ ?_ (F.keep b o e), F.above⟩
 ·intro q; rw [q, n1] at e; cases e
 ·intro q; rw [q, n2] at e; cases e
theorem map4 {m₁ : Str → Option Value} {x a b c : Str} {v va vb vc : Value} (ha : m₁ a = some va) (hb : m₁ b = some vb) (hc : m₁ c = some vc) :
  (fun z => if z = x then some v else m₁ z) = fun z => if z = x then some v else if z = a then some va else if z = b then some vb else if z = c then some vc else m₁ z := by
 funext z
 by_cases h : z = x
 ·simp only [if_pos h]
 ·simp only [if_neg h]
  by_cases h1 : z = a
  ·simp only [if_pos h1]; rw [h1, ha]
  ·simp only [if_neg h1]
   by_cases h2 : z = b
   ·simp only [if_pos h2]; rw [h2, hb]
   ·simp only [if_neg h2]
    by_cases h3 : z = c
    ·simp only [if_pos h3]; rw [h3, hc]
    ·simp only [if_neg h3]
theorem map3' {m₁ : Str → Option Value} {a b c : Str} {va vb vc : Value} (ha : m₁ a = some va) (hb : m₁ b = some vb) (hc : m₁ c = some vc) :
  m₁ = fun z => if z = a then some va else if z = b then some vb else if z = c then some vc else m₁ z := by
 funext z
 by_cases h1 : z = a
 ·simp only [if_pos h1]; rw [h1, ha]
 ·simp only [if_neg h1]
  by_cases h2 : z = b
  ·simp only [if_pos h2]; rw [h2, hb]
  ·simp only [if_neg h2]
   by_cases h3 : z = c
   ·simp only [if_pos h3]; rw [h3, hc]
   ·simp only [if_neg h3]
end
def VOkA (h : Heap) (S : List Addr) (x : Value) : Prop := (∃ n t, x = .int n t) ∨ ∃ Y YD YB YI tp p q, x = .ref Y ∧ ArrAt h Y YD YB YI tp p q ∧ ∀ a ∈ [Y, YD, YB, YI], a ∉ S
theorem ArrAt.sub {h g : Heap} {Y YD YB YI tp : Addr} {p q : Int} {S : List Addr} (x : ArrAt h Y YD YB YI tp p q) (hS : ∀ a ∈ [Y, YD, YB, YI], a ∉ S) (k : ∀ b o, h.get? b = some o → b ∉ S → g.get? b = some o) : ArrAt g Y YD YB YI tp p q :=
 arrEl x fun a _ _ _ _ _ b _ c _ _ _ d => arrMk (k _ _ a (hS _ (.head _))) (k _ _ b (hS _ (.tail _ (.head _)))) (k _ _ c (hS _ (.tail _ (.tail _ (.head _))))) (k _ _ d (hS _ (.tail _ (.tail _ (.tail _ (.head _))))))
theorem VOkA.sub {h g : Heap} {S : List Addr} {x : Value} (v : VOkA h S x) (k : ∀ b o, h.get? b = some o → b ∉ S → g.get? b = some o) : VOk g x := by
 rcases v with v | w10
 ·exact .inl v
 ·(refine xEEEEEEEAAL w10 fun Y YD YB YI tp p q e a hS => ?_; try clear w10)
  exact .inr ⟨Y, YD, YB, YI, tp, p, q, e, a.sub hS k⟩
theorem valueAt_mem {kvs : List (Str × Value)} {k : Str} {v : Value} (h : valueAt kvs k = some v) : (k, v) ∈ kvs := by
 unfold valueAt at h
 cases q : kvs.find? fun kv => decide (kv.1 = k) with
 | none => rw [q] at h; cases h
 | some p =>
  rw [q] at h
  have hk : p.1 = k := by simpa using List.find?_some q
  have hv : p.2 = v := by simpa using h
  have := List.mem_of_find?_eq_some q
  rw [← hk, ← hv]; exact this
def fixY (Y : Addr) (p : Str × Value) : Str × Value := match p.2 with | .ref _ => (p.1, .ref Y) | _ => p
def isRefV (v : Value) : Bool := match v with | .ref _ => true | _ => false
theorem fixY_key (Y : Addr) (p : Str × Value) : (fixY Y p).1 = p.1 := by unfold fixY; split <;> rfl
theorem fixY_keys (Y : Addr) (l : List (Str × Value)) : (l.map (fixY Y)).map (·.1) = l.map (·.1) := by
 rw [List.map_map]; exact List.map_congr_left fun p _ => fixY_key Y p
end
section
open PySem PySem.W PyProof.Rows PySem.Calls
variable {w : World} {mg mb : Str → Option Value} {hB : Heap} {s : Shared} {dd uu : Nat} {gs : Option (List Code)} {fr : Option (List Env)} {Q : Value → Shared → Prop} {E : Value → Shared → Prop}
theorem kept_int_none {n : Int} {tn : Tok}
  (WD : Wd w mg mb hB) (st : hB.StaysIn s.heap) (hdd : dd ≤ 500) (huu : uu ≤ 2000)
  (hQ : ∀ h' tk, Keeps s.heap h' → Q (.int n tn) {s with heap := h', toks := tk}) :
  wpAny (model prog0 w) ⟨none, dd, fr, gs, uu⟩ (call (.ref 175) [.none, .int n tn]) Q E s := by
 refine wpAny_call ?_
 refine' enter0 (news := []) (binds := [(Str.ofString "old", .none), (Str.ofString "fresh", .int n tn)]) WD st ?hN ?hroom ?ho ?hcd ?hb ?hl ?body ?c1 ?c2 ?c3 ?c4
 k_extra "j"
 case hN => exact List.forall_mem_nil _
 case body =>
  intro g L h₁ S1 S2 S3 F' N' KX' T' l1
  try simp only [AllLt, and_true] at l1
  dsimp only
  (repeat' (first | k_extra "h" | ((with_reducible show wpAny _ _ (setAttr (Value.ref _) _ _) _ _ _); (k_dflt (first | (refine set1 (by k_asm) (by k_asm) (by k_asm) (by k_inst) (by rfl) (by k_is) (by k_is) (by k_is) (by k_is) (by k_upd) ?_; k_whole; intro h' F' N'; (try k_sweep)) | (refine set2 (by decide +kernel) (by k_asm) (by k_asm) (by k_asm) (by k_inst) (by rfl) (by k_is) (by k_is) (by k_is) (by k_is) (by k_upd) ?_; k_whole; intro h' F' N'; (try k_sweep))))) | k_extra "g"))
  all_goals (try dsimp only)
  all_goals (rename Fr _ _ _ _ => FF; exact hQ _ _ fun b o e => FF.keep b o (S2 b o e nNil))
theorem kept_int_int {n n0 : Int} {tn t0 : Tok}
  (WD : Wd w mg mb hB) (st : hB.StaysIn s.heap) (hdd : dd ≤ 500) (huu : uu ≤ 2000)
  (hQ : ∀ h' tk, Keeps s.heap h' → Q (.int n tn) {s with heap := h', toks := tk}) :
  wpAny (model prog0 w) ⟨none, dd, fr, gs, uu⟩ (call (.ref 175) [.int n0 t0, .int n tn]) Q E s := by
 refine wpAny_call ?_
 refine' enter0 (news := []) (binds := [(Str.ofString "old", .int n0 t0), (Str.ofString "fresh", .int n tn)]) WD st ?hN ?hroom ?ho ?hcd ?hb ?hl ?body ?c1 ?c2 ?c3 ?c4
 k_extra "j"
 case hN => exact List.forall_mem_nil _
 case body =>
  intro g L h₁ S1 S2 S3 F' N' KX' T' l1
  try simp only [AllLt, and_true] at l1
  dsimp only
  (repeat' (first | k_extra "h" | ((with_reducible show wpAny _ _ (setAttr (Value.ref _) _ _) _ _ _); (k_dflt (first | (refine set1 (by k_asm) (by k_asm) (by k_asm) (by k_inst) (by rfl) (by k_is) (by k_is) (by k_is) (by k_is) (by k_upd) ?_; k_whole; intro h' F' N'; (try k_sweep)) | (refine set2 (by decide +kernel) (by k_asm) (by k_asm) (by k_asm) (by k_inst) (by rfl) (by k_is) (by k_is) (by k_is) (by k_is) (by k_upd) ?_; k_whole; intro h' F' N'; (try k_sweep))))) | k_extra "g"))
  all_goals (try dsimp only)
  all_goals (rename Fr _ _ _ _ => FF; exact hQ _ _ fun b o e => FF.keep b o (S2 b o e nNil))
theorem kept_int_arr {n : Int} {tn : Tok} {Y YD : Addr} {od : Obj}
  (WD : Wd w mg mb hB) (st : hB.StaysIn s.heap) (hdd : dd ≤ 500) (huu : uu ≤ 2000)
  (e1 : s.heap.get? Y = some (instObj 131 YD)) (e2 : s.heap.get? YD = some od)
  (hQ : ∀ h' tk, Keeps s.heap h' → Q (.int n tn) {s with heap := h', toks := tk}) :
  wpAny (model prog0 w) ⟨none, dd, fr, gs, uu⟩ (call (.ref 175) [.ref Y, .int n tn]) Q E s := by
 refine wpAny_call ?_
 refine' enter0 (news := []) (binds := [(Str.ofString "old", .ref Y), (Str.ofString "fresh", .int n tn)]) WD st ?hN ?hroom ?ho ?hcd ?hb ?hl ?body ?c1 ?c2 ?c3 ?c4
 k_extra "j"
 case hN => exact List.forall_mem_nil _
 case body =>
  intro g L h₁ S1 S2 S3 F' N' KX' T' l1
  try simp only [AllLt, and_true] at l1
  have q1 := S2 _ _ e1 nNil
  have q2 := S2 _ _ e2 nNil
  dsimp only
  (repeat' (first | k_extra "h" | ((with_reducible show wpAny _ _ (setAttr (Value.ref _) _ _) _ _ _); (k_dflt (first | (refine set1 (by k_asm) (by k_asm) (by k_asm) (by k_inst) (by rfl) (by k_is) (by k_is) (by k_is) (by k_is) (by k_upd) ?_; k_whole; intro h' F' N'; (try k_sweep)) | (refine set2 (by decide +kernel) (by k_asm) (by k_asm) (by k_asm) (by k_inst) (by rfl) (by k_is) (by k_is) (by k_is) (by k_is) (by k_upd) ?_; k_whole; intro h' F' N'; (try k_sweep))))) | k_extra "g"))
  all_goals (try dsimp only)
  all_goals (rename Fr _ _ _ _ => FF; exact hQ _ _ fun b o e => FF.keep b o (S2 b o e nNil))
theorem kept_arr_none {Y YD : Addr} {od : Obj}
  (WD : Wd w mg mb hB) (st : hB.StaysIn s.heap) (hdd : dd ≤ 500) (huu : uu ≤ 2000)
  (e1 : s.heap.get? Y = some (instObj 131 YD)) (e2 : s.heap.get? YD = some od)
  (hQ : ∀ h' tk, Keeps s.heap h' → Q (.ref Y) {s with heap := h', toks := tk}) :
  wpAny (model prog0 w) ⟨none, dd, fr, gs, uu⟩ (call (.ref 175) [.none, .ref Y]) Q E s := by
 refine wpAny_call ?_
 refine' enter0 (news := []) (binds := [(Str.ofString "old", .none), (Str.ofString "fresh", .ref Y)]) WD st ?hN ?hroom ?ho ?hcd ?hb ?hl ?body ?c1 ?c2 ?c3 ?c4
 k_extra "j"
 case hN => exact List.forall_mem_nil _
 case body =>
  intro g L h₁ S1 S2 S3 F' N' KX' T' l1
  try simp only [AllLt, and_true] at l1
  have q1 := S2 _ _ e1 nNil
  have q2 := S2 _ _ e2 nNil
  dsimp only
  (repeat' (first | k_extra "h" | ((with_reducible show wpAny _ _ (setAttr (Value.ref _) _ _) _ _ _); (k_dflt (first | (refine set1 (by k_asm) (by k_asm) (by k_asm) (by k_inst) (by rfl) (by k_is) (by k_is) (by k_is) (by k_is) (by k_upd) ?_; k_whole; intro h' F' N'; (try k_sweep)) | (refine set2 (by decide +kernel) (by k_asm) (by k_asm) (by k_asm) (by k_inst) (by rfl) (by k_is) (by k_is) (by k_is) (by k_is) (by k_upd) ?_; k_whole; intro h' F' N'; (try k_sweep))))) | k_extra "g"))
  all_goals (try dsimp only)
  all_goals (rename Fr _ _ _ _ => FF; exact hQ _ _ fun b o e => FF.keep b o (S2 b o e nNil))
theorem kept_arr_arr {Y YD YB YI tp Y2 YD2 YB2 YI2 tp2 : Addr} {p q p2 q2 : Int}
  (WD : Wd w mg mb hB) (st : hB.StaysIn s.heap) (hdd : dd ≤ 488) (huu : uu ≤ 1900)
  (hA : ArrAt s.heap Y YD YB YI tp p q) (hA2 : ArrAt s.heap Y2 YD2 YB2 YI2 tp2 p2 q2) (hY : hB.get? Y = none) (hYD : hB.get? YD = none) (hYI : hB.get? YI = none) (ne1 : @Ne Nat Y YD ∧ @Ne Nat Y YI ∧ @Ne Nat YD YI) (ne2 : ∀ a ∈ [Y2, YD2, YB2, YI2], @Ne Nat a Y ∧ @Ne Nat a YD ∧ @Ne Nat a YI)
  (hQ : ∀ h' tk, (∀ b o, b ≠ YD → b ≠ YI → s.heap.get? b = some o → h'.get? b = some o) → ArrAt h' Y YD YB2 YI tp2 p2 q2 → Q (.ref Y) {s with heap := h', toks := tk}) :
  wpAny (model prog0 w) ⟨none, dd, fr, gs, uu⟩ (call (.ref 175) [.ref Y, .ref Y2]) Q E s := by
 (refine arrEl hA fun e1 h1 t1 h2 t2 n2 e2 n3 e3 n4 t3 t4 e4 => ?_; try clear hA)
 (refine arrEl hA2 fun r1 u1 v1 u2 v2 o2 r2 o3 r3 o4 w3 w4 r4 => ?_; try clear hA2)
 refine wpAny_call ?_
 refine' enter0 (news := [(Y, instObj 131 YD), (YD, pairD h1 "bounds" t1 (.ref YB) h2 "items" t2 (.ref YI) n2), (YI, PySem.W.listOf #[.int p t3, .int q t4] n4)]) (binds := [(Str.ofString "old", .ref Y), (Str.ofString "fresh", .ref Y2)]) WD st ?hN ?hroom ?ho ?hcd ?hb ?hl ?body ?c1 ?c2 ?c3 ?c4
 k_extra "j"
 case hN => exact List.forall_mem_cons.mpr ⟨⟨e1, hY⟩, List.forall_mem_cons.mpr ⟨⟨e2, hYD⟩, List.forall_mem_cons.mpr ⟨⟨e4, hYI⟩, List.forall_mem_nil _⟩⟩⟩
 case body =>
  intro g L h₁ S1 S2 S3 F' N' KX' T' l1
  try simp only [AllLt, and_true] at l1
  obtain ⟨⟨m11, m12, m13⟩, ⟨m21, m22, m23⟩, ⟨m31, m32, m33⟩, ⟨m41, m42, m43⟩⟩ : ((@Ne Nat Y2 Y ∧ @Ne Nat Y2 YD ∧ @Ne Nat Y2 YI) ∧ (@Ne Nat YD2 Y ∧ @Ne Nat YD2 YD ∧ @Ne Nat YD2 YI) ∧ (@Ne Nat YB2 Y ∧ @Ne Nat YB2 YD ∧ @Ne Nat YB2 YI) ∧ (@Ne Nat YI2 Y ∧ @Ne Nat YI2 YD ∧ @Ne Nat YI2 YI)) :=
   ⟨ne2 _ (.head _), ne2 _ (.tail _ (.head _)), ne2 _ (.tail _ (.tail _ (.head _))), ne2 _ (.tail _ (.tail _ (.tail _ (.head _))))⟩
  have qa := S2 _ _ r1 (by simp [m11, m12, m13])
  have qb := S2 _ _ r2 (by simp [m21, m22, m23])
  have qc : g.IsList YB2 [Value.ref tp2].toArray := ⟨_, S2 _ _ r3 (by simp [m31, m32, m33]), rfl, _, rfl⟩
  have qd : g.IsList YI2 [Value.int p2 w3, Value.int q2 w4].toArray := ⟨_, S2 _ _ r4 (by simp [m41, m42, m43]), rfl, _, rfl⟩
  dsimp only
  (repeat' (first | k_extra "h" | ((with_reducible show wpAny _ _ (setAttr (Value.ref _) _ _) _ _ _); (k_dflt (first | (refine set1 (by k_asm) (by k_asm) (by k_asm) (by k_inst) (by rfl) (by k_is) (by k_is) (by k_is) (by k_is) (by k_upd) ?_; k_whole; intro h' F' N'; (try k_sweep)) | (refine set2 (by decide +kernel) (by k_asm) (by k_asm) (by k_asm) (by k_inst) (by rfl) (by k_is) (by k_is) (by k_is) (by k_is) (by k_upd) ?_; k_whole; intro h' F' N'; (try k_sweep))))) | ((with_reducible show wpAny _ _ (call (.ref 175) [Value.int _ _, Value.int _ _]) _ _ _); (with_unfolding_all refine' kept_int_int ?W ?st ?hd ?hu ?_); k_extra "i"; k_whole; intro h' tk' hk'; k_extra "a"; (have F' := Fr.keeps fF hk'); (have N' := newsK nN hk'); clear hk'; k_sweep) | k_extra "g"))
  all_goals (try dsimp only)
  rename Fr _ _ _ _ => F9
  rename News _ _ _ _ => N9
  refine hQ _ _ (fun b o hb1 hb2 e => ?_) (arrMk ((N9 _ (.head _)).1) ((N9 _ (.tail _ (.head _))).1) (F9.keep _ _ (S2 _ _ r3 (by simp [m31, m32, m33]))) ((N9 _ (.tail _ (.tail _ (.head _)))).1))
  by_cases hb : b = Y
  ·subst hb
   rw [e1] at e
   rw [← e]
   exact (N9 _ (.head _)).1
  ·exact F9.keep _ _ (S2 _ _ e (by simp [hb, hb1, hb2]))
end
section
open PySem PySem.W PyProof.Rows PySem.Calls
variable {w : World} {mg mb : Str → Option Value} {hB : Heap} {s : Shared} {dd uu : Nat} {gs : Option (List Code)} {fr : Option (List Env)} {Q : Value → Shared → Prop} {E : Value → Shared → Prop}
structure TypA (h : Heap) (T D : Addr) (es : List DictEntry) (n : Nat) : Prop where
 o1 : h.get? T = some (instObj 253 D)
 o2 : h.get? D = some (dictOf es n)
theorem TypA.keeps {h h' : Heap} {T D : Addr} {es : List DictEntry} {n : Nat} (x : TypA h T D es n) (k : Keeps h h') : TypA h' T D es n := ⟨k _ _ x.o1, k _ _ x.o2⟩
structure SubAt (h : Heap) (S SD T : Addr) : Prop where
 o1 : h.get? S = some (instObj 274 SD)
 o2 : ∃ h1 t1 h2 t2 n, h.get? SD = some (pairD h1 "type" t1 (.ref T) h2 "constraint" t2 .none n)
theorem SubAt.keeps {h h' : Heap} {S SD T : Addr} (x : SubAt h S SD T) (k : Keeps h h') : SubAt h' S SD T := ⟨k _ _ x.o1, xEEEEEL x.o2 fun a b c d e f => ⟨a, b, c, d, e, k _ _ f⟩⟩
theorem full_type_rec {T D : Addr} {es : List DictEntry} {n : Nat} {t1 : Tok}
  (WD : Wd w mg mb hB) (st : hB.StaysIn s.heap) (hdd : dd ≤ 500) (huu : uu ≤ 2000)
  (hT : TypA s.heap T D es n) (hk : getL (Str.ofString "kind") es = some (some (.str (Str.ofString "record") t1)))
  (hQ : ∀ h' tk, Keeps s.heap h' → Q (.ref T) {s with heap := h', toks := tk}) :
  wpAny (model prog0 w) ⟨none, dd, fr, gs, uu⟩ (call (.ref 355) [.ref T]) Q E s := by
 refine wpAny_call ?_
 refine' enter0 (news := []) (binds := [(Str.ofString "t", .ref T)]) WD st ?hN ?hroom ?ho ?hcd ?hb ?hl ?body ?c1 ?c2 ?c3 ?c4
 k_extra "j"
 case hN => exact List.forall_mem_nil _
 case body =>
  intro g L h₁ S1 S2 S3 F' N' KX' T' l1
  try simp only [AllLt, and_true] at l1
  have qt1 := S2 _ _ hT.o1 nNil
  have qt2 := S2 _ _ hT.o2 nNil
  have hTg : TypA g T D es n := ⟨qt1, qt2⟩
  dsimp only
  (repeat' (first | k_extra "h" | k_extra "g"))
  all_goals (try dsimp only)
  all_goals (rename Fr _ _ _ _ => FF; exact hQ _ _ fun b o e => FF.keep b o (S2 b o e nNil))
theorem full_sub_rec {S SD T D : Addr} {es : List DictEntry} {n : Nat} {t1 : Tok}
  (WD : Wd w mg mb hB) (st : hB.StaysIn s.heap) (hdd : dd ≤ 500) (huu : uu ≤ 2000)
  (hS : SubAt s.heap S SD T) (hT : TypA s.heap T D es n) (hk : getL (Str.ofString "kind") es = some (some (.str (Str.ofString "record") t1)))
  (hQ : ∀ h' tk, Keeps s.heap h' → Q (.ref S) {s with heap := h', toks := tk}) :
  wpAny (model prog0 w) ⟨none, dd, fr, gs, uu⟩ (call (.ref 348) [.ref S]) Q E s := by
 refine wpAny_call ?_
 refine' enter0 (news := []) (binds := [(Str.ofString "subtype", .ref S)]) WD st ?hN ?hroom ?ho ?hcd ?hb ?hl ?body ?c1 ?c2 ?c3 ?c4
 k_extra "j"
 case hN => exact List.forall_mem_nil _
 case body =>
  intro g L h₁ S1 S2 S3 F' N' KX' T' l1
  try simp only [AllLt, and_true] at l1
  have qt1 := S2 _ _ hT.o1 nNil
  have qt2 := S2 _ _ hT.o2 nNil
  have hTg : TypA g T D es n := ⟨qt1, qt2⟩
  have qs1 := S2 _ _ hS.o1 nNil
  have hSg := hS.keeps (fun b o e => S2 b o e nNil)
  refine xEEEEEL (hS.o2) fun x1 x2 x3 x4 x5 qs2 => ?_
  have qs2 := S2 _ _ qs2 nNil
  dsimp only
  (repeat' (first | k_extra "h" | k_extra "g"))
  all_goals (try dsimp only)
  all_goals (rename Fr _ _ _ _ => FF; exact hQ _ _ fun b o e => FF.keep b o (S2 b o e nNil))
theorem full_sub_int {S SD T D : Addr} {es : List DictEntry} {n : Nat} {t1 : Tok}
  (WD : Wd w mg mb hB) (st : hB.StaysIn s.heap) (hdd : dd ≤ 500) (huu : uu ≤ 2000)
  (hS : SubAt s.heap S SD T) (hT : TypA s.heap T D es n) (hk : getL (Str.ofString "kind") es = some (some (.str (Str.ofString "int") t1)))
  (hQ : ∀ h' tk, Keeps s.heap h' → Q (.ref S) {s with heap := h', toks := tk}) :
  wpAny (model prog0 w) ⟨none, dd, fr, gs, uu⟩ (call (.ref 348) [.ref S]) Q E s := by
 refine wpAny_call ?_
 refine' enter0 (news := []) (binds := [(Str.ofString "subtype", .ref S)]) WD st ?hN ?hroom ?ho ?hcd ?hb ?hl ?body ?c1 ?c2 ?c3 ?c4
 k_extra "j"
 case hN => exact List.forall_mem_nil _
 case body =>
  intro g L h₁ S1 S2 S3 F' N' KX' T' l1
  try simp only [AllLt, and_true] at l1
  have qt1 := S2 _ _ hT.o1 nNil
  have qt2 := S2 _ _ hT.o2 nNil
  have hTg : TypA g T D es n := ⟨qt1, qt2⟩
  have qs1 := S2 _ _ hS.o1 nNil
  have hSg := hS.keeps (fun b o e => S2 b o e nNil)
  refine xEEEEEL (hS.o2) fun x1 x2 x3 x4 x5 qs2 => ?_
  have qs2 := S2 _ _ qs2 nNil
  dsimp only
  (repeat' (first | k_extra "h" | k_extra "g"))
  all_goals (try dsimp only)
  all_goals (rename Fr _ _ _ _ => FF; exact hQ _ _ fun b o e => FF.keep b o (S2 b o e nNil))
theorem own_part {T D v : Addr} {es : List DictEntry} {n : Nat} {t1 : Tok}
  (WD : Wd w mg mb hB) (st : hB.StaysIn s.heap) (hdd : dd ≤ 500) (huu : uu ≤ 2000)
  (hT : TypA s.heap T D es n) (hk : getL (Str.ofString "kind") es = some (some (.str (Str.ofString "record") t1)))(hg : getL (Str.ofString "is_tagged") es = some (some (.bool false)))
  (hQ : ∀ h' tk, Keeps s.heap h' → Q (.ref v) {s with heap := h', toks := tk}) :
  wpAny (model prog0 w) ⟨none, dd, fr, gs, uu⟩ (call (.ref 468) [.ref T, .ref v]) Q E s := by
 refine wpAny_call ?_
 refine' enter0 (news := []) (binds := [(Str.ofString "t", .ref T), (Str.ofString "value", .ref v)]) WD st ?hN ?hroom ?ho ?hcd ?hb ?hl ?body ?c1 ?c2 ?c3 ?c4
 k_extra "j"
 case hN => exact List.forall_mem_nil _
 case body =>
  intro g L h₁ S1 S2 S3 F' N' KX' T' l1
  try simp only [AllLt, and_true] at l1
  have qt1 := S2 _ _ hT.o1 nNil
  have qt2 := S2 _ _ hT.o2 nNil
  have hTg : TypA g T D es n := ⟨qt1, qt2⟩
  dsimp only
  (repeat' (first | k_extra "h" | k_extra "g"))
  all_goals (try dsimp only)
  all_goals (rename Fr _ _ _ _ => FF; exact hQ _ _ fun b o e => FF.keep b o (S2 b o e nNil))
theorem assigned_part {T D v : Addr} {old : Value} {es : List DictEntry} {n : Nat} {t1 : Tok}
  (WD : Wd w mg mb hB) (st : hB.StaysIn s.heap) (hdd : dd ≤ 488) (huu : uu ≤ 1900)
  (hT : TypA s.heap T D es n) (hk : getL (Str.ofString "kind") es = some (some (.str (Str.ofString "record") t1)))(hg : getL (Str.ofString "is_tagged") es = some (some (.bool false)))
  (hQ : ∀ h' tk, Keeps s.heap h' → Q (.ref v) {s with heap := h', toks := tk}) :
  wpAny (model prog0 w) ⟨none, dd, fr, gs, uu⟩ (call (.ref 475) [.ref T, old, .ref v]) Q E s := by
 refine wpAny_call ?_
 refine' enter0 (news := []) (binds := [(Str.ofString "t", .ref T), (Str.ofString "old", old), (Str.ofString "value", .ref v)]) WD st ?hN ?hroom ?ho ?hcd ?hb ?hl ?body ?c1 ?c2 ?c3 ?c4
 k_extra "j"
 case hN => exact List.forall_mem_nil _
 case body =>
  intro g L h₁ S1 S2 S3 F' N' KX' T' l1
  try simp only [AllLt, and_true] at l1
  have qt1 := S2 _ _ hT.o1 nNil
  have qt2 := S2 _ _ hT.o2 nNil
  have hTg : TypA g T D es n := ⟨qt1, qt2⟩
  dsimp only
  (repeat' (first | k_extra "h" | ((with_reducible show wpAny _ _ (call (.ref 468) [Value.ref _, Value.ref _]) _ _ _); (with_unfolding_all refine' own_part ?W ?st ?hd ?hu ?a0 ?a1 ?a2 ?_); k_extra "i"; (case a0 => first | assumption | exact TypA.keeps (by assumption) (Fr.keep (by assumption)) | exact SubAt.keeps (by assumption) (Fr.keep (by assumption))); (case a1 => first | assumption | exact TypA.keeps (by assumption) (Fr.keep (by assumption)) | exact SubAt.keeps (by assumption) (Fr.keep (by assumption))); (case a2 => first | assumption | exact TypA.keeps (by assumption) (Fr.keep (by assumption)) | exact SubAt.keeps (by assumption) (Fr.keep (by assumption))); k_whole; intro h' tk' hk'; k_extra "a"; (have F' := Fr.keeps fF hk'); (have N' := newsK nN hk'); clear hk'; k_sweep) | k_extra "g"))
  all_goals (try dsimp only)
  all_goals (rename Fr _ _ _ _ => FF; exact hQ _ _ fun b o e => FF.keep b o (S2 b o e nNil))
end
section
open PySem PySem.W PyProof.Rows PySem.Calls
variable {w : World} {mg mb : Str → Option Value} {hB : Heap} {s : Shared} {dd uu : Nat} {gs : Option (List Code)} {fr : Option (List Env)} {Q : Value → Shared → Prop} {E : Value → Shared → Prop}
theorem in_bounds {v : Int} {tv t2 t3 : Tok}
  (WD : Wd w mg mb hB) (st : hB.StaysIn s.heap) (hdd : dd ≤ 500) (huu : uu ≤ 2000)
  (h0 : 0 ≤ v) (h1 : v ≤ 100)
  (hQ : ∀ h' tk, Keeps s.heap h' → Q (.bool true) {s with heap := h', toks := tk}) :
  wpAny (model prog0 w) ⟨none, dd, fr, gs, uu⟩ (call (.ref 496) [.int v tv, .int (-32768) t2, .int 32767 t3]) Q E s := by
 refine wpAny_call ?_
 refine' enter0 (news := []) (binds := [(Str.ofString "value", .int v tv), (Str.ofString "low", .int (-32768) t2), (Str.ofString "high", .int 32767 t3)]) WD st ?hN ?hroom ?ho ?hcd ?hb ?hl ?body ?c1 ?c2 ?c3 ?c4
 k_extra "j"
 case hN => exact List.forall_mem_nil _
 case body =>
  intro g L h₁ S1 S2 S3 F' N' KX' T' l1
  try simp only [AllLt, and_true] at l1
  dsimp only
  (repeat' (first | k_extra "h" | k_extra "g"))
  all_goals (try dsimp only)
  have hdec : decide (v ≤ 32767) = true := decide_eq_true (by omega)
  rw [hdec]
  try refine hqr _ _ nRet ?_
  rename Fr _ _ _ _ => FF
  exact hQ _ _ fun b o e => FF.keep b o (S2 b o e nNil)
theorem bounds_of {S SD T D : Addr} {es : List DictEntry} {n : Nat} {t2 t3 : Tok}
  (WD : Wd w mg mb hB) (st : hB.StaysIn s.heap) (hdd : dd ≤ 500) (huu : uu ≤ 2000)
  (hS : SubAt s.heap S SD T) (hT : TypA s.heap T D es n) (hlo : getL (Str.ofString "low") es = some (some (.int (-32768) t2))) (hhi : getL (Str.ofString "high") es = some (some (.int 32767 t3)))
  (hQ : ∀ P h' tk, Keeps s.heap h' → h'.get? P = some { cls := .type "tuple", data := .seq #[.int (-32768) t2, .int 32767 t3] } → s.heap.get? P = none → Q (.ref P) {s with heap := h', toks := tk}) :
  wpAny (model prog0 w) ⟨none, dd, fr, gs, uu⟩ (call (.ref 489) [.ref S]) Q E s := by
 refine wpAny_call ?_
 refine' enter0 (news := []) (binds := [(Str.ofString "subtype", .ref S)]) WD st ?hN ?hroom ?ho ?hcd ?hb ?hl ?body ?c1 ?c2 ?c3 ?c4
 k_extra "j"
 case hN => exact List.forall_mem_nil _
 case body =>
  intro g L h₁ S1 S2 S3 F' N' KX' T' l1
  try simp only [AllLt, and_true] at l1
  have qt1 := S2 _ _ hT.o1 nNil
  have qt2 := S2 _ _ hT.o2 nNil
  have hTg : TypA g T D es n := ⟨qt1, qt2⟩
  have qs1 := S2 _ _ hS.o1 nNil
  have hSg := hS.keeps (fun b o e => S2 b o e nNil)
  refine xEEEEEL (hS.o2) fun x1 x2 x3 x4 x5 qs2 => ?_
  have qs2 := S2 _ _ qs2 nNil
  dsimp only
  (repeat' (first | k_extra "h" | k_extra "g"))
  all_goals (try dsimp only)
  rename Fr _ _ _ _ => F9
  rename News _ _ _ _ => N9
  exact hQ _ _ _ (keeps_of S2 F9 (List.forall_mem_nil _) (List.forall_mem_nil _)) (N9 _ (.head _)).1 (new_of S2 N9 (.head _) nNil)
theorem is_member {S SD T D : Addr} {es : List DictEntry} {n : Nat} {t2 t3 : Tok} {v : Int} {tv : Tok}
  (WD : Wd w mg mb hB) (st : hB.StaysIn s.heap) (hdd : dd ≤ 488) (huu : uu ≤ 1900)
  (hS : SubAt s.heap S SD T) (hT : TypA s.heap T D es n) (hlo : getL (Str.ofString "low") es = some (some (.int (-32768) t2))) (hhi : getL (Str.ofString "high") es = some (some (.int 32767 t3))) (h0 : 0 ≤ v) (h1 : v ≤ 100)
  (hQ : ∀ h' tk, Keeps s.heap h' → Q (.bool true) {s with heap := h', toks := tk}) :
  wpAny (model prog0 w) ⟨none, dd, fr, gs, uu⟩ (call (.ref 503) [.ref S, .int v tv]) Q E s := by
 refine wpAny_call ?_
 refine' enter0 (news := []) (binds := [(Str.ofString "subtype", .ref S), (Str.ofString "value", .int v tv)]) WD st ?hN ?hroom ?ho ?hcd ?hb ?hl ?body ?c1 ?c2 ?c3 ?c4
 k_extra "j"
 case hN => exact List.forall_mem_nil _
 case body =>
  intro g L h₁ S1 S2 S3 F' N' KX' T' l1
  try simp only [AllLt, and_true] at l1
  have qt1 := S2 _ _ hT.o1 nNil
  have qt2 := S2 _ _ hT.o2 nNil
  have hTg : TypA g T D es n := ⟨qt1, qt2⟩
  have qs1 := S2 _ _ hS.o1 nNil
  have hSg := hS.keeps (fun b o e => S2 b o e nNil)
  refine xEEEEEL (hS.o2) fun x1 x2 x3 x4 x5 qs2 => ?_
  have qs2 := S2 _ _ qs2 nNil
  dsimp only
  (repeat' (first | k_extra "h" | ((with_reducible show wpAny _ _ (call (.ref 489) [Value.ref _]) _ _ _); (with_unfolding_all refine' bounds_of ?W ?st ?hd ?hu ?a0 ?a1 ?a2 ?a3 ?_); k_extra "i"; (case a0 => exact SubAt.keeps (by assumption) (Fr.keep (by assumption))); (case a1 => exact TypA.keeps (by assumption) (Fr.keep (by assumption))); (case a2 => assumption); (case a3 => assumption); k_whole; intro P' h' tk' hk' gp' np'; k_extra "a"; (have F' := Fr.keeps fF hk'); (have N' := newsJ fF nN hk' (more := [(P', _)]) (List.forall_mem_cons.mpr ⟨⟨gp', np'⟩, List.forall_mem_nil _⟩)); (simp only [List.cons_append, List.nil_append] at N'); clear hk' gp' np'; k_sweep) | ((with_reducible show wpAny _ _ (call (.ref 496) [Value.int _ _, Value.int _ _, Value.int _ _]) _ _ _); (with_unfolding_all refine' in_bounds ?W ?st ?hd ?hu ?a0 ?a1 ?_); k_extra "i"; (case a0 => first | assumption | exact TypA.keeps (by assumption) (Fr.keep (by assumption)) | exact SubAt.keeps (by assumption) (Fr.keep (by assumption))); (case a1 => first | assumption | exact TypA.keeps (by assumption) (Fr.keep (by assumption)) | exact SubAt.keeps (by assumption) (Fr.keep (by assumption))); k_whole; intro h' tk' hk'; k_extra "a"; (have F' := Fr.keeps fF hk'); (have N' := newsK nN hk'); clear hk'; k_sweep) | k_extra "g"))
  all_goals (try dsimp only)
  all_goals (rename Fr _ _ _ _ => FF; exact hQ _ _ fun b o e => FF.keep b o (S2 b o e nNil))
theorem check_range {S SD T D : Addr} {es : List DictEntry} {n : Nat} {t2 t3 : Tok} {v : Int} {tv : Tok}
  (WD : Wd w mg mb hB) (st : hB.StaysIn s.heap) (hdd : dd ≤ 476) (huu : uu ≤ 1800)
  (hS : SubAt s.heap S SD T) (hT : TypA s.heap T D es n) (hlo : getL (Str.ofString "low") es = some (some (.int (-32768) t2))) (hhi : getL (Str.ofString "high") es = some (some (.int 32767 t3))) (h0 : 0 ≤ v) (h1 : v ≤ 100)
  (hQ : ∀ h' tk, Keeps s.heap h' → Q (.int v tv) {s with heap := h', toks := tk}) :
  wpAny (model prog0 w) ⟨none, dd, fr, gs, uu⟩ (call (.ref 510) [.ref S, .int v tv]) Q E s := by
 refine wpAny_call ?_
 refine' enter0 (news := []) (binds := [(Str.ofString "subtype", .ref S), (Str.ofString "value", .int v tv)]) WD st ?hN ?hroom ?ho ?hcd ?hb ?hl ?body ?c1 ?c2 ?c3 ?c4
 k_extra "j"
 case hN => exact List.forall_mem_nil _
 case body =>
  intro g L h₁ S1 S2 S3 F' N' KX' T' l1
  try simp only [AllLt, and_true] at l1
  have qt1 := S2 _ _ hT.o1 nNil
  have qt2 := S2 _ _ hT.o2 nNil
  have hTg : TypA g T D es n := ⟨qt1, qt2⟩
  have qs1 := S2 _ _ hS.o1 nNil
  have hSg := hS.keeps (fun b o e => S2 b o e nNil)
  refine xEEEEEL (hS.o2) fun x1 x2 x3 x4 x5 qs2 => ?_
  have qs2 := S2 _ _ qs2 nNil
  dsimp only
  (repeat' (first | k_extra "h" | ((with_reducible show wpAny _ _ (call (.ref 503) [Value.ref _, Value.int _ _]) _ _ _); (with_unfolding_all refine' is_member ?W ?st ?hd ?hu ?a0 ?a1 ?a2 ?a3 ?a4 ?a5 ?_); k_extra "i"; (case a0 => first | assumption | exact TypA.keeps (by assumption) (Fr.keep (by assumption)) | exact SubAt.keeps (by assumption) (Fr.keep (by assumption))); (case a1 => first | assumption | exact TypA.keeps (by assumption) (Fr.keep (by assumption)) | exact SubAt.keeps (by assumption) (Fr.keep (by assumption))); (case a2 => first | assumption | exact TypA.keeps (by assumption) (Fr.keep (by assumption)) | exact SubAt.keeps (by assumption) (Fr.keep (by assumption))); (case a3 => first | assumption | exact TypA.keeps (by assumption) (Fr.keep (by assumption)) | exact SubAt.keeps (by assumption) (Fr.keep (by assumption))); (case a4 => first | assumption | exact TypA.keeps (by assumption) (Fr.keep (by assumption)) | exact SubAt.keeps (by assumption) (Fr.keep (by assumption))); (case a5 => first | assumption | exact TypA.keeps (by assumption) (Fr.keep (by assumption)) | exact SubAt.keeps (by assumption) (Fr.keep (by assumption))); k_whole; intro h' tk' hk'; k_extra "a"; (have F' := Fr.keeps fF hk'); (have N' := newsK nN hk'); clear hk'; k_sweep) | ((with_reducible show wpAny _ _ (call (.ref 489) [Value.ref _]) _ _ _); (with_unfolding_all refine' bounds_of ?W ?st ?hd ?hu ?a0 ?a1 ?a2 ?a3 ?_); k_extra "i"; (case a0 => exact SubAt.keeps (by assumption) (Fr.keep (by assumption))); (case a1 => exact TypA.keeps (by assumption) (Fr.keep (by assumption))); (case a2 => assumption); (case a3 => assumption); k_whole; intro P' h' tk' hk' gp' np'; k_extra "a"; (have F' := Fr.keeps fF hk'); (have N' := newsJ fF nN hk' (more := [(P', _)]) (List.forall_mem_cons.mpr ⟨⟨gp', np'⟩, List.forall_mem_nil _⟩)); (simp only [List.cons_append, List.nil_append] at N'); clear hk' gp' np'; k_sweep) | ((with_reducible show wpAny _ _ (call (.ref 496) [Value.int _ _, Value.int _ _, Value.int _ _]) _ _ _); (with_unfolding_all refine' in_bounds ?W ?st ?hd ?hu ?a0 ?a1 ?_); k_extra "i"; (case a0 => first | assumption | exact TypA.keeps (by assumption) (Fr.keep (by assumption)) | exact SubAt.keeps (by assumption) (Fr.keep (by assumption))); (case a1 => first | assumption | exact TypA.keeps (by assumption) (Fr.keep (by assumption)) | exact SubAt.keeps (by assumption) (Fr.keep (by assumption))); k_whole; intro h' tk' hk'; k_extra "a"; (have F' := Fr.keeps fF hk'); (have N' := newsK nN hk'); clear hk'; k_sweep) | k_extra "g"))
  all_goals (try dsimp only)
  all_goals (rename Fr _ _ _ _ => FF; exact hQ _ _ fun b o e => FF.keep b o (S2 b o e nNil))
theorem is_scalar_int {T D : Addr} {es : List DictEntry} {n : Nat} {t1 : Tok}
  (WD : Wd w mg mb hB) (st : hB.StaysIn s.heap) (hdd : dd ≤ 500) (huu : uu ≤ 2000)
  (hT : TypA s.heap T D es n) (hk : getL (Str.ofString "kind") es = some (some (.str (Str.ofString "int") t1)))
  (hQ : ∀ h' tk, Keeps s.heap h' → Q (.bool true) {s with heap := h', toks := tk}) :
  wpAny (model prog0 w) ⟨none, dd, fr, gs, uu⟩ (call (.ref 327) [.ref T]) Q E s := by
 refine wpAny_call ?_
 refine' enter0 (news := []) (binds := [(Str.ofString "t", .ref T)]) WD st ?hN ?hroom ?ho ?hcd ?hb ?hl ?body ?c1 ?c2 ?c3 ?c4
 k_extra "j"
 case hN => exact List.forall_mem_nil _
 case body =>
  intro g L h₁ S1 S2 S3 F' N' KX' T' l1
  try simp only [AllLt, and_true] at l1
  have qt1 := S2 _ _ hT.o1 nNil
  have qt2 := S2 _ _ hT.o2 nNil
  have hTg : TypA g T D es n := ⟨qt1, qt2⟩
  dsimp only
  (repeat' (first | k_extra "h" | ((with_reducible show wpAny _ _ (call (.ref 510) [Value.ref _, Value.int _ _]) _ _ _); (with_unfolding_all refine' check_range ?W ?st ?hd ?hu ?a0 ?a1 ?a2 ?a3 ?a4 ?a5 ?_); k_extra "i"; (case a0 => first | assumption | exact TypA.keeps (by assumption) (Fr.keep (by assumption)) | exact SubAt.keeps (by assumption) (Fr.keep (by assumption))); (case a1 => first | assumption | exact TypA.keeps (by assumption) (Fr.keep (by assumption)) | exact SubAt.keeps (by assumption) (Fr.keep (by assumption))); (case a2 => first | assumption | exact TypA.keeps (by assumption) (Fr.keep (by assumption)) | exact SubAt.keeps (by assumption) (Fr.keep (by assumption))); (case a3 => first | assumption | exact TypA.keeps (by assumption) (Fr.keep (by assumption)) | exact SubAt.keeps (by assumption) (Fr.keep (by assumption))); (case a4 => first | assumption | exact TypA.keeps (by assumption) (Fr.keep (by assumption)) | exact SubAt.keeps (by assumption) (Fr.keep (by assumption))); (case a5 => first | assumption | exact TypA.keeps (by assumption) (Fr.keep (by assumption)) | exact SubAt.keeps (by assumption) (Fr.keep (by assumption))); k_whole; intro h' tk' hk'; k_extra "a"; (have F' := Fr.keeps fF hk'); (have N' := newsK nN hk'); clear hk'; k_sweep) | ((with_reducible show wpAny _ _ (call (.ref 503) [Value.ref _, Value.int _ _]) _ _ _); (with_unfolding_all refine' is_member ?W ?st ?hd ?hu ?a0 ?a1 ?a2 ?a3 ?a4 ?a5 ?_); k_extra "i"; (case a0 => first | assumption | exact TypA.keeps (by assumption) (Fr.keep (by assumption)) | exact SubAt.keeps (by assumption) (Fr.keep (by assumption))); (case a1 => first | assumption | exact TypA.keeps (by assumption) (Fr.keep (by assumption)) | exact SubAt.keeps (by assumption) (Fr.keep (by assumption))); (case a2 => first | assumption | exact TypA.keeps (by assumption) (Fr.keep (by assumption)) | exact SubAt.keeps (by assumption) (Fr.keep (by assumption))); (case a3 => first | assumption | exact TypA.keeps (by assumption) (Fr.keep (by assumption)) | exact SubAt.keeps (by assumption) (Fr.keep (by assumption))); (case a4 => first | assumption | exact TypA.keeps (by assumption) (Fr.keep (by assumption)) | exact SubAt.keeps (by assumption) (Fr.keep (by assumption))); (case a5 => first | assumption | exact TypA.keeps (by assumption) (Fr.keep (by assumption)) | exact SubAt.keeps (by assumption) (Fr.keep (by assumption))); k_whole; intro h' tk' hk'; k_extra "a"; (have F' := Fr.keeps fF hk'); (have N' := newsK nN hk'); clear hk'; k_sweep) | ((with_reducible show wpAny _ _ (call (.ref 489) [Value.ref _]) _ _ _); (with_unfolding_all refine' bounds_of ?W ?st ?hd ?hu ?a0 ?a1 ?a2 ?a3 ?_); k_extra "i"; (case a0 => exact SubAt.keeps (by assumption) (Fr.keep (by assumption))); (case a1 => exact TypA.keeps (by assumption) (Fr.keep (by assumption))); (case a2 => assumption); (case a3 => assumption); k_whole; intro P' h' tk' hk' gp' np'; k_extra "a"; (have F' := Fr.keeps fF hk'); (have N' := newsJ fF nN hk' (more := [(P', _)]) (List.forall_mem_cons.mpr ⟨⟨gp', np'⟩, List.forall_mem_nil _⟩)); (simp only [List.cons_append, List.nil_append] at N'); clear hk' gp' np'; k_sweep) | ((with_reducible show wpAny _ _ (call (.ref 496) [Value.int _ _, Value.int _ _, Value.int _ _]) _ _ _); (with_unfolding_all refine' in_bounds ?W ?st ?hd ?hu ?a0 ?a1 ?_); k_extra "i"; (case a0 => first | assumption | exact TypA.keeps (by assumption) (Fr.keep (by assumption)) | exact SubAt.keeps (by assumption) (Fr.keep (by assumption))); (case a1 => first | assumption | exact TypA.keeps (by assumption) (Fr.keep (by assumption)) | exact SubAt.keeps (by assumption) (Fr.keep (by assumption))); k_whole; intro h' tk' hk'; k_extra "a"; (have F' := Fr.keeps fF hk'); (have N' := newsK nN hk'); clear hk'; k_sweep) | k_extra "g"))
  have hT6 : IsTup g 236 [Value.str (Str.ofString "enum") 503, Value.str (Str.ofString "int") 504, Value.str (Str.ofString "mod") 505, Value.str (Str.ofString "fixed") 506, Value.str (Str.ofString "universal") 507].toArray := by
   refine' tupK (n := 0) (dd := none) (sl := #[]) KX' ?_
   k_is
  refine in_tuple_strs (hT6.keeps F'.keep) (.cons _ _ (.cons _ _ (.cons _ _ (.cons _ _ (.cons _ _ .nil))))) ?_
  have hdec : ([Str.ofString "enum", Str.ofString "int", Str.ofString "mod", Str.ofString "fixed", Str.ofString "universal"].any (· == Str.ofString "int")) = true := by decide +kernel
  rw [hdec]
  try refine hqr _ _ nRet ?_
  all_goals (try dsimp only)
  all_goals (rename Fr _ _ _ _ => FF; exact hQ _ _ fun b o e => FF.keep b o (S2 b o e nNil))
theorem fit_int {S SD T D : Addr} {es : List DictEntry} {n : Nat} {t2 t3 : Tok} {v : Int} {tv : Tok} {t1 : Tok}
  (WD : Wd w mg mb hB) (st : hB.StaysIn s.heap) (hdd : dd ≤ 464) (huu : uu ≤ 1700)
  (hS : SubAt s.heap S SD T) (hT : TypA s.heap T D es n) (hk : getL (Str.ofString "kind") es = some (some (.str (Str.ofString "int") t1)))(hlo : getL (Str.ofString "low") es = some (some (.int (-32768) t2))) (hhi : getL (Str.ofString "high") es = some (some (.int 32767 t3))) (h0 : 0 ≤ v) (h1 : v ≤ 100)
  (hQ : ∀ h' tk, Keeps s.heap h' → Q (.int v tv) {s with heap := h', toks := tk}) :
  wpAny (model prog0 w) ⟨none, dd, fr, gs, uu⟩ (call (.ref 599) [.ref S, .int v tv]) Q E s := by
 refine wpAny_call ?_
 refine' enter0 (news := []) (binds := [(Str.ofString "subtype", .ref S), (Str.ofString "value", .int v tv)]) WD st ?hN ?hroom ?ho ?hcd ?hb ?hl ?body ?c1 ?c2 ?c3 ?c4
 k_extra "j"
 case hN => exact List.forall_mem_nil _
 case body =>
  intro g L h₁ S1 S2 S3 F' N' KX' T' l1
  try simp only [AllLt, and_true] at l1
  have qt1 := S2 _ _ hT.o1 nNil
  have qt2 := S2 _ _ hT.o2 nNil
  have hTg : TypA g T D es n := ⟨qt1, qt2⟩
  have qs1 := S2 _ _ hS.o1 nNil
  have hSg := hS.keeps (fun b o e => S2 b o e nNil)
  refine xEEEEEL (hS.o2) fun x1 x2 x3 x4 x5 qs2 => ?_
  have qs2 := S2 _ _ qs2 nNil
  dsimp only
  (repeat' (first | k_extra "h" | ((with_reducible show wpAny _ _ (call (.ref 348) [Value.ref _]) _ _ _); (with_unfolding_all refine' full_sub_int ?W ?st ?hd ?hu ?a0 ?a1 ?a2 ?_); k_extra "i"; (case a0 => first | assumption | exact TypA.keeps (by assumption) (Fr.keep (by assumption)) | exact SubAt.keeps (by assumption) (Fr.keep (by assumption))); (case a1 => first | assumption | exact TypA.keeps (by assumption) (Fr.keep (by assumption)) | exact SubAt.keeps (by assumption) (Fr.keep (by assumption))); (case a2 => first | assumption | exact TypA.keeps (by assumption) (Fr.keep (by assumption)) | exact SubAt.keeps (by assumption) (Fr.keep (by assumption))); k_whole; intro h' tk' hk'; k_extra "a"; (have F' := Fr.keeps fF hk'); (have N' := newsK nN hk'); clear hk'; k_sweep) | ((with_reducible show wpAny _ _ (call (.ref 327) [Value.ref _]) _ _ _); (with_unfolding_all refine' is_scalar_int ?W ?st ?hd ?hu ?a0 ?a1 ?_); k_extra "i"; (case a0 => first | assumption | exact TypA.keeps (by assumption) (Fr.keep (by assumption)) | exact SubAt.keeps (by assumption) (Fr.keep (by assumption))); (case a1 => first | assumption | exact TypA.keeps (by assumption) (Fr.keep (by assumption)) | exact SubAt.keeps (by assumption) (Fr.keep (by assumption))); k_whole; intro h' tk' hk'; k_extra "a"; (have F' := Fr.keeps fF hk'); (have N' := newsK nN hk'); clear hk'; k_sweep) | ((with_reducible show wpAny _ _ (call (.ref 510) [Value.ref _, Value.int _ _]) _ _ _); (with_unfolding_all refine' check_range ?W ?st ?hd ?hu ?a0 ?a1 ?a2 ?a3 ?a4 ?a5 ?_); k_extra "i"; (case a0 => first | assumption | exact TypA.keeps (by assumption) (Fr.keep (by assumption)) | exact SubAt.keeps (by assumption) (Fr.keep (by assumption))); (case a1 => first | assumption | exact TypA.keeps (by assumption) (Fr.keep (by assumption)) | exact SubAt.keeps (by assumption) (Fr.keep (by assumption))); (case a2 => first | assumption | exact TypA.keeps (by assumption) (Fr.keep (by assumption)) | exact SubAt.keeps (by assumption) (Fr.keep (by assumption))); (case a3 => first | assumption | exact TypA.keeps (by assumption) (Fr.keep (by assumption)) | exact SubAt.keeps (by assumption) (Fr.keep (by assumption))); (case a4 => first | assumption | exact TypA.keeps (by assumption) (Fr.keep (by assumption)) | exact SubAt.keeps (by assumption) (Fr.keep (by assumption))); (case a5 => first | assumption | exact TypA.keeps (by assumption) (Fr.keep (by assumption)) | exact SubAt.keeps (by assumption) (Fr.keep (by assumption))); k_whole; intro h' tk' hk'; k_extra "a"; (have F' := Fr.keeps fF hk'); (have N' := newsK nN hk'); clear hk'; k_sweep) | ((with_reducible show wpAny _ _ (call (.ref 503) [Value.ref _, Value.int _ _]) _ _ _); (with_unfolding_all refine' is_member ?W ?st ?hd ?hu ?a0 ?a1 ?a2 ?a3 ?a4 ?a5 ?_); k_extra "i"; (case a0 => first | assumption | exact TypA.keeps (by assumption) (Fr.keep (by assumption)) | exact SubAt.keeps (by assumption) (Fr.keep (by assumption))); (case a1 => first | assumption | exact TypA.keeps (by assumption) (Fr.keep (by assumption)) | exact SubAt.keeps (by assumption) (Fr.keep (by assumption))); (case a2 => first | assumption | exact TypA.keeps (by assumption) (Fr.keep (by assumption)) | exact SubAt.keeps (by assumption) (Fr.keep (by assumption))); (case a3 => first | assumption | exact TypA.keeps (by assumption) (Fr.keep (by assumption)) | exact SubAt.keeps (by assumption) (Fr.keep (by assumption))); (case a4 => first | assumption | exact TypA.keeps (by assumption) (Fr.keep (by assumption)) | exact SubAt.keeps (by assumption) (Fr.keep (by assumption))); (case a5 => first | assumption | exact TypA.keeps (by assumption) (Fr.keep (by assumption)) | exact SubAt.keeps (by assumption) (Fr.keep (by assumption))); k_whole; intro h' tk' hk'; k_extra "a"; (have F' := Fr.keeps fF hk'); (have N' := newsK nN hk'); clear hk'; k_sweep) | ((with_reducible show wpAny _ _ (call (.ref 489) [Value.ref _]) _ _ _); (with_unfolding_all refine' bounds_of ?W ?st ?hd ?hu ?a0 ?a1 ?a2 ?a3 ?_); k_extra "i"; (case a0 => exact SubAt.keeps (by assumption) (Fr.keep (by assumption))); (case a1 => exact TypA.keeps (by assumption) (Fr.keep (by assumption))); (case a2 => assumption); (case a3 => assumption); k_whole; intro P' h' tk' hk' gp' np'; k_extra "a"; (have F' := Fr.keeps fF hk'); (have N' := newsJ fF nN hk' (more := [(P', _)]) (List.forall_mem_cons.mpr ⟨⟨gp', np'⟩, List.forall_mem_nil _⟩)); (simp only [List.cons_append, List.nil_append] at N'); clear hk' gp' np'; k_sweep) | ((with_reducible show wpAny _ _ (call (.ref 496) [Value.int _ _, Value.int _ _, Value.int _ _]) _ _ _); (with_unfolding_all refine' in_bounds ?W ?st ?hd ?hu ?a0 ?a1 ?_); k_extra "i"; (case a0 => first | assumption | exact TypA.keeps (by assumption) (Fr.keep (by assumption)) | exact SubAt.keeps (by assumption) (Fr.keep (by assumption))); (case a1 => first | assumption | exact TypA.keeps (by assumption) (Fr.keep (by assumption)) | exact SubAt.keeps (by assumption) (Fr.keep (by assumption))); k_whole; intro h' tk' hk'; k_extra "a"; (have F' := Fr.keeps fF hk'); (have N' := newsK nN hk'); clear hk'; k_sweep) | k_extra "g"))
  all_goals (try dsimp only)
  all_goals (rename Fr _ _ _ _ => FF; exact hQ _ _ fun b o e => FF.keep b o (S2 b o e nNil))
end
section
section
variable {w : World} {A : Around} {E : Value → Shared → Prop} {s : Shared} {l b : Addr} {items items2 : Array Value} {Q : Value → Shared → Prop}
theorem ne_list_lens (hl : s.heap.IsList l items) (hb : s.heap.IsList b items2) (hsz : (items.size != items2.size) = true) (hu : A.units < cLine) (h : Q (.bool true) s) : wpAny (model prog0 w) A (compareOp .NotEq (.ref l) (.ref b)) Q E s := by
 (refine xEAAEL (id hl) fun z45x0 ho hc n hd => ?_; obtain ⟨cls, dd, data, sl⟩ := z45x0)
 (refine xEAAEL (id hb) fun z46x0 ho2 hc2 n2 hd2 => ?_; obtain ⟨cls2, dd2, data2, sl2⟩ := z46x0)
 simp only at hc hd hc2 hd2
 subst hc hd hc2 hd2
 exact richCompare_meets_room (op := .NotEq) ⟨_, ho, rfl⟩ ⟨_, ho2, rfl⟩ F.slot_list_ne F.entry_list_ne (F.args_list_ne_2 _ _) (SeqAt.list_ne_lengthsAt l b items items2 n n2 dd dd2 sl sl2 hsz)
  ⟨ho, ho2, show Value.bool true ≠ Value.notImplemented ∧ Q (.bool true) s from ⟨(fun x => nomatch x), h⟩⟩ hu
end
end
section
theorem listK {h h' : Heap} {l : Addr} {xs : Array Value} (x : h.IsList l xs) (k : Keeps h h') : h'.IsList l xs := let ⟨o, ho, r⟩ := x; ⟨o, k _ _ ho, r⟩
section
variable {prog : Program} {w : World} {A : Around} {E : Value → Shared → Prop} {s : Shared} {env : Env} {h₀ : Heap} {target : Expr} {body : List Stmt} {Q : Flow → Shared → Prop}
theorem iter_listB {ax : Addr} {vs : List Value} {m₀ : Str → Option Value} {news : List (Addr × Obj)}
  (hh : A.handled = none) (F : Fr h₀ env.locals s.heap m₀) (N : News h₀ env.locals s.heap news) (hB : h₀.IsList ax vs.toArray)
  (rest₀ : ∀ I : Addr, (∀ p ∈ news, p.1 < I) → ItemsRest prog w A E h₀ env target body Q s [(I, "list_iterator")] [] (vs.map .val) m₀ news) :
  wpAny (model prog w) A (pyIter (.ref ax)) (fun it s₂ => TurnsAt prog w A h₀ env target body Q E it s₂) E s := by
 have hl : s.heap.IsList ax vs.toArray := listK hB F.keep
 refine xEAL (id hB) fun lo hg _ => ?_
 have hax : s.heap.get? ax = some lo := F.keep _ _ hg
 have hlt : ax < s.heap.objs.size := Heap.lt_size hax
 have hne : ax ≠ s.heap.objs.size := Nat.ne_of_lt hlt
 refine wpAny_pyIter_list hl ?_
 refine ktg_core (tk0 := s.toks) (keep := []) (KTurns.ofWalks (Walks.list hh s.heap.objs.size ax hne vs.toArray) fun i v s Q E st q => letGo_listiter st.1 q) (by simp) (fun i v h hp => ⟨.val v, ?_, rfl⟩) (fun i h st => ?_) (fun b hb => ?_) (fun b hb => by exact hb) (fun b hb => ?_) ?_ (fun p hp hI => ?_) ?_ (F.push _) (fun p hp => ⟨Heap.get?_push_of_some _ (N p hp).1, (N p hp).2⟩) trivial (rest₀ _ fun p hp => Heap.lt_size (N p hp).1)
 ·have hp' : vs.toArray[i]? = some v := hp
  simpa using hp'
 ·refine xEAAL (st.1) fun it hit hic _ => ?_
  exact ⟨[(s.heap.objs.size, it)], ⟨⟨rfl, hic⟩, trivial⟩, fun p hp => by rw [List.mem_singleton.mp hp]; exact hit⟩
 ·have hb' : b = s.heap.objs.size := by exact List.mem_singleton.mp hb
  rw [hb']
  exact ⟨List.mem_cons_self .., next_is_new F⟩
 ·have hb' : b = s.heap.objs.size ∨ b = ax := by simpa using hb
  rcases hb' with e | e
  ·exact .inl (by simp [e])
  ·exact .inr (.inr ⟨lo, by rw [e]; exact hg⟩)
 ·intro hI
  rcases List.mem_cons.mp hI with e | hI
  ·exact absurd F.ns.lt (e ▸ Nat.lt_irrefl _)
  ·have e : env.locals = ax := List.mem_singleton.mp hI
   exact absurd (Heap.lt_size hg) (Nat.not_lt.mpr (e ▸ F.above))
 ·exact absurd (Heap.lt_size (N p hp).1) ((List.mem_singleton.mp hI) ▸ Nat.lt_irrefl _)
 ·exact ⟨⟨_, Heap.get?_push_size _ rfl, rfl, rfl⟩, hl.at fun o e => Heap.get?_push_of_some _ e⟩
end
end
theorem turn_GC9 {w : World} {A : Around} {Q : Flow → Shared → Prop} {E : Value → Shared → Prop} {s : Shared} {env : Env} {p : Pos} (h : wpAny (model prog0 w) A (exec (.Pass p) env) Q E s) : wpAny (model prog0 w) A (exec (.Pass p) env) Q E s := by
 first | (walk1; fail "on") | exact h
section
theorem said_4 : True := by
 k_with "r" => (((with_reducible show wpAny _ _ (call (Value.builtin _) [Value.ref _, Value.ref _]) _ _ _); k_dflt (refine kl_extend (by k_asm) (by k_asm) (by k_mem) (by kl_lit) (by kl_some) (by k_upd) (by exact extend_door (by kl_room)) (by kl_room) (by kl_room) ?_); kl_rest))
 exact True.intro
local macro_rules | `(tactic| walk_at "exec For Tuple Subscript cons nil") => `(tactic| (k_dflt ((rename Fr _ _ _ _ => lF'); (with_unfolding_all refine' For_turns lF' ?_; k_whole))))
local macro_rules | `(tactic| walk_at "pyIter ref") => `(tactic| ((with_reducible show wpAny _ _ (pyIter (Value.ref _)) (fun it s₂ => TurnsAt _ _ _ _ _ _ _ _ _ it s₂) _ _); (with_unfolding_all refine' iter_listB ?h ?F ?N ?k ?_; (case h => exact rfl); (case F => k_asm); (case N => k_asm); (case k => assumption)); k_whole; intro i' l1; (try k_lt l1)))
local macro_rules | `(tactic| walk_at "call builtin:list.extend") => `(tactic| ((with_reducible show wpAny _ _ (call (Value.builtin _) [Value.ref _, Value.ref _]) _ _ _); k_dflt (refine kxn_extend (by k_asm) (by k_asm) (by k_mem) (by rfl) (by k_upd) (by exact extend_door (by kl_room)) (by kl_room) (by kl_room) ?_); intro h' F' N'; (try dsimp only at N'); (try k_sweep)))
local macro_rules | `(tactic| walk_at "call builtin:list.extend") => `(tactic| k_extra "r")
section
open PySem PySem.W PyProof.Rows PySem.Calls
variable {w : World} {mg mb : Str → Option Value} {hB : Heap} {s : Shared} {dd uu : Nat} {gs : Option (List Code)} {fr : Option (List Env)} {Q : Value → Shared → Prop} {E : Value → Shared → Prop}
structure RecKind (h : Heap) (es : List DictEntry) (LD DT LC CT V AL A0 A1 A2 P0 P1 P2 X0 X1 X2 : Addr) : Prop where
 k : ∃ t1, getL (Str.ofString "kind") es = some (some (.str (Str.ofString "record") t1))
 g : getL (Str.ofString "is_tagged") es = some (some (.bool false))
 d : getL (Str.ofString "discriminants") es = some (some (.ref LD))
 c : getL (Str.ofString "components") es = some (some (.ref LC))
 v : getL (Str.ofString "variant") es = some (some (.ref V))
 ld : h.IsList LD [Value.ref DT].toArray
 dt : ∃ t a b, IsTup h DT [Value.str (Str.ofString "d") t, .ref a, .ref b].toArray
 lc : h.IsList LC [Value.ref CT].toArray
 ct : ∃ t a, IsTup h CT [Value.str (Str.ofString "c") t, .ref a, .none].toArray
 vt : ∃ t, IsTup h V [Value.str (Str.ofString "d") t, .ref AL].toArray
 al : h.IsList AL [Value.ref A0, .ref A1, .ref A2].toArray
 a0 : ∃ c, IsTup h A0 [Value.ref c, .ref P0, .none].toArray
 a1 : ∃ c, IsTup h A1 [Value.ref c, .ref P1, .none].toArray
 a2 : ∃ t, IsTup h A2 [Value.str (Str.ofString "others") t, .ref P2, .none].toArray
 p0 : h.IsList P0 [Value.ref X0].toArray
 p1 : h.IsList P1 [Value.ref X1, .ref X2].toArray
 p2 : h.IsList P2 ([] : List Value).toArray
 x0 : ∃ t a, IsTup h X0 [Value.str (Str.ofString "x") t, .ref a, .none].toArray
 x1 : ∃ t a, IsTup h X1 [Value.str (Str.ofString "y") t, .ref a, .none].toArray
 x2 : ∃ t a, IsTup h X2 [Value.str (Str.ofString "z") t, .ref a, .none].toArray
theorem kindEl {h : Heap} {es : List DictEntry} {LD DT LC CT V AL A0 A1 A2 P0 P1 P2 X0 X1 X2 : Addr} {G : Prop} (x : RecKind h es LD DT LC CT V AL A0 A1 A2 P0 P1 P2 X0 X1 X2)
  (q : ∀ t1, getL (Str.ofString "kind") es = some (some (.str (Str.ofString "record") t1)) → getL (Str.ofString "is_tagged") es = some (some (.bool false)) → getL (Str.ofString "discriminants") es = some (some (.ref LD)) → getL (Str.ofString "components") es = some (some (.ref LC)) →
   getL (Str.ofString "variant") es = some (some (.ref V)) → h.IsList LD [Value.ref DT].toArray → ∀ t a b, IsTup h DT [Value.str (Str.ofString "d") t, .ref a, .ref b].toArray → h.IsList LC [Value.ref CT].toArray → ∀ t a, IsTup h CT [Value.str (Str.ofString "c") t, .ref a, .none].toArray →
   ∀ t, IsTup h V [Value.str (Str.ofString "d") t, .ref AL].toArray → h.IsList AL [Value.ref A0, .ref A1, .ref A2].toArray → ∀ c, IsTup h A0 [Value.ref c, .ref P0, .none].toArray → ∀ c, IsTup h A1 [Value.ref c, .ref P1, .none].toArray → ∀ t, IsTup h A2 [Value.str (Str.ofString "others") t, .ref P2, .none].toArray →
   h.IsList P0 [Value.ref X0].toArray → h.IsList P1 [Value.ref X1, .ref X2].toArray → h.IsList P2 ([] : List Value).toArray → ∀ t a, IsTup h X0 [Value.str (Str.ofString "x") t, .ref a, .none].toArray → ∀ t a, IsTup h X1 [Value.str (Str.ofString "y") t, .ref a, .none].toArray →
   ∀ t a, IsTup h X2 [Value.str (Str.ofString "z") t, .ref a, .none].toArray → G) : G := by
 obtain ⟨⟨_, k⟩, g, d, c, v, ld, ⟨_, _, _, dt⟩, lc, ⟨_, _, ct⟩, ⟨_, vt⟩, al, ⟨_, a0⟩, ⟨_, a1⟩, ⟨_, a2⟩, p0, p1, p2, ⟨_, _, x0⟩, ⟨_, _, x1⟩, ⟨_, _, x2⟩⟩ := x
 exact q _ k g d c v ld _ _ _ dt lc _ _ ct _ vt al _ a0 _ a1 _ a2 p0 p1 p2 _ _ x0 _ _ x1 _ _ x2
theorem RecKind.keeps {h h' : Heap} {es : List DictEntry} {LD DT LC CT V AL A0 A1 A2 P0 P1 P2 X0 X1 X2 : Addr} (x : RecKind h es LD DT LC CT V AL A0 A1 A2 P0 P1 P2 X0 X1 X2) (q : Keeps h h') : RecKind h' es LD DT LC CT V AL A0 A1 A2 P0 P1 P2 X0 X1 X2 :=
 ⟨x.k, x.g, x.d, x.c, x.v, listK x.ld q, let ⟨a, b, c, e⟩ := x.dt; ⟨a, b, c, e.keeps q⟩, listK x.lc q, let ⟨a, b, e⟩ := x.ct; ⟨a, b, e.keeps q⟩, let ⟨a, e⟩ := x.vt; ⟨a, e.keeps q⟩, listK x.al q,
  let ⟨a, e⟩ := x.a0; ⟨a, e.keeps q⟩, let ⟨a, e⟩ := x.a1; ⟨a, e.keeps q⟩, let ⟨a, e⟩ := x.a2; ⟨a, e.keeps q⟩, listK x.p0 q, listK x.p1 q, listK x.p2 q,
  let ⟨a, b, e⟩ := x.x0; ⟨a, b, e.keeps q⟩, let ⟨a, b, e⟩ := x.x1; ⟨a, b, e.keeps q⟩, let ⟨a, b, e⟩ := x.x2; ⟨a, b, e.keeps q⟩⟩
theorem is_mutable {S SD T D : Addr} {es : List DictEntry} {n : Nat} {LD DT LC CT V AL A0 A1 A2 P0 P1 P2 X0 X1 X2 : Addr}
  (WD : Wd w mg mb hB) (st : hB.StaysIn s.heap) (hdd : dd ≤ 488) (huu : uu ≤ 1900)
  (hS : SubAt s.heap S SD T) (hT : TypA s.heap T D es n) (hK : RecKind s.heap es LD DT LC CT V AL A0 A1 A2 P0 P1 P2 X0 X1 X2)
  (hQ : ∀ h' tk, Keeps s.heap h' → Q (.bool true) {s with heap := h', toks := tk}) :
  wpAny (model prog0 w) ⟨none, dd, fr, gs, uu⟩ (call (.ref 639) [.ref S]) Q E s := by
 refine wpAny_call ?_
 refine' enter0 (news := []) (binds := [(Str.ofString "subtype", .ref S)]) WD st ?hN ?hroom ?ho ?hcd ?hb ?hl ?body ?c1 ?c2 ?c3 ?c4
 k_extra "j"
 case hN => exact List.forall_mem_nil _
 case body =>
  intro g L h₁ S1 S2 S3 F' N' KX' T' l1
  try simp only [AllLt, and_true] at l1
  have qt1 := S2 _ _ hT.o1 nNil
  have qt2 := S2 _ _ hT.o2 nNil
  have hTg : TypA g T D es n := ⟨qt1, qt2⟩
  have qs1 := S2 _ _ hS.o1 nNil
  have hSg := hS.keeps (fun b o e => S2 b o e nNil)
  refine xEEEEEL (hS.o2) fun x1 x2 x3 x4 x5 qs2 => ?_
  have qs2 := S2 _ _ qs2 nNil
  have hKg := hK.keeps (fun b o e => S2 b o e nNil)
  refine kindEl hKg fun kt kk kg kd kc kv kld d1 d2 d3 kdt klc d4 d5 kct d6 kvt kal d7 ka0 d8 ka1 d9 ka2 kp0 kp1 kp2 f1 f2 kx0 f3 f4 kx1 f5 f6 kx2 => ?_
  try clear hKg
  dsimp only
  (repeat' (first | ((with_reducible rename (_ ∧ _ ∧ _) ∧ _ => hcc); have := hcc.1.1; have := hcc.1.2.1; have := hcc.1.2.2; have := hcc.2; clear hcc) | ((with_reducible show wpAny _ _ (execs [_] _) _ _ _); (fail_if_success k_fold); refine execs1 ?_) | ((with_reducible show wpAny _ _ (execs (_ :: _) _) _ _ _); refine execsC fun qk hqn hqr => ?_) | ((with_reducible show qk _ _); (first | refine hqn _ ?_ | refine hqr _ _ nRet ?_ | refine hqr _ _ nBrk ?_ | refine hqr _ _ nCont ?_); (try clear hqn hqr qk); (try dsimp only)) | ((with_reducible show qk _ _); dsimp only [qk]; (try clear qk)) | (k_unfold; (try dsimp only); (try clear qk)) | (k_end; wrow_close) | ((with_reducible show wpAny _ _ (call (.ref 348) [Value.ref _]) _ _ _); (with_unfolding_all refine' full_sub_rec ?W ?st ?hd ?hu ?a0 ?a1 ?a2 ?_); k_extra "i"; (case a0 => first | assumption | exact TypA.keeps (by assumption) (Fr.keep (by assumption)) | exact SubAt.keeps (by assumption) (Fr.keep (by assumption))); (case a1 => first | assumption | exact TypA.keeps (by assumption) (Fr.keep (by assumption)) | exact SubAt.keeps (by assumption) (Fr.keep (by assumption))); (case a2 => first | assumption | exact TypA.keeps (by assumption) (Fr.keep (by assumption)) | exact SubAt.keeps (by assumption) (Fr.keep (by assumption))); k_whole; intro h' tk' hk'; k_extra "a"; (have F' := Fr.keeps fF hk'); (have N' := newsK nN hk'); clear hk'; k_sweep) | k_extra "g"))
  all_goals (try dsimp only)
  all_goals (rename Fr _ _ _ _ => FF; exact hQ _ _ fun b o e => FF.keep b o (S2 b o e nNil))
theorem variant_names {es : List DictEntry} {LD DT LC CT V AL A0 A1 A2 P0 P1 P2 X0 X1 X2 : Addr}
  (WD : Wd w mg mb hB) (st : hB.StaysIn s.heap) (hdd : dd ≤ 488) (huu : uu ≤ 1900)
  (hK : RecKind s.heap es LD DT LC CT V AL A0 A1 A2 P0 P1 P2 X0 X1 X2)
  (hQ : ∀ B c t1 t2 t3 h' tk, Keeps s.heap h' → h'.get? B = some (W.listOf #[Value.str (Str.ofString "x") t1, .str (Str.ofString "y") t2, .str (Str.ofString "z") t3] c) → s.heap.get? B = none → Q (.ref B) {s with heap := h', toks := tk}) :
  wpAny (model prog0 w) ⟨none, dd, fr, gs, uu⟩ (call (.ref 402) [.ref V]) Q E s := by
 refine wpAny_call ?_
 refine' enter0 (news := []) (binds := [(Str.ofString "variant", .ref V)]) WD st ?hN ?hroom ?ho ?hcd ?hb ?hl ?body ?c1 ?c2 ?c3 ?c4
 k_extra "j"
 case hN => exact List.forall_mem_nil _
 case body =>
  intro g L h₁ S1 S2 S3 F' N' KX' T' l1
  try simp only [AllLt, and_true] at l1
  have hKg := hK.keeps (fun b o e => S2 b o e nNil)
  refine kindEl hKg fun kt kk kg kd kc kv kld d1 d2 d3 kdt klc d4 d5 kct d6 kvt kal d7 ka0 d8 ka1 d9 ka2 kp0 kp1 kp2 f1 f2 kx0 f3 f4 kx1 f5 f6 kx2 => ?_
  try clear hKg
  dsimp only
  (repeat' (first | ((with_reducible rename (_ ∧ _ ∧ _) ∧ _ => hcc); have := hcc.1.1; have := hcc.1.2.1; have := hcc.1.2.2; have := hcc.2; clear hcc) | ((with_reducible show wpAny _ _ (execs [_] _) _ _ _); (fail_if_success k_fold); refine execs1 ?_) | ((with_reducible show wpAny _ _ (execs (_ :: _) _) _ _ _); refine execsC fun qk hqn hqr => ?_) | ((with_reducible show qk _ _); (first | refine hqn _ ?_ | refine hqr _ _ nRet ?_ | refine hqr _ _ nBrk ?_ | refine hqr _ _ nCont ?_); (try clear hqn hqr qk); (try dsimp only)) | ((with_reducible show qk _ _); dsimp only [qk]; (try clear qk)) | (k_unfold; (try dsimp only); (try clear qk)) | (k_end; wrow_close) | ((with_reducible show wpAny _ _ (call (.ref 348) [Value.ref _]) _ _ _); (with_unfolding_all refine' full_sub_rec ?W ?st ?hd ?hu ?a0 ?a1 ?a2 ?_); k_extra "i"; (case a0 => first | assumption | exact TypA.keeps (by assumption) (Fr.keep (by assumption)) | exact SubAt.keeps (by assumption) (Fr.keep (by assumption))); (case a1 => first | assumption | exact TypA.keeps (by assumption) (Fr.keep (by assumption)) | exact SubAt.keeps (by assumption) (Fr.keep (by assumption))); (case a2 => first | assumption | exact TypA.keeps (by assumption) (Fr.keep (by assumption)) | exact SubAt.keeps (by assumption) (Fr.keep (by assumption))); k_whole; intro h' tk' hk'; k_extra "a"; (have F' := Fr.keeps fF hk'); (have N' := newsK nN hk'); clear hk'; k_sweep) | k_extra "g"))
  all_goals (try dsimp only)
  all_goals (rename Fr _ _ _ _ => FF; rename News _ _ _ _ => NN; refine' hQ _ _ _ _ _ _ _ ?k1 ?k2 ?k3; (case k2 => exact (NN (_, _) (by k_mem)).1); (case k1 => exact (fun b o e => FF.keep b o (S2 b o e nNil))); (case k3 => exact new_of S2 NN (by k_mem) nNil))
end
section
variable {w : World} {mg mb : Str → Option Value} {hB : Heap} {s : Shared} {dd uu : Nat} {gs : Option (List Code)} {fr : Option (List Env)} {Q : Value → Shared → Prop} {E : Value → Shared → Prop}
theorem part_names {T D : Addr} {es : List DictEntry} {n : Nat} {LD DT LC CT V AL A0 A1 A2 P0 P1 P2 X0 X1 X2 : Addr}
  (WD : Wd w mg mb hB) (st : hB.StaysIn s.heap) (hdd : dd ≤ 476) (huu : uu ≤ 1800)
  (hT : TypA s.heap T D es n) (hK : RecKind s.heap es LD DT LC CT V AL A0 A1 A2 P0 P1 P2 X0 X1 X2)
  (hQ : ∀ B c t1 t2 t3 t4 t5 h' tk, Keeps s.heap h' → h'.get? B = some (W.listOf #[Value.str (Str.ofString "d") t1, .str (Str.ofString "c") t2, .str (Str.ofString "x") t3, .str (Str.ofString "y") t4, .str (Str.ofString "z") t5] c) → s.heap.get? B = none → Q (.ref B) {s with heap := h', toks := tk}) :
  wpAny (model prog0 w) ⟨none, dd, fr, gs, uu⟩ (call (.ref 407) [.ref T]) Q E s := by
 refine wpAny_call ?_
 refine' enter0 (news := []) (binds := [(Str.ofString "t", .ref T)]) WD st ?hN ?hroom ?ho ?hcd ?hb ?hl ?body ?c1 ?c2 ?c3 ?c4
 k_extra "j"
 case hN => exact List.forall_mem_nil _
 case body =>
  intro g L h₁ S1 S2 S3 F' N' KX' T' l1
  try simp only [AllLt, and_true] at l1
  have qt1 := S2 _ _ hT.o1 nNil
  have qt2 := S2 _ _ hT.o2 nNil
  have hTg : TypA g T D es n := ⟨qt1, qt2⟩
  have hKg := hK.keeps (fun b o e => S2 b o e nNil)
  (obtain ⟨z53x0, kg, kd, kc, kv, kld, z53x6, klc, z53x8, z53x9, kal, z53x11, z53x12, z53x13, kp0, kp1, kp2, z53x17, z53x18, z53x19⟩ := id hKg; (refine xEL z53x0 fun kt kk => ?_; try clear z53x0); (refine xEEEL z53x6 fun d1 d2 d3 kdt => ?_; try clear z53x6); (refine xEEL z53x8 fun d4 d5 kct => ?_; try clear z53x8); (refine xEL z53x9 fun d6 kvt => ?_; try clear z53x9); (refine xEL z53x11 fun d7 ka0 => ?_; try clear z53x11); (refine xEL z53x12 fun d8 ka1 => ?_; try clear z53x12); (refine xEL z53x13 fun d9 ka2 => ?_; try clear z53x13); (refine xEEL z53x17 fun f1 f2 kx0 => ?_; try clear z53x17); (refine xEEL z53x18 fun f3 f4 kx1 => ?_; try clear z53x18); (refine xEEL z53x19 fun f5 f6 kx2 => ?_; try clear z53x19))
  dsimp only
  (repeat' (first | k_extra "h" | ((with_reducible show wpAny _ _ (call (.ref 402) [Value.ref _]) _ _ _); (with_unfolding_all refine' variant_names ?W ?st ?hd ?hu ?hk ?_); k_extra "i"; (case hk => exact RecKind.keeps (by assumption) (Fr.keep (by assumption))); k_whole; intro B' c' b1' b2' b3' h' tk' hk' gB nL; k_extra "a"; (have F' := Fr.keeps fF hk'); (have N' := newsJ fF nN hk' (more := [(B', _)]) (List.forall_mem_cons.mpr ⟨⟨gB, nL⟩, List.forall_mem_nil _⟩)); (have na' := allNe_of nN nL); (simp only [AllNe, and_true] at na'); (simp only [List.cons_append, List.nil_append] at N'); clear hk' gB nL; k_sweep) | k_extra "g"))
  all_goals (try dsimp only)
  all_goals (rename Fr _ _ _ _ => FF; rename News _ _ _ _ => NN; refine' hQ _ _ _ _ _ _ _ _ _ ?k1 ?k2 ?k3; (case k2 => exact (NN (_, _) (by k_mem)).1); (case k1 => exact (fun b o e => FF.keep b o (S2 b o e nNil))); (case k3 => exact new_of S2 NN (by k_mem) nNil))
end
end
section
open PySem PySem.W PyProof.Rows PySem.Calls
variable {w : World} {mg mb : Str → Option Value} {hB : Heap} {s : Shared} {dd uu : Nat} {gs : Option (List Code)} {fr : Option (List Env)} {Q : Value → Shared → Prop} {E : Value → Shared → Prop}
abbrev KeepsOff (S : List Addr) (h h' : Heap) : Prop := ∀ b o, b ∉ S → h.get? b = some o → h'.get? b = some o
theorem next_c {T l : Addr} {oT : Obj} {vs : List Value} {ns : List Int} {n many : Int} {tn tm : Tok}
  (WD : Wd w mg mb hB) (st : hB.StaysIn s.heap) (hdd : dd ≤ 488) (huu : uu ≤ 1900)
  (hT : s.heap.get? T = some oT) (hTB : hB.get? T = none) (lo : (T == sysModules) = false)
  (hd : oT.IsDictOf (PySem.strKind prog0 w) [(Str.ofString "of", .ref l), (Str.ofString "at", .int n tn)]) (hl : s.heap.IsList l vs.toArray) (hi : IntsAre vs ns) (hlT : l ≠ T)
  (h0 : 0 ≤ n) (h1 : n ≤ 1000) (hns : ns.length ≤ 60) (hm : 0 < many) (hm' : many ≤ 1000)
  (hQ : ∀ r t oT' h' tk tn', 0 ≤ r → r < many → h'.get? T = some oT' → oT'.IsDictOf (PySem.strKind prog0 w) [(Str.ofString "of", .ref l), (Str.ofString "at", .int (n+1) tn')] → KeepsOff [T] s.heap h' → Q (.int r t) {s with heap := h', toks := tk}) :
  wpAny (model prog0 w) ⟨none, dd, fr, gs, uu⟩ (call (.ref 674) [.ref T, .int many tm]) Q E s := by
 refine wpAny_call ?_
 refine' enter0 (news := [(T, oT)]) (binds := [(Str.ofString "tape", .ref T), (Str.ofString "many", .int many tm)]) WD st ?hN ?hroom ?ho ?hcd ?hb ?hl ?body ?c1 ?c2 ?c3 ?c4
 k_extra "j"
 case hN => exact List.forall_mem_cons.mpr ⟨⟨hT, hTB⟩, List.forall_mem_nil _⟩
 case body =>
  intro g L h₁ S1 S2 S3 F' N' KX' T' l1
  try simp only [AllLt, and_true] at l1
  have hl' : g.IsList l vs.toArray := by
   (refine xEAL hl fun o ho r => ?_; try clear hl)
   exact ⟨o, S2 _ _ ho (nm1 hlT), r⟩
  dsimp only
  (repeat' (first | k_extra "h" | k_extra "g"))
  all_goals (try dsimp only)
  all_goals (rename Fr _ _ _ _ => FF; rename News _ _ _ _ => NN; (with_reducible rename Obj.IsDictOf _ _ _ => hdd'); exact hQ _ _ _ _ _ _ (Int.fmod_nonneg_of_pos _ hm) (Int.fmod_lt_of_pos _ hm) (NN _ (.head _)).1 hdd' fun b o nb e => FF.keep b o (S2 b o e nb))
end
section
def Held (p : Prop) : Prop := p
theorem held {p : Prop} (h : Held p) : p := h
theorem frButS {g h h' : Heap} {L : Addr} {m : Str → Option Value} {S : List Addr} (F : Fr g L h m) (hk : ∀ b o, b ∉ S → h.get? b = some o → h'.get? b = some o) (n : ∀ a ∈ S, g.get? a = none ∧ a ≠ L) : Fr g L h' m := by
 refine xEEEAL (F.ns) fun oL es ep hL r => ?_
 refine ⟨⟨oL, es, ep, hk _ _ (fun q => (n L q).2 rfl) hL, r⟩, fun b o e => hk b o (fun q => ?_) (F.keep b o e), F.above⟩
 rw [(n b q).1] at e; cases e
def frO (h : Heap) (l : List Addr) : List (Addr × Obj) := l.filterMap fun b => (h.get? b).map (b, ·)
theorem frO_mem {h : Heap} {l : List Addr} {q : Addr × Obj} (m : q ∈ frO h l) : q.1 ∈ l ∧ h.get? q.1 = some q.2 := by
 refine xEAL (List.mem_filterMap.mp m) fun b hb e => ?_
 cases x : h.get? b with
 | none => rw [x] at e; cases e
 | some o => rw [x] at e; cases e; exact ⟨hb, x⟩
theorem frO_in {h : Heap} {l : List Addr} {b : Addr} {o : Obj} (hb : b ∈ l) (e : h.get? b = some o) : (b, o) ∈ frO h l :=
 List.mem_filterMap.mpr ⟨b, hb, by rw [e]; rfl⟩
theorem frO_fst {h : Heap} {l : List Addr} (hx : ∀ a ∈ l, ∃ o, h.get? a = some o) : (frO h l).map (·.1) = l := by
 induction l with
 | nil => rfl
 | cons a r ih =>
  refine xEL (hx a (.head _)) fun o ho => ?_
  unfold frO at ih ⊢
  rw [List.filterMap_cons, ho]
  simp only [Option.map_some, List.map_cons]
  rw [ih fun b hb => hx b (.tail _ hb)]
def CallsR (w : World) (D U : Nat) (G : Heap → Prop) (S : List Addr) (P : Heap → Prop) (f : Addr) (args : List Value) (r : Value) : Prop :=
 ∀ (s1 : Shared) (dd uu : Nat) (gs : Option (List Code)) (fr : Option (List Env)) (Q : Value → Shared → Prop) (E : Value → Shared → Prop), G s1.heap → dd ≤ D → uu ≤ U →
  (∀ h' tk, KeepsOff S s1.heap h' → P h' → Q r { s1 with heap := h', toks := tk }) → wpAny (model prog0 w) ⟨none, dd, fr, gs, uu⟩ (call (.ref f) args) Q E s1
theorem allLt_ne {d : Addr} {l : List (Addr × Obj)} (h : AllLt d l) : ∀ p ∈ l, @Ne Nat p.1 d := by
 induction l with
 | nil => intro p hp; cases hp
 | cons q r ih =>
  intro p hp
  rcases List.mem_cons.mp hp with e | hp
  ·rw [e]; exact Nat.ne_of_lt h.1
  ·exact ih h.2 p hp
end
section
open PySem PySem.W PyProof.Rows PySem.Calls
variable {w : World} {mg mb : Str → Option Value} {hB : Heap} {s : Shared} {dd uu : Nat} {gs : Option (List Code)} {fr : Option (List Env)} {Q : Value → Shared → Prop} {E : Value → Shared → Prop}
theorem said_5 : True := by
 k_with "s" => (exact inst_mix (by with_reducible assumption) (by with_reducible assumption) (by assumption) (by k_mem))
 exact True.intro
local macro_rules | `(tactic| k_inst) => `(tactic| k_extra "s")
theorem keepP {hs g h h0 : Heap} {L : Addr} {m : Str → Option Value} {S : List Addr} {RD : Addr} {led : List (Addr × Obj)}
  (S2 : ∀ b o, hs.get? b = some o → b ∉ S → b ≠ RD → g.get? b = some o) (k0 : KeepsOff S hs h0) (F : Fr g L h m) (N : News g L h led) (hled : ∀ q ∈ frO h0 S, q ∈ led) :
  ∀ b o, (∃ o', hs.get? b = some o') → b ≠ RD → h0.get? b = some o → h.get? b = some o := fun b o ex hb e => by
 by_cases hm : b ∈ S
 ·exact (N _ (hled _ (frO_in hm e))).1
 ·refine xEL ex fun o' e' => ?_
  have := k0 _ _ hm e'
  rw [e] at this
  cases this
  exact F.keep _ _ (S2 _ _ e' hm hb)
structure KRJ (w : World) (hs : Heap) (S : List Addr) (P : Heap → Prop) (R R2 RD dN : Addr) (dR : Obj) (kvs : List (Str × Value)) (m : Str → Option Value) (led : List (Addr × Obj)) : Prop where
 st : ∃ oF h0, led = (dN, oF) :: (RD, dR) :: frO h0 S ∧ P h0 ∧ KeepsOff S hs h0 ∧ oF.IsDictOf (PySem.strKind prog0 w) kvs
 m1 : m (Str.ofString "old") = some (.ref R)
 m2 : m (Str.ofString "fresh") = some (.ref R2)
 m3 : m (Str.ofString "fields") = some (.ref dN)
theorem kept_rec {R RD FD RT R2 RD2 FD2 RT2 : Addr} {kvs0 kvs2 : List (Str × Value)} {S : List Addr} {P : Nat → Heap → Prop} {res : Str × Value → Value}
  (WD : Wd w mg mb hB) (st : hB.StaysIn s.heap) (hdd : dd ≤ 464) (huu : uu ≤ 1700)
  (hA : RecAt w s.heap R RD FD RT kvs0) (hA2 : RecAt w s.heap R2 RD2 FD2 RT2 kvs2) (hS : ∀ a ∈ S, hB.get? a = none) (hap : ∀ a ∈ [R, FD, RD, R2, RD2, FD2], a ∉ S) (hap2 : ∀ a ∈ [R2, RD2, FD2], @Ne Nat a RD)
  (hkn : kvs2.length ≤ 50) (lo : (FD2 == sysModules) = false) (lo0 : (FD == sysModules) = false) (hB1 : hB.get? RD = none)
  (P0 : P 0 s.heap) (Pk : ∀ i h h', P i h → (∀ b o, (∃ o', s.heap.get? b = some o') → b ≠ RD → h.get? b = some o → h'.get? b = some o) → P i h') (Pe : ∀ i h, P i h → ∀ a ∈ S, ∃ o, h.get? a = some o)
  (hin : ∀ (i : Nat) z, kvs2[i]? = some z → CallsR w 476 1800 (fun h => hB.StaysIn h ∧ P i h) S (P (i + 1)) 175 [(valueAt kvs0 z.1).getD .none, z.2] (res z))
  (hQ : ∀ F' h' tk, KeepsOff (RD :: S) s.heap h' → RecAt w h' R RD F' RT (kvs2.map fun z => (z.1, res z)) → P kvs2.length h' → s.heap.get? F' = none → Q (.ref R) {s with heap := h', toks := tk}) :
  wpAny (model prog0 w) ⟨none, dd, fr, gs, uu⟩ (call (.ref 175) [.ref R, .ref R2]) Q E s := by
 (refine recEl hA fun e1 h1 t1 h2 t2 n2 e2 oF0 e3 hdF0 f1 f2 f3 => ?_; try clear hA)
 (refine recEl hA2 fun r1 u1 v1 u2 v2 w2 r2 oF r3 hdF k1 k2 k3 => ?_; try clear hA2)
 have hf0 := frO_fst (Pe _ _ P0)
 refine wpAny_call ?_
 refine' enter0 (news := (RD, pairD h1 "type" t1 (.ref RT) h2 "fields" t2 (.ref FD) n2) :: frO s.heap S) (binds := [(Str.ofString "old", .ref R), (Str.ofString "fresh", .ref R2)]) WD st ?hN ?hroom ?ho ?hcd ?hb ?hl ?body ?c1 ?c2 ?c3 ?c4
 k_extra "j"
 case hN => exact List.forall_mem_cons.mpr ⟨⟨e2, hB1⟩, fun q hq => ⟨(frO_mem hq).2, hS _ (frO_mem hq).1⟩⟩
 case body =>
  intro g L h₁ S1 S2' S3 F' N' KX' T' l1
  have S2 : ∀ b o, s.heap.get? b = some o → b ∉ S → b ≠ RD → g.get? b = some o := fun b o e n1 n2 => S2' b o e fun q => by
   rw [List.map_cons, hf0] at q
   exact (List.mem_cons.mp q).elim n2 n1
  have nS : ∀ a ∈ S, g.get? a = none ∧ a ≠ L := fun a ha => by
   refine xEL (Pe _ _ P0 a ha) fun o ho => ?_
   have := N' _ (.tail _ (frO_in ha ho))
   exact ⟨this.2.2, this.2.1⟩
  have qa := S2 _ _ e1 (hap _ (by k_mem)) f3
  have hF0g := S2 _ _ e3 (hap _ (by k_mem)) f2
  have qb := S2 _ _ r1 (hap _ (by k_mem)) (hap2 _ (by k_mem))
  have qc := S2 _ _ r2 (hap _ (by k_mem)) (hap2 _ (by k_mem))
  have hFg := S2 _ _ r3 (hap _ (by k_mem)) (hap2 _ (by k_mem))
  clear S2' l1
  dsimp only
  (repeat' (first | k_extra "h" | ((with_reducible show wpAny _ _ (call (.ref 175) _) _ _ _); refine held ?_) | ((with_reducible show wpAny _ _ (getMethod (Value.ref _) _ _) _ _ _); refine getM (dB (by assumption) hF0g hdF0) ?_) | ((with_reducible show wpAny _ _ (call (Value.builtin "dict.get") _) _ _ _); refine getC1 (dB (by assumption) hF0g hdF0) lo0 _ rfl ?_) | ((with_reducible show wpAny _ _ (subscriptTail _ _ (Value.ref _) (Value.str _ _)) _ _ _); refine itemD (dB (by assumption) hFg hdF) hval ?_) | ((with_reducible show wpAny _ _ (setItem (Value.ref _) (Value.str _ _) _) _ _ _); refine setD (by assumption) (by assumption) hne1 hd' hlen ?_; intro h' o' F' N' hd'; k_sweep) | k_extra "g"))
  rename Fr _ _ _ _ => F1
  rename News _ _ _ _ => N1
  rename Obj.IsDictOf (PySem.strKind _ _) _ _ => hd1
  rename_i dN hX oN loN fs0 hi0 fi0 l10 hY
  clear fs0 hi0 fi0
  have hknd : (kvs2.map (·.1)).Nodup := by (refine xEEAAAAL hdF fun _ _ _ _ _ _ h => ?_; try clear hdF); exact h
  have hdS : ∀ a ∈ S, a ≠ dN := fun a ha => by
   refine xEL (Pe _ _ P0 a ha) fun o ho => ?_
   exact allLt_ne l10.2 _ (frO_in ha ho)
  have hdRD : @Ne Nat RD dN := Nat.ne_of_lt l10.1
  clear l10
  refine iter_dictG (fun i m led => KRJ w s.heap S (P i) R R2 RD dN (pairD h1 "type" t1 (.ref RT) h2 "fields" t2 (.ref FD) n2) ((kvs2.take i).map fun z => (z.1, res z)) m led) rfl lo hFg hdF F1 N1
   ⟨⟨oN, s.heap, rfl, P0, fun b o _ e => e, hd1⟩, rfl, rfl, rfl⟩ ?turn ?done
  case turn =>
   intro i k y t m₁ led h tk own hky hoff w11 F₁ N₁
   obtain ⟨⟨oF', h0, e0, Ph0, k0, hd'⟩, hm1, hm2, hm3⟩ := w11
   subst e0
   rw [map4 hm1 hm2 hm3] at F₁
   rw [List.cons_append, List.cons_append] at N₁
   have hval := valueAt_get hknd hky
   have hfr := key_fresh hknd hky
   have offS : ∀ p ∈ own, p.1 ∉ S := fun p hp q => by
    refine xEL (Pe _ _ Ph0 p.1 q) fun o ho => ?_
    exact hoff p hp p.1 (.tail _ (.tail _ (List.mem_map.mpr ⟨_, frO_in q ho, rfl⟩))) rfl
   have hne9 : ∀ (hx : Heap) (oR : Obj), ∀ p ∈ (RD, oR) :: (frO hx S ++ own), p.1 ≠ dN := fun hx oR p hp => by
    rcases List.mem_cons.mp hp with rfl | hp
    ·exact hdRD
    rcases List.mem_append.mp hp with hp | hp
    ·exact hdS _ (frO_mem hp).1
    ·exact hoff p hp dN (.head _)
   have hlen : ((kvs2.take i).map fun z => (z.1, res z)).length ≤ 100 := by
    simp only [List.length_map, List.length_take]
    omega
   (repeat' (first | k_extra "h" | ((with_reducible show wpAny _ _ (call (.ref 175) _) _ _ _); refine held ?_) | ((with_reducible show wpAny _ _ (getMethod (Value.ref _) _ _) _ _ _); refine getM (dB (by assumption) hF0g hdF0) ?_) | ((with_reducible show wpAny _ _ (call (Value.builtin "dict.get") _) _ _ _); refine getC1 (dB (by assumption) hF0g hdF0) lo0 _ rfl ?_) | ((with_reducible show wpAny _ _ (subscriptTail _ _ (Value.ref _) (Value.str _ _)) _ _ _); refine itemD (dB (by assumption) hFg hdF) hval ?_) | ((with_reducible show wpAny _ _ (setItem (Value.ref _) (Value.str _ _) _) _ _ _); refine setD (by assumption) (by assumption) hne1 hd' hlen ?_; intro h' o' F' N' hd'; k_sweep) | k_extra "g"))
   unfold Held
   k_extra "a"
   have Ph := Pk _ _ _ Ph0 (keepP S2 k0 fF nN fun q hq => .tail _ (.tail _ (List.mem_append_left _ hq)))
   refine' hin i (k, y) hky _ _ _ _ _ _ _ ⟨stays_of S1 fF, Ph⟩ ?hd ?hu ?_
   case hd => (dsimp only; first | exact om1 (by assumption) rfl | omega)
   case hu => (dsimp only; first | exact om1 (by assumption) rfl | omega)
   k_whole
   intro hK tk' kp hP'
   have F' := frButS fF kp nS
   have N' : News g L hK ((dN, oF') :: (RD, pairD h1 "type" t1 (.ref RT) h2 "fields" t2 (.ref FD) n2) :: (frO hK S ++ own)) := fun q hq => by
    rcases List.mem_cons.mp hq with rfl | hq
    ·exact ⟨kp _ _ (fun q => hdS _ q rfl) (nN _ (.head _)).1, (nN _ (.head _)).2⟩
    rcases List.mem_cons.mp hq with rfl | hq
    ·exact ⟨kp _ _ (hap RD (by k_mem)) (nN _ (.tail _ (.head _))).1, (nN _ (.tail _ (.head _))).2⟩
    rcases List.mem_append.mp hq with hq | hq
    ·exact ⟨(frO_mem hq).2, (nS _ (frO_mem hq).1).2, (nS _ (frO_mem hq).1).1⟩
    ·have z := nN q (.tail _ (.tail _ (List.mem_append_right _ hq)))
     exact ⟨kp _ _ (offS q hq) z.1, z.2⟩
   have kS : KeepsOff S s.heap hK := fun b o nb e => by
    by_cases hb : b = RD
    ·rw [hb, e2] at e
     cases e
     rw [hb]; exact (N' _ (.tail _ (.head _))).1
    ·exact F'.keep _ _ (S2 _ _ e nb hb)
   have hne1 := hne9 hK (pairD h1 "type" t1 (.ref RT) h2 "fields" t2 (.ref FD) n2)
   clear fF nN kp Ph hne9
   (repeat' (first | k_extra "h" | ((with_reducible show wpAny _ _ (call (.ref 175) _) _ _ _); refine held ?_) | ((with_reducible show wpAny _ _ (getMethod (Value.ref _) _ _) _ _ _); refine getM (dB (by assumption) hF0g hdF0) ?_) | ((with_reducible show wpAny _ _ (call (Value.builtin "dict.get") _) _ _ _); refine getC1 (dB (by assumption) hF0g hdF0) lo0 _ rfl ?_) | ((with_reducible show wpAny _ _ (subscriptTail _ _ (Value.ref _) (Value.str _ _)) _ _ _); refine itemD (dB (by assumption) hFg hdF) hval ?_) | ((with_reducible show wpAny _ _ (setItem (Value.ref _) (Value.str _ _) _) _ _ _); refine setD (by assumption) (by assumption) hne1 hd' hlen ?_; intro h' o' F' N' hd'; k_sweep) | k_extra "g"))
   all_goals (try dsimp only)
   rename Fr _ _ _ _ => F9
   rename News _ _ _ _ => N9
   refine InvEndG.intro F9 N9 ⟨⟨o', hK, rfl, hP', kS, ?_⟩, rfl, rfl, rfl⟩ ?_ ?_ ?_
   ·rw [take_snoc hky, List.map_append]
    rw [stored_new (by rw [List.map_map]; exact hfr)] at hd'
    exact hd'
   ·intro p hp b hb
    rcases List.mem_cons.mp hb with rfl | hb
    ·exact hoff p hp _ (.head _)
    rcases List.mem_cons.mp hb with rfl | hb
    ·exact hoff p hp _ (.tail _ (.head _))
    ·rw [frO_fst (Pe _ _ hP')] at hb
     exact fun q => offS p hp (q ▸ hb)
   ·intro p hp
    rcases List.mem_cons.mp hp with rfl | hp
    ·exact .head _
    rcases List.mem_cons.mp hp with rfl | hp
    ·exact .tail _ (.head _)
    ·exact .tail _ (.tail _ (List.mem_append_left _ hp))
   ·exact fun p hp => .tail _ (.tail _ (List.mem_append_right _ hp))
  case done =>
   intro m₁ led h tk w16 F₁ N₁
   obtain ⟨⟨oF', h0, e0, Ph0, k0, hd'⟩, hm1, hm2, hm3⟩ := w16
   subst e0
   rw [List.take_length] at hd'
   rw [map3' hm1 hm2 hm3] at F₁
   replace F₁ : Fr g L h _ := F₁
   have N₂ : News g L h ((RD, pairD h1 "type" t1 (.ref RT) h2 "fields" t2 (.ref FD) n2) :: (dN, oF') :: frO h0 S) := fun q hq => by
    rcases List.mem_cons.mp hq with rfl | hq
    ·exact N₁ _ (.tail _ (.head _))
    rcases List.mem_cons.mp hq with rfl | hq
    ·exact N₁ _ (.head _)
    ·exact N₁ _ (.tail _ (.tail _ hq))
   clear N₁
   have hnR : ∀ p ∈ (dN, oF') :: frO h0 S, p.1 ≠ RD := fun p hp => by
    rcases List.mem_cons.mp hp with rfl | hp
    ·exact Ne.symm hdRD
    ·exact fun q => hap RD (by k_mem) (q ▸ (frO_mem hp).1)
   (repeat' (first | k_extra "h" | ((with_reducible show wpAny _ _ (call (.ref 175) _) _ _ _); refine held ?_) | ((with_reducible show wpAny _ _ (getMethod (Value.ref _) _ _) _ _ _); refine getM (dB (by assumption) hF0g hdF0) ?_) | ((with_reducible show wpAny _ _ (call (Value.builtin "dict.get") _) _ _ _); refine getC1 (dB (by assumption) hF0g hdF0) lo0 _ rfl ?_) | ((with_reducible show wpAny _ _ (subscriptTail _ _ (Value.ref _) (Value.str _ _)) _ _ _); refine itemD (dB (by assumption) hFg hdF) hval ?_) | ((with_reducible show wpAny _ _ (setAttr (Value.ref _) _ _) _ _ _); k_dflt (refine' set2 ?k0 ?k1 ?k2 ?k3 ?k4 ?k5 ?k6 ?k7 ?k8 ?k9 (Upd.head hnR) ?_; (case k1 => k_asm); (case k2 => k_asm); (case k3 => k_asm); (case k4 => k_inst); (case k0 => decide +kernel); (case k5 => exact rfl); (case k6 => k_is); (case k7 => k_is); (case k8 => k_is); (case k9 => k_is); k_whole; intro h' F' N'; (try k_sweep))) | ((with_reducible show wpAny _ _ (setItem (Value.ref _) (Value.str _ _) _) _ _ _); refine setD (by assumption) (by assumption) hne1 hd' hlen ?_; intro h' o' F' N' hd'; k_sweep) | k_extra "g"))
   all_goals (try dsimp only)
   rename Fr _ _ _ _ => F9
   rename News _ _ _ _ => N9
   refine hQ dN _ _ (fun b o nb e => ?_) (recMk (F9.keep _ _ qa) ((N9 _ (.head _)).1) ((N9 _ (.tail _ (.head _))).1) hd' ⟨?_, Ne.symm hdRD, f3⟩) (Pk _ _ _ Ph0 (keepP S2 k0 F9 N9 fun q hq => .tail _ (.tail _ hq))) ?_
   ·exact F9.keep _ _ (S2 _ _ e (fun q => nb (.tail _ q)) (fun q => nb (q ▸ .head _)))
   ·exact fun q => by
     have := (N9 _ (.tail _ (.head _))).2.2
     rw [q, qa] at this
     cases this
   ·cases q : s.heap.get? dN with
    | none => rfl
    | some o =>
     have := (N9 _ (.tail _ (.head _))).2.2
     rw [S2 _ _ q (fun z => hdS _ z rfl) (Ne.symm hdRD)] at this
     cases this
end
section
open PySem PySem.W PyProof.Rows PySem.Calls
variable {w : World} {mg mb : Str → Option Value} {hB : Heap} {s : Shared} {dd uu : Nat} {gs : Option (List Code)} {fr : Option (List Env)} {Q : Value → Shared → Prop} {E : Value → Shared → Prop}
theorem kept_recN {R RD FD RT R2 RD2 FD2 RT2 : Addr} {kvs0 kvs2 : List (Str × Value)}
  (WD : Wd w mg mb hB) (st : hB.StaysIn s.heap) (hdd : dd ≤ 464) (huu : uu ≤ 1700)
  (hA : RecAt w s.heap R RD FD RT kvs0) (hA2 : RecAt w s.heap R2 RD2 FD2 RT2 kvs2) (hV0 : ∀ p ∈ kvs0, VOkA s.heap [RD] p.2) (hV2 : ∀ p ∈ kvs2, VOkA s.heap [RD] p.2) (hnn : ∀ p ∈ kvs2, ∀ a, p.2 = .ref a → valueAt kvs0 p.1 = none) (hkn : kvs2.length ≤ 50) (lo : (FD2 == sysModules) = false) (lo0 : (FD == sysModules) = false) (hB1 : hB.get? RD = none) (hap : ∀ a ∈ [R2, RD2, FD2], @Ne Nat a RD)
  (hQ : ∀ F' h' tk, (∀ b o, b ≠ RD → s.heap.get? b = some o → h'.get? b = some o) → RecAt w h' R RD F' RT kvs2 → s.heap.get? F' = none → Q (.ref R) {s with heap := h', toks := tk}) :
  wpAny (model prog0 w) ⟨none, dd, fr, gs, uu⟩ (call (.ref 175) [.ref R, .ref R2]) Q E s := by
 refine kept_rec (S := []) (P := fun _ h => KeepsOff [RD] s.heap h) (res := fun z => z.2) WD st hdd huu hA hA2 (fun _ h => nomatch h) (fun _ _ h => nomatch h) hap hkn lo lo0 hB1 (fun b o _ e => e) (fun _ h h' p k b o nb e => k b o ⟨o, e⟩ (fun q => nb (q ▸ .head _)) (p b o nb e)) (fun _ _ _ a ha => nomatch ha) ?_ (fun F' h' tk _ hr hp hn => ?_)
 ·intro i z hz s1 dd uu gs fr Q E g hd hu hq
  have hm := List.mem_of_getElem? hz
  have fin : ∀ h' tk, Keeps s1.heap h' → Q z.2 { s1 with heap := h', toks := tk } := fun h' tk k => hq h' tk (fun b o _ e => k b o e) (fun b o nb e => k _ _ (g.2 b o nb e))
  have go : ∀ x, VOkA s.heap [RD] x → VOk s1.heap x := fun x v => v.sub (fun b o e nb => g.2 b o nb e)
  have hd' : dd ≤ 500 := Nat.le_trans hd (by decide)
  have hu' : uu ≤ 2000 := Nat.le_trans hu (by decide)
  obtain ⟨k, y⟩ := z
  rcases go _ (hV2 _ hm) with ⟨n, t, e⟩ | ⟨Y, YD, YB, YI, tp, p, q, e, a⟩
  ·cases e
   cases hx : valueAt kvs0 k with
   | none => exact kept_int_none WD g.1 hd' hu' fin
   | some x0 =>
    rcases go _ (hV0 _ (valueAt_mem hx)) with ⟨n0, t0, e⟩ | ⟨Y, YD, YB, YI, tp, p, q, e, a⟩
    ·cases e; exact kept_int_int WD g.1 hd' hu' fin
    ·cases e
     refine xEEEEEL a.o2 fun _ _ _ _ _ e => ?_
     exact kept_int_arr WD g.1 hd' hu' a.o1 e fin
  ·cases e
   dsimp only
   rw [hnn _ hm Y rfl]
   refine xEEEEEL a.o2 fun _ _ _ _ _ e => ?_
   exact kept_arr_none WD g.1 hd' hu' a.o1 e fin
 ·exact hQ F' h' tk (fun b o nb e => hp b o (fun q => nb (List.mem_singleton.mp q)) e) (by rw [show (kvs2.map fun z => (z.1, z.2)) = kvs2 from List.map_id _] at hr; exact hr) hn
theorem ArrAt.move {h h' : Heap} {Y YD YB YI tp : Addr} {p q : Int} (x : ArrAt h Y YD YB YI tp p q) (k : ∀ b ∈ [Y, YD, YB, YI], ∀ o, h.get? b = some o → h'.get? b = some o) : ArrAt h' Y YD YB YI tp p q :=
 arrEl x fun a _ _ _ _ _ b _ c _ _ _ d => (arrMk (k _ (.head _) _ a) (k _ (.tail _ (.head _)) _ b) (k _ (.tail _ (.tail _ (.head _))) _ c) (k _ (.tail _ (.tail _ (.tail _ (.head _)))) _ d))
theorem ArrAt.dom {h : Heap} {Y YD YB YI tp : Addr} {p q : Int} (x : ArrAt h Y YD YB YI tp p q) : ∀ b ∈ [Y, YD, YB, YI], ∃ o, h.get? b = some o :=
 arrEl x fun a _ _ _ _ _ b _ c _ _ _ d => List.forall_mem_cons.mpr ⟨⟨_, a⟩, List.forall_mem_cons.mpr ⟨⟨_, b⟩, List.forall_mem_cons.mpr ⟨⟨_, c⟩, List.forall_mem_cons.mpr ⟨⟨_, d⟩, List.forall_mem_nil _⟩⟩⟩⟩
theorem kept_recA {R RD FD RT R2 RD2 FD2 RT2 Y YD YB YI tp Y2 YD2 YB2 YI2 tp2 : Addr} {p q p2 q2 : Int} {kvs0 kvs2 : List (Str × Value)}
  (WD : Wd w mg mb hB) (st : hB.StaysIn s.heap) (hdd : dd ≤ 464) (huu : uu ≤ 1700)
  (hA : RecAt w s.heap R RD FD RT kvs0) (hA2 : RecAt w s.heap R2 RD2 FD2 RT2 kvs2) (hY : ArrAt s.heap Y YD YB YI tp p q) (hY2 : ArrAt s.heap Y2 YD2 YB2 YI2 tp2 p2 q2) (hV : ∀ z ∈ kvs2, (∃ n t, z.2 = .int n t ∧ ∃ n0 t0, valueAt kvs0 z.1 = some (.int n0 t0)) ∨ (z.2 = .ref Y2 ∧ valueAt kvs0 z.1 = some (.ref Y))) (hkn : kvs2.length ≤ 50) (lo : (FD2 == sysModules) = false) (lo0 : (FD == sysModules) = false) (hB1 : hB.get? RD = none) (hB2 : hB.get? YD = none) (hB3 : hB.get? YI = none) (hB4 : hB.get? Y = none) (hS : @Ne Nat RD YD ∧ @Ne Nat RD YI ∧ @Ne Nat YD YI ∧ @Ne Nat Y YD ∧ @Ne Nat Y YI ∧ @Ne Nat Y RD) (hap : ∀ a ∈ [R, FD, YB, R2, RD2, FD2, Y2, YD2, YB2, YI2], @Ne Nat a RD ∧ @Ne Nat a YD ∧ @Ne Nat a YI) (hap2 : ∀ a ∈ [Y2, YD2, YB2, YI2], @Ne Nat a Y)
  (hQ : ∀ F' h' tk, (∀ b o, b ≠ RD → b ≠ YD → b ≠ YI → s.heap.get? b = some o → h'.get? b = some o) → RecAt w h' R RD F' RT (kvs2.map (fixY Y)) → ((∃ z ∈ kvs2, z.2 = .ref Y2) → ArrAt h' Y YD YB2 YI tp2 p2 q2) → s.heap.get? F' = none → Q (.ref R) {s with heap := h', toks := tk}) :
  wpAny (model prog0 w) ⟨none, dd, fr, gs, uu⟩ (call (.ref 175) [.ref R, .ref R2]) Q E s := by
 (refine xAAAAAL hS fun s1 s2 s3 s4 s5 s6 => ?_; try clear hS)
 have d0 := hY.dom
 have d2 := hY2.dom
 have nR : ∀ b ∈ [Y, YD, YB, YI], b ≠ RD := List.forall_mem_cons.mpr ⟨s6, List.forall_mem_cons.mpr ⟨Ne.symm s1, List.forall_mem_cons.mpr ⟨(hap _ (by k_mem)).1, List.forall_mem_cons.mpr ⟨Ne.symm s2, List.forall_mem_nil _⟩⟩⟩⟩
 refine kept_rec (S := [YD, YI]) (P := fun i h => KeepsOff [RD, YD, YI] s.heap h ∧ ∃ YBx tpx px qx, ArrAt h Y YD YBx YI tpx px qx ∧ (YBx = YB ∨ YBx = YB2) ∧ ((∃ z ∈ kvs2.take i, z.2 = .ref Y2) → YBx = YB2 ∧ tpx = tp2 ∧ px = p2 ∧ qx = q2))
  (res := fun z => (fixY Y z).2) WD st hdd huu hA hA2 (List.forall_mem_cons.mpr ⟨hB2, List.forall_mem_cons.mpr ⟨hB3, List.forall_mem_nil _⟩⟩) ?ap (fun a ha => ?ap2) hkn lo lo0 hB1 ⟨fun b o _ e => e, YB, tp, p, q, hY, .inl rfl, fun h => ?z0⟩ ?Pk ?Pe ?hin (fun F' h' tk kp hr hp hn => ?fin)
 case ap =>
  intro a ha q
  have hx : a ∈ [R, FD, YB, R2, RD2, FD2, Y2, YD2, YB2, YI2] ∨ a = RD := by
   simp only [List.mem_cons, List.not_mem_nil, or_false] at ha ⊢
   rcases ha with h | h | h | h | h | h <;> simp [h]
  rcases List.mem_cons.mp q with e | q
  ·rcases hx with hx | hx
   ·exact (hap a hx).2.1 e
   ·exact s1 (hx ▸ e)
  ·have e := List.mem_singleton.mp q
   rcases hx with hx | hx
   ·exact (hap a hx).2.2 e
   ·exact s2 (hx ▸ e)
 case ap2 =>
  refine (hap a ?_).1
  simp only [List.mem_cons, List.not_mem_nil, or_false] at ha ⊢
  rcases ha with h | h | h <;> simp [h]
 case z0 => refine xEAL h fun _ h _ => ?_; cases h
 case Pk =>
  intro i h h' p k
  refine xEEEEAAL p.2 fun YBx tpx px qx a ey r => ?_
  have kp := p.1
  refine ⟨fun b o nb e => k b o ⟨o, e⟩ (fun q => nb (q ▸ .head _)) (kp b o nb e), YBx, tpx, px, qx, a.move fun b hb o e => k b o ?_ ?_ e, ey, r⟩
  ·rcases ey with rfl | rfl
   ·exact d0 b hb
   ·rcases List.mem_cons.mp hb with rfl | hb
    ·exact d0 _ (.head _)
    rcases List.mem_cons.mp hb with rfl | hb
    ·exact d0 _ (.tail _ (.head _))
    rcases List.mem_cons.mp hb with rfl | hb
    ·exact d2 _ (.tail _ (.tail _ (.head _)))
    ·rw [List.mem_singleton.mp hb]; exact d0 _ (.tail _ (.tail _ (.tail _ (.head _))))
  ·rcases ey with rfl | rfl
   ·exact nR b hb
   ·rcases List.mem_cons.mp hb with rfl | hb
    ·exact nR _ (.head _)
    rcases List.mem_cons.mp hb with rfl | hb
    ·exact nR _ (.tail _ (.head _))
    rcases List.mem_cons.mp hb with rfl | hb
    ·exact (hap _ (by k_mem)).1
    ·rw [List.mem_singleton.mp hb]; exact nR _ (.tail _ (.tail _ (.tail _ (.head _))))
 case Pe =>
  intro i h p
  refine xEEEEAAL p.2 fun YBx tpx px qx a ey r => ?_
  have kp := p.1
  exact List.forall_mem_cons.mpr ⟨a.dom _ (.tail _ (.head _)), List.forall_mem_cons.mpr ⟨a.dom _ (.tail _ (.tail _ (.tail _ (.head _)))), List.forall_mem_nil _⟩⟩
 case hin =>
  intro i z hz s1 dd uu gs fr Q E g hd hu hq
  have hm := List.mem_of_getElem? hz
  refine xEEEEAAL g.2.2 fun YBx tpx px qx a ey r => ?_
  have gst := g.1
  have kp := g.2.1
  have hd' : dd ≤ 488 := Nat.le_trans hd (by decide)
  have hu' : uu ≤ 1900 := Nat.le_trans hu (by decide)
  obtain ⟨k, y⟩ := z
  rcases hV _ hm with ⟨n, t, e, n0, t0, hx⟩ | ⟨e, hx⟩
  ·cases e
   dsimp only at hx ⊢
   rw [hx]
   refine kept_int_int WD gst (Nat.le_trans hd' (by decide)) (Nat.le_trans hu' (by decide)) fun h' tk k1 => hq h' tk (fun b o _ e => k1 b o e) ⟨fun b o nb e => k1 _ _ (kp b o nb e), YBx, tpx, px, qx, a.keeps k1, ey, fun h => r ?_⟩
   refine xEAL h fun z hz1 hz2 => ?_
   rw [take_snoc hz] at hz1
   rcases List.mem_append.mp hz1 with hz1 | hz1
   ·exact ⟨z, hz1, hz2⟩
   ·rw [List.mem_singleton.mp hz1] at hz2; cases hz2
  ·cases e
   dsimp only at hx ⊢
   rw [hx]
   have hap3 : ∀ a ∈ [Y2, YD2, YB2, YI2], @Ne Nat a RD ∧ @Ne Nat a YD ∧ @Ne Nat a YI := fun a ha => hap a (.tail _ (.tail _ (.tail _ (.tail _ (.tail _ (.tail _ ha))))))
   have nS : ∀ a ∈ [Y2, YD2, YB2, YI2], a ∉ [RD, YD, YI] := fun a ha q => by
    simp only [List.mem_cons, List.not_mem_nil, or_false] at q
    rcases q with q | q | q
    ·exact (hap3 a ha).1 q
    ·exact (hap3 a ha).2.1 q
    ·exact (hap3 a ha).2.2 q
   refine kept_arr_arr WD gst hd' hu' a (hY2.move fun b hb o e => kp b o (nS b hb) e) hB4 hB2 hB3 ⟨s4, s5, s3⟩ (fun a ha => ⟨hap2 a ha, (hap3 a ha).2⟩) fun h' tk k1 a' => hq h' tk (fun b o nb e => k1 b o (fun q => nb (q ▸ .head _)) (fun q => nb (q ▸ .tail _ (.head _))) e) ⟨fun b o nb e => k1 b o (fun q => nb (q ▸ .tail _ (.head _))) (fun q => nb (q ▸ .tail _ (.tail _ (.head _)))) (kp b o nb e), YB2, tp2, p2, q2, a', .inr rfl, fun _ => ⟨rfl, rfl, rfl, rfl⟩⟩
 case fin =>
  refine xEEEEAAL hp.2 fun YBx tpx px qx a ey r => ?_
  refine hQ F' h' tk (fun b o n1 n2 n3 e => kp b o (fun q => ?_) e) ?_ (fun hz => ?_) hn
  ·simp only [List.mem_cons, List.not_mem_nil, or_false] at q
   rcases q with q | q | q
   ·exact n1 q
   ·exact n2 q
   ·exact n3 q
  ·have e : (kvs2.map fun z => (z.1, (fixY Y z).2)) = kvs2.map (fixY Y) := List.map_congr_left fun z _ => Prod.ext (fixY_key Y z).symm rfl
   rw [e] at hr; exact hr
  ·rw [List.take_length] at r
   refine xAAAL (r hz) fun e1 e2 e3 e4 => ?_
   rw [e1, e2, e3, e4] at a; exact a
end
section
variable {w : World} {mg mb : Str → Option Value} {hB : Heap} {s : Shared} {dd uu : Nat} {gs : Option (List Code)} {fr : Option (List Env)} {Q : Value → Shared → Prop} {E : Value → Shared → Prop}
def Five (k : Str) : Prop := k = Str.ofString "d" ∨ k = Str.ofString "c" ∨ k = Str.ofString "x" ∨ k = Str.ofString "y" ∨ k = Str.ofString "z"
def OwnO (o : Obj) : Prop := ∃ c t1 t2 t3 t4 t5, o = PySem.W.listOf #[Value.str (Str.ofString "d") t1, .str (Str.ofString "c") t2, .str (Str.ofString "x") t3, .str (Str.ofString "y") t4, .str (Str.ofString "z") t5] c
theorem notinFive {w : World} {A : Around} {E : Value → Shared → Prop} {s : Shared} {l : Addr} {o : Obj} {k : Str} {t : Tok} {Q : Value → Shared → Prop} (hg : s.heap.get? l = some o) (ho : OwnO o) (h5 : Five k) (h : Q (.bool false) s) :
  wpAny (model prog0 w) A (compareOp .NotIn (.str k t) (.ref l)) Q E s := by
 obtain ⟨c, t1, t2, t3, t4, t5, rfl⟩ := ho
 have hx : ([Str.ofString "d", Str.ofString "c", Str.ofString "x", Str.ofString "y", Str.ofString "z"].any (· == k)) = true := by
  rcases h5 with rfl | rfl | rfl | rfl | rfl <;> decide +kernel
 refine notin_list_strs (vs := [Value.str (Str.ofString "d") t1, .str (Str.ofString "c") t2, .str (Str.ofString "x") t3, .str (Str.ofString "y") t4, .str (Str.ofString "z") t5]) ⟨_, hg, rfl, _, rfl⟩ (by repeat constructor) ?_
 rw [hx]; exact h
theorem noneK {h h' : Heap} {a : Addr} (k : Keeps h h') (n : h'.get? a = none) : h.get? a = none := by
 cases q : h.get? a with
 | none => rfl
 | some o => rw [k _ _ q] at n; cases n
theorem instK {h g : Heap} {x C dx : Addr} {od : Obj} {sl : Array (Option Value)} (k : Keeps h g) (h1 : h.get? x = some ⟨.ref C, some dx, .plain, sl⟩) (h2 : h.get? dx = some od) : InstAt g x ⟨.ref C, some dx, .plain, sl⟩ C (some od) :=
 ⟨k _ _ h1, rfl, rfl, k _ _ h2⟩
theorem said_6 : True := by
 k_with "t" => ((first | exact hq | exact .tail _ (.tail _ (.tail _ (List.mem_append_right _ hq))) | exact .tail _ (.tail _ (.tail _ (.tail _ (List.mem_append_right _ hq))))))
 k_with "u" => (exact instK (keeps_of S2 (by with_reducible assumption) hNs fun q hq => (‹News _ _ _ _› q (by k_extra "t")).1) (by assumption) (by assumption))
 exact True.intro
local macro_rules | `(tactic| k_inst) => `(tactic| k_extra "u")
theorem assign_rec {R RD FD R2 RD2 FD2 RT D : Addr} {es : List DictEntry} {n : Nat} {LD DT LC CT V AL A0 A1 A2 P0 P1 P2 X0 X1 X2 : Addr} {kvs0 kvs2 : List (Str × Value)} {S : List Addr} {P : Heap → Prop}
  (WD : Wd w mg mb hB) (st : hB.StaysIn s.heap) (hdd : dd ≤ 452) (huu : uu ≤ 1600)
  (hT : TypA hB RT D es n) (hK : RecKind hB es LD DT LC CT V AL A0 A1 A2 P0 P1 P2 X0 X1 X2)
  (hA : RecAt w s.heap R RD FD RT kvs0) (hA2 : RecAt w s.heap R2 RD2 FD2 RT kvs2) (hS : ∀ a ∈ S, (∃ o, s.heap.get? a = some o) ∧ hB.get? a = none) (hFD : FD ∉ S)
  (hV2 : ∀ p ∈ kvs2, VOk s.heap p.2) (h5 : ∀ p ∈ kvs0, Five p.1) (hkn : kvs2.length ≤ 50) (lo : (FD == sysModules) = false) (lo2 : (FD2 == sysModules) = false)
  (hin : ∀ (s1 : Shared) (hc : Heap) R' RD' FD' kvs' vals (dd uu : Nat) (gs : Option (List Code)) (fr : Option (List Env)) (Q : Value → Shared → Prop) (E : Value → Shared → Prop), Keeps s.heap hc → Keeps s.heap s1.heap → RecAt w s1.heap R' RD' FD' RT kvs' → All2 (VCp hc vals) kvs2 kvs' →
   (∀ p ∈ vals, s1.heap.get? p.1 = some p.2 ∧ s.heap.get? p.1 = none ∧ @Ne Nat p.1 R' ∧ @Ne Nat p.1 RD' ∧ @Ne Nat p.1 FD') → (∀ a ∈ [R', RD', FD'], s.heap.get? a = none) → dd ≤ 464 → uu ≤ 1700 →
   (∀ h' tk, KeepsOff S s1.heap h' → P h' → Q (.ref R) { s1 with heap := h', toks := tk }) → wpAny (model prog0 w) ⟨none, dd, fr, gs, uu⟩ (call (.ref 175) [.ref R, .ref R']) Q E s1)
  (Pk : ∀ h h', P h → Keeps h h' → P h')
  (hQ : ∀ h' tk, KeepsOff S s.heap h' → P h' → Q .none {s with heap := h', toks := tk}) :
  wpAny (model prog0 w) ⟨none, dd, fr, gs, uu⟩ (call (.ref 447) [.ref R, .ref R2, .bool false]) Q E s := by
 (refine recEl (id hA) fun e1 h1 t1 h2 t2 n2 e2 oF0 e3 hdF0 f1 f2 f3 => ?_)
 (refine recEl (id hA2) fun r1 u1 v1 u2 v2 w2 r2 oF r3 hdF k1 k2 k3 => ?_)
 have hf0 := frO_fst fun a ha => (hS a ha).1
 have hNs : ∀ q ∈ frO s.heap S, s.heap.get? q.1 = some q.2 := fun q hq => (frO_mem hq).2
 refine wpAny_call ?_
 refine' enter0 (news := frO s.heap S) (binds := [(Str.ofString "target", .ref R), (Str.ofString "source", .ref R2), (Str.ofString "is_fixed", .bool false)]) WD st ?hN ?hroom ?ho ?hcd ?hb ?hl ?body ?c1 ?c2 ?c3 ?c4
 k_extra "j"
 case hN => exact fun q hq => ⟨hNs q hq, (hS _ (frO_mem hq).1).2⟩
 case body =>
  intro g L h₁ S1 S2 S3 F' N' KX' T' l1
  have hF0g := S2 _ _ e3 (by rw [hf0]; exact hFD)
  have hTg := hT.keeps S1
  have hKg := hK.keeps S1
  have nS : ∀ a ∈ S, g.get? a = none ∧ a ≠ L := fun a ha => by
   refine xEL (hS a ha).1 fun o ho => ?_
   have := N' _ (frO_in ha ho)
   exact ⟨this.2.2, this.2.1⟩
  clear l1
  dsimp only
  (repeat' (first | k_extra "h" | ((with_reducible show wpAny _ _ (call (.ref 168) _) _ _ _); refine held ?_) | ((with_reducible show wpAny _ _ (call (.ref 407) _) _ _ _); refine held ?_) | ((with_reducible show wpAny _ _ (call (.ref 175) _) _ _ _); refine held ?_) | ((with_reducible show wpAny _ _ (compareOp CmpOp.NotIn (Value.str _ _) (Value.ref _)) _ _ _); refine notinFive ((‹News _ _ _ _› (B, oB) (by k_mem)).1) hoB hk5 ?_) | k_extra "g"))
  unfold Held
  k_extra "a"
  have kC := keeps_of S2 fF hNs fun q hq => (nN q hq).1
  (with_unfolding_all refine' copy_rec WD (stays_of S1 fF) ?hd ?hu (hA2.keeps kC) (fun p hp => (hV2 p hp).keeps kC) hkn lo2 ?_)
  case hd => (dsimp only; first | exact om1 (by assumption) rfl | omega)
  case hu => (dsimp only; first | exact om1 (by assumption) rfl | omega)
  k_whole
  intro R' RD' FD' kvs' vals hx tk' hk' hR' hall hv hnew
  dsimp only at hk' hall hv hnew
  (refine recEl (id hR') fun x1 y1 y2 y3 y4 y5 x2 oF' x3 hdF' z1 z2 z3 => ?_)
  have F' := Fr.keeps fF hk'
  have N' : News g L hx ((R', instObj 152 RD') :: (RD', pairD y1 "type" y2 (.ref RT) y3 "fields" y4 (.ref FD') y5) :: (FD', oF') :: (vals ++ frO s.heap S)) := newsJ fF nN hk' (more := (R', instObj 152 RD') :: (RD', pairD y1 "type" y2 (.ref RT) y3 "fields" y4 (.ref FD') y5) :: (FD', oF') :: vals) (List.forall_mem_cons.mpr ⟨⟨x1, hnew _ (.head _)⟩, List.forall_mem_cons.mpr ⟨⟨x2, hnew _ (.tail _ (.head _))⟩, List.forall_mem_cons.mpr ⟨⟨x3, hnew _ (.tail _ (.tail _ (.head _)))⟩, fun p hp => ⟨(hv p hp).1, (hv p hp).2.1⟩⟩⟩⟩)
  clear fF nN hk' hR' x1 x2 x3
  (repeat' (first | k_extra "h" | ((with_reducible show wpAny _ _ (call (.ref 168) _) _ _ _); refine held ?_) | ((with_reducible show wpAny _ _ (call (.ref 407) _) _ _ _); refine held ?_) | ((with_reducible show wpAny _ _ (call (.ref 175) _) _ _ _); refine held ?_) | ((with_reducible show wpAny _ _ (compareOp CmpOp.NotIn (Value.str _ _) (Value.ref _)) _ _ _); refine notinFive ((‹News _ _ _ _› (B, oB) (by k_mem)).1) hoB hk5 ?_) | k_extra "g"))
  unfold Held
  k_extra "a"
  (with_unfolding_all refine' part_names WD (stays_of S1 fF) ?hd ?hu (hTg.keeps fF.keep) (hKg.keeps fF.keep) ?_)
  case hd => (dsimp only; first | exact om1 (by assumption) rfl | omega)
  case hu => (dsimp only; first | exact om1 (by assumption) rfl | omega)
  k_whole
  intro B c' b1' b2' b3' b4' b5' h' tk' hk' gB nL
  obtain ⟨oB, hoB, gB'⟩ : ∃ oB, OwnO oB ∧ h'.get? B = some oB := ⟨_, ⟨_, _, _, _, _, _, rfl⟩, gB⟩
  have F' := Fr.keeps fF hk'
  have N' := newsJ fF nN hk' (more := [(B, oB)]) (List.forall_mem_cons.mpr ⟨⟨gB', nL⟩, List.forall_mem_nil _⟩)
  rw [List.cons_append, List.nil_append] at N'
  clear fF nN hk' gB nL gB'
  (repeat' (first | k_extra "h" | ((with_reducible show wpAny _ _ (call (.ref 168) _) _ _ _); refine held ?_) | ((with_reducible show wpAny _ _ (call (.ref 407) _) _ _ _); refine held ?_) | ((with_reducible show wpAny _ _ (call (.ref 175) _) _ _ _); refine held ?_) | ((with_reducible show wpAny _ _ (compareOp CmpOp.NotIn (Value.str _ _) (Value.ref _)) _ _ _); refine notinFive ((‹News _ _ _ _› (B, oB) (by k_mem)).1) hoB hk5 ?_) | k_extra "g"))
  rename Fr _ _ _ _ => F2
  rename News _ _ _ _ => N2
  refine iter_dictG (fun i m led => led = (B, oB) :: (R', instObj 152 RD') :: (RD', pairD y1 "type" y2 (.ref RT) y3 "fields" y4 (.ref FD') y5) :: (FD', oF') :: (vals ++ frO s.heap S) ∧ m (Str.ofString "target") = some (.ref R) ∧ m (Str.ofString "fresh") = some (.ref R') ∧ m (Str.ofString "own") = some (.ref B)) rfl lo hF0g hdF0 F2 N2 ⟨rfl, rfl, rfl, rfl⟩ ?turn ?done
  case turn =>
   intro i k y t m₁ led h tk own hky hoff w24 F₁ N₁
   (refine xAAAL w24 fun z61x0 hm1 hm2 hm3 => ?_; try clear w24; subst z61x0)
   rw [map4 hm1 hm2 hm3] at F₁
   have hk5 := h5 _ (List.mem_of_getElem? hky)
   (repeat' (first | k_extra "h" | ((with_reducible show wpAny _ _ (call (.ref 168) _) _ _ _); refine held ?_) | ((with_reducible show wpAny _ _ (call (.ref 407) _) _ _ _); refine held ?_) | ((with_reducible show wpAny _ _ (call (.ref 175) _) _ _ _); refine held ?_) | ((with_reducible show wpAny _ _ (compareOp CmpOp.NotIn (Value.str _ _) (Value.ref _)) _ _ _); refine notinFive ((‹News _ _ _ _› (B, oB) (by k_mem)).1) hoB hk5 ?_) | k_extra "g"))
   all_goals (try dsimp only)
   all_goals (rename Fr _ _ _ _ => F3; rename News _ _ _ _ => N3; exact InvEndG.intro F3 N3 ⟨rfl, rfl, rfl, rfl⟩ hoff (fun p hp => List.mem_append_left own hp) (fun p hp => List.mem_append_right _ hp))
  case done =>
   intro m₁ led h tk w25 F₁ N₁
   (refine xAAAL w25 fun z62x0 hm1 hm2 hm3 => ?_; try clear w25; subst z62x0)
   rw [map3' hm1 hm2 hm3] at F₁
   (repeat' (first | k_extra "h" | ((with_reducible show wpAny _ _ (call (.ref 168) _) _ _ _); refine held ?_) | ((with_reducible show wpAny _ _ (call (.ref 407) _) _ _ _); refine held ?_) | ((with_reducible show wpAny _ _ (call (.ref 175) _) _ _ _); refine held ?_) | ((with_reducible show wpAny _ _ (compareOp CmpOp.NotIn (Value.str _ _) (Value.ref _)) _ _ _); refine notinFive ((‹News _ _ _ _› (B, oB) (by k_mem)).1) hoB hk5 ?_) | k_extra "g"))
   unfold Held
   k_extra "a"
   have kN := keeps_of S2 fF hNs fun q hq => (nN q (.tail _ (.tail _ (.tail _ (.tail _ (List.mem_append_right _ hq)))))).1
   refine' hin _ _ R' RD' FD' kvs' vals _ _ _ _ _ _ kC kN ?r hall ?v (fun a ha => noneK kC (hnew a ha)) ?hd ?hu ?_
   case r => exact (recMk ((nN _ (.tail _ (.head _))).1) ((nN _ (.tail _ (.tail _ (.head _)))).1) ((nN _ (.tail _ (.tail _ (.tail _ (.head _))))).1) hdF' ⟨z1, z2, z3⟩)
   case v => exact fun p hp => ⟨(nN p (.tail _ (.tail _ (.tail _ (.tail _ (List.mem_append_left _ hp)))))).1, noneK kC (hv p hp).2.1, (hv p hp).2.2⟩
   case hd => (dsimp only; first | exact om1 (by assumption) rfl | omega)
   case hu => (dsimp only; first | exact om1 (by assumption) rfl | omega)
   k_whole
   intro hK tk' kp hP
   have F' := frButS fF kp nS
   have N' : News g L hK [] := List.forall_mem_nil _
   clear fF nN
   (repeat' (first | k_extra "h" | ((with_reducible show wpAny _ _ (call (.ref 168) _) _ _ _); refine held ?_) | ((with_reducible show wpAny _ _ (call (.ref 407) _) _ _ _); refine held ?_) | ((with_reducible show wpAny _ _ (call (.ref 175) _) _ _ _); refine held ?_) | ((with_reducible show wpAny _ _ (compareOp CmpOp.NotIn (Value.str _ _) (Value.ref _)) _ _ _); refine notinFive ((‹News _ _ _ _› (B, oB) (by k_mem)).1) hoB hk5 ?_) | k_extra "g"))
   all_goals (try dsimp only)
   rename Fr _ _ _ _ => F9
   exact hQ _ _ (fun b o nb e => F9.keep b o (S2 b o e (by rw [hf0]; exact nb))) (Pk _ _ hP fun _ _ e => e)
end
section
section
variable {w : World} {A : Around} {E : Value → Shared → Prop} {s : Shared} {d : Addr} {kvs : List (Str × Value)} {x : Str} {t : Tok} {b : Bool}
theorem notInD {Q : Value → Shared → Prop} (hD : s.heap.DictOf (PySem.strKind prog0 w) d kvs) (lo : (d == sysModules) = false) (hb : (valueAt kvs x).isSome = b) (h : Q (.bool (!b)) { s with toks := s.toks + 1 }) :
  wpAny (model prog0 w) A (compareOp .NotIn (.str x t) (.ref d)) Q E s := by
 subst hb
 exact wpAny_notIn_of (strKind_is _ _ _ _) lo hD.mapOf h
theorem notInY {v : Value} {Q : Value → Shared → Prop} (hD : s.heap.DictOf (PySem.strKind prog0 w) d kvs) (lo : (d == sysModules) = false) (hv : valueAt kvs x = some v) (h : Q (.bool false) { s with toks := s.toks + 1 }) :
  wpAny (model prog0 w) A (compareOp .NotIn (.str x t) (.ref d)) Q E s := notInD hD lo (b := true) (by rw [hv]; rfl) h
theorem notInN {Q : Value → Shared → Prop} (hD : s.heap.DictOf (PySem.strKind prog0 w) d kvs) (lo : (d == sysModules) = false) (hv : valueAt kvs x = none) (h : Q (.bool true) { s with toks := s.toks + 1 }) :
  wpAny (model prog0 w) A (compareOp .NotIn (.str x t) (.ref d)) Q E s := notInD hD lo (b := false) (by rw [hv]; rfl) h
end
end
theorem turn_GC15 {w : World} {A : Around} {Q : Flow → Shared → Prop} {E : Value → Shared → Prop} {s : Shared} {env : Env} {p : Pos} (h : wpAny (model prog0 w) A (exec (.Pass p) env) Q E s) : wpAny (model prog0 w) A (exec (.Pass p) env) Q E s := by
 first | (walk1; fail "on") | exact h
section
theorem said_7 : True := by
 k_with "v" => (((refine' notInY ?D ?l ?v ?_); (case D => exact dB (by assumption) hFg hdF); (case l => assumption); (case v => exact hval); k_whole))
 exact True.intro
local macro_rules | `(tactic| walk_at "compareOp NotIn str ref") => `(tactic| k_extra "v")
section
variable {w : World} {mg mb : Str → Option Value} {hB : Heap} {s : Shared} {dd uu : Nat} {gs : Option (List Code)} {fr : Option (List Env)} {Q : Value → Shared → Prop} {E : Value → Shared → Prop}
theorem fields_with {R RD FD RT : Addr} {kvs : List (Str × Value)} {name : Str} {tn : Tok} {v : Value}
  (WD : Wd w mg mb hB) (st : hB.StaysIn s.heap) (hdd : dd ≤ 500) (huu : uu ≤ 2000)
  (hA : RecAt w s.heap R RD FD RT kvs) (lo : (FD == sysModules) = false) (hval : valueAt kvs name = some v)
  (hQ : ∀ h' tk, Keeps s.heap h' → Q (.ref FD) {s with heap := h', toks := tk}) :
  wpAny (model prog0 w) ⟨none, dd, fr, gs, uu⟩ (call (.ref 194) [.ref R, .str name tn]) Q E s := by
 refine wpAny_call ?_
 refine' enter0 (news := []) (binds := [(Str.ofString "record", .ref R), (Str.ofString "name", .str name tn)]) WD st ?hN ?hroom ?ho ?hcd ?hb ?hl ?body ?c1 ?c2 ?c3 ?c4
 k_extra "j"
 case hN => exact List.forall_mem_nil _
 case body =>
  intro g L h₁ S1 S2 S3 F' N' KX' T' l1
  try simp only [AllLt, and_true] at l1
  (refine recEl (id hA) fun e1 h1 t1 h2 t2 n2 e2 oF0 e3 hdF f1 f2 f3 => ?_)
  have qa := S2 _ _ e1 nNil
  have qb := S2 _ _ e2 nNil
  have hFg := S2 _ _ e3 nNil
  have hAg : RecAt w g R RD FD RT kvs := (recMk qa qb hFg hdF ⟨f1, f2, f3⟩)
  dsimp only
  (repeat' (first | k_extra "h" | ((with_reducible show wpAny _ _ (subscriptTail _ _ (Value.ref _) (Value.str _ _)) _ _ _); (refine' itemD ?D ?v ?_); (case D => exact dB (by assumption) hFg hdF); (case v => exact hval); k_whole) | k_extra "g"))
  all_goals (try dsimp only)
  all_goals (rename Fr _ _ _ _ => FF; exact hQ _ _ fun b o e => FF.keep b o (S2 b o e nNil))
theorem read_field {P R RD FD RT : Addr} {kvs : List (Str × Value)} {name : Str} {tw tn : Tok} {v : Value}
  (WD : Wd w mg mb hB) (st : hB.StaysIn s.heap) (hdd : dd ≤ 488) (huu : uu ≤ 1900)
  (hP : IsTup s.heap P #[Value.str (Str.ofString "field") tw, .ref R, .str name tn]) (hA : RecAt w s.heap R RD FD RT kvs) (lo : (FD == sysModules) = false) (hval : valueAt kvs name = some v)
  (hQ : ∀ h' tk, Keeps s.heap h' → Q (v) {s with heap := h', toks := tk}) :
  wpAny (model prog0 w) ⟨none, dd, fr, gs, uu⟩ (call (.ref 199) [.ref P]) Q E s := by
 refine wpAny_call ?_
 refine' enter0 (news := []) (binds := [(Str.ofString "place", .ref P)]) WD st ?hN ?hroom ?ho ?hcd ?hb ?hl ?body ?c1 ?c2 ?c3 ?c4
 k_extra "j"
 case hN => exact List.forall_mem_nil _
 case body =>
  intro g L h₁ S1 S2 S3 F' N' KX' T' l1
  try simp only [AllLt, and_true] at l1
  (refine recEl (id hA) fun e1 h1 t1 h2 t2 n2 e2 oF0 e3 hdF f1 f2 f3 => ?_)
  have qa := S2 _ _ e1 nNil
  have qb := S2 _ _ e2 nNil
  have hFg := S2 _ _ e3 nNil
  have hAg : RecAt w g R RD FD RT kvs := (recMk qa qb hFg hdF ⟨f1, f2, f3⟩)
  have hPg : IsTup g P [Value.str (Str.ofString "field") tw, .ref R, .str name tn].toArray := hP.keeps (fun b o e => S2 b o e nNil)
  dsimp only
  (repeat' (first | k_extra "h" | ((with_reducible show wpAny _ _ (call (.ref 194) [Value.ref _, Value.str _ _]) _ _ _); (with_unfolding_all refine' fields_with ?W ?st ?hd ?hu ?ha ?lo ?hv ?_); k_extra "i"; (case ha => exact hAg.keeps (Fr.keep (by assumption))); (case lo => assumption); (case hv => exact hval); k_whole; intro h' tk' hk'; k_extra "a"; (have F' := Fr.keeps fF hk'); (have N' := newsK nN hk'); clear hk'; k_sweep) | ((with_reducible show wpAny _ _ (subscriptTail _ _ (Value.ref _) (Value.str _ _)) _ _ _); (refine' itemD ?D ?v ?_); (case D => exact dB (by assumption) hFg hdF); (case v => exact hval); k_whole) | k_extra "g"))
  all_goals (try dsimp only)
  all_goals (rename Fr _ _ _ _ => FF; exact hQ _ _ fun b o e => FF.keep b o (S2 b o e nNil))
end
section
variable {w : World} {mg mb : Str → Option Value} {hB : Heap} {s : Shared} {dd uu : Nat} {gs : Option (List Code)} {fr : Option (List Env)} {Q : Value → Shared → Prop} {E : Value → Shared → Prop}
def cellD (h1 : Int) (t1 : Tok) (v : Value) (h2 : Int) (t2 : Tok) (v2 : Value) (h3 : Int) (t3 : Tok) (v3 : Value) (n : Nat) : Obj := dictOf [⟨h1, .str (Str.ofString "value") t1, v⟩, ⟨h2, .str (Str.ofString "number") t2, v2⟩, ⟨h3, .str (Str.ofString "subtype") t3, v3⟩] n
structure CellAt (h : Heap) (C CD : Addr) (R : Addr) : Prop where
 o1 : h.get? C = some (instObj 110 CD)
 o2 : ∃ h1 t1 h2 t2 v2 h3 t3 v3 n, h.get? CD = some (cellD h1 t1 (.ref R) h2 t2 v2 h3 t3 v3 n)
theorem read_cell {P C CD R : Addr} {tw : Tok}
  (WD : Wd w mg mb hB) (st : hB.StaysIn s.heap) (hdd : dd ≤ 488) (huu : uu ≤ 1900)
  (hP : IsTup s.heap P #[Value.str (Str.ofString "cell") tw, .ref C]) (hC : CellAt s.heap C CD R)
  (hQ : ∀ h' tk, Keeps s.heap h' → Q (.ref R) {s with heap := h', toks := tk}) :
  wpAny (model prog0 w) ⟨none, dd, fr, gs, uu⟩ (call (.ref 199) [.ref P]) Q E s := by
 refine wpAny_call ?_
 refine' enter0 (news := []) (binds := [(Str.ofString "place", .ref P)]) WD st ?hN ?hroom ?ho ?hcd ?hb ?hl ?body ?c1 ?c2 ?c3 ?c4
 k_extra "j"
 case hN => exact List.forall_mem_nil _
 case body =>
  intro g L h₁ S1 S2 S3 F' N' KX' T' l1
  try simp only [AllLt, and_true] at l1
  have qa := S2 _ _ hC.o1 nNil
  refine xEEEEEEEEEL (hC.o2) fun h1 t1 h2 t2 v2 h3 t3 v3 n e2 => ?_
  have qb := S2 _ _ e2 nNil
  have hPg : IsTup g P [Value.str (Str.ofString "cell") tw, .ref C].toArray := hP.keeps (fun b o e => S2 b o e nNil)
  dsimp only
  (repeat' (first | k_extra "h" | k_extra "g"))
  all_goals (try dsimp only)
  all_goals (rename Fr _ _ _ _ => FF; exact hQ _ _ fun b o e => FF.keep b o (S2 b o e nNil))
theorem need_int {v : Int} {tv : Tok}
  (WD : Wd w mg mb hB) (st : hB.StaysIn s.heap) (hdd : dd ≤ 488) (huu : uu ≤ 1900)
  (hQ : ∀ h' tk, Keeps s.heap h' → Q (.int v tv) {s with heap := h', toks := tk}) :
  wpAny (model prog0 w) ⟨none, dd, fr, gs, uu⟩ (call (.ref 163) [.int v tv]) Q E s := by
 refine wpAny_call ?_
 refine' enter0 (news := []) (binds := [(Str.ofString "value", .int v tv)]) WD st ?hN ?hroom ?ho ?hcd ?hb ?hl ?body ?c1 ?c2 ?c3 ?c4
 k_extra "j"
 case hN => exact List.forall_mem_nil _
 case body =>
  intro g L h₁ S1 S2 S3 F' N' KX' T' l1
  try simp only [AllLt, and_true] at l1
  dsimp only
  (repeat' (first | k_extra "h" | k_extra "g"))
  all_goals (try dsimp only)
  all_goals (rename Fr _ _ _ _ => FF; exact hQ _ _ fun b o e => FF.keep b o (S2 b o e nNil))
theorem need_arr {Y YD : Addr}
  (WD : Wd w mg mb hB) (st : hB.StaysIn s.heap) (hdd : dd ≤ 488) (huu : uu ≤ 1900)
  (h1 : s.heap.get? Y = some (instObj 131 YD)) (h2 : ∃ o, s.heap.get? YD = some o)
  (hQ : ∀ h' tk, Keeps s.heap h' → Q (.ref Y) {s with heap := h', toks := tk}) :
  wpAny (model prog0 w) ⟨none, dd, fr, gs, uu⟩ (call (.ref 163) [.ref Y]) Q E s := by
 refine wpAny_call ?_
 refine' enter0 (news := []) (binds := [(Str.ofString "value", .ref Y)]) WD st ?hN ?hroom ?ho ?hcd ?hb ?hl ?body ?c1 ?c2 ?c3 ?c4
 k_extra "j"
 case hN => exact List.forall_mem_nil _
 case body =>
  intro g L h₁ S1 S2 S3 F' N' KX' T' l1
  try simp only [AllLt, and_true] at l1
  have qa := S2 _ _ h1 nNil
  (refine xEL h2 fun oD h2 => ?_)
  have qb := S2 _ _ h2 nNil
  dsimp only
  (repeat' (first | k_extra "h" | k_extra "g"))
  all_goals (try dsimp only)
  all_goals (rename Fr _ _ _ _ => FF; exact hQ _ _ fun b o e => FF.keep b o (S2 b o e nNil))
end
section
variable {w : World} {mg mb : Str → Option Value} {hB : Heap} {s : Shared} {dd uu : Nat} {gs : Option (List Code)} {fr : Option (List Env)} {Q : Value → Shared → Prop} {E : Value → Shared → Prop}
theorem readc_int {P R RD FD RT : Addr} {kvs : List (Str × Value)} {name : Str} {tw tn : Tok} {v : Int} {tv : Tok}
  (WD : Wd w mg mb hB) (st : hB.StaysIn s.heap) (hdd : dd ≤ 476) (huu : uu ≤ 1800)
  (hP : IsTup s.heap P #[Value.str (Str.ofString "field") tw, .ref R, .str name tn]) (hA : RecAt w s.heap R RD FD RT kvs) (lo : (FD == sysModules) = false) (hval : valueAt kvs name = some (.int v tv))
  (hQ : ∀ h' tk, Keeps s.heap h' → Q (.int v tv) {s with heap := h', toks := tk}) :
  wpAny (model prog0 w) ⟨none, dd, fr, gs, uu⟩ (call (.ref 634) [.ref P]) Q E s := by
 refine wpAny_call ?_
 refine' enter0 (news := []) (binds := [(Str.ofString "place", .ref P)]) WD st ?hN ?hroom ?ho ?hcd ?hb ?hl ?body ?c1 ?c2 ?c3 ?c4
 k_extra "j"
 case hN => exact List.forall_mem_nil _
 case body =>
  intro g L h₁ S1 S2 S3 F' N' KX' T' l1
  try simp only [AllLt, and_true] at l1
  (refine recEl (id hA) fun e1 h1 t1 h2 t2 n2 e2 oF0 e3 hdF f1 f2 f3 => ?_)
  have qa := S2 _ _ e1 nNil
  have qb := S2 _ _ e2 nNil
  have hFg := S2 _ _ e3 nNil
  have hAg : RecAt w g R RD FD RT kvs := (recMk qa qb hFg hdF ⟨f1, f2, f3⟩)
  have hPg : IsTup g P [Value.str (Str.ofString "field") tw, .ref R, .str name tn].toArray := hP.keeps (fun b o e => S2 b o e nNil)
  dsimp only
  (repeat' (first | k_extra "h" | ((with_reducible show wpAny _ _ (call (.ref 163) [Value.ref _]) _ _ _); (with_unfolding_all refine' need_arr ?W ?st ?hd ?hu ?e1 ?e2 ?_); k_extra "i"; (case e1 => exact Fr.keep (by assumption) _ _ y1); (case e2 => exact ⟨_, Fr.keep (by assumption) _ _ y2⟩); k_whole; intro h' tk' hk'; k_extra "a"; (have F' := Fr.keeps fF hk'); (have N' := newsK nN hk'); clear hk'; k_sweep) | ((with_reducible show wpAny _ _ (call (.ref 163) [Value.int _ _]) _ _ _); (with_unfolding_all refine' need_int ?W ?st ?hd ?hu ?_); k_extra "i"; k_whole; intro h' tk' hk'; k_extra "a"; (have F' := Fr.keeps fF hk'); (have N' := newsK nN hk'); clear hk'; k_sweep) | ((with_reducible show wpAny _ _ (call (.ref 199) [Value.ref _]) _ _ _); (with_unfolding_all refine' read_field ?W ?st ?hd ?hu ?hp ?ha ?lo ?hv ?_); k_extra "i"; (case hp => exact hPg.keeps (Fr.keep (by assumption))); (case ha => exact hAg.keeps (Fr.keep (by assumption))); (case lo => assumption); (case hv => exact hval); k_whole; intro h' tk' hk'; k_extra "a"; (have F' := Fr.keeps fF hk'); (have N' := newsK nN hk'); clear hk'; k_sweep) | k_extra "g"))
  all_goals (try dsimp only)
  all_goals (rename Fr _ _ _ _ => FF; exact hQ _ _ fun b o e => FF.keep b o (S2 b o e nNil))
theorem readc_arr {P R RD FD RT Y YD YB YI tp : Addr} {kvs : List (Str × Value)} {name : Str} {tw tn : Tok} {p q : Int}
  (WD : Wd w mg mb hB) (st : hB.StaysIn s.heap) (hdd : dd ≤ 476) (huu : uu ≤ 1800)
  (hP : IsTup s.heap P #[Value.str (Str.ofString "field") tw, .ref R, .str name tn]) (hA : RecAt w s.heap R RD FD RT kvs) (lo : (FD == sysModules) = false) (hval : valueAt kvs name = some (.ref Y)) (hY : ArrAt s.heap Y YD YB YI tp p q)
  (hQ : ∀ h' tk, Keeps s.heap h' → Q (.ref Y) {s with heap := h', toks := tk}) :
  wpAny (model prog0 w) ⟨none, dd, fr, gs, uu⟩ (call (.ref 634) [.ref P]) Q E s := by
 refine wpAny_call ?_
 refine' enter0 (news := []) (binds := [(Str.ofString "place", .ref P)]) WD st ?hN ?hroom ?ho ?hcd ?hb ?hl ?body ?c1 ?c2 ?c3 ?c4
 k_extra "j"
 case hN => exact List.forall_mem_nil _
 case body =>
  intro g L h₁ S1 S2 S3 F' N' KX' T' l1
  try simp only [AllLt, and_true] at l1
  (refine recEl (id hA) fun e1 h1 t1 h2 t2 n2 e2 oF0 e3 hdF f1 f2 f3 => ?_)
  have qa := S2 _ _ e1 nNil
  have qb := S2 _ _ e2 nNil
  have hFg := S2 _ _ e3 nNil
  have hAg : RecAt w g R RD FD RT kvs := (recMk qa qb hFg hdF ⟨f1, f2, f3⟩)
  have hPg : IsTup g P [Value.str (Str.ofString "field") tw, .ref R, .str name tn].toArray := hP.keeps (fun b o e => S2 b o e nNil)
  have y1 := S2 _ _ hY.o1 nNil
  refine xEEEEEL (hY.o2) fun _ _ _ _ _ y2 => ?_
  have y2 := S2 _ _ y2 nNil
  dsimp only
  (repeat' (first | k_extra "h" | ((with_reducible show wpAny _ _ (call (.ref 163) [Value.ref _]) _ _ _); (with_unfolding_all refine' need_arr ?W ?st ?hd ?hu ?e1 ?e2 ?_); k_extra "i"; (case e1 => exact Fr.keep (by assumption) _ _ y1); (case e2 => exact ⟨_, Fr.keep (by assumption) _ _ y2⟩); k_whole; intro h' tk' hk'; k_extra "a"; (have F' := Fr.keeps fF hk'); (have N' := newsK nN hk'); clear hk'; k_sweep) | ((with_reducible show wpAny _ _ (call (.ref 163) [Value.int _ _]) _ _ _); (with_unfolding_all refine' need_int ?W ?st ?hd ?hu ?_); k_extra "i"; k_whole; intro h' tk' hk'; k_extra "a"; (have F' := Fr.keeps fF hk'); (have N' := newsK nN hk'); clear hk'; k_sweep) | ((with_reducible show wpAny _ _ (call (.ref 199) [Value.ref _]) _ _ _); (with_unfolding_all refine' read_field ?W ?st ?hd ?hu ?hp ?ha ?lo ?hv ?_); k_extra "i"; (case hp => exact hPg.keeps (Fr.keep (by assumption))); (case ha => exact hAg.keeps (Fr.keep (by assumption))); (case lo => assumption); (case hv => exact hval); k_whole; intro h' tk' hk'; k_extra "a"; (have F' := Fr.keeps fF hk'); (have N' := newsK nN hk'); clear hk'; k_sweep) | k_extra "g"))
  all_goals (try dsimp only)
  all_goals (rename Fr _ _ _ _ => FF; exact hQ _ _ fun b o e => FF.keep b o (S2 b o e nNil))
theorem check_field {R RD FD RT : Addr} {kvs : List (Str × Value)} {name : Str} {tn : Tok} {v : Value}
  (WD : Wd w mg mb hB) (st : hB.StaysIn s.heap) (hdd : dd ≤ 500) (huu : uu ≤ 2000)
  (hA : RecAt w s.heap R RD FD RT kvs) (lo : (FD == sysModules) = false) (hval : valueAt kvs name = some v)
  (hQ : ∀ h' tk, Keeps s.heap h' → Q (.none) {s with heap := h', toks := tk}) :
  wpAny (model prog0 w) ⟨none, dd, fr, gs, uu⟩ (call (.ref 421) [.ref R, .str name tn]) Q E s := by
 refine wpAny_call ?_
 refine' enter0 (news := []) (binds := [(Str.ofString "value", .ref R), (Str.ofString "name", .str name tn)]) WD st ?hN ?hroom ?ho ?hcd ?hb ?hl ?body ?c1 ?c2 ?c3 ?c4
 k_extra "j"
 case hN => exact List.forall_mem_nil _
 case body =>
  intro g L h₁ S1 S2 S3 F' N' KX' T' l1
  try simp only [AllLt, and_true] at l1
  (refine recEl (id hA) fun e1 h1 t1 h2 t2 n2 e2 oF0 e3 hdF f1 f2 f3 => ?_)
  have qa := S2 _ _ e1 nNil
  have qb := S2 _ _ e2 nNil
  have hFg := S2 _ _ e3 nNil
  have hAg : RecAt w g R RD FD RT kvs := (recMk qa qb hFg hdF ⟨f1, f2, f3⟩)
  dsimp only
  (repeat' (first | k_extra "h" | ((with_reducible show wpAny _ _ (call (.ref 163) [Value.ref _]) _ _ _); (with_unfolding_all refine' need_arr ?W ?st ?hd ?hu ?e1 ?e2 ?_); k_extra "i"; (case e1 => exact Fr.keep (by assumption) _ _ y1); (case e2 => exact ⟨_, Fr.keep (by assumption) _ _ y2⟩); k_whole; intro h' tk' hk'; k_extra "a"; (have F' := Fr.keeps fF hk'); (have N' := newsK nN hk'); clear hk'; k_sweep) | ((with_reducible show wpAny _ _ (call (.ref 163) [Value.int _ _]) _ _ _); (with_unfolding_all refine' need_int ?W ?st ?hd ?hu ?_); k_extra "i"; k_whole; intro h' tk' hk'; k_extra "a"; (have F' := Fr.keeps fF hk'); (have N' := newsK nN hk'); clear hk'; k_sweep) | ((with_reducible show wpAny _ _ (call (.ref 199) [Value.ref _]) _ _ _); (with_unfolding_all refine' read_field ?W ?st ?hd ?hu ?hp ?ha ?lo ?hv ?_); k_extra "i"; (case hp => exact hPg.keeps (Fr.keep (by assumption))); (case ha => exact hAg.keeps (Fr.keep (by assumption))); (case lo => assumption); (case hv => exact hval); k_whole; intro h' tk' hk'; k_extra "a"; (have F' := Fr.keeps fF hk'); (have N' := newsK nN hk'); clear hk'; k_sweep) | k_extra "g"))
  all_goals (try dsimp only)
  all_goals (rename Fr _ _ _ _ => FF; exact hQ _ _ fun b o e => FF.keep b o (S2 b o e nNil))
theorem field_place {R RD FD RT : Addr} {kvs : List (Str × Value)} {name : Str} {tn : Tok} {v : Value}
  (WD : Wd w mg mb hB) (st : hB.StaysIn s.heap) (hdd : dd ≤ 488) (huu : uu ≤ 1900)
  (hA : RecAt w s.heap R RD FD RT kvs) (lo : (FD == sysModules) = false) (hval : valueAt kvs name = some v)
  (hQ : ∀ P tw h' tk, Keeps s.heap h' → IsTup h' P #[Value.str (Str.ofString "field") tw, .ref R, .str name tn] → s.heap.get? P = none → Q (.ref P) {s with heap := h', toks := tk}) :
  wpAny (model prog0 w) ⟨none, dd, fr, gs, uu⟩ (call (.ref 428) [.ref R, .str name tn]) Q E s := by
 refine wpAny_call ?_
 refine' enter0 (news := []) (binds := [(Str.ofString "value", .ref R), (Str.ofString "name", .str name tn)]) WD st ?hN ?hroom ?ho ?hcd ?hb ?hl ?body ?c1 ?c2 ?c3 ?c4
 k_extra "j"
 case hN => exact List.forall_mem_nil _
 case body =>
  intro g L h₁ S1 S2 S3 F' N' KX' T' l1
  try simp only [AllLt, and_true] at l1
  (refine recEl (id hA) fun e1 h1 t1 h2 t2 n2 e2 oF0 e3 hdF f1 f2 f3 => ?_)
  have qa := S2 _ _ e1 nNil
  have qb := S2 _ _ e2 nNil
  have hFg := S2 _ _ e3 nNil
  have hAg : RecAt w g R RD FD RT kvs := (recMk qa qb hFg hdF ⟨f1, f2, f3⟩)
  dsimp only
  (repeat' (first | k_extra "h" | ((with_reducible show wpAny _ _ (call (.ref 421) [Value.ref _, Value.str _ _]) _ _ _); (with_unfolding_all refine' check_field ?W ?st ?hd ?hu ?ha ?lo ?hv ?_); k_extra "i"; (case ha => exact hAg.keeps (Fr.keep (by assumption))); (case lo => assumption); (case hv => exact hval); k_whole; intro h' tk' hk'; k_extra "a"; (have F' := Fr.keeps fF hk'); (have N' := newsK nN hk'); clear hk'; k_sweep) | ((with_reducible show wpAny _ _ (call (.ref 163) [Value.ref _]) _ _ _); (with_unfolding_all refine' need_arr ?W ?st ?hd ?hu ?e1 ?e2 ?_); k_extra "i"; (case e1 => exact Fr.keep (by assumption) _ _ y1); (case e2 => exact ⟨_, Fr.keep (by assumption) _ _ y2⟩); k_whole; intro h' tk' hk'; k_extra "a"; (have F' := Fr.keeps fF hk'); (have N' := newsK nN hk'); clear hk'; k_sweep) | ((with_reducible show wpAny _ _ (call (.ref 163) [Value.int _ _]) _ _ _); (with_unfolding_all refine' need_int ?W ?st ?hd ?hu ?_); k_extra "i"; k_whole; intro h' tk' hk'; k_extra "a"; (have F' := Fr.keeps fF hk'); (have N' := newsK nN hk'); clear hk'; k_sweep) | ((with_reducible show wpAny _ _ (call (.ref 199) [Value.ref _]) _ _ _); (with_unfolding_all refine' read_field ?W ?st ?hd ?hu ?hp ?ha ?lo ?hv ?_); k_extra "i"; (case hp => exact hPg.keeps (Fr.keep (by assumption))); (case ha => exact hAg.keeps (Fr.keep (by assumption))); (case lo => assumption); (case hv => exact hval); k_whole; intro h' tk' hk'; k_extra "a"; (have F' := Fr.keeps fF hk'); (have N' := newsK nN hk'); clear hk'; k_sweep) | k_extra "g"))
  all_goals (try dsimp only)
  all_goals (rename Fr _ _ _ _ => FF; rename News _ _ _ _ => NN; refine' hQ _ _ _ _ ?k1 ?k2 ?k3; (case k2 => exact NN.isTup (by k_mem)); (case k1 => exact (fun b o e => FF.keep b o (S2 b o e nNil))); (case k3 => exact new_of S2 NN (by k_mem) nNil))
end
end
section
section
variable {M : Model} {A : Around} {E : Value → Shared → Prop} {s : Shared} {K : Frag} {h₀ : Heap} {L : Addr} {m mg mb : Str → Option Value} {p : Program} {loose : List Str} {x : Str} {pos : Pos} {v : Value} {Q : Value → Shared → Prop} {env : Env}
theorem nameC_B (F : Fr h₀ L s.heap m) (X : K.In h₀) (T : TopRead p loose mg mb h₀) (e : nsIn K mainGlobals x = some none) (hv : bootBuiltins x = some v) (hn : x ≠ "__name__") (h : Q v s)
  (hg : env.globals = mainGlobals) (hb : env.builtins = builtinsNs) (hk : env.scope.kind = .function) (hx : env.kindOf x = some .globalImplicit) (hd : (x == ("__debug__" : Str)) = false) :
  wpAny M A (eval (.Name x pos) env) Q E s :=
 Name_function_global hk hx (loadGlobal_builtin (env := env) (by rw [hg]; exact T.g.keeps F.keep) (mg_none_of X T.g e) (by rw [hb]; exact T.b.keeps F.keep) ((T.builtins x hn).trans hv) h) hd
end
end
theorem turn_GC18 {w : World} {A : Around} {Q : Flow → Shared → Prop} {E : Value → Shared → Prop} {s : Shared} {env : Env} {p : Pos} (h : wpAny (model prog0 w) A (exec (.Pass p) env) Q E s) : wpAny (model prog0 w) A (exec (.Pass p) env) Q E s := by
 first | (walk1; fail "on") | exact h
section
theorem said_8 : True := by
 k_with "w" => (((with_reducible show wpAny _ _ (eval (Expr.Name _ _) (compEnvC _ _ _ _)) _ _ _); k_dflt (refine nameC_B (by k_asm) (by k_asm) (by assumption) (by k_is) (by rfl) (by decide) ?_ (by rfl) (by rfl) (by rfl) (by rfl) (by decide); k_whole)))
 exact True.intro
local macro_rules | `(tactic| walk_at "eval Name") => `(tactic| k_extra "w")
section
variable {w : World} {mg mb : Str → Option Value} {hB : Heap} {s : Shared} {dd uu : Nat} {gs : Option (List Code)} {fr : Option (List Env)} {Q : Value → Shared → Prop} {E : Value → Shared → Prop}
theorem dim_length {ta tb : Tok}
  (WD : Wd w mg mb hB) (st : hB.StaysIn s.heap) (hdd : dd ≤ 500) (huu : uu ≤ 2000)
  (hQ : ∀ t h' tk, Keeps s.heap h' → Q (.int 2 t) {s with heap := h', toks := tk}) :
  wpAny (model prog0 w) ⟨none, dd, fr, gs, uu⟩ (call (.ref 218) [.int 1 ta, .int 2 tb]) Q E s := by
 refine wpAny_call ?_
 refine' enter0 (news := []) (binds := [(Str.ofString "low", .int 1 ta), (Str.ofString "high", .int 2 tb)]) WD st ?hN ?hroom ?ho ?hcd ?hb ?hl ?body ?c1 ?c2 ?c3 ?c4
 k_extra "j"
 case hN => exact List.forall_mem_nil _
 case body =>
  intro g L h₁ S1 S2 S3 F' N' KX' T' l1
  try simp only [AllLt, and_true] at l1
  dsimp only
  (repeat' (first | k_extra "h" | k_extra "g"))
  all_goals (try dsimp only)
  have h2 : (if (0 : Int) > 2 - 1 + 1 then (0 : Int) else 2 - 1 + 1) = 2 := by decide
  rw [h2]
  rename Fr _ _ _ _ => FF
  exact hQ _ _ _ fun b o e => FF.keep b o (S2 b o e nNil)
theorem lengths_of {Y YD YB YI tp : Addr} {p q : Int} {ta tb : Tok}
  (WD : Wd w mg mb hB) (st : hB.StaysIn s.heap) (hdd : dd ≤ 500) (huu : uu ≤ 2000)
  (hY : ArrAt s.heap Y YD YB YI tp p q) (hT : IsTup s.heap tp #[Value.int 1 ta, .int 2 tb]) (hBt : hB.get? tp = none)
  (hQ : ∀ B t h' tk, Keeps s.heap h' → h'.get? B = some (LCg.lst [Value.int 2 t]) → s.heap.get? B = none → Q (.ref B) {s with heap := h', toks := tk}) :
  wpAny (model prog0 w) ⟨none, dd, fr, gs, uu⟩ (call (.ref 180) [.ref Y]) Q E s := by
 refine xEEEEEL (hY.o2) fun o1 o2 o3 o4 o5 y2 => ?_
 refine xEL (hY.o3) fun o6 y3 => ?_
 refine tupEl hT fun dT nT sT hTo => ?_
 refine wpAny_call ?_
 refine' enter0 (news := [(tp, { cls := .type "tuple", dict := dT, data := .seq #[Value.int 1 ta, .int 2 tb] nT, slots := sT })]) (binds := [(Str.ofString "value", .ref Y)]) WD st ?hN ?hroom ?ho ?hcd ?hb ?hl ?body ?c1 ?c2 ?c3 ?c4
 k_extra "j"
 case hN => exact List.forall_mem_cons.mpr ⟨⟨hTo, hBt⟩, List.forall_mem_nil _⟩
 case body =>
  intro g L h₁ S1 S2 S3 F' N' KX' T' l1
  try simp only [AllLt, and_true] at l1
  have ntY : Y ≠ tp := fun q => by have := hY.o1; rw [q, hTo] at this; cases this
  have ntD : YD ≠ tp := fun q => by rw [q, hTo] at y2; have := congrArg (fun o => o.map (·.cls)) y2; simp [dictOf] at this
  have ntB : YB ≠ tp := fun q => by rw [q, hTo] at y3; have := congrArg (fun o => o.map (·.cls)) y3; simp [PySem.W.listOf] at this
  have qa := S2 _ _ hY.o1 (nm1 ntY)
  have qb := S2 _ _ y2 (nm1 ntD)
  have qc := S2 _ _ y3 (nm1 ntB)
  have qL : g.IsList YB [Value.ref tp].toArray := ⟨_, qc, rfl, _, rfl⟩
  dsimp only
  (repeat' (first | k_extra "h" | k_extra "g"))
  all_goals (try dsimp only)
  have h2 : (if (0 : Int) > 2 - 1 + 1 then (0 : Int) else 2 - 1 + 1) = 2 := by decide
  rename Fr _ _ _ _ => FF
  rename News _ _ _ _ => NN
  refine' hQ _ _ _ _ ?k1 ?k2 ?k3
  case k2 => (have q := (NN (_, _) (.head _)).1; rw [h2] at q; exact q)
  case k1 => exact keeps_of S2 FF (List.forall_mem_cons.mpr ⟨hTo, List.forall_mem_nil _⟩) (List.forall_mem_cons.mpr ⟨(NN (tp, _) (by k_mem)).1, List.forall_mem_nil _⟩)
  case k3 => exact new_of S2 NN (by k_mem) (by simp only [List.map_cons, List.map_nil, List.mem_cons, List.not_mem_nil, or_false]; intro q; have := (NN (tp, _) (by k_mem)).1; have r := (NN (_, _) (.head _)).1; rw [q, this] at r; have := congrArg (fun o => o.map (·.cls)) r; simp [LCg.lst, PySem.W.listOf] at this)
end
section
variable {w : World} {mg mb : Str → Option Value} {hB : Heap} {s : Shared} {dd uu : Nat} {gs : Option (List Code)} {fr : Option (List Env)} {Q : Value → Shared → Prop} {E : Value → Shared → Prop}
theorem check_lengths {Y YD YB YI tp B tp2 : Addr} {p q : Int} {ta tb tc td : Tok}
  (WD : Wd w mg mb hB) (st : hB.StaysIn s.heap) (hdd : dd ≤ 488) (huu : uu ≤ 1900)
  (hY : ArrAt s.heap Y YD YB YI tp p q) (hT : IsTup s.heap tp #[Value.int 1 ta, .int 2 tb]) (hBt : hB.get? tp = none) (hb : ∃ n, s.heap.get? B = some (PySem.W.listOf #[.ref tp2] n)) (hT2 : IsTup s.heap tp2 #[Value.int 1 tc, .int 2 td]) (hBt2 : hB.get? tp2 = none)
  (hQ : ∀ h' tk, Keeps s.heap h' → Q .none {s with heap := h', toks := tk}) :
  wpAny (model prog0 w) ⟨none, dd, fr, gs, uu⟩ (call (.ref 223) [.ref Y, .ref B]) Q E s := by
 refine tupEl hT fun dT nT sT hTo => ?_
 refine tupEl hT2 fun dT2 nT2 sT2 hTo2 => ?_
 (refine xEL hb fun nB hb' => ?_; try clear hb)
 refine xEEEEEL (hY.o2) fun o1 o2 o3 o4 o5 y2 => ?_
 refine xEL (hY.o3) fun o6 y3 => ?_
 refine xEEEL (hY.o4) fun o7 o8 o9 y4 => ?_
 refine wpAny_call ?_
 refine' enter0 (news := [(tp, { cls := .type "tuple", dict := dT, data := .seq #[Value.int 1 ta, .int 2 tb] nT, slots := sT }), (tp2, { cls := .type "tuple", dict := dT2, data := .seq #[Value.int 1 tc, .int 2 td] nT2, slots := sT2 })]) (binds := [(Str.ofString "value", .ref Y), (Str.ofString "bounds", .ref B)]) WD st ?hN ?hroom ?ho ?hcd ?hb ?hl ?body ?c1 ?c2 ?c3 ?c4
 k_extra "j"
 case hN => exact List.forall_mem_cons.mpr ⟨⟨hTo, hBt⟩, List.forall_mem_cons.mpr ⟨⟨hTo2, hBt2⟩, List.forall_mem_nil _⟩⟩
 case body =>
  intro g L h₁ S1 S2 S3 F' N' KX' T' l1
  try simp only [AllLt, and_true] at l1
  have ntL : ∀ a o, s.heap.get? a = some o → o.cls ≠ .type "tuple" → a ∉ [tp, tp2] := fun a o e hc hm => by
   rcases List.mem_cons.mp hm with q | hm
   ·rw [q, hTo] at e; exact hc (by rw [← Option.some.inj e])
   ·rcases List.mem_cons.mp hm with q | hm
    ·rw [q, hTo2] at e; exact hc (by rw [← Option.some.inj e])
    ·cases hm
  have qa := S2 _ _ hY.o1 (ntL _ _ hY.o1 (by simp [instObj]))
  have qb := S2 _ _ y2 (ntL _ _ y2 (by simp [dictOf]))
  have qc := S2 _ _ y3 (ntL _ _ y3 (by simp [PySem.W.listOf]))
  have qd := S2 _ _ y4 (ntL _ _ y4 (by simp [PySem.W.listOf]))
  have qB := S2 _ _ hb' (ntL _ _ hb' (by simp [PySem.W.listOf]))
  have hYg : ArrAt g Y YD YB YI tp p q := (arrMk qa qb qc qd)
  have qL : g.IsList B [Value.ref tp2].toArray := ⟨_, qB, rfl, _, rfl⟩
  dsimp only
  (repeat' (first | ((with_reducible rename (_ ∧ _ ∧ _) ∧ _ => hcc); have := hcc.1.1; have := hcc.1.2.1; have := hcc.1.2.2; have := hcc.2; clear hcc) | ((with_reducible rename (_ ∧ _) ∧ _ => hcc); have := hcc.1.1; have := hcc.1.2; have := hcc.2; clear hcc) | ((with_reducible show wpAny _ _ (execs [_] _) _ _ _); (fail_if_success k_fold); refine execs1 ?_) | ((with_reducible show wpAny _ _ (execs (_ :: _) _) _ _ _); refine execsC fun qk hqn hqr => ?_) | ((with_reducible show qk _ _); (first | refine hqn _ ?_ | refine hqr _ _ nRet ?_ | refine hqr _ _ nBrk ?_ | refine hqr _ _ nCont ?_); (try clear hqn hqr qk); (try dsimp only)) | ((with_reducible show qk _ _); dsimp only [qk]; (try clear qk)) | (k_unfold; (try dsimp only); (try clear qk)) | (k_end; wrow_close) | ((with_reducible show wpAny _ _ (call (.ref 180) [Value.ref _]) _ _ _); k_extra "a"; (with_unfolding_all refine' lengths_of ?W ?st ?hd ?hu ?hY ?hT ?hBt ?_); k_extra "i"; (case hY => exact hYg.keeps fF.keep); (case hT => exact News.isTup nN (by k_mem)); (case hBt => assumption); k_whole; intro B' t' h' tk' hk' gB' nB'; (obtain F' := Fr.keeps fF hk'); (obtain N' := newsJ fF nN hk' (more := [(B', _)]) (List.forall_mem_cons.mpr ⟨⟨gB', nB'⟩, List.forall_mem_nil _⟩)); (obtain nb' := allNe_of nN nB'); (simp only [AllNe, and_true] at nb'); (simp only [List.cons_append, List.nil_append] at N'); clear hk' gB' nB'; k_sweep) | ((with_reducible show wpAny _ _ (call (.ref 218) [Value.int _ _, Value.int _ _]) _ _ _); (with_unfolding_all refine' dim_length ?W ?st ?hd ?hu ?_); (case W => assumption); (case st => exact stays_of (by assumption) (by assumption)); (case hd => k_extra "b"); (case hu => k_extra "b"); k_whole; intro t' h' tk' hk'; k_extra "a"; (obtain F' := Fr.keeps fF hk'); (obtain N' := newsK nN hk'); clear hk'; k_sweep) | k_extra "g"))
  all_goals (try dsimp only)
  have h2 : (if (0 : Int) > 2 - 1 + 1 then (0 : Int) else 2 - 1 + 1) = 2 := by decide
  try rw [h2]
  all_goals (try dsimp only)
  (repeat' (first | ((with_reducible rename (_ ∧ _ ∧ _) ∧ _ => hcc); have := hcc.1.1; have := hcc.1.2.1; have := hcc.1.2.2; have := hcc.2; clear hcc) | ((with_reducible rename (_ ∧ _) ∧ _ => hcc); have := hcc.1.1; have := hcc.1.2; have := hcc.2; clear hcc) | ((with_reducible show wpAny _ _ (execs [_] _) _ _ _); (fail_if_success k_fold); refine execs1 ?_) | ((with_reducible show wpAny _ _ (execs (_ :: _) _) _ _ _); refine execsC fun qk hqn hqr => ?_) | ((with_reducible show qk _ _); (first | refine hqn _ ?_ | refine hqr _ _ nRet ?_ | refine hqr _ _ nBrk ?_ | refine hqr _ _ nCont ?_); (try clear hqn hqr qk); (try dsimp only)) | ((with_reducible show qk _ _); dsimp only [qk]; (try clear qk)) | (k_unfold; (try dsimp only); (try clear qk)) | (k_end; wrow_close) | ((with_reducible show wpAny _ _ (call (.ref 180) [Value.ref _]) _ _ _); k_extra "a"; (with_unfolding_all refine' lengths_of ?W ?st ?hd ?hu ?hY ?hT ?hBt ?_); k_extra "i"; (case hY => exact hYg.keeps fF.keep); (case hT => exact News.isTup nN (by k_mem)); (case hBt => assumption); k_whole; intro B' t' h' tk' hk' gB' nB'; (obtain F' := Fr.keeps fF hk'); (obtain N' := newsJ fF nN hk' (more := [(B', _)]) (List.forall_mem_cons.mpr ⟨⟨gB', nB'⟩, List.forall_mem_nil _⟩)); (obtain nb' := allNe_of nN nB'); (simp only [AllNe, and_true] at nb'); (simp only [List.cons_append, List.nil_append] at N'); clear hk' gB' nB'; k_sweep) | ((with_reducible show wpAny _ _ (call (.ref 218) [Value.int _ _, Value.int _ _]) _ _ _); (with_unfolding_all refine' dim_length ?W ?st ?hd ?hu ?_); (case W => assumption); (case st => exact stays_of (by assumption) (by assumption)); (case hd => k_extra "b"); (case hu => k_extra "b"); k_whole; intro t' h' tk' hk'; k_extra "a"; (obtain F' := Fr.keeps fF hk'); (obtain N' := newsK nN hk'); clear hk'; k_sweep) | k_extra "g"))
  all_goals (try dsimp only)
  rename Fr _ _ _ _ => FF
  rename News _ _ _ _ => NN
  exact hQ _ _ (keeps_of S2 FF (List.forall_mem_cons.mpr ⟨hTo, List.forall_mem_cons.mpr ⟨hTo2, List.forall_mem_nil _⟩⟩) (List.forall_mem_cons.mpr ⟨(NN (tp, _) (by k_mem)).1, List.forall_mem_cons.mpr ⟨(NN (tp2, _) (by k_mem)).1, List.forall_mem_nil _⟩⟩))
theorem slide_array {Y YD YB YI tp B tp2 : Addr} {p q : Int} {ta tb tc td : Tok}
  (WD : Wd w mg mb hB) (st : hB.StaysIn s.heap) (hdd : dd ≤ 476) (huu : uu ≤ 1800)
  (hY : ArrAt s.heap Y YD YB YI tp p q) (hT : IsTup s.heap tp #[Value.int 1 ta, .int 2 tb]) (hBt : hB.get? tp = none) (hb : ∃ n, s.heap.get? B = some (PySem.W.listOf #[.ref tp2] n)) (hT2 : IsTup s.heap tp2 #[Value.int 1 tc, .int 2 td]) (hBt2 : hB.get? tp2 = none)
  (hQ : ∀ Y' YD' YB' YI' h' tk, Keeps s.heap h' → ArrAt h' Y' YD' YB' YI' tp2 p q → (∀ a ∈ [Y', YD', YB', YI'], s.heap.get? a = none) → [Y', YD', YB', YI'].Nodup → Q (.ref Y') {s with heap := h', toks := tk}) :
  wpAny (model prog0 w) ⟨none, dd, fr, gs, uu⟩ (call (.ref 228) [.ref Y, .ref B]) Q E s := by
 refine tupEl hT fun dT nT sT hTo => ?_
 refine tupEl hT2 fun dT2 nT2 sT2 hTo2 => ?_
 (refine xEL hb fun nB hb' => ?_; try clear hb)
 refine xEEEEEL (hY.o2) fun o1 o2 o3 o4 o5 y2 => ?_
 refine xEL (hY.o3) fun o6 y3 => ?_
 refine xEEEL (hY.o4) fun o7 o8 o9 y4 => ?_
 refine wpAny_call ?_
 refine' enter0 (news := [(tp, { cls := .type "tuple", dict := dT, data := .seq #[Value.int 1 ta, .int 2 tb] nT, slots := sT }), (tp2, { cls := .type "tuple", dict := dT2, data := .seq #[Value.int 1 tc, .int 2 td] nT2, slots := sT2 })]) (binds := [(Str.ofString "value", .ref Y), (Str.ofString "bounds", .ref B)]) WD st ?hN ?hroom ?ho ?hcd ?hb ?hl ?body ?c1 ?c2 ?c3 ?c4
 k_extra "j"
 case hN => exact List.forall_mem_cons.mpr ⟨⟨hTo, hBt⟩, List.forall_mem_cons.mpr ⟨⟨hTo2, hBt2⟩, List.forall_mem_nil _⟩⟩
 case body =>
  intro g L h₁ S1 S2 S3 F' N' KX' T' l1
  try simp only [AllLt, and_true] at l1
  have ntL : ∀ a o, s.heap.get? a = some o → o.cls ≠ .type "tuple" → a ∉ [tp, tp2] := fun a o e hc hm => by
   rcases List.mem_cons.mp hm with q | hm
   ·rw [q, hTo] at e; exact hc (by rw [← Option.some.inj e])
   ·rcases List.mem_cons.mp hm with q | hm
    ·rw [q, hTo2] at e; exact hc (by rw [← Option.some.inj e])
    ·cases hm
  have qa := S2 _ _ hY.o1 (ntL _ _ hY.o1 (by simp [instObj]))
  have qb := S2 _ _ y2 (ntL _ _ y2 (by simp [dictOf]))
  have qc := S2 _ _ y3 (ntL _ _ y3 (by simp [PySem.W.listOf]))
  have qd := S2 _ _ y4 (ntL _ _ y4 (by simp [PySem.W.listOf]))
  have qB := S2 _ _ hb' (ntL _ _ hb' (by simp [PySem.W.listOf]))
  have hYg : ArrAt g Y YD YB YI tp p q := (arrMk qa qb qc qd)
  have qL : g.IsList B [Value.ref tp2].toArray := ⟨_, qB, rfl, _, rfl⟩
  have q4 : g.IsList YI [Value.int p o8, Value.int q o9].toArray := ⟨_, qd, rfl, _, rfl⟩
  dsimp only
  (repeat' (first | ((with_reducible rename (_ ∧ _ ∧ _) ∧ _ => hcc); have := hcc.1.1; have := hcc.1.2.1; have := hcc.1.2.2; have := hcc.2; clear hcc) | ((with_reducible rename (_ ∧ _) ∧ _ => hcc); have := hcc.1.1; have := hcc.1.2; have := hcc.2; clear hcc) | ((with_reducible show wpAny _ _ (execs [_] _) _ _ _); (fail_if_success k_fold); refine execs1 ?_) | ((with_reducible show wpAny _ _ (execs (_ :: _) _) _ _ _); refine execsC fun qk hqn hqr => ?_) | ((with_reducible show qk _ _); (first | refine hqn _ ?_ | refine hqr _ _ nRet ?_ | refine hqr _ _ nBrk ?_ | refine hqr _ _ nCont ?_); (try clear hqn hqr qk); (try dsimp only)) | ((with_reducible show qk _ _); dsimp only [qk]; (try clear qk)) | (k_unfold; (try dsimp only); (try clear qk)) | (k_end; wrow_close) | ((with_reducible show wpAny _ _ (call (.ref 131) [Value.ref _, Value.ref _]) _ _ _); (with_unfolding_all refine' mkArr ?W ?st ?hh ?hd ?hu ?_); (case W => assumption); (case st => exact stays_of (by assumption) (by assumption)); (case hh => rfl); (case hd => k_extra "b"); (case hu => k_extra "b"); k_whole; intro Y' YD' a1' b1' a2' b2' n' h' tk' hk' g1' g2' ne'; k_extra "a"; (have F' := Fr.keeps fF hk'); (have N' := newsJ fF nN hk' (more := [(Y', _), (YD', _)]) (List.forall_mem_cons.mpr ⟨g1', List.forall_mem_cons.mpr ⟨g2', List.forall_mem_nil _⟩⟩)); (have na' := allNe_of nN g1'.2); (have nb' := allNe_of nN g2'.2); (simp only [AllNe, and_true] at na' nb'); (simp only [List.cons_append, List.nil_append] at N'); clear hk' g1' g2'; k_sweep) | ((with_reducible show wpAny _ _ (call (.ref 168) [Value.int _ _]) _ _ _); (with_unfolding_all refine' copy_int ?W ?st ?hd ?hu ?_); (case W => assumption); (case st => exact stays_of (by assumption) (by assumption)); (case hd => k_extra "b"); (case hu => k_extra "b"); k_whole; intro h' tk' hk'; k_extra "a"; (have F' := Fr.keeps fF hk'); (have N' := newsK nN hk'); clear hk'; k_sweep) | ((with_reducible show wpAny _ _ (call (.ref 223) [Value.ref _, Value.ref _]) _ _ _); k_extra "a"; (with_unfolding_all refine' check_lengths ?W ?st ?hd ?hu ?hY ?hT ?hBt ?hb ?hT2 ?hBt2 ?_); k_extra "i"; (case hY => exact hYg.keeps fF.keep); (case hT => exact hT.keeps (keeps_of S2 fF (List.forall_mem_cons.mpr ⟨hTo, List.forall_mem_cons.mpr ⟨hTo2, List.forall_mem_nil _⟩⟩) (List.forall_mem_cons.mpr ⟨(nN (tp, _) (by k_mem)).1, List.forall_mem_cons.mpr ⟨(nN (tp2, _) (by k_mem)).1, List.forall_mem_nil _⟩⟩))); (case hBt => exact hBt); (case hb => exact ⟨_, fF.keep _ _ qB⟩); (case hT2 => exact hT2.keeps (keeps_of S2 fF (List.forall_mem_cons.mpr ⟨hTo, List.forall_mem_cons.mpr ⟨hTo2, List.forall_mem_nil _⟩⟩) (List.forall_mem_cons.mpr ⟨(nN (tp, _) (by k_mem)).1, List.forall_mem_cons.mpr ⟨(nN (tp2, _) (by k_mem)).1, List.forall_mem_nil _⟩⟩))); (case hBt2 => exact hBt2); k_whole; intro h' tk' hk'; (obtain F' := Fr.keeps fF hk'); (obtain N' := newsK nN hk'); clear hk'; k_sweep) | ((with_reducible show wpAny _ _ (call (.ref 180) [Value.ref _]) _ _ _); k_extra "a"; (with_unfolding_all refine' lengths_of ?W ?st ?hd ?hu ?hY ?hT ?hBt ?_); k_extra "i"; (case hY => exact hYg.keeps fF.keep); (case hT => exact News.isTup nN (by k_mem)); (case hBt => assumption); k_whole; intro B' t' h' tk' hk' gB' nB'; (obtain F' := Fr.keeps fF hk'); (obtain N' := newsJ fF nN hk' (more := [(B', _)]) (List.forall_mem_cons.mpr ⟨⟨gB', nB'⟩, List.forall_mem_nil _⟩)); (obtain nb' := allNe_of nN nB'); (simp only [AllNe, and_true] at nb'); (simp only [List.cons_append, List.nil_append] at N'); clear hk' gB' nB'; k_sweep) | ((with_reducible show wpAny _ _ (call (.ref 218) [Value.int _ _, Value.int _ _]) _ _ _); (with_unfolding_all refine' dim_length ?W ?st ?hd ?hu ?_); (case W => assumption); (case st => exact stays_of (by assumption) (by assumption)); (case hd => k_extra "b"); (case hu => k_extra "b"); k_whole; intro t' h' tk' hk'; k_extra "a"; (obtain F' := Fr.keeps fF hk'); (obtain N' := newsK nN hk'); clear hk'; k_sweep) | k_extra "g"))
  all_goals (try dsimp only)
  rename Fr _ _ _ _ => FF
  rename News _ _ _ _ => NN
  have kk := keeps_of S2 FF (List.forall_mem_cons.mpr ⟨hTo, List.forall_mem_cons.mpr ⟨hTo2, List.forall_mem_nil _⟩⟩) (List.forall_mem_cons.mpr ⟨(NN (tp, _) (by k_mem)).1, List.forall_mem_cons.mpr ⟨(NN (tp2, _) (by k_mem)).1, List.forall_mem_nil _⟩⟩)
  have nnt : ∀ a o, Heap.get? _ a = some o → o.cls ≠ .type "tuple" → a ∉ [(tp, ({ cls := .type "tuple", dict := dT, data := .seq #[Value.int 1 ta, .int 2 tb] nT, slots := sT } : Obj)), (tp2, ({ cls := .type "tuple", dict := dT2, data := .seq #[Value.int 1 tc, .int 2 td] nT2, slots := sT2 } : Obj))].map (·.1) := fun a o e hc hm => by
   rcases List.mem_cons.mp hm with q | hm
   ·rw [q, kk _ _ hTo] at e; exact hc (by rw [← Option.some.inj e])
   ·rcases List.mem_cons.mp hm with q | hm
    ·rw [q, kk _ _ hTo2] at e; exact hc (by rw [← Option.some.inj e])
    ·cases hm
  refine hQ Y' YD' _ _ _ _ kk (arrMk ((NN _ (.head _)).1) ((NN _ (.tail _ (.head _))).1) ((NN _ (.tail _ (.tail _ (.tail _ (.head _))))).1) ((NN _ (.tail _ (.tail _ (.head _)))).1)) ?_ ?_
  ·refine List.forall_mem_cons.mpr ⟨?_, List.forall_mem_cons.mpr ⟨?_, List.forall_mem_cons.mpr ⟨?_, List.forall_mem_cons.mpr ⟨?_, List.forall_mem_nil _⟩⟩⟩⟩
   ·exact new_of S2 NN (.head _) (nnt _ _ (NN _ (.head _)).1 (by simp [instObj]))
   ·exact new_of S2 NN (.tail _ (.head _)) (nnt _ _ (NN _ (.tail _ (.head _))).1 (by simp [dictOf]))
   ·exact new_of S2 NN (.tail _ (.tail _ (.tail _ (.head _)))) (nnt _ _ (NN _ (.tail _ (.tail _ (.tail _ (.head _))))).1 (by simp [PySem.W.listOf]))
   ·exact new_of S2 NN (.tail _ (.tail _ (.head _))) (nnt _ _ (NN _ (.tail _ (.tail _ (.head _)))).1 (by simp [PySem.W.listOf]))
  ·simp only [List.nodup_cons, List.mem_cons, List.not_mem_nil, or_false, not_or, not_false_eq_true, List.nodup_nil, and_true]
   repeat' (first | k_ne | constructor)
end
end
section
variable {w : World} {mg mb : Str → Option Value} {hB : Heap} {s : Shared} {dd uu : Nat} {gs : Option (List Code)} {fr : Option (List Env)} {Q : Value → Shared → Prop} {E : Value → Shared → Prop}
theorem write_int {P R RD FD RT : Addr} {kvs : List (Str × Value)} {name : Str} {tw tn tv : Tok} {v0 : Value} {v : Int}
  (WD : Wd w mg mb hB) (st : hB.StaysIn s.heap) (hdd : dd ≤ 488) (huu : uu ≤ 1900)
  (hP : IsTup s.heap P #[Value.str (Str.ofString "field") tw, .ref R, .str name tn]) (hA : RecAt w s.heap R RD FD RT kvs) (lo : (FD == sysModules) = false) (hval : valueAt kvs name = some v0) (hkn : kvs.length ≤ 100) (hBF : hB.get? FD = none)
  (hQ : ∀ h' tk, KeepsOff [FD] s.heap h' → RecAt w h' R RD FD RT (stored kvs name (.int v tv)) → Q .none {s with heap := h', toks := tk}) :
  wpAny (model prog0 w) ⟨none, dd, fr, gs, uu⟩ (call (.ref 204) [.ref P, .int v tv]) Q E s := by
 (refine recEl (id hA) fun e1 h1 t1 h2 t2 n2 e2 oF e3 hdF f1 f2 f3 => ?_)
 refine wpAny_call ?_
 refine' enter0 (news := [(FD, oF)]) (binds := [(Str.ofString "place", .ref P), (Str.ofString "value", .int v tv)]) WD st ?hN ?hroom ?ho ?hcd ?hb ?hl ?body ?c1 ?c2 ?c3 ?c4
 k_extra "j"
 case hN => exact List.forall_mem_cons.mpr ⟨⟨e3, hBF⟩, List.forall_mem_nil _⟩
 case body =>
  intro g L h₁ S1 S2 S3 F' N' KX' T' l1
  try simp only [AllLt, and_true] at l1
  have nP : P ≠ FD := fun q => by
   (refine xEAAEL hP fun o ho hc n hd => ?_; try clear hP)
   rw [q, e3] at ho
   cases ho
   (refine xEEAAL hdF fun es ep hcl hdat _ => ?_; try clear hdF)
   rw [hd] at hdat; cases hdat
  have qa := S2 _ _ e1 (by simp; exact Ne.symm f1)
  have qb := S2 _ _ e2 (by simp; exact Ne.symm f2)
  have hPg : IsTup g P [Value.str (Str.ofString "field") tw, .ref R, .str name tn].toArray := by
   (refine xEAL hP fun o ho r => ?_; try clear hP)
   exact ⟨o, S2 _ _ ho (nm1 nP), r⟩
  dsimp only
  (repeat' (first | k_extra "h" | ((with_reducible show wpAny _ _ (setItem (Value.ref _) (Value.str _ _) _) _ _ _); ((refine' setD ?F ?N ?ne ?d ?z ?_); (case F => assumption); (case N => assumption); (case ne => exact List.forall_mem_nil _); (case d => exact hdF); (case z => exact hkn); k_whole; intro h' o' F' N' hd'; k_sweep)) | ((with_reducible show wpAny _ _ (call (.ref 194) [Value.ref _, Value.str _ _]) _ _ _); k_extra "a"; (with_unfolding_all refine' fields_with ?W ?st ?hd ?hu ?ha ?lo ?hv ?_); k_extra "i"; (case ha => exact (recMk (fF.keep _ _ qa) (fF.keep _ _ qb) ((nN (FD, oF) (by k_mem)).1) hdF hA.ne)); (case lo => assumption); (case hv => exact hval); k_whole; intro h' tk' hk'; (obtain F' := Fr.keeps fF hk'); (obtain N' := newsK nN hk'); clear hk'; k_sweep) | k_extra "g"))
  all_goals (try dsimp only)
  rename Fr _ _ _ _ => FF
  rename News _ _ _ _ => NN
  exact hQ _ _ (fun b o nb e => FF.keep b o (S2 b o e nb)) (recMk (FF.keep _ _ qa) (FF.keep _ _ qb) ((NN _ (.head _)).1) hd' ⟨f1, f2, f3⟩)
end
section
theorem said_9 : True := by
 k_with "x" => (exact inst_mix (by with_reducible assumption) (by with_reducible assumption) (by assumption) (by k_mem))
 exact True.intro
local macro_rules | `(tactic| k_inst) => `(tactic| k_extra "x")
section
variable {w : World} {mg mb : Str → Option Value} {hB : Heap} {s : Shared} {dd uu : Nat} {gs : Option (List Code)} {fr : Option (List Env)} {Q : Value → Shared → Prop} {E : Value → Shared → Prop}
theorem checked_int {P R RD FD RT S SD T D : Addr} {es : List DictEntry} {n : Nat} {t1 t2 t3 : Tok} {kvs : List (Str × Value)} {name : Str} {tw tn tv : Tok} {v0 : Value} {v : Int}
  (WD : Wd w mg mb hB) (st : hB.StaysIn s.heap) (hdd : dd ≤ 452) (huu : uu ≤ 1600)
  (hS : SubAt hB S SD T) (hT : TypA hB T D es n) (hk : getL (Str.ofString "kind") es = some (some (.str (Str.ofString "int") t1))) (hlo : getL (Str.ofString "low") es = some (some (.int (-32768) t2))) (hhi : getL (Str.ofString "high") es = some (some (.int 32767 t3))) (h0 : 0 ≤ v) (h1 : v ≤ 100)
  (hP : IsTup s.heap P #[Value.str (Str.ofString "field") tw, .ref R, .str name tn]) (hA : RecAt w s.heap R RD FD RT kvs) (lo : (FD == sysModules) = false) (hval : valueAt kvs name = some v0) (hkn : kvs.length ≤ 100) (hBF : hB.get? FD = none)
  (hQ : ∀ h' tk, KeepsOff [FD] s.heap h' → RecAt w h' R RD FD RT (stored kvs name (.int v tv)) → Q .none {s with heap := h', toks := tk}) :
  wpAny (model prog0 w) ⟨none, dd, fr, gs, uu⟩ (call (.ref 653) [.ref P, .ref S, .int v tv]) Q E s := by
 (refine recEl (id hA) fun e1 h1' t1' h2' t2' n2' e2 oF e3 hdF f1 f2 f3 => ?_)
 refine wpAny_call ?_
 refine' enter0 (news := [(FD, oF)]) (binds := [(Str.ofString "place", .ref P), (Str.ofString "subtype", .ref S), (Str.ofString "value", .int v tv)]) WD st ?hN ?hroom ?ho ?hcd ?hb ?hl ?body ?c1 ?c2 ?c3 ?c4
 k_extra "j"
 case hN => exact List.forall_mem_cons.mpr ⟨⟨e3, hBF⟩, List.forall_mem_nil _⟩
 case body =>
  intro g L h₁ S1 S2 S3 F' N' KX' T' l1
  try simp only [AllLt, and_true] at l1
  have nP : P ≠ FD := fun q => by
   (refine xEAAEL hP fun o ho hc n hd => ?_; try clear hP)
   rw [q, e3] at ho
   cases ho
   (refine xEEAAL hdF fun es ep hcl hdat _ => ?_; try clear hdF)
   rw [hd] at hdat; cases hdat
  have qa := S2 _ _ e1 (by simp; exact Ne.symm f1)
  have qb := S2 _ _ e2 (by simp; exact Ne.symm f2)
  have hSg := hS.keeps S1
  have hTg := hT.keeps S1
  have hPg : IsTup g P [Value.str (Str.ofString "field") tw, .ref R, .str name tn].toArray := by
   (refine xEAL hP fun o ho r => ?_; try clear hP)
   exact ⟨o, S2 _ _ ho (nm1 nP), r⟩
  dsimp only
  (repeat' (first | k_extra "h" | ((with_reducible show wpAny _ _ (call (.ref 204) [Value.ref _, Value.int _ _]) _ _ _); k_extra "a"; (with_unfolding_all refine' write_int ?W ?st ?hd ?hu ?a1 ?a2 ?a3 ?a4 ?a5 ?a6 ?_); k_extra "i"; (case a1 => exact hPg.keeps fF.keep); (case a2 => exact (recMk (fF.keep _ _ qa) (fF.keep _ _ qb) ((nN (FD, oF) (by k_mem)).1) hdF hA.ne)); (case a3 => exact lo); (case a4 => exact hval); (case a5 => exact hkn); (case a6 => exact hBF); k_whole; intro h' tk' hk' hR'; (obtain nF := (nN (FD, oF) (by k_mem)).2); (obtain F' := frButS fF (S := [FD]) (fun b o nb e => hk' b o nb e) (List.forall_mem_cons.mpr ⟨⟨nF.2, nF.1⟩, List.forall_mem_nil _⟩)); (obtain N' := (List.forall_mem_nil _ : News g L h' [])); clear hk' nN; k_sweep) | ((with_reducible show wpAny _ _ (call (.ref 599) [Value.ref _, Value.int _ _]) _ _ _); k_extra "a"; (with_unfolding_all refine' fit_int ?W ?st ?hd ?hu ?a1 ?a2 ?a3 ?a4 ?a5 ?a6 ?a7 ?_); k_extra "i"; (case a1 => exact hSg.keeps fF.keep); (case a2 => exact hTg.keeps fF.keep); (case a3 => exact hk); (case a4 => exact hlo); (case a5 => exact hhi); (case a6 => exact h0); (case a7 => exact h1); k_whole; intro h' tk' hk'; (obtain F' := Fr.keeps fF hk'); (obtain N' := newsK nN hk'); clear hk'; k_sweep) | k_extra "g"))
  all_goals (try dsimp only)
  rename Fr _ _ _ _ => FF
  have hR2 := hR'
  (obtain ⟨r1, z137x1, z137x2, r5⟩ := hR'; (refine xEEEEEL z137x1 fun _ _ _ _ _ r2 => ?_; try clear z137x1); (refine xEAL z137x2 fun oF2 r3 r4 => ?_; try clear z137x2))
  exact hQ _ _ (fun b o nb e => FF.keep b o (S2 b o e nb)) hR2
end
section
variable {w : World} {mg mb : Str → Option Value} {hB : Heap} {s : Shared} {dd uu : Nat} {gs : Option (List Code)} {fr : Option (List Env)} {Q : Value → Shared → Prop} {E : Value → Shared → Prop}
theorem checked_arr {P R RD FD RT S Y YD YB YI tp Y2 YD2 YB2 YI2 tp2 : Addr} {kvs : List (Str × Value)} {name : Str} {tw tn ta tb tc td : Tok} {p0 q0 p q : Int}
  (WD : Wd w mg mb hB) (st : hB.StaysIn s.heap) (hdd : dd ≤ 452) (huu : uu ≤ 1600)
  (hP : IsTup s.heap P #[Value.str (Str.ofString "field") tw, .ref R, .str name tn]) (hA : RecAt w s.heap R RD FD RT kvs) (lo : (FD == sysModules) = false) (hval : valueAt kvs name = some (.ref Y))
  (hY : ArrAt s.heap Y YD YB YI tp p0 q0) (hY2 : ArrAt s.heap Y2 YD2 YB2 YI2 tp2 p q) (hT : IsTup s.heap tp #[Value.int 1 ta, .int 2 tb]) (hBt : hB.get? tp = none) (hT2 : IsTup s.heap tp2 #[Value.int 1 tc, .int 2 td]) (hBt2 : hB.get? tp2 = none)
  (hBY : hB.get? Y = none) (hBYD : hB.get? YD = none) (hBYI : hB.get? YI = none) (hne1 : @Ne Nat Y YD) (hne2 : @Ne Nat Y YI) (hne3 : @Ne Nat YD YI)
  (hsep : (@Ne Nat R Y ∧ @Ne Nat R YD ∧ @Ne Nat R YI) ∧ (@Ne Nat RD Y ∧ @Ne Nat RD YD ∧ @Ne Nat RD YI) ∧ (@Ne Nat FD Y ∧ @Ne Nat FD YD ∧ @Ne Nat FD YI) ∧ @Ne Nat YB Y ∧ @Ne Nat YB YD ∧ @Ne Nat YB YI) (hap : ∀ a ∈ [Y2, YD2, YB2, YI2], @Ne Nat a Y ∧ @Ne Nat a YD ∧ @Ne Nat a YI)
  (hQ : ∀ YB' h' tk, KeepsOff [YD, YI] s.heap h' → ArrAt h' Y YD YB' YI tp p q → s.heap.get? YB' = none → Q .none {s with heap := h', toks := tk}) :
  wpAny (model prog0 w) ⟨none, dd, fr, gs, uu⟩ (call (.ref 653) [.ref P, .ref S, .ref Y2]) Q E s := by
 (obtain ⟨e1, z138x1, z138x2, f⟩ := id hA; (refine xEEEEEL z138x1 fun h1 t1 h2 t2 n2 e2 => ?_; try clear z138x1); (refine xEAL z138x2 fun oF e3 hdF => ?_; try clear z138x2))
 (refine arrEl (id hY) fun y1 u1 u2 u3 u4 u5 y2 u6 y3 u7 u8 u9 y4 => ?_)
 (refine arrEl (id hY2) fun x1 v1 v2 v3 v4 v5 x2 v6 x3 v7 v8 v9 x4 => ?_)
 refine wpAny_call ?_
 refine' enter0 (news := [(Y, instObj 131 YD), (YD, pairD u1 "bounds" u2 (.ref YB) u3 "items" u4 (.ref YI) u5), (YI, PySem.W.listOf #[.int p0 u8, .int q0 u9] u7)]) (binds := [(Str.ofString "place", .ref P), (Str.ofString "subtype", .ref S), (Str.ofString "value", .ref Y2)]) WD st ?hN ?hroom ?ho ?hcd ?hb ?hl ?body ?c1 ?c2 ?c3 ?c4
 k_extra "j"
 case hN => exact List.forall_mem_cons.mpr ⟨⟨y1, hBY⟩, List.forall_mem_cons.mpr ⟨⟨y2, hBYD⟩, List.forall_mem_cons.mpr ⟨⟨y4, hBYI⟩, List.forall_mem_nil _⟩⟩⟩
 case body =>
  intro g L h₁ S1 S2 S3 F' N' KX' T' l1
  try simp only [AllLt, and_true] at l1
  (refine xAAAAAL (id hsep) fun z141x0 z141x1 z141x2 z10 z11 z12 => ?_; (refine xAAL z141x0 fun z1 z2 z3 => ?_; try clear z141x0); (refine xAAL z141x1 fun z4 z5 z6 => ?_; try clear z141x1); (refine xAAL z141x2 fun z7 z8 z9 => ?_; try clear z141x2))
  have qR := S2 _ _ e1 (by simp [z1, z2, z3])
  have qRD := S2 _ _ e2 (by simp [z4, z5, z6])
  have qF := S2 _ _ e3 (by simp [z7, z8, z9])
  have hAg : RecAt w g R RD FD RT kvs := (recMk qR qRD qF hdF f)
  have nPY : P ≠ Y ∧ P ≠ YD ∧ P ≠ YI := by
   (refine xEAAEL hP fun o ho hc n hd => ?_; try clear hP)
   refine ⟨fun q => ?_, fun q => ?_, fun q => ?_⟩
   ·rw [q, y1] at ho; cases ho; cases hc
   ·rw [q, y2] at ho; cases ho; cases hd
   ·rw [q, y4] at ho; cases ho; simp [PySem.W.listOf] at hc
  have hPg : IsTup g P [Value.str (Str.ofString "field") tw, .ref R, .str name tn].toArray := by
   (refine xEAL hP fun o ho r => ?_; try clear hP)
   exact ⟨o, S2 _ _ ho (by simp [nPY]), r⟩
  have hY2g : ArrAt g Y2 YD2 YB2 YI2 tp2 p q := by
   refine (arrMk (S2 _ _ x1 (by simpa [and_assoc] using hap _ (.head _))) (S2 _ _ x2 (by simpa [and_assoc] using hap _ (.tail _ (.head _)))) (S2 _ _ x3 (by simpa [and_assoc] using hap _ (.tail _ (.tail _ (.head _))))) (S2 _ _ x4 (by simpa [and_assoc] using hap _ (.tail _ (.tail _ (.tail _ (.head _)))))))
  have qYB := S2 _ _ y3 (by simp [z10, z11, z12])
  have qY2 := hY2g.o1
  refine xEEEEEL (hY2g.o2) fun _ _ _ _ _ qYD2 => ?_
  have hTg : IsTup g tp [Value.int 1 ta, .int 2 tb].toArray := by
   (refine xEAAEL hT fun o ho hc n hd => ?_; try clear hT)
   refine ⟨o, S2 _ _ ho ?_, hc, n, hd⟩
   simp only [List.map_cons, List.map_nil, List.mem_cons, List.not_mem_nil, or_false, not_or]
   refine ⟨fun q => ?_, fun q => ?_, fun q => ?_⟩
   ·rw [q, y1] at ho; cases ho; cases hc
   ·rw [q, y2] at ho; cases ho; cases hd
   ·rw [q, y4] at ho; cases ho; simp [PySem.W.listOf] at hc
  have hT2g : IsTup g tp2 [Value.int 1 tc, .int 2 td].toArray := by
   (refine xEAAEL hT2 fun o ho hc n hd => ?_; try clear hT2)
   refine ⟨o, S2 _ _ ho ?_, hc, n, hd⟩
   simp only [List.map_cons, List.map_nil, List.mem_cons, List.not_mem_nil, or_false, not_or]
   refine ⟨fun q => ?_, fun q => ?_, fun q => ?_⟩
   ·rw [q, y1] at ho; cases ho; cases hc
   ·rw [q, y2] at ho; cases ho; cases hd
   ·rw [q, y4] at ho; cases ho; simp [PySem.W.listOf] at hc
  dsimp only
  (repeat' (first | k_extra "h" | ((with_reducible show wpAny _ _ (call (.ref 199) [Value.ref _]) _ _ _); k_extra "a"; (with_unfolding_all refine' read_field ?W ?st ?hd ?hu ?hp ?ha ?lo ?hv ?_); k_extra "i"; (case hp => exact hPg.keeps fF.keep); (case ha => exact hAg.keeps fF.keep); (case lo => assumption); (case hv => exact hval); k_whole; intro h' tk' hk'; (obtain F' := Fr.keeps fF hk'); (obtain N' := newsK nN hk'); clear hk'; k_sweep) | ((with_reducible show wpAny _ _ (call (.ref 175) [Value.ref _, Value.ref _]) _ _ _); refine held ?_) | ((with_reducible show wpAny _ _ (call (.ref 228) [Value.ref _, Value.ref _]) _ _ _); refine held ?_) | k_extra "g"))
  unfold Held
  k_extra "a"
  (with_unfolding_all refine' slide_array ?W ?st ?hd ?hu ?hY ?hT ?hBt ?hb ?hT2 ?hBt2 ?_)
  case W => assumption
  case st => exact stays_of (by assumption) (by assumption)
  case hd => (dsimp only; first | exact om1 (by assumption) rfl | omega)
  case hu => (dsimp only; first | exact om1 (by assumption) rfl | omega)
  case hY => exact hY2g.keeps fF.keep
  case hT => exact hT2g.keeps fF.keep
  case hBt => exact hBt2
  case hb => exact ⟨_, fF.keep _ _ qYB⟩
  case hT2 => exact hTg.keeps fF.keep
  case hBt2 => exact hBt
  k_whole
  intro Y' YD' YB' YI' h' tk' hk' hAr hnew hnd
  have nYB : s.heap.get? YB' = none := by
   have fB := hnew YB' (by first | k_mem | simp)
   cases q : s.heap.get? YB' with
   | none => rfl
   | some o =>
    by_cases hb : YB' = Y ∨ YB' = YD ∨ YB' = YI
    ·rcases hb with z | z | z
     ·have := fB.symm.trans ((congrArg _ z).trans (nN (Y, _) (by k_mem)).1); cases this
     ·have := fB.symm.trans ((congrArg _ z).trans (nN (YD, _) (by k_mem)).1); cases this
     ·have := fB.symm.trans ((congrArg _ z).trans (nN (YI, _) (by k_mem)).1); cases this
    ·have := fB.symm.trans (fF.keep _ _ (S2 _ _ q (by simpa using hb))); cases this
  (refine arrEl (id hAr) fun a1 b1 b2 b3 b4 b5 a2 b6 a3 b7 b8 b9 a4 => ?_)
  obtain F' := Fr.keeps fF hk'
  obtain N' := newsK nN hk'
  have mY := (nN (Y, _) (by k_mem)).1
  have mYD := (nN (YD, _) (by k_mem)).1
  have mYI := (nN (YI, _) (by k_mem)).1
  clear fF nN
  (repeat' (first | k_extra "h" | ((with_reducible show wpAny _ _ (call (.ref 199) [Value.ref _]) _ _ _); k_extra "a"; (with_unfolding_all refine' read_field ?W ?st ?hd ?hu ?hp ?ha ?lo ?hv ?_); k_extra "i"; (case hp => exact hPg.keeps fF.keep); (case ha => exact hAg.keeps fF.keep); (case lo => assumption); (case hv => exact hval); k_whole; intro h' tk' hk'; (obtain F' := Fr.keeps fF hk'); (obtain N' := newsK nN hk'); clear hk'; k_sweep) | ((with_reducible show wpAny _ _ (call (.ref 175) [Value.ref _, Value.ref _]) _ _ _); refine held ?_) | ((with_reducible show wpAny _ _ (call (.ref 228) [Value.ref _, Value.ref _]) _ _ _); refine held ?_) | k_extra "g"))
  unfold Held
  k_extra "a"
  have hne : ∀ a ∈ [Y', YD', YB', YI'], @Ne Nat a Y ∧ @Ne Nat a YD ∧ @Ne Nat a YI := fun a ha => by
   have hn := hnew a ha
   refine ⟨fun q => ?_, fun q => ?_, fun q => ?_⟩
   ·have := hn.symm.trans ((congrArg _ q).trans mY); cases this
   ·have := hn.symm.trans ((congrArg _ q).trans mYD); cases this
   ·have := hn.symm.trans ((congrArg _ q).trans mYI); cases this
  (with_unfolding_all refine' kept_arr_arr ?W ?st ?hd ?hu ?hA ?hA2 ?hY ?hYD ?hYI ?n1 ?n2 ?_)
  case W => assumption
  case st => exact stays_of (by assumption) (by assumption)
  case hd => (dsimp only; first | exact om1 (by assumption) rfl | omega)
  case hu => (dsimp only; first | exact om1 (by assumption) rfl | omega)
  case hA => exact (arrMk ((nN (Y, _) (by k_mem)).1) ((nN (YD, _) (by k_mem)).1) (fF.keep _ _ qYB) ((nN (YI, _) (by k_mem)).1))
  case hA2 => exact hAr
  case hY => exact hBY
  case hYD => exact hBYD
  case hYI => exact hBYI
  case n1 => exact ⟨hne1, hne2, hne3⟩
  case n2 => exact hne
  k_whole
  intro h' tk' hk' hAf
  have nD := (nN (YD, _) (by k_mem)).2
  have nI := (nN (YI, _) (by k_mem)).2
  obtain F' := frButS fF (S := [YD, YI]) (fun b o nb e => hk' b o (fun q => nb (q ▸ .head _)) (fun q => nb (q ▸ .tail _ (.head _))) e) (List.forall_mem_cons.mpr ⟨⟨nD.2, nD.1⟩, List.forall_mem_cons.mpr ⟨⟨nI.2, nI.1⟩, List.forall_mem_nil _⟩⟩)
  obtain N' := (List.forall_mem_nil _ : News g L h' [])
  clear hk' fF nN
  (repeat' (first | k_extra "h" | ((with_reducible show wpAny _ _ (call (.ref 199) [Value.ref _]) _ _ _); k_extra "a"; (with_unfolding_all refine' read_field ?W ?st ?hd ?hu ?hp ?ha ?lo ?hv ?_); k_extra "i"; (case hp => exact hPg.keeps fF.keep); (case ha => exact hAg.keeps fF.keep); (case lo => assumption); (case hv => exact hval); k_whole; intro h' tk' hk'; (obtain F' := Fr.keeps fF hk'); (obtain N' := newsK nN hk'); clear hk'; k_sweep) | ((with_reducible show wpAny _ _ (call (.ref 175) [Value.ref _, Value.ref _]) _ _ _); refine held ?_) | ((with_reducible show wpAny _ _ (call (.ref 228) [Value.ref _, Value.ref _]) _ _ _); refine held ?_) | k_extra "g"))
  all_goals (try dsimp only)
  rename Fr _ _ _ _ => FF
  refine hQ YB' _ _ (fun b o nb e => ?_) hAf nYB
  by_cases hb : b = Y
  ·rw [hb, y1] at e
   rw [hb, ← e]
   exact hAf.o1
  ·exact FF.keep b o (S2 b o e (by simp only [List.mem_cons, List.not_mem_nil, or_false, not_or] at nb; simp [hb, nb]))
end
end
section
variable {w : World} {mg mb : Str → Option Value} {hB : Heap} {s : Shared} {dd uu : Nat} {gs : Option (List Code)} {fr : Option (List Env)} {Q : Value → Shared → Prop} {E : Value → Shared → Prop}
def CallsTo (w : World) (D U : Nat) (h0 : Heap) (S : List Addr) (P : Heap → Prop) (f : Addr) (args : List Value) : Prop :=
 ∀ (s1 : Shared) (dd uu : Nat) (gs : Option (List Code)) (fr : Option (List Env)) (Q : Value → Shared → Prop) (E : Value → Shared → Prop), Keeps h0 s1.heap → dd ≤ D → uu ≤ U →
  (∀ h' tk, KeepsOff S s1.heap h' → P h' → Q .none { s1 with heap := h', toks := tk }) → wpAny (model prog0 w) ⟨none, dd, fr, gs, uu⟩ (call (.ref f) args) Q E s1
theorem CallsTo.keeps {w : World} {D U : Nat} {h0 h1 : Heap} {S : List Addr} {P : Heap → Prop} {f : Addr} {args : List Value} (x : CallsTo w D U h0 S P f args) (k : Keeps h0 h1) : CallsTo w D U h1 S P f args :=
 fun s1 dd uu gs fr Q E hk hd hu hQ => x s1 dd uu gs fr Q E (fun b o e => hk b o (k b o e)) hd hu hQ
theorem said_10 : True := by
 k_with "y" => (exact instK (keeps_of S2 (by with_reducible assumption) (fun q hq => (hN q hq).1) fun q hq => (‹News _ _ _ _› q hq).1) (by assumption) (by assumption))
 exact True.intro
local macro_rules | `(tactic| k_inst) => `(tactic| k_extra "y")
theorem CellAt.sub {h g : Heap} {C CD R : Addr} {S : List Addr} (x : CellAt h C CD R) (hC : C ∉ S) (hD : CD ∉ S) (k : ∀ b o, h.get? b = some o → b ∉ S → g.get? b = some o) : CellAt g C CD R :=
 xEEEEEEEEEL x.o2 fun a b c d e f g i j q => ⟨k _ _ x.o1 hC, a, b, c, d, e, f, g, i, j, k _ _ q hD⟩
theorem CellAt.keeps {h h' : Heap} {C CD R : Addr} (x : CellAt h C CD R) (k : Keeps h h') : CellAt h' C CD R := x.sub (S := []) List.not_mem_nil List.not_mem_nil fun b o e _ => k b o e
theorem tupS {h g : Heap} {t : Addr} {xs : Array Value} {S : List Addr} (x : IsTup h t xs) (ht : t ∉ S) (k : ∀ b o, h.get? b = some o → b ∉ S → g.get? b = some o) : IsTup g t xs :=
 let ⟨o, ho, r⟩ := x; ⟨o, k _ _ ho ht, r⟩
theorem checked_rec {Pl C CD R R2 Sb SD RT D : Addr} {es : List DictEntry} {n : Nat} {LD DT LC CT V AL A0 A1 A2 P0 P1 P2 X0 X1 X2 : Addr} {tw : Tok} {nw : List (Addr × Obj)} {P : Heap → Prop}
  (WD : Wd w mg mb hB) (st : hB.StaysIn s.heap) (hdd : dd ≤ 440) (huu : uu ≤ 1500)
  (hN : ∀ q ∈ nw, s.heap.get? q.1 = some q.2 ∧ hB.get? q.1 = none) (hPk : ∀ h h', P h → Keeps h h' → P h')
  (hS : SubAt hB Sb SD RT) (hT : TypA hB RT D es n) (hK : RecKind hB es LD DT LC CT V AL A0 A1 A2 P0 P1 P2 X0 X1 X2)
  (hPl : IsTup s.heap Pl #[Value.str (Str.ofString "cell") tw, .ref C]) (hC : CellAt s.heap C CD R) (hR2 : ∃ RD2, s.heap.get? R2 = some (instObj 152 RD2) ∧ ∃ o, s.heap.get? RD2 = some o) (nP : Pl ∉ nw.map (·.1)) (nC : C ∉ nw.map (·.1)) (nCD : CD ∉ nw.map (·.1)) (nR2 : R2 ∉ nw.map (·.1))
  (hin : CallsTo w 452 1600 s.heap (nw.map (·.1)) P 447 [.ref R, .ref R2, .bool false])
  (hQ : ∀ h' tk, KeepsOff (nw.map (·.1)) s.heap h' → P h' → Q .none {s with heap := h', toks := tk}) :
  wpAny (model prog0 w) ⟨none, dd, fr, gs, uu⟩ (call (.ref 653) [.ref Pl, .ref Sb, .ref R2]) Q E s := by
 refine wpAny_call ?_
 refine' enter0 (news := nw) (binds := [(Str.ofString "place", .ref Pl), (Str.ofString "subtype", .ref Sb), (Str.ofString "value", .ref R2)]) WD st ?hN ?hroom ?ho ?hcd ?hb ?hl ?body ?c1 ?c2 ?c3 ?c4
 k_extra "j"
 case hN => exact hN
 case body =>
  intro g L h₁ S1 S2 S3 F' N' KX' T' l1
  try simp only [AllLt, and_true] at l1
  have hPg := tupS hPl nP S2
  have hCg := hC.sub nC nCD S2
  (refine xEAEL hR2 fun RD2 qr1 oD2 qr2 => ?_; try clear hR2)
  have qR2 := S2 _ _ qr1 nR2
  have hSg := hS.keeps S1
  have hTg := hT.keeps S1
  have qs1 := hSg.o1
  refine xEEEEEL (hSg.o2) fun y1 y2 y3 y4 y5 qs2 => ?_
  refine xEL (hK.k) fun kt kk => ?_
  dsimp only
  (repeat' (first | k_extra "h" | ((with_reducible show wpAny _ _ (call (.ref 475) [Value.ref _, _, Value.ref _]) _ _ _); k_extra "a"; (with_unfolding_all refine' assigned_part ?W ?st ?hd ?hu ?hp ?ha ?hb ?_); k_extra "i"; (case hp => exact (hT.keeps S1).keeps fF.keep); (case ha => exact kk); (case hb => exact hK.g); k_whole; intro h' tk' hk'; (obtain F' := Fr.keeps fF hk'); (obtain N' := newsK nN hk'); clear hk'; k_sweep) | ((with_reducible show wpAny _ _ (call (.ref 355) [Value.ref _]) _ _ _); k_extra "a"; (with_unfolding_all refine' full_type_rec ?W ?st ?hd ?hu ?hp ?ha ?_); k_extra "i"; (case hp => exact (hT.keeps S1).keeps fF.keep); (case ha => exact kk); k_whole; intro h' tk' hk'; (obtain F' := Fr.keeps fF hk'); (obtain N' := newsK nN hk'); clear hk'; k_sweep) | ((with_reducible show wpAny _ _ (call (.ref 639) [Value.ref _]) _ _ _); k_extra "a"; (with_unfolding_all refine' is_mutable ?W ?st ?hd ?hu ?hp ?ha ?hb ?_); k_extra "i"; (case hp => exact (hS.keeps S1).keeps fF.keep); (case ha => exact (hT.keeps S1).keeps fF.keep); (case hb => exact (hK.keeps S1).keeps fF.keep); k_whole; intro h' tk' hk'; (obtain F' := Fr.keeps fF hk'); (obtain N' := newsK nN hk'); clear hk'; k_sweep) | ((with_reducible show wpAny _ _ (call (.ref 199) [Value.ref _]) _ _ _); k_extra "a"; (with_unfolding_all refine' read_cell ?W ?st ?hd ?hu ?hp ?ha ?_); k_extra "i"; (case hp => exact hPg.keeps fF.keep); (case ha => exact hCg.keeps fF.keep); k_whole; intro h' tk' hk'; (obtain F' := Fr.keeps fF hk'); (obtain N' := newsK nN hk'); clear hk'; k_sweep) | ((with_reducible show wpAny _ _ (call (.ref 447) [Value.ref _, Value.ref _, _]) _ _ _); k_extra "a"; (with_unfolding_all refine' hin _ _ _ _ _ _ _ ?k ?hd ?hu ?_); (case k => exact keeps_of S2 fF (fun q hq => (hN q hq).1) (fun q hq => (nN q hq).1)); (case hd => (dsimp only; first | exact om1 (by assumption) rfl | omega)); (case hu => (dsimp only; first | exact om1 (by assumption) rfl | omega)); k_whole; intro h' tk' hk' hP'; (obtain F' := frButS fF (S := nw.map (·.1)) (fun b o nb e => hk' b o nb e) (fun a ha => by (refine xEAL (List.mem_map.mp ha) fun q hq z151x2 => ?_; subst z151x2); exact ⟨(nN q hq).2.2, (nN q hq).2.1⟩)); (obtain N' := (List.forall_mem_nil _ : News g L h' [])); clear hk' fF nN; k_sweep) | k_extra "g"))
  all_goals (try dsimp only)
  rename Fr _ _ _ _ => FF
  exact hQ _ _ (fun b o nb e => FF.keep b o (S2 b o e nb)) (hPk _ _ hP' (fun b o e => e))
theorem into_rec {Pl C CD R R2 Sb SD RT D : Addr} {es : List DictEntry} {n : Nat} {LD DT LC CT V AL A0 A1 A2 P0 P1 P2 X0 X1 X2 : Addr} {tw : Tok} {nw : List (Addr × Obj)} {P : Heap → Prop}
  (WD : Wd w mg mb hB) (st : hB.StaysIn s.heap) (hdd : dd ≤ 428) (huu : uu ≤ 1400)
  (hN : ∀ q ∈ nw, s.heap.get? q.1 = some q.2 ∧ hB.get? q.1 = none) (hPk : ∀ h h', P h → Keeps h h' → P h')
  (hS : SubAt hB Sb SD RT) (hT : TypA hB RT D es n) (hK : RecKind hB es LD DT LC CT V AL A0 A1 A2 P0 P1 P2 X0 X1 X2)
  (hPl : IsTup s.heap Pl #[Value.str (Str.ofString "cell") tw, .ref C]) (hC : CellAt s.heap C CD R) (hR2 : ∃ RD2, s.heap.get? R2 = some (instObj 152 RD2) ∧ ∃ o, s.heap.get? RD2 = some o) (nP : Pl ∉ nw.map (·.1)) (nC : C ∉ nw.map (·.1)) (nCD : CD ∉ nw.map (·.1)) (nR2 : R2 ∉ nw.map (·.1))
  (hin : CallsTo w 440 1500 s.heap (nw.map (·.1)) P 653 [.ref Pl, .ref Sb, .ref R2])
  (hQ : ∀ h' tk, KeepsOff (nw.map (·.1)) s.heap h' → P h' → Q .none {s with heap := h', toks := tk}) :
  wpAny (model prog0 w) ⟨none, dd, fr, gs, uu⟩ (call (.ref 646) [.none, .ref Pl, .ref Sb, .ref R2]) Q E s := by
 refine wpAny_call ?_
 refine' enter0 (news := nw) (binds := [(Str.ofString "run", .none), (Str.ofString "place", .ref Pl), (Str.ofString "subtype", .ref Sb), (Str.ofString "value", .ref R2)]) WD st ?hN ?hroom ?ho ?hcd ?hb ?hl ?body ?c1 ?c2 ?c3 ?c4
 k_extra "j"
 case hN => exact hN
 case body =>
  intro g L h₁ S1 S2 S3 F' N' KX' T' l1
  try simp only [AllLt, and_true] at l1
  have hPg := tupS hPl nP S2
  have hCg := hC.sub nC nCD S2
  (refine xEAEL hR2 fun RD2 qr1 oD2 qr2 => ?_; try clear hR2)
  have qR2 := S2 _ _ qr1 nR2
  have hSg := hS.keeps S1
  have hTg := hT.keeps S1
  have qs1 := hSg.o1
  refine xEEEEEL (hSg.o2) fun y1 y2 y3 y4 y5 qs2 => ?_
  refine xEL (hK.k) fun kt kk => ?_
  dsimp only
  (repeat' (first | k_extra "h" | ((with_reducible show wpAny _ _ (call (.ref 653) [Value.ref _, Value.ref _, Value.ref _]) _ _ _); k_extra "a"; (with_unfolding_all refine' hin _ _ _ _ _ _ _ ?k ?hd ?hu ?_); (case k => exact keeps_of S2 fF (fun q hq => (hN q hq).1) (fun q hq => (nN q hq).1)); (case hd => (dsimp only; first | exact om1 (by assumption) rfl | omega)); (case hu => (dsimp only; first | exact om1 (by assumption) rfl | omega)); k_whole; intro h' tk' hk' hP'; (obtain F' := frButS fF (S := nw.map (·.1)) (fun b o nb e => hk' b o nb e) (fun a ha => by (refine xEAL (List.mem_map.mp ha) fun q hq z155x2 => ?_; subst z155x2); exact ⟨(nN q hq).2.2, (nN q hq).2.1⟩)); (obtain N' := (List.forall_mem_nil _ : News g L h' [])); clear hk' fF nN; k_sweep) | ((with_reducible show wpAny _ _ (call (.ref 475) [Value.ref _, _, Value.ref _]) _ _ _); k_extra "a"; (with_unfolding_all refine' assigned_part ?W ?st ?hd ?hu ?hp ?ha ?hb ?_); k_extra "i"; (case hp => exact (hT.keeps S1).keeps fF.keep); (case ha => exact kk); (case hb => exact hK.g); k_whole; intro h' tk' hk'; (obtain F' := Fr.keeps fF hk'); (obtain N' := newsK nN hk'); clear hk'; k_sweep) | ((with_reducible show wpAny _ _ (call (.ref 355) [Value.ref _]) _ _ _); k_extra "a"; (with_unfolding_all refine' full_type_rec ?W ?st ?hd ?hu ?hp ?ha ?_); k_extra "i"; (case hp => exact (hT.keeps S1).keeps fF.keep); (case ha => exact kk); k_whole; intro h' tk' hk'; (obtain F' := Fr.keeps fF hk'); (obtain N' := newsK nN hk'); clear hk'; k_sweep) | ((with_reducible show wpAny _ _ (call (.ref 639) [Value.ref _]) _ _ _); k_extra "a"; (with_unfolding_all refine' is_mutable ?W ?st ?hd ?hu ?hp ?ha ?hb ?_); k_extra "i"; (case hp => exact (hS.keeps S1).keeps fF.keep); (case ha => exact (hT.keeps S1).keeps fF.keep); (case hb => exact (hK.keeps S1).keeps fF.keep); k_whole; intro h' tk' hk'; (obtain F' := Fr.keeps fF hk'); (obtain N' := newsK nN hk'); clear hk'; k_sweep) | ((with_reducible show wpAny _ _ (call (.ref 199) [Value.ref _]) _ _ _); k_extra "a"; (with_unfolding_all refine' read_cell ?W ?st ?hd ?hu ?hp ?ha ?_); k_extra "i"; (case hp => exact hPg.keeps fF.keep); (case ha => exact hCg.keeps fF.keep); k_whole; intro h' tk' hk'; (obtain F' := Fr.keeps fF hk'); (obtain N' := newsK nN hk'); clear hk'; k_sweep) | ((with_reducible show wpAny _ _ (call (.ref 447) [Value.ref _, Value.ref _, _]) _ _ _); k_extra "a"; (with_unfolding_all refine' hin _ _ _ _ _ _ _ ?k ?hd ?hu ?_); (case k => exact keeps_of S2 fF (fun q hq => (hN q hq).1) (fun q hq => (nN q hq).1)); (case hd => (dsimp only; first | exact om1 (by assumption) rfl | omega)); (case hu => (dsimp only; first | exact om1 (by assumption) rfl | omega)); k_whole; intro h' tk' hk' hP'; (obtain F' := frButS fF (S := nw.map (·.1)) (fun b o nb e => hk' b o nb e) (fun a ha => by obtain ⟨q, hq, rfl⟩ := List.mem_map.mp ha; exact ⟨(nN q hq).2.2, (nN q hq).2.1⟩)); (obtain N' := (List.forall_mem_nil _ : News g L h' [])); clear hk' fF nN; k_sweep) | k_extra "g"))
  all_goals (try dsimp only)
  rename Fr _ _ _ _ => FF
  exact hQ _ _ (fun b o nb e => FF.keep b o (S2 b o e nb)) (hPk _ _ hP' (fun b o e => e))
theorem into_arr {Pl Sb Y2 : Addr} {nw : List (Addr × Obj)} {P : Heap → Prop}
  (WD : Wd w mg mb hB) (st : hB.StaysIn s.heap) (hdd : dd ≤ 428) (huu : uu ≤ 1400)
  (hN : ∀ q ∈ nw, s.heap.get? q.1 = some q.2 ∧ hB.get? q.1 = none) (hPk : ∀ h h', P h → Keeps h h' → P h')
  (hY2 : ∃ YD2, s.heap.get? Y2 = some (instObj 131 YD2) ∧ ∃ o, s.heap.get? YD2 = some o ∧ YD2 ∉ nw.map (·.1)) (nY2 : Y2 ∉ nw.map (·.1)) (hin : CallsTo w 440 1500 s.heap (nw.map (·.1)) P 653 [.ref Pl, .ref Sb, .ref Y2])
  (hQ : ∀ h' tk, KeepsOff (nw.map (·.1)) s.heap h' → P h' → Q .none {s with heap := h', toks := tk}) :
  wpAny (model prog0 w) ⟨none, dd, fr, gs, uu⟩ (call (.ref 646) [.none, .ref Pl, .ref Sb, .ref Y2]) Q E s := by
 refine wpAny_call ?_
 refine' enter0 (news := nw) (binds := [(Str.ofString "run", .none), (Str.ofString "place", .ref Pl), (Str.ofString "subtype", .ref Sb), (Str.ofString "value", .ref Y2)]) WD st ?hN ?hroom ?ho ?hcd ?hb ?hl ?body ?c1 ?c2 ?c3 ?c4
 k_extra "j"
 case hN => exact hN
 case body =>
  intro g L h₁ S1 S2 S3 F' N' KX' T' l1
  try simp only [AllLt, and_true] at l1
  (refine xEAEAL hY2 fun YD2 qr1 oD2 qr2 nYD2 => ?_; try clear hY2)
  have qY2 := S2 _ _ qr1 nY2
  have qYD2 := S2 _ _ qr2 nYD2
  dsimp only
  (repeat' (first | k_extra "h" | ((with_reducible show wpAny _ _ (call (.ref 653) [Value.ref _, Value.ref _, Value.ref _]) _ _ _); k_extra "a"; (with_unfolding_all refine' hin _ _ _ _ _ _ _ ?k ?hd ?hu ?_); (case k => exact keeps_of S2 fF (fun q hq => (hN q hq).1) (fun q hq => (nN q hq).1)); (case hd => (dsimp only; first | exact om1 (by assumption) rfl | omega)); (case hu => (dsimp only; first | exact om1 (by assumption) rfl | omega)); k_whole; intro h' tk' hk' hP'; (obtain F' := frButS fF (S := nw.map (·.1)) (fun b o nb e => hk' b o nb e) (fun a ha => by (refine xEAL (List.mem_map.mp ha) fun q hq z157x2 => ?_; subst z157x2); exact ⟨(nN q hq).2.2, (nN q hq).2.1⟩)); (obtain N' := (List.forall_mem_nil _ : News g L h' [])); clear hk' fF nN; k_sweep) | ((with_reducible show wpAny _ _ (call (.ref 475) [Value.ref _, _, Value.ref _]) _ _ _); k_extra "a"; (with_unfolding_all refine' assigned_part ?W ?st ?hd ?hu ?hp ?ha ?hb ?_); k_extra "i"; (case hp => exact (hT.keeps S1).keeps fF.keep); (case ha => exact kk); (case hb => exact hK.g); k_whole; intro h' tk' hk'; (obtain F' := Fr.keeps fF hk'); (obtain N' := newsK nN hk'); clear hk'; k_sweep) | ((with_reducible show wpAny _ _ (call (.ref 355) [Value.ref _]) _ _ _); k_extra "a"; (with_unfolding_all refine' full_type_rec ?W ?st ?hd ?hu ?hp ?ha ?_); k_extra "i"; (case hp => exact (hT.keeps S1).keeps fF.keep); (case ha => exact kk); k_whole; intro h' tk' hk'; (obtain F' := Fr.keeps fF hk'); (obtain N' := newsK nN hk'); clear hk'; k_sweep) | ((with_reducible show wpAny _ _ (call (.ref 639) [Value.ref _]) _ _ _); k_extra "a"; (with_unfolding_all refine' is_mutable ?W ?st ?hd ?hu ?hp ?ha ?hb ?_); k_extra "i"; (case hp => exact (hS.keeps S1).keeps fF.keep); (case ha => exact (hT.keeps S1).keeps fF.keep); (case hb => exact (hK.keeps S1).keeps fF.keep); k_whole; intro h' tk' hk'; (obtain F' := Fr.keeps fF hk'); (obtain N' := newsK nN hk'); clear hk'; k_sweep) | ((with_reducible show wpAny _ _ (call (.ref 199) [Value.ref _]) _ _ _); k_extra "a"; (with_unfolding_all refine' read_cell ?W ?st ?hd ?hu ?hp ?ha ?_); k_extra "i"; (case hp => exact hPg.keeps fF.keep); (case ha => exact hCg.keeps fF.keep); k_whole; intro h' tk' hk'; (obtain F' := Fr.keeps fF hk'); (obtain N' := newsK nN hk'); clear hk'; k_sweep) | ((with_reducible show wpAny _ _ (call (.ref 447) [Value.ref _, Value.ref _, _]) _ _ _); k_extra "a"; (with_unfolding_all refine' hin _ _ _ _ _ _ _ ?k ?hd ?hu ?_); (case k => exact keeps_of S2 fF (fun q hq => (hN q hq).1) (fun q hq => (nN q hq).1)); (case hd => (dsimp only; first | exact om1 (by assumption) rfl | omega)); (case hu => (dsimp only; first | exact om1 (by assumption) rfl | omega)); k_whole; intro h' tk' hk' hP'; (obtain F' := frButS fF (S := nw.map (·.1)) (fun b o nb e => hk' b o nb e) (fun a ha => by obtain ⟨q, hq, rfl⟩ := List.mem_map.mp ha; exact ⟨(nN q hq).2.2, (nN q hq).2.1⟩)); (obtain N' := (List.forall_mem_nil _ : News g L h' [])); clear hk' fF nN; k_sweep) | k_extra "g"))
  all_goals (try dsimp only)
  rename Fr _ _ _ _ => FF
  exact hQ _ _ (fun b o nb e => FF.keep b o (S2 b o e nb)) (hPk _ _ hP' (fun b o e => e))
theorem into_int {Pl Sb : Addr} {v : Int} {tv : Tok} {nw : List (Addr × Obj)} {P : Heap → Prop}
  (WD : Wd w mg mb hB) (st : hB.StaysIn s.heap) (hdd : dd ≤ 428) (huu : uu ≤ 1400)
  (hN : ∀ q ∈ nw, s.heap.get? q.1 = some q.2 ∧ hB.get? q.1 = none) (hPk : ∀ h h', P h → Keeps h h' → P h')
  (hin : CallsTo w 440 1500 s.heap (nw.map (·.1)) P 653 [.ref Pl, .ref Sb, .int v tv])
  (hQ : ∀ h' tk, KeepsOff (nw.map (·.1)) s.heap h' → P h' → Q .none {s with heap := h', toks := tk}) :
  wpAny (model prog0 w) ⟨none, dd, fr, gs, uu⟩ (call (.ref 646) [.none, .ref Pl, .ref Sb, .int v tv]) Q E s := by
 refine wpAny_call ?_
 refine' enter0 (news := nw) (binds := [(Str.ofString "run", .none), (Str.ofString "place", .ref Pl), (Str.ofString "subtype", .ref Sb), (Str.ofString "value", .int v tv)]) WD st ?hN ?hroom ?ho ?hcd ?hb ?hl ?body ?c1 ?c2 ?c3 ?c4
 k_extra "j"
 case hN => exact hN
 case body =>
  intro g L h₁ S1 S2 S3 F' N' KX' T' l1
  try simp only [AllLt, and_true] at l1
  dsimp only
  (repeat' (first | k_extra "h" | ((with_reducible show wpAny _ _ (call (.ref 653) [Value.ref _, Value.ref _, Value.int _ _]) _ _ _); k_extra "a"; (with_unfolding_all refine' hin _ _ _ _ _ _ _ ?k ?hd ?hu ?_); (case k => exact keeps_of S2 fF (fun q hq => (hN q hq).1) (fun q hq => (nN q hq).1)); (case hd => (dsimp only; first | exact om1 (by assumption) rfl | omega)); (case hu => (dsimp only; first | exact om1 (by assumption) rfl | omega)); k_whole; intro h' tk' hk' hP'; (obtain F' := frButS fF (S := nw.map (·.1)) (fun b o nb e => hk' b o nb e) (fun a ha => by (refine xEAL (List.mem_map.mp ha) fun q hq z158x2 => ?_; subst z158x2); exact ⟨(nN q hq).2.2, (nN q hq).2.1⟩)); (obtain N' := (List.forall_mem_nil _ : News g L h' [])); clear hk' fF nN; k_sweep) | ((with_reducible show wpAny _ _ (call (.ref 653) [Value.ref _, Value.ref _, Value.ref _]) _ _ _); k_extra "a"; (with_unfolding_all refine' hin _ _ _ _ _ _ _ ?k ?hd ?hu ?_); (case k => exact keeps_of S2 fF (fun q hq => (hN q hq).1) (fun q hq => (nN q hq).1)); (case hd => (dsimp only; first | exact om1 (by assumption) rfl | omega)); (case hu => (dsimp only; first | exact om1 (by assumption) rfl | omega)); k_whole; intro h' tk' hk' hP'; (obtain F' := frButS fF (S := nw.map (·.1)) (fun b o nb e => hk' b o nb e) (fun a ha => by obtain ⟨q, hq, rfl⟩ := List.mem_map.mp ha; exact ⟨(nN q hq).2.2, (nN q hq).2.1⟩)); (obtain N' := (List.forall_mem_nil _ : News g L h' [])); clear hk' fF nN; k_sweep) | ((with_reducible show wpAny _ _ (call (.ref 475) [Value.ref _, _, Value.ref _]) _ _ _); k_extra "a"; (with_unfolding_all refine' assigned_part ?W ?st ?hd ?hu ?hp ?ha ?hb ?_); k_extra "i"; (case hp => exact (hT.keeps S1).keeps fF.keep); (case ha => exact kk); (case hb => exact hK.g); k_whole; intro h' tk' hk'; (obtain F' := Fr.keeps fF hk'); (obtain N' := newsK nN hk'); clear hk'; k_sweep) | ((with_reducible show wpAny _ _ (call (.ref 355) [Value.ref _]) _ _ _); k_extra "a"; (with_unfolding_all refine' full_type_rec ?W ?st ?hd ?hu ?hp ?ha ?_); k_extra "i"; (case hp => exact (hT.keeps S1).keeps fF.keep); (case ha => exact kk); k_whole; intro h' tk' hk'; (obtain F' := Fr.keeps fF hk'); (obtain N' := newsK nN hk'); clear hk'; k_sweep) | ((with_reducible show wpAny _ _ (call (.ref 639) [Value.ref _]) _ _ _); k_extra "a"; (with_unfolding_all refine' is_mutable ?W ?st ?hd ?hu ?hp ?ha ?hb ?_); k_extra "i"; (case hp => exact (hS.keeps S1).keeps fF.keep); (case ha => exact (hT.keeps S1).keeps fF.keep); (case hb => exact (hK.keeps S1).keeps fF.keep); k_whole; intro h' tk' hk'; (obtain F' := Fr.keeps fF hk'); (obtain N' := newsK nN hk'); clear hk'; k_sweep) | ((with_reducible show wpAny _ _ (call (.ref 199) [Value.ref _]) _ _ _); k_extra "a"; (with_unfolding_all refine' read_cell ?W ?st ?hd ?hu ?hp ?ha ?_); k_extra "i"; (case hp => exact hPg.keeps fF.keep); (case ha => exact hCg.keeps fF.keep); k_whole; intro h' tk' hk'; (obtain F' := Fr.keeps fF hk'); (obtain N' := newsK nN hk'); clear hk'; k_sweep) | ((with_reducible show wpAny _ _ (call (.ref 447) [Value.ref _, Value.ref _, _]) _ _ _); k_extra "a"; (with_unfolding_all refine' hin _ _ _ _ _ _ _ ?k ?hd ?hu ?_); (case k => exact keeps_of S2 fF (fun q hq => (hN q hq).1) (fun q hq => (nN q hq).1)); (case hd => (dsimp only; first | exact om1 (by assumption) rfl | omega)); (case hu => (dsimp only; first | exact om1 (by assumption) rfl | omega)); k_whole; intro h' tk' hk' hP'; (obtain F' := frButS fF (S := nw.map (·.1)) (fun b o nb e => hk' b o nb e) (fun a ha => by obtain ⟨q, hq, rfl⟩ := List.mem_map.mp ha; exact ⟨(nN q hq).2.2, (nN q hq).2.1⟩)); (obtain N' := (List.forall_mem_nil _ : News g L h' [])); clear hk' fF nN; k_sweep) | k_extra "g"))
  all_goals (try dsimp only)
  rename Fr _ _ _ _ => FF
  exact hQ _ _ (fun b o nb e => FF.keep b o (S2 b o e nb)) (hPk _ _ hP' (fun b o e => e))
theorem stored_ok {Pl Sb : Addr} {v : Value} {nw : List (Addr × Obj)} {P : Heap → Prop}
  (WD : Wd w mg mb hB) (st : hB.StaysIn s.heap) (hdd : dd ≤ 416) (huu : uu ≤ 1300)
  (hN : ∀ q ∈ nw, s.heap.get? q.1 = some q.2 ∧ hB.get? q.1 = none) (hPk : ∀ h h', P h → Keeps h h' → P h')
  (hin : CallsTo w 428 1400 s.heap (nw.map (·.1)) P 646 [.none, .ref Pl, .ref Sb, v])
  (hQ : ∀ t h' tk, KeepsOff (nw.map (·.1)) s.heap h' → P h' → Q (.str (Str.ofString "") t) {s with heap := h', toks := tk}) :
  wpAny (model prog0 w) ⟨none, dd, fr, gs, uu⟩ (call (.ref 709) [.ref Pl, .ref Sb, v]) Q E s := by
 refine wpAny_call ?_
 refine' enter0 (news := nw) (binds := [(Str.ofString "place", .ref Pl), (Str.ofString "subtype", .ref Sb), (Str.ofString "value", v)]) WD st ?hN ?hroom ?ho ?hcd ?hb ?hl ?body ?c1 ?c2 ?c3 ?c4
 k_extra "j"
 case hN => exact hN
 case body =>
  intro g L h₁ S1 S2 S3 F' N' KX' T' l1
  try simp only [AllLt, and_true] at l1
  dsimp only
  (repeat' (first | k_extra "h" | ((with_reducible show wpAny _ _ (call (.ref 646) [Value.none, Value.ref _, Value.ref _, _]) _ _ _); k_extra "a"; (with_unfolding_all refine' hin _ _ _ _ _ _ _ ?k ?hd ?hu ?_); (case k => exact keeps_of S2 fF (fun q hq => (hN q hq).1) (fun q hq => (nN q hq).1)); (case hd => (dsimp only; first | exact om1 (by assumption) rfl | omega)); (case hu => (dsimp only; first | exact om1 (by assumption) rfl | omega)); k_whole; intro h' tk' hk' hP'; (obtain F' := frButS fF (S := nw.map (·.1)) (fun b o nb e => hk' b o nb e) (fun a ha => by (refine xEAL (List.mem_map.mp ha) fun q hq z159x2 => ?_; subst z159x2); exact ⟨(nN q hq).2.2, (nN q hq).2.1⟩)); (obtain N' := (List.forall_mem_nil _ : News g L h' [])); clear hk' fF nN; k_sweep) | ((with_reducible show wpAny _ _ (call (.ref 653) [Value.ref _, Value.ref _, Value.int _ _]) _ _ _); k_extra "a"; (with_unfolding_all refine' hin _ _ _ _ _ _ _ ?k ?hd ?hu ?_); (case k => exact keeps_of S2 fF (fun q hq => (hN q hq).1) (fun q hq => (nN q hq).1)); (case hd => (dsimp only; first | exact om1 (by assumption) rfl | omega)); (case hu => (dsimp only; first | exact om1 (by assumption) rfl | omega)); k_whole; intro h' tk' hk' hP'; (obtain F' := frButS fF (S := nw.map (·.1)) (fun b o nb e => hk' b o nb e) (fun a ha => by obtain ⟨q, hq, rfl⟩ := List.mem_map.mp ha; exact ⟨(nN q hq).2.2, (nN q hq).2.1⟩)); (obtain N' := (List.forall_mem_nil _ : News g L h' [])); clear hk' fF nN; k_sweep) | ((with_reducible show wpAny _ _ (call (.ref 653) [Value.ref _, Value.ref _, Value.ref _]) _ _ _); k_extra "a"; (with_unfolding_all refine' hin _ _ _ _ _ _ _ ?k ?hd ?hu ?_); (case k => exact keeps_of S2 fF (fun q hq => (hN q hq).1) (fun q hq => (nN q hq).1)); (case hd => (dsimp only; first | exact om1 (by assumption) rfl | omega)); (case hu => (dsimp only; first | exact om1 (by assumption) rfl | omega)); k_whole; intro h' tk' hk' hP'; (obtain F' := frButS fF (S := nw.map (·.1)) (fun b o nb e => hk' b o nb e) (fun a ha => by obtain ⟨q, hq, rfl⟩ := List.mem_map.mp ha; exact ⟨(nN q hq).2.2, (nN q hq).2.1⟩)); (obtain N' := (List.forall_mem_nil _ : News g L h' [])); clear hk' fF nN; k_sweep) | ((with_reducible show wpAny _ _ (call (.ref 475) [Value.ref _, _, Value.ref _]) _ _ _); k_extra "a"; (with_unfolding_all refine' assigned_part ?W ?st ?hd ?hu ?hp ?ha ?hb ?_); k_extra "i"; (case hp => exact (hT.keeps S1).keeps fF.keep); (case ha => exact kk); (case hb => exact hK.g); k_whole; intro h' tk' hk'; (obtain F' := Fr.keeps fF hk'); (obtain N' := newsK nN hk'); clear hk'; k_sweep) | ((with_reducible show wpAny _ _ (call (.ref 355) [Value.ref _]) _ _ _); k_extra "a"; (with_unfolding_all refine' full_type_rec ?W ?st ?hd ?hu ?hp ?ha ?_); k_extra "i"; (case hp => exact (hT.keeps S1).keeps fF.keep); (case ha => exact kk); k_whole; intro h' tk' hk'; (obtain F' := Fr.keeps fF hk'); (obtain N' := newsK nN hk'); clear hk'; k_sweep) | ((with_reducible show wpAny _ _ (call (.ref 639) [Value.ref _]) _ _ _); k_extra "a"; (with_unfolding_all refine' is_mutable ?W ?st ?hd ?hu ?hp ?ha ?hb ?_); k_extra "i"; (case hp => exact (hS.keeps S1).keeps fF.keep); (case ha => exact (hT.keeps S1).keeps fF.keep); (case hb => exact (hK.keeps S1).keeps fF.keep); k_whole; intro h' tk' hk'; (obtain F' := Fr.keeps fF hk'); (obtain N' := newsK nN hk'); clear hk'; k_sweep) | ((with_reducible show wpAny _ _ (call (.ref 199) [Value.ref _]) _ _ _); k_extra "a"; (with_unfolding_all refine' read_cell ?W ?st ?hd ?hu ?hp ?ha ?_); k_extra "i"; (case hp => exact hPg.keeps fF.keep); (case ha => exact hCg.keeps fF.keep); k_whole; intro h' tk' hk'; (obtain F' := Fr.keeps fF hk'); (obtain N' := newsK nN hk'); clear hk'; k_sweep) | ((with_reducible show wpAny _ _ (call (.ref 447) [Value.ref _, Value.ref _, _]) _ _ _); k_extra "a"; (with_unfolding_all refine' hin _ _ _ _ _ _ _ ?k ?hd ?hu ?_); (case k => exact keeps_of S2 fF (fun q hq => (hN q hq).1) (fun q hq => (nN q hq).1)); (case hd => (dsimp only; first | exact om1 (by assumption) rfl | omega)); (case hu => (dsimp only; first | exact om1 (by assumption) rfl | omega)); k_whole; intro h' tk' hk' hP'; (obtain F' := frButS fF (S := nw.map (·.1)) (fun b o nb e => hk' b o nb e) (fun a ha => by obtain ⟨q, hq, rfl⟩ := List.mem_map.mp ha; exact ⟨(nN q hq).2.2, (nN q hq).2.1⟩)); (obtain N' := (List.forall_mem_nil _ : News g L h' [])); clear hk' fF nN; k_sweep) | k_extra "g"))
  all_goals (try dsimp only)
  rename Fr _ _ _ _ => FF
  exact hQ _ _ _ (fun b o nb e => FF.keep b o (S2 b o e nb)) (hPk _ _ hP' (fun b o e => e))
end
section
section
variable {prog : Program} {w : World} {A : Around} {E : Value → Shared → Prop} {h : Heap} {g : Array GenState} {d : Drawn} {t : Nat} {os : OsState}
variable {nm q : Str} {C N f : Addr} {bs bm : List Value} {hdct : Bool} {sn : List Str} {sub : List Value} {ab : Bool} {col : Option Bool} {dd : Option Addr} {k0 k1 k2 k3 k5 : Option Value} {rest : List Value}
abbrev tupO (rest : List Value) : Obj := { cls := .type "tuple", data := .seq rest.toArray }
abbrev excO (C t : Addr) : Obj := { cls := .ref C, data := .fields #[.ref t, .none, .none, .none, .bool false, .none] }
theorem newE {R : Result → Shared → Prop} (hC : h.get? C = some (excClassObj nm q C N bs bm hdct sn sub ab col dd k0 k1 k2 k3 k5 "Exception.__new__"))
  (m1 : (Value.ref C :: bm).contains (.type "Exception") = true) (m2 : (Value.ref C :: bm).contains (.type "AttributeError") = false) (m3 : (Value.ref C :: bm).contains (.type "NameError") = false)
  (hz : rest.length ≤ sizeLine) (k : R (.ok (.ret (.ref (h.objs.size + 1)))) ⟨(h.push (tupO rest)).push (excO C h.objs.size), g, d, t, os⟩) :
  codeAny (model prog w) A (.builtin "Exception.__new__" ⟨.ref C :: rest, []⟩) R ⟨h, g, d, t, os⟩ := by
 have ends := PySem.F.excCall_Exception.ends
 refine codeAny_builtinAt PySem.F.excCall_Exception.entry ?_
 unfold Builtin.«BaseException.__new__»
 refine PySem.wpAt_bind (show PySem.wpAt _ _ _ (stack >>= _) _ _ _ from PySem.wpAt_bind (PySem.wpAt_stack fun p below => PySem.wpAt_of_wpAny ?_))
 wp_walk
 refine PySem.wpAt_of_wpAny ?_
 rw [PySem.F.excCall_Exception.owner]
 repeat (first
  | with_reducible refine wpAny_madeHere_exc (by decide +kernel) hC ?_
  | with_reducible refine wpAny_loadPart_at hC ?_
  | (with_reducible refine wpAny_isSubtype_exc hC ?_; first | rw [m1] | rw [m2] | rw [m3])
  | wp_step)
 show R _ _
 rw [Heap.size_push]
 exact k
theorem makeE {mN : Str → Option Value} {oI : Obj} {Q : Value → Shared → Prop} (hC : h.get? C = some (excClassObj nm q C N bs bm hdct sn sub ab col dd k0 k1 k2 k3 k5 "Exception.__new__"))
  (m1 : (Value.ref C :: bm).contains (.type "Exception") = true) (m2 : (Value.ref C :: bm).contains (.type "AttributeError") = false) (m3 : (Value.ref C :: bm).contains (.type "NameError") = false) (m4 : bm.contains (.type "Exception") = true)
  (hn : h.Ns N mN) (hi : mN "__init__" = some (.ref f)) (hf : h.get? f = some oI) (hfc : oI.cls = .type "function") (hz : rest.length ≤ sizeLine)
  (k : wpAny (model prog w) (A.under (.builtin "type.__call__" ⟨.ref C :: rest, []⟩)) (call (.ref f) (.ref (h.objs.size + 1) :: rest)) (fun r s' => r = .none ∧ Q (.ref (h.objs.size + 1)) s') E ⟨(h.push (tupO rest)).push (excO C h.objs.size), g, d, t, os⟩) :
  wpAny (model prog w) A (call (.ref C) rest) Q E ⟨h, g, d, t, os⟩ := by
 have keep : ∀ b o, h.get? b = some o → ((h.push (tupO rest)).push (excO C h.objs.size)).get? b = some o := fun b o e => Heap.get?_push_of_some _ (Heap.get?_push_of_some _ e)
 have hx : ((h.push (tupO rest)).push (excO C h.objs.size)).get? (h.objs.size + 1) = some (excO C h.objs.size) := by heap_get
 have t1 := tc_lookup
 have t2 := tc_bind (.ref C)
 have t3 : (⟨h, g, d, t, os⟩ : Shared).TypeIs (.ref C) "type" := ⟨_, hC, rfl⟩
 have m5 : (Value.ref C :: bm).contains (.ref C) = true := by rw [List.contains_cons]; simp
 refine wpAny_call (codeAny_of_tree (show wpAny _ _ (callAny (.ref C) _) _ _ _ from ?_))
 repeat (any_goals (first | assumption | with_reducible refine wpAny_loadPart_at hC ?_ | wp_step))
 refine ⟨rfl, codeAny_call_builtin_at (Code.quiet_builtin _ (by decide +kernel)) entry_typeCall (wpAny_check_type_call_sub hC ?_)⟩
 repeat (first | with_reducible refine wpAny_loadPart_at hC ?_ | with_reducible refine wpAny_madeBy_exc hC ?_ | wp_step)
 refine codeAny_call_builtin_code (Code.quiet_builtin _ PySem.F.excCall_Exception.quiet) (wpAny_check_new_subU (bmB := bm) PySem.F.excBase_Exception m4 .base hC (newE hC m1 m2 m3 hz (show wpAny _ _ _ _ _ _ from ?_)))
 unfold isInstance
 repeat (first | with_reducible refine wpAny_loadPart_at hx ?_ | (refine wpAny_isSubtype_exc (C := C) (keep _ _ hC) ?_; rw [m5]) | wp_step)
 have hn' : ((h.push (tupO rest)).push (excO C h.objs.size)).Ns N mN := let ⟨o, es, ep, e, r⟩ := hn; ⟨o, es, ep, keep _ _ e, r⟩
 show wpAny _ _ (typeLookup (.ref C) _) _ _ _
 rw [typeLookup_eq]
 refine wpAny_bind (wpAny_mroOf_exc (keep _ _ hC) ?_)
 rw [lookupAlong_cons]
 refine wpAny_bind (wpAny_classOwn_exc (keep _ _ hC) hn' ?_)
 rw [hi]
 refine wpAny_pure (wpAny_holding (wpAny_bind ?_))
 unfold bindSpecial
 refine wpAny_bind (wpAny_typeOf (T := "function") ⟨_, keep _ _ hf, hfc⟩ ?_)
 rw [if_pos (by decide)]
 refine wpAny_pure (wpAny_bind (wpAny_mono k (fun r s' hr => ?_) fun _ _ x => x))
 obtain ⟨rfl, hQ⟩ := hr
 wp_walk
 exact hQ
end
end
section
open Builtin Builtin.ObjectAttr Builtin.Getset_descriptor
section
variable {prog : Program} {w : World} {A : Around} {E : Value → Shared → Prop} {s : Shared} {K : Frag} {x C : Addr} {name : Str} {tk : Tok} {v : Value} {cd : ClassData}
theorem osaE {R : Result → Shared → Prop} (X : K.In s.heap) (ty : Looks (model prog w) s.heap (typeOf (.ref x)) (.ref C)) (hc : clsIn K C = some cd) (hm : refuseLoop (.ref x) "__setattr__" cd.mro = pure ())
  (ho : mroIn K C (.type "object") = some true) (ht : takerIn K C name = some none)
  (h : ∀ b, wpAny (model prog w) A.in1 (storeInOwnDict (.ref x) (.ref C) (.str name tk) name v b)
   (fun fin s' => match fin with | .done f => R (.ok f) s' | .again c' => c'.quiet = true ∧ codeAny (model prog w) A c' R s') (fun e s' => R (.error e) s') s) :
  codeAny (model prog w) A (.call (.builtin "object.__setattr__") ⟨[.ref x, .str name tk, v], []⟩) R s := by
 have SF := PySem.F.store_object
 have sub : Looks (model prog w) s.heap (isInstance (.ref x) (.type "object")) true := ty.andThen (looks_mroIn X ho)
 obtain ⟨attr, ha, hr⟩ := Option.bind_eq_some_iff.mp ht
 have l1 := looks_findIn (M := model prog w) X ha
 have l2 : Looks (model prog w) s.heap (mroOf (.ref C)) cd.mro := (looks_clsIn X hc).andThen .now
 have l3 : Looks (model prog w) s.heap (storeTaker? attr) none := by
  cases attr with
  | none => exact .now
  | some a =>
   obtain ⟨b, hb, e⟩ := Option.map_eq_some_iff.mp hr
   cases b with
   | true => cases e
   | false => exact (looks_takesIn X hb).andThen .now
 refine codeAny_call_builtin SF.slot.plain SF.entry (@check_slot (model prog w) _ _ s "object.__setattr__" "object" "__setattr__" (.ref x) [.str name tk, v] [] _ SF.kind SF.split sub (SF.args (.ref x) (.str name tk) v) ?_)
 rw [osa_eq, refuse_eq]
 repeat (first | exact h _ | rw [hm] | with_reducible refine Looks.at (by assumption) ?_ | refine wpAny_bind ?_ | refine wpAny_pure ?_)
theorem bodyE1 {fs : Array Value} {b : Bool} {Q : Fin → Shared → Prop} (X : K.In s.heap) (hc : clsIn K C = some cd) (hd : cd.hasDict = true) (hx : s.heap.get? x = some { cls := .ref C, data := .fields fs })
  (q : Q (.done (.ret .none)) { s with heap := ((s.heap.push emptyDict).update x (fun o => { o with dict := some s.heap.objs.size })).update s.heap.objs.size (Obj.putName name (PyData.keyHash w.params name) (.str name s.toks) v), toks := s.toks + 1 }) :
  wpAny (model prog w) A (storeInOwnDict (.ref x) (.ref C) (.str name tk) name v b) Q E s := by
 have lc := looks_clsIn (M := model prog w) X hc
 unfold storeInOwnDict
 refine wpAny_bind (wpAny_pure (wpAny_bind (wpAny_bind (wpAny_loadPart hx (wpAny_bind (lc.here ?_))))))
 rw [hd]
 have e1 : (s.heap.push emptyDict).get? x = some { cls := .ref C, data := .fields fs } := Heap.get?_push_of_some _ hx
 have ne : s.heap.objs.size ≠ x := fun z => Nat.lt_irrefl _ (z ▸ Heap.lt_size hx)
 have e2 : (((s.heap.push emptyDict).update x (fun o => { o with dict := some s.heap.objs.size })).get? s.heap.objs.size) = some emptyDict := (Heap.get?_update_ne _ _ _ _ ne).trans (Heap.get?_push_size _ rfl)
 have e3 : (((s.heap.push emptyDict).update x (fun o => { o with dict := some s.heap.objs.size })).update s.heap.objs.size (Obj.putName name (PyData.keyHash w.params name) (.str name s.toks) v)).get? s.heap.objs.size = some (dictOf [⟨PyData.keyHash w.params name, .str name s.toks, v⟩] 1) :=
  Heap.get?_update_self _ e2 rfl
 refine wpAny_bind (wpAny_alloc (wpAny_bind (wpAny_update e1 (wpAny_pure ?_))))
 refine wpAny_bind (wpAny_pure (wpAny_bind ?_))
 unfold nsSet
 refine wpAny_bind (wpAny_bind (wpAny_askSetting (wpAny_pure (wpAny_bind (wpAny_mkText (wpAny_bind (wpAny_loadPart e2 ?_)))))))
 dsimp only
 refine wpAny_updatePart e2 ?_
 refine wpAny_bind (wpAny_lookBehind e3 (pastItsLine_dict (by simp [sizeLine_eq])) ?_)
 exact wpAny_pure q
theorem bodyE2 {fs : Array Value} {dx : Addr} {es : List DictEntry} {n : Nat} {b : Bool} {Q : Fin → Shared → Prop} (X : K.In s.heap) (hc : clsIn K C = some cd) (hd : cd.hasDict = true) (hx : s.heap.get? x = some { cls := .ref C, dict := some dx, data := .fields fs })
  (hD : s.heap.get? dx = some (dictOf es n)) (hr : es.any (·.refKey) = false) (hz : (putL name (PyData.keyHash w.params name) (.str name s.toks) v es).length ≤ 1000)
  (q : Q (.done (.ret .none)) { s with heap := s.heap.update dx (Obj.putName name (PyData.keyHash w.params name) (.str name s.toks) v), toks := s.toks + 1 }) :
  wpAny (model prog w) A (storeInOwnDict (.ref x) (.ref C) (.str name tk) name v b) Q E s := by
 have lc := looks_clsIn (M := model prog w) X hc
 unfold storeInOwnDict
 refine wpAny_bind (wpAny_pure (wpAny_bind (wpAny_bind (wpAny_loadPart hx (wpAny_bind (lc.here ?_))))))
 rw [hd]
 have e3 : (s.heap.update dx (Obj.putName name (PyData.keyHash w.params name) (.str name s.toks) v)).get? dx = some (dictOf (putL name (PyData.keyHash w.params name) (.str name s.toks) v es) (putN name es n)) := by
  rw [← putName_dict]; exact Heap.get?_update_self _ hD (by rw [putName_dict]; rfl)
 refine wpAny_pure (a := some dx) (wpAny_bind (wpAny_pure (wpAny_bind ?_)))
 unfold nsSet
 refine wpAny_bind (wpAny_bind (wpAny_askSetting (wpAny_pure (wpAny_bind (wpAny_mkText (wpAny_bind (wpAny_loadPart hD ?_)))))))
 dsimp only
 have hr' : es.toArray.any (fun x => x.refKey) = false := by rw [← Array.any_toList]; exact hr
 rw [aRefKeyMayBeTheName_at, hr', Bool.and_false]
 refine wpAny_updatePart hD ?_
 refine wpAny_bind (wpAny_lookBehind e3 (pastItsLine_dict (by rw [List.size_toArray, sizeLine_eq]; omega)) ?_)
 exact wpAny_pure q
end
section
variable {w : World} {A : Around} {E : Value → Shared → Prop} {s : Shared} {K : Frag} {x C L : Addr} {name : Str} {v : Value} {cd : ClassData} {h₀ : Heap} {m : Str → Option Value} {post : List (Addr × Obj)} {fs : Array Value}
structure TakesE (K : Frag) (C : Addr) (cd : ClassData) : Prop where
 c : clsIn K C = some cd
 d : cd.hasDict = true
 m : ∀ x, refuseLoop (.ref x) "__setattr__" cd.mro = pure ()
 o : mroIn K C (.type "object") = some true
 s : findIn K (.ref C) "__setattr__" = some (some (.builtin "object.__setattr__"))
theorem setE1 {Q : Unit → Shared → Prop} (F : Fr h₀ L s.heap m) (X : K.In h₀) (N : News h₀ L s.heap ((x, { cls := .ref C, data := .fields fs }) :: post)) (ne : ∀ p ∈ post, p.1 ≠ x) (T : TakesE K C cd) (ht : takerIn K C name = some none)
  (h : ∀ D h' t, s.heap.get? D = none → (∀ p ∈ post, p.1 ≠ D) → D ≠ x → Fr h₀ L h' m → News h₀ L h' ((D, dictOf [⟨PyData.keyHash w.params name, .str name t, v⟩] 1) :: (x, { cls := .ref C, dict := some D, data := .fields fs }) :: post) → Q () { s with heap := h', toks := s.toks + 2 }) :
  wpAny (model prog0 w) A (setAttr (.ref x) name v) Q E s := by
 have hx := (N _ (.head _)).1
 have X1 := X.keeps F.keep
 have I : InstAt s.heap x { cls := .ref C, data := .fields fs } C none := ⟨hx, rfl, rfl, trivial⟩
 refine set_plain X1 I T.s (osaE X1 I.type T.c (T.m x) T.o ht fun b => bodyE1 X1 T.c T.d hx ?_)
 have hD : s.heap.get? s.heap.objs.size = none := by
  cases q : s.heap.get? s.heap.objs.size with
  | none => rfl
  | some o => exact absurd (Heap.lt_size q) (Nat.lt_irrefl _)
 have nx : s.heap.objs.size ≠ x := fun q => Nat.lt_irrefl _ (q ▸ Heap.lt_size hx)
 have np : ∀ p ∈ post, p.1 ≠ s.heap.objs.size := fun p hp q => Nat.lt_irrefl _ (q ▸ Heap.lt_size (N p (.tail _ hp)).1)
 have F1 := F.push emptyDict
 have N1 : News h₀ L (s.heap.push emptyDict) ([(s.heap.objs.size, emptyDict)] ++ (x, { cls := .ref C, data := .fields fs }) :: post) := by
  intro p hp
  rcases List.mem_cons.mp hp with rfl | hp
  ·refine ⟨Heap.get?_push_size _ rfl, fun q => ?_, ?_⟩
   ·obtain ⟨_, _, _, hL, _⟩ := F.ns
    exact Nat.lt_irrefl _ (q ▸ Heap.lt_size hL)
   ·cases q : h₀.get? s.heap.objs.size with
    | none => rfl
    | some o => have := F.keep _ _ q; rw [hD] at this; cases this
  ·exact ⟨Heap.get?_push_of_some _ (N p hp).1, (N p hp).2⟩
 obtain ⟨F2, N2⟩ := news_upd (f := fun o => { o with dict := some s.heap.objs.size }) F1 N1 (by intro p hp; rw [List.mem_singleton.mp hp]; exact nx) ne rfl rfl
 obtain ⟨F3, N3⟩ := news_upd (pre := []) (f := Obj.putName name (PyData.keyHash w.params name) (.str name (s.toks + 1)) v) F2 N2 (fun _ h => nomatch h) (List.forall_mem_cons.mpr ⟨Ne.symm nx, np⟩) rfl rfl
 exact h _ _ _ hD np nx F3 N3
theorem setE2 {Q : Unit → Shared → Prop} {dx : Addr} {es : List DictEntry} {n : Nat} (F : Fr h₀ L s.heap m) (X : K.In h₀) (N : News h₀ L s.heap ((dx, dictOf es n) :: (x, { cls := .ref C, dict := some dx, data := .fields fs }) :: post)) (nx : dx ≠ x) (ne : ∀ p ∈ post, p.1 ≠ dx) (T : TakesE K C cd) (ht : takerIn K C name = some none)
  (hr : es.any (·.refKey) = false) (hz : ∀ t, (putL name (PyData.keyHash w.params name) (.str name t) v es).length ≤ 1000)
  (h : ∀ h' t, Fr h₀ L h' m → News h₀ L h' ((dx, dictOf (putL name (PyData.keyHash w.params name) (.str name t) v es) (putN name es n)) :: (x, { cls := .ref C, dict := some dx, data := .fields fs }) :: post) → Q () { s with heap := h', toks := s.toks + 2 }) :
  wpAny (model prog0 w) A (setAttr (.ref x) name v) Q E s := by
 have hx := (N _ (.tail _ (.head _))).1
 have hD := (N _ (.head _)).1
 have X1 := X.keeps F.keep
 have I : InstAt s.heap x { cls := .ref C, dict := some dx, data := .fields fs } C (some (dictOf es n)) := ⟨hx, rfl, rfl, hD⟩
 refine set_plain X1 I T.s (osaE X1 I.type T.c (T.m x) T.o ht fun b => bodyE2 X1 T.c T.d hx hD hr (hz _) ?_)
 obtain ⟨F3, N3⟩ := news_upd (pre := []) (f := Obj.putName name (PyData.keyHash w.params name) (.str name (s.toks + 1)) v) F N (fun _ h => nomatch h) (List.forall_mem_cons.mpr ⟨Ne.symm nx, ne⟩) (putName_dict _ _ _ _ _ _) rfl
 exact h _ _ F3 N3
end
end
section
open Builtin Builtin.ObjectAttr Builtin.Getset_descriptor
section
variable {w : World} {A : Around} {E : Value → Shared → Prop} {s : Shared} {K : Frag} {x C L t0 : Addr} {v : Value} {h₀ : Heap} {m : Str → Option Value} {post : List (Addr × Obj)}
theorem checkB {Q : Unit → Shared → Prop} {ox : Obj} {cd : ClassData} (hx : s.heap.get? x = some ox) (hcl : ox.cls = .ref C) (lc : Looks (model prog0 w) s.heap (classData C) cd) (sub : Looks (model prog0 w) s.heap (isInstance (.ref x) (.type "Exception")) true) (q : Q () s) :
  wpAny (model prog0 w) A (checkBuiltinCall "Exception.__init__" ⟨[.ref x, v], []⟩) Q E s := by
 have FB := PySem.F.excBase_Exception
 have st := FB.noStar
 simp only [checkBuiltinCall, FB.initKind, FB.initSplit, FB.initRow]
 refine wpAny_bind (sub.here ?_)
 repeat (first | (with_reducible refine wpAny_loadPart hx ?_; rw [hcl]) | with_reducible refine lc.at ?_ | wp_step)
 exact q
theorem initB {Q : Value → Shared → Prop} (F : Fr h₀ L s.heap m) (N : News h₀ L s.heap ((x, excO C t0) :: post)) (ne : ∀ p ∈ post, p.1 ≠ x) (X : K.In h₀) {cd : ClassData} (hc : clsIn K C = some cd) (hm : mroIn K C (.type "Exception") = some true)
  (q : ∀ h' t, h₀.get? t = none → t ≠ x → Fr h₀ L h' m → News h₀ L h' ((x, excO C t) :: post) → Q .none { s with heap := h' }) :
  wpAny (model prog0 w) A (call (.builtin "Exception.__init__") [.ref x, v]) Q E s := by
 have hx := (N _ (.head _)).1
 have I : InstAt s.heap x (excO C t0) C none := ⟨hx, rfl, rfl, trivial⟩
 have FB := PySem.F.excBase_Exception
 have sub : Looks (model prog0 w) s.heap (isInstance (.ref x) (.type "Exception")) true := I.type.andThen (looks_mroIn (X.keeps F.keep) hm)
 have hD : s.heap.get? s.heap.objs.size = none := by
  cases q : s.heap.get? s.heap.objs.size with
  | none => rfl
  | some o => exact absurd (Heap.lt_size q) (Nat.lt_irrefl _)
 obtain ⟨F2, N2⟩ := news_upd (pre := []) (f := Obj.mapFields fun a => a.setIfInBounds 0 (.ref s.heap.objs.size)) (F.push (tupO [v])) (N := fun p hp => ⟨Heap.get?_push_of_some _ (N p hp).1, (N p hp).2⟩) (fun _ h => nomatch h) ne rfl rfl
 refine wpAny_call (codeAny_call_builtin FB.init.plain FB.initEntry (checkB hx rfl (looks_clsIn (X.keeps F.keep) hc) sub ?_))
 wp_walk
 exact q _ _ (by
  cases z : h₀.get? s.heap.objs.size with
  | none => rfl
  | some o => have := F.keep _ _ z; rw [hD] at this; cases this) (fun z => by rw [z, hx] at hD; cases hD) F2 N2
end
end
section
section
abbrev quadD (h1 : Int) (t1 : Tok) (v1 : Value) (h2 : Int) (t2 : Tok) (v2 : Value) (h3 : Int) (t3 : Tok) (v3 : Value) (h4 : Int) (t4 : Tok) (v4 : Value) (n : Nat) : Obj :=
 dictOf [⟨h1, .str (Str.ofString "text") t1, v1⟩, ⟨h2, .str (Str.ofString "name") t2, v2⟩, ⟨h3, .str (Str.ofString "word") t3, v3⟩, ⟨h4, .str (Str.ofString "line") t4, v4⟩] n
theorem sText : Str.ofString "text" = ⟨#[116, 101, 120, 116]⟩ := by decide +kernel
theorem sName : Str.ofString "name" = ⟨#[110, 97, 109, 101]⟩ := by decide +kernel
theorem sWord : Str.ofString "word" = ⟨#[119, 111, 114, 100]⟩ := by decide +kernel
theorem sLine : Str.ofString "line" = ⟨#[108, 105, 110, 101]⟩ := by decide +kernel
theorem sProg : Str.ofString "program_error" = ⟨#[112, 114, 111, 103, 114, 97, 109, 95, 101, 114, 114, 111, 114]⟩ := by decide +kernel
structure ExcAt (h : Heap) (e ED : Addr) : Prop where
 o1 : ∃ t, h.get? e = some { cls := .ref 70, dict := some ED, data := .fields #[.ref t, .none, .none, .none, .bool false, .none] }
 o2 : ∃ h1 t1 v1 h2 t2 v2 h3 t3 tw h4 t4 v4 n, h.get? ED = some (quadD h1 t1 v1 h2 t2 v2 h3 t3 (.str (Str.ofString "program_error") tw) h4 t4 v4 n)
end
end
section
theorem mE1 : typeOf (.type "Exception") = pure (.type "type") := by kernel_rfl
theorem mE2 : Manifest.isStub "Exception" = false := by decide +kernel
theorem takesE (w : World) : ∃ cd, TakesE (hd.heap_39 w.params) 70 cd := ⟨_, rfl, rfl, fun x => by rfl, by k_is, by k_is⟩
theorem initErr {w : World} {mg mb : Str → Option Value} {hB : Heap} {s : Shared} {e t0 : Addr} {tx : Str} {t3 : Tok} {A : Around} {Q : Value → Shared → Prop} {E : Value → Shared → Prop} (WD : Wd w mg mb hB) (st : hB.StaysIn s.heap) (hd : A.depth ≤ 700)
  (he : s.heap.get? e = some (excO 70 t0) ∧ hB.get? e = none)
  (hQ : ∀ D h' t tk tk', s.heap.get? D = none → s.heap.get? t = none → (∀ b o, b ≠ e → s.heap.get? b = some o → h'.get? b = some o) → h'.get? e = some { cls := .ref 70, dict := some D, data := (excO 70 t).data } →
   h'.get? D = some (dictOf [⟨PyData.keyHash w.params (Str.ofString "text"), .str (Str.ofString "text") tk', .str tx t3⟩] 1) → Q .none { s with heap := h', toks := tk }) :
  wpAny (model prog0 w) A (PySem.call (.ref 28) [.ref e, .str tx t3]) Q E s := by
 refine wpAny_call ?_
 refine' enterM (news := [(e, excO 70 t0)]) (binds := [(Str.ofString "self", .ref e), (Str.ofString "text", .str tx t3)]) WD st ?hN ?hroom ?ho ?hcd ?hb ?hl ?body ?c1 ?c2 ?c3 ?c4
 k_extra "j"
 case hN => exact List.forall_mem_cons.mpr ⟨he, List.forall_mem_nil _⟩
 case body =>
  intro g L h₁ S1 S2 F' N' KX' T'
  obtain ⟨cd, TE⟩ := takesE w
  dsimp only
  (repeat' (first | k_extra "h" | ((with_reducible show wpAny _ _ (call (Value.builtin _) [Value.ref _, Value.str _ _]) _ _ _); refine initB (by assumption) (by assumption) (List.forall_mem_nil _) (by assumption) (by k_is) (by k_is) ?_; (intro h1' tp' nt' et' F' N'); k_sweep) | ((with_reducible show wpAny _ _ (setAttr (Value.ref _) _ _) _ _ _); refine setE1 (by assumption) (by assumption) (by assumption) (List.forall_mem_nil _) TE (by k_is) ?_; intro D' h' tt' n' m' x' F' N'; k_sweep) | walk1 | (dsimp only; walk1) | (leave1; try dsimp only) | fail "no step"))
  rename Fr _ _ _ _ => fF
  refine' method_type fF KX' mE1 mE2 ?e ?hh ?_
  case e => k_is
  case hh => rfl
  (repeat' (first | k_extra "h" | ((with_reducible show wpAny _ _ (call (Value.builtin _) [Value.ref _, Value.str _ _]) _ _ _); refine initB (by assumption) (by assumption) (List.forall_mem_nil _) (by assumption) (by k_is) (by k_is) ?_; (intro h1' tp' nt' et' F' N'); k_sweep) | ((with_reducible show wpAny _ _ (setAttr (Value.ref _) _ _) _ _ _); refine setE1 (by assumption) (by assumption) (by assumption) (List.forall_mem_nil _) TE (by k_is) ?_; intro D' h' tt' n' m' x' F' N'; k_sweep) | walk1 | (dsimp only; walk1) | (leave1; try dsimp only) | fail "no step"))
  rename Fr _ _ _ _ => FF
  rename News _ _ _ _ => NN
  have no : ∀ {a : Addr}, g.get? a = none → a ≠ e → s.heap.get? a = none := fun {a} n ne => by
   cases q : s.heap.get? a with
   | none => rfl
   | some o => rw [S2 a o q (nm1 ne)] at n; cases n
  exact hQ D' h' tp' _ tt' (no (NN _ (.head _)).2.2 x') (no nt' et') (fun b o ne q => FF.keep b o (S2 b o q (nm1 ne))) (NN _ (.tail _ (.head _))).1 (NN _ (.head _)).1
section
theorem putE {k : Str} (hsh : Int) (key v : Value) : ∀ {es : List DictEntry}, es.any (·.key.isStr k) = false → putL k hsh key v es = es ++ [⟨hsh, key, v⟩]
 | [], _ => rfl
 | e :: r, h => by
  simp only [List.any_cons, Bool.or_eq_false_iff] at h
  unfold putL; rw [h.1, putE hsh key v h.2]; rfl
variable {w : World} {A : Around} {E : Value → Shared → Prop} {s : Shared} {K : Frag} {x C L dx : Addr} {name : Str} {v : Value} {cd : ClassData} {h₀ : Heap} {m : Str → Option Value} {post : List (Addr × Obj)} {fs : Array Value} {es : List DictEntry} {n : Nat}
theorem setE3 {Q : Unit → Shared → Prop} (F : Fr h₀ L s.heap m) (X : K.In h₀) (N : News h₀ L s.heap ((dx, dictOf es n) :: (x, { cls := .ref C, dict := some dx, data := .fields fs }) :: post)) (nx : dx ≠ x) (ne : ∀ p ∈ post, p.1 ≠ dx) (T : TakesE K C cd) (ht : takerIn K C name = some none)
  (hr : es.any (·.refKey) = false) (hn : es.any (·.key.isStr name) = false) (hz : es.length ≤ 900)
  (h : ∀ h' t, Fr h₀ L h' m → News h₀ L h' ((dx, dictOf (es ++ [⟨PyData.keyHash w.params name, .str name t, v⟩]) (n + 1)) :: (x, { cls := .ref C, dict := some dx, data := .fields fs }) :: post) → Q () { s with heap := h', toks := s.toks + 2 }) :
  wpAny (model prog0 w) A (setAttr (.ref x) name v) Q E s := by
 have e : putN name es n = n + 1 := by unfold putN; rw [hn]; rfl
 refine setE2 F X N nx ne T ht hr (fun t => by rw [putE _ _ _ hn, List.length_append]; simp; omega) fun h' t F' N' => h h' t F' ?_
 rw [putE _ _ _ hn, e] at N'
 exact N'
theorem frBut1 {g h h' : Heap} {L e : Addr} {m : Str → Option Value} (F : Fr g L h m) (k : ∀ b o, b ≠ e → h.get? b = some o → h'.get? b = some o) (n : g.get? e = none) (nL : e ≠ L) : Fr g L h' m := by
 obtain ⟨⟨oL, es, ep, hL, r⟩, kp, ab⟩ := F
 exact ⟨⟨oL, es, ep, k _ _ (Ne.symm nL) hL, r⟩, fun b o q => k _ _ (fun z => by rw [← z, q] at n; cases n) (kp b o q), ab⟩
end
theorem nsE {K : Frag} {h : Heap} {N : Addr} {m : Str → Option Value} {n : Str} {v : Value} (X : K.In h) (G : h.Ns N m) (e : nsIn K N n = some (some v)) : m n = some v := by
 obtain ⟨o, es, ep, ho, hd, _, hf⟩ := G
 unfold nsIn at e
 split at e
 ·rename_i q
  have z := X _ _ q
  rw [ho] at z
  cases z
  cases hd
  split at e
  ·rename_i he
   cases e
   rw [← hf]
   unfold nsFind findBy
   rw [← Array.find?_toList, he]
   rfl
  ·split at e <;> cases e
 ·cases e
theorem mkExc {w : World} {mg mb : Str → Option Value} {hB : Heap} {s : Shared} {A : Around} {t1 t2 t3 : Tok} {Q : Value → Shared → Prop} {E : Value → Shared → Prop} (WD : Wd w mg mb hB) (st : hB.StaysIn s.heap) (hh : A.handled = none) (hdp : A.depth ≤ 600) (hu : A.units ≤ 3000)
  (hQ : ∀ (e ED : Addr) h' tk, Keeps s.heap h' → ExcAt h' e ED → s.heap.get? e = none → s.heap.get? ED = none → Q (.ref e) {s with heap := h', toks := tk}) :
  wpAny (model prog0 w) A (PySem.call (.ref 70) [.str (Str.ofString "program_error") t1, .int 0 t2, .str (Str.ofString "a component that is no more") t3]) Q E s := by
 obtain ⟨H, gn, dw, tk, os⟩ := s
 have X := WD.X.keeps st
 have G := Heap.Ns.of_isNs (isNs_of_in X (N := 69) (by kernel_rfl))
 have hi := nsE X G (n := "__init__") (v := .ref 67) (by k_is)
 refine makeE (C := 70) (N := 69) (X 70 _ (by rfl)) (by decide +kernel) (by decide +kernel) (by decide +kernel) (by decide +kernel) G hi (X 67 _ (by rfl)) rfl (show 3 ≤ sizeLine by decide) ?_
 have kp : ∀ b o, H.get? b = some o → ((H.push (tupO [.str (Str.ofString "program_error") t1, .int 0 t2, .str (Str.ofString "a component that is no more") t3])).push (excO 70 H.objs.size)).get? b = some o := fun b o q => Heap.get?_push_of_some _ (Heap.get?_push_of_some _ q)
 have n1 : H.get? (H.objs.size + 1) = none := by
  cases q : H.get? (H.objs.size + 1) with
  | none => rfl
  | some o => exact absurd (Heap.lt_size q) (Nat.not_lt.mpr (Nat.le_succ _))
 have ge : ((H.push (tupO [.str (Str.ofString "program_error") t1, .int 0 t2, .str (Str.ofString "a component that is no more") t3])).push (excO 70 H.objs.size)).get? (H.objs.size + 1) = some (excO 70 H.objs.size) := by heap_get
 generalize ((H.push (tupO [.str (Str.ofString "program_error") t1, .int 0 t2, .str (Str.ofString "a component that is no more") t3])).push (excO 70 H.objs.size)) = H2 at *
 generalize H.objs.size + 1 = e at *
 generalize H.objs.size = t0 at *
 have nB : hB.get? e = none := by
  cases q : hB.get? e with
  | none => rfl
  | some o => rw [st _ _ q] at n1; cases n1
 obtain ⟨cd, TE⟩ := takesE w
 refine wpAny_call ?_
 refine' enterM (news := [(e, excO 70 t0)]) (binds := [(Str.ofString "self", .ref e), (Str.ofString "name", .str (Str.ofString "program_error") t1), (Str.ofString "line", .int 0 t2), (Str.ofString "text", .str (Str.ofString "a component that is no more") t3)]) WD (fun b o q => kp b o (st b o q)) ?hN ?hroom ?ho ?hcd ?hb ?hl ?body ?c1 ?c2 ?c3 ?c4
 k_extra "j"
 case hN => exact List.forall_mem_cons.mpr ⟨⟨ge, nB⟩, List.forall_mem_nil _⟩
 case hroom => show A.depth + 1 < recursionLimit; simp only [recursionLimit]; omega
 case body =>
  intro g L h₁ S1 S2 F' N' KX' T'
  dsimp only
  (repeat' (first | k_extra "h" | walk1 | (dsimp only; walk1) | (leave1; try dsimp only) | fail "no step"))
  k_extra "a"
  refine initErr WD (fun b o q => fF.keep b o (S1 b o q)) ?hd9 ⟨(nN _ (.head _)).1, nB⟩ ?_
  case hd9 => show A.depth + 1 + 1 ≤ 700; omega
  intro D' h' tp' tk' tt' nD' nt' ky' ge' gd'
  have ne : e ≠ L := (nN _ (.head _)).2.1
  have F2 := frBut1 fF ky' (nN _ (.head _)).2.2 ne
  have nDe : D' ≠ e := fun q => by
   have := (nN _ (.head _)).1
   rw [q] at nD'; rw [nD'] at this; cases this
  have nDg : g.get? D' = none := by
   cases q : g.get? D' with
   | none => rfl
   | some o => have := fF.keep _ _ q; rw [nD'] at this; cases this
  have nDL : D' ≠ L := fun q => by
   obtain ⟨_, _, _, hL, _⟩ := fF.ns
   rw [← q, nD'] at hL; cases hL
  have N2 : News g L h' [(D', dictOf [⟨PyData.keyHash w.params (Str.ofString "text"), .str (Str.ofString "text") tt', .str (Str.ofString "a component that is no more") t3⟩] 1), (e, { cls := .ref 70, dict := some D', data := (excO 70 tp').data })] :=
   List.forall_mem_cons.mpr ⟨⟨gd', nDL, nDg⟩, List.forall_mem_cons.mpr ⟨⟨ge', ne, (nN _ (.head _)).2.2⟩, List.forall_mem_nil _⟩⟩
  clear fF nN
  dsimp only at N2
  (repeat' (first | k_extra "h" | ((with_reducible show wpAny _ _ (setAttr (Value.ref _) _ _) _ _ _); refine setE3 (by assumption) (by assumption) (by assumption) nDe (List.forall_mem_nil _) TE (by k_is) (by kernel_rfl) (by kernel_rfl) (Nat.le_of_ble_eq_true rfl) ?_; intro h'' t'' F'' N''; (dsimp only [List.cons_append, List.nil_append] at N''); k_sweep) | walk1 | (dsimp only; walk1) | (leave1; try dsimp only) | fail "no step"))
  rename Fr _ _ _ _ => FF
  rename News _ _ _ _ => NN
  refine hQ e D' _ _ (fun b o q => FF.keep b o (S2 b o (kp b o q) ?k)) ⟨⟨_, (NN _ (.tail _ (.head _))).1⟩, ⟨_, _, _, _, _, _, _, _, _, _, _, _, _, (NN _ (.head _)).1⟩⟩ n1 ?d
  case k => intro z; rw [List.mem_singleton.mp z, n1] at q; cases q
  case d =>
   cases q : H.get? D' with
   | none => rfl
   | some o => rw [S2 D' o (kp D' o q) (fun z => nDe (List.mem_singleton.mp z))] at nDg; cases nDg
end
section
abbrev frs (l : List Env) : List Addr := l.filterMap (·.frame)
def TrD (h base : Heap) (e ED : Addr) (fl : Value) : Prop :=
 ∃ oe vs T oT ts, h.get? e = some oe ∧ (oe.cls = .ref 70 ∧ oe.dict = some ED) ∧ oe.data = .fields vs ∧ vs[1]? = some (.ref T) ∧ base.get? T = none ∧ T ≠ e ∧ h.get? T = some oT ∧ oT.data = .fields ts ∧ ts[3]? = some fl
structure NoteD (base : Heap) (l : List Env) (e ED : Addr) (fl : Value) (h h' : Heap) : Prop where
 st : base.StaysIn h'
 ff : h'.FunFrames base l
 tr : TrD h' base e ED fl
 up : h.UpToSlots h'
structure FlyD (base : Heap) (l : List Env) (e ED : Addr) (h : Heap) : Prop where
 st : base.StaysIn h
 en : base.get? e = none
 ff : h.FunFrames base l
 tr : TrD h base e ED .none
section
variable {M : Model} {A : Around} {E : Value → Shared → Prop} {s : Shared} {base : Heap} {env : Env} {outer l : List Env} {L e ED : Addr} {fl : Value}
theorem dict_map (o : Obj) (f : Array Value → Array Value) : (o.mapFields f).dict = o.dict := by
 unfold Obj.mapFields
 split <;> rfl
theorem upd_keep {h : Heap} {T : Addr} {oT : Obj} {ts : Array Value} (hT : h.get? T = some oT) (hd : oT.data = .fields ts) (f : Obj → Obj) {b : Addr} {o : Obj} (hb : h.get? b = some o) (hn : ∀ vs, o.data ≠ .fields vs) : (h.update T f).get? b = some o := by
 have : T ≠ b := fun q => by rw [q, hb] at hT; cases hT; exact hn _ hd
 rw [Heap.get?_update_other _ _ this]; exact hb
theorem entryD {oe : Obj} {vs : Array Value} {head : Value} {hadNext : Bool} {Q : Unit → Shared → Prop}
  (hfr : A.frames = some (env :: outer)) (hl : s.heap.FunFrames base (env :: outer)) (hf : env.frame = some L)
  (he : s.heap.get? e = some oe) (hc : oe.cls = .ref 70 ∧ oe.dict = some ED) (hkb : base.StaysIn s.heap) (hen : base.get? e = none) (hd : oe.data = .fields vs) (hsz : 1 < vs.size)
  (h : ∀ h', NoteD base (env :: outer) e ED (rawInt L) s.heap h' → Q () { s with heap := h' }) :
  wpAny M A (do let a ← frameOf env; let pl ← entryPlaceOf L hadNext; let b ← EntryCells.newEntry head a .none (rawInt L) .none pl; setField (.ref e) 1 b) Q E s := by
 have hene : e ∉ (env :: outer).filterMap (·.frame) := fun hm => by
  refine xAEAL (hl.mem hm) fun _ o ho hnf => ?_
  rw [he] at ho
  cases ho
  exact hnf vs hd
 refine wpAny_bind (wpAny_frameOf_fun hfr hl hf fun h₁ hs₁ => ?_)
 refine wpAny_bind (wpAny_entryPlaceOf fun pl hpl => ?_)
 unfold EntryCells.newEntry newFields
 refine wpAny_bind (wpAny_newObj_type ?_ (hpl.sizeOk5 _ _ _ _ _))
 have he₁ : h₁.get? e = some oe := (hs₁.2.1 e hene).trans he
 have kb₁ : base.StaysIn h₁ := fun b o hb => (hs₁.2.1 b fun hm => by rw [(hl.mem hm).1] at hb; cases hb).trans (hkb b o hb)
 have lt₁ : e < h₁.objs.size := Heap.lt_size he₁
 refine wpAny_setField (Heap.get?_push_of_some _ he₁) hd hsz (h _ ?_)
 have ne₁ : e ≠ h₁.objs.size := Nat.ne_of_lt lt₁
 have kp : ∀ b o, b ≠ e → h₁.get? b = some o → ∀ X : Obj, ((h₁.push X).update e (Obj.mapFields (·.setIfInBounds 1 (Value.ref h₁.objs.size)))).get? b = some o := fun b o hb ho X => by
  rw [Heap.get?_update_other _ _ (Ne.symm hb)]
  exact Heap.get?_push_of_some _ ho
 have nf : ∀ b o, s.heap.get? b = some o → (∀ ws, o.data ≠ .fields ws) → b ≠ e := fun b o ho hn q => by
  rw [q, he] at ho
  cases ho
  exact hn _ hd
 refine ⟨fun b o hb => kp b o (fun q => by rw [q, hen] at hb; cases hb) (kb₁ b o hb) _, hl.of_keeps fun b o ho hn => ?_, ?_, fun b o ho hn => ?_⟩
 ·refine xEL (hs₁.2.2 b o ho) fun sl hs => ?_
  exact ⟨_, kp b _ (nf b o ho hn) hs _, rfl⟩
 ·refine ⟨_, _, h₁.objs.size, _, _, Heap.get?_update_self _ (Heap.get?_push_of_some _ he₁) (Obj.isFreed_of_fields (Obj.data_mapFields hd _)), ⟨(Obj.cls_mapFields _ _).trans hc.1, (dict_map _ _).trans hc.2⟩, Obj.data_mapFields hd _, ?_, kb₁.fresh, Ne.symm ne₁, (Heap.get?_update_other _ _ ne₁).trans (Heap.get?_push_size _ rfl), rfl, ?_⟩
  ·simp [hsz]
  ·first | (simp; done) | (rcases hpl with rfl | ⟨_, _, _, _, _, _, _, rfl⟩ <;> simp)
 ·refine xEL (hs₁.2.2 b o ho) fun sl hs => ?_
  exact ⟨sl, kp b _ (nf b o ho hn) hs _⟩
theorem noteD1 {oe : Obj} {vs : Array Value} {Q : Unit → Shared → Prop}
  (hfr : A.frames = some (env :: outer)) (hl : s.heap.FunFrames base (env :: outer)) (hf : env.frame = some L)
  (he : s.heap.get? e = some oe) (hc : oe.cls = .ref 70 ∧ oe.dict = some ED) (hkb : base.StaysIn s.heap) (hen : base.get? e = none) (hd : oe.data = .fields vs) (h1 : vs[1]? = some .none)
  (h : ∀ h', NoteD base (env :: outer) e ED (rawInt L) s.heap h' → Q () { s with heap := h' }) : wpAny M A (noteFrame (.ref e) env) Q E s := by
 unfold noteFrame
 simp only [hf]
 refine wpAny_bind (wpAny_field he hd h1 ?_)
 rw [if_neg (by decide)]
 exact entryD hfr hl hf he hc hkb hen hd (Array.getElem?_eq_some_iff.mp h1).1 h
theorem noteD2 {Q : Unit → Shared → Prop} (hfr : A.frames = some (env :: outer)) (hf : env.frame = some L) (F : FlyD base (env :: outer) e ED s.heap)
  (h : ∀ h', NoteD base (env :: outer) e ED (rawInt L) s.heap h' → Q () { s with heap := h' }) : wpAny M A (noteFrame (.ref e) env) Q E s := by
 obtain ⟨hkb, hen, hl, oe, vs, T, oT, ts, he, hc, hd, h1, hnT, hTe, hT, hdT, h3⟩ := F
 unfold noteFrame
 simp only [hf]
 refine wpAny_bind (wpAny_field he hd h1 ?_)
 rw [if_pos (show (Value.ref T != Value.none) = true from by simp)]
 refine wpAny_bind (wpAny_field hT hdT h3 ?_)
 rw [if_neg (show ¬ ((Value.none == rawInt L) = true) from by simp [rawInt])]
 refine wpAny_bind (wpAny_setField hT hdT (Array.getElem?_eq_some_iff.mp h3).1 ?_)
 refine entryD hfr (hl.of_keeps fun b o hb hn => ⟨o, upd_keep hT hdT _ hb hn, rfl⟩) hf ((Heap.get?_update_other _ _ hTe).trans he) hc
  (fun b o hb => (Heap.get?_update_other _ _ (fun q => by rw [← q, hnT] at hb; cases hb)).trans (hkb b o hb)) hen hd (Array.getElem?_eq_some_iff.mp h1).1
  fun h' x => h h' ⟨x.st, x.ff, x.tr, fun b o hb hn => x.up b o (upd_keep hT hdT _ hb hn) hn⟩
theorem flightD {Q : Unit → Shared → Prop} (hkb : base.StaysIn s.heap) (hl : s.heap.FunFrames base l) (t : TrD s.heap base e ED fl)
  (h : ∀ h', NoteD base l e ED .none s.heap h' → Q () { s with heap := h' }) : wpAny M A (setFlight (.ref e) none) Q E s := by
 (refine xEEEEEAAAAAAAAL t fun oe vs T oT ts he hc hd h1 hnT hTe hT hdT h3 => ?_; try clear t)
 have hsz : 3 < ts.size := (Array.getElem?_eq_some_iff.mp h3).1
 unfold setFlight
 refine wpAny_bind (wpAny_field he hd h1 ?_)
 rw [if_pos (show (Value.ref T != Value.none) = true from by simp)]
 refine wpAny_setField hT hdT hsz (h _ ⟨fun b o hb => (Heap.get?_update_other _ _ (fun q => by rw [← q, hnT] at hb; cases hb)).trans (hkb b o hb),
  hl.of_keeps fun b o hb hn => ⟨o, upd_keep hT hdT _ hb hn, rfl⟩, ?_, fun b o hb hn => ⟨o.slots, upd_keep hT hdT _ hb hn⟩⟩)
 exact ⟨oe, vs, T, _, _, (Heap.get?_update_other _ _ hTe).trans he, hc, hd, h1, hnT, hTe, Heap.get?_update_self _ hT (Obj.isFreed_of_fields (Obj.data_mapFields hdT _)), Obj.data_mapFields hdT _, by simp [hsz]⟩
end
def WordAt (h : Heap) (ED : Addr) : Prop := ∃ h1 t1 v1 h2 t2 v2 h3 t3 tw h4 t4 v4 n, h.get? ED = some (quadD h1 t1 v1 h2 t2 v2 h3 t3 (.str (Str.ofString "program_error") tw) h4 t4 v4 n)
def RaisedD (h0 : Heap) (outer : List Env) (e : Addr) (h' : Heap) : Prop :=
 ∃ ED B, FlyD B outer e ED h' ∧ (∀ b o, h0.get? b = some o → b ∉ frs outer → B.get? b = some o) ∧ h0.UpToSlots h' ∧ WordAt B ED ∧ h0.get? ED = none
section
variable {M : Model} {A : Around} {E : Value → Shared → Prop} {s' : Shared} {g h1 : Heap} {outer : List Env} {L a e ED : Addr} {m : Str → Option Value} {name : Str} {scope : Scope} {cd : Value} {Q : Unit → Shared → Prop} {hB : Heap}
theorem frs_mem {b : Addr} (hm : b ∈ frs (envOf name scope L a cd :: outer)) : b = L ∨ b ∈ frs outer := by
 refine xEAL (List.mem_filterMap.mp hm) fun env he hf => ?_
 rcases List.mem_cons.mp he with rfl | he
 ·exact .inl (Option.some.inj hf).symm
 ·exact .inr (List.mem_filterMap.mpr ⟨env, he, hf⟩)
theorem fr_self (F : Fr g L h1 m) : g.get? L = none := by
 cases q : g.get? L with
 | none => rfl
 | some o => exact absurd (Nat.lt_of_lt_of_le (Heap.lt_size q) F.above) (Nat.lt_irrefl _)
theorem ff_hide {h : Heap} {l : List Env} (hl : h.FunFrames hB l) (S : List Addr) (hS : ∀ b ∈ frs l, b ∈ S) : h.FunFrames (hideAll h S) l := by
 induction l with
 | nil => trivial
 | cons env r ih =>
  (refine xAAL hl fun k z173x1 hr => ?_; try clear hl; (refine xEEAAAL z173x1 fun L o hf hn ho hd => ?_; try clear z173x1))
  exact ⟨k, ⟨L, o, hf, hideAll_none _ (hS _ (List.mem_filterMap.mpr ⟨env, .head _, hf⟩)), ho, hd⟩, ih hr fun b hb => by
   refine xEAL (List.mem_filterMap.mp hb) fun x hx hy => ?_
   exact hS b (List.mem_filterMap.mpr ⟨x, .tail _ hx, hy⟩)⟩
theorem goneF {b : Addr} (F : Fr g L h1 m) (n : h1.get? b = none) : g.get? b = none := by
 cases q : g.get? b with
 | none => rfl
 | some o => have := F.keep _ _ q; rw [n] at this; cases this
theorem leave_new (hfr : A.frames = some (envOf name scope L a cd :: outer)) (hl : h1.FunFrames hB (envOf name scope L a cd :: outer)) (hk : Keeps h1 s'.heap) (x : ExcAt s'.heap e ED) (ne : h1.get? e = none) (nd : h1.get? ED = none)
  (F : Fr g L h1 m) (hQ : ∀ h', RaisedD g outer e h' → Q () { s' with heap := h' }) : wpAny M A (leaving (envOf name scope L a cd) (.ref e)) Q E s' := by
 (obtain ⟨z175x0, o2⟩ := x; (refine xEL z175x0 fun t o1 => ?_; try clear z175x0))
 have hin : ∀ b ∈ frs (envOf name scope L a cd :: outer), ∃ o, h1.get? b = some o := fun b hb => by
  refine xAEAL (hl.mem hb) fun _ o ho _ => ?_
  exact ⟨o, ho⟩
 have hl' : s'.heap.FunFrames hB (envOf name scope L a cd :: outer) := hl.of_keeps fun b o ho _ => ⟨o, hk b o ho, rfl⟩
 have hl2 := ff_hide hl' (e :: frs (envOf name scope L a cd :: outer)) fun b hb => .tail _ hb
 have sB : (hideAll s'.heap (e :: frs (envOf name scope L a cd :: outer))).StaysIn s'.heap := fun b o q => of_hideAll _ q
 unfold leaving
 refine wpAny_bind (noteD1 hfr hl2 rfl o1 ⟨rfl, rfl⟩ sB (hideAll_none _ (.head _)) rfl rfl fun h₂ n₂ => ?_)
 refine flightD n₂.st n₂.ff n₂.tr fun h₃ n₃ => hQ h₃ ⟨ED, _, ⟨n₃.st, hideAll_none _ (.head _), n₃.ff.2.2, n₃.tr⟩, fun b o hb nb => ?_, ?_, ?_, goneF F nd⟩
 ·refine hideAll_get _ (hk b o (F.keep b o hb)) fun hm => ?_
  rcases List.mem_cons.mp hm with q | hm
  ·rw [q] at hb
   have := F.keep _ _ hb
   rw [ne] at this; cases this
  ·rcases frs_mem hm with q | q
   ·rw [q, fr_self F] at hb; cases hb
   ·exact nb q
 ·exact ((Heap.UpToSlots.of_keeps F.keep).trans (Heap.UpToSlots.of_keeps hk)).trans (n₂.up.trans n₃.up)
 ·(refine xEEEEEEEEEEEEEL o2 fun y1 y2 y3 y4 y5 y6 y7 y8 y9 y10 y11 y12 y13 q => ?_; try clear o2)
  refine ⟨y1, y2, y3, y4, y5, y6, y7, y8, y9, y10, y11, y12, y13, hideAll_get _ q fun hm => ?_⟩
  rcases List.mem_cons.mp hm with z | hm
  ·rw [z, o1] at q
   have := congrArg (fun o => o.map (·.cls)) q
   simp [dictOf] at this
  ·refine xEL (hin _ hm) fun o ho => ?_
   rw [nd] at ho; cases ho
theorem leave_on (hfr : A.frames = some (envOf name scope L a cd :: outer)) (R : RaisedD h1 (envOf name scope L a cd :: outer) e s'.heap)
  (F : Fr g L h1 m) (hQ : ∀ h', RaisedD g outer e h' → Q () { s' with heap := h' }) : wpAny M A (leaving (envOf name scope L a cd) (.ref e)) Q E s' := by
 (refine xEEAAAAL R fun ED B x hk hu hw hED => ?_; try clear R)
 unfold leaving
 refine wpAny_bind (noteD2 hfr rfl x fun h₂ n₂ => ?_)
 refine flightD n₂.st n₂.ff n₂.tr fun h₃ n₃ => hQ h₃ ⟨ED, B, ⟨n₃.st, x.en, n₃.ff.2.2, n₃.tr⟩, fun b o hb nb => hk b o (F.keep b o hb) fun hm => ?_, ((Heap.UpToSlots.of_keeps F.keep).trans hu).trans (n₂.up.trans n₃.up), hw, goneF F hED⟩
 rcases frs_mem hm with q | q
 ·rw [q, fr_self F] at hb; cases hb
 ·exact nb q
end
end
section
theorem turn_R2 {w : World} {A : Around} {Q : Flow → Shared → Prop} {E : Value → Shared → Prop} {s : Shared} {env : Env} {p : Pos} (h : wpAny (model prog0 w) A (exec (.Pass p) env) Q E s) : wpAny (model prog0 w) A (exec (.Pass p) env) Q E s := by
 first | (walk1; fail "on") | exact h
theorem q70 {w : World} : ktsIn (hd.heap_39 w.params) 70 "Exception" = true := by with_unfolding_all exact Eq.refl true
theorem ffPush {g h hB : Heap} {outer : List Env} {L a : Addr} {m : Str → Option Value} {name : Str} {scope : Scope} {cd : Value} (hl : g.FunFrames hB outer) (st : hB.StaysIn g) (F : Fr g L h m) (hk : scope.kind = .function := by rfl) : h.FunFrames hB (envOf name scope L a cd :: outer) := by
 refine xEEEAAL (F.ns) fun oL es ep hL hd _ => ?_
 refine ⟨?_, ⟨L, oL, rfl, ?_, hL, fun vs q => by rw [hd] at q; cases q⟩, hl.of_keeps fun b o ho _ => ⟨o, F.keep b o ho, rfl⟩⟩
 ·show scope.kind ≠ .module
  rw [hk]; decide
 ·cases q : hB.get? L with
  | none => rfl
  | some o => have := st _ _ q; rw [fr_self F] at this; cases this
def MadeP (w : World) (E : Value → Shared → Prop) (v : Value) (s₁ : Shared) : Prop := ∃ e ED, v = .ref e ∧ (hd.heap_39 w.params).In s₁.heap ∧ ExcAt s₁.heap e ED ∧ E (.ref e) s₁
theorem raiseD {w : World} {M : Model} {A : Around} {E : Value → Shared → Prop} {s : Shared} {env : Env} {x : Expr} {pos : Pos} {Q : Flow → Shared → Prop} (hh : A.handled = none)
  (h : wpAny M A (eval x env) (MadeP w E) E s) :
  wpAny M A (exec (.Raise (some x) none pos) env) Q E s := by
 rw [arm_exec_Raise]
 refine wpAny_bind (wpAny_standAt ?_)
 simp only [evalOpt, Option.map]
 unfold raiseStmt
 refine wpAny_bind (wpAny_bind (wpAny_mono h (fun v s₁ h₁ => wpAny_bind (wpAny_standAt (wpAny_pure ?_))) fun _ _ x => x))
 (refine xEEAAAL h₁ fun e ED z181x2 hX z181x4 hE => ?_; try clear h₁; subst z181x2; (obtain ⟨z85x0, _⟩ := z181x4; obtain ⟨t, he⟩ := z85x0))
 refine xEEEEEEEEEEEEEEEEEAAL (kts_cls hX q70) fun nm qn N bs bm hdct sn sub ab col dd k0 k1 k2 k3 k5 newId hC hbase _ => ?_
 have hcB : (Value.ref 70 :: bm).contains (.type "BaseException") = true := by rw [List.contains_cons, hbase, Bool.or_true]
 obtain ⟨hp, g, d, tk, os⟩ := s₁
 repeat (first | with_reducible refine wpAny_loadPart_at he ?_ | with_reducible refine wpAny_loadPart_at hC ?_ | (with_reducible refine wpAny_isSubtype_exc hC ?_; rw [hcB]) | wp_step)
 exact wpAny_raiseNew_none hh hE
theorem enterE {w : World} {mg mb : Str → Option Value} {hB : Heap} {A : Around} {R : Result → Shared → Prop} {s : Shared}
  {name : Str} {params : Arguments} {body : List Stmt} {scope : Scope} {pm cd doc : Value} {f : Addr} {oc : Value} {od : Option Addr} {osl : Array (Option Value)} {args : List Value} {binds : List (Str × Value)}
  (W : Wd w mg mb hB) (st : hB.StaysIn s.heap)
  (hroom : A.depth < recursionLimit)
  (ho : (hd.heap_39 w.params).lookup f = some ⟨oc, od, .func (docDef name params body scope pm cd doc), osl⟩) (hcd : codeIn (hd.heap_39 w.params) cd name = true)
  (hbind : bindArgs (docDef name params body scope pm cd doc) ⟨args, []⟩ = pure binds)
  (hloc : ∀ x ∈ binds, scope.names.lookup x.1 = some .local)
  (h : ∀ g L h₁, g = s.heap → hB.StaysIn g → Fr g L h₁ (fun x => binds.reverse.lookup x) → News g L h₁ [] → (hd.heap_39 w.params).In g →
   TopRead hd.view_39 (looseW hd.view_39 hd.loose) mg mb g →
   wpAny (model prog0 w) (A.deeper (envOf name scope L f cd)) (execs body (envOf name scope L f cd))
    (fun fl s' => R (.ok (.ret (match fl with | .ret v => v | _ => .none))) s')
    (fun e s' => wpAny (model prog0 w) (A.deeper (envOf name scope L f cd)) (leaving (envOf name scope L f cd) e) (fun _ s'' => R (.error e) s'') (fun e' s'' => R (.error e') s'') s')
    { s with heap := h₁, toks := s.toks + binds.length })
  (hco : scope.isCoroutine = false) (hgen : scope.isGenerator = false) (hk : scope.kind = .function) (hcell : ∀ x ∈ scope.names, x.2 ≠ .cell) :
  codeAny (model prog0 w) A (.call (.ref f) ⟨args, []⟩) R s :=
 call_plain hroom (st _ _ (W.X _ _ ho)) rfl (W.T.nolimit.keeps st) (codeRec_of (W.X.keeps st) hcd) hbind hloc
  (fun h₁ F => h s.heap _ h₁ rfl st F (List.forall_mem_nil _) (W.X.keeps st) (W.T.keeps st)) hco hgen hk hcell
theorem said_11 : True := by
 k_with "z" => (((refine' notInN ?D ?l ?v ?_); (case D => exact dB (by assumption) hFg hdF); (case l => assumption); (case v => exact hval); k_whole))
 k_with "A" => ((refine raiseD (w := w) rfl ?_))
 exact True.intro
local macro_rules | `(tactic| walk_at "compareOp NotIn str ref") => `(tactic| k_extra "z")
local macro_rules | `(tactic| walk_at "exec Raise some none") => `(tactic| k_extra "A")
theorem fields_raise {w : World} {mg mb : Str → Option Value} {hB : Heap} {s : Shared} {R RD FD RT : Addr} {kvs : List (Str × Value)} {name : Str} {tn : Tok} {dd uu : Nat} {gs : Option (List Code)} {outer : List Env} {Q : Value → Shared → Prop} {E : Value → Shared → Prop}
  (WD : Wd w mg mb hB) (st : hB.StaysIn s.heap) (hdd : dd ≤ 500) (huu : uu ≤ 2000) (hF : s.heap.FunFrames hB outer)
  (hA : RecAt w s.heap R RD FD RT kvs) (lo : (FD == sysModules) = false) (hval : valueAt kvs name = none)
  (hE : ∀ e h' tk, RaisedD s.heap outer e h' → E (.ref e) {s with heap := h', toks := tk}) :
  wpAny (model prog0 w) ⟨none, dd, some outer, gs, uu⟩ (call (.ref 194) [.ref R, .str name tn]) Q E s := by
 refine wpAny_call ?_
 refine' enterE (binds := [(Str.ofString "record", .ref R), (Str.ofString "name", .str name tn)]) WD st ?hroom ?ho ?hcd ?hb ?hl ?body ?c1 ?c2 ?c3 ?c4
 k_extra "j"
 case body =>
  intro g L h₁ hgs S1 F' N' KX' T'
  (refine recEl (id hA) fun e1 h1 t1 h2 t2 n2 e2 oF0 hFg hdF f1 f2 f3 => ?_)
  rw [← hgs] at e1 e2 hFg
  have hAg : RecAt w g R RD FD RT kvs := (recMk e1 e2 hFg hdF ⟨f1, f2, f3⟩)
  dsimp only
  (repeat' (first | k_extra "h" | ((with_reducible show wpAny _ _ (call (.ref 70) [Value.str _ _, Value.int _ _, Value.str _ _]) _ _ _); (rename Fr _ _ _ _ => fF); (with_unfolding_all refine' mkExc ?W ?st ?hh ?hd ?hu ?_); (case W => exact WD); (case st => exact stays_of S1 fF); (case hh => rfl); (case hd => k_extra "b"); (case hu => k_extra "b"); intro e' ED' h' tk' hk' x' n1' n2') | k_extra "g"))
  all_goals (try dsimp only)
  show MadeP w _ _ _
  refine ⟨e', ED', rfl, KX'.keeps fun b o e => hk' b o (fF.keep b o e), x', ?_⟩
  refine leave_new rfl (ffPush (by rw [hgs]; exact hF) S1 fF) hk' x' n1' n2' fF fun h'' hR => ?_
  rw [hgs] at hR
  exact hE _ _ _ hR
end
section
open PySem PySem.W PyProof.Rows PySem.Calls
section
theorem said_12 : True := by
 k_with "B" => (exact hQ)
 exact True.intro
local macro_rules | `(tactic| x_close) => `(tactic| k_extra "B")
theorem gaCall {w : World} {s : Shared} {A : Around} {hd0 : Option Value} {e ED : Addr} {vs : Array Value} {sl : Array (Option Value)} {h1 : Int} {t1 : Tok} {v1 : Value} {h2 : Int} {t2 : Tok} {v2 : Value} {h3 : Int} {t3 tw tk : Tok} {h4 : Int} {t4 : Tok} {v4 : Value} {n : Nat} {Q : Value → Shared → Prop} {E : Value → Shared → Prop} (KX : (hd.heap_39 w.params).In s.heap) (hh : A.handled = hd0) (hd : A.depth ≤ 600) (hu : A.units ≤ 3000)
  (he : s.heap.get? e = some { cls := .ref 70, dict := some ED, data := .fields vs, slots := sl }) (hE : s.heap.get? ED = some (quadD h1 t1 v1 h2 t2 v2 h3 t3 (.str (Str.ofString "program_error") tw) h4 t4 v4 n))
  (hQ : Q (.str (Str.ofString "program_error") tw) s) :
  wpAny (model prog0 w) A (PySem.call (.builtin "BaseException.__getattribute__") [.ref e, .str (Str.ofString "word") tk]) Q E s := by
 refine wpAny_weak (A' := { handled := hd0, depth := 600, frames := none, guards := none, units := 3000 }) hh hd rfl rfl hu ?_
 clear hh hd
 simp only [quadD, sText, sName, sWord, sLine, sProg, PySem.W.dictOf] at hE hQ ⊢
 x_run
end
section
variable {w : World} {A : Around} {E : Value → Shared → Prop} {s : Shared} {e : Addr} {oe od : Obj} {Q : Value → Shared → Prop}
theorem ga70 {w : World} : findIn (hd.heap_39 w.params) (.ref 70) "__getattribute__" = some (some (.builtin "BaseException.__getattribute__")) := by k_is
theorem gn70 {w : World} : findIn (hd.heap_39 w.params) (.ref 70) "__getattr__" = some none := by k_is
theorem getWord {expr : Bool} {h1 : Int} {t1 : Tok} {v1 : Value} {h2 : Int} {t2 : Tok} {v2 : Value} {h3 : Int} {t3 tw : Tok} {h4 : Int} {t4 : Tok} {v4 : Value} {n : Nat} (X : (hd.heap_39 w.params).In s.heap) (hd : A.depth ≤ 600) (hu : A.units ≤ 3000)
  (I : InstAt s.heap e oe 70 (some (quadD h1 t1 v1 h2 t2 v2 h3 t3 (.str (Str.ofString "program_error") tw) h4 t4 v4 n))) (hdat : ∃ vs, oe.data = .fields vs)
  (h : Q (.str (Str.ofString "program_error") tw) { s with toks := s.toks + 1 }) : wpAny (model prog0 w) A (getAttr (.ref e) (Str.ofString "word") expr) Q E s := by
 obtain ⟨hh, g, d, t, os⟩ := s
 have L0 := I.type (M := model prog0 w)
 have L1 := looks_findIn (M := model prog0 w) X ga70
 have L2 := looks_findIn (M := model prog0 w) X gn70
 have f3 := PySem.F.attrBase_Exception.ga.bind (.ref e)
 have hx0 : (expr && onTheHeap (Value.builtin "BaseException.__getattribute__")) = false := by cases expr <;> rfl
 have hx2 : (Value.builtin "BaseException.__getattribute__" == Value.builtin "object.__getattribute__") = false := by decide +kernel
 have hx1 : (onTheHeap (Value.ref 70) && Value.builtin "BaseException.__getattribute__" == Value.builtin "object.__getattribute__") = false := by rw [hx2]; rfl
 unfold getAttr getAttrBy
 refine wpAny_bind (wpAny_mkText (wpAny_holding (wpAny_bind (L0.at (wpAny_bind (L1.at ?_))))))
 simp only [hx1, Bool.false_eq_true, if_false]
 unfold getAttrByItsOwn hookBefore
 rw [if_pos (show onTheHeap (Value.ref 70) = true from rfl)]
 refine wpAny_bind (L2.at ?_)
 unfold callGetattribute
 simp only [hx0, Bool.false_eq_true, if_false]
 unfold boundAndCalled
 rw [f3]
 (refine xEL hdat fun vs hv => ?_; try clear hdat)
 obtain ⟨c, dt, da, sl⟩ := oe
 have q1 := I.at_
 have q2 := I.cls
 have q4 := I.dict
 simp only at q2 hv q4
 subst q2 hv
 cases dt with
 | none => exact q4.elim
 | some ED =>
  refine wpAny_bind (wpAny_attempt (wpAny_holding (wpAny_bind (wpAny_pure ?_))))
  refine gaCall X rfl hd hu q1 q4 ?_
  exact wpAny_pure h
end
end
section
def RaisesTo (w : World) (hB : Heap) (D U : Nat) (h0 : Heap) (f : Addr) (args : List Value) : Prop :=
 ∀ (s1 : Shared) (dd uu : Nat) (gs : Option (List Code)) (outer : List Env) (Q : Value → Shared → Prop) (E : Value → Shared → Prop), Keeps h0 s1.heap → dd ≤ D → uu ≤ U → s1.heap.FunFrames hB outer →
  (∀ e h' tk, RaisedD s1.heap outer e h' → E (.ref e) { s1 with heap := h', toks := tk }) → wpAny (model prog0 w) ⟨none, dd, some outer, gs, uu⟩ (call (.ref f) args) Q E s1
theorem read_raise {w : World} {mg mb : Str → Option Value} {hB : Heap} {s : Shared} {P R RD FD RT : Addr} {kvs : List (Str × Value)} {name : Str} {tw tn : Tok} {dd uu : Nat} {gs : Option (List Code)} {outer : List Env} {Q : Value → Shared → Prop} {E : Value → Shared → Prop}
  (WD : Wd w mg mb hB) (st : hB.StaysIn s.heap) (hdd : dd ≤ 488) (huu : uu ≤ 1900) (hF : s.heap.FunFrames hB outer)
  (hP : IsTup s.heap P #[Value.str (Str.ofString "field") tw, .ref R, .str name tn]) (hA : RecAt w s.heap R RD FD RT kvs) (lo : (FD == sysModules) = false) (hval : valueAt kvs name = none)
  (hE : ∀ e h' tk, RaisedD s.heap outer e h' → E (.ref e) {s with heap := h', toks := tk}) :
  wpAny (model prog0 w) ⟨none, dd, some outer, gs, uu⟩ (call (.ref 199) [.ref P]) Q E s := by
 refine wpAny_call ?_
 refine' enterE (binds := [(Str.ofString "place", .ref P)]) WD st ?hroom ?ho ?hcd ?hb ?hl ?body ?c1 ?c2 ?c3 ?c4
 k_extra "j"
 case body =>
  intro g L h₁ hgs S1 F' N' KX' T'
  (refine recEl (id hA) fun e1 h1' t1' h2' t2' n2' e2 oF0 hFg hdF f1 f2 f3 => ?_)
  rw [← hgs] at e1 e2 hFg
  have hAg : RecAt w g R RD FD RT kvs := (recMk e1 e2 hFg hdF ⟨f1, f2, f3⟩)
  have hPg : IsTup g P [Value.str (Str.ofString "field") tw, .ref R, .str name tn].toArray := by rw [hgs]; exact hP
  dsimp only
  (repeat' (first | k_extra "h" | ((with_reducible show wpAny _ _ (call (.ref 194) [Value.ref _, Value.str _ _]) _ _ _); (rename Fr _ _ _ _ => fF); (with_unfolding_all refine' fields_raise ?W ?st ?hd ?hu ?hF ?a1 ?a2 ?a3 ?_); (case W => exact WD); (case st => exact stays_of S1 fF); (case hd => k_extra "b"); (case hu => k_extra "b"); (case hF => exact ffPush (by rw [hgs]; exact hF) S1 fF); (case a1 => exact hAg.keeps fF.keep); (case a2 => exact lo); (case a3 => exact hval); (k_whole; intro e' h' tk' hR'; exact leave_on rfl hR' fF fun h'' hR => hE _ _ _ (by rw [hgs] at hR; exact hR))) | k_extra "g"))
theorem readc_raise {w : World} {mg mb : Str → Option Value} {hB : Heap} {s : Shared} {P R RD FD RT : Addr} {kvs : List (Str × Value)} {name : Str} {tw tn : Tok} {dd uu : Nat} {gs : Option (List Code)} {outer : List Env} {Q : Value → Shared → Prop} {E : Value → Shared → Prop}
  (WD : Wd w mg mb hB) (st : hB.StaysIn s.heap) (hdd : dd ≤ 476) (huu : uu ≤ 1800) (hF : s.heap.FunFrames hB outer)
  (hP : IsTup s.heap P #[Value.str (Str.ofString "field") tw, .ref R, .str name tn]) (hA : RecAt w s.heap R RD FD RT kvs) (lo : (FD == sysModules) = false) (hval : valueAt kvs name = none)
  (hE : ∀ e h' tk, RaisedD s.heap outer e h' → E (.ref e) {s with heap := h', toks := tk}) :
  wpAny (model prog0 w) ⟨none, dd, some outer, gs, uu⟩ (call (.ref 634) [.ref P]) Q E s := by
 refine wpAny_call ?_
 refine' enterE (binds := [(Str.ofString "place", .ref P)]) WD st ?hroom ?ho ?hcd ?hb ?hl ?body ?c1 ?c2 ?c3 ?c4
 k_extra "j"
 case body =>
  intro g L h₁ hgs S1 F' N' KX' T'
  (refine recEl (id hA) fun e1 h1' t1' h2' t2' n2' e2 oF0 hFg hdF f1 f2 f3 => ?_)
  rw [← hgs] at e1 e2 hFg
  have hAg : RecAt w g R RD FD RT kvs := (recMk e1 e2 hFg hdF ⟨f1, f2, f3⟩)
  have hPg : IsTup g P [Value.str (Str.ofString "field") tw, .ref R, .str name tn].toArray := by rw [hgs]; exact hP
  dsimp only
  (repeat' (first | k_extra "h" | ((with_reducible show wpAny _ _ (call (.ref 199) [Value.ref _]) _ _ _); (rename Fr _ _ _ _ => fF); (with_unfolding_all refine' read_raise ?W ?st ?hd ?hu ?hF ?a0 ?a1 ?a2 ?a3 ?_); (case W => exact WD); (case st => exact stays_of S1 fF); (case hd => k_extra "b"); (case hu => k_extra "b"); (case hF => exact ffPush (by rw [hgs]; exact hF) S1 fF); (case a0 => exact hPg.keeps fF.keep); (case a1 => exact hAg.keeps fF.keep); (case a2 => exact lo); (case a3 => exact hval); (k_whole; intro e' h' tk' hR'; exact leave_on rfl hR' fF fun h'' hR => hE _ _ _ (by rw [hgs] at hR; exact hR))) | ((with_reducible show wpAny _ _ (call (.ref 194) [Value.ref _, Value.str _ _]) _ _ _); (rename Fr _ _ _ _ => fF); (with_unfolding_all refine' fields_raise ?W ?st ?hd ?hu ?hF ?a1 ?a2 ?a3 ?_); (case W => exact WD); (case st => exact stays_of S1 fF); (case hd => k_extra "b"); (case hu => k_extra "b"); (case hF => exact ffPush (by rw [hgs]; exact hF) S1 fF); (case a1 => exact hAg.keeps fF.keep); (case a2 => exact lo); (case a3 => exact hval); (k_whole; intro e' h' tk' hR'; exact leave_on rfl hR' fF fun h'' hR => hE _ _ _ (by rw [hgs] at hR; exact hR))) | k_extra "g"))
theorem write_raise {w : World} {mg mb : Str → Option Value} {hB : Heap} {s : Shared} {P R RD FD RT : Addr} {kvs : List (Str × Value)} {name : Str} {tw tn : Tok} {v : Int} {tv : Tok} {dd uu : Nat} {gs : Option (List Code)} {outer : List Env} {Q : Value → Shared → Prop} {E : Value → Shared → Prop}
  (WD : Wd w mg mb hB) (st : hB.StaysIn s.heap) (hdd : dd ≤ 488) (huu : uu ≤ 1900) (hF : s.heap.FunFrames hB outer)
  (hP : IsTup s.heap P #[Value.str (Str.ofString "field") tw, .ref R, .str name tn]) (hA : RecAt w s.heap R RD FD RT kvs) (lo : (FD == sysModules) = false) (hval : valueAt kvs name = none)
  (hE : ∀ e h' tk, RaisedD s.heap outer e h' → E (.ref e) {s with heap := h', toks := tk}) :
  wpAny (model prog0 w) ⟨none, dd, some outer, gs, uu⟩ (call (.ref 204) [.ref P, .int v tv]) Q E s := by
 refine wpAny_call ?_
 refine' enterE (binds := [(Str.ofString "place", .ref P), (Str.ofString "value", .int v tv)]) WD st ?hroom ?ho ?hcd ?hb ?hl ?body ?c1 ?c2 ?c3 ?c4
 k_extra "j"
 case body =>
  intro g L h₁ hgs S1 F' N' KX' T'
  (refine recEl (id hA) fun e1 h1' t1' h2' t2' n2' e2 oF0 hFg hdF f1 f2 f3 => ?_)
  rw [← hgs] at e1 e2 hFg
  have hAg : RecAt w g R RD FD RT kvs := (recMk e1 e2 hFg hdF ⟨f1, f2, f3⟩)
  have hPg : IsTup g P [Value.str (Str.ofString "field") tw, .ref R, .str name tn].toArray := by rw [hgs]; exact hP
  dsimp only
  (repeat' (first | k_extra "h" | ((with_reducible show wpAny _ _ (call (.ref 199) [Value.ref _]) _ _ _); (rename Fr _ _ _ _ => fF); (with_unfolding_all refine' read_raise ?W ?st ?hd ?hu ?hF ?a0 ?a1 ?a2 ?a3 ?_); (case W => exact WD); (case st => exact stays_of S1 fF); (case hd => k_extra "b"); (case hu => k_extra "b"); (case hF => exact ffPush (by rw [hgs]; exact hF) S1 fF); (case a0 => exact hPg.keeps fF.keep); (case a1 => exact hAg.keeps fF.keep); (case a2 => exact lo); (case a3 => exact hval); (k_whole; intro e' h' tk' hR'; exact leave_on rfl hR' fF fun h'' hR => hE _ _ _ (by rw [hgs] at hR; exact hR))) | ((with_reducible show wpAny _ _ (call (.ref 194) [Value.ref _, Value.str _ _]) _ _ _); (rename Fr _ _ _ _ => fF); (with_unfolding_all refine' fields_raise ?W ?st ?hd ?hu ?hF ?a1 ?a2 ?a3 ?_); (case W => exact WD); (case st => exact stays_of S1 fF); (case hd => k_extra "b"); (case hu => k_extra "b"); (case hF => exact ffPush (by rw [hgs]; exact hF) S1 fF); (case a1 => exact hAg.keeps fF.keep); (case a2 => exact lo); (case a3 => exact hval); (k_whole; intro e' h' tk' hR'; exact leave_on rfl hR' fF fun h'' hR => hE _ _ _ (by rw [hgs] at hR; exact hR))) | k_extra "g"))
theorem checked_raise_int {w : World} {mg mb : Str → Option Value} {hB : Heap} {s : Shared} {S SD T D : Addr} {es : List DictEntry} {n : Nat} {t1 t2 t3 tv : Tok} {v : Int} {P R RD FD RT : Addr} {kvs : List (Str × Value)} {name : Str} {tw tn : Tok} {dd uu : Nat} {gs : Option (List Code)} {outer : List Env} {Q : Value → Shared → Prop} {E : Value → Shared → Prop}
  (WD : Wd w mg mb hB) (st : hB.StaysIn s.heap) (hdd : dd ≤ 452) (huu : uu ≤ 1600) (hF : s.heap.FunFrames hB outer)
  (hS : SubAt hB S SD T) (hT : TypA hB T D es n) (hk : getL (Str.ofString "kind") es = some (some (.str (Str.ofString "int") t1))) (hlo : getL (Str.ofString "low") es = some (some (.int (-32768) t2))) (hhi : getL (Str.ofString "high") es = some (some (.int 32767 t3))) (h0 : 0 ≤ v) (h1 : v ≤ 100)
  (hP : IsTup s.heap P #[Value.str (Str.ofString "field") tw, .ref R, .str name tn]) (hA : RecAt w s.heap R RD FD RT kvs) (lo : (FD == sysModules) = false) (hval : valueAt kvs name = none)
  (hE : ∀ e h' tk, RaisedD s.heap outer e h' → E (.ref e) {s with heap := h', toks := tk}) :
  wpAny (model prog0 w) ⟨none, dd, some outer, gs, uu⟩ (call (.ref 653) [.ref P, .ref S, .int v tv]) Q E s := by
 refine wpAny_call ?_
 refine' enterE (binds := [(Str.ofString "place", .ref P), (Str.ofString "subtype", .ref S), (Str.ofString "value", .int v tv)]) WD st ?hroom ?ho ?hcd ?hb ?hl ?body ?c1 ?c2 ?c3 ?c4
 k_extra "j"
 case body =>
  intro g L h₁ hgs S1 F' N' KX' T'
  (refine recEl (id hA) fun e1 h1' t1' h2' t2' n2' e2 oF0 hFg hdF f1 f2 f3 => ?_)
  rw [← hgs] at e1 e2 hFg
  have hAg : RecAt w g R RD FD RT kvs := (recMk e1 e2 hFg hdF ⟨f1, f2, f3⟩)
  have hPg : IsTup g P [Value.str (Str.ofString "field") tw, .ref R, .str name tn].toArray := by rw [hgs]; exact hP
  dsimp only
  (repeat' (first | k_extra "h" | ((with_reducible show wpAny _ _ (call (.ref 599) [Value.ref _, Value.int _ _]) _ _ _); k_extra "a"; (with_unfolding_all refine' fit_int ?W ?st ?hd ?hu ?a1 ?a2 ?a3 ?a4 ?a5 ?a6 ?a7 ?_); k_extra "i"; (case a1 => exact (hS.keeps S1).keeps fF.keep); (case a2 => exact (hT.keeps S1).keeps fF.keep); (case a3 => exact hk); (case a4 => exact hlo); (case a5 => exact hhi); (case a6 => exact h0); (case a7 => exact h1); k_whole; intro h' tk' hk'; (obtain F' := Fr.keeps fF hk'); (obtain N' := newsK nN hk'); clear hk'; k_sweep) | ((with_reducible show wpAny _ _ (call (.ref 204) [Value.ref _, Value.int _ _]) _ _ _); (rename Fr _ _ _ _ => fF); (with_unfolding_all refine' write_raise ?W ?st ?hd ?hu ?hF ?a0 ?a1 ?a2 ?a3 ?_); (case W => exact WD); (case st => exact stays_of S1 fF); (case hd => k_extra "b"); (case hu => k_extra "b"); (case hF => exact ffPush (by rw [hgs]; exact hF) S1 fF); (case a0 => exact hPg.keeps fF.keep); (case a1 => exact hAg.keeps fF.keep); (case a2 => exact lo); (case a3 => exact hval); (k_whole; intro e' h' tk' hR'; exact leave_on rfl hR' fF fun h'' hR => hE _ _ _ (by rw [hgs] at hR; exact hR))) | ((with_reducible show wpAny _ _ (call (.ref 199) [Value.ref _]) _ _ _); (rename Fr _ _ _ _ => fF); (with_unfolding_all refine' read_raise ?W ?st ?hd ?hu ?hF ?a0 ?a1 ?a2 ?a3 ?_); (case W => exact WD); (case st => exact stays_of S1 fF); (case hd => k_extra "b"); (case hu => k_extra "b"); (case hF => exact ffPush (by rw [hgs]; exact hF) S1 fF); (case a0 => exact hPg.keeps fF.keep); (case a1 => exact hAg.keeps fF.keep); (case a2 => exact lo); (case a3 => exact hval); (k_whole; intro e' h' tk' hR'; exact leave_on rfl hR' fF fun h'' hR => hE _ _ _ (by rw [hgs] at hR; exact hR))) | ((with_reducible show wpAny _ _ (call (.ref 194) [Value.ref _, Value.str _ _]) _ _ _); (rename Fr _ _ _ _ => fF); (with_unfolding_all refine' fields_raise ?W ?st ?hd ?hu ?hF ?a1 ?a2 ?a3 ?_); (case W => exact WD); (case st => exact stays_of S1 fF); (case hd => k_extra "b"); (case hu => k_extra "b"); (case hF => exact ffPush (by rw [hgs]; exact hF) S1 fF); (case a1 => exact hAg.keeps fF.keep); (case a2 => exact lo); (case a3 => exact hval); (k_whole; intro e' h' tk' hR'; exact leave_on rfl hR' fF fun h'' hR => hE _ _ _ (by rw [hgs] at hR; exact hR))) | k_extra "g"))
theorem checked_raise_arr {w : World} {mg mb : Str → Option Value} {hB : Heap} {s : Shared} {S Y2 : Addr} {P R RD FD RT : Addr} {kvs : List (Str × Value)} {name : Str} {tw tn : Tok} {dd uu : Nat} {gs : Option (List Code)} {outer : List Env} {Q : Value → Shared → Prop} {E : Value → Shared → Prop}
  (WD : Wd w mg mb hB) (st : hB.StaysIn s.heap) (hdd : dd ≤ 452) (huu : uu ≤ 1600) (hF : s.heap.FunFrames hB outer)
  (hY2 : ∃ YD2, s.heap.get? Y2 = some (instObj 131 YD2) ∧ ∃ o, s.heap.get? YD2 = some o)
  (hP : IsTup s.heap P #[Value.str (Str.ofString "field") tw, .ref R, .str name tn]) (hA : RecAt w s.heap R RD FD RT kvs) (lo : (FD == sysModules) = false) (hval : valueAt kvs name = none)
  (hE : ∀ e h' tk, RaisedD s.heap outer e h' → E (.ref e) {s with heap := h', toks := tk}) :
  wpAny (model prog0 w) ⟨none, dd, some outer, gs, uu⟩ (call (.ref 653) [.ref P, .ref S, .ref Y2]) Q E s := by
 refine wpAny_call ?_
 refine' enterE (binds := [(Str.ofString "place", .ref P), (Str.ofString "subtype", .ref S), (Str.ofString "value", .ref Y2)]) WD st ?hroom ?ho ?hcd ?hb ?hl ?body ?c1 ?c2 ?c3 ?c4
 k_extra "j"
 case body =>
  intro g L h₁ hgs S1 F' N' KX' T'
  (refine recEl (id hA) fun e1 h1' t1' h2' t2' n2' e2 oF0 hFg hdF f1 f2 f3 => ?_)
  rw [← hgs] at e1 e2 hFg
  have hAg : RecAt w g R RD FD RT kvs := (recMk e1 e2 hFg hdF ⟨f1, f2, f3⟩)
  have hPg : IsTup g P [Value.str (Str.ofString "field") tw, .ref R, .str name tn].toArray := by rw [hgs]; exact hP
  (refine xEAEL hY2 fun YD2 qY2 oD2 qYD2 => ?_; try clear hY2)
  rw [← hgs] at qY2 qYD2
  dsimp only
  (repeat' (first | k_extra "h" | ((with_reducible show wpAny _ _ (call (.ref 599) [Value.ref _, Value.int _ _]) _ _ _); k_extra "a"; (with_unfolding_all refine' fit_int ?W ?st ?hd ?hu ?a1 ?a2 ?a3 ?a4 ?a5 ?a6 ?a7 ?_); k_extra "i"; (case a1 => exact (hS.keeps S1).keeps fF.keep); (case a2 => exact (hT.keeps S1).keeps fF.keep); (case a3 => exact hk); (case a4 => exact hlo); (case a5 => exact hhi); (case a6 => exact h0); (case a7 => exact h1); k_whole; intro h' tk' hk'; (obtain F' := Fr.keeps fF hk'); (obtain N' := newsK nN hk'); clear hk'; k_sweep) | ((with_reducible show wpAny _ _ (call (.ref 204) [Value.ref _, Value.int _ _]) _ _ _); (rename Fr _ _ _ _ => fF); (with_unfolding_all refine' write_raise ?W ?st ?hd ?hu ?hF ?a0 ?a1 ?a2 ?a3 ?_); (case W => exact WD); (case st => exact stays_of S1 fF); (case hd => k_extra "b"); (case hu => k_extra "b"); (case hF => exact ffPush (by rw [hgs]; exact hF) S1 fF); (case a0 => exact hPg.keeps fF.keep); (case a1 => exact hAg.keeps fF.keep); (case a2 => exact lo); (case a3 => exact hval); (k_whole; intro e' h' tk' hR'; exact leave_on rfl hR' fF fun h'' hR => hE _ _ _ (by rw [hgs] at hR; exact hR))) | ((with_reducible show wpAny _ _ (call (.ref 199) [Value.ref _]) _ _ _); (rename Fr _ _ _ _ => fF); (with_unfolding_all refine' read_raise ?W ?st ?hd ?hu ?hF ?a0 ?a1 ?a2 ?a3 ?_); (case W => exact WD); (case st => exact stays_of S1 fF); (case hd => k_extra "b"); (case hu => k_extra "b"); (case hF => exact ffPush (by rw [hgs]; exact hF) S1 fF); (case a0 => exact hPg.keeps fF.keep); (case a1 => exact hAg.keeps fF.keep); (case a2 => exact lo); (case a3 => exact hval); (k_whole; intro e' h' tk' hR'; exact leave_on rfl hR' fF fun h'' hR => hE _ _ _ (by rw [hgs] at hR; exact hR))) | ((with_reducible show wpAny _ _ (call (.ref 194) [Value.ref _, Value.str _ _]) _ _ _); (rename Fr _ _ _ _ => fF); (with_unfolding_all refine' fields_raise ?W ?st ?hd ?hu ?hF ?a1 ?a2 ?a3 ?_); (case W => exact WD); (case st => exact stays_of S1 fF); (case hd => k_extra "b"); (case hu => k_extra "b"); (case hF => exact ffPush (by rw [hgs]; exact hF) S1 fF); (case a1 => exact hAg.keeps fF.keep); (case a2 => exact lo); (case a3 => exact hval); (k_whole; intro e' h' tk' hR'; exact leave_on rfl hR' fF fun h'' hR => hE _ _ _ (by rw [hgs] at hR; exact hR))) | k_extra "g"))
theorem into_raise_int {w : World} {mg mb : Str → Option Value} {hB : Heap} {s : Shared} {Pl Sb : Addr} {v : Int} {tv : Tok} {dd uu : Nat} {gs : Option (List Code)} {outer : List Env} {Q : Value → Shared → Prop} {E : Value → Shared → Prop}
  (WD : Wd w mg mb hB) (st : hB.StaysIn s.heap) (hdd : dd ≤ 428) (huu : uu ≤ 1400) (hF : s.heap.FunFrames hB outer)
  (hin : RaisesTo w hB 440 1500 s.heap 653 [.ref Pl, .ref Sb, .int v tv])
  (hE : ∀ e h' tk, RaisedD s.heap outer e h' → E (.ref e) {s with heap := h', toks := tk}) :
  wpAny (model prog0 w) ⟨none, dd, some outer, gs, uu⟩ (call (.ref 646) [.none, .ref Pl, .ref Sb, .int v tv]) Q E s := by
 refine wpAny_call ?_
 refine' enterE (binds := [(Str.ofString "run", .none), (Str.ofString "place", .ref Pl), (Str.ofString "subtype", .ref Sb), (Str.ofString "value", .int v tv)]) WD st ?hroom ?ho ?hcd ?hb ?hl ?body ?c1 ?c2 ?c3 ?c4
 k_extra "j"
 case body =>
  intro g L h₁ hgs S1 F' N' KX' T'
  dsimp only
  (repeat' (first | k_extra "h" | ((with_reducible show wpAny _ _ (call (.ref 653) [Value.ref _, Value.ref _, _]) _ _ _); (rename Fr _ _ _ _ => fF); (with_unfolding_all refine' hin _ _ _ _ _ _ _ ?k ?hd ?hu ?hF ?_); (case k => (rw [← hgs]; exact fF.keep)); (case hd => k_extra "b"); (case hu => k_extra "b"); (case hF => exact ffPush (by rw [hgs]; exact hF) S1 fF); (k_whole; intro e' h' tk' hR'; exact leave_on rfl hR' fF fun h'' hR => hE _ _ _ (by rw [hgs] at hR; exact hR))) | ((with_reducible show wpAny _ _ (call (.ref 599) [Value.ref _, Value.int _ _]) _ _ _); k_extra "a"; (with_unfolding_all refine' fit_int ?W ?st ?hd ?hu ?a1 ?a2 ?a3 ?a4 ?a5 ?a6 ?a7 ?_); k_extra "i"; (case a1 => exact (hS.keeps S1).keeps fF.keep); (case a2 => exact (hT.keeps S1).keeps fF.keep); (case a3 => exact hk); (case a4 => exact hlo); (case a5 => exact hhi); (case a6 => exact h0); (case a7 => exact h1); k_whole; intro h' tk' hk'; (obtain F' := Fr.keeps fF hk'); (obtain N' := newsK nN hk'); clear hk'; k_sweep) | ((with_reducible show wpAny _ _ (call (.ref 204) [Value.ref _, Value.int _ _]) _ _ _); (rename Fr _ _ _ _ => fF); (with_unfolding_all refine' write_raise ?W ?st ?hd ?hu ?hF ?a0 ?a1 ?a2 ?a3 ?_); (case W => exact WD); (case st => exact stays_of S1 fF); (case hd => k_extra "b"); (case hu => k_extra "b"); (case hF => exact ffPush (by rw [hgs]; exact hF) S1 fF); (case a0 => exact hPg.keeps fF.keep); (case a1 => exact hAg.keeps fF.keep); (case a2 => exact lo); (case a3 => exact hval); (k_whole; intro e' h' tk' hR'; exact leave_on rfl hR' fF fun h'' hR => hE _ _ _ (by rw [hgs] at hR; exact hR))) | ((with_reducible show wpAny _ _ (call (.ref 199) [Value.ref _]) _ _ _); (rename Fr _ _ _ _ => fF); (with_unfolding_all refine' read_raise ?W ?st ?hd ?hu ?hF ?a0 ?a1 ?a2 ?a3 ?_); (case W => exact WD); (case st => exact stays_of S1 fF); (case hd => k_extra "b"); (case hu => k_extra "b"); (case hF => exact ffPush (by rw [hgs]; exact hF) S1 fF); (case a0 => exact hPg.keeps fF.keep); (case a1 => exact hAg.keeps fF.keep); (case a2 => exact lo); (case a3 => exact hval); (k_whole; intro e' h' tk' hR'; exact leave_on rfl hR' fF fun h'' hR => hE _ _ _ (by rw [hgs] at hR; exact hR))) | ((with_reducible show wpAny _ _ (call (.ref 194) [Value.ref _, Value.str _ _]) _ _ _); (rename Fr _ _ _ _ => fF); (with_unfolding_all refine' fields_raise ?W ?st ?hd ?hu ?hF ?a1 ?a2 ?a3 ?_); (case W => exact WD); (case st => exact stays_of S1 fF); (case hd => k_extra "b"); (case hu => k_extra "b"); (case hF => exact ffPush (by rw [hgs]; exact hF) S1 fF); (case a1 => exact hAg.keeps fF.keep); (case a2 => exact lo); (case a3 => exact hval); (k_whole; intro e' h' tk' hR'; exact leave_on rfl hR' fF fun h'' hR => hE _ _ _ (by rw [hgs] at hR; exact hR))) | k_extra "g"))
theorem into_raise_arr {w : World} {mg mb : Str → Option Value} {hB : Heap} {s : Shared} {Pl Sb Y2 : Addr} {dd uu : Nat} {gs : Option (List Code)} {outer : List Env} {Q : Value → Shared → Prop} {E : Value → Shared → Prop}
  (WD : Wd w mg mb hB) (st : hB.StaysIn s.heap) (hdd : dd ≤ 428) (huu : uu ≤ 1400) (hF : s.heap.FunFrames hB outer)
  (hY2 : ∃ YD2, s.heap.get? Y2 = some (instObj 131 YD2) ∧ ∃ o, s.heap.get? YD2 = some o)
  (hin : RaisesTo w hB 440 1500 s.heap 653 [.ref Pl, .ref Sb, .ref Y2])
  (hE : ∀ e h' tk, RaisedD s.heap outer e h' → E (.ref e) {s with heap := h', toks := tk}) :
  wpAny (model prog0 w) ⟨none, dd, some outer, gs, uu⟩ (call (.ref 646) [.none, .ref Pl, .ref Sb, .ref Y2]) Q E s := by
 refine wpAny_call ?_
 refine' enterE (binds := [(Str.ofString "run", .none), (Str.ofString "place", .ref Pl), (Str.ofString "subtype", .ref Sb), (Str.ofString "value", .ref Y2)]) WD st ?hroom ?ho ?hcd ?hb ?hl ?body ?c1 ?c2 ?c3 ?c4
 k_extra "j"
 case body =>
  intro g L h₁ hgs S1 F' N' KX' T'
  (refine xEAEL hY2 fun YD2 qY2 oD2 qYD2 => ?_; try clear hY2)
  rw [← hgs] at qY2 qYD2
  dsimp only
  (repeat' (first | k_extra "h" | ((with_reducible show wpAny _ _ (call (.ref 653) [Value.ref _, Value.ref _, _]) _ _ _); (rename Fr _ _ _ _ => fF); (with_unfolding_all refine' hin _ _ _ _ _ _ _ ?k ?hd ?hu ?hF ?_); (case k => (rw [← hgs]; exact fF.keep)); (case hd => k_extra "b"); (case hu => k_extra "b"); (case hF => exact ffPush (by rw [hgs]; exact hF) S1 fF); (k_whole; intro e' h' tk' hR'; exact leave_on rfl hR' fF fun h'' hR => hE _ _ _ (by rw [hgs] at hR; exact hR))) | ((with_reducible show wpAny _ _ (call (.ref 599) [Value.ref _, Value.int _ _]) _ _ _); k_extra "a"; (with_unfolding_all refine' fit_int ?W ?st ?hd ?hu ?a1 ?a2 ?a3 ?a4 ?a5 ?a6 ?a7 ?_); k_extra "i"; (case a1 => exact (hS.keeps S1).keeps fF.keep); (case a2 => exact (hT.keeps S1).keeps fF.keep); (case a3 => exact hk); (case a4 => exact hlo); (case a5 => exact hhi); (case a6 => exact h0); (case a7 => exact h1); k_whole; intro h' tk' hk'; (obtain F' := Fr.keeps fF hk'); (obtain N' := newsK nN hk'); clear hk'; k_sweep) | ((with_reducible show wpAny _ _ (call (.ref 204) [Value.ref _, Value.int _ _]) _ _ _); (rename Fr _ _ _ _ => fF); (with_unfolding_all refine' write_raise ?W ?st ?hd ?hu ?hF ?a0 ?a1 ?a2 ?a3 ?_); (case W => exact WD); (case st => exact stays_of S1 fF); (case hd => k_extra "b"); (case hu => k_extra "b"); (case hF => exact ffPush (by rw [hgs]; exact hF) S1 fF); (case a0 => exact hPg.keeps fF.keep); (case a1 => exact hAg.keeps fF.keep); (case a2 => exact lo); (case a3 => exact hval); (k_whole; intro e' h' tk' hR'; exact leave_on rfl hR' fF fun h'' hR => hE _ _ _ (by rw [hgs] at hR; exact hR))) | ((with_reducible show wpAny _ _ (call (.ref 199) [Value.ref _]) _ _ _); (rename Fr _ _ _ _ => fF); (with_unfolding_all refine' read_raise ?W ?st ?hd ?hu ?hF ?a0 ?a1 ?a2 ?a3 ?_); (case W => exact WD); (case st => exact stays_of S1 fF); (case hd => k_extra "b"); (case hu => k_extra "b"); (case hF => exact ffPush (by rw [hgs]; exact hF) S1 fF); (case a0 => exact hPg.keeps fF.keep); (case a1 => exact hAg.keeps fF.keep); (case a2 => exact lo); (case a3 => exact hval); (k_whole; intro e' h' tk' hR'; exact leave_on rfl hR' fF fun h'' hR => hE _ _ _ (by rw [hgs] at hR; exact hR))) | ((with_reducible show wpAny _ _ (call (.ref 194) [Value.ref _, Value.str _ _]) _ _ _); (rename Fr _ _ _ _ => fF); (with_unfolding_all refine' fields_raise ?W ?st ?hd ?hu ?hF ?a1 ?a2 ?a3 ?_); (case W => exact WD); (case st => exact stays_of S1 fF); (case hd => k_extra "b"); (case hu => k_extra "b"); (case hF => exact ffPush (by rw [hgs]; exact hF) S1 fF); (case a1 => exact hAg.keeps fF.keep); (case a2 => exact lo); (case a3 => exact hval); (k_whole; intro e' h' tk' hR'; exact leave_on rfl hR' fF fun h'' hR => hE _ _ _ (by rw [hgs] at hR; exact hR))) | k_extra "g"))
end
section
theorem kts_base {K : Frag} {h : Heap} {C : Addr} {T : String} (X : K.In h) (q : ktsIn K C T = true) : ∃ nm qn N bs bm hdct sn sub ab col dd k0 k1 k2 k3 k5 newId,
  h.get? C = some (excClassObj nm qn C N bs bm hdct sn sub ab col dd k0 k1 k2 k3 k5 newId) ∧ bm.contains (.type "BaseException") = true := by
 refine xEEEEEEEEEEEEEEEEEAAL (kts_cls X q) fun nm qn N bs bm hdct sn sub ab col dd k0 k1 k2 k3 k5 newId hC hb _ => ?_
 exact iE17 nm qn N bs bm hdct sn sub ab col dd k0 k1 k2 k3 k5 newId ⟨hC, hb⟩
structure UpF (l : List Env) (h h' : Heap) : Prop where
 off : ∀ b o, b ∉ frs l → h.get? b = some o → h'.get? b = some o
 fr : ∀ b o, b ∈ frs l → h.get? b = some o → ∃ sl, h'.get? b = some { o with slots := sl }
section
variable {w : World} {A₀ : Around} {s' : Shared} {hB g h1 : Heap} {outer : List Env} {L a e : Addr} {m mg mb : Str → Option Value} {name n x : Str} {scope : Scope} {cd : Value} {E : Value → Shared → Prop} {b₀ : Stmt} {suite : List Stmt} {pos np : Pos} {rest : List ExceptHandler} {Q : Flow → Shared → Prop}
theorem frTurn {B h' : Heap} (F : Fr g L h1 m) (st : B.StaysIn h') (kp : ∀ b o, h1.get? b = some o → b ∉ frs (envOf name scope L a cd :: outer) → B.get? b = some o) (up : h1.UpToSlots h') : Fr (hideAll g (frs outer)) L h' m := by
 refine ⟨up.ns F.ns, fun b o hb => ?_, by rw [hideAll_size]; exact F.above⟩
 have hg := of_hideAll _ hb
 refine st b o (kp b o (F.keep b o hg) fun hm => ?_)
 rcases frs_mem hm with q | q
 ·rw [q, fr_self F] at hg; cases hg
 ·rw [hideAll_none _ q] at hb; cases hb
theorem caughtD (W : Wd w mg mb hB) (hfr : A₀.frames = some outer) (hF : g.FunFrames hB outer) (st : hB.StaysIn g) (F : Fr g L h1 m) (R : RaisedD h1 (envOf name scope L a cd :: outer) e s'.heap)
  (ex : nsIn (hd.heap_39 w.params) mainGlobals x = some (some (.ref 70)))
  (k : ∀ g' h' oe fo tk h1 t1 v1 h2 t2 v2 h3 t3 tw h4 t4 v4 n', hB.StaysIn g' → (hd.heap_39 w.params).In g' → TopRead hd.view_39 (looseW hd.view_39 hd.loose) mg mb g' → Fr g' L h' (fun y => if y = n then some (.ref e) else m y) → News g' L h' fo →
   (∀ b o, g.get? b = some o → b ∉ frs outer → g'.get? b = some o) → (∀ b o, b ∈ frs outer → g.get? b = some o → ∃ sl, (b, { o with slots := sl }) ∈ fo) →
   InstAt h' e oe 70 (some (quadD h1 t1 v1 h2 t2 v2 h3 t3 (.str (Str.ofString "program_error") tw) h4 t4 v4 n')) → (∃ vs, oe.data = .fields vs) →
   wpAny (model prog0 w) ((A₀.deeper (envOf name scope L a cd)).mark (some (.ref e))) (execs (b₀ :: suite) (envOf name scope L a cd))
    (fun f s₄ => wpAny (model prog0 w) (A₀.deeper (envOf name scope L a cd)) (do bindName (envOf name scope L a cd) n .none; unbindBehindTheSuite (envOf name scope L a cd) n pos) (fun _ s₅ => Q f s₅) E s₄)
    (fun _ _ => False) { s' with heap := h', toks := tk })
  (hk : scope.kind = .function := by rfl) (hlo : (envOf name scope L a cd).kindOf n = some .local := by rfl) (hx : (envOf name scope L a cd).kindOf x = some .globalImplicit := by rfl) (hd' : (x == ("__debug__" : Str)) = false := by decide) :
  wpAny (model prog0 w) (A₀.deeper (envOf name scope L a cd)) (noteFrame (.ref e) (envOf name scope L a cd))
   (fun _ s₂ => wpAny (model prog0 w) (A₀.deeper (envOf name scope L a cd)) (setFlight (.ref e) none) (fun _ s₃ =>
    wpAny (model prog0 w) (A₀.deeper (envOf name scope L a cd)) (handleBy (.ref e) (envOf name scope L a cd) (.ExceptHandler (some (.Name x np)) (some n) (b₀ :: suite) pos :: rest)) Q E s₃) E s₂) E s' := by
 (refine xEEAAAAL R fun ED B fl hkp hup hw hED => ?_; try clear R)
 refine noteD2 (Around.frames_deeper hfr) rfl fl fun h₄ n₄ => ?_
 refine flightD n₄.st n₄.ff n₄.tr fun h₅ n₅ => ?_
 have F₅ := frTurn F n₅.st hkp (hup.trans (n₄.up.trans n₅.up))
 have stg : hB.StaysIn (hideAll g (frs outer)) := fun b o hb => hideAll_get _ (st b o hb) fun hm => by
  rw [(hF.mem hm).1] at hb; cases hb
 have X₅ := W.X.keeps stg
 have P₅ := W.T.keeps stg
 refine xEEEEEEEEEEEEEEEEEAL (kts_base X₅ q70) fun nm q' N bs bm hdct sn sub ab col dd k0 k1 k2 k3 k5 newId hC hbase => ?_
 have hC₅ := F₅.keep _ _ hC
 (refine xEEEEEAAAAAAAAL (id n₅.tr) fun oe vs T oT ts he z196x6 hd hh1 hnT hTe hT hdT hh3 => ?_; (refine xAL z196x6 fun hc hdi => ?_; try clear z196x6))
 refine wpAny_handleBy_cons (codeAny_handlers_test (name_K F₅ X₅ P₅ ex ?_ hk hx hd')) (by intro q; cases q)
 refine wpAny_excMatches_sub_self hC₅ he hc hbase (codeAny_handlers_suite_as ?_)
 refine flightD n₅.st n₅.ff n₅.tr fun h₆ n₆ => ?_
 have u6 := hup.trans (n₄.up.trans (n₅.up.trans n₆.up))
 have F₆ := frTurn F n₆.st hkp u6
 (refine xEEEEEAAAL (id n₆.tr) fun oe6 vs6 T6 oT6 ts6 he6 z197x6 hd6 _ => ?_; (refine xAL z197x6 fun hc6 hdi6 => ?_; try clear z197x6))
 (refine xEEEEEEEEEEEEEL hw fun y1 y2 y3 y4 y5 y6 y7 y8 y9 y10 y11 y12 y13 hwo => ?_; try clear hw)
 have N₆ : News (hideAll g (frs outer)) L h₆ ((e, oe6) :: (ED, quadD y1 y2 y3 y4 y5 y6 y7 y8 (.str (Str.ofString "program_error") y9) y10 y11 y12 y13) :: frO h₆ (frs outer)) := fun q hq => by
  rcases List.mem_cons.mp hq with rfl | hq
  ·refine ⟨he6, fun z => ?_, ?_⟩
   ·refine xEEEAAL (F₆.ns) fun oL es ep hL hLd _ => ?_
    have z' : e = L := z
    rw [← z', he6] at hL
    cases hL
    rw [hd6] at hLd; cases hLd
   ·cases q : (hideAll g (frs outer)).get? e with
    | none => rfl
    | some o =>
     have hg := of_hideAll _ q
     have := hkp _ _ (F.keep _ _ hg) fun hm => by
      rcases frs_mem hm with z | z
      ·rw [z, fr_self F] at hg; cases hg
      ·rw [hideAll_none _ z] at q; cases q
     rw [fl.en] at this; cases this
  rcases List.mem_cons.mp hq with rfl | hq
  ·refine ⟨n₆.st _ _ hwo, fun z => ?_, ?_⟩
   ·refine xEEEAAL (F.ns) fun oL es ep hL hLd _ => ?_
    have z' : ED = L := z
    rw [← z', hED] at hL
    cases hL
   ·cases q : (hideAll g (frs outer)).get? ED with
    | none => rfl
    | some o => have := F.keep _ _ (of_hideAll _ q); rw [hED] at this; cases this
  ·refine xAL (frO_mem hq) fun m1 m2 => ?_
   refine ⟨m2, fun z => ?_, hideAll_none _ m1⟩
   refine xAEAL (hF.mem m1) fun _ o ho _ => ?_
   rw [z, fr_self F] at ho; cases ho
 refine stN F₆ N₆ (fun h₇ F₇ N₇ => ?_) hk hlo
 refine wpAny_mono (k _ h₇ oe6 (frO h₆ (frs outer)) _ y1 y2 y3 y4 y5 y6 y7 y8 y9 y10 y11 y12 y13 stg X₅ P₅ F₇ (fun q hq => N₇ q (.tail _ (.tail _ hq))) (fun b o hb nb => hideAll_get _ hb nb) (fun b o hb ho => ?_) ⟨(N₇ (e, oe6) (.head _)).1, hc6, ?_, ?_⟩ ⟨_, hd6⟩) (fun _ _ z => z) (fun _ _ z => z.elim)
 ·refine xAEAL (hF.mem hb) fun _ o' ho' hnf => ?_
  rw [ho] at ho'
  cases ho'
  refine xEL (u6 b o (F.keep _ _ ho) hnf) fun sl hs => ?_
  exact ⟨sl, frO_in hb hs⟩
 ·unfold notCls
  rw [hd6]
 ·rw [hdi6]
  exact (N₇ (ED, _) (.tail _ (.head _))).1
end
theorem stored_raise {w : World} {mg mb : Str → Option Value} {hB : Heap} {s : Shared} {Pl Sb : Addr} {v : Value} {dd uu : Nat} {gs : Option (List Code)} {outer : List Env} {Q : Value → Shared → Prop} {E : Value → Shared → Prop}
  (WD : Wd w mg mb hB) (st : hB.StaysIn s.heap) (hdd : dd ≤ 416) (huu : uu ≤ 1300) (hF : s.heap.FunFrames hB outer)
  (hin : RaisesTo w hB 428 1400 s.heap 646 [.none, .ref Pl, .ref Sb, v])
  (hQ : ∀ t h' tk, UpF outer s.heap h' → Q (.str (Str.ofString "program_error") t) {s with heap := h', toks := tk}) :
  wpAny (model prog0 w) ⟨none, dd, some outer, gs, uu⟩ (call (.ref 709) [.ref Pl, .ref Sb, v]) Q E s := by
 refine wpAny_call ?_
 refine' enterE (binds := [(Str.ofString "place", .ref Pl), (Str.ofString "subtype", .ref Sb), (Str.ofString "value", v)]) WD st ?hroom ?ho ?hcd ?hb ?hl ?body ?c1 ?c2 ?c3 ?c4
 k_extra "j"
 case body =>
  intro g L h₁ hgs S1 F' N' KX' T'
  dsimp only
  refine execsC fun qk0 hn0 hr0 => ?_
  (repeat' (first | k_extra "h" | ((with_reducible show wpAny _ _ (getAttr (Value.ref _) _ _) _ _ _); ((rename Fr _ _ _ _ => fF7); (refine' getWord ?X ?d ?u ?I ?v ?_); (case I => exact hI); (case X => exact KX2.keeps fF7.keep); (case d => (dsimp only [Around.deeper, Around.mark]; omega)); (case u => (dsimp only [Around.deeper, Around.mark]; omega)); (case v => exact hdat); k_whole)) | ((with_reducible show wpAny _ _ (call (.ref 646) [Value.none, Value.ref _, Value.ref _, _]) _ _ _); (rename Fr _ _ _ _ => fF); (with_unfolding_all refine' hin _ _ _ _ _ _ _ ?k ?hd ?hu ?hF ?_); (case k => (rw [← hgs]; exact fF.keep)); (case hd => k_extra "b"); (case hu => k_extra "b"); (case hF => exact ffPush (by rw [hgs]; exact hF) S1 fF); k_whole; intro e' h' tk' hR'; refine held ?_) | k_extra "g"))
  all_goals (try dsimp only)
  unfold Held
  (with_unfolding_all refine' caughtD ?W ?hfr ?hF2 ?st ?F ?R ?ex ?_ ?k1 ?k2 ?k3 ?k4)
  case W => exact WD
  case hfr => exact rfl
  case F => exact fF
  case hF2 => (rw [hgs]; exact hF)
  case st => exact S1
  case R => exact hR'
  case ex => k_is
  case k1 => rfl
  case k2 => rfl
  case k3 => rfl
  case k4 => decide
  intro g' h' oe fo tk q1 q2 q3 q4 q5 q6 q7 q8 q9 q10 q11 q12 q13 stg KX2 T2 F2 N2 hg1 hg2 hI hdat
  clear fF N' KX' T' hR'
  dsimp only
  (repeat' (first | k_extra "h" | ((with_reducible show wpAny _ _ (getAttr (Value.ref _) _ _) _ _ _); ((rename Fr _ _ _ _ => fF7); (refine' getWord ?X ?d ?u ?I ?v ?_); (case I => exact hI); (case X => exact KX2.keeps fF7.keep); (case d => (dsimp only [Around.deeper, Around.mark]; omega)); (case u => (dsimp only [Around.deeper, Around.mark]; omega)); (case v => exact hdat); k_whole)) | ((with_reducible show wpAny _ _ (call (.ref 646) [Value.none, Value.ref _, Value.ref _, _]) _ _ _); (rename Fr _ _ _ _ => fF); (with_unfolding_all refine' hin _ _ _ _ _ _ _ ?k ?hd ?hu ?hF ?_); (case k => (rw [← hgs]; exact fF.keep)); (case hd => k_extra "b"); (case hu => k_extra "b"); (case hF => exact ffPush (by rw [hgs]; exact hF) S1 fF); k_whole; intro e' h' tk' hR'; refine held ?_) | k_extra "g"))
  rename Fr _ _ _ _ => fF8
  rename News _ _ _ _ => nN8
  refine name_goes fF8 nN8 ?_ rfl rfl
  intro h8 m8 FF NN
  refine hr0 _ _ nRet ?_
  all_goals (try dsimp only)
  rw [hgs] at hg1 hg2
  exact hQ _ _ _ ⟨fun b o nb e => FF.keep b o (hg1 b o e nb), fun b o hb e => by refine xEL (hg2 b o hb e) fun sl hm => ?_; exact ⟨sl, (NN _ hm).1⟩⟩
theorem lread_raise {w : World} {mg mb : Str → Option Value} {hB : Heap} {s : Shared} {Pl : Addr} {dd uu : Nat} {gs : Option (List Code)} {outer : List Env} {Q : Value → Shared → Prop} {E : Value → Shared → Prop}
  (WD : Wd w mg mb hB) (st : hB.StaysIn s.heap) (hdd : dd ≤ 416) (huu : uu ≤ 1300) (hF : s.heap.FunFrames hB outer)
  (hin : RaisesTo w hB 428 1400 s.heap 634 [.ref Pl])
  (hQ : ∀ t h' tk, UpF outer s.heap h' → Q (.str (Str.ofString "program_error") t) {s with heap := h', toks := tk}) :
  wpAny (model prog0 w) ⟨none, dd, some outer, gs, uu⟩ (call (.ref 716) [.ref Pl]) Q E s := by
 refine wpAny_call ?_
 refine' enterE (binds := [(Str.ofString "place", .ref Pl)]) WD st ?hroom ?ho ?hcd ?hb ?hl ?body ?c1 ?c2 ?c3 ?c4
 k_extra "j"
 case body =>
  intro g L h₁ hgs S1 F' N' KX' T'
  dsimp only
  refine execsC fun qk0 hn0 hr0 => ?_
  (repeat' (first | k_extra "h" | ((with_reducible show wpAny _ _ (getAttr (Value.ref _) _ _) _ _ _); ((rename Fr _ _ _ _ => fF7); (refine' getWord ?X ?d ?u ?I ?v ?_); (case I => exact hI); (case X => exact KX2.keeps fF7.keep); (case d => (dsimp only [Around.deeper, Around.mark]; omega)); (case u => (dsimp only [Around.deeper, Around.mark]; omega)); (case v => exact hdat); k_whole)) | ((with_reducible show wpAny _ _ (call (.ref 634) [Value.ref _]) _ _ _); (rename Fr _ _ _ _ => fF); (with_unfolding_all refine' hin _ _ _ _ _ _ _ ?k ?hd ?hu ?hF ?_); (case k => (rw [← hgs]; exact fF.keep)); (case hd => k_extra "b"); (case hu => k_extra "b"); (case hF => exact ffPush (by rw [hgs]; exact hF) S1 fF); k_whole; intro e' h' tk' hR'; refine held ?_) | ((with_reducible show wpAny _ _ (call (.ref 646) [Value.none, Value.ref _, Value.ref _, _]) _ _ _); (rename Fr _ _ _ _ => fF); (with_unfolding_all refine' hin _ _ _ _ _ _ _ ?k ?hd ?hu ?hF ?_); (case k => (rw [← hgs]; exact fF.keep)); (case hd => k_extra "b"); (case hu => k_extra "b"); (case hF => exact ffPush (by rw [hgs]; exact hF) S1 fF); k_whole; intro e' h' tk' hR'; refine held ?_) | k_extra "g"))
  all_goals (try dsimp only)
  unfold Held
  (with_unfolding_all refine' caughtD ?W ?hfr ?hF2 ?st ?F ?R ?ex ?_ ?k1 ?k2 ?k3 ?k4)
  case W => exact WD
  case hfr => exact rfl
  case F => exact fF
  case hF2 => (rw [hgs]; exact hF)
  case st => exact S1
  case R => exact hR'
  case ex => k_is
  case k1 => rfl
  case k2 => rfl
  case k3 => rfl
  case k4 => decide
  intro g' h' oe fo tk q1 q2 q3 q4 q5 q6 q7 q8 q9 q10 q11 q12 q13 stg KX2 T2 F2 N2 hg1 hg2 hI hdat
  clear fF N' KX' T' hR'
  dsimp only
  (repeat' (first | k_extra "h" | ((with_reducible show wpAny _ _ (getAttr (Value.ref _) _ _) _ _ _); ((rename Fr _ _ _ _ => fF7); (refine' getWord ?X ?d ?u ?I ?v ?_); (case I => exact hI); (case X => exact KX2.keeps fF7.keep); (case d => (dsimp only [Around.deeper, Around.mark]; omega)); (case u => (dsimp only [Around.deeper, Around.mark]; omega)); (case v => exact hdat); k_whole)) | ((with_reducible show wpAny _ _ (call (.ref 634) [Value.ref _]) _ _ _); (rename Fr _ _ _ _ => fF); (with_unfolding_all refine' hin _ _ _ _ _ _ _ ?k ?hd ?hu ?hF ?_); (case k => (rw [← hgs]; exact fF.keep)); (case hd => k_extra "b"); (case hu => k_extra "b"); (case hF => exact ffPush (by rw [hgs]; exact hF) S1 fF); k_whole; intro e' h' tk' hR'; refine held ?_) | ((with_reducible show wpAny _ _ (call (.ref 646) [Value.none, Value.ref _, Value.ref _, _]) _ _ _); (rename Fr _ _ _ _ => fF); (with_unfolding_all refine' hin _ _ _ _ _ _ _ ?k ?hd ?hu ?hF ?_); (case k => (rw [← hgs]; exact fF.keep)); (case hd => k_extra "b"); (case hu => k_extra "b"); (case hF => exact ffPush (by rw [hgs]; exact hF) S1 fF); k_whole; intro e' h' tk' hR'; refine held ?_) | k_extra "g"))
  rename Fr _ _ _ _ => fF8
  rename News _ _ _ _ => nN8
  refine name_goes fF8 nN8 ?_ rfl rfl
  intro h8 m8 FF NN
  refine hr0 _ _ nRet ?_
  all_goals (try dsimp only)
  rw [hgs] at hg1 hg2
  exact hQ _ _ _ ⟨fun b o nb e => FF.keep b o (hg1 b o e nb), fun b o hb e => by refine xEL (hg2 b o hb e) fun sl hm => ?_; exact ⟨sl, (NN _ hm).1⟩⟩
end
section
variable {w : World} {mg mb : Str → Option Value} {hB : Heap} {s : Shared} {dd uu : Nat} {gs : Option (List Code)} {fr : Option (List Env)} {Q : Value → Shared → Prop} {E : Value → Shared → Prop}
theorem told_int {v : Int} {tv : Tok}
  (WD : Wd w mg mb hB) (st : hB.StaysIn s.heap) (hdd : dd ≤ 500) (huu : uu ≤ 2000)
  (hQ : ∀ h' tk, Keeps s.heap h' → Q (.int v tv) {s with heap := h', toks := tk}) :
  wpAny (model prog0 w) ⟨none, dd, fr, gs, uu⟩ (call (.ref 702) [.int v tv]) Q E s := by
 refine wpAny_call ?_
 refine' enter0 (news := []) (binds := [(Str.ofString "value", .int v tv)]) WD st ?hN ?hroom ?ho ?hcd ?hb ?hl ?body ?c1 ?c2 ?c3 ?c4
 k_extra "j"
 case hN => exact List.forall_mem_nil _
 case body =>
  intro g L h₁ S1 S2 S3 F' N' KX' T' l1
  try simp only [AllLt, and_true] at l1
  dsimp only
  (repeat' (first | k_extra "h" | k_extra "g"))
  all_goals (try dsimp only)
  all_goals (rename Fr _ _ _ _ => FF; exact hQ _ _ fun b o e => FF.keep b o (S2 b o e nNil))
theorem told_arr {Y YD YB YI tp : Addr} {p q : Int}
  (WD : Wd w mg mb hB) (st : hB.StaysIn s.heap) (hdd : dd ≤ 500) (huu : uu ≤ 2000)
  (hY : ArrAt s.heap Y YD YB YI tp p q)
  (hQ : ∀ h' tk, Keeps s.heap h' → Q (.ref YI) {s with heap := h', toks := tk}) :
  wpAny (model prog0 w) ⟨none, dd, fr, gs, uu⟩ (call (.ref 702) [.ref Y]) Q E s := by
 refine wpAny_call ?_
 refine' enter0 (news := []) (binds := [(Str.ofString "value", .ref Y)]) WD st ?hN ?hroom ?ho ?hcd ?hb ?hl ?body ?c1 ?c2 ?c3 ?c4
 k_extra "j"
 case hN => exact List.forall_mem_nil _
 case body =>
  intro g L h₁ S1 S2 S3 F' N' KX' T' l1
  try simp only [AllLt, and_true] at l1
  have y1 := S2 _ _ hY.o1 nNil
  refine xEEEEEL (hY.o2) fun _ _ _ _ _ y2 => ?_
  have y2 := S2 _ _ y2 nNil
  have hYg : ArrAt g Y YD YB YI tp p q := hY.keeps fun b o e => S2 b o e nNil
  dsimp only
  (repeat' (first | k_extra "h" | k_extra "g"))
  all_goals (try dsimp only)
  all_goals (rename Fr _ _ _ _ => FF; exact hQ _ _ fun b o e => FF.keep b o (S2 b o e nNil))
theorem lread_int {P R RD FD RT : Addr} {kvs : List (Str × Value)} {name : Str} {tw tn : Tok} {v : Int} {tv : Tok}
  (WD : Wd w mg mb hB) (st : hB.StaysIn s.heap) (hdd : dd ≤ 464) (huu : uu ≤ 1700)
  (hP : IsTup s.heap P #[Value.str (Str.ofString "field") tw, .ref R, .str name tn]) (hA : RecAt w s.heap R RD FD RT kvs) (lo : (FD == sysModules) = false) (hval : valueAt kvs name = some (.int v tv))
  (hQ : ∀ h' tk, Keeps s.heap h' → Q (.int v tv) {s with heap := h', toks := tk}) :
  wpAny (model prog0 w) ⟨none, dd, fr, gs, uu⟩ (call (.ref 716) [.ref P]) Q E s := by
 refine wpAny_call ?_
 refine' enter0 (news := []) (binds := [(Str.ofString "place", .ref P)]) WD st ?hN ?hroom ?ho ?hcd ?hb ?hl ?body ?c1 ?c2 ?c3 ?c4
 k_extra "j"
 case hN => exact List.forall_mem_nil _
 case body =>
  intro g L h₁ S1 S2 S3 F' N' KX' T' l1
  try simp only [AllLt, and_true] at l1
  have hPg : IsTup g P [Value.str (Str.ofString "field") tw, .ref R, .str name tn].toArray := hP.keeps (fun b o e => S2 b o e nNil)
  have hAg : RecAt w g R RD FD RT kvs := hA.keeps fun b o e => S2 b o e nNil
  dsimp only
  (repeat' (first | k_extra "h" | ((with_reducible show wpAny _ _ (call (.ref 702) [Value.int _ _]) _ _ _); k_extra "a"; (with_unfolding_all refine' told_int ?W ?st ?hd ?hu  ?_); k_extra "i";  k_whole; intro h' tk' hk'; (obtain F' := Fr.keeps fF hk'); (obtain N' := newsK nN hk'); clear hk'; k_sweep) | ((with_reducible show wpAny _ _ (call (.ref 634) [Value.ref _]) _ _ _); k_extra "a"; (with_unfolding_all refine' readc_int ?W ?st ?hd ?hu ?a0 ?a1 ?a2 ?a3 ?_); k_extra "i"; (case a0 => exact hPg.keeps fF.keep); (case a1 => exact hAg.keeps fF.keep); (case a2 => exact lo); (case a3 => exact hval); k_whole; intro h' tk' hk'; (obtain F' := Fr.keeps fF hk'); (obtain N' := newsK nN hk'); clear hk'; k_sweep) | k_extra "g"))
  all_goals (try dsimp only)
  all_goals (rename Fr _ _ _ _ => FF; exact hQ _ _ fun b o e => FF.keep b o (S2 b o e nNil))
theorem lread_arr {P R RD FD RT Y YD YB YI tp : Addr} {kvs : List (Str × Value)} {name : Str} {tw tn : Tok} {p q : Int}
  (WD : Wd w mg mb hB) (st : hB.StaysIn s.heap) (hdd : dd ≤ 464) (huu : uu ≤ 1700)
  (hP : IsTup s.heap P #[Value.str (Str.ofString "field") tw, .ref R, .str name tn]) (hA : RecAt w s.heap R RD FD RT kvs) (lo : (FD == sysModules) = false) (hval : valueAt kvs name = some (.ref Y)) (hY : ArrAt s.heap Y YD YB YI tp p q)
  (hQ : ∀ h' tk, Keeps s.heap h' → Q (.ref YI) {s with heap := h', toks := tk}) :
  wpAny (model prog0 w) ⟨none, dd, fr, gs, uu⟩ (call (.ref 716) [.ref P]) Q E s := by
 refine wpAny_call ?_
 refine' enter0 (news := []) (binds := [(Str.ofString "place", .ref P)]) WD st ?hN ?hroom ?ho ?hcd ?hb ?hl ?body ?c1 ?c2 ?c3 ?c4
 k_extra "j"
 case hN => exact List.forall_mem_nil _
 case body =>
  intro g L h₁ S1 S2 S3 F' N' KX' T' l1
  try simp only [AllLt, and_true] at l1
  have hPg : IsTup g P [Value.str (Str.ofString "field") tw, .ref R, .str name tn].toArray := hP.keeps (fun b o e => S2 b o e nNil)
  have hAg : RecAt w g R RD FD RT kvs := hA.keeps fun b o e => S2 b o e nNil
  have y1 := S2 _ _ hY.o1 nNil
  refine xEEEEEL (hY.o2) fun _ _ _ _ _ y2 => ?_
  have y2 := S2 _ _ y2 nNil
  have hYg : ArrAt g Y YD YB YI tp p q := hY.keeps fun b o e => S2 b o e nNil
  dsimp only
  (repeat' (first | k_extra "h" | ((with_reducible show wpAny _ _ (call (.ref 702) [Value.ref _]) _ _ _); k_extra "a"; (with_unfolding_all refine' told_arr ?W ?st ?hd ?hu ?a0 ?_); k_extra "i"; (case a0 => exact hYg.keeps fF.keep); k_whole; intro h' tk' hk'; (obtain F' := Fr.keeps fF hk'); (obtain N' := newsK nN hk'); clear hk'; k_sweep) | ((with_reducible show wpAny _ _ (call (.ref 634) [Value.ref _]) _ _ _); k_extra "a"; (with_unfolding_all refine' readc_arr ?W ?st ?hd ?hu ?a0 ?a1 ?a2 ?a3 ?a4 ?_); k_extra "i"; (case a0 => exact hPg.keeps fF.keep); (case a1 => exact hAg.keeps fF.keep); (case a2 => exact lo); (case a3 => exact hval); (case a4 => exact hYg.keeps fF.keep); k_whole; intro h' tk' hk'; (obtain F' := Fr.keeps fF hk'); (obtain N' := newsK nN hk'); clear hk'; k_sweep) | ((with_reducible show wpAny _ _ (call (.ref 702) [Value.int _ _]) _ _ _); k_extra "a"; (with_unfolding_all refine' told_int ?W ?st ?hd ?hu  ?_); k_extra "i";  k_whole; intro h' tk' hk'; (obtain F' := Fr.keeps fF hk'); (obtain N' := newsK nN hk'); clear hk'; k_sweep) | ((with_reducible show wpAny _ _ (call (.ref 634) [Value.ref _]) _ _ _); k_extra "a"; (with_unfolding_all refine' readc_int ?W ?st ?hd ?hu ?a0 ?a1 ?a2 ?a3 ?_); k_extra "i"; (case a0 => exact hPg.keeps fF.keep); (case a1 => exact hAg.keeps fF.keep); (case a2 => exact lo); (case a3 => exact hval); k_whole; intro h' tk' hk'; (obtain F' := Fr.keeps fF hk'); (obtain N' := newsK nN hk'); clear hk'; k_sweep) | k_extra "g"))
  all_goals (try dsimp only)
  all_goals (rename Fr _ _ _ _ => FF; exact hQ _ _ fun b o e => FF.keep b o (S2 b o e nNil))
theorem value_int {v : Int} {tv : Tok}
  (WD : Wd w mg mb hB) (st : hB.StaysIn s.heap) (hdd : dd ≤ 500) (huu : uu ≤ 2000)
  (hQ : ∀ h' tk, Keeps s.heap h' → Q (.int v tv) {s with heap := h', toks := tk}) :
  wpAny (model prog0 w) ⟨none, dd, fr, gs, uu⟩ (call (.ref 695) [.int v tv]) Q E s := by
 refine wpAny_call ?_
 refine' enter0 (news := []) (binds := [(Str.ofString "drawn", .int v tv)]) WD st ?hN ?hroom ?ho ?hcd ?hb ?hl ?body ?c1 ?c2 ?c3 ?c4
 k_extra "j"
 case hN => exact List.forall_mem_nil _
 case body =>
  intro g L h₁ S1 S2 S3 F' N' KX' T' l1
  try simp only [AllLt, and_true] at l1
  dsimp only
  (repeat' (first | k_extra "h" | ((with_reducible show wpAny _ _ (call (.ref 702) [Value.ref _]) _ _ _); k_extra "a"; (with_unfolding_all refine' told_arr ?W ?st ?hd ?hu ?a0 ?_); k_extra "i"; (case a0 => exact hYg.keeps fF.keep); k_whole; intro h' tk' hk'; (obtain F' := Fr.keeps fF hk'); (obtain N' := newsK nN hk'); clear hk'; k_sweep) | ((with_reducible show wpAny _ _ (call (.ref 634) [Value.ref _]) _ _ _); k_extra "a"; (with_unfolding_all refine' readc_arr ?W ?st ?hd ?hu ?a0 ?a1 ?a2 ?a3 ?a4 ?_); k_extra "i"; (case a0 => exact hPg.keeps fF.keep); (case a1 => exact hAg.keeps fF.keep); (case a2 => exact lo); (case a3 => exact hval); (case a4 => exact hYg.keeps fF.keep); k_whole; intro h' tk' hk'; (obtain F' := Fr.keeps fF hk'); (obtain N' := newsK nN hk'); clear hk'; k_sweep) | ((with_reducible show wpAny _ _ (call (.ref 702) [Value.int _ _]) _ _ _); k_extra "a"; (with_unfolding_all refine' told_int ?W ?st ?hd ?hu  ?_); k_extra "i";  k_whole; intro h' tk' hk'; (obtain F' := Fr.keeps fF hk'); (obtain N' := newsK nN hk'); clear hk'; k_sweep) | ((with_reducible show wpAny _ _ (call (.ref 634) [Value.ref _]) _ _ _); k_extra "a"; (with_unfolding_all refine' readc_int ?W ?st ?hd ?hu ?a0 ?a1 ?a2 ?a3 ?_); k_extra "i"; (case a0 => exact hPg.keeps fF.keep); (case a1 => exact hAg.keeps fF.keep); (case a2 => exact lo); (case a3 => exact hval); k_whole; intro h' tk' hk'; (obtain F' := Fr.keeps fF hk'); (obtain N' := newsK nN hk'); clear hk'; k_sweep) | k_extra "g"))
  all_goals (try dsimp only)
  all_goals (rename Fr _ _ _ _ => FF; exact hQ _ _ fun b o e => FF.keep b o (S2 b o e nNil))
theorem value_lst {l : Addr} {p q : Int}
  (WD : Wd w mg mb hB) (st : hB.StaysIn s.heap) (hdd : dd ≤ 500) (huu : uu ≤ 2000)
  (hl : ∃ n t3 t4, s.heap.get? l = some (PySem.W.listOf #[.int p t3, .int q t4] n))
  (hQ : ∀ Y YD YB YI tp ta tb h' tk, Keeps s.heap h' → ArrAt h' Y YD YB YI tp p q → IsTup h' tp #[Value.int 1 ta, .int 2 tb] → (∀ a ∈ [Y, YD, YB, YI, tp], s.heap.get? a = none) → [Y, YD, YB, YI].Nodup → Q (.ref Y) {s with heap := h', toks := tk}) :
  wpAny (model prog0 w) ⟨none, dd, fr, gs, uu⟩ (call (.ref 695) [.ref l]) Q E s := by
 refine wpAny_call ?_
 refine' enter0 (news := []) (binds := [(Str.ofString "drawn", .ref l)]) WD st ?hN ?hroom ?ho ?hcd ?hb ?hl ?body ?c1 ?c2 ?c3 ?c4
 k_extra "j"
 case hN => exact List.forall_mem_nil _
 case body =>
  intro g L h₁ S1 S2 S3 F' N' KX' T' l1
  try simp only [AllLt, and_true] at l1
  (refine xEEEL hl fun n t3 t4 hl => ?_)
  have ql : g.IsList l [Value.int p t3, Value.int q t4].toArray := ⟨_, S2 _ _ hl nNil, rfl, _, rfl⟩
  dsimp only
  (repeat' (first | k_extra "h" | ((with_reducible show wpAny _ _ (call (.ref 131) [Value.ref _, Value.ref _]) _ _ _); (with_unfolding_all refine' mkArr ?W ?st ?hh ?hd ?hu ?_); (case W => assumption); (case st => exact stays_of (by assumption) (by assumption)); (case hh => rfl); (case hd => k_extra "b"); (case hu => k_extra "b"); k_whole; intro Y' YD' a1' b1' a2' b2' n' h' tk' hk' g1' g2' ne'; k_extra "a"; (obtain F' := Fr.keeps fF hk'); (obtain N' := newsJ fF nN hk' (more := [(Y', _), (YD', _)]) (List.forall_mem_cons.mpr ⟨g1', List.forall_mem_cons.mpr ⟨g2', List.forall_mem_nil _⟩⟩)); (obtain na' := allNe_of nN g1'.2); (obtain nb' := allNe_of nN g2'.2); (simp only [AllNe, and_true] at na' nb'); (simp only [List.cons_append, List.nil_append] at N'); clear hk' g1' g2'; k_sweep) | ((with_reducible show wpAny _ _ (call (.ref 702) [Value.ref _]) _ _ _); k_extra "a"; (with_unfolding_all refine' told_arr ?W ?st ?hd ?hu ?a0 ?_); k_extra "i"; (case a0 => exact hYg.keeps fF.keep); k_whole; intro h' tk' hk'; (obtain F' := Fr.keeps fF hk'); (obtain N' := newsK nN hk'); clear hk'; k_sweep) | ((with_reducible show wpAny _ _ (call (.ref 634) [Value.ref _]) _ _ _); k_extra "a"; (with_unfolding_all refine' readc_arr ?W ?st ?hd ?hu ?a0 ?a1 ?a2 ?a3 ?a4 ?_); k_extra "i"; (case a0 => exact hPg.keeps fF.keep); (case a1 => exact hAg.keeps fF.keep); (case a2 => exact lo); (case a3 => exact hval); (case a4 => exact hYg.keeps fF.keep); k_whole; intro h' tk' hk'; (obtain F' := Fr.keeps fF hk'); (obtain N' := newsK nN hk'); clear hk'; k_sweep) | ((with_reducible show wpAny _ _ (call (.ref 702) [Value.int _ _]) _ _ _); k_extra "a"; (with_unfolding_all refine' told_int ?W ?st ?hd ?hu  ?_); k_extra "i";  k_whole; intro h' tk' hk'; (obtain F' := Fr.keeps fF hk'); (obtain N' := newsK nN hk'); clear hk'; k_sweep) | ((with_reducible show wpAny _ _ (call (.ref 634) [Value.ref _]) _ _ _); k_extra "a"; (with_unfolding_all refine' readc_int ?W ?st ?hd ?hu ?a0 ?a1 ?a2 ?a3 ?_); k_extra "i"; (case a0 => exact hPg.keeps fF.keep); (case a1 => exact hAg.keeps fF.keep); (case a2 => exact lo); (case a3 => exact hval); k_whole; intro h' tk' hk'; (obtain F' := Fr.keeps fF hk'); (obtain N' := newsK nN hk'); clear hk'; k_sweep) | k_extra "g"))
  all_goals (try dsimp only)
  rename Fr _ _ _ _ => FF
  rename News _ _ _ _ => NN
  refine hQ _ _ _ _ _ _ _ _ _ (fun b o e => FF.keep b o (S2 b o e nNil)) (arrMk ((NN _ (.head _)).1) ((NN _ (.tail _ (.head _))).1) ((NN _ (.tail _ (.tail _ (.tail _ (.head _))))).1) ((NN _ (.tail _ (.tail _ (.head _)))).1)) (NN.isTup (.tail _ (.tail _ (.tail _ (.tail _ (.head _)))))) ?_ ?_
  ·refine List.forall_mem_cons.mpr ⟨?_, List.forall_mem_cons.mpr ⟨?_, List.forall_mem_cons.mpr ⟨?_, List.forall_mem_cons.mpr ⟨?_, List.forall_mem_cons.mpr ⟨?_, List.forall_mem_nil _⟩⟩⟩⟩⟩
   ·exact new_of S2 NN (.head _) nNil
   ·exact new_of S2 NN (.tail _ (.head _)) (by first | k_mem | simp)
   ·exact new_of S2 NN (.tail _ (.tail _ (.tail _ (.head _)))) (by first | k_mem | simp)
   ·exact new_of S2 NN (.tail _ (.tail _ (.head _))) (by first | k_mem | simp)
   ·exact new_of S2 NN (.tail _ (.tail _ (.tail _ (.tail _ (.head _))))) (by first | k_mem | simp)
  ·simp only [List.nodup_cons, List.mem_cons, List.not_mem_nil, or_false, not_or, not_false_eq_true, List.nodup_nil, and_true]
   repeat' (first | k_ne | constructor)
theorem parts 
  (WD : Wd w mg mb hB) (st : hB.StaysIn s.heap) (hdd : dd ≤ 500) (huu : uu ≤ 2000)
  (hQ : ∀ L t1 t2 t3 n h' tk, Keeps s.heap h' → h'.get? L = some (PySem.W.listOf #[Value.str (Str.ofString "cx") t1, .str (Str.ofString "cyz") t2, .str (Str.ofString "c") t3] n) → s.heap.get? L = none → Q (.ref L) {s with heap := h', toks := tk}) :
  wpAny (model prog0 w) ⟨none, dd, fr, gs, uu⟩ (call (.ref 667) []) Q E s := by
 refine wpAny_call ?_
 refine' enter0 (news := []) (binds := []) WD st ?hN ?hroom ?ho ?hcd ?hb ?hl ?body ?c1 ?c2 ?c3 ?c4
 k_extra "j"
 case hN => exact List.forall_mem_nil _
 case body =>
  intro g L h₁ S1 S2 S3 F' N' KX' T' l1
  try simp only [AllLt, and_true] at l1
  dsimp only
  (repeat' (first | k_extra "h" | ((with_reducible show wpAny _ _ (call (.ref 131) [Value.ref _, Value.ref _]) _ _ _); (with_unfolding_all refine' mkArr ?W ?st ?hh ?hd ?hu ?_); (case W => assumption); (case st => exact stays_of (by assumption) (by assumption)); (case hh => rfl); (case hd => k_extra "b"); (case hu => k_extra "b"); k_whole; intro Y' YD' a1' b1' a2' b2' n' h' tk' hk' g1' g2' ne'; k_extra "a"; (obtain F' := Fr.keeps fF hk'); (obtain N' := newsJ fF nN hk' (more := [(Y', _), (YD', _)]) (List.forall_mem_cons.mpr ⟨g1', List.forall_mem_cons.mpr ⟨g2', List.forall_mem_nil _⟩⟩)); (obtain na' := allNe_of nN g1'.2); (obtain nb' := allNe_of nN g2'.2); (simp only [AllNe, and_true] at na' nb'); (simp only [List.cons_append, List.nil_append] at N'); clear hk' g1' g2'; k_sweep) | ((with_reducible show wpAny _ _ (call (.ref 702) [Value.ref _]) _ _ _); k_extra "a"; (with_unfolding_all refine' told_arr ?W ?st ?hd ?hu ?a0 ?_); k_extra "i"; (case a0 => exact hYg.keeps fF.keep); k_whole; intro h' tk' hk'; (obtain F' := Fr.keeps fF hk'); (obtain N' := newsK nN hk'); clear hk'; k_sweep) | ((with_reducible show wpAny _ _ (call (.ref 634) [Value.ref _]) _ _ _); k_extra "a"; (with_unfolding_all refine' readc_arr ?W ?st ?hd ?hu ?a0 ?a1 ?a2 ?a3 ?a4 ?_); k_extra "i"; (case a0 => exact hPg.keeps fF.keep); (case a1 => exact hAg.keeps fF.keep); (case a2 => exact lo); (case a3 => exact hval); (case a4 => exact hYg.keeps fF.keep); k_whole; intro h' tk' hk'; (obtain F' := Fr.keeps fF hk'); (obtain N' := newsK nN hk'); clear hk'; k_sweep) | ((with_reducible show wpAny _ _ (call (.ref 702) [Value.int _ _]) _ _ _); k_extra "a"; (with_unfolding_all refine' told_int ?W ?st ?hd ?hu  ?_); k_extra "i";  k_whole; intro h' tk' hk'; (obtain F' := Fr.keeps fF hk'); (obtain N' := newsK nN hk'); clear hk'; k_sweep) | ((with_reducible show wpAny _ _ (call (.ref 634) [Value.ref _]) _ _ _); k_extra "a"; (with_unfolding_all refine' readc_int ?W ?st ?hd ?hu ?a0 ?a1 ?a2 ?a3 ?_); k_extra "i"; (case a0 => exact hPg.keeps fF.keep); (case a1 => exact hAg.keeps fF.keep); (case a2 => exact lo); (case a3 => exact hval); k_whole; intro h' tk' hk'; (obtain F' := Fr.keeps fF hk'); (obtain N' := newsK nN hk'); clear hk'; k_sweep) | k_extra "g"))
  all_goals (try dsimp only)
  rename Fr _ _ _ _ => FF
  rename News _ _ _ _ => NN
  exact hQ _ _ _ _ _ _ _ (fun b o e => FF.keep b o (S2 b o e nNil)) (NN _ (.head _)).1 (new_of S2 NN (.head _) nNil)
def TapeIs (w : World) (oT : Obj) (l : Addr) (n : Int) : Prop := ∃ tn, oT.IsDictOf (PySem.strKind prog0 w) [(Str.ofString "of", .ref l), (Str.ofString "at", .int n tn)]
theorem tapeI {w : World} {oT : Obj} {l : Addr} {n : Int} {tn : Tok} (h : oT.IsDictOf (PySem.strKind prog0 w) [(Str.ofString "of", .ref l), (Str.ofString "at", .int n tn)]) : TapeIs w oT l n := ⟨_, h⟩
theorem newsNil {g h : Heap} {L : Addr} : News g L h [] := List.forall_mem_nil _
theorem newsCons {g h : Heap} {L a : Addr} {o : Obj} {l : List (Addr × Obj)} (h1 : h.get? a = some o) (h2 : a ≠ L) (h3 : g.get? a = none) (N : News g L h l) : News g L h ((a, o) :: l) := List.forall_mem_cons.mpr ⟨⟨h1, h2, h3⟩, N⟩
structure TapeOk (w : World) (hB h : Heap) (T l : Addr) (vs : List Value) (ns : List Int) : Prop where
 hTB : hB.get? T = none
 lo : (T == sysModules) = false
 hl : h.IsList l vs.toArray
 hi : IntsAre vs ns
 hlT : l ≠ T
 hns : ns.length ≤ 60
theorem TapeOk.keepsOff {w : World} {hB h h' : Heap} {T l : Addr} {vs : List Value} {ns : List Int} {S : List Addr} (x : TapeOk w hB h T l vs ns) (k : KeepsOff S h h') (hS : l ∉ S) : TapeOk w hB h' T l vs ns :=
 ⟨x.hTB, x.lo, let ⟨o, ho, r⟩ := x.hl; ⟨o, k _ _ hS ho, r⟩, x.hi, x.hlT, x.hns⟩
theorem TapeOk.keeps {w : World} {hB h h' : Heap} {T l : Addr} {vs : List Value} {ns : List Int} (x : TapeOk w hB h T l vs ns) (k : Keeps h h') : TapeOk w hB h' T l vs ns :=
 ⟨x.hTB, x.lo, let ⟨o, ho, r⟩ := x.hl; ⟨o, k _ _ ho, r⟩, x.hi, x.hlT, x.hns⟩
theorem drawn_n {T l : Addr} {oT : Obj} {vs : List Value} {ns : List Int} {n : Int} {name : Str} {tn : Tok}
  (WD : Wd w mg mb hB) (st : hB.StaysIn s.heap) (hdd : dd ≤ 476) (huu : uu ≤ 1800)
  (hTO : TapeOk w hB s.heap T l vs ns) (hT : s.heap.get? T = some oT) (hTI : TapeIs w oT l n) (h0 : 0 ≤ n) (h1 : n ≤ 1000) (hn : (name == Str.ofString "y") = false)
  (hQ : ∀ r t oT' h' tk, 0 ≤ r → r < 50 → h'.get? T = some oT' → TapeIs w oT' l (n + 1) → KeepsOff [T] s.heap h' → Q (.int r t) {s with heap := h', toks := tk}) :
  wpAny (model prog0 w) ⟨none, dd, fr, gs, uu⟩ (call (.ref 681) [.ref T, .str name tn]) Q E s := by
 refine wpAny_call ?_
 refine' enter0 (news := [(T, oT)]) (binds := [(Str.ofString "tape", .ref T), (Str.ofString "name", .str name tn)]) WD st ?hN ?hroom ?ho ?hcd ?hb ?hl ?body ?c1 ?c2 ?c3 ?c4
 k_extra "j"
 case hN => exact List.forall_mem_cons.mpr ⟨⟨hT, hTO.hTB⟩, List.forall_mem_nil _⟩
 case body =>
  intro g L h₁ S1 S2 S3 F' N' KX' T' l1
  try simp only [AllLt, and_true] at l1
  have hTg : TapeOk w hB g T l vs ns := hTO.keepsOff (S := [T]) (fun b o nb e => S2 b o e nb) (nm1 hTO.hlT)
  dsimp only
  (repeat' (first | k_extra "h" | ((with_reducible show wpAny _ _ (call (.ref 674) [Value.ref _, Value.int _ _]) _ _ _); k_extra "a"; ((refine xEL hTI fun tnX hdX => ?_; try clear hTI)); (with_unfolding_all refine' next_c ?W ?st ?hd ?hu ?a1 ?a2 ?a3 ?a4 ?a5 ?a6 ?a7 ?a8 ?a9 ?a10 ?a11 ?a12 ?_); k_extra "i"; (case a1 => exact (nN (T, _) (by k_mem)).1); (case a2 => exact hTO.hTB); (case a3 => exact hTO.lo); (case a4 => exact hdX); (case a5 => exact (hTg.keeps fF.keep).hl); (case a6 => exact hTO.hi); (case a7 => exact hTO.hlT); (case a8 => omega); (case a9 => omega); (case a10 => exact hTO.hns); (case a11 => decide); (case a12 => decide); k_whole; intro r' t' oT' h' tk' tn' r0 r1 gT' hd' hk'; (obtain nTL := (nN (T, _) (by k_mem)).2); (obtain F' := frButS fF (S := [T]) hk' (List.forall_mem_cons.mpr ⟨⟨nTL.2, nTL.1⟩, List.forall_mem_nil _⟩)); (obtain N' := newsCons (a := T) (o := oT') gT' nTL.1 nTL.2 (newsNil (h := h'))); (obtain hTI := tapeI hd'); clear hk' hd' hdX fF nN; k_sweep) | ((with_reducible show wpAny _ _ (call (.ref 131) [Value.ref _, Value.ref _]) _ _ _); (with_unfolding_all refine' mkArr ?W ?st ?hh ?hd ?hu ?_); (case W => assumption); (case st => exact stays_of (by assumption) (by assumption)); (case hh => rfl); (case hd => k_extra "b"); (case hu => k_extra "b"); k_whole; intro Y' YD' a1' b1' a2' b2' n' h' tk' hk' g1' g2' ne'; k_extra "a"; (obtain F' := Fr.keeps fF hk'); (obtain N' := newsJ fF nN hk' (more := [(Y', _), (YD', _)]) (List.forall_mem_cons.mpr ⟨g1', List.forall_mem_cons.mpr ⟨g2', List.forall_mem_nil _⟩⟩)); (obtain na' := allNe_of nN g1'.2); (obtain nb' := allNe_of nN g2'.2); (simp only [AllNe, and_true] at na' nb'); (simp only [List.cons_append, List.nil_append] at N'); clear hk' g1' g2'; k_sweep) | ((with_reducible show wpAny _ _ (call (.ref 702) [Value.ref _]) _ _ _); k_extra "a"; (with_unfolding_all refine' told_arr ?W ?st ?hd ?hu ?a0 ?_); k_extra "i"; (case a0 => exact hYg.keeps fF.keep); k_whole; intro h' tk' hk'; (obtain F' := Fr.keeps fF hk'); (obtain N' := newsK nN hk'); clear hk'; k_sweep) | ((with_reducible show wpAny _ _ (call (.ref 634) [Value.ref _]) _ _ _); k_extra "a"; (with_unfolding_all refine' readc_arr ?W ?st ?hd ?hu ?a0 ?a1 ?a2 ?a3 ?a4 ?_); k_extra "i"; (case a0 => exact hPg.keeps fF.keep); (case a1 => exact hAg.keeps fF.keep); (case a2 => exact lo); (case a3 => exact hval); (case a4 => exact hYg.keeps fF.keep); k_whole; intro h' tk' hk'; (obtain F' := Fr.keeps fF hk'); (obtain N' := newsK nN hk'); clear hk'; k_sweep) | ((with_reducible show wpAny _ _ (call (.ref 702) [Value.int _ _]) _ _ _); k_extra "a"; (with_unfolding_all refine' told_int ?W ?st ?hd ?hu  ?_); k_extra "i";  k_whole; intro h' tk' hk'; (obtain F' := Fr.keeps fF hk'); (obtain N' := newsK nN hk'); clear hk'; k_sweep) | ((with_reducible show wpAny _ _ (call (.ref 634) [Value.ref _]) _ _ _); k_extra "a"; (with_unfolding_all refine' readc_int ?W ?st ?hd ?hu ?a0 ?a1 ?a2 ?a3 ?_); k_extra "i"; (case a0 => exact hPg.keeps fF.keep); (case a1 => exact hAg.keeps fF.keep); (case a2 => exact lo); (case a3 => exact hval); k_whole; intro h' tk' hk'; (obtain F' := Fr.keeps fF hk'); (obtain N' := newsK nN hk'); clear hk'; k_sweep) | k_extra "g"))
  all_goals (try dsimp only)
  rename Fr _ _ _ _ => FF
  rename News _ _ _ _ => NN
  exact hQ _ _ _ _ _ r0 r1 (NN (T, _) (by k_mem)).1 hTI (fun b o nb e => FF.keep b o (S2 b o e nb))
theorem drawn_y {T l : Addr} {oT : Obj} {vs : List Value} {ns : List Int} {n : Int} {tn : Tok}
  (WD : Wd w mg mb hB) (st : hB.StaysIn s.heap) (hdd : dd ≤ 476) (huu : uu ≤ 1800)
  (hTO : TapeOk w hB s.heap T l vs ns) (hT : s.heap.get? T = some oT) (hTI : TapeIs w oT l n) (h0 : 0 ≤ n) (h1 : n ≤ 1000)
  (hQ : ∀ r B t1 t2 c oT' h' tk, 0 ≤ r → r < 50 → h'.get? T = some oT' → TapeIs w oT' l (n + 1) → KeepsOff [T] s.heap h' → h'.get? B = some (PySem.W.listOf #[Value.int r t1, .int (r + 3) t2] c) → s.heap.get? B = none → Q (.ref B) {s with heap := h', toks := tk}) :
  wpAny (model prog0 w) ⟨none, dd, fr, gs, uu⟩ (call (.ref 681) [.ref T, .str (Str.ofString "y") tn]) Q E s := by
 refine wpAny_call ?_
 refine' enter0 (news := [(T, oT)]) (binds := [(Str.ofString "tape", .ref T), (Str.ofString "name", .str (Str.ofString "y") tn)]) WD st ?hN ?hroom ?ho ?hcd ?hb ?hl ?body ?c1 ?c2 ?c3 ?c4
 k_extra "j"
 case hN => exact List.forall_mem_cons.mpr ⟨⟨hT, hTO.hTB⟩, List.forall_mem_nil _⟩
 case body =>
  intro g L h₁ S1 S2 S3 F' N' KX' T' l1
  try simp only [AllLt, and_true] at l1
  have hTg : TapeOk w hB g T l vs ns := hTO.keepsOff (S := [T]) (fun b o nb e => S2 b o e nb) (nm1 hTO.hlT)
  dsimp only
  (repeat' (first | k_extra "h" | ((with_reducible show wpAny _ _ (call (.ref 674) [Value.ref _, Value.int _ _]) _ _ _); k_extra "a"; ((refine xEL hTI fun tnX hdX => ?_; try clear hTI)); (with_unfolding_all refine' next_c ?W ?st ?hd ?hu ?a1 ?a2 ?a3 ?a4 ?a5 ?a6 ?a7 ?a8 ?a9 ?a10 ?a11 ?a12 ?_); k_extra "i"; (case a1 => exact (nN (T, _) (by k_mem)).1); (case a2 => exact hTO.hTB); (case a3 => exact hTO.lo); (case a4 => exact hdX); (case a5 => exact (hTg.keeps fF.keep).hl); (case a6 => exact hTO.hi); (case a7 => exact hTO.hlT); (case a8 => omega); (case a9 => omega); (case a10 => exact hTO.hns); (case a11 => decide); (case a12 => decide); k_whole; intro r' t' oT' h' tk' tn' r0 r1 gT' hd' hk'; (obtain nTL := (nN (T, _) (by k_mem)).2); (obtain F' := frButS fF (S := [T]) hk' (List.forall_mem_cons.mpr ⟨⟨nTL.2, nTL.1⟩, List.forall_mem_nil _⟩)); (obtain N' := newsCons (a := T) (o := oT') gT' nTL.1 nTL.2 (newsNil (h := h'))); (obtain hTI := tapeI hd'); clear hk' hd' hdX fF nN; k_sweep) | ((with_reducible show wpAny _ _ (call (.ref 131) [Value.ref _, Value.ref _]) _ _ _); (with_unfolding_all refine' mkArr ?W ?st ?hh ?hd ?hu ?_); (case W => assumption); (case st => exact stays_of (by assumption) (by assumption)); (case hh => rfl); (case hd => k_extra "b"); (case hu => k_extra "b"); k_whole; intro Y' YD' a1' b1' a2' b2' n' h' tk' hk' g1' g2' ne'; k_extra "a"; (obtain F' := Fr.keeps fF hk'); (obtain N' := newsJ fF nN hk' (more := [(Y', _), (YD', _)]) (List.forall_mem_cons.mpr ⟨g1', List.forall_mem_cons.mpr ⟨g2', List.forall_mem_nil _⟩⟩)); (obtain na' := allNe_of nN g1'.2); (obtain nb' := allNe_of nN g2'.2); (simp only [AllNe, and_true] at na' nb'); (simp only [List.cons_append, List.nil_append] at N'); clear hk' g1' g2'; k_sweep) | ((with_reducible show wpAny _ _ (call (.ref 702) [Value.ref _]) _ _ _); k_extra "a"; (with_unfolding_all refine' told_arr ?W ?st ?hd ?hu ?a0 ?_); k_extra "i"; (case a0 => exact hYg.keeps fF.keep); k_whole; intro h' tk' hk'; (obtain F' := Fr.keeps fF hk'); (obtain N' := newsK nN hk'); clear hk'; k_sweep) | ((with_reducible show wpAny _ _ (call (.ref 634) [Value.ref _]) _ _ _); k_extra "a"; (with_unfolding_all refine' readc_arr ?W ?st ?hd ?hu ?a0 ?a1 ?a2 ?a3 ?a4 ?_); k_extra "i"; (case a0 => exact hPg.keeps fF.keep); (case a1 => exact hAg.keeps fF.keep); (case a2 => exact lo); (case a3 => exact hval); (case a4 => exact hYg.keeps fF.keep); k_whole; intro h' tk' hk'; (obtain F' := Fr.keeps fF hk'); (obtain N' := newsK nN hk'); clear hk'; k_sweep) | ((with_reducible show wpAny _ _ (call (.ref 702) [Value.int _ _]) _ _ _); k_extra "a"; (with_unfolding_all refine' told_int ?W ?st ?hd ?hu  ?_); k_extra "i";  k_whole; intro h' tk' hk'; (obtain F' := Fr.keeps fF hk'); (obtain N' := newsK nN hk'); clear hk'; k_sweep) | ((with_reducible show wpAny _ _ (call (.ref 634) [Value.ref _]) _ _ _); k_extra "a"; (with_unfolding_all refine' readc_int ?W ?st ?hd ?hu ?a0 ?a1 ?a2 ?a3 ?_); k_extra "i"; (case a0 => exact hPg.keeps fF.keep); (case a1 => exact hAg.keeps fF.keep); (case a2 => exact lo); (case a3 => exact hval); k_whole; intro h' tk' hk'; (obtain F' := Fr.keeps fF hk'); (obtain N' := newsK nN hk'); clear hk'; k_sweep) | k_extra "g"))
  all_goals (try dsimp only)
  rename Fr _ _ _ _ => FF
  rename News _ _ _ _ => NN
  refine hQ _ _ _ _ _ _ _ _ r0 r1 (NN (T, _) (by k_mem)).1 hTI (fun b o nb e => FF.keep b o (S2 b o e nb)) (NN _ (.head _)).1 (new_of S2 NN (.head _) ?_)
  simp only [List.map_cons, List.map_nil, List.mem_singleton]
  exact Nat.ne_of_gt (by assumption)
end
section
section
variable {a b : Nat} {x0 x1 x2 x3 x4 x5 x6 x7 x8 x9 x10 x11 x12 r : Prop}
end
theorem newsAt {g h : Heap} {L a : Addr} {o : Obj} {l : List (Addr × Obj)} (N : News g L h l) (hm : (a, o) ∈ l) : h.get? a = some o := (N _ hm).1
inductive DD where
 | a (c x : Int)
 | b (c f z : Int)
 | e (c : Int)
def DD.d : DD → Int
 | .a .. => 0
 | .b .. => 1
 | .e .. => 2
def DD.Ok : DD → Prop
 | .a c x => (0 ≤ c ∧ c < 50) ∧ 0 ≤ x ∧ x < 50
 | .b c f z => (0 ≤ c ∧ c < 50) ∧ (0 ≤ f ∧ f < 50) ∧ 0 ≤ z ∧ z < 50
 | .e c => 0 ≤ c ∧ c < 50
def RecKv (Y : Addr) : DD → List (Str × Value) → Prop
 | .a c x, l => ∃ t0 t1 t2, l = [(Str.ofString "d", .int 0 t0), (Str.ofString "c", .int c t1), (Str.ofString "x", .int x t2)]
 | .b c _ z, l => ∃ t0 t1 t2, l = [(Str.ofString "d", .int 1 t0), (Str.ofString "c", .int c t1), (Str.ofString "y", .ref Y), (Str.ofString "z", .int z t2)]
 | .e c, l => ∃ t0 t1, l = [(Str.ofString "d", .int 2 t0), (Str.ofString "c", .int c t1)]
def HasKv (HY : Addr) : DD → List (Str × Value) → Prop
 | .a c x, l => ∃ t1 t2, l = [(Str.ofString "c", .int c t1), (Str.ofString "x", .int x t2)]
 | .b c _ z, l => ∃ t1 t2, l = [(Str.ofString "c", .int c t1), (Str.ofString "y", .ref HY), (Str.ofString "z", .int z t2)]
 | .e c, l => ∃ t1, l = [(Str.ofString "c", .int c t1)]
def bX : DD → List Addr → List Addr
 | .b _ _ _, l => l
 | _, _ => []
def HYat (h : Heap) (HY : Addr) : DD → Prop
 | .b _ f _ => ∃ t3 t4 n, h.get? HY = some (PySem.W.listOf #[.int f t3, .int (f + 3) t4] n)
 | _ => True
def ArrSt (h : Heap) (Y YD YB YI tp : Addr) : DD → Prop
 | .b _ f _ => ArrAt h Y YD YB YI tp f (f + 3) ∧ ∃ ta tb, IsTup h tp #[Value.int 1 ta, .int 2 tb]
 | _ => True
theorem kv2 {v0 v1 : Value} {t : Tok} : stored (strPairs [(.str (Str.ofString "d") t, v0)]) (Str.ofString "c") v1 = [(Str.ofString "d", v0), (Str.ofString "c", v1)] := by
 rw [show strPairs [(.str (Str.ofString "d") t, v0)] = [(Str.ofString "d", v0)] from rfl, stored_new (by simp only [List.map_cons, List.map_nil, List.mem_singleton]; decide +kernel)]
 rfl
theorem kv3 {v0 v1 v2 : Value} {t : Tok} : stored (stored (strPairs [(.str (Str.ofString "d") t, v0)]) (Str.ofString "c") v1) (Str.ofString "x") v2 = [(Str.ofString "d", v0), (Str.ofString "c", v1), (Str.ofString "x", v2)] := by
 rw [kv2, stored_new (by simp only [List.map_cons, List.map_nil]; decide +kernel)]
 rfl
end
section
theorem turn_L2 {w : World} {A : Around} {Q : Flow → Shared → Prop} {E : Value → Shared → Prop} {s : Shared} {env : Env} {p : Pos} (h : wpAny (model prog0 w) A (exec (.Pass p) env) Q E s) : wpAny (model prog0 w) A (exec (.Pass p) env) Q E s := by
 first | (walk1; fail "on") | exact h
variable {w : World} {mg mb : Str → Option Value} {hB : Heap} {s : Shared} {dd uu : Nat} {gs : Option (List Code)} {fr : Option (List Env)} {Q : Value → Shared → Prop} {E : Value → Shared → Prop}
theorem newsUpdC {g h h' : Heap} {L T : Addr} {oT oT' : Obj} {news : List (Addr × Obj)} {f : Obj → List (Addr × Obj)} {P : Prop} (N : News g L h news) (U : UpdF T oT news f) (k : KeepsOff [T] h h') (e : h'.get? T = some oT') (c : News g L h' (f oT') → P) : P := by
 (refine xEEAAAL (U.split) fun pre post z212x2 hg a b => ?_; subst z212x2)
 refine c ?_
 rw [hg]
 intro q hq
 rcases List.mem_append.mp hq with hq | hq
 ·have := N q (List.mem_append_left _ hq)
  exact ⟨k _ _ (fun z => a q hq (List.mem_singleton.mp z)) this.1, this.2⟩
 ·rcases List.mem_cons.mp hq with rfl | hq
  ·exact ⟨e, (N (T, oT) (List.mem_append_right _ (.head _))).2⟩
  ·have := N q (List.mem_append_right _ (.tail _ hq))
   exact ⟨k _ _ (fun z => b q hq (List.mem_singleton.mp z)) this.1, this.2⟩
theorem newAway {g h : Heap} {L B : Addr} {m : Str → Option Value} (F : Fr g L h m) (n : h.get? B = none) : B ≠ L ∧ g.get? B = none := by
 refine xEEEAL (F.ns) fun oL _ _ hL _ => ?_
 refine ⟨fun e => (by rw [e, hL] at n; cases n), ?_⟩
 cases q : g.get? B with
 | none => rfl
 | some o => rw [F.keep _ _ q] at n; cases n
local macro_rules | `(tactic| walk_at "eval Dict") => `(tactic| (kdn_look; k_dflt (refine kdn_str (by rfl) (by k_asm) (by first | k_asm | exact News.nil) (by exact TopRead.nolimit (by k_asm)) (by rfl) (by rfl) (by exact List.cons_ne_nil _ _) (by exact Nat.le_of_ble_eq_true rfl) ?_); intro d' h' o' F' N' l1 lo' hd'; (try k_lt l1)))
local macro_rules | `(tactic| walk_at "exec For Name Subscript cons nil") => `(tactic| first
 | ((with_reducible show wpAny _ _ (exec (Stmt.For _ (PySem.Expr.Subscript (PySem.Expr.Name _ _) _ _) _ _ _) _) _ _ _); (rename Fr _ _ _ _ => lF'); (with_unfolding_all refine' For_turns lF' ?_); k_whole)
 | ((rename Fr _ _ _ _ => lF'); (with_unfolding_all refine' For_invVF lF' ?k1 ?k2 ?_; (case k1 => exact rfl); (case k2 => exact rfl); k_whole)))
local macro_rules | `(tactic| walk_at "pyIter str") => `(tactic| ((with_reducible show wpAny _ _ (pyIter (Value.str _ _)) (fun it s₂ => LoopAtV _ _ _ _ _ _ _ _ _ it s₂) _ _); k_strUnr))
theorem n4 (n : Int) : n + 1 ≤ n + 4 ∧ n + 1 + 1 ≤ n + 4 ∧ n + 1 + 1 + 1 ≤ n + 4 ∧ n + 1 + 1 + 1 + 1 ≤ n + 4 := by omega
theorem record_gen {T l O KT K0 K1 Sb SD RT : Addr} {oT oO : Obj} {es : List (Str × Value)} {vs : List Value} {ns : List Int} {n : Int}
  (WD : Wd w mg mb hB) (st : hB.StaysIn s.heap) (hdd : dd ≤ 464) (huu : uu ≤ 1700)
  (hTO : TapeOk w hB s.heap T l vs ns) (hT : s.heap.get? T = some oT) (hTI : TapeIs w oT l n) (h0 : 0 ≤ n) (h1 : n ≤ 900)(hO : s.heap.get? O = some oO) (hBO : hB.get? O = none) (loO : (O == sysModules) = false) (nOT : @Ne Nat O T) (nlO : l ≠ O) (hKT : IsTup hB KT #[Value.ref K0, .ref K1, .ref Sb]) (hS : SubAt hB Sb SD RT) (hOd : oO.IsDictOf (PySem.strKind prog0 w) es) (hz1 : es.length ≤ sizeLine) (hz2 : ∀ v, (stored es (Str.ofString "d") v).length ≤ sizeLine) (hE : ∀ v v', stored (stored es (Str.ofString "d") v) (Str.ofString "has") v' = [(Str.ofString "d", v), (Str.ofString "has", v')])
  (hQ : ∀ D R RD FD Y YD YB YI tp H HY oT' oO' oH hk kvs n' t h' tk, D.Ok → n ≤ n' → n' ≤ n + 4 → h'.get? T = some oT' → TapeIs w oT' l n' → h'.get? O = some oO' → oO'.IsDictOf (PySem.strKind prog0 w) [(Str.ofString "d", .int D.d t), (Str.ofString "has", .ref H)] → h'.get? H = some oH → oH.IsDictOf (PySem.strKind prog0 w) hk → HasKv HY D hk → HYat h' HY D →
   RecAt w h' R RD FD RT kvs → RecKv Y D kvs → ArrSt h' Y YD YB YI tp D → (∀ a ∈ [H, R, RD, FD] ++ bX D [Y, YD, YB, YI, tp, HY], s.heap.get? a = none) → (∀ a ∈ [R, RD, FD] ++ bX D [Y, YD, YB, YI, tp], a ≠ H ∧ a ∉ bX D [HY]) → KeepsOff [T, O] s.heap h' → Q (.ref R) {s with heap := h', toks := tk}) :
  wpAny (model prog0 w) ⟨none, dd, fr, gs, uu⟩ (call (.ref 688) [.ref T, .ref O, .ref KT]) Q E s := by
 refine wpAny_call ?_
 refine' enter0 (news := [(T, oT), (O, oO)]) (binds := [(Str.ofString "tape", .ref T), (Str.ofString "own", .ref O), (Str.ofString "kinds", .ref KT)]) WD st ?hN ?hroom ?ho ?hcd ?hb ?hl ?body ?c1 ?c2 ?c3 ?c4
 k_extra "j"
 case hN => exact List.forall_mem_cons.mpr ⟨⟨hT, hTO.hTB⟩, List.forall_mem_cons.mpr ⟨⟨hO, hBO⟩, List.forall_mem_nil _⟩⟩
 case body =>
  intro g L h₁ S1 S2 S3 F' N' KX' T' l1
  try simp only [AllLt, and_true] at l1
  have hTg : TapeOk w hB g T l vs ns := hTO.keepsOff (S := [T, O]) (fun b o nb e => S2 b o e nb) (List.not_mem_cons_of_ne_of_not_mem hTO.hlT (nm1 nlO))
  have hKTg : IsTup g KT [Value.ref K0, .ref K1, .ref Sb].toArray := hKT.keeps S1
  have hSg := hS.keeps S1
  have qs1 := hSg.o1
  refine xEEEEEL (hSg.o2) fun y1 y2 y3 y4 y5 qs2 => ?_
  dsimp only
  (repeat' (first | k_extra "h" | ((with_reducible show wpAny _ _ (setItem (Value.ref O) (Value.str (Str.ofString "d") _) _) _ _ _); k_extra "a"; k_dflt (refine' kda_set (knd := PySem.strKind _ _) fF nN ?U hOd (strKind_is _ _ _ _) hz1 ?_; (case U => k_updF)); clear hOd; intro h' oO1 F' N' hOd; (try dsimp only at N'); clear fF nN; (try k_sweep)) | ((with_reducible show wpAny _ _ (setItem (Value.ref O) (Value.str (Str.ofString "has") _) _) _ _ _); k_extra "a"; k_dflt (refine' kda_set (knd := PySem.strKind _ _) fF nN ?U hOd (strKind_is _ _ _ _) (hz2 _) ?_; (case U => k_updF)); clear hOd; intro h' oO2 F' N' hOd; (try dsimp only at N'); rw [hE] at hOd; clear fF nN; (try k_sweep)) | ((with_reducible show wpAny _ _ (call (.ref 667) _) _ _ _); k_extra "a"; (with_unfolding_all refine' parts ?W ?st ?hd ?hu ?_); k_extra "i"; k_whole; intro B' t1' t2' t3' c' h' tk' hk' gB' nB'; (obtain F' := Fr.keeps fF hk'); (obtain N' := newsJ fF nN hk' (more := [(B', _)]) (List.forall_mem_cons.mpr ⟨⟨gB', nB'⟩, List.forall_mem_nil _⟩)); (obtain nb' := allNe_of nN nB'); (simp only [AllNe, and_true] at nb'); (simp only [List.cons_append, List.nil_append] at N'); clear hk' gB' nB'; k_sweep) | ((with_reducible show wpAny _ _ (call (.ref 152) [Value.ref _, Value.ref _]) _ _ _); (with_unfolding_all refine' mkRec ?W ?st ?hh ?hd ?hu ?_); (case W => assumption); (case st => exact stays_of (by assumption) (by assumption)); (case hh => rfl); (case hd => k_extra "b"); (case hu => k_extra "b"); k_whole; intro Y' YD' a1' b1' a2' b2' n' h' tk' hk' g1' g2' ne'; k_extra "a"; (obtain F' := Fr.keeps fF hk'); (obtain N' := newsJ fF nN hk' (more := [(Y', _), (YD', _)]) (List.forall_mem_cons.mpr ⟨g1', List.forall_mem_cons.mpr ⟨g2', List.forall_mem_nil _⟩⟩)); (obtain na' := allNe_of nN g1'.2); (obtain nb' := allNe_of nN g2'.2); (simp only [AllNe, and_true] at na' nb'); (simp only [List.cons_append, List.nil_append] at N'); clear hk' g1' g2'; k_sweep) | ((with_reducible show wpAny _ _ (call (.ref 695) [Value.int _ _]) _ _ _); k_extra "a"; (with_unfolding_all refine' value_int ?W ?st ?hd ?hu  ?_); k_extra "i";  k_whole; intro h' tk' hk'; (obtain F' := Fr.keeps fF hk'); (obtain N' := newsK nN hk'); clear hk'; k_sweep) | ((with_reducible show wpAny _ _ (call (.ref 695) [Value.ref _]) _ _ _); k_extra "a"; (with_unfolding_all refine' value_lst ?W ?st ?hd ?hu ?hl ?_); k_extra "i"; (case hl => exact ⟨_, _, _, (nN (_, _) (by k_mem)).1⟩); k_whole; intro Y' YD' YB' YI' tp' ta' tb' h' tk' hk' hAr hTp hnew hnd; ((refine arrEl hAr fun a1' b1' b2' b3' b4' b5' a2' b6' a3' b7' b8' b9' a4' => ?_; try clear hAr)); (refine tupEl hTp fun dTp' nT' slTp' gTp' => ?_; try clear hTp); (obtain F' := Fr.keeps fF hk'); (obtain N' := newsJ fF nN hk' (more := [(Y', instObj 131 YD'), (YD', pairD b1' "bounds" b2' (.ref YB') b3' "items" b4' (.ref YI') b5'), (YB', PySem.W.listOf #[.ref tp'] b6'), (YI', PySem.W.listOf #[.int _ b8', .int _ b9'] b7'), (tp', _)]) (List.forall_mem_cons.mpr ⟨⟨a1', hnew _ (by first | k_mem | simp)⟩, List.forall_mem_cons.mpr ⟨⟨a2', hnew _ (by first | k_mem | simp)⟩, List.forall_mem_cons.mpr ⟨⟨a3', hnew _ (by first | k_mem | simp)⟩, List.forall_mem_cons.mpr ⟨⟨a4', hnew _ (by first | k_mem | simp)⟩, List.forall_mem_cons.mpr ⟨⟨gTp', hnew _ (by first | k_mem | simp)⟩, List.forall_mem_nil _⟩⟩⟩⟩⟩)); (obtain na1 := allNe_of nN (hnew Y' (by first | k_mem | simp))); (obtain na2 := allNe_of nN (hnew YD' (by first | k_mem | simp))); (obtain na3 := allNe_of nN (hnew YB' (by first | k_mem | simp))); (obtain na4 := allNe_of nN (hnew YI' (by first | k_mem | simp))); (obtain na5 := allNe_of nN (hnew tp' (by first | k_mem | simp))); (simp only [AllNe, and_true] at na1 na2 na3 na4 na5); (simp only [List.cons_append, List.nil_append] at N'); clear hk' hnew a1' a2' a3' a4' gTp' fF nN; k_sweep) | ((with_reducible show wpAny _ _ (call (.ref 674) [Value.ref _, Value.int _ _]) _ _ _); k_extra "a"; (rename TapeIs _ _ _ _ => hTI); ((refine xEL hTI fun tnX hdX => ?_; try clear hTI)); (with_unfolding_all refine' next_c ?W ?st ?hd ?hu ?a1 ?a2 ?a3 ?a4 ?a5 ?a6 ?a7 ?a8 ?a9 ?a10 ?a11 ?a12 ?_); k_extra "i"; (case a1 => exact (nN (T, _) (by k_mem)).1); (case a2 => exact hTO.hTB); (case a3 => exact hTO.lo); (case a4 => exact hdX); (case a5 => exact (hTg.keeps fF.keep).hl); (case a6 => exact hTO.hi); (case a7 => exact hTO.hlT); (case a8 => omega); (case a9 => omega); (case a10 => exact hTO.hns); (case a11 => decide); (case a12 => decide); k_whole; intro r' t' oT' h' tk' tn' r0 r1 gT' hd' hk'; (obtain nTL := (nN (T, _) (by k_mem)).2); (obtain F' := frButS fF (S := [T]) hk' (List.forall_mem_cons.mpr ⟨⟨nTL.2, nTL.1⟩, List.forall_mem_nil _⟩)); (refine' newsUpdC nN ?U hk' gT' ?_); (case U => k_updF); intro N'; (try dsimp only at N'); (obtain hTI := tapeI hd'); clear hk' hd' hdX fF nN nTL gT'; (obtain hr3 : r' = 0 ∨ r' = 1 ∨ r' = 2 := by omega); (rcases hr3 with rfl | rfl | rfl); k_sweep) | ((with_reducible show wpAny _ _ (eval (PySem.Expr.Call (PySem.Expr.Name _ _) (_ :: _) [] _) _) _ _ _); k_dflt (refine' callS ?F ?X ?T ?hf ?hb ?ha ?_ ?x1 ?x2 ?x3; (case F => k_asm); (case X => k_asm); (case T => k_asm); (case hf => k_is); (case hb => k_is); (case ha => rfl); (case x1 => rfl); (case x2 => rfl); (case x3 => decide); k_whole)) | ((with_reducible show wpAny _ _ (exec _ _) _ _ _); (fail_if_success (fail_if_success k_fold)); refine foldQ ?_; intro qk; first | k_extra "f" | walk1) | (((with_reducible show wpAny _ _ (call (.ref 681) [Value.ref _, Value.str _ _]) _ _ _); k_extra "a"; (rename TapeIs _ _ _ _ => hTI); first | ((with_unfolding_all refine' drawn_n ?W ?st ?hd ?hu ?a1 ?a2 ?a3 ?a4 ?a5 ?a6 ?_); (case a6 => decide +kernel); k_extra "i"; (case a1 => exact (hTg.keeps fF.keep)); (case a2 => exact (nN (T, _) (by k_mem)).1); (case a3 => exact hTI); (case a4 => omega); (case a5 => omega); k_whole; intro r' t' oT' h' tk' r0 r1 gT' hTI2 hk'; (obtain nTL := (nN (T, _) (by k_mem)).2); (obtain F' := frButS fF (S := [T]) hk' (List.forall_mem_cons.mpr ⟨⟨nTL.2, nTL.1⟩, List.forall_mem_nil _⟩)); (refine' newsUpdC nN ?U hk' gT' ?_); (case U => k_updF); intro N'; (try dsimp only at N'); clear hTI; (obtain hTI := hTI2); clear hk' fF nN nTL gT'; k_sweep) | ((with_unfolding_all refine' drawn_y ?W ?st ?hd ?hu ?a1 ?a2 ?a3 ?a4 ?a5 ?_); k_extra "i"; (case a1 => exact (hTg.keeps fF.keep)); (case a2 => exact (nN (T, _) (by k_mem)).1); (case a3 => exact hTI); (case a4 => omega); (case a5 => omega); k_whole; intro r' B' t1' t2' c' oT' h' tk' r0 r1 gT' hTI2 hk' gB' nB'; (obtain nb' := allNe_of nN nB'); (simp only [AllNe, and_true] at nb'); (obtain nBL := newAway fF nB'); (obtain nTL := (nN (T, _) (by k_mem)).2); (obtain F' := frButS fF (S := [T]) hk' (List.forall_mem_cons.mpr ⟨⟨nTL.2, nTL.1⟩, List.forall_mem_nil _⟩)); (refine' newsUpdC nN ?U hk' gT' ?_); (case U => k_updF); intro N'; (try dsimp only at N'); (obtain N' := newsCons (a := B') gB' nBL.1 nBL.2 N'); clear hTI; (obtain hTI := hTI2); clear hk' fF nN nTL gT' gB' nBL; k_sweep))) | (((with_reducible show wpAny _ _ (pyIter (Value.ref _)) (fun it s₂ => TurnsAt _ _ _ _ _ _ _ _ _ it s₂) _ _); (rename Fr _ _ _ _ => lF'); (rename News _ _ _ _ => lN'); first | ((with_unfolding_all refine kta_keys (knd := PySem.strKind _ _) (enc := PyData.str) (xs := [(Itm.tok (fun t => Value.str (Str.ofString "c") t)), (Itm.tok (fun t => Value.str (Str.ofString "x") t))]) (by rfl) lF' lN' (by k_mem) (by k_asm) (by k_asm) (fun _ _ h => Value.isStrOf_shape h) (by rfl) ?_); clear lF' lN'; intro i' l1; (try k_lt l1)) | ((with_unfolding_all refine kta_keys (knd := PySem.strKind _ _) (enc := PyData.str) (xs := [(Itm.tok (fun t => Value.str (Str.ofString "c") t)), (Itm.tok (fun t => Value.str (Str.ofString "y") t)), (Itm.tok (fun t => Value.str (Str.ofString "z") t))]) (by rfl) lF' lN' (by k_mem) (by k_asm) (by k_asm) (fun _ _ h => Value.isStrOf_shape h) (by rfl) ?_); clear lF' lN'; intro i' l1; (try k_lt l1)) | ((with_unfolding_all refine kta_keys (knd := PySem.strKind _ _) (enc := PyData.str) (xs := [(Itm.tok (fun t => Value.str (Str.ofString "c") t))]) (by rfl) lF' lN' (by k_mem) (by k_asm) (by k_asm) (fun _ _ h => Value.isStrOf_shape h) (by rfl) ?_); clear lF' lN'; intro i' l1; (try k_lt l1)))) | k_extra "f" | walk1 | (dsimp only; walk1) | (leave1; try dsimp only) | fail "no step"))
  all_goals (try dsimp only)
  all_goals (rename Fr _ _ _ _ => FF)
  all_goals (rename News _ _ _ _ => NN)
  all_goals (rename TapeIs _ _ _ _ => hTT)
  ·refine' hQ (.a _ _) _ _ _ 0 0 0 0 0 _ 0 _ _ _ _ _ _ _ _ _ ?ok ?n1 ?n2 ?T1 ?T2 ?O1 ?O2 ?H1 ?H2 ?H3 ?HY ?R1 ?R2 ?A ?fr ?ap ?kp
   case T1 => (refine' newsAt NN ?z; (case z => k_mem))
   case T2 => assumption
   case O1 => (refine' newsAt NN ?z; (case z => k_mem))
   case O2 => assumption
   case H1 => (refine' newsAt NN ?z; (case z => k_mem))
   case H2 => assumption
   case R1 => (refine' (recMk (newsAt NN (.head _)) (newsAt NN (.tail _ (.head _))) (newsAt NN ?z1) ?z2 ⟨?z3, ?z4, ne'⟩); (case z1 => k_mem); (case z2 => assumption); (case z3 => k_ne); (case z4 => k_ne))
   case kp => exact (fun b o nb e => FF.keep b o (S2 b o e nb))
   case n1 => (repeat' (first | exact Int.le_refl _ | refine Int.le_add_one ?_))
   case n2 => first | exact (n4 n).1 | exact (n4 n).2.1 | exact (n4 n).2.2.1 | exact (n4 n).2.2.2
   case H3 => exact ⟨_, _, by with_unfolding_all rfl⟩
   case R2 => exact ⟨_, _, _, kv3⟩
   case HY => trivial
   case A => trivial
   case ok => (refine ⟨⟨?_, ?_⟩, ?_, ?_⟩ <;> assumption)
   case fr => (repeat' (first | exact List.forall_mem_nil _ | refine List.forall_mem_cons.mpr ⟨?_, ?_⟩ | (refine' new_of S2 NN ?z1 (nm2 ?z2 ?z3); (case z1 => k_mem); (case z2 => k_ne); (case z3 => k_ne))))
   case ap => (repeat' (first | exact List.forall_mem_nil _ | refine List.forall_mem_cons.mpr ⟨?_, ?_⟩ | (refine' ⟨?y1, ?y2⟩; (case y1 => k_ne); (case y2 => first | exact List.not_mem_nil | (refine nm1 ?_; k_ne)))))
  ·refine' hQ (.b _ _ _) _ _ _ _ _ _ _ _ _ _ _ _ _ _ _ _ _ _ _ ?ok ?n1 ?n2 ?T1 ?T2 ?O1 ?O2 ?H1 ?H2 ?H3 ?HY ?R1 ?R2 ?A ?fr ?ap ?kp
   case T1 => (refine' newsAt NN ?z; (case z => k_mem))
   case T2 => assumption
   case O1 => (refine' newsAt NN ?z; (case z => k_mem))
   case O2 => assumption
   case H1 => (refine' newsAt NN ?z; (case z => k_mem))
   case H2 => assumption
   case R1 => (refine' (recMk (newsAt NN (.head _)) (newsAt NN (.tail _ (.head _))) (newsAt NN ?z1) ?z2 ⟨?z3, ?z4, ne'⟩); (case z1 => k_mem); (case z2 => assumption); (case z3 => k_ne); (case z4 => k_ne))
   case kp => exact (fun b o nb e => FF.keep b o (S2 b o e nb))
   case n1 => (repeat' (first | exact Int.le_refl _ | refine Int.le_add_one ?_))
   case n2 => first | exact (n4 n).1 | exact (n4 n).2.1 | exact (n4 n).2.2.1 | exact (n4 n).2.2.2
   case H3 => exact ⟨_, _, by with_unfolding_all rfl⟩
   case R2 => exact ⟨_, _, _, by with_unfolding_all rfl⟩
   case HY => (refine' ⟨_, _, _, newsAt NN ?z⟩; (case z => k_mem))
   case A => (refine' ⟨(arrMk (newsAt NN ?z1) (newsAt NN ?z2) (newsAt NN ?z3) (newsAt NN ?z4)), _, _, News.isTup NN ?z5⟩; (case z1 => k_mem); (case z2 => k_mem); (case z3 => k_mem); (case z4 => k_mem); (case z5 => k_mem))
   case ok => (refine ⟨⟨?_, ?_⟩, ⟨?_, ?_⟩, ?_, ?_⟩ <;> assumption)
   case fr => (repeat' (first | exact List.forall_mem_nil _ | refine List.forall_mem_cons.mpr ⟨?_, ?_⟩ | (refine' new_of S2 NN ?z1 (nm2 ?z2 ?z3); (case z1 => k_mem); (case z2 => k_ne); (case z3 => k_ne))))
   case ap => (repeat' (first | exact List.forall_mem_nil _ | refine List.forall_mem_cons.mpr ⟨?_, ?_⟩ | (refine' ⟨?y1, ?y2⟩; (case y1 => k_ne); (case y2 => first | exact List.not_mem_nil | (refine nm1 ?_; k_ne)))))
  ·refine' hQ (.e _) _ _ _ 0 0 0 0 0 _ 0 _ _ _ _ _ _ _ _ _ ?ok ?n1 ?n2 ?T1 ?T2 ?O1 ?O2 ?H1 ?H2 ?H3 ?HY ?R1 ?R2 ?A ?fr ?ap ?kp
   case T1 => (refine' newsAt NN ?z; (case z => k_mem))
   case T2 => assumption
   case O1 => (refine' newsAt NN ?z; (case z => k_mem))
   case O2 => assumption
   case H1 => (refine' newsAt NN ?z; (case z => k_mem))
   case H2 => assumption
   case R1 => (refine' (recMk (newsAt NN (.head _)) (newsAt NN (.tail _ (.head _))) (newsAt NN ?z1) ?z2 ⟨?z3, ?z4, ne'⟩); (case z1 => k_mem); (case z2 => assumption); (case z3 => k_ne); (case z4 => k_ne))
   case kp => exact (fun b o nb e => FF.keep b o (S2 b o e nb))
   case n1 => (repeat' (first | exact Int.le_refl _ | refine Int.le_add_one ?_))
   case n2 => first | exact (n4 n).1 | exact (n4 n).2.1 | exact (n4 n).2.2.1 | exact (n4 n).2.2.2
   case H3 => exact ⟨_, by with_unfolding_all rfl⟩
   case R2 => exact ⟨_, _, kv2⟩
   case HY => trivial
   case A => trivial
   case ok => (refine ⟨?_, ?_⟩ <;> assumption)
   case fr => (repeat' (first | exact List.forall_mem_nil _ | refine List.forall_mem_cons.mpr ⟨?_, ?_⟩ | (refine' new_of S2 NN ?z1 (nm2 ?z2 ?z3); (case z1 => k_mem); (case z2 => k_ne); (case z3 => k_ne))))
   case ap => (repeat' (first | exact List.forall_mem_nil _ | refine List.forall_mem_cons.mpr ⟨?_, ?_⟩ | (refine' ⟨?y1, ?y2⟩; (case y1 => k_ne); (case y2 => first | exact List.not_mem_nil | (refine nm1 ?_; k_ne)))))
theorem record_new {T l O KT K0 K1 Sb SD RT : Addr} {oT oO : Obj} {vs : List Value} {ns : List Int} {n : Int}
  (WD : Wd w mg mb hB) (st : hB.StaysIn s.heap) (hdd : dd ≤ 464) (huu : uu ≤ 1700)
  (hTO : TapeOk w hB s.heap T l vs ns) (hT : s.heap.get? T = some oT) (hTI : TapeIs w oT l n) (h0 : 0 ≤ n) (h1 : n ≤ 900)(hO : s.heap.get? O = some oO) (hBO : hB.get? O = none) (loO : (O == sysModules) = false) (nOT : @Ne Nat O T) (nlO : l ≠ O) (hKT : IsTup hB KT #[Value.ref K0, .ref K1, .ref Sb]) (hS : SubAt hB Sb SD RT) (hOd : oO.IsDictOf (PySem.strKind prog0 w) [])
  (hQ : ∀ D R RD FD Y YD YB YI tp H HY oT' oO' oH hk kvs n' t h' tk, D.Ok → n ≤ n' → n' ≤ n + 4 → h'.get? T = some oT' → TapeIs w oT' l n' → h'.get? O = some oO' → oO'.IsDictOf (PySem.strKind prog0 w) [(Str.ofString "d", .int D.d t), (Str.ofString "has", .ref H)] → h'.get? H = some oH → oH.IsDictOf (PySem.strKind prog0 w) hk → HasKv HY D hk → HYat h' HY D →
   RecAt w h' R RD FD RT kvs → RecKv Y D kvs → ArrSt h' Y YD YB YI tp D → (∀ a ∈ [H, R, RD, FD] ++ bX D [Y, YD, YB, YI, tp, HY], s.heap.get? a = none) → (∀ a ∈ [R, RD, FD] ++ bX D [Y, YD, YB, YI, tp], a ≠ H ∧ a ∉ bX D [HY]) → KeepsOff [T, O] s.heap h' → Q (.ref R) {s with heap := h', toks := tk}) :
  wpAny (model prog0 w) ⟨none, dd, fr, gs, uu⟩ (call (.ref 688) [.ref T, .ref O, .ref KT]) Q E s := by
 refine record_gen WD st hdd huu hTO hT hTI h0 h1 hO hBO loO nOT nlO hKT hS hOd (by decide) (fun _ => by rw [sizeLine_eq]; exact of_decide_eq_true rfl) (fun _ _ => rfl) hQ
end
section
variable {w : World} {mg mb : Str → Option Value} {hB : Heap} {s : Shared} {dd uu : Nat} {gs : Option (List Code)} {fr : Option (List Env)} {Q : Value → Shared → Prop} {E : Value → Shared → Prop}
theorem record_old {T l O KT K0 K1 Sb SD RT H0 : Addr} {oT oO : Obj} {vs : List Value} {ns : List Int} {n d0 : Int} {td : Tok}
  (WD : Wd w mg mb hB) (st : hB.StaysIn s.heap) (hdd : dd ≤ 464) (huu : uu ≤ 1700)
  (hTO : TapeOk w hB s.heap T l vs ns) (hT : s.heap.get? T = some oT) (hTI : TapeIs w oT l n) (h0 : 0 ≤ n) (h1 : n ≤ 900)(hO : s.heap.get? O = some oO) (hBO : hB.get? O = none) (loO : (O == sysModules) = false) (nOT : @Ne Nat O T) (nlO : l ≠ O) (hKT : IsTup hB KT #[Value.ref K0, .ref K1, .ref Sb]) (hS : SubAt hB Sb SD RT) (hOd : oO.IsDictOf (PySem.strKind prog0 w) [(Str.ofString "d", .int d0 td), (Str.ofString "has", .ref H0)])
  (hQ : ∀ D R RD FD Y YD YB YI tp H HY oT' oO' oH hk kvs n' t h' tk, D.Ok → n ≤ n' → n' ≤ n + 4 → h'.get? T = some oT' → TapeIs w oT' l n' → h'.get? O = some oO' → oO'.IsDictOf (PySem.strKind prog0 w) [(Str.ofString "d", .int D.d t), (Str.ofString "has", .ref H)] → h'.get? H = some oH → oH.IsDictOf (PySem.strKind prog0 w) hk → HasKv HY D hk → HYat h' HY D →
   RecAt w h' R RD FD RT kvs → RecKv Y D kvs → ArrSt h' Y YD YB YI tp D → (∀ a ∈ [H, R, RD, FD] ++ bX D [Y, YD, YB, YI, tp, HY], s.heap.get? a = none) → (∀ a ∈ [R, RD, FD] ++ bX D [Y, YD, YB, YI, tp], a ≠ H ∧ a ∉ bX D [HY]) → KeepsOff [T, O] s.heap h' → Q (.ref R) {s with heap := h', toks := tk}) :
  wpAny (model prog0 w) ⟨none, dd, fr, gs, uu⟩ (call (.ref 688) [.ref T, .ref O, .ref KT]) Q E s := by
 refine record_gen WD st hdd huu hTO hT hTI h0 h1 hO hBO loO nOT nlO hKT hS hOd (by rw [sizeLine_eq]; exact of_decide_eq_true rfl) (fun _ => by rw [sizeLine_eq]; exact Nat.le_of_ble_eq_true (by with_unfolding_all rfl)) (fun _ _ => by with_unfolding_all rfl) hQ
end
section
structure LC where
 (T O NL R RD RT l : Addr)
 (vs : List Value)
 (ns : List Int)
structure LV where
 (n : Int)
 (Dh D : DD)
 (H HY FD Y YD YB YI tp : Addr)
 (vals : List Value)
 (NA : List Addr)
def LV.sB (c : LC) (v : LV) : List Addr := [c.O, v.H] ++ bX v.Dh [v.HY]
def LV.sR (c : LC) (v : LV) : List Addr := [c.R, c.RD, v.FD] ++ bX v.D [v.Y, v.YD, v.YB, v.YI, v.tp]
def LV.at (c : LC) (v : LV) : List Addr := c.T :: c.NL :: (v.sB c ++ v.sR c ++ v.NA)
def NameOk (h : Heap) (R : Addr) (NA : List Addr) (v : Value) : Prop :=
 ∃ tup pl name t1 t2 t3, v = .ref tup ∧ tup ∈ NA ∧ pl ∈ NA ∧ IsTup h tup #[Value.str name t1, .ref pl] ∧ IsTup h pl #[Value.str (Str.ofString "field") t2, .ref R, .str name t3] ∧
  (name = Str.ofString "c" ∨ name = Str.ofString "x" ∨ name = Str.ofString "y" ∨ name = Str.ofString "z")
def TP (w : World) (h : Heap) (T l : Addr) (n : Int) : Prop := ∃ oT, h.get? T = some oT ∧ TapeIs w oT l n
def BK (w : World) (h : Heap) (O H HY : Addr) (D : DD) : Prop :=
 ∃ oO oH td hk, h.get? O = some oO ∧ oO.IsDictOf (PySem.strKind prog0 w) [(Str.ofString "d", .int D.d td), (Str.ofString "has", .ref H)] ∧ h.get? H = some oH ∧ oH.IsDictOf (PySem.strKind prog0 w) hk ∧ HasKv HY D hk ∧ HYat h HY D
def RC (w : World) (h : Heap) (R RD RT FD Y YD YB YI tp : Addr) (D : DD) : Prop := ∃ kvs, RecAt w h R RD FD RT kvs ∧ RecKv Y D kvs ∧ ArrSt h Y YD YB YI tp D
def NM (h : Heap) (NL R : Addr) (vals : List Value) (NA : List Addr) : Prop := (∃ n, h.get? NL = some (PySem.W.listOf vals.toArray n)) ∧ (∀ v ∈ vals, NameOk h R NA v) ∧ 0 ≤ vals.length ∧ vals.length ≤ 100
structure LS (w : World) (hB h : Heap) (c : LC) (v : LV) : Prop where
 tk : TapeOk w hB hB c.T c.l c.vs c.ns
 tp : TP w h c.T c.l v.n
 bk : BK w h c.O v.H v.HY v.Dh
 rc : RC w h c.R c.RD c.RT v.FD v.Y v.YD v.YB v.YI v.tp v.D
 nm : NM h c.NL c.R v.vals v.NA
 okh : v.Dh.Ok
 okd : v.D.Ok
 sT : c.T ∉ v.sB c ++ v.sR c ++ [c.NL]
 sB : ∀ a ∈ v.sB c, a ∉ v.sR c ++ [c.NL]
 sR : c.NL ∉ v.sR c
 sN : ∀ a ∈ v.NA, a ∉ c.T :: c.NL :: (v.sB c ++ v.sR c)
 ndB : (v.sB c).Nodup
 ndR : (v.sR c).Nodup
 hb : ∀ a ∈ v.at c, hB.get? a = none
 aN : ∀ a ∈ v.NA, ∃ o, h.get? a = some o
section
variable {w : World} {hB h h' : Heap} {S : List Addr}
theorem RecAt.off {R RD FD RT : Addr} {kvs : List (Str × Value)} (x : RecAt w h R RD FD RT kvs) (k : KeepsOff S h h') (hS : ∀ a ∈ [R, RD, FD], a ∉ S) : RecAt w h' R RD FD RT kvs :=
 recEl x fun a _ _ _ _ _ b _ c d e f g => recMk (k _ _ (hS _ (.head _)) a) (k _ _ (hS _ (.tail _ (.head _))) b) (k _ _ (hS _ (.tail _ (.tail _ (.head _)))) c) d ⟨e, f, g⟩
theorem ArrSt.off {Y YD YB YI tp : Addr} {D : DD} (x : ArrSt h Y YD YB YI tp D) (k : KeepsOff S h h') (hS : ∀ a ∈ bX D [Y, YD, YB, YI, tp], a ∉ S) : ArrSt h' Y YD YB YI tp D := by
 cases D with
 | a c x => trivial
 | e c => trivial
 | b c f z =>
  (refine xAEEL x fun h1 ta tb h2 => ?_; try clear x)
  refine ⟨h1.sub (S := S) (fun a ha => hS a ?_) (fun b o e nb => k b o nb e), ta, tb, tupS h2 (hS _ (by simp [bX])) (fun b o e nb => k b o nb e)⟩
  simp only [List.mem_cons, List.not_mem_nil, or_false] at ha
  rcases ha with rfl | rfl | rfl | rfl <;> simp [bX]
theorem RC.off {R RD RT FD Y YD YB YI tp : Addr} {D : DD} (x : RC w h R RD RT FD Y YD YB YI tp D) (k : KeepsOff S h h') (hS : ∀ a ∈ [R, RD, FD] ++ bX D [Y, YD, YB, YI, tp], a ∉ S) : RC w h' R RD RT FD Y YD YB YI tp D := by
 (refine xEAAL x fun kvs h1 h2 h3 => ?_; try clear x)
 exact ⟨kvs, h1.off k fun a ha => hS a (List.mem_append_left _ ha), h2, h3.off k fun a ha => hS a (List.mem_append_right _ ha)⟩
theorem HYat.off {HY : Addr} {D : DD} (x : HYat h HY D) (k : KeepsOff S h h') (hS : ∀ a ∈ bX D [HY], a ∉ S) : HYat h' HY D := by
 cases D with
 | a c x => trivial
 | e c => trivial
 | b c f z => (refine xEEEL x fun a b d q => ?_; try clear x); exact ⟨a, b, d, k _ _ (hS _ (by simp [bX])) q⟩
theorem BK.off {O H HY : Addr} {D : DD} (x : BK w h O H HY D) (k : KeepsOff S h h') (hS : ∀ a ∈ [O, H] ++ bX D [HY], a ∉ S) : BK w h' O H HY D := by
 (refine xEEEEAAAAAL x fun oO oH td hk h1 h2 h3 h4 h5 h6 => ?_; try clear x)
 exact ⟨oO, oH, td, hk, k _ _ (hS _ (.head _)) h1, h2, k _ _ (hS _ (.tail _ (.head _))) h3, h4, h5, h6.off k fun a ha => hS a (List.mem_append_right _ ha)⟩
theorem TP.off {T l : Addr} {n : Int} (x : TP w h T l n) (k : KeepsOff S h h') (hS : T ∉ S) : TP w h' T l n := let ⟨o, a, b⟩ := x; ⟨o, k _ _ hS a, b⟩
theorem NameOk.off {R : Addr} {NA : List Addr} {v : Value} (x : NameOk h R NA v) (k : KeepsOff S h h') (hS : ∀ a ∈ NA, a ∉ S) : NameOk h' R NA v := by
 (refine xEEEEEEAAAAAL x fun tup pl name t1 t2 t3 e m1 m2 i1 i2 r => ?_; try clear x)
 exact ⟨tup, pl, name, t1, t2, t3, e, m1, m2, tupS i1 (hS _ m1) (fun b o e nb => k b o nb e), tupS i2 (hS _ m2) (fun b o e nb => k b o nb e), r⟩
theorem NM.off {NL R : Addr} {vals : List Value} {NA : List Addr} (x : NM h NL R vals NA) (k : KeepsOff S h h') (hS : ∀ a ∈ NL :: NA, a ∉ S) : NM h' NL R vals NA :=
 ⟨let ⟨n, e⟩ := x.1; ⟨n, k _ _ (hS _ (.head _)) e⟩, fun v hv => (x.2.1 v hv).off k fun a ha => hS a (.tail _ ha), x.2.2⟩
end
section
variable {w : World} {hB h h' : Heap} {c : LC} {v : LV}
theorem LS.there (X : LS w hB h c v) : ∀ a ∈ v.at c, ∃ o, h.get? a = some o := by
 intro a ha
 unfold LV.at at ha
 rcases List.mem_cons.mp ha with rfl | ha
 ·exact ⟨_, X.tp.choose_spec.1⟩
 rcases List.mem_cons.mp ha with rfl | ha
 ·refine xEL (X.nm.1) fun n e => ?_; exact ⟨_, e⟩
 rcases List.mem_append.mp ha with ha | ha
 ·rcases List.mem_append.mp ha with ha | ha
  ·refine xEEEEAAAAAL (X.bk) fun oO oH td hk h1 h2 h3 h4 h5 h6 => ?_
   unfold LV.sB at ha
   rcases List.mem_append.mp ha with ha | ha
   ·simp only [List.mem_cons, List.not_mem_nil, or_false] at ha
    rcases ha with rfl | rfl
    ·exact ⟨_, h1⟩
    ·exact ⟨_, h3⟩
   ·revert ha h6
    cases v.Dh <;> intro h6 ha <;> simp only [bX, List.mem_cons, List.not_mem_nil, or_false] at ha
    subst ha
    (refine xEEEL h6 fun _ _ _ q => ?_; try clear h6)
    exact ⟨_, q⟩
  ·refine xEAAL (X.rc) fun kvs h1 h2 h3 => ?_
   unfold LV.sR at ha
   rcases List.mem_append.mp ha with ha | ha
   ·simp only [List.mem_cons, List.not_mem_nil, or_false] at ha
    rcases ha with rfl | rfl | rfl
    ·exact ⟨_, h1.o1⟩
    ·refine xEEEEEL (h1.o2) fun _ _ _ _ _ q => ?_; exact ⟨_, q⟩
    ·refine xEAL (h1.o3) fun _ q _ => ?_; exact ⟨_, q⟩
   ·revert ha h3
    cases v.D <;> intro h3 ha <;> simp only [bX, List.mem_cons, List.not_mem_nil, or_false] at ha
    (refine xAEEEAL h3 fun hA ta tb o ho _ => ?_; try clear h3)
    rcases ha with rfl | rfl | rfl | rfl | rfl
    ·exact ⟨_, hA.o1⟩
    ·refine xEEEEEL (hA.o2) fun _ _ _ _ _ q => ?_; exact ⟨_, q⟩
    ·refine xEL (hA.o3) fun _ q => ?_; exact ⟨_, q⟩
    ·refine xEEEL (hA.o4) fun _ _ _ q => ?_; exact ⟨_, q⟩
    ·exact ⟨_, ho⟩
 ·exact X.aN a ha
theorem LS.off {S : List Addr} (X : LS w hB h c v) (k : KeepsOff S h h') (hS : ∀ a ∈ v.at c, a ∉ S) : LS w hB h' c v := by
 have m1 : ∀ a ∈ v.sB c, a ∉ S := fun a ha => hS a (.tail _ (.tail _ (List.mem_append_left _ (List.mem_append_left _ ha))))
 have m2 : ∀ a ∈ v.sR c, a ∉ S := fun a ha => hS a (.tail _ (.tail _ (List.mem_append_left _ (List.mem_append_right _ ha))))
 have m3 : ∀ a ∈ v.NA, a ∉ S := fun a ha => hS a (.tail _ (.tail _ (List.mem_append_right _ ha)))
 exact ⟨X.tk, X.tp.off k (hS _ (.head _)), X.bk.off k m1, X.rc.off k m2, X.nm.off k (fun a ha => (List.mem_cons.mp ha).elim (fun e => e ▸ hS _ (.tail _ (.head _))) (m3 a)), X.okh, X.okd, X.sT, X.sB, X.sR, X.sN, X.ndB, X.ndR, X.hb, fun a ha => let ⟨o, e⟩ := X.aN a ha; ⟨o, k _ _ (m3 a ha) e⟩⟩
theorem LS.keeps (X : LS w hB h c v) (k : Keeps h h') : LS w hB h' c v := X.off (S := []) (fun b o _ e => k b o e) (fun _ _ h => by cases h)
theorem LS.news {g : Heap} {L : Addr} (X : LS w hB h c v) (hA : ∀ a ∈ v.at c, a ≠ L ∧ g.get? a = none) : News g L h (frO h (v.at c)) := fun q hq => by
 refine xAL (frO_mem hq) fun m1 m2 => ?_
 exact ⟨m2, hA _ m1⟩
theorem LS.cur {g : Heap} {L : Addr} (X : LS w hB h c v) (N : News g L h' (frO h (v.at c))) : LS w hB h' c v := by
 refine X.off (S := (List.range h.objs.size).filter fun a => decide (a ∉ v.at c)) (fun b o nb e => ?_) (fun a ha hm => ?_)
 ·have hb : b ∈ v.at c := Classical.byContradiction fun hn => nb (List.mem_filter.mpr ⟨List.mem_range.mpr (Heap.lt_size e), decide_eq_true hn⟩)
  exact (N (b, o) (frO_in hb e)).1
 ·exact (of_decide_eq_true (List.mem_filter.mp hm).2) ha
end
end
section
section
variable {w : World} {hB h h' : Heap} {c : LC} {v : LV}
theorem bX_sub {D : DD} {l : List Addr} {a : Addr} (h : a ∈ bX D l) : a ∈ l := by
 cases D <;> simp only [bX, List.not_mem_nil] at h
 exact h
theorem fresh_base {a : Addr} (st : hB.StaysIn h) (n : h.get? a = none) : hB.get? a = none := by
 cases q : hB.get? a with
 | none => rfl
 | some o => rw [st _ _ q] at n; cases n
theorem LS.T_in (X : LS w hB h c v) : ∃ o, h.get? c.T = some o := X.there _ (.head _)
theorem LS.tape {n' : Int} (X : LS w hB h c v) (k : KeepsOff [c.T] h h') (p : TP w h' c.T c.l n') : LS w hB h' c { v with n := n' } := by
 have m1 : ∀ a ∈ v.sB c, a ∉ [c.T] := fun a ha q => X.sT (List.mem_append_left _ (List.mem_append_left _ ((List.mem_singleton.mp q) ▸ ha)))
 have m2 : ∀ a ∈ v.sR c, a ∉ [c.T] := fun a ha q => X.sT (List.mem_append_left _ (List.mem_append_right _ ((List.mem_singleton.mp q) ▸ ha)))
 have m3 : ∀ a ∈ v.NA, a ∉ [c.T] := fun a ha q => X.sN a ha ((List.mem_singleton.mp q) ▸ .head _)
 have m4 : c.NL ∉ [c.T] := fun q => X.sT (List.mem_append_right _ (by rw [List.mem_singleton.mp q]; exact .head _))
 exact ⟨X.tk, p, X.bk.off k m1, X.rc.off k m2, X.nm.off k (fun a ha => (List.mem_cons.mp ha).elim (fun e => e ▸ m4) (m3 a)), X.okh, X.okd, X.sT, X.sB, X.sR, X.sN, X.ndB, X.ndR, X.hb, fun a ha => let ⟨o, e⟩ := X.aN a ha; ⟨o, k _ _ (m3 a ha) e⟩⟩
theorem LS.recs {S : List Addr} {D : DD} {FD Y YD YB YI tp : Addr} (X : LS w hB h c v) (k : KeepsOff S h h') (hS : ∀ a ∈ S, a ∈ v.sR c) (p : RC w h' c.R c.RD c.RT FD Y YD YB YI tp D) (ok : D.Ok)
  (hn : ∀ a ∈ [c.R, c.RD, FD] ++ bX D [Y, YD, YB, YI, tp], a ∈ v.sR c ∨ (a ∉ v.at c ∧ hB.get? a = none)) (nd : ([c.R, c.RD, FD] ++ bX D [Y, YD, YB, YI, tp]).Nodup) : LS w hB h' c { v with D := D, FD := FD, Y := Y, YD := YD, YB := YB, YI := YI, tp := tp } := by
 have m1 : ∀ a ∈ v.sB c, a ∉ S := fun a ha q => X.sB a ha (List.mem_append_left _ (hS a q))
 have m0 : c.T ∉ S := fun q => X.sT (List.mem_append_left _ (List.mem_append_right _ (hS _ q)))
 have m3 : ∀ a ∈ v.NA, a ∉ S := fun a ha q => X.sN a ha (.tail _ (.tail _ (List.mem_append_right _ (hS a q))))
 have m4 : c.NL ∉ S := fun q => X.sR (hS _ q)
 have old : ∀ a ∈ v.at c, ∀ b, (b ∈ v.sR c ∨ (b ∉ v.at c ∧ hB.get? b = none)) → a = b → b ∈ v.sR c := fun a ha b hb e => by
  rcases hb with hb | hb
  ·exact hb
  ·exact absurd (e ▸ ha) hb.1
 refine ⟨X.tk, X.tp.off k m0, X.bk.off k m1, p, X.nm.off k (fun a ha => (List.mem_cons.mp ha).elim (fun e => e ▸ m4) (m3 a)), X.okh, ok, ?_, ?_, ?_, ?_, X.ndB, nd, ?_, fun a ha => let ⟨o, e⟩ := X.aN a ha; ⟨o, k _ _ (m3 a ha) e⟩⟩
 ·intro q
  rcases List.mem_append.mp q with q | q
  ·rcases List.mem_append.mp q with q | q
   ·exact X.sT (List.mem_append_left _ (List.mem_append_left _ q))
   ·exact X.sT (List.mem_append_left _ (List.mem_append_right _ (old _ (.head _) _ (hn _ q) rfl)))
  ·exact X.sT (List.mem_append_right _ q)
 ·intro a ha q
  have haA : a ∈ v.at c := .tail _ (.tail _ (List.mem_append_left _ (List.mem_append_left _ ha)))
  rcases List.mem_append.mp q with q | q
  ·exact X.sB a ha (List.mem_append_left _ (old _ haA _ (hn _ q) rfl))
  ·exact X.sB a ha (List.mem_append_right _ q)
 ·intro q
  exact X.sR (old _ (.tail _ (.head _)) _ (hn _ q) rfl)
 ·intro a ha q
  have haA : a ∈ v.at c := .tail _ (.tail _ (List.mem_append_right _ ha))
  refine X.sN a ha ?_
  rcases List.mem_cons.mp q with q | q
  ·exact q ▸ .head _
  rcases List.mem_cons.mp q with q | q
  ·exact q ▸ .tail _ (.head _)
  rcases List.mem_append.mp q with q | q
  ·exact .tail _ (.tail _ (List.mem_append_left _ q))
  ·exact .tail _ (.tail _ (List.mem_append_right _ (old _ haA _ (hn _ q) rfl)))
 ·intro a ha
  unfold LV.at at ha
  rcases List.mem_cons.mp ha with q | ha
  ·exact q ▸ X.hb _ (.head _)
  rcases List.mem_cons.mp ha with q | ha
  ·exact q ▸ X.hb _ (.tail _ (.head _))
  rcases List.mem_append.mp ha with ha | ha
  ·rcases List.mem_append.mp ha with ha | ha
   ·exact X.hb a (.tail _ (.tail _ (List.mem_append_left _ (List.mem_append_left _ ha))))
   ·rcases hn a ha with q | q
    ·exact X.hb a (.tail _ (.tail _ (List.mem_append_left _ (List.mem_append_right _ q))))
    ·exact q.2
  ·exact X.hb a (.tail _ (.tail _ (List.mem_append_right _ ha)))
theorem LS.fresh {a : Addr} (X : LS w hB h c v) (st : hB.StaysIn h) (n : h.get? a = none) : a ∉ v.at c ∧ hB.get? a = none := ⟨fun q => (by refine xEL (X.there a q) fun o ho => ?_; rw [n] at ho; cases ho), fresh_base st n⟩
theorem LS.book {S : List Addr} {n' : Int} {D : DD} {H HY : Addr} (X : LS w hB h c v) (k : KeepsOff S h h') (hS : ∀ a ∈ S, a = c.T ∨ a ∈ v.sB c) (p : TP w h' c.T c.l n') (q : BK w h' c.O H HY D) (ok : D.Ok)
  (hn : ∀ a ∈ [H] ++ bX D [HY], a ∈ v.sB c ∨ (a ∉ v.at c ∧ hB.get? a = none)) (nd : ([c.O, H] ++ bX D [HY]).Nodup) : LS w hB h' c { v with n := n', Dh := D, H := H, HY := HY } := by
 have hn' : ∀ a ∈ [c.O, H] ++ bX D [HY], a ∈ v.sB c ∨ (a ∉ v.at c ∧ hB.get? a = none) := fun a ha => by
  rcases List.mem_cons.mp ha with z | ha
  ·exact .inl (z ▸ .head _)
  ·exact hn a ha
 have m2 : ∀ a ∈ v.sR c, a ∉ S := fun a ha z => by
  rcases hS a z with z | z
  ·exact X.sT (List.mem_append_left _ (List.mem_append_right _ (z ▸ ha)))
  ·exact X.sB a z (List.mem_append_left _ ha)
 have m3 : ∀ a ∈ v.NA, a ∉ S := fun a ha z => by
  rcases hS a z with z | z
  ·exact X.sN a ha (z ▸ .head _)
  ·exact X.sN a ha (.tail _ (.tail _ (List.mem_append_left _ z)))
 have m4 : c.NL ∉ S := fun z => by
  rcases hS _ z with z | z
  ·exact X.sT (List.mem_append_right _ (z ▸ .head _))
  ·exact X.sB _ z (List.mem_append_right _ (.head _))
 have old : ∀ a ∈ v.at c, ∀ b, (b ∈ v.sB c ∨ (b ∉ v.at c ∧ hB.get? b = none)) → a = b → b ∈ v.sB c := fun a ha b hb e => by
  rcases hb with hb | hb
  ·exact hb
  ·exact absurd (e ▸ ha) hb.1
 refine ⟨X.tk, p, q, X.rc.off k m2, X.nm.off k (fun a ha => (List.mem_cons.mp ha).elim (fun e => e ▸ m4) (m3 a)), ok, X.okd, ?_, ?_, X.sR, ?_, nd, X.ndR, ?_, fun a ha => let ⟨o, e⟩ := X.aN a ha; ⟨o, k _ _ (m3 a ha) e⟩⟩
 ·intro z
  rcases List.mem_append.mp z with z | z
  ·rcases List.mem_append.mp z with z | z
   ·exact X.sT (List.mem_append_left _ (List.mem_append_left _ (old _ (.head _) _ (hn' _ z) rfl)))
   ·exact X.sT (List.mem_append_left _ (List.mem_append_right _ z))
  ·exact X.sT (List.mem_append_right _ z)
 ·intro a ha z
  rcases List.mem_append.mp z with z | z
  ·have haA : a ∈ v.at c := .tail _ (.tail _ (List.mem_append_left _ (List.mem_append_right _ z)))
   exact X.sB a (old _ haA _ (hn' _ ha) rfl) (List.mem_append_left _ z)
  ·have haA : a ∈ v.at c := by rw [List.mem_singleton.mp z]; exact .tail _ (.head _)
   exact X.sB a (old _ haA _ (hn' _ ha) rfl) (List.mem_append_right _ z)
 ·intro a ha z
  have haA : a ∈ v.at c := .tail _ (.tail _ (List.mem_append_right _ ha))
  refine X.sN a ha ?_
  rcases List.mem_cons.mp z with z | z
  ·exact z ▸ .head _
  rcases List.mem_cons.mp z with z | z
  ·exact z ▸ .tail _ (.head _)
  rcases List.mem_append.mp z with z | z
  ·exact .tail _ (.tail _ (List.mem_append_left _ (old _ haA _ (hn' _ z) rfl)))
  ·exact .tail _ (.tail _ (List.mem_append_right _ z))
 ·intro a ha
  unfold LV.at at ha
  rcases List.mem_cons.mp ha with z | ha
  ·exact z ▸ X.hb _ (.head _)
  rcases List.mem_cons.mp ha with z | ha
  ·exact z ▸ X.hb _ (.tail _ (.head _))
  rcases List.mem_append.mp ha with ha | ha
  ·rcases List.mem_append.mp ha with ha | ha
   ·rcases hn' a ha with z | z
    ·exact X.hb a (.tail _ (.tail _ (List.mem_append_left _ (List.mem_append_left _ z))))
    ·exact z.2
   ·exact X.hb a (.tail _ (.tail _ (List.mem_append_left _ (List.mem_append_right _ ha))))
  ·exact X.hb a (.tail _ (.tail _ (List.mem_append_right _ ha)))
theorem LS.name {tup pl : Addr} {name : Str} {t1 t2 t3 : Tok} (X : LS w hB h c v) (k : KeepsOff [c.NL] h h') (e : ∃ n, h'.get? c.NL = some (PySem.W.listOf (v.vals ++ [Value.ref tup]).toArray n)) (f1 : tup ∉ v.at c ∧ hB.get? tup = none) (f2 : pl ∉ v.at c ∧ hB.get? pl = none)
  (i1 : IsTup h' tup #[Value.str name t1, .ref pl]) (i2 : IsTup h' pl #[Value.str (Str.ofString "field") t2, .ref c.R, .str name t3]) (hm : name = Str.ofString "c" ∨ name = Str.ofString "x" ∨ name = Str.ofString "y" ∨ name = Str.ofString "z") (hl : v.vals.length < 100) :
  LS w hB h' c { v with vals := v.vals ++ [Value.ref tup], NA := tup :: pl :: v.NA } := by
 have m0 : c.T ∉ [c.NL] := fun q => X.sT (List.mem_append_right _ (by rw [List.mem_singleton.mp q]; exact .head _))
 have m1 : ∀ a ∈ v.sB c, a ∉ [c.NL] := fun a ha q => X.sB a ha (List.mem_append_right _ q)
 have m2 : ∀ a ∈ v.sR c, a ∉ [c.NL] := fun a ha q => X.sR ((List.mem_singleton.mp q) ▸ ha)
 have m3 : ∀ a ∈ v.NA, a ∉ [c.NL] := fun a ha q => X.sN a ha (by rw [List.mem_singleton.mp q]; exact .tail _ (.head _))
 have new : ∀ a, (a ∉ v.at c ∧ hB.get? a = none) → a ∉ c.T :: c.NL :: (v.sB c ++ v.sR c) := fun a ha q => ha.1 (by
   unfold LV.at
   rcases List.mem_cons.mp q with q | q
   ·exact q ▸ .head _
   rcases List.mem_cons.mp q with q | q
   ·exact q ▸ .tail _ (.head _)
   exact .tail _ (.tail _ (List.mem_append_left _ q)))
 refine ⟨X.tk, X.tp.off k m0, X.bk.off k m1, X.rc.off k m2, ⟨e, fun x hx => ?_, ?_, ?_⟩, X.okh, X.okd, X.sT, X.sB, X.sR, ?_, X.ndB, X.ndR, ?_, ?_⟩
 ·rcases List.mem_append.mp hx with hx | hx
  ·refine xEEEEEEAAAAAL ((X.nm.2.1 x hx).off k m3) fun a1 a2 a3 a4 a5 a6 b1 b2 b3 b4 b5 b6 => ?_
   exact ⟨a1, a2, a3, a4, a5, a6, b1, .tail _ (.tail _ b2), .tail _ (.tail _ b3), b4, b5, b6⟩
  ·exact ⟨tup, pl, name, t1, t2, t3, List.mem_singleton.mp hx, .head _, .tail _ (.head _), i1, i2, hm⟩
 ·have := X.nm.2.2.1
  simp only [List.length_append, List.length_singleton]; omega
 ·simp only [List.length_append, List.length_singleton]; omega
 ·intro a ha
  rcases List.mem_cons.mp ha with z | ha
  ·exact (by rw [z]; exact new _ f1)
  rcases List.mem_cons.mp ha with z | ha
  ·exact (by rw [z]; exact new _ f2)
  exact X.sN a ha
 ·intro a ha
  unfold LV.at at ha
  rcases List.mem_cons.mp ha with z | ha
  ·exact z ▸ X.hb _ (.head _)
  rcases List.mem_cons.mp ha with z | ha
  ·exact z ▸ X.hb _ (.tail _ (.head _))
  rcases List.mem_append.mp ha with ha | ha
  ·exact X.hb a (.tail _ (.tail _ (List.mem_append_left _ ha)))
  rcases List.mem_cons.mp ha with z | ha
  ·exact (by rw [z]; exact f1.2)
  rcases List.mem_cons.mp ha with z | ha
  ·exact (by rw [z]; exact f2.2)
  exact X.hb a (.tail _ (.tail _ (List.mem_append_right _ ha)))
 ·intro a ha
  rcases List.mem_cons.mp ha with z | ha
  ·(refine xEAL i1 fun o ho _ => ?_; try clear i1); exact (by rw [z]; exact ⟨o, ho⟩)
  rcases List.mem_cons.mp ha with z | ha
  ·(refine xEAL i2 fun o ho _ => ?_; try clear i2); exact (by rw [z]; exact ⟨o, ho⟩)
  refine xEL (X.aN a ha) fun o ho => ?_
  exact ⟨o, k _ _ (m3 a ha) ho⟩
end
end
section
theorem all2_int {h : Heap} {l : List (Addr × Obj)} {a b : List (Str × Value)} (x : All2 (VCp h l) a b) (hi : ∀ p ∈ a, ∃ n t, p.2 = .int n t) : b = a := by
 induction a generalizing b with
 | nil => exact x
 | cons p r ih =>
  (refine xEEAAL x fun y l' z55x2 hy hr => ?_; try clear x; subst z55x2)
  refine xEEL (hi p (.head _)) fun n t e => ?_
  rw [ih hr fun q hq => hi q (.tail _ hq)]
  rcases hy with w21 | w22
  ·(refine xEEAL w21 fun n' t' e1 e2 => ?_; try clear w21)
   rw [e2, ← e1]
  ·(refine xEEEEEEEEEEEAL w22 fun Y _ _ _ _ _ _ _ _ _ _ e1 _ => ?_; try clear w22)
   rw [e] at e1; cases e1
theorem VOkA.off {h g : Heap} {S : List Addr} {x : Value} (v : VOkA h S x) (k : ∀ b o, h.get? b = some o → b ∉ S → g.get? b = some o) : VOkA g S x := by
 rcases v with v | w23
 ·exact .inl v
 ·(refine xEEEEEEEAAL w23 fun Y YD YB YI tp p q e a hS => ?_; try clear w23)
  exact .inr ⟨Y, YD, YB, YI, tp, p, q, e, a.sub hS k, hS⟩
theorem ARRU {h : Heap} {Y YD YB YI tp YD2 YB2 YI2 tp2 : Addr} {p q p2 q2 : Int} (x : ArrAt h Y YD YB YI tp p q) (y : ArrAt h Y YD2 YB2 YI2 tp2 p2 q2) : YD = YD2 ∧ tp = tp2 ∧ p = p2 ∧ q = q2 := by
 (refine arrEl x fun a1 b1 b2 b3 b4 b5 a2 b6 a3 b7 b8 b9 a4 => ?_; try clear x)
 (refine arrEl y fun c1 d1 d2 d3 d4 d5 c2 d6 c3 d7 d8 d9 c4 => ?_; try clear y)
 rw [a1] at c1
 have e1 : YD = YD2 := by simpa [instObj] using c1
 subst e1
 rw [a2] at c2
 have e2 : YB = YB2 ∧ YI = YI2 := by
  simp [pairD] at c2
  exact ⟨by simp_all, by simp_all⟩
 (refine xAL e2 fun z64x0 z64x1 => ?_; try clear e2; subst z64x0; subst z64x1)
 rw [a3] at c3
 rw [a4] at c4
 simp [PySem.W.listOf] at c3 c4
 exact ⟨rfl, by simp_all, by simp_all, by simp_all⟩
theorem vcp_int {h : Heap} {l : List (Addr × Obj)} {n : Int} {t : Tok} {y : Value} (x : VCp h l (.int n t) y) : y = .int n t := by
 rcases x with x | x
 ·refine xEEAL x fun _ _ e e' => ?_
  rw [e', e]
 ·refine xEEEEEEEEEEEAL x fun _ _ _ _ _ _ _ _ _ _ _ e _ => ?_
  cases e
theorem vcp_ref {h : Heap} {l : List (Addr × Obj)} {Y : Addr} {y : Value} (x : VCp h l (.ref Y) y) : ∃ YD YB YI tp p q Y' YD' YB' YI', ArrAt h Y YD YB YI tp p q ∧ y = .ref Y' ∧ ArrIn l Y' YD' YB' YI' tp p q ∧ [Y', YD', YB', YI'].Nodup := by
 rcases x with x | x
 ·refine xEEAL x fun _ _ e _ => ?_
  cases e
 ·refine xEEEEEEEEEEEAL x fun Z YD YB YI tp p q Y' YD' YB' YI' e r => ?_
  cases e
  exact ⟨YD, YB, YI, tp, p, q, Y', YD', YB', YI', r⟩
theorem all2_arr {h : Heap} {l : List (Addr × Obj)} {b : List (Str × Value)} {k1 k2 k3 k4 : Str} {vd vc vz p q : Int} {td tc tz : Tok} {Y2 YD2 YB2 YI2 tp : Addr} {h' : Heap} (hY : ArrAt h' Y2 YD2 YB2 YI2 tp p q) (kC : Keeps h' h)
  (x : All2 (VCp h l) [(k1, .int vd td), (k2, .int vc tc), (k3, .ref Y2), (k4, .int vz tz)] b) :
  ∃ Y' YD' YB' YI', b = [(k1, .int vd td), (k2, .int vc tc), (k3, .ref Y'), (k4, .int vz tz)] ∧ ArrIn l Y' YD' YB' YI' tp p q ∧ [Y', YD', YB', YI'].Nodup := by
 refine xEEAAL x fun y1 l1 e1 v1 x => ?_
 refine xEEAAL x fun y2 l2 e2 v2 x => ?_
 refine xEEAAL x fun y3 l3 e3 v3 x => ?_
 refine xEEAAL x fun y4 l4 e4 v4 x => ?_
 refine xEEEEEEEEEEAL (vcp_ref v3) fun YD YB YI tp' p' q' Y' YD' YB' YI' hA r => ?_
 refine xAAAL (ARRU (hY.keeps kC) hA) fun _ z1 z2 z3 => ?_
 rw [e1, e2, e3, e4, show l4 = [] from x, vcp_int v1, vcp_int v2, vcp_int v4, r.1, z1, z2, z3]
 exact ⟨Y', YD', YB', YI', rfl, r.2⟩
section
theorem vaE {k : Str} {v : Value} {r : List (Str × Value)} : valueAt ((k, v) :: r) k = some v := by simp [valueAt]
theorem vaN {k k' : Str} {v : Value} {r : List (Str × Value)} (h : k' ≠ k) : valueAt ((k', v) :: r) k = valueAt r k := by
 unfold valueAt
 rw [List.find?_cons_of_neg (by simpa using h)]
theorem va0 {k : Str} : valueAt [] k = none := rfl
theorem xdc : Str.ofString "d" ≠ Str.ofString "c" := by decide +kernel
theorem xdx : Str.ofString "d" ≠ Str.ofString "x" := by decide +kernel
theorem xdy : Str.ofString "d" ≠ Str.ofString "y" := by decide +kernel
theorem xdz : Str.ofString "d" ≠ Str.ofString "z" := by decide +kernel
theorem xcx : Str.ofString "c" ≠ Str.ofString "x" := by decide +kernel
theorem xcy : Str.ofString "c" ≠ Str.ofString "y" := by decide +kernel
theorem xcz : Str.ofString "c" ≠ Str.ofString "z" := by decide +kernel
theorem xxy : Str.ofString "x" ≠ Str.ofString "y" := by decide +kernel
theorem xxz : Str.ofString "x" ≠ Str.ofString "z" := by decide +kernel
theorem xyz : Str.ofString "y" ≠ Str.ofString "z" := by decide +kernel
end
structure KD (hB : Heap) (c : LC) (KT S0 S1 Sb C : Addr) : Prop where
 kt : IsTup hB KT #[Value.ref S0, .ref S1, .ref Sb]
 num : ∃ SD T D es n t1 t2 t3, SubAt hB S0 SD T ∧ TypA hB T D es n ∧ getL (Str.ofString "kind") es = some (some (.str (Str.ofString "int") t1)) ∧ getL (Str.ofString "low") es = some (some (.int (-32768) t2)) ∧ getL (Str.ofString "high") es = some (some (.int 32767 t3))
 rk : ∃ SD D es n LD DT LC CT V AL A0 A1 A2 P0 P1 P2 X0 X1 X2, SubAt hB Sb SD c.RT ∧ TypA hB c.RT D es n ∧ RecKind hB es LD DT LC CT V AL A0 A1 A2 P0 P1 P2 X0 X1 X2
 cell : ∃ CD, CellAt hB C CD c.R
 sys : ∃ o, hB.get? sysModules = some o
section
variable {w : World} {hB h h' : Heap} {c : LC} {v : LV} {mg mb : Str → Option Value}
theorem ne_sys {a : Addr} (hs : ∃ o, hB.get? sysModules = some o) (n : hB.get? a = none) : (a == sysModules) = false := by
 (refine xEL hs fun o ho => ?_; try clear hs)
 have : (a : Addr) ≠ sysModules := fun q => by rw [q, ho] at n; cases n
 simpa using this
def DD.isB : DD → Bool
 | .b .. => true
 | _ => false
theorem recKv_all {Y : Addr} {D : DD} {kvs : List (Str × Value)} (k : RecKv Y D kvs) : (∀ p ∈ kvs, Five p.1 ∧ ((∃ n t, p.2 = .int n t) ∨ (p.2 = .ref Y ∧ D.isB = true ∧ p.1 = Str.ofString "y"))) ∧ kvs.length ≤ 50 ∧ (D.isB = false → valueAt kvs (Str.ofString "y") = none) := by
 have fi : ∀ {k : Str} {n : Int} {t : Tok}, Five k → Five k ∧ ((∃ n' t', Value.int n t = .int n' t') ∨ (Value.int n t = .ref Y ∧ D.isB = true ∧ k = Str.ofString "y")) := fun h => ⟨h, .inl ⟨_, _, rfl⟩⟩
 have fd : Five (Str.ofString "d") := .inl rfl
 have fc : Five (Str.ofString "c") := .inr (.inl rfl)
 cases D with
 | a c x =>
  refine xEEEL k fun _ _ _ e => ?_
  subst e
  exact ⟨List.forall_mem_cons.mpr ⟨fi fd, List.forall_mem_cons.mpr ⟨fi fc, List.forall_mem_cons.mpr ⟨fi (.inr (.inr (.inl rfl))), List.forall_mem_nil _⟩⟩⟩, (by decide : 3 ≤ 50), fun _ => (vaN xdy).trans ((vaN xcy).trans ((vaN xxy).trans va0))⟩
 | b c f z =>
  refine xEEEL k fun _ _ _ e => ?_
  subst e
  exact ⟨List.forall_mem_cons.mpr ⟨fi fd, List.forall_mem_cons.mpr ⟨fi fc, List.forall_mem_cons.mpr ⟨⟨.inr (.inr (.inr (.inl rfl))), .inr ⟨rfl, rfl, rfl⟩⟩, List.forall_mem_cons.mpr ⟨fi (.inr (.inr (.inr (.inr rfl)))), List.forall_mem_nil _⟩⟩⟩⟩, (by decide : 4 ≤ 50), fun h => nomatch h⟩
 | e c =>
  refine xEEL k fun _ _ e => ?_
  subst e
  exact ⟨List.forall_mem_cons.mpr ⟨fi fd, List.forall_mem_cons.mpr ⟨fi fc, List.forall_mem_nil _⟩⟩, (by decide : 2 ≤ 50), fun _ => (vaN xdy).trans ((vaN xcy).trans va0)⟩
theorem recKv_int {Y : Addr} {D : DD} {kvs : List (Str × Value)} (k : RecKv Y D kvs) (hb : D.isB = false) : ∀ p ∈ kvs, ∃ n t, p.2 = .int n t := fun p hp =>
 ((recKv_all k).1 p hp).2.resolve_right fun h => Bool.noConfusion (hb.symm.trans h.2.1)
theorem recKv_ref {Y a : Addr} {D : DD} {kvs : List (Str × Value)} (k : RecKv Y D kvs) {p : Str × Value} (hp : p ∈ kvs) (e : p.2 = .ref a) : D.isB = true ∧ p.1 = Str.ofString "y" :=
 (((recKv_all k).1 p hp).2.resolve_left fun ⟨_, _, h⟩ => Value.noConfusion (e.symm.trans h)).2
theorem arrSt_b {Y YD YB YI tp : Addr} {D : DD} (x : ArrSt h Y YD YB YI tp D) (hb : D.isB = true) : ∃ p q, ArrAt h Y YD YB YI tp p q ∧ ∃ o, h.get? tp = some o := by
 cases D with
 | a c x => cases hb
 | b c f z => refine xAEEL x fun a _ _ t => ?_; exact ⟨_, _, a, t.choose, t.choose_spec.1⟩
 | e c => cases hb
theorem bX_mem {D : DD} {l : List Addr} {b : Addr} (h : b ∈ bX D l) : D.isB = true ∧ b ∈ l := by
 cases D with
 | a c x => cases h
 | b c f z => exact ⟨rfl, h⟩
 | e c => cases h
theorem bX_in {D : DD} {l : List Addr} {b : Addr} (hb : D.isB = true) (h : b ∈ l) : b ∈ bX D l := by
 cases D with
 | a c x => cases hb
 | b c f z => exact h
 | e c => cases hb
theorem recKv_vok {S : List Addr} {Y YD YB YI tp : Addr} {D : DD} {kvs : List (Str × Value)} (k : RecKv Y D kvs) (x : ArrSt h Y YD YB YI tp D) (hn : ∀ a ∈ bX D [Y, YD, YB, YI], a ∉ S) : ∀ p ∈ kvs, VOkA h S p.2 := fun p hp => by
 rcases ((recKv_all k).1 p hp).2 with e | e
 ·exact .inl e
 ·refine xEEAL (arrSt_b x e.2.1) fun _ _ a _ => ?_
  exact .inr ⟨Y, YD, YB, YI, tp, _, _, e.1, a, fun b hb => hn b (bX_in e.2.1 hb)⟩
def chg (c : LC) (v : LV) (D2 : DD) : List Addr := if v.D.isB && D2.isB then [c.RD, v.YD, v.YI] else [c.RD]
def Holds2 (w : World) (hB : Heap) (c : LC) (v : LV) (D2 : DD) (tp2 : Addr) (h0 h : Heap) : Prop :=
 ∃ FD Y YD YB YI tp, LS w hB h c { v with D := D2, FD := FD, Y := Y, YD := YD, YB := YB, YI := YI, tp := tp } ∧ (∀ a ∈ [c.R, c.RD, FD] ++ bX D2 [Y, YD, YB, YI, tp], (a ∈ v.sR c ∨ a ∈ bX D2 [tp2] ∨ h0.get? a = none)) ∧ (∀ a ∈ chg c v D2, a ∈ [c.R, c.RD, FD] ++ bX D2 [Y, YD, YB, YI, tp])
theorem Holds2.keeps {D2 : DD} {tp2 : Addr} {h0 : Heap} (x : Holds2 w hB c v D2 tp2 h0 h) (k : Keeps h h') : Holds2 w hB c v D2 tp2 h0 h' :=
 xEEEEEEAAL x fun a1 a2 a3 a4 a5 a6 b1 b2 b3 => ⟨a1, a2, a3, a4, a5, a6, b1.keeps k, b2, b3⟩
theorem chg_in {D2 : DD} : ∀ a ∈ chg c v D2, a ∈ v.sR c := by
 intro a ha
 unfold chg at ha
 unfold LV.sR
 split at ha
 ·rename_i hb
  rw [Bool.and_eq_true] at hb
  revert hb
  cases v.D <;> intro hb <;> simp only [DD.isB] at hb
  ·exact absurd hb.1 (by decide)
  ·simp only [List.mem_cons, List.not_mem_nil, or_false] at ha
   rcases ha with rfl | rfl | rfl <;> simp [bX]
  ·exact absurd hb.1 (by decide)
 ·rw [List.mem_singleton.mp ha]; simp
theorem DD.b_of {D : DD} (h : D.isB = true) : ∃ c f z, D = .b c f z := by
 cases D with
 | a c x => cases h
 | b c f z => exact ⟨_, _, _, rfl⟩
 | e c => cases h
theorem bX_nodup {D : DD} {l : List Addr} (h : D.isB = true → l.Nodup) : (bX D l).Nodup := by
 cases D with
 | a c x => exact List.nodup_nil
 | b c f z => exact h rfl
 | e c => exact List.nodup_nil
theorem nd_un {a : Addr} {l : List Addr} (n : (a :: l).Nodup) : (∀ b ∈ l, a ≠ b) ∧ l.Nodup := ⟨fun _ hb q => (List.nodup_cons.mp n).1 (q ▸ hb), (List.nodup_cons.mp n).2⟩
theorem nd_cons {a : Addr} {l : List Addr} (h : ∀ b ∈ l, a ≠ b) (n : l.Nodup) : (a :: l).Nodup := List.nodup_cons.mpr ⟨fun m => h a m rfl, n⟩
theorem ArrIn.fresh {l : List (Addr × Obj)} {Y YD YB YI tp : Addr} {p q : Int} {N : Addr → Prop} (x : ArrIn l Y YD YB YI tp p q) (k : ∀ z ∈ l, N z.1) : ∀ a ∈ [Y, YD, YB, YI], N a :=
 arrInEl x fun a _ _ _ _ _ b _ c _ _ _ d => List.forall_mem_cons.mpr ⟨k _ a, List.forall_mem_cons.mpr ⟨k _ b, List.forall_mem_cons.mpr ⟨k _ c, List.forall_mem_cons.mpr ⟨k _ d, List.forall_mem_nil _⟩⟩⟩⟩
def CpIn (l : List (Addr × Obj)) (Y YD YB YI tp : Addr) : DD → Prop
 | .b _ f _ => ArrIn l Y YD YB YI tp f (f + 3) ∧ [Y, YD, YB, YI].Nodup
 | _ => True
theorem recKv_copy {hc h0 : Heap} {l : List (Addr × Obj)} {Y2 YD2 YB2 YI2 tp2 : Addr} {D2 : DD} {kvs2 kvs' : List (Str × Value)} (k2 : RecKv Y2 D2 kvs2) (a2 : ArrSt h0 Y2 YD2 YB2 YI2 tp2 D2) (kC : Keeps h0 hc) (x : All2 (VCp hc l) kvs2 kvs') :
  ∃ Y YD YB YI, RecKv Y D2 kvs' ∧ CpIn l Y YD YB YI tp2 D2 := by
 by_cases hb : D2.isB = false
 ·rw [all2_int x (recKv_int k2 hb)]
  refine ⟨Y2, YD2, YB2, YI2, k2, ?_⟩
  cases D2 <;> first | trivial | cases hb
 ·cases D2 with
  | a c x => exact absurd rfl hb
  | e c => exact absurd rfl hb
  | b c f z =>
   (refine xEEEL k2 fun t0 t1 t2 e => ?_; subst e)
   obtain ⟨Y', YD', YB', YI', e, hi, hn⟩ := all2_arr a2.1 kC x
   exact ⟨Y', YD', YB', YI', ⟨_, _, _, e⟩, hi, hn⟩
theorem VOkA.ok {S : List Addr} {x : Value} (v : VOkA h S x) : VOk h x := v.imp id fun x => xEEEEEEEAAL x fun a b c d e f g i j _ => ⟨a, b, c, d, e, f, g, i, j⟩
theorem arrSt_in {l : List (Addr × Obj)} {h1 : Heap} {Y YD YB YI Y2 YD2 YB2 YI2 tp : Addr} {D : DD} (x : CpIn l Y YD YB YI tp D) (k : ∀ z ∈ l, h.get? z.1 = some z.2) (a : ArrSt h1 Y2 YD2 YB2 YI2 tp D) (kk : Keeps h1 h) : ArrSt h Y YD YB YI tp D := by
 cases D with
 | a c x => trivial
 | b c f z => (refine xAEEL a fun _ ta tb ht => ?_); exact ⟨x.1.at' k, ta, tb, ht.keeps kk⟩
 | e c => trivial
theorem cpIn_fresh {l : List (Addr × Obj)} {Y YD YB YI tp : Addr} {D : DD} {N : Addr → Prop} (x : CpIn l Y YD YB YI tp D) (hb : D.isB = true) (k : ∀ z ∈ l, N z.1) : (∀ a ∈ [Y, YD, YB, YI], N a) ∧ [Y, YD, YB, YI].Nodup := by
 cases D with
 | a c x => cases hb
 | b c f z => exact ⟨x.1.fresh k, x.2⟩
 | e c => cases hb
theorem holds_new {h1 : Heap} {F Y YD YB YI tp2 : Addr} {kvs : List (Str × Value)} {D2 : DD} (X : LS w hB h1 c v) (st : hB.StaysIn h1) (hk : Keeps h h1) (kp : KeepsOff (chg c v D2) h1 h') (hr : RecAt w h' c.R c.RD F c.RT kvs) (k : RecKv Y D2 kvs) (a : ArrSt h' Y YD YB YI tp2 D2) (ok2 : D2.Ok)
  (mem : ∀ a ∈ F :: bX D2 [Y, YD, YB, YI], a ∈ v.sR c ∨ h1.get? a = none) (ht : D2.isB = true → tp2 ∈ v.sR c ∨ (tp2 ∉ v.at c ∧ hB.get? tp2 = none)) (nd : (c.R :: c.RD :: F :: bX D2 [Y, YD, YB, YI, tp2]).Nodup) (hch : ∀ a ∈ chg c v D2, a ∈ c.RD :: bX D2 [Y, YD, YB, YI]) : Holds2 w hB c v D2 tp2 h h' := by
 have up : ∀ a ∈ bX D2 [Y, YD, YB, YI], a ∈ bX D2 [Y, YD, YB, YI, tp2] := fun a ha => bX_in (bX_mem ha).1 (List.mem_append_left [tp2] (bX_mem ha).2)
 have all : ∀ a ∈ c.R :: c.RD :: F :: bX D2 [Y, YD, YB, YI, tp2], a ∈ v.sR c ∨ h1.get? a = none ∨ (D2.isB = true ∧ a = tp2) := fun a ha => by
  rcases List.mem_cons.mp ha with e | ha
  ·exact .inl (e ▸ .head _)
  rcases List.mem_cons.mp ha with e | ha
  ·exact .inl (e ▸ .tail _ (.head _))
  rcases List.mem_cons.mp ha with e | ha
  ·exact (mem a (e ▸ .head _)).imp id .inl
  ·have m := bX_mem ha
   rcases List.mem_append.mp (show a ∈ [Y, YD, YB, YI] ++ [tp2] from m.2) with q | q
   ·exact (mem a (.tail _ (bX_in m.1 q))).imp id .inl
   ·exact .inr (.inr ⟨m.1, List.mem_singleton.mp q⟩)
 refine ⟨F, Y, YD, YB, YI, tp2, X.recs kp (fun a ha => chg_in a ha) ⟨kvs, hr, k, a⟩ ok2 (fun a ha => ?_) nd, fun a ha => ?_, fun a ha => ?_⟩
 ·rcases all a ha with q | q | q
  ·exact .inl q
  ·exact .inr (X.fresh st q)
  ·exact q.2 ▸ ht q.1
 ·rcases all a ha with q | q | q
  ·exact .inl q
  ·exact .inr (.inr (noneK hk q))
  ·exact .inr (.inl (bX_in q.1 (List.mem_singleton.mpr q.2)))
 ·rcases List.mem_cons.mp (hch a ha) with e | q
  ·exact e ▸ .tail _ (.head _)
  ·exact .tail _ (.tail _ (.tail _ (up a q)))
theorem assign_L {KT S0 S1 Sb C R2 RD2 FD2 Y2 YD2 YB2 YI2 tp2 : Addr} {kvs2 : List (Str × Value)} {D2 : DD} (WD : Wd w mg mb hB) (K : KD hB c KT S0 S1 Sb C) (X : LS w hB h c v) (st : hB.StaysIn h)
  (r2 : RecAt w h R2 RD2 FD2 c.RT kvs2) (k2 : RecKv Y2 D2 kvs2) (a2 : ArrSt h Y2 YD2 YB2 YI2 tp2 D2) (ok2 : D2.Ok) (lo2 : (FD2 == sysModules) = false)
  (ht : D2.isB = true → (tp2 ∈ v.sR c ∨ (tp2 ∉ v.at c ∧ hB.get? tp2 = none)) ∧ c.R ≠ tp2 ∧ c.RD ≠ tp2 ∧ (v.D.isB = true → ∀ a ∈ [v.Y, v.YD, v.YI], a ≠ tp2)) :
  CallsTo w 452 1600 h (chg c v D2) (Holds2 w hB c v D2 tp2 h) 447 [.ref c.R, .ref R2, .bool false] := by
 intro s1 dd uu gs fr Q E hk hd hu hQ
 refine xEEEEEEEEEEEEEEEEEEEAAL (K.rk) fun SD D es n LD DT LCx CT V AL A0 A1 A2 P0 P1 P2 X0 X1 X2 hS hT hK => ?_
 have X1' := X.keeps hk
 have st1 : hB.StaysIn s1.heap := fun b o e => hk b o (st b o e)
 refine xEAAL (X1'.rc) fun kvs hA kk ar => ?_
 have a2' : ArrSt s1.heap Y2 YD2 YB2 YI2 tp2 D2 := a2.off (S := []) (fun b o _ e => hk b o e) (fun _ _ h => by cases h)
 have mR : ∀ a ∈ v.sR c, a ∈ v.at c := fun a ha => .tail _ (.tail _ (List.mem_append_left _ (List.mem_append_right _ ha)))
 have iR : c.R ∈ v.sR c := .head _
 have iRD : c.RD ∈ v.sR c := .tail _ (.head _)
 have iFD : v.FD ∈ v.sR c := .tail _ (.tail _ (.head _))
 have hin : ∀ a ∈ chg c v D2, a ∈ v.at c := fun a ha => mR a (chg_in a ha)
 have hl := ne_sys K.sys (X.hb _ (mR _ iFD))
 have ndr := X.ndR
 have ex1 : ∀ a ∈ v.at c, ∀ b, s1.heap.get? b = none → a ≠ b := fun a ha b hb q => by
  refine xEL (X1'.there a ha) fun o ho => ?_
  rw [q, hb] at ho; cases ho
 have nFD : v.FD ∉ chg c v D2 := fun q => by
  unfold chg at q
  split at q
  ·rename_i hb
   refine xEEEL (DD.b_of (Bool.and_eq_true_iff.mp hb).1) fun _ _ _ hD => ?_
   unfold LV.sR at ndr
   rw [hD] at ndr
   have n2 := List.nodup_cons.mp (List.nodup_cons.mp ndr).2
   rcases List.mem_cons.mp q with e | q
   ·exact n2.1 (e ▸ .head _)
   ·refine (List.nodup_cons.mp n2.2).1 ?_
    rcases List.mem_cons.mp q with e | q
    ·rw [e]; exact .tail _ (.head _)
    ·rw [List.mem_singleton.mp q]; exact .tail _ (.tail _ (.tail _ (.head _)))
  ·have n2 := List.nodup_cons.mp (List.nodup_cons.mp ndr).2
   exact n2.1 (List.mem_singleton.mp q ▸ .head _)
 refine assign_rec WD st1 hd hu hT hK hA (r2.keeps hk) (fun a ha => ⟨X1'.there a (hin a ha), X.hb a (hin a ha)⟩) nFD (fun p hp => (recKv_vok (S := []) k2 a2' (fun _ _ h => nomatch h) p hp).ok) (fun p hp => ((recKv_all kk).1 p hp).1) (recKv_all k2).2.1 hl lo2 ?hin (fun _ _ x k => x.keeps k) hQ
 case hin =>
  intro s2 hc R' RD' FD' kvs' vals dd uu gs fr Q E kC k1 r' hall hv hf hd hu hQ
  obtain ⟨Y', YD', YB', YI', k', cp⟩ := recKv_copy k2 a2' kC hall
  have st2 : hB.StaysIn s2.heap := fun b o e => k1 _ _ (st1 _ _ e)
  have a' := arrSt_in cp (fun z hz => (hv z hz).1) a2' k1
  have hl' := ne_sys K.sys (fresh_base st1 (hf FD' (by k_mem)))
  have fr1 : ∀ b ∈ bX D2 [Y', YD', YB', YI'], s1.heap.get? b = none ∧ ∃ o, s2.heap.get? b = some o := fun b hb => (cpIn_fresh cp (bX_mem hb).1 (N := fun a => s1.heap.get? a = none ∧ ∃ o, s2.heap.get? a = some o) fun z hz => ⟨(hv z hz).2.1, _, (hv z hz).1⟩).1 b (bX_mem hb).2
  have tpx : D2.isB = true → ∃ o, s1.heap.get? tp2 = some o := fun hb => by refine xEEAL (arrSt_b a2' hb) fun _ _ _ t => ?_; exact t
  have nFr : ∀ a b : Addr, (∃ o, s1.heap.get? a = some o) → s1.heap.get? b = none → a ≠ b := fun a b ha hb q => by
   refine xEL ha fun o ho => ?_
   rw [q, hb] at ho; cases ho
  have aRD := mR _ iRD
  by_cases hb : (v.D.isB && D2.isB) = true
  ·have hbv := (Bool.and_eq_true_iff.mp hb).1
   refine xEEEL (DD.b_of hbv) fun c1 f1 z1 hD => ?_
   refine xEEEL (DD.b_of (Bool.and_eq_true_iff.mp hb).2) fun c2 f2 z2 hD2 => ?_
   subst hD2
   have hc : chg c v (.b c2 f2 z2) = [c.RD, v.YD, v.YI] := if_pos hb
   have sRe : v.sR c = [c.R, c.RD, v.FD, v.Y, v.YD, v.YB, v.YI, v.tp] := by unfold LV.sR; rw [hD]; rfl
   rw [hD] at kk ar
   refine xEEEL kk fun u0 u1 u2 e => ?_
   subst e
   refine xEEEL k' fun w0 w1 w2 e => ?_
   subst e
   refine xAEEL a' fun hY' ta tb hT' => ?_
   have hYo := ar.1
   have h4 := ht rfl
   rw [sRe] at ndr
   refine xAL (nd_un ndr) fun n1 nd => ?_
   refine xAL (nd_un nd) fun n2 nd => ?_
   refine xAL (nd_un nd) fun n3 nd => ?_
   refine xAL (nd_un nd) fun n4 nd => ?_
   refine xAL (nd_un nd) fun n5 nd => ?_
   refine xAL (nd_un nd) fun n6 nd => ?_
   clear ndr nd kk ar k' a' cp hall hv
   have iY : v.Y ∈ v.sR c := by rw [sRe]; k_mem
   have iYD : v.YD ∈ v.sR c := by rw [sRe]; k_mem
   have iYI : v.YI ∈ v.sR c := by rw [sRe]; k_mem
   have nf : ∀ b, s1.heap.get? b = none → b ≠ c.RD ∧ b ≠ v.YD ∧ b ≠ v.YI := fun b hb => ⟨Ne.symm (ex1 _ aRD b hb), Ne.symm (ex1 _ (mR _ iYD) b hb), Ne.symm (ex1 _ (mR _ iYI) b hb)⟩
   have f4 : ∀ b ∈ [Y', YD', YB', YI'], s1.heap.get? b = none := fun b hb => (fr1 b hb).1
   refine kept_recA WD st2 hd hu (hA.keeps k1) r' (hYo.keeps k1) hY' (List.forall_mem_cons.mpr ⟨.inl ⟨_, _, rfl, _, _, vaE⟩, List.forall_mem_cons.mpr ⟨.inl ⟨_, _, rfl, _, _, (vaN xdc).trans vaE⟩, List.forall_mem_cons.mpr ⟨.inr ⟨rfl, (vaN xdy).trans ((vaN xcy).trans vaE)⟩, List.forall_mem_cons.mpr ⟨.inl ⟨_, _, rfl, _, _, (vaN xdz).trans ((vaN xcz).trans ((vaN xyz).trans vaE))⟩, List.forall_mem_nil _⟩⟩⟩⟩)
    (by decide : 4 ≤ 50) hl' hl (X.hb _ aRD) (X.hb _ (mR _ iYD)) (X.hb _ (mR _ iYI)) (X.hb _ (mR _ iY)) ⟨n2 _ (by k_mem), n2 _ (by k_mem), n5 _ (by k_mem), n4 _ (by k_mem), n4 _ (by k_mem), Ne.symm (n2 _ (by k_mem))⟩ ?ap (fun a ha => Ne.symm (ex1 _ (mR _ iY) a (f4 a ha))) fun F' h' tk kp hr har hn => hQ h' tk (fun b o nb e => kp b o (fun q => nb (hc ▸ q ▸ .head _)) (fun q => nb (hc ▸ q ▸ .tail _ (.head _))) (fun q => nb (hc ▸ q ▸ .tail _ (.tail _ (.head _)))) e) ?hold
   case ap =>
    refine List.forall_mem_cons.mpr ⟨⟨n1 _ (by k_mem), n1 _ (by k_mem), n1 _ (by k_mem)⟩, List.forall_mem_cons.mpr ⟨⟨Ne.symm (n2 _ (by k_mem)), n3 _ (by k_mem), n3 _ (by k_mem)⟩, List.forall_mem_cons.mpr ⟨⟨Ne.symm (n2 _ (by k_mem)), Ne.symm (n5 _ (by k_mem)), n6 _ (by k_mem)⟩, fun a ha => nf a ?_⟩⟩⟩
    rcases List.mem_append.mp (show a ∈ [R', RD', FD'] ++ [Y', YD', YB', YI'] from ha) with ha | ha
    ·exact hf a ha
    ·exact f4 a ha
   case hold =>
    have hA' := har ⟨_, .tail _ (.tail _ (.head _)), rfl⟩
    have fF := noneK k1 hn
    have fB := f4 YB' (by k_mem)
    have e1 := ex1 _ (mR _ iR)
    have e2 := ex1 _ aRD
    have e4 := ex1 _ (mR _ iY)
    have e5 := ex1 _ (mR _ iYD)
    have e7 := ex1 _ (mR _ iYI)
    have e8 := fun b hb => nFr tp2 b (tpx rfl) hb
    have nFB : F' ≠ YB' := fun q => by
     refine xEL (fr1 YB' (show YB' ∈ [Y', YD', YB', YI'] by k_mem)).2 fun o ho => ?_
     rw [← q, hn] at ho; cases ho
    refine holds_new (h1 := s1.heap) (Y := v.Y) (YD := v.YD) (YB := YB') (YI := v.YI) X1' st1 hk (fun b o nb e => kp b o (fun q => nb (hc ▸ q ▸ .head _)) (fun q => nb (hc ▸ q ▸ .tail _ (.head _))) (fun q => nb (hc ▸ q ▸ .tail _ (.tail _ (.head _)))) (k1 _ _ e)) hr ⟨_, _, _, rfl⟩ ⟨hA', ta, tb, tupS (S := [c.RD, v.YD, v.YI]) hT' ?tp fun b o e nb => kp b o (fun q => nb (q ▸ .head _)) (fun q => nb (q ▸ .tail _ (.head _))) (fun q => nb (q ▸ .tail _ (.tail _ (.head _)))) e⟩ ok2 ?mem (fun _ => h4.1) ?nd ?ch
    case tp =>
     intro q
     rcases List.mem_cons.mp q with q | q
     ·exact h4.2.2.1 q.symm
     rcases List.mem_cons.mp q with q | q
     ·exact h4.2.2.2 hbv _ (.tail _ (.head _)) q.symm
     ·exact h4.2.2.2 hbv _ (.tail _ (.tail _ (.head _))) (List.mem_singleton.mp q).symm
    case mem => exact List.forall_mem_cons.mpr ⟨.inr fF, List.forall_mem_cons.mpr ⟨.inl iY, List.forall_mem_cons.mpr ⟨.inl iYD, List.forall_mem_cons.mpr ⟨.inr fB, List.forall_mem_cons.mpr ⟨.inl iYI, List.forall_mem_nil _⟩⟩⟩⟩⟩
    case nd =>
     refine nd_cons (List.forall_mem_cons.mpr ⟨n1 _ (by k_mem), List.forall_mem_cons.mpr ⟨e1 _ fF, List.forall_mem_cons.mpr ⟨n1 _ (by k_mem), List.forall_mem_cons.mpr ⟨n1 _ (by k_mem), List.forall_mem_cons.mpr ⟨e1 _ fB, List.forall_mem_cons.mpr ⟨n1 _ (by k_mem), List.forall_mem_cons.mpr ⟨h4.2.1, List.forall_mem_nil _⟩⟩⟩⟩⟩⟩⟩) ?_
     refine nd_cons (List.forall_mem_cons.mpr ⟨e2 _ fF, List.forall_mem_cons.mpr ⟨n2 _ (by k_mem), List.forall_mem_cons.mpr ⟨n2 _ (by k_mem), List.forall_mem_cons.mpr ⟨e2 _ fB, List.forall_mem_cons.mpr ⟨n2 _ (by k_mem), List.forall_mem_cons.mpr ⟨h4.2.2.1, List.forall_mem_nil _⟩⟩⟩⟩⟩⟩) ?_
     refine nd_cons (List.forall_mem_cons.mpr ⟨Ne.symm (e4 _ fF), List.forall_mem_cons.mpr ⟨Ne.symm (e5 _ fF), List.forall_mem_cons.mpr ⟨nFB, List.forall_mem_cons.mpr ⟨Ne.symm (e7 _ fF), List.forall_mem_cons.mpr ⟨Ne.symm (e8 _ fF), List.forall_mem_nil _⟩⟩⟩⟩⟩) ?_
     refine nd_cons (List.forall_mem_cons.mpr ⟨n4 _ (by k_mem), List.forall_mem_cons.mpr ⟨e4 _ fB, List.forall_mem_cons.mpr ⟨n4 _ (by k_mem), List.forall_mem_cons.mpr ⟨h4.2.2.2 hbv _ (.head _), List.forall_mem_nil _⟩⟩⟩⟩) ?_
     refine nd_cons (List.forall_mem_cons.mpr ⟨e5 _ fB, List.forall_mem_cons.mpr ⟨n5 _ (by k_mem), List.forall_mem_cons.mpr ⟨h4.2.2.2 hbv _ (.tail _ (.head _)), List.forall_mem_nil _⟩⟩⟩) ?_
     refine nd_cons (List.forall_mem_cons.mpr ⟨Ne.symm (e7 _ fB), List.forall_mem_cons.mpr ⟨Ne.symm (e8 _ fB), List.forall_mem_nil _⟩⟩) ?_
     exact nd_cons (List.forall_mem_cons.mpr ⟨h4.2.2.2 hbv _ (.tail _ (.tail _ (.head _))), List.forall_mem_nil _⟩) (List.nodup_cons.mpr ⟨List.not_mem_nil, List.nodup_nil⟩)
    case ch =>
     intro a ha
     rw [hc] at ha
     rcases List.mem_cons.mp ha with e | ha
     ·exact e ▸ .head _
     rcases List.mem_cons.mp ha with e | ha
     ·exact e ▸ .tail _ (.tail _ (.head _))
     ·exact List.mem_singleton.mp ha ▸ .tail _ (.tail _ (.tail _ (.tail _ (.head _))))
  ·have hc : chg c v D2 = [c.RD] := if_neg hb
   refine kept_recN WD st2 hd hu (hA.keeps k1) r' (recKv_vok kk (ar.off (S := []) (fun b o _ e => k1 b o e) (fun _ _ h => nomatch h)) fun a ha q => ?o0) (recKv_vok k' a' fun a ha q => ?o1) (fun p hp a e => ?nn) (recKv_all k').2.1 hl' hl (X.hb _ aRD) (fun a ha => Ne.symm (ex1 _ aRD a (hf a ha))) fun F' h' tk kp hr hn => hQ h' tk (fun b o nb e => kp b o (fun q => nb (hc ▸ q ▸ .head _)) e) ?hold
   case o0 =>
    have hm := bX_mem ha
    refine (List.nodup_cons.mp (List.nodup_cons.mp ndr).2).1 (.tail _ ?_)
    exact List.mem_singleton.mp q ▸ bX_in hm.1 (List.mem_append_left [v.tp] hm.2)
   case o1 => exact ex1 _ aRD a (fr1 a ha).1 (List.mem_singleton.mp q).symm
   case nn =>
    have hm := recKv_ref k' hp e
    rw [hm.2]
    refine (recKv_all kk).2.2 ?_
    cases q : v.D.isB with
    | false => rfl
    | true => rw [q, hm.1] at hb; exact absurd rfl hb
   case hold =>
    have nF : ∀ b, (∃ o, s2.heap.get? b = some o) → F' ≠ b := fun b hb q => by
     refine xEL hb fun o ho => ?_
     rw [← q, hn] at ho; cases ho
    have up : ∀ b, (∃ o, s1.heap.get? b = some o) → ∃ o, s2.heap.get? b = some o := fun b hb => by refine xEL hb fun o ho => ?_; exact ⟨o, k1 _ _ ho⟩
    have nw : ∀ b ∈ bX D2 [Y', YD', YB', YI', tp2], D2.isB = true ∧ (b ∈ bX D2 [Y', YD', YB', YI'] ∨ b = tp2) := fun b hb => by
     have m := bX_mem hb
     rcases List.mem_append.mp (show b ∈ [Y', YD', YB', YI'] ++ [tp2] from m.2) with q | q
     ·exact ⟨m.1, .inl (bX_in m.1 q)⟩
     ·exact ⟨m.1, .inr (List.mem_singleton.mp q)⟩
    have nOld : ∀ a, (∃ o, s1.heap.get? a = some o) → (D2.isB = true → a ≠ tp2) → ∀ b ∈ bX D2 [Y', YD', YB', YI', tp2], a ≠ b := fun a ha hn b hb => by
     have m := nw b hb
     rcases m.2 with q | q
     ·exact nFr a b ha (fr1 b q).1
     ·exact q ▸ hn m.1
    refine holds_new (h1 := s1.heap) X1' st1 hk (fun b o nb e => kp b o (fun q => nb (hc ▸ q ▸ .head _)) (k1 _ _ e)) hr k' (a'.off (S := [c.RD]) (fun b o nb e => kp b o (fun q => nb (List.mem_singleton.mpr q)) e) fun a ha q => ?_) ok2 (fun a ha => ?_) (fun hb => (ht hb).1) (nd_cons (fun b hb => ?_) (nd_cons (fun b hb => ?_) (nd_cons (fun b hb => ?_) (bX_nodup fun hb2 => ?_)))) (fun a ha => by rw [hc] at ha; rw [List.mem_singleton.mp ha]; exact .head _)
    ·exact nOld _ (X1'.there _ aRD) (fun hb => (ht hb).2.2.1) a ha (List.mem_singleton.mp q).symm
    ·rcases List.mem_cons.mp ha with e | ha
     ·exact .inr (e ▸ noneK k1 hn)
     ·exact .inr (fr1 a ha).1
    ·rcases List.mem_cons.mp hb with e | hb
     ·exact e ▸ hr.ne.2.2
     rcases List.mem_cons.mp hb with e | hb
     ·exact e ▸ Ne.symm hr.ne.1
     ·exact nOld _ (X1'.there _ (mR _ iR)) (fun hb => (ht hb).2.1) b hb
    ·rcases List.mem_cons.mp hb with e | hb
     ·exact e ▸ Ne.symm hr.ne.2.1
     ·exact nOld _ (X1'.there _ aRD) (fun hb => (ht hb).2.2.1) b hb
    ·have m := nw b hb
     rcases m.2 with q | q
     ·exact nF b (fr1 b q).2
     ·exact nF b (up b (q ▸ tpx m.1))
    ·have cf := (cpIn_fresh cp hb2 (N := fun a => s1.heap.get? a = none) fun z hz => (hv z hz).2.1)
     show ([Y', YD', YB', YI'] ++ [tp2]).Nodup
     refine List.nodup_append.mpr ⟨cf.2, List.nodup_cons.mpr ⟨List.not_mem_nil, List.nodup_nil⟩, fun a ha b hb => ?_⟩
     rw [List.mem_singleton.mp hb]
     exact Ne.symm (nFr _ _ (tpx hb2) (cf.1 a ha))
end
end
section
section
variable {w : World} {hB : Heap} {s : Shared} {c : LC} {v : LV} {mg mb : Str → Option Value} {KT S0 S1 Sb C : Addr}
theorem LS.sR_at {h : Heap} (_X : LS w hB h c v) : ∀ a ∈ v.sR c, a ∈ v.at c := fun a ha => .tail _ (.tail _ (List.mem_append_left _ (List.mem_append_right _ ha)))
theorem LS.hN {h : Heap} {S : List Addr} (X : LS w hB h c v) (hS : ∀ a ∈ S, a ∈ v.at c) : ∀ q ∈ frO h S, h.get? q.1 = some q.2 ∧ hB.get? q.1 = none := fun q hq => ⟨(frO_mem hq).2, X.hb _ (hS _ (frO_mem hq).1)⟩
variable {dd uu : Nat} {gs : Option (List Code)} {fr : Option (List Env)} {Q : Value → Shared → Prop} {E : Value → Shared → Prop}
theorem stored_rec_L {Pl R2 RD2 FD2 Y2 YD2 YB2 YI2 tp2 : Addr} {tw : Tok} {kvs2 : List (Str × Value)} {D2 : DD} (WD : Wd w mg mb hB) (K : KD hB c KT S0 S1 Sb C) (X : LS w hB s.heap c v) (st : hB.StaysIn s.heap) (hdd : dd ≤ 416) (huu : uu ≤ 1300)
  (hP : IsTup s.heap Pl #[Value.str (Str.ofString "cell") tw, .ref C]) (nP : Pl ∉ v.at c)
  (r2 : RecAt w s.heap R2 RD2 FD2 c.RT kvs2) (k2 : RecKv Y2 D2 kvs2) (a2 : ArrSt s.heap Y2 YD2 YB2 YI2 tp2 D2) (ok2 : D2.Ok) (lo2 : (FD2 == sysModules) = false) (nR2 : R2 ∉ chg c v D2)
  (ht : D2.isB = true → (tp2 ∈ v.sR c ∨ (tp2 ∉ v.at c ∧ hB.get? tp2 = none)) ∧ c.R ≠ tp2 ∧ c.RD ≠ tp2 ∧ (v.D.isB = true → ∀ a ∈ [v.Y, v.YD, v.YI], a ≠ tp2))
  (hQ : ∀ t h' tk, KeepsOff (chg c v D2) s.heap h' → Holds2 w hB c v D2 tp2 s.heap h' → Q (.str (Str.ofString "") t) { s with heap := h', toks := tk }) :
  wpAny (model prog0 w) ⟨none, dd, fr, gs, uu⟩ (call (.ref 709) [.ref Pl, .ref Sb, .ref R2]) Q E s := by
 have c447 := assign_L WD K X st r2 k2 a2 ok2 lo2 ht
 refine xEEEEEEEEEEEEEEEEEEEAAL (K.rk) fun SD D es n LD DT LCx CT V AL A0 A1 A2 P0 P1 P2 X0 X1 X2 hS hT hK => ?_
 refine xEL (K.cell) fun CD hC => ?_
 refine xEEEEEEEEEL (hC.o2) fun _ _ _ _ _ _ _ _ _ gCD => ?_
 refine xEEEEEL (r2.o2) fun _ _ _ _ _ gR2 => ?_
 have hin : ∀ a ∈ chg c v D2, a ∈ v.at c := fun a ha => X.sR_at a (chg_in a ha)
 have hfst := frO_fst (h := s.heap) fun a ha => X.there a (hin a ha)
 obtain ⟨nw, hnw⟩ : ∃ nw, nw = frO s.heap (chg c v D2) := ⟨_, rfl⟩
 obtain ⟨P, hP2⟩ : ∃ P, P = Holds2 w hB c v D2 tp2 s.heap := ⟨_, rfl⟩
 have hNw : ∀ q ∈ nw, s.heap.get? q.1 = some q.2 ∧ hB.get? q.1 = none := by rw [hnw]; exact X.hN hin
 have hPk : ∀ h h', P h → Keeps h h' → P h' := by rw [hP2]; exact fun _ _ x k => x.keeps k
 rw [← hP2] at c447 hQ
 clear hP2
 rw [← hnw] at hfst
 clear hnw
 rw [← hfst] at c447 hin nR2 hQ
 have nB : ∀ a o, hB.get? a = some o → a ∉ nw.map (·.1) := fun a o e q => by rw [X.hb _ (hin _ q)] at e; cases e
 have nC := nB _ _ hC.o1
 have nCD := nB _ _ gCD
 have nPl : Pl ∉ nw.map (·.1) := fun q => nP (hin _ q)
 clear hfst hin nB
 have hNx : ∀ {h : Heap}, Keeps s.heap h → ∀ q ∈ nw, h.get? q.1 = some q.2 ∧ hB.get? q.1 = none := fun hk q hq => ⟨hk _ _ (hNw q hq).1, (hNw q hq).2⟩
 have stx : ∀ {h : Heap}, Keeps s.heap h → hB.StaysIn h := fun hk b o e => hk b o (st b o e)
 have hR2 : ∀ {h : Heap}, Keeps s.heap h → ∃ RD2, h.get? R2 = some (instObj 152 RD2) ∧ ∃ o, h.get? RD2 = some o := fun hk => ⟨RD2, hk _ _ r2.o1, _, hk _ _ gR2⟩
 exact stored_ok WD st hdd huu hNw hPk (fun s1 dd uu gs fr Q E hk hd hu hQ =>
  into_rec WD (stx hk) hd hu (hNx hk) hPk hS hT hK (hP.keeps hk) (hC.keeps (stx hk)) (hR2 hk) nPl nC nCD nR2 (fun s2 dd uu gs fr Q E hk2 hd hu hQ =>
   have hk : Keeps s.heap s2.heap := fun b o e => hk2 b o (hk b o e)
   checked_rec WD (stx hk) hd hu (hNx hk) hPk hS hT hK (hP.keeps hk) (hC.keeps (stx hk)) (hR2 hk) nPl nC nCD nR2 (c447.keeps hk) hQ) hQ) hQ
theorem stored_cell_L {Pl R2 RD2 FD2 Y2 YD2 YB2 YI2 tp2 : Addr} {tw : Tok} {kvs2 : List (Str × Value)} {D2 : DD} (WD : Wd w mg mb hB) (K : KD hB c KT S0 S1 Sb C) (X : LS w hB s.heap c v) (st : hB.StaysIn s.heap) (hdd : dd ≤ 416) (huu : uu ≤ 1300)
  (hP : IsTup s.heap Pl #[Value.str (Str.ofString "cell") tw, .ref C]) (nP : Pl ∉ v.at c)
  (r2 : RecAt w s.heap R2 RD2 FD2 c.RT kvs2) (k2 : RecKv Y2 D2 kvs2) (a2 : ArrSt s.heap Y2 YD2 YB2 YI2 tp2 D2) (ok2 : D2.Ok) (ap : ∀ a ∈ [R2, RD2, FD2] ++ bX D2 [Y2, YD2, YB2, YI2, tp2], a ∉ v.at c ∧ hB.get? a = none)
  (hQ : ∀ t h' tk, KeepsOff (chg c v D2) s.heap h' → Holds2 w hB c v D2 tp2 s.heap h' → Q (.str (Str.ofString "") t) { s with heap := h', toks := tk }) :
  wpAny (model prog0 w) ⟨none, dd, fr, gs, uu⟩ (call (.ref 709) [.ref Pl, .ref Sb, .ref R2]) Q E s :=
 stored_rec_L WD K X st hdd huu hP nP r2 k2 a2 ok2 (ne_sys K.sys (ap FD2 (.tail _ (.tail _ (.head _)))).2) (fun q => (ap R2 (.head _)).1 (X.sR_at _ (chg_in _ q))) (fun hb => by
  have h := ap tp2 (List.mem_append_right _ (bX_in hb (by k_mem)))
  have n : ∀ a ∈ v.sR c, a ≠ tp2 := fun a ha q => h.1 (X.sR_at _ (q ▸ ha))
  refine ⟨.inr h, n _ (.head _), n _ (.tail _ (.head _)), fun hv a ha => n a (List.mem_append_right _ (bX_in hv ?_))⟩
  rcases List.mem_cons.mp ha with e | ha
  ·exact e ▸ .head _
  rcases List.mem_cons.mp ha with e | ha
  ·exact e ▸ .tail _ (.head _)
  ·exact List.mem_singleton.mp ha ▸ .tail _ (.tail _ (.tail _ (.head _)))) hQ
theorem stored_self_L {Pl : Addr} {tw : Tok} (WD : Wd w mg mb hB) (K : KD hB c KT S0 S1 Sb C) (X : LS w hB s.heap c v) (st : hB.StaysIn s.heap) (hdd : dd ≤ 416) (huu : uu ≤ 1300)
  (hP : IsTup s.heap Pl #[Value.str (Str.ofString "cell") tw, .ref C]) (nP : Pl ∉ v.at c)
  (hQ : ∀ t h' tk, KeepsOff (chg c v v.D) s.heap h' → Holds2 w hB c v v.D v.tp s.heap h' → Q (.str (Str.ofString "") t) { s with heap := h', toks := tk }) :
  wpAny (model prog0 w) ⟨none, dd, fr, gs, uu⟩ (call (.ref 709) [.ref Pl, .ref Sb, .ref c.R]) Q E s := by
 refine xEAAL (X.rc) fun kvs hA kk ar => ?_
 refine xAL (nd_un X.ndR) fun n1 nd => ?_
 refine xAL (nd_un nd) fun n2 nd => ?_
 refine xAL (nd_un nd) fun n3 nd => ?_
 have it : ∀ {a}, v.D.isB = true → a ∈ [v.Y, v.YD, v.YB, v.YI, v.tp] → a ∈ bX v.D [v.Y, v.YD, v.YB, v.YI, v.tp] := fun hb ha => bX_in hb ha
 refine stored_rec_L WD K X st hdd huu hP nP hA kk ar X.okd (ne_sys K.sys (X.hb _ (X.sR_at _ (.tail _ (.tail _ (.head _)))))) (fun q => ?_) (fun hb => ?_) hQ
 ·unfold chg at q
  split at q
  ·rename_i hb
   have hb := (Bool.and_eq_true_iff.mp hb).1
   rcases List.mem_cons.mp q with e | q
   ·exact n1 _ (.head _) e
   rcases List.mem_cons.mp q with e | q
   ·exact n1 _ (.tail _ (.tail _ (it hb (by k_mem)))) e
   ·exact n1 _ (.tail _ (.tail _ (it (a := v.YI) hb (by k_mem)))) (List.mem_singleton.mp q)
  ·exact n1 _ (.head _) (List.mem_singleton.mp q)
 ·refine ⟨.inl (.tail _ (.tail _ (.tail _ (it hb (by k_mem))))), n1 _ (.tail _ (.tail _ (it hb (by k_mem)))), n2 _ (.tail _ (it hb (by k_mem))), fun _ a ha => ?_⟩
  refine xEEEL (DD.b_of hb) fun _ _ _ hD => ?_
  rw [hD] at nd
  refine xAL (nd_un nd) fun n4 nd => ?_
  refine xAL (nd_un nd) fun n5 nd => ?_
  refine xAL (nd_un nd) fun n6 nd => ?_
  refine xAL (nd_un nd) fun n7 nd => ?_
  rcases List.mem_cons.mp ha with e | ha
  ·exact e ▸ n4 _ (by k_mem)
  rcases List.mem_cons.mp ha with e | ha
  ·exact e ▸ n5 _ (by k_mem)
  ·exact List.mem_singleton.mp ha ▸ n7 _ (by k_mem)
end
end
section
structure DSame (D D' : DD) : Prop where
 d : D'.d = D.d
 b : ∀ l, bX D' l = bX D l
 ar : ∀ h Y YD YB YI tp, ArrSt h Y YD YB YI tp D → ArrSt h Y YD YB YI tp D'
 hy : ∀ h HY, HYat h HY D → HYat h HY D'
theorem dsA {c x c' x' : Int} : DSame (.a c x) (.a c' x') := ⟨rfl, fun _ => rfl, fun _ _ _ _ _ _ _ => trivial, fun _ _ _ => trivial⟩
theorem dsB {c f z c' z' : Int} : DSame (.b c f z) (.b c' f z') := ⟨rfl, fun _ => rfl, fun _ _ _ _ _ _ h => h, fun _ _ h => h⟩
theorem dsE {c c' : Int} : DSame (.e c) (.e c') := ⟨rfl, fun _ => rfl, fun _ _ _ _ _ _ _ => trivial, fun _ _ _ => trivial⟩
structure NumP (D : DD) (name : Str) (v : Int) (f : Int → DD) : Prop where
 ny : (name == Str.ofString "y") = false
 rv : ∀ Y kvs, RecKv Y D kvs → ∃ t, valueAt kvs name = some (.int v t)
 hv : ∀ HY hk, HasKv HY D hk → ∃ t, valueAt hk name = some (.int v t)
 ok : ∀ x, 0 ≤ x → x < 50 → (f x).Ok
 ds : ∀ x, DSame D (f x)
 rs : ∀ x Y kvs t, RecKv Y D kvs → RecKv Y (f x) (stored kvs name (.int x t))
 hs : ∀ x HY hk t, HasKv HY D hk → HasKv HY (f x) (stored hk name (.int x t))
structure ArrP (D : DD) (name : Str) (c f z : Int) : Prop where
 y : name = Str.ofString "y"
 eD : D = .b c f z
 rv : ∀ Y kvs, RecKv Y D kvs → valueAt kvs name = some (.ref Y)
 hv : ∀ HY hk, HasKv HY D hk → valueAt hk name = some (.ref HY)
 rs : ∀ x Y kvs, RecKv Y D kvs → RecKv Y (.b c x z) kvs
 hs : ∀ x HY HY' hk, HasKv HY D hk → HasKv HY' (.b c x z) (stored hk name (.ref HY'))
structure NonP (D : DD) (name : Str) : Prop where
 rv : ∀ Y kvs, RecKv Y D kvs → valueAt kvs name = none
 hv : ∀ HY hk, HasKv HY D hk → valueAt hk name = none
theorem name_case {D : DD} {name : Str} (hm : name = Str.ofString "c" ∨ name = Str.ofString "x" ∨ name = Str.ofString "y" ∨ name = Str.ofString "z") (ok : D.Ok) :
  (∃ v f, NumP D name v f) ∨ (∃ c f z, ArrP D name c f z) ∨ NonP D name := by
 have e1 := xdc; have e2 := xdx; have e3 := xdy; have e4 := xdz; have e5 := xcx; have e6 := xcy; have e7 := xcz; have e8 := xxy; have e9 := xxz; have e10 := xyz
 have g1 := xdc.symm; have g2 := xdx.symm; have g3 := xdy.symm; have g4 := xdz.symm; have g5 := xcx.symm; have g6 := xcy.symm; have g7 := xcz.symm; have g8 := xxy.symm; have g9 := xxz.symm; have g10 := xyz.symm
 cases D with
 | a c x =>
  rcases hm with rfl | rfl | rfl | rfl
  ·refine .inl ⟨c, fun y => .a y x, by simpa using e6, ?_, ?_, fun y y0 y1 => ⟨⟨y0, y1⟩, ok.2⟩, fun _ => dsA, ?_, ?_⟩
   ·rintro Y kvs ⟨t0, t1, t2, rfl⟩; exact ⟨t1, by rw [vaN e1, vaE]⟩
   ·rintro HY hk ⟨u1, u2, rfl⟩; exact ⟨u1, vaE⟩
   ·rintro y Y kvs t ⟨t0, t1, t2, rfl⟩; exact ⟨t0, t, t2, by simp [stored, *]⟩
   ·rintro y HY hk t ⟨u1, u2, rfl⟩; exact ⟨t, u2, by simp [stored, *]⟩
  ·refine .inl ⟨x, fun y => .a c y, by simpa using e8, ?_, ?_, fun y y0 y1 => ⟨ok.1, y0, y1⟩, fun _ => dsA, ?_, ?_⟩
   ·rintro Y kvs ⟨t0, t1, t2, rfl⟩; exact ⟨t2, by rw [vaN e2, vaN e5, vaE]⟩
   ·rintro HY hk ⟨u1, u2, rfl⟩; exact ⟨u2, by rw [vaN e5, vaE]⟩
   ·rintro y Y kvs t ⟨t0, t1, t2, rfl⟩; exact ⟨t0, t1, t, by simp [stored, *]⟩
   ·rintro y HY hk t ⟨u1, u2, rfl⟩; exact ⟨u1, t, by simp [stored, *]⟩
  ·refine .inr (.inr ⟨?_, ?_⟩)
   ·rintro Y kvs ⟨t0, t1, t2, rfl⟩; rw [vaN e3, vaN e6, vaN e8, va0]
   ·rintro HY hk ⟨u1, u2, rfl⟩; rw [vaN e6, vaN e8, va0]
  ·refine .inr (.inr ⟨?_, ?_⟩)
   ·rintro Y kvs ⟨t0, t1, t2, rfl⟩; rw [vaN e4, vaN e7, vaN e9, va0]
   ·rintro HY hk ⟨u1, u2, rfl⟩; rw [vaN e7, vaN e9, va0]
 | b c f z =>
  rcases hm with rfl | rfl | rfl | rfl
  ·refine .inl ⟨c, fun y => .b y f z, by simpa using e6, ?_, ?_, fun y y0 y1 => ⟨⟨y0, y1⟩, ok.2⟩, fun _ => dsB, ?_, ?_⟩
   ·rintro Y kvs ⟨t0, t1, t2, rfl⟩; exact ⟨t1, by rw [vaN e1, vaE]⟩
   ·rintro HY hk ⟨u1, u2, rfl⟩; exact ⟨u1, vaE⟩
   ·rintro y Y kvs t ⟨t0, t1, t2, rfl⟩; exact ⟨t0, t, t2, by simp [stored, *]⟩
   ·rintro y HY hk t ⟨u1, u2, rfl⟩; exact ⟨t, u2, by simp [stored, *]⟩
  ·refine .inr (.inr ⟨?_, ?_⟩)
   ·rintro Y kvs ⟨t0, t1, t2, rfl⟩; rw [vaN e2, vaN e5, vaN g8, vaN g9, va0]
   ·rintro HY hk ⟨u1, u2, rfl⟩; rw [vaN e5, vaN g8, vaN g9, va0]
  ·refine .inr (.inl ⟨c, f, z, rfl, rfl, ?_, ?_, ?_, ?_⟩)
   ·rintro Y kvs ⟨t0, t1, t2, rfl⟩; rw [vaN e3, vaN e6, vaE]
   ·rintro HY hk ⟨u1, u2, rfl⟩; rw [vaN e6, vaE]
   ·rintro y Y kvs ⟨t0, t1, t2, rfl⟩; exact ⟨t0, t1, t2, rfl⟩
   ·rintro y HY HY' hk ⟨u1, u2, rfl⟩; exact ⟨u1, u2, by simp [stored, *]⟩
  ·refine .inl ⟨z, fun y => .b c f y, by simpa using g10, ?_, ?_, fun y y0 y1 => ⟨ok.1, ok.2.1, y0, y1⟩, fun _ => dsB, ?_, ?_⟩
   ·rintro Y kvs ⟨t0, t1, t2, rfl⟩; exact ⟨t2, by rw [vaN e4, vaN e7, vaN e10, vaE]⟩
   ·rintro HY hk ⟨u1, u2, rfl⟩; exact ⟨u2, by rw [vaN e7, vaN e10, vaE]⟩
   ·rintro y Y kvs t ⟨t0, t1, t2, rfl⟩; exact ⟨t0, t1, t, by simp [stored, *]⟩
   ·rintro y HY hk t ⟨u1, u2, rfl⟩; exact ⟨u1, t, by simp [stored, *]⟩
 | e c =>
  rcases hm with rfl | rfl | rfl | rfl
  ·refine .inl ⟨c, fun y => .e y, by simpa using e6, ?_, ?_, fun y y0 y1 => ⟨y0, y1⟩, fun _ => dsE, ?_, ?_⟩
   ·rintro Y kvs ⟨t0, t1, rfl⟩; exact ⟨t1, by rw [vaN e1, vaE]⟩
   ·rintro HY hk ⟨u1, rfl⟩; exact ⟨u1, vaE⟩
   ·rintro y Y kvs t ⟨t0, t1, rfl⟩; exact ⟨t0, t, by simp [stored, *]⟩
   ·rintro y HY hk t ⟨u1, rfl⟩; exact ⟨t, by simp [stored, *]⟩
  ·refine .inr (.inr ⟨?_, ?_⟩)
   ·rintro Y kvs ⟨t0, t1, rfl⟩; rw [vaN e2, vaN e5, va0]
   ·rintro HY hk ⟨u1, rfl⟩; rw [vaN e5, va0]
  ·refine .inr (.inr ⟨?_, ?_⟩)
   ·rintro Y kvs ⟨t0, t1, rfl⟩; rw [vaN e3, vaN e6, va0]
   ·rintro HY hk ⟨u1, rfl⟩; rw [vaN e6, va0]
  ·refine .inr (.inr ⟨?_, ?_⟩)
   ·rintro Y kvs ⟨t0, t1, rfl⟩; rw [vaN e4, vaN e7, va0]
   ·rintro HY hk ⟨u1, rfl⟩; rw [vaN e7, va0]
theorem num_of {D : DD} (ok : D.Ok) : ∀ name, (name = Str.ofString "c" ∨ (name = Str.ofString "x" ∧ D.d = 0) ∨ (name = Str.ofString "y" ∧ D.d = 1) ∨ (name = Str.ofString "z" ∧ D.d = 1)) → ∀ Y kvs, RecKv Y D kvs → ∃ v, valueAt kvs name = some v := by
 have e1 := xdc; have e2 := xdx; have e3 := xdy; have e4 := xdz; have e5 := xcx; have e6 := xcy; have e7 := xcz; have e10 := xyz
 intro name hm Y kvs kr
 cases D with
 | a c x =>
  (refine xEEEL kr fun t0 t1 t2 z277x3 => ?_; try clear kr; subst z277x3)
  rcases hm with rfl | w34 | w35 | w36
  ·exact ⟨_, by rw [vaN e1, vaE]⟩
  ·(refine xAL w34 fun z103x0 _ => ?_; try clear w34; subst z103x0)
   exact ⟨_, by rw [vaN e2, vaN e5, vaE]⟩
  ·(refine xAL w35 fun _ q => ?_; try clear w35)
   cases q
  ·(refine xAL w36 fun _ q => ?_; try clear w36)
   cases q
 | b c f z =>
  (refine xEEEL kr fun t0 t1 t2 z278x3 => ?_; try clear kr; subst z278x3)
  rcases hm with rfl | w37 | w38 | w39
  ·exact ⟨_, by rw [vaN e1, vaE]⟩
  ·(refine xAL w37 fun _ q => ?_; try clear w37)
   cases q
  ·(refine xAL w38 fun z107x0 _ => ?_; try clear w38; subst z107x0)
   exact ⟨_, by rw [vaN e3, vaN e6, vaE]⟩
  ·(refine xAL w39 fun z108x0 _ => ?_; try clear w39; subst z108x0)
   exact ⟨_, by rw [vaN e4, vaN e7, vaN e10, vaE]⟩
 | e c =>
  (refine xEEL kr fun t0 t1 z279x2 => ?_; try clear kr; subst z279x2)
  rcases hm with rfl | w40 | w41 | w42
  ·exact ⟨_, by rw [vaN e1, vaE]⟩
  ·(refine xAL w40 fun _ q => ?_; try clear w40)
   cases q
  ·(refine xAL w41 fun _ q => ?_; try clear w41)
   cases q
  ·(refine xAL w42 fun _ q => ?_; try clear w42)
   cases q
end
section
section
variable {w : World} {hB : Heap} {s : Shared} {c : LC} {v : LV} {mg mb : Str → Option Value} {KT S0 S1 Sb C : Addr} {dd uu : Nat} {gs : Option (List Code)} {fr : Option (List Env)} {Q : Value → Shared → Prop} {E : Value → Shared → Prop}
theorem RC.kv {h : Heap} {R RD RT FD Y YD YB YI tp : Addr} {D : DD} (x : RC w h R RD RT FD Y YD YB YI tp D) : ∃ kvs, RecAt w h R RD FD RT kvs ∧ RecKv Y D kvs ∧ ArrSt h Y YD YB YI tp D := x
theorem recKv_len {Y : Addr} {D : DD} {kvs : List (Str × Value)} (k : RecKv Y D kvs) : kvs.length ≤ 100 := by
 cases D <;> simp only [RecKv] at k
 ·(refine xEEEL k fun _ _ _ z280x3 => ?_; try clear k; subst z280x3); simp
 ·(refine xEEEL k fun _ _ _ z281x3 => ?_; try clear k; subst z281x3); simp
 ·(refine xEEL k fun _ _ z282x2 => ?_; try clear k; subst z282x2); simp
theorem stored_int_L {pl : Addr} {name : Str} {t2 t3 tx : Tok} {kvs : List (Str × Value)} {v0 : Value} {x : Int} {D' : DD} (WD : Wd w mg mb hB) (K : KD hB c KT S0 S1 Sb C) (X : LS w hB s.heap c v) (st : hB.StaysIn s.heap) (hdd : dd ≤ 416) (huu : uu ≤ 1300)
  (hP : IsTup s.heap pl #[Value.str (Str.ofString "field") t2, .ref c.R, .str name t3]) (hA : RecAt w s.heap c.R c.RD v.FD c.RT kvs) (kr : RecKv v.Y v.D kvs) (ar : ArrSt s.heap v.Y v.YD v.YB v.YI v.tp v.D) (hval : valueAt kvs name = some v0) (x0 : 0 ≤ x) (x1 : x < 50)
  (ok' : D'.Ok) (ds : DSame v.D D') (kr' : RecKv v.Y D' (stored kvs name (.int x tx)))
  (hQ : ∀ t h' tk, KeepsOff [v.FD] s.heap h' → LS w hB h' c { v with D := D' } → Q (.str (Str.ofString "") t) { s with heap := h', toks := tk }) :
  wpAny (model prog0 w) ⟨none, dd, fr, gs, uu⟩ (call (.ref 709) [.ref pl, .ref S0, .int x tx]) Q E s := by
 refine xEEEEEEEEAAAAL (K.num) fun SD T D es n t1 u2 u3 hS hT hk1 hlo hhi => ?_
 have iFD : v.FD ∈ v.sR c := by first | k_mem | simp [LV.sR]
 have nFD := X.hb _ (X.sR_at _ iFD)
 have hl := ne_sys K.sys nFD
 have hin : ∀ a ∈ [v.FD], a ∈ v.at c := fun a ha => by rw [List.mem_singleton.mp ha]; exact X.sR_at _ iFD
 have hfst := frO_fst (h := s.heap) fun a ha => X.there a (hin a ha)
 let P : Heap → Prop := fun h' => LS w hB h' c { v with D := D' }
 have hPk : ∀ h h', P h → Keeps h h' → P h' := fun _ _ x k => LS.keeps x k
 have hNx : ∀ s1 : Shared, Keeps s.heap s1.heap → ∀ q ∈ frO s.heap [v.FD], s1.heap.get? q.1 = some q.2 ∧ hB.get? q.1 = none := fun s1 hk q hq => ⟨hk _ _ (X.hN hin q hq).1, (X.hN hin q hq).2⟩
 have sRe : ∀ a, a ∈ [c.R, c.RD, v.FD] ++ bX D' [v.Y, v.YD, v.YB, v.YI, v.tp] ↔ a ∈ v.sR c := fun a => by rw [ds.b]; exact Iff.rfl
 have c653 : CallsTo w 440 1500 s.heap ((frO s.heap [v.FD]).map (·.1)) P 653 [.ref pl, .ref S0, .int x tx] := fun s1 dd uu gs fr Q E hk hd hu hQ => by
  rw [hfst] at hQ
  have X1 := X.keeps hk
  have ndr : ∀ a ∈ bX v.D [v.Y, v.YD, v.YB, v.YI, v.tp], a ∉ [v.FD] := fun a ha q => by
   have := (List.nodup_append.mp X.ndR).2.2 v.FD (by first | k_mem | simp) a ha
   exact this (List.mem_singleton.mp q).symm
  refine checked_int (v := x) (hB := hB) (w := w) (mg := mg) (mb := mb) WD (fun b o e => hk b o (st b o e)) (by omega) (by omega) hS hT hk1 hlo hhi x0 (by omega) (hP.keeps hk) (hA.keeps hk) hl hval (recKv_len kr) nFD fun h' tk kp hr => hQ h' tk kp ?_
  refine X1.recs (S := [v.FD]) kp (fun a ha => by rw [List.mem_singleton.mp ha]; exact iFD) ⟨_, hr, kr', ?_⟩ ok' (fun a ha => .inl ((sRe a).mp ha)) (by rw [ds.b]; exact X.ndR)
  exact ds.ar _ _ _ _ _ _ ((ar.off (S := []) (fun b o _ e => hk b o e) (fun _ _ h => by cases h)).off kp ndr)
 have c646 : CallsTo w 428 1400 s.heap ((frO s.heap [v.FD]).map (·.1)) P 646 [.none, .ref pl, .ref S0, .int x tx] := fun s1 dd uu gs fr Q E hk hd hu hQ =>
  into_int WD (fun b o e => hk b o (st b o e)) hd hu (hNx s1 hk) hPk (c653.keeps hk) hQ
 exact stored_ok WD st hdd huu (hNx s fun _ _ e => e) hPk c646 fun t h' tk kp hp => hQ t h' tk (fun b o nb e => kp b o (fun q => nb (hfst ▸ q)) e) hp
theorem stored_arr_L {pl Y2 YD2 YB2 YI2 tp2 : Addr} {name : Str} {t2 t3 : Tok} {kvs : List (Str × Value)} {cc f f' z : Int} (WD : Wd w mg mb hB) (K : KD hB c KT S0 S1 Sb C) (X : LS w hB s.heap c v) (st : hB.StaysIn s.heap) (hdd : dd ≤ 416) (huu : uu ≤ 1300)
  (hP : IsTup s.heap pl #[Value.str (Str.ofString "field") t2, .ref c.R, .str name t3]) (hA : RecAt w s.heap c.R c.RD v.FD c.RT kvs) (ar : ArrSt s.heap v.Y v.YD v.YB v.YI v.tp v.D) (hD : v.D = .b cc f z) (hval : valueAt kvs name = some (.ref v.Y)) (x0 : 0 ≤ f') (x1 : f' < 50)
  (kr' : RecKv v.Y (.b cc f' z) kvs) (hY2 : ArrAt s.heap Y2 YD2 YB2 YI2 tp2 f' (f' + 3)) (hT2 : ∃ ta tb, IsTup s.heap tp2 #[Value.int 1 ta, .int 2 tb]) (ap : ∀ a ∈ [Y2, YD2, YB2, YI2, tp2], a ∉ v.at c ∧ hB.get? a = none)
  (hQ : ∀ t h' tk YB', KeepsOff [v.YD, v.YI] s.heap h' → s.heap.get? YB' = none → LS w hB h' c { v with D := .b cc f' z, YB := YB' } → Q (.str (Str.ofString "") t) { s with heap := h', toks := tk }) :
  wpAny (model prog0 w) ⟨none, dd, fr, gs, uu⟩ (call (.ref 709) [.ref pl, .ref S1, .ref Y2]) Q E s := by
 have sRe : v.sR c = [c.R, c.RD, v.FD, v.Y, v.YD, v.YB, v.YI, v.tp] := by unfold LV.sR; rw [hD]; rfl
 have okd := X.okd
 have ndr := X.ndR
 rw [sRe] at ndr
 rw [hD] at ar okd
 (refine xAEEL ar fun hYo ta tb hT1 => ?_; try clear ar)
 (refine xEEL hT2 fun tc td hT2 => ?_)
 have mR := X.sR_at
 have iFD : v.FD ∈ v.sR c := by first | k_mem | simp [LV.sR]
 have iY : v.Y ∈ v.sR c := by rw [sRe]; first | k_mem | simp
 have iYD : v.YD ∈ v.sR c := by rw [sRe]; first | k_mem | simp
 have iYB : v.YB ∈ v.sR c := by rw [sRe]; first | k_mem | simp
 have iYI : v.YI ∈ v.sR c := by rw [sRe]; first | k_mem | simp
 have itp : v.tp ∈ v.sR c := by rw [sRe]; first | k_mem | simp
 have nFD := X.hb _ (mR _ iFD)
 have hl := ne_sys K.sys nFD
 simp only [List.nodup_cons, List.mem_cons, List.not_mem_nil, or_false, not_or, not_false_eq_true, List.nodup_nil, and_true] at ndr
 (refine xAAAAAAL ndr fun z286x0 z286x1 z286x2 z286x3 z286x4 z286x5 z1' => ?_; try clear ndr; (refine xAAAAAAL z286x0 fun p1 p2 p3 p4 p5 p6 p7 => ?_; try clear z286x0); (refine xAAAAAL z286x1 fun r1 r3 r4 r5 r6 r7 => ?_; try clear z286x1); (refine xAAAAL z286x2 fun s1' s2 s3 s4 s5 => ?_; try clear z286x2); (refine xAAAL z286x3 fun w1 w2 w3 w4 => ?_; try clear z286x3); (refine xAAL z286x4 fun x1' x2 x3 => ?_; try clear z286x4); (refine xAL z286x5 fun y1 y2 => ?_; try clear z286x5))
 have hin : ∀ a ∈ [v.YD, v.YI], a ∈ v.at c := fun a ha => by
  simp only [List.mem_cons, List.not_mem_nil, or_false] at ha
  rcases ha with rfl | rfl
  ·exact mR _ iYD
  ·exact mR _ iYI
 have hfst := frO_fst (h := s.heap) fun a ha => X.there a (hin a ha)
 let P : Heap → Prop := fun h' => ∃ YB', s.heap.get? YB' = none ∧ LS w hB h' c { v with D := .b cc f' z, YB := YB' }
 have hPk : ∀ h h', P h → Keeps h h' → P h' := fun _ _ x k => let ⟨a, b, d⟩ := x; ⟨a, b, d.keeps k⟩
 have hNx : ∀ s1 : Shared, Keeps s.heap s1.heap → ∀ q ∈ frO s.heap [v.YD, v.YI], s1.heap.get? q.1 = some q.2 ∧ hB.get? q.1 = none := fun s1 hk q hq => ⟨hk _ _ (X.hN hin q hq).1, (X.hN hin q hq).2⟩
 have hap : ∀ a ∈ [Y2, YD2, YB2, YI2], @Ne Nat a v.Y ∧ @Ne Nat a v.YD ∧ @Ne Nat a v.YI := fun a ha => by
  have na := (ap a (by
   simp only [List.mem_cons, List.not_mem_nil, or_false] at ha ⊢
   rcases ha with rfl | rfl | rfl | rfl <;> simp)).1
  exact ⟨fun q => na (by have q' : a = v.Y := q; rw [q']; exact mR _ iY), fun q => na (by have q' : a = v.YD := q; rw [q']; exact mR _ iYD), fun q => na (by have q' : a = v.YI := q; rw [q']; exact mR _ iYI)⟩
 have c653 : CallsTo w 440 1500 s.heap ((frO s.heap [v.YD, v.YI]).map (·.1)) P 653 [.ref pl, .ref S1, .ref Y2] := fun s1 dd uu gs fr Q E hk hd hu hQ => by
  rw [hfst] at hQ
  have X1 := X.keeps hk
  have st1 : hB.StaysIn s1.heap := fun b o e => hk b o (st b o e)
  have ex : ∀ a ∈ v.at c, ∀ b, s1.heap.get? b = none → a ≠ b := fun a ha b hb q => by
   refine xEL (X1.there a ha) fun o ho => ?_
   rw [q, hb] at ho; cases ho
  refine checked_arr (hB := hB) (w := w) (mg := mg) (mb := mb) WD st1 (by omega) (by omega) (hP.keeps hk) (hA.keeps hk) hl hval (hYo.keeps hk) (hY2.keeps hk) (hT1.keeps hk) (X.hb _ (mR _ itp)) (hT2.keeps hk) (ap tp2 (by first | k_mem | simp)).2 (X.hb _ (mR _ iY)) (X.hb _ (mR _ iYD)) (X.hb _ (mR _ iYI)) w1 w3 x2
   ⟨⟨p3, p4, p6⟩, ⟨r3, r4, r6⟩, ⟨s1', s2, s4⟩, Ne.symm w2, Ne.symm x1', y1⟩ hap fun YB' h' tk kp har hn => hQ h' tk kp ⟨YB', noneK hk hn, ?_⟩
  have q0 := ex _ (mR _ iFD)
  refine X1.recs (S := [v.YD, v.YI]) kp (fun a ha => by
    simp only [List.mem_cons, List.not_mem_nil, or_false] at ha
    rcases ha with rfl | rfl <;> assumption) ⟨kvs, (hA.keeps hk).off kp (fun a ha q => ?_), kr', har, ta, tb, tupS (hT1.keeps hk) (fun q => ?_) (fun b o e nb => kp b o nb e)⟩ ⟨okd.1, ⟨x0, x1⟩, okd.2.2⟩ ?_ ?_
  ·simp only [List.mem_cons, List.not_mem_nil, or_false] at ha q
   rcases ha with rfl | rfl | rfl <;> rcases q with q | q
   ·exact p4 q
   ·exact p6 q
   ·exact r4 q
   ·exact r6 q
   ·exact s2 q
   ·exact s4 q
  ·simp only [List.mem_cons, List.not_mem_nil, or_false] at q
   rcases q with q | q
   ·exact x3 q.symm
   ·exact z1' q.symm
  ·refine List.forall_mem_cons.mpr ⟨?_, List.forall_mem_cons.mpr ⟨?_, List.forall_mem_cons.mpr ⟨?_, List.forall_mem_cons.mpr ⟨?_, List.forall_mem_cons.mpr ⟨?_, List.forall_mem_cons.mpr ⟨?_, List.forall_mem_cons.mpr ⟨?_, List.forall_mem_cons.mpr ⟨?_, List.forall_mem_nil _⟩⟩⟩⟩⟩⟩⟩⟩
   ·exact .inl (by first | k_mem | simp [LV.sR])
   ·exact .inl (by first | k_mem | simp [LV.sR])
   ·exact .inl iFD
   ·exact .inl iY
   ·exact .inl iYD
   ·exact .inr (X1.fresh st1 hn)
   ·exact .inl iYI
   ·exact .inl itp
  ·simp only [bX, List.cons_append, List.nil_append, List.nodup_cons, List.mem_cons, List.not_mem_nil, or_false, not_or, not_false_eq_true, List.nodup_nil, and_true]
   have q1 := ex c.R (mR _ (by first | k_mem | simp [LV.sR])) _ hn
   have q2 := ex c.RD (mR _ (by first | k_mem | simp [LV.sR])) _ hn
   have q3 := ex _ (mR _ iFD) _ hn
   have q4 := ex _ (mR _ iY) _ hn
   have q5 := ex _ (mR _ iYD) _ hn
   have q6 := ex _ (mR _ iYI) _ hn
   have q7 := ex _ (mR _ itp) _ hn
   exact ⟨⟨p1, p2, p3, p4, q1, p6, p7⟩, ⟨r1, r3, r4, q2, r6, r7⟩, ⟨s1', s2, q3, s4, s5⟩, ⟨w1, q4, w3, w4⟩, ⟨q5, x2, x3⟩, ⟨Ne.symm q6, Ne.symm q7⟩, z1'⟩
 have nY2 : ∀ a ∈ [Y2, YD2], a ∉ (frO s.heap [v.YD, v.YI]).map (·.1) := fun a ha q => by
  rw [hfst] at q
  exact (ap a (by simp only [List.mem_cons, List.not_mem_nil, or_false] at ha ⊢; rcases ha with rfl | rfl <;> simp)).1 (hin _ q)
 have c646 : CallsTo w 428 1400 s.heap ((frO s.heap [v.YD, v.YI]).map (·.1)) P 646 [.none, .ref pl, .ref S1, .ref Y2] := fun s1 dd uu gs fr Q E hk hd hu hQ =>
  into_arr WD (fun b o e => hk b o (st b o e)) hd hu (hNx s1 hk) hPk (by
   refine xEEEEEL (hY2.o2) fun _ _ _ _ _ q => ?_
   exact ⟨YD2, hk _ _ hY2.o1, _, hk _ _ q, nY2 _ (by first | k_mem | simp)⟩) (nY2 _ (by first | k_mem | simp)) (c653.keeps hk) hQ
 exact stored_ok WD st hdd huu (hNx s fun _ _ e => e) hPk c646 fun t h' tk kp hp => by
  (refine xEAL hp fun YB' h1 h2 => ?_; try clear hp)
  exact hQ t h' tk YB' (fun b o nb e => kp b o (fun q => nb (hfst ▸ q)) e) h1 h2
end
section
variable {w : World} {hB : Heap} {s : Shared} {c : LC} {v : LV} {mg mb : Str → Option Value} {KT S0 S1 Sb C : Addr} {dd uu : Nat} {gs : Option (List Code)} {outer : List Env} {Q : Value → Shared → Prop} {E : Value → Shared → Prop}
theorem stored_goneI_L {pl : Addr} {name : Str} {t2 t3 tx : Tok} {kvs : List (Str × Value)} {x : Int} (WD : Wd w mg mb hB) (K : KD hB c KT S0 S1 Sb C) (st : hB.StaysIn s.heap) (hdd : dd ≤ 416) (huu : uu ≤ 1300) (hF : s.heap.FunFrames hB outer)
  (hP : IsTup s.heap pl #[Value.str (Str.ofString "field") t2, .ref c.R, .str name t3]) (hA : RecAt w s.heap c.R c.RD v.FD c.RT kvs) (nFD : hB.get? v.FD = none) (hval : valueAt kvs name = none) (x0 : 0 ≤ x) (x1 : x < 50)
  (hQ : ∀ t h' tk, UpF outer s.heap h' → Q (.str (Str.ofString "program_error") t) { s with heap := h', toks := tk }) :
  wpAny (model prog0 w) ⟨none, dd, some outer, gs, uu⟩ (call (.ref 709) [.ref pl, .ref S0, .int x tx]) Q E s := by
 refine xEEEEEEEEAAAAL (K.num) fun SD T D es n t1 u2 u3 hS hT hk1 hlo hhi => ?_
 have hl := ne_sys K.sys nFD
 have c653 : RaisesTo w hB 440 1500 s.heap 653 [.ref pl, .ref S0, .int x tx] := fun s1 dd uu gs outer Q E hk hd hu hF hE =>
  checked_raise_int WD (fun b o e => hk b o (st b o e)) (by omega) (by omega) hF hS hT hk1 hlo hhi x0 (by omega) (hP.keeps hk) (hA.keeps hk) hl hval hE
 have c646 : RaisesTo w hB 428 1400 s.heap 646 [.none, .ref pl, .ref S0, .int x tx] := fun s1 dd uu gs outer Q E hk hd hu hF hE =>
  into_raise_int WD (fun b o e => hk b o (st b o e)) (by omega) (by omega) hF (fun s2 dd uu gs outer Q E hk2 => c653 s2 dd uu gs outer Q E fun b o e => hk2 b o (hk b o e)) hE
 exact stored_raise WD st hdd huu hF c646 hQ
theorem stored_goneA_L {pl Y2 YD2 : Addr} {oD : Obj} {name : Str} {t2 t3 : Tok} {kvs : List (Str × Value)} (WD : Wd w mg mb hB) (K : KD hB c KT S0 S1 Sb C) (st : hB.StaysIn s.heap) (hdd : dd ≤ 416) (huu : uu ≤ 1300) (hF : s.heap.FunFrames hB outer)
  (hP : IsTup s.heap pl #[Value.str (Str.ofString "field") t2, .ref c.R, .str name t3]) (hA : RecAt w s.heap c.R c.RD v.FD c.RT kvs) (nFD : hB.get? v.FD = none) (hval : valueAt kvs name = none) (y1 : s.heap.get? Y2 = some (instObj 131 YD2)) (y2 : s.heap.get? YD2 = some oD)
  (hQ : ∀ t h' tk, UpF outer s.heap h' → Q (.str (Str.ofString "program_error") t) { s with heap := h', toks := tk }) :
  wpAny (model prog0 w) ⟨none, dd, some outer, gs, uu⟩ (call (.ref 709) [.ref pl, .ref S1, .ref Y2]) Q E s := by
 have hl := ne_sys K.sys nFD
 have c653 : RaisesTo w hB 440 1500 s.heap 653 [.ref pl, .ref S1, .ref Y2] := fun s1 dd uu gs outer Q E hk hd hu hF hE =>
  checked_raise_arr WD (fun b o e => hk b o (st b o e)) (by omega) (by omega) hF ⟨YD2, hk _ _ y1, oD, hk _ _ y2⟩ (hP.keeps hk) (hA.keeps hk) hl hval hE
 have c646 : RaisesTo w hB 428 1400 s.heap 646 [.none, .ref pl, .ref S1, .ref Y2] := fun s1 dd uu gs outer Q E hk hd hu hF hE =>
  into_raise_arr WD (fun b o e => hk b o (st b o e)) (by omega) (by omega) hF ⟨YD2, hk _ _ y1, oD, hk _ _ y2⟩ (fun s2 dd uu gs outer Q E hk2 => c653 s2 dd uu gs outer Q E fun b o e => hk2 b o (hk b o e)) hE
 exact stored_raise WD st hdd huu hF c646 hQ
theorem lread_gone_L {pl : Addr} {name : Str} {t2 t3 : Tok} {kvs : List (Str × Value)} (WD : Wd w mg mb hB) (K : KD hB c KT S0 S1 Sb C) (st : hB.StaysIn s.heap) (hdd : dd ≤ 416) (huu : uu ≤ 1300) (hF : s.heap.FunFrames hB outer)
  (hP : IsTup s.heap pl #[Value.str (Str.ofString "field") t2, .ref c.R, .str name t3]) (hA : RecAt w s.heap c.R c.RD v.FD c.RT kvs) (nFD : hB.get? v.FD = none) (hval : valueAt kvs name = none)
  (hQ : ∀ t h' tk, UpF outer s.heap h' → Q (.str (Str.ofString "program_error") t) { s with heap := h', toks := tk }) :
  wpAny (model prog0 w) ⟨none, dd, some outer, gs, uu⟩ (call (.ref 716) [.ref pl]) Q E s := by
 have hl := ne_sys K.sys nFD
 have c634 : RaisesTo w hB 428 1400 s.heap 634 [.ref pl] := fun s1 dd uu gs outer Q E hk hd hu hF hE =>
  readc_raise WD (fun b o e => hk b o (st b o e)) (by omega) (by omega) hF (hP.keeps hk) (hA.keeps hk) hl hval hE
 exact lread_raise WD st hdd huu hF c634 hQ
end
end
section
section
variable {w : World} {hB : Heap} {s : Shared} {c : LC} {v : LV} {mg mb : Str → Option Value} {KT S0 S1 Sb C : Addr} {dd uu : Nat} {gs : Option (List Code)} {fr : Option (List Env)} {Q : Value → Shared → Prop} {E : Value → Shared → Prop}
theorem next_L {many : Int} {tm : Tok} (WD : Wd w mg mb hB) (X : LS w hB s.heap c v) (st : hB.StaysIn s.heap) (hdd : dd ≤ 488) (huu : uu ≤ 1900) (h0 : 0 ≤ v.n) (h1 : v.n ≤ 1000) (hm : 0 < many) (hm' : many ≤ 1000)
  (hQ : ∀ r t h' tk, 0 ≤ r → r < many → KeepsOff [c.T] s.heap h' → LS w hB h' c { v with n := v.n + 1 } → Q (.int r t) { s with heap := h', toks := tk }) :
  wpAny (model prog0 w) ⟨none, dd, fr, gs, uu⟩ (call (.ref 674) [.ref c.T, .int many tm]) Q E s := by
 refine xEAEL (X.tp) fun oT gT tn hdT => ?_
 have tk' := X.tk.keeps st
 exact next_c WD st hdd huu gT X.tk.hTB X.tk.lo hdT tk'.hl X.tk.hi X.tk.hlT h0 h1 X.tk.hns hm hm' fun r t oT' h' tk tn' r0 r1 g' d' k => hQ r t h' tk r0 r1 k (X.tape k ⟨oT', g', tapeI d'⟩)
theorem drawn_nL {name : Str} {tn : Tok} (WD : Wd w mg mb hB) (X : LS w hB s.heap c v) (st : hB.StaysIn s.heap) (hdd : dd ≤ 476) (huu : uu ≤ 1800) (h0 : 0 ≤ v.n) (h1 : v.n ≤ 1000) (hn : (name == Str.ofString "y") = false)
  (hQ : ∀ r t h' tk, 0 ≤ r → r < 50 → KeepsOff [c.T] s.heap h' → LS w hB h' c { v with n := v.n + 1 } → Q (.int r t) { s with heap := h', toks := tk }) :
  wpAny (model prog0 w) ⟨none, dd, fr, gs, uu⟩ (call (.ref 681) [.ref c.T, .str name tn]) Q E s := by
 refine xEAL (X.tp) fun oT gT hTI => ?_
 exact drawn_n WD st hdd huu (X.tk.keeps st) gT hTI h0 h1 hn fun r t oT' h' tk r0 r1 g' d' k => hQ r t h' tk r0 r1 k (X.tape k ⟨oT', g', d'⟩)
theorem drawn_yL {tn : Tok} (WD : Wd w mg mb hB) (X : LS w hB s.heap c v) (st : hB.StaysIn s.heap) (hdd : dd ≤ 476) (huu : uu ≤ 1800) (h0 : 0 ≤ v.n) (h1 : v.n ≤ 1000)
  (hQ : ∀ r B t1 t2 cc h' tk, 0 ≤ r → r < 50 → KeepsOff [c.T] s.heap h' → LS w hB h' c { v with n := v.n + 1 } → h'.get? B = some (PySem.W.listOf #[Value.int r t1, .int (r + 3) t2] cc) → s.heap.get? B = none → Q (.ref B) { s with heap := h', toks := tk }) :
  wpAny (model prog0 w) ⟨none, dd, fr, gs, uu⟩ (call (.ref 681) [.ref c.T, .str (Str.ofString "y") tn]) Q E s := by
 refine xEAL (X.tp) fun oT gT hTI => ?_
 exact drawn_y WD st hdd huu (X.tk.keeps st) gT hTI h0 h1 fun r B t1 t2 cc oT' h' tk r0 r1 g' d' k gB nB => hQ r B t1 t2 cc h' tk r0 r1 k (X.tape k ⟨oT', g', d'⟩) gB nB
theorem HYat.list {h : Heap} {HY : Addr} {D : DD} {a : Addr} (x : HYat h HY D) (ha : a ∈ bX D [HY]) : ∃ ls n, h.get? a = some (PySem.W.listOf ls n) := by
 cases D with
 | a c x => cases ha
 | e c => cases ha
 | b c f z =>
  rw [List.mem_singleton.mp ha]
  (refine xEEEL x fun t3 t4 n q => ?_; try clear x)
  exact ⟨_, _, q⟩
theorem record_L (WD : Wd w mg mb hB) (K : KD hB c KT S0 S1 Sb C) (X : LS w hB s.heap c v) (st : hB.StaysIn s.heap) (hdd : dd ≤ 464) (huu : uu ≤ 1700) (h0 : 0 ≤ v.n) (h1 : v.n ≤ 900)
  (hQ : ∀ D R RD FD Y YD YB YI tp H HY n' kvs h' tk, D.Ok → v.n ≤ n' → n' ≤ v.n + 4 → LS w hB h' c { v with n := n', Dh := D, H := H, HY := HY } → RecAt w h' R RD FD c.RT kvs → RecKv Y D kvs → ArrSt h' Y YD YB YI tp D →
   (∀ a ∈ [H, R, RD, FD] ++ bX D [Y, YD, YB, YI, tp, HY], s.heap.get? a = none) → (∀ a ∈ [R, RD, FD] ++ bX D [Y, YD, YB, YI, tp], a ≠ H ∧ a ∉ bX D [HY]) → KeepsOff [c.T, c.O] s.heap h' → Q (.ref R) { s with heap := h', toks := tk }) :
  wpAny (model prog0 w) ⟨none, dd, fr, gs, uu⟩ (call (.ref 688) [.ref c.T, .ref c.O, .ref KT]) Q E s := by
 refine xEAL (X.tp) fun oT gT hTI => ?_
 refine xEEEEAAAAAL (X.bk) fun oO oH td hk gO dO gH dH kh hy => ?_
 refine xEEEEEEEEEEEEEEEEEEEAAL (K.rk) fun SD D0 es n LD DT LCx CT V AL A0 A1 A2 P0 P1 P2 X0 X1 X2 hS hT hK => ?_
 have aO : c.O ∈ v.at c := .tail _ (.tail _ (List.mem_append_left _ (List.mem_append_left _ (by simp [LV.sB]))))
 have nO := X.hb _ aO
 have nOT : @Ne Nat c.O c.T := fun q => X.sT (by have q' : c.O = c.T := q; rw [← q']; simp [LV.sB])
 have nl : c.l ≠ c.O := fun q => by
  refine xEAL (X.tk.hl) fun o ho _ => ?_
  rw [q, nO] at ho; cases ho
 refine record_old WD st hdd huu (X.tk.keeps st) gT hTI h0 h1 gO nO (ne_sys K.sys nO) nOT nl K.kt hS dO fun D R RD FD Y YD YB YI tp H HY oT' oO' oH' hk' kvs n' t h' tk ok n1 n2 gT' dT' gO' dO' gH' dH' kh' hy' rA rK aS hfr hap kp => ?_
 refine hQ D R RD FD Y YD YB YI tp H HY n' kvs h' tk ok n1 n2 (X.book kp (fun a ha => ?_) ⟨oT', gT', dT'⟩ ⟨oO', oH', t, hk', gO', dO', gH', dH', kh', hy'⟩ ok (fun a ha => .inr (X.fresh st (hfr a ?_))) ?_) rA rK aS hfr hap kp
 ·simp only [List.mem_cons, List.not_mem_nil, or_false] at ha
  rcases ha with rfl | rfl
  ·exact .inl rfl
  ·exact .inr (by simp [LV.sB])
 ·rcases List.mem_append.mp ha with ha | ha
  ·exact List.mem_append_left _ (by rw [List.mem_singleton.mp ha]; exact .head _)
  ·refine List.mem_append_right _ ?_
   cases D <;> simp only [bX, List.not_mem_nil, List.mem_singleton] at ha
   rw [ha]; simp [bX]
 ·have fH := hfr H (by first | k_mem | simp)
  have e1 : c.O ≠ H := fun q => by rw [← q, gO] at fH; cases fH
  have hHY : ∀ a ∈ bX D [HY], s.heap.get? a = none := fun a ha => hfr a (List.mem_append_right _ (by
   cases D <;> simp only [bX, List.not_mem_nil, List.mem_singleton] at ha
   rw [ha]; simp [bX]))
  have e2 : ∀ a ∈ bX D [HY], c.O ≠ a := fun a ha q => by have := hHY a ha; rw [← q, gO] at this; cases this
  have e3 : ∀ a ∈ bX D [HY], H ≠ a := fun a ha q => by
   refine xEEL (hy'.list ha) fun ls n e => ?_
   rw [← q, gH'] at e
   (refine xEEAAL dH' fun es ep _ hdat _ => ?_; try clear dH')
   cases e
   cases hdat
  clear hHY
  revert e2 e3
  cases D <;> intro e2 e3
  ·simpa [bX] using e1
  ·have := e2 HY (by simp [bX]); have := e3 HY (by simp [bX]); simp [bX, *]
  ·simpa [bX] using e1
structure DS (w : World) (hB s0 : Heap) (c : LC) (v0 : LV) (outer : List Env) (h : Heap) (v : LV) (A : List Addr) : Prop where
 X : LS w hB h c v
 at_ : ∀ a ∈ v.at c, a ∈ A
 fr_ : ∀ a ∈ frs outer, a ∈ A
 a0 : ∀ a ∈ v0.at c, a ∈ A
 ex : ∀ a ∈ A, ∃ o, h.get? a = some o
 up : ∀ b o, b ∈ frs outer → s0.get? b = some o → ∃ sl, h.get? b = some { o with slots := sl }
 nw : ∀ a ∈ A, a ∈ v0.at c ∨ a ∈ frs outer ∨ s0.get? a = none
 sf : ∀ a ∈ v.at c, a ∉ frs outer
section
variable {s0 g h hc h' : Heap} {v0 v' : LV} {outer : List Env} {L : Addr} {m : Str → Option Value} {l : List (Addr × Obj)} {A Ex S : List Addr}
theorem DS.at' (d : DS w hB s0 c v0 outer h v A) (N : News g L hc l) (hl : ∀ q ∈ frO h A, q ∈ l) : ∀ a ∈ A, ∀ o, h.get? a = some o → hc.get? a = some o := fun a ha o e => (N (a, o) (hl _ (frO_in ha e))).1
theorem DS.cur (d : DS w hB s0 c v0 outer h v A) (N : News g L hc l) (hl : ∀ q ∈ frO h A, q ∈ l) : LS w hB hc c v :=
 d.X.cur (g := g) (L := L) fun q hq => by
  refine xAL (frO_mem hq) fun m1 m2 => ?_
  exact N q (hl q (frO_in (d.at_ _ m1) m2))
theorem DS.off (d : DS w hB s0 c v0 outer h v A) (N : News g L hc l) (hl : ∀ q ∈ frO h A, q ∈ l) : ∀ a ∈ A, a ≠ L ∧ g.get? a = none := fun a ha => by
 refine xEL (d.ex a ha) fun o ho => ?_
 exact (N (a, o) (hl _ (frO_in ha ho))).2
theorem DS.step (d : DS w hB s0 c v0 outer h v A) (F : Fr g L hc m) (N : News g L hc l) (hl : ∀ q ∈ frO h A, q ∈ l) (hg : ∀ b o, s0.get? b = some o → b ∉ v0.at c ++ frs outer → g.get? b = some o)
  (k : KeepsOff S hc h') (hS : ∀ a ∈ S, a ∈ v.at c) (X' : LS w hB h' c v') (hS' : ∀ a ∈ S, a ∈ v'.at c) (hn : ∀ a ∈ v'.at c, a ∈ v.at c ∨ (a ∈ A ∧ a ∉ frs outer) ∨ hc.get? a = none) (he : ∀ a ∈ Ex, (a ∈ A ∨ hc.get? a = none) ∧ ∃ o, h'.get? a = some o) :
  DS w hB s0 c v0 outer h' v' (Ex ++ v'.at c ++ A) ∧ News g L h' (frO h' (Ex ++ v'.at c ++ A)) ∧ Fr g L h' m := by
 have off := d.off N hl
 have ex' : ∀ a ∈ A, ∃ o, h'.get? a = some o := fun a ha => by
  by_cases hs : a ∈ S
  ·exact X'.there a (hS' a hs)
  ·refine xEL (d.ex a ha) fun o ho => ?_
   exact ⟨o, k _ _ hs (d.at' N hl a ha o ho)⟩
 have fresh0 : ∀ a, hc.get? a = none → s0.get? a = none := fun a ha => by
  cases q : s0.get? a with
  | none => rfl
  | some o =>
   by_cases hm : a ∈ v0.at c ++ frs outer
   ·have hA : a ∈ A := (List.mem_append.mp hm).elim (d.a0 a) (d.fr_ a)
    refine xEL (d.ex a hA) fun o' ho' => ?_
    rw [d.at' N hl a hA o' ho'] at ha; cases ha
   ·rw [F.keep _ _ (hg _ _ q hm)] at ha; cases ha
 have all : ∀ a ∈ Ex ++ v'.at c ++ A, a ∈ A ∨ hc.get? a = none := fun a ha => by
  rcases List.mem_append.mp ha with ha | ha
  ·rcases List.mem_append.mp ha with ha | ha
   ·exact (he a ha).1
   ·rcases hn a ha with z | z | z
    ·exact .inl (d.at_ a z)
    ·exact .inl z.1
    ·exact .inr z
  ·exact .inl ha
 have frF : ∀ a ∈ frs outer, ∃ o, hc.get? a = some o := fun a ha => by
  refine xEL (d.ex a (d.fr_ a ha)) fun o ho => ?_
  exact ⟨o, d.at' N hl a (d.fr_ a ha) o ho⟩
 refine ⟨⟨X', fun a ha => List.mem_append_left _ (List.mem_append_right _ ha), fun a ha => List.mem_append_right _ (d.fr_ a ha), fun a ha => List.mem_append_right _ (d.a0 a ha), fun a ha => ?_, fun b o hb e => ?_, fun a ha => ?_, fun a ha hf => ?_⟩, fun q hq => ?_, ?_⟩
 ·rcases List.mem_append.mp ha with ha | ha
  ·rcases List.mem_append.mp ha with ha | ha
   ·exact (he a ha).2
   ·exact X'.there a ha
  ·exact ex' a ha
 ·refine xEL (d.up b o hb e) fun sl hs => ?_
  exact ⟨sl, k _ _ (fun q => d.sf _ (hS _ q) hb) (d.at' N hl b (d.fr_ b hb) _ hs)⟩
 ·rcases all a ha with z | z
  ·exact d.nw a z
  ·exact .inr (.inr (fresh0 a z))
 ·rcases hn a ha with z | z | z
  ·exact d.sf a z hf
  ·exact z.2 hf
  ·refine xEL (frF a hf) fun o ho => ?_
   rw [ho] at z; cases z
 ·refine xAL (frO_mem hq) fun m1 m2 => ?_
  refine ⟨m2, ?_⟩
  rcases all _ m1 with z | z
  ·exact off _ z
  ·exact newAway F z
 ·exact frButS F k fun a ha => let ⟨x, y⟩ := off a (d.at_ a (hS a ha)); ⟨y, x⟩
theorem ffCur {hs : Heap} {l : List Env} (hF : hs.FunFrames hB l) (hup : ∀ b o, b ∈ frs l → hs.get? b = some o → ∃ sl, hc.get? b = some { o with slots := sl }) : hc.FunFrames hB l := by
 induction l with
 | nil => trivial
 | cons env r ih =>
  (refine xAAL hF fun k z309x1 hr => ?_; try clear hF; (refine xEEAAAL z309x1 fun L o hf hn ho hd => ?_; try clear z309x1))
  refine xEL (hup L o (List.mem_filterMap.mpr ⟨env, .head _, hf⟩) ho) fun sl hs' => ?_
  exact ⟨k, ⟨L, _, hf, hn, hs', hd⟩, ih hr fun b o hb e => hup b o (by
   refine xEAL (List.mem_filterMap.mp hb) fun x hx hy => ?_
   exact List.mem_filterMap.mpr ⟨x, .tail _ hx, hy⟩) e⟩
theorem DS.ff {a : Addr} {name : Str} {scope : Scope} {cd : Value} (d : DS w hB s0 c v0 outer h v A) (F : Fr g L hc m) (N : News g L hc l) (hl : ∀ q ∈ frO h A, q ∈ l) (hF : s0.FunFrames hB outer) (st : hB.StaysIn g) (hk : scope.kind = .function := by rfl) :
  hc.FunFrames hB (envOf name scope L a cd :: outer) := by
 refine xEEEAAL (F.ns) fun oL es ep hL hd _ => ?_
 refine ⟨?_, ⟨L, oL, rfl, ?_, hL, fun vs q => by rw [hd] at q; cases q⟩, ffCur hF fun b o hb e => ?_⟩
 ·show scope.kind ≠ .module
  rw [hk]; decide
 ·cases q : hB.get? L with
  | none => rfl
  | some o => have := st _ _ q; rw [fr_self F] at this; cases this
 ·refine xEL (d.up b o hb e) fun sl hs => ?_
  exact ⟨sl, d.at' N hl b (d.fr_ b hb) _ hs⟩
theorem DS.stepR {a : Addr} {name : Str} {scope : Scope} {cd : Value} (d : DS w hB s0 c v0 outer h v A) (F : Fr g L hc m) (N : News g L hc l) (hl : ∀ q ∈ frO h A, q ∈ l) (k : UpF (envOf name scope L a cd :: outer) hc h') :
  DS w hB s0 c v0 outer h' v A ∧ News g L h' (frO h' A) ∧ Fr g L h' m := by
 have off := d.off N hl
 have X1 := d.cur N hl
 have k' : KeepsOff (L :: frs outer) hc h' := fun b o nb e => k.off b o nb e
 refine ⟨⟨X1.off k' fun a ha q => ?_, d.at_, d.fr_, d.a0, fun a ha => ?_, fun b o hb e => ?_, d.nw, d.sf⟩, fun q hq => ?_, ?_⟩
 ·rcases List.mem_cons.mp q with q | q
  ·exact (off a (d.at_ a ha)).1 q
  ·exact d.sf a ha q
 ·refine xEL (d.ex a ha) fun o ho => ?_
  have := d.at' N hl a ha o ho
  by_cases hf : a ∈ frs outer
  ·refine xEL (k.fr a o (List.mem_cons_of_mem _ hf) this) fun sl hs => ?_
   exact ⟨_, hs⟩
  ·exact ⟨o, k' _ _ (fun q => (List.mem_cons.mp q).elim (off a ha).1 hf) this⟩
 ·refine xEL (d.up b o hb e) fun sl hs => ?_
  refine xEL (k.fr b _ (List.mem_cons_of_mem _ hb) (d.at' N hl b (d.fr_ b hb) _ hs)) fun sl' hs' => ?_
  exact ⟨sl', hs'⟩
 ·refine xAL (frO_mem hq) fun m1 m2 => ?_
  exact ⟨m2, off _ m1⟩
 ·refine xEEEAAL (F.ns) fun oL es ep hL hd r => ?_
  refine xEL (k.fr L oL (.head _) hL) fun sl hs => ?_
  refine ⟨⟨_, es, ep, hs, hd, r⟩, fun b o e => ?_, F.above⟩
  refine k' b o (fun q => ?_) (F.keep b o e)
  rcases List.mem_cons.mp q with q | q
  ·rw [q, fr_self F] at e; cases e
  ·rw [(off b (d.fr_ b q)).2] at e; cases e
end
section
variable {s0 g h hc : Heap} {v0 : LV} {outer : List Env} {L : Addr} {l : List (Addr × Obj)} {A : List Addr}
theorem DS.move (d : DS w hB s0 c v0 outer h v A) (N : News g L hc l) (hl : ∀ q ∈ frO h A, q ∈ l) : DS w hB s0 c v0 outer hc v A :=
 ⟨d.cur N hl, d.at_, d.fr_, d.a0, fun a ha => let ⟨o, ho⟩ := d.ex a ha; ⟨o, d.at' N hl a ha o ho⟩, fun b o hb e => let ⟨sl, hs⟩ := d.up b o hb e; ⟨sl, d.at' N hl b (d.fr_ b hb) _ hs⟩, d.nw, d.sf⟩
theorem DS.add {m : Str → Option Value} {a : Addr} {o : Obj} (d : DS w hB s0 c v0 outer h v A) (F : Fr g L hc m) (N : News g L hc l) (hl : ∀ q ∈ frO h A, q ∈ l) (hg : ∀ b o, s0.get? b = some o → b ∉ v0.at c ++ frs outer → g.get? b = some o) (hm : (a, o) ∈ l) (hna : ∀ p ∈ frO h A, p.1 < a) :
  DS w hB s0 c v0 outer hc v (a :: A) ∧ News g L hc (frO hc (a :: A)) ∧ a ∉ A := by
 have nA : a ∉ A := fun q => by
  refine xEL (d.ex a q) fun o' ho' => ?_
  exact absurd (hna _ (frO_in q ho')) (Nat.lt_irrefl _)
 have dm : DS w hB s0 c v0 outer hc v A := ⟨d.cur N hl, d.at_, d.fr_, d.a0, fun a ha => let ⟨o, ho⟩ := d.ex a ha; ⟨o, d.at' N hl a ha o ho⟩, fun b o hb e => let ⟨sl, hs⟩ := d.up b o hb e; ⟨sl, d.at' N hl b (d.fr_ b hb) _ hs⟩, d.nw, d.sf⟩
 refine ⟨⟨dm.X, fun b hb => .tail _ (dm.at_ b hb), fun b hb => .tail _ (dm.fr_ b hb), fun b hb => .tail _ (dm.a0 b hb), fun b hb => ?_, dm.up, fun b hb => ?_, dm.sf⟩, fun q hq => ?_, nA⟩
 ·rcases List.mem_cons.mp hb with z | hb
  ·exact z ▸ ⟨o, (N _ hm).1⟩
  ·exact dm.ex b hb
 ·rcases List.mem_cons.mp hb with z | hb
  ·refine .inr (.inr ?_)
   rw [z]
   cases q : s0.get? a with
   | none => rfl
   | some o' =>
    have : a ∉ v0.at c ++ frs outer := fun q' => nA ((List.mem_append.mp q').elim (d.a0 a) (d.fr_ a))
    have := hg _ _ q this
    have := (N _ hm).2.2
    simp_all
  ·exact dm.nw b hb
 ·refine xAL (frO_mem hq) fun m1 m2 => ?_
  refine ⟨m2, ?_⟩
  rcases List.mem_cons.mp m1 with z | m1
  ·rw [z]; exact (N _ hm).2
  ·exact d.off N hl _ m1
theorem tupMove {t : Addr} {xs : Array Value} (d : DS w hB s0 c v0 outer h v A) (N : News g L hc l) (hl : ∀ q ∈ frO h A, q ∈ l) (i : IsTup h t xs) (ht : t ∈ A) : IsTup hc t xs := by
 (refine xEAL i fun o ho r => ?_; try clear i)
 exact ⟨o, d.at' N hl t ht o ho, r⟩
theorem bx_tp {D : DD} {Y YD YB YI tp a : Addr} (h : a ∈ bX D [tp]) : a ∈ bX D [Y, YD, YB, YI, tp] := by
 cases D <;> simp only [bX, List.not_mem_nil] at h ⊢
 rw [List.mem_singleton.mp h]; simp
theorem DS.nfr (d : DS w hB s0 c v0 outer h v A) {a : Addr} (n : h.get? a = none) : a ∉ frs outer := fun q => by
 refine xEL (d.ex a (d.fr_ a q)) fun o ho => ?_
 rw [n] at ho; cases ho
end
section
variable {h h' : Heap} {D2 : DD} {H2 HY2 : Addr} {n2 : Int}
theorem moveS {Ats : List Addr} (k : ∀ a ∈ Ats, ∀ o, h.get? a = some o → h'.get? a = some o) : KeepsOff ((List.range h.objs.size).filter fun a => decide (a ∉ Ats)) h h' := fun b o nb e => by
 have hb : b ∈ Ats := Classical.byContradiction fun hn => nb (List.mem_filter.mpr ⟨List.mem_range.mpr (Heap.lt_size e), decide_eq_true hn⟩)
 exact k b hb o e
theorem moveN {Ats : List Addr} {a : Addr} {m : Nat} (ha : a ∈ Ats) : a ∉ (List.range m).filter fun a => decide (a ∉ Ats) := fun hm => (of_decide_eq_true (List.mem_filter.mp hm).2) ha
theorem recs_move {R RD FD RT Y YD YB YI tp : Addr} {kvs : List (Str × Value)} {D : DD} (r : RecAt w h R RD FD RT kvs) (x : ArrSt h Y YD YB YI tp D) (k : ∀ a ∈ [R, RD, FD] ++ bX D [Y, YD, YB, YI, tp], ∀ o, h.get? a = some o → h'.get? a = some o) : RecAt w h' R RD FD RT kvs ∧ ArrSt h' Y YD YB YI tp D :=
 ⟨r.off (moveS k) fun a ha => moveN (List.mem_append_left _ ha), x.off (moveS k) fun a ha => moveN (List.mem_append_right _ ha)⟩
theorem ap_new {R RD FD Y YD YB YI tp : Addr} {D : DD} (X : LS w hB h c v) (st : hB.StaysIn h) (fr : ∀ a ∈ [H2, R, RD, FD] ++ bX D [Y, YD, YB, YI, tp, HY2], h.get? a = none) (ap : ∀ a ∈ [R, RD, FD] ++ bX D [Y, YD, YB, YI, tp], a ≠ H2 ∧ a ∉ bX D [HY2]) :
  ∀ a ∈ [R, RD, FD] ++ bX D [Y, YD, YB, YI, tp], a ∉ ({ v with n := n2, Dh := D, H := H2, HY := HY2 } : LV).at c ∧ hB.get? a = none := fun a ha => by
 have hf := fr a (by
  rcases List.mem_append.mp ha with ha | ha
  ·exact List.mem_append_left _ (.tail _ ha)
  ·refine List.mem_append_right _ ?_
   cases D <;> simp only [bX, List.not_mem_nil] at ha ⊢
   simp only [List.mem_cons, List.not_mem_nil, or_false] at ha ⊢
   rcases ha with rfl | rfl | rfl | rfl | rfl <;> simp)
 have nx := (X.fresh st hf).1
 refine ⟨fun q => ?_, fresh_base st hf⟩
 unfold LV.at at q nx
 rcases List.mem_cons.mp q with z | q
 ·exact nx (z ▸ .head _)
 rcases List.mem_cons.mp q with z | q
 ·exact nx (z ▸ .tail _ (.head _))
 rcases List.mem_append.mp q with q | q
 ·rcases List.mem_append.mp q with q | q
  ·unfold LV.sB at q
   simp only [List.cons_append, List.nil_append, List.mem_cons] at q
   rcases q with z | z | q
   ·exact nx (.tail _ (.tail _ (List.mem_append_left _ (List.mem_append_left _ (by rw [z]; simp [LV.sB])))))
   ·exact (ap a ha).1 z
   ·exact (ap a ha).2 q
  ·exact nx (.tail _ (.tail _ (List.mem_append_left _ (List.mem_append_right _ q))))
 ·exact nx (.tail _ (.tail _ (List.mem_append_right _ q)))
theorem at_rec {FD Y YD YB YI tp a : Addr} {D : DD} (ha : a ∈ ({ v with D := D, FD := FD, Y := Y, YD := YD, YB := YB, YI := YI, tp := tp } : LV).at c) : a ∈ v.at c ∨ a ∈ [c.R, c.RD, FD] ++ bX D [Y, YD, YB, YI, tp] := by
 unfold LV.at at ha
 rcases List.mem_cons.mp ha with z | ha
 ·exact .inl (z ▸ .head _)
 rcases List.mem_cons.mp ha with z | ha
 ·exact .inl (z ▸ .tail _ (.head _))
 rcases List.mem_append.mp ha with ha | ha
 ·rcases List.mem_append.mp ha with ha | ha
  ·exact .inl (.tail _ (.tail _ (List.mem_append_left _ (List.mem_append_left _ ha))))
  ·exact .inr ha
 ·exact .inl (.tail _ (.tail _ (List.mem_append_right _ ha)))
theorem at_recI {FD Y YD YB YI tp a : Addr} {D : DD} (ha : a ∈ [c.R, c.RD, FD] ++ bX D [Y, YD, YB, YI, tp]) : a ∈ ({ v with D := D, FD := FD, Y := Y, YD := YD, YB := YB, YI := YI, tp := tp } : LV).at c :=
 .tail _ (.tail _ (List.mem_append_left _ (List.mem_append_right _ ha)))
theorem LS.nFD (X : LS w hB h c v) : hB.get? v.FD = none := X.hb _ (X.sR_at _ (by first | k_mem | simp [LV.sR]))
theorem at_ds {a : Addr} {D' : DD} (ds : DSame v.D D') (ha : a ∈ ({ v with D := D' } : LV).at c) : a ∈ v.at c := by
 unfold LV.at LV.sR at ha ⊢
 simp only [ds.b] at ha
 exact ha
theorem LS.has {D' : DD} {HY' : Addr} {oH' : Obj} {hk' : List (Str × Value)} (X : LS w hB h c v) (kp : KeepsOff [v.H] h h') (g' : h'.get? v.H = some oH') (d' : oH'.IsDictOf (PySem.strKind prog0 w) hk') (kh' : HasKv HY' D' hk') (hd : D'.d = v.Dh.d) (hy' : HYat h' HY' D') (ok : D'.Ok)
  (hHY : ∀ a ∈ bX D' [HY'], (a ∈ v.sB c ∧ a ≠ c.O ∧ a ≠ v.H) ∨ (a ∉ v.at c ∧ hB.get? a = none)) : LS w hB h' c { v with Dh := D', HY := HY' } := by
 have iO : c.O ∈ v.sB c := by simp [LV.sB]
 have iH : v.H ∈ v.sB c := by simp [LV.sB]
 have aB : ∀ a ∈ v.sB c, a ∈ v.at c := fun a ha => .tail _ (.tail _ (List.mem_append_left _ (List.mem_append_left _ ha)))
 have nOH : c.O ≠ v.H := by
  have := X.ndB
  unfold LV.sB at this
  simp only [List.cons_append, List.nil_append, List.nodup_cons, List.mem_cons, not_or] at this
  exact this.1.1
 have nTH : c.T ∉ [v.H] := fun q => X.sT (List.mem_append_left _ (List.mem_append_left _ (by rw [List.mem_singleton.mp q]; exact iH)))
 refine xEEEEAAAAAL (X.bk) fun oO oH td hk gO dO gH dH kh hy => ?_
 have nd : ([c.O, v.H] ++ bX D' [HY']).Nodup := by
  have e : ∀ a ∈ bX D' [HY'], a ≠ c.O ∧ a ≠ v.H := fun a ha => by
   rcases hHY a ha with z | z
   ·exact z.2
   ·exact ⟨fun q => z.1 (q ▸ aB _ iO), fun q => z.1 (q ▸ aB _ iH)⟩
  revert e
  cases D' <;> intro e <;> simp only [bX, List.append_nil, List.cons_append, List.nil_append, List.nodup_cons, List.mem_cons, List.not_mem_nil, or_false, not_or, not_false_eq_true, List.nodup_nil, and_true]
  ·exact nOH
  ·have := e HY' (by simp [bX]); exact ⟨⟨nOH, Ne.symm this.1⟩, Ne.symm this.2⟩
  ·exact nOH
 have := X.book (n' := v.n) (D := D') (H := v.H) (HY := HY') (S := [v.H]) kp (fun a ha => .inr (by rw [List.mem_singleton.mp ha]; exact iH)) (X.tp.off kp nTH) ⟨oO, oH', td, hk', kp _ _ (by simpa using nOH) gO, by rw [hd]; exact dO, g', d', kh', hy'⟩ ok (fun a ha => by
  rcases List.mem_append.mp ha with ha | ha
  ·exact .inl (by rw [List.mem_singleton.mp ha]; exact iH)
  ·rcases hHY a ha with z | z
   ·exact .inl z.1
   ·exact .inr z) nd
 exact this
theorem at_TO {a : Addr} (ha : a ∈ [c.T, c.O]) : a ∈ v.at c := by
 simp only [List.mem_cons, List.not_mem_nil, or_false] at ha
 rcases ha with rfl | rfl
 ·exact .head _
 ·exact .tail _ (.tail _ (List.mem_append_left _ (List.mem_append_left _ (by simp [LV.sB]))))
theorem in_new {a R RD FD Y YD YB YI tp : Addr} {D : DD} (ha : a ∈ [R, RD, FD] ++ bX D [Y, YD, YB, YI, tp]) : a ∈ [H2, R, RD, FD] ++ bX D [Y, YD, YB, YI, tp, HY2] := by
 rcases List.mem_append.mp ha with ha | ha
 ·exact List.mem_append_left _ (.tail _ ha)
 ·refine List.mem_append_right _ ?_
  cases D <;> simp only [bX, List.not_mem_nil] at ha ⊢
  simp only [List.mem_cons, List.not_mem_nil, or_false] at ha ⊢
  rcases ha with rfl | rfl | rfl | rfl | rfl <;> simp
theorem at_new {A : List Addr} {fo : List Addr} {a R RD FD Y YD YB YI tp : Addr} {D : DD} (fr : ∀ a ∈ [H2, R, RD, FD] ++ bX D [Y, YD, YB, YI, tp, HY2], h.get? a = none) (ha : a ∈ ({ v with n := n2, Dh := D, H := H2, HY := HY2 } : LV).at c) : a ∈ v.at c ∨ (a ∈ A ∧ a ∉ fo) ∨ h.get? a = none := by
 unfold LV.at at ha
 rcases List.mem_cons.mp ha with z | ha
 ·exact .inl (z ▸ .head _)
 rcases List.mem_cons.mp ha with z | ha
 ·exact .inl (z ▸ .tail _ (.head _))
 rcases List.mem_append.mp ha with ha | ha
 ·rcases List.mem_append.mp ha with ha | ha
  ·unfold LV.sB at ha
   simp only [List.cons_append, List.nil_append, List.mem_cons] at ha
   rcases ha with z | z | ha
   ·exact .inl (z ▸ at_TO (by first | k_mem | simp))
   ·exact .inr (.inr (fr a (by rw [z]; simp)))
   ·refine .inr (.inr (fr a (List.mem_append_right _ ?_)))
    cases D <;> simp only [bX, List.not_mem_nil] at ha ⊢
    rw [List.mem_singleton.mp ha]; simp
  ·exact .inl (.tail _ (.tail _ (List.mem_append_left _ (List.mem_append_right _ ha))))
 ·exact .inl (.tail _ (.tail _ (List.mem_append_right _ ha)))
theorem recs_there {h' : Heap} {R RD FD RT Y YD YB YI tp : Addr} {kvs : List (Str × Value)} {D : DD} (r : RecAt w h' R RD FD RT kvs) (x : ArrSt h' Y YD YB YI tp D) : ∀ a ∈ [R, RD, FD] ++ bX D [Y, YD, YB, YI, tp], ∃ o, h'.get? a = some o := by
 intro a ha
 rcases List.mem_append.mp ha with ha | ha
 ·simp only [List.mem_cons, List.not_mem_nil, or_false] at ha
  rcases ha with rfl | rfl | rfl
  ·exact ⟨_, r.o1⟩
  ·refine xEEEEEL (r.o2) fun _ _ _ _ _ q => ?_; exact ⟨_, q⟩
  ·refine xEAL (r.o3) fun _ q _ => ?_; exact ⟨_, q⟩
 ·cases D <;> simp only [bX, List.not_mem_nil] at ha
  (refine xAEEEAL x fun hA ta tb o ho _ => ?_; try clear x)
  simp only [List.mem_cons, List.not_mem_nil, or_false] at ha
  rcases ha with rfl | rfl | rfl | rfl | rfl
  ·exact ⟨_, hA.o1⟩
  ·refine xEEEEEL (hA.o2) fun _ _ _ _ _ q => ?_; exact ⟨_, q⟩
  ·refine xEL (hA.o3) fun _ q => ?_; exact ⟨_, q⟩
  ·refine xEEEL (hA.o4) fun _ _ _ q => ?_; exact ⟨_, q⟩
  ·exact ⟨_, ho⟩
end
section
variable {A : Around} {value slice : PySem.Expr}
theorem own_d {t : Tok} (X : LS w hB s.heap c v) (h : ∀ td, Q (.int v.Dh.d td) { s with toks := s.toks + 1 })
  (hs : subscripted slice false (.ref c.O) (.str (Str.ofString "d") t) = operate [.ref c.O, .str (Str.ofString "d") t] (getItem (.ref c.O) (.str (Str.ofString "d") t)) := by with_unfolding_all rfl) (hg : ∀ r, letTemporaryGo value (.ref c.O) r = pure () := by intro _; with_unfolding_all rfl) :
  wpAny (model prog0 w) A (subscriptTail value slice (.ref c.O) (.str (Str.ofString "d") t)) Q E s := by
 refine xEEEEAAL (X.bk) fun oO oH td hk gO dO _ => ?_
 exact itemD (Heap.dictOf_iff.mpr ⟨oO, gO, dO⟩) vaE (h td) hs hg
theorem own_has {t : Tok} (X : LS w hB s.heap c v) (h : Q (.ref v.H) { s with toks := s.toks + 1 })
  (hs : subscripted slice false (.ref c.O) (.str (Str.ofString "has") t) = operate [.ref c.O, .str (Str.ofString "has") t] (getItem (.ref c.O) (.str (Str.ofString "has") t)) := by with_unfolding_all rfl) (hg : ∀ r, letTemporaryGo value (.ref c.O) r = pure () := by intro _; with_unfolding_all rfl) :
  wpAny (model prog0 w) A (subscriptTail value slice (.ref c.O) (.str (Str.ofString "has") t)) Q E s := by
 refine xEEEEAAL (X.bk) fun oO oH td hk gO dO _ => ?_
 exact itemD (Heap.dictOf_iff.mpr ⟨oO, gO, dO⟩) (by rw [vaN (by decide +kernel), vaE]) h hs hg
theorem names_item {r : Int} {t : Tok} (X : LS w hB s.heap c v) (r0 : 0 ≤ r) (r1 : r < v.vals.length) (h : ∀ x ∈ v.vals, Q x s)
  (hs : subscripted slice false (.ref c.NL) (.int r t) = operate [.ref c.NL, .int r t] (getItem (.ref c.NL) (.int r t)) := by with_unfolding_all rfl) (hg : ∀ u, letTemporaryGo value (.ref c.NL) u = pure () := by intro _; with_unfolding_all rfl) :
  wpAny (model prog0 w) A (subscriptTail value slice (.ref c.NL) (.int r t)) Q E s := by
 have hl : s.heap.IsList c.NL v.vals.toArray := by refine xEL (X.nm.1) fun n e => ?_; exact ⟨_, e, rfl, n, rfl⟩
 have h2 := X.nm.2.2.2
 have hlt : r.toNat < v.vals.length := by omega
 refine item_list hl r0 (by omega) (x := v.vals[r.toNat]) (by simp [hlt]) (h _ (List.getElem_mem hlt)) hs hg
theorem names_len (X : LS w hB s.heap c v) (h : Q (.int v.vals.length (s.toks + 1)) { s with toks := s.toks + 1 + 1 }) : wpAny (model prog0 w) A (call (.builtin "len") [.ref c.NL]) Q E s := by
 have h2 := X.nm.2.2.2
 exact len_list (items := v.vals.toArray) (by refine xEL (X.nm.1) fun n e => ?_; exact ⟨_, e, rfl, n, rfl⟩) (by simp only [List.size_toArray]; omega) (by simpa using h)
theorem names_meth {pl : Sem Bool} {Q : Value × List Value → Shared → Prop} (X : LS w hB s.heap c v) (h : Q (.builtin "list.append", [.ref c.NL]) s) : wpAny (model prog0 w) A (getMethod (.ref c.NL) (Str.ofString "append") pl) Q E s := by
 refine xEL (X.nm.1) fun n e => ?_
 exact getMethod_builtin ⟨_, e, rfl⟩ PySem.F.plainAttrs_list PySem.F.slot_list_append PySem.F.type_list_append (fun a ha => by cases ha; exact ⟨_, e, rfl⟩) h
theorem names_append {x : Value} (X : LS w hB s.heap c v) (h : ∀ h', (∃ n, h'.get? c.NL = some (PySem.W.listOf (v.vals ++ [x]).toArray n)) → KeepsOff [c.NL] s.heap h' → Q .none { s with heap := h' }) : wpAny (model prog0 w) A (call (.builtin "list.append") [.ref c.NL, x]) Q E s := by
 refine xEL (X.nm.1) fun n e => ?_
 have h2 := X.nm.2.2.2
 refine wpAny_list_append_plain (items := v.vals.toArray) ⟨n, e⟩ (fun h' hp sb => h h' ?_ fun b o nb eb => (sb.2 b (fun q => nb (by rw [q]; exact .head _))).trans eb) (by simp only [List.size_toArray, sizeLine_eq]; omega)
 (refine xEL hp fun n' e' => ?_; try clear hp)
 exact ⟨n', by rw [show (v.vals ++ [x]).toArray = v.vals.toArray.push x from by simp]; exact e'⟩
theorem has_set {name : Str} {t : Tok} {x : Value} {Q : Unit → Shared → Prop} (X : LS w hB s.heap c v) (h : ∀ hk h' oH', HasKv v.HY v.Dh hk → h'.get? v.H = some oH' → oH'.IsDictOf (PySem.strKind prog0 w) (stored hk name x) → KeepsOff [v.H] s.heap h' → Q () { s with heap := h', toks := s.toks + 1 }) :
  wpAny (model prog0 w) A (setItem (.ref v.H) (.str name t) x) Q E s := by
 refine xEEEEAAAAAL (X.bk) fun oO oH td hk gO dO gH dH kh hy => ?_
 refine wpAny_setItem_pairs (knd := PySem.strKind prog0 w) (kvs := hk) (strKind_is _ _ _ _) (Heap.dictOf_iff.mpr ⟨oH, gH, dH⟩) (fun h' hd sb => ?_) ?_
 ·refine xEAL (Heap.dictOf_iff.mp hd) fun o' ho' hd' => ?_
  exact h hk h' o' kh ho' hd' fun b o nb eb => (sb.2 b (fun q => nb (by rw [q]; exact .head _))).trans eb
 ·have : hk.length ≤ 3 := by
   revert kh
   cases v.Dh <;> intro kh <;> simp only [HasKv] at kh
   ·(refine xEEL kh fun _ _ z341x2 => ?_; try clear kh; subst z341x2); simp
   ·(refine xEEL kh fun _ _ z342x2 => ?_; try clear kh; subst z342x2); simp
   ·(refine xEL kh fun _ z343x1 => ?_; try clear kh; subst z343x1); simp
  rw [sizeLine_eq]; omega
theorem has_in {name : Str} {t : Tok} {b : Bool} (X : LS w hB s.heap c v) (hs : ∃ o, hB.get? sysModules = some o) (hb : ∀ HY hk, HasKv HY v.Dh hk → (valueAt hk name).isSome = b) (h : Q (.bool (!b)) { s with toks := s.toks + 1 }) :
  wpAny (model prog0 w) A (compareOp .NotIn (.str name t) (.ref v.H)) Q E s := by
 refine xEEEEAAAAAL (X.bk) fun oO oH td hk gO dO gH dH kh hy => ?_
 exact notInD (Heap.dictOf_iff.mpr ⟨oH, gH, dH⟩) (ne_sys hs (X.hb _ (.tail _ (.tail _ (List.mem_append_left _ (List.mem_append_left _ (by simp [LV.sB]))))))) (hb _ _ kh) h
theorem has_meth {pl : Sem Bool} {Q : Value × List Value → Shared → Prop} (X : LS w hB s.heap c v) (h : Q (.builtin "dict.get", [.ref v.H]) s) : wpAny (model prog0 w) A (getMethod (.ref v.H) (Str.ofString "get") pl) Q E s := by
 refine xEEEEAAAAAL (X.bk) fun oO oH td hk gO dO gH dH kh hy => ?_
 exact getM (Heap.dictOf_iff.mpr ⟨oH, gH, dH⟩) h
theorem getC2 {d : Addr} {kvs : List (Str × Value)} {k : Str} {t : Tok} {y : Value} (hD : s.heap.DictOf (PySem.strKind prog0 w) d kvs) (lo : (d == sysModules) = false) (x : Option Value) (hl : valueAt kvs k = x) (h : Q (x.getD y) { s with toks := s.toks + 1 }) :
  wpAny (model prog0 w) A (call (.builtin "dict.get") [.ref d, .str k t, y]) Q E s :=
 call_meetsIn PySem.F.slot_dict_get hD.typeIs PySem.F.entry_dict_get (PySem.F.args_dict_get_3 _ _ _) (meets_dict_get_default (PySem.strKind prog0 w) d (strKind_is _ _ _ _) lo y) ⟨_, hD.mapOf, by rw [hl]; exact h⟩
theorem has_get {name : Str} {t : Tok} {y : Value} (X : LS w hB s.heap c v) (hs : ∃ o, hB.get? sysModules = some o) {P : Option Value → Prop} (hb : ∀ hk, HasKv v.HY v.Dh hk → P (valueAt hk name)) (h : ∀ x, P x → Q (x.getD y) { s with toks := s.toks + 1 }) :
  wpAny (model prog0 w) A (call (.builtin "dict.get") [.ref v.H, .str name t, y]) Q E s := by
 refine xEEEEAAAAAL (X.bk) fun oO oH td hk gO dO gH dH kh hy => ?_
 exact getC2 (Heap.dictOf_iff.mpr ⟨oH, gH, dH⟩) (ne_sys hs (X.hb _ (.tail _ (.tail _ (List.mem_append_left _ (List.mem_append_left _ (by simp [LV.sB]))))))) _ rfl (h _ (hb _ kh))
end
end
end
section
theorem turn_L4 {w : World} {A : Around} {Q : Flow → Shared → Prop} {E : Value → Shared → Prop} {s : Shared} {env : Env} {p : Pos} (h : wpAny (model prog0 w) A (exec (.Pass p) env) Q E s) : wpAny (model prog0 w) A (exec (.Pass p) env) Q E s := by
 first | (walk1; fail "on") | exact h
section
theorem sgH {a b : Addr} {l : List Addr} (ha : a ∈ [b]) : a ∈ b :: l := List.mem_singleton.mp ha ▸ .head _
theorem bump (c : LC) (v : LV) {G : Prop} (k : ∀ v' : LV, v'.n = v.n + 1 → v'.Dh = v.Dh → v'.D = v.D → v'.vals = v.vals → v'.at c = v.at c → (∀ w hB h, LS w hB h c { v with n := v.n + 1 } → LS w hB h c v') → G) : G := k { v with n := v.n + 1 } rfl rfl rfl rfl rfl fun _ _ _ x => x
theorem bnS {a b m : Int} (e : a = b + 1) (h : 0 ≤ b ∧ b ≤ m) : 0 ≤ a ∧ a ≤ m + 1 := by omega
theorem ge1 {a b c : Int} (e : b = a + 1) (h : b ≤ c) (h' : c ≤ b + 4) : a ≤ c ∧ c ≤ a + 6 := by omega
theorem ge2 {a b c : Int} (e : b = a + 1) (e' : c = b + 1) : a ≤ c ∧ c ≤ a + 6 := by omega
theorem ge3 {a b c d : Int} (e : b = a + 1) (e' : c = b + 1) (f : d = c + 1) : a ≤ d ∧ d ≤ a + 6 := by omega
theorem natI {P : Int → Prop} {k : Nat} (h : ∀ n, n < k → P (n : Int)) {r : Int} (r0 : 0 ≤ r) (r1 : r < (k : Int)) : P r := by
 have := h r.toNat (by omega)
 rwa [Int.toNat_of_nonneg r0] at this
theorem twoI {r : Int} (r0 : 0 ≤ r) (r1 : r < 2) : r = 0 ∨ r = 1 := natI (P := fun r => r = 0 ∨ r = 1) (k := 2) (by decide) r0 r1
theorem threeI {r : Int} (r0 : 0 ≤ r) (r1 : r < 3) : r = 0 ∨ r = 1 ∨ r = 2 := natI (P := fun r => r = 0 ∨ r = 1 ∨ r = 2) (k := 3) (by decide) r0 r1
theorem four {r : Int} (r0 : 0 ≤ r) (r1 : r < 4) : r = 0 ∨ r = 1 ∨ r = 2 ∨ r = 3 := natI (P := fun r => r = 0 ∨ r = 1 ∨ r = 2 ∨ r = 3) (k := 4) (by decide) r0 r1
def rowS : DD → Str
 | .a .. => Str.ofString "cx"
 | .b .. => Str.ofString "cyz"
 | .e .. => Str.ofString "c"
def rowN : DD → Nat
 | .a .. => 2
 | .b .. => 3
 | .e .. => 1
theorem rowS_len (D : DD) : (rowS D).length = rowN D := by
 cases D with
 | a c x => show (Str.ofString "cx").length = 2; decide +kernel
 | b c f z => show (Str.ofString "cyz").length = 3; decide +kernel
 | e c => show (Str.ofString "c").length = 1; decide +kernel
theorem rowN_pos (D : DD) : (0 : Int) < (rowN D : Nat) := by
 cases D with
 | a c x => show (0 : Int) < (2 : Nat); decide
 | b c f z => show (0 : Int) < (3 : Nat); decide
 | e c => show (0 : Int) < (1 : Nat); decide
theorem rowN_le (D : DD) : ((rowN D : Nat) : Int) ≤ 1000 := by
 cases D with
 | a c x => show ((2 : Nat) : Int) ≤ 1000; decide
 | b c f z => show ((3 : Nat) : Int) ≤ 1000; decide
 | e c => show ((1 : Nat) : Int) ≤ 1000; decide
theorem rowN_lt (D : DD) : ((rowN D : Nat) : Int) < 2 ^ 63 := Int.lt_of_le_of_lt (rowN_le D) (by decide)
def NIn (D : DD) (nm : Str) : Prop := nm = Str.ofString "c" ∨ (nm = Str.ofString "x" ∧ D.d = 0) ∨ (nm = Str.ofString "y" ∧ D.d = 1) ∨ (nm = Str.ofString "z" ∧ D.d = 1)
theorem NIn.name {D : DD} {nm : Str} (h : NIn D nm) : nm = Str.ofString "c" ∨ nm = Str.ofString "x" ∨ nm = Str.ofString "y" ∨ nm = Str.ofString "z" :=
 h.imp id fun h => h.imp And.left fun h => h.imp And.left And.left
theorem rowS_item (D : DD) (r : Int) (h0 : 0 ≤ r) (h1 : r < (rowN D : Nat)) : NIn D (Txt.item (rowS D) r) := by
 cases D with
 | a c x =>
  have h1 : r < 2 := h1
  have := twoI h0 h1
  rcases this with rfl | rfl
  ·exact .inl (show Txt.item (Str.ofString "cx") 0 = _ by decide +kernel)
  ·exact .inr (.inl ⟨show Txt.item (Str.ofString "cx") 1 = _ by decide +kernel, rfl⟩)
 | b c f z =>
  have h1 : r < 3 := h1
  have := threeI h0 h1
  rcases this with rfl | rfl | rfl
  ·exact .inl (show Txt.item (Str.ofString "cyz") 0 = _ by decide +kernel)
  ·exact .inr (.inr (.inl ⟨show Txt.item (Str.ofString "cyz") 1 = _ by decide +kernel, rfl⟩))
  ·exact .inr (.inr (.inr ⟨show Txt.item (Str.ofString "cyz") 2 = _ by decide +kernel, rfl⟩))
 | e c =>
  have h1 : r < 1 := h1
  have : r = 0 := by omega
  subst this
  exact .inl (show Txt.item (Str.ofString "c") 0 = _ by decide +kernel)
variable {w : World} {A : Around} {E : Value → Shared → Prop} {s : Shared} {value slice : PySem.Expr} {D : DD} {Q : Value → Shared → Prop}
theorem row_char {r : Int} {t u : Tok} (h0 : 0 ≤ r) (h1 : r < (rowN D : Nat)) (h : ∀ nm, NIn D nm → Q (.str nm s.toks) { s with toks := s.toks + 1 })
  (hs : subscripted slice false (.str (rowS D) t) (.int r u) = operate [.str (rowS D) t, .int r u] (getItem (.str (rowS D) t) (.int r u)) := by with_unfolding_all rfl)
  (ht : ∀ r, letTemporaryGo value (.str (rowS D) t) r = pure () := by intro _; with_unfolding_all rfl) :
  wpAny (model prog0 w) A (subscriptTail value slice (.str (rowS D) t) (.int r u)) Q E s :=
 KXi.item (rowS_len D) (by omega) h1 (by have := rowN_le D; omega) (fun _ => h _ (rowS_item D r h0 h1)) hs ht
theorem row_item {B : Addr} {t1 t2 t3 u : Tok} (i : s.heap.IsList B #[Value.str (Str.ofString "cx") t1, .str (Str.ofString "cyz") t2, .str (Str.ofString "c") t3]) (h : ∀ t, Q (.str (rowS D) t) s)
  (hs : subscripted slice false (.ref B) (.int D.d u) = operate [.ref B, .int D.d u] (getItem (.ref B) (.int D.d u)) := by with_unfolding_all rfl) (hg : ∀ r, letTemporaryGo value (.ref B) r = pure () := by intro _; with_unfolding_all rfl) :
  wpAny (model prog0 w) A (subscriptTail value slice (.ref B) (.int D.d u)) Q E s := by
 cases D with
 | a c x => exact item_list i (show (0 : Int) ≤ 0 by decide) (show (0 : Int) < 2 ^ 63 by decide) rfl (h t1) hs hg
 | b c f z => exact item_list i (show (0 : Int) ≤ 1 by decide) (show (1 : Int) < 2 ^ 63 by decide) rfl (h t2) hs hg
 | e c => exact item_list i (show (0 : Int) ≤ 2 by decide) (show (2 : Int) < 2 ^ 63 by decide) rfl (h t3) hs hg
end
theorem said_13 : True := by
 k_with "C" => (((rename News _ _ _ _ => nN); first | ((with_reducible show wpAny _ _ (subscriptTail _ _ (Value.ref (LC.O c)) (Value.str _ _)) _ _ _); first | ((with_reducible show wpAny _ _ (subscriptTail _ _ (Value.ref (LC.O c)) (Value.str (Str.ofString "d") _)) _ _ _); (with_unfolding_all refine' own_d (d.cur nN ?hl) ?_); (case hl => k_extra "K"); k_whole; intro td') | ((with_reducible show wpAny _ _ (subscriptTail _ _ (Value.ref (LC.O c)) (Value.str (Str.ofString "has") _)) _ _ _); (with_unfolding_all refine' own_has (d.cur nN ?hl) ?_); (case hl => k_extra "K"); k_whole)) | ((with_reducible show wpAny _ _ (subscriptTail _ _ (Value.ref (LC.NL c)) (Value.int _ _)) _ _ _); (with_unfolding_all refine' names_item (d.cur nN ?hl) ?r0 ?r1 ?_); (case hl => k_extra "K"); (case r0 => exact r0); (case r1 => exact r1); k_whole; intro x hx; refine held ?_) | ((with_reducible show wpAny _ _ (subscriptTail _ _ (Value.str _ _) (Value.int _ _)) _ _ _); (refine row_char r0 r1 ?_); intro nm hnm) | ((with_reducible show wpAny _ _ (subscriptTail _ _ (Value.ref _) (Value.int (DD.d _) _)) _ _ _); (refine row_item (t1 := pt1) (t2 := pt2) (t3 := pt3) ⟨_, d.at' nN (by k_extra "K") _ mB _ gB, rfl, _, rfl⟩ ?_); intro trow)))
 k_with "D" => (((rename News _ _ _ _ => nN); first | ((with_reducible show wpAny _ _ (getMethod (Value.ref (LC.NL c)) (Str.ofString "append") _) _ _ _); (refine' names_meth (d.cur nN ?hl) ?_); (case hl => k_extra "K"); k_whole) | ((with_reducible show wpAny _ _ (getMethod (Value.ref _) (Str.ofString "get") _) _ _ _); (refine' has_meth (d.cur nN ?hl) ?_); (case hl => k_extra "K"); k_whole)))
 k_with "E" => (first | ((with_reducible show wpAny _ _ (call _ [Value.str _ _]) _ _ _); refine len_writK (rowN _) (rowS_len _) (rowN_lt _) ?_) | ((rename News _ _ _ _ => nN); (refine' names_len (d.cur nN ?hl) ?_); (case hl => k_extra "K"); k_whole))
 k_with "F" => ((refine held ?_))
 k_with "G" => ((refine held ?_))
 k_with "H" => ((refine held ?_))
 k_with "I" => ((refine held ?_))
 k_with "J" => (((rename News _ _ _ _ => nN); (refine' has_in (d.cur nN ?hl) K.sys hin ?_); (case hl => k_extra "K"); k_whole))
 k_with "K" => ((intro q hq; first | exact hq | exact .tail _ hq | exact .tail _ (.tail _ hq) | exact .tail _ (.tail _ (.tail _ hq)) | exact .tail _ (.tail _ (.tail _ (.tail _ hq)))))
 k_with "L" => ((repeat' (first | k_extra "h" | ((with_reducible show wpAny _ _ (call (.ref 695) _) _ _ _); refine held ?_) | ((with_reducible show wpAny _ _ (call (.ref 681) _) _ _ _); refine held ?_) | ((with_reducible show wpAny _ _ (call (.ref 716) _) _ _ _); refine held ?_) | ((with_reducible show wpAny _ _ (call (.ref 428) _) _ _ _); refine held ?_) | ((with_reducible show wpAny _ _ (call (.ref 667) _) _ _ _); refine held ?_) | ((with_reducible show wpAny _ _ (call (.ref 709) _) _ _ _); refine held ?_) | ((with_reducible show wpAny _ _ (call (.ref 688) _) _ _ _); refine held ?_) | ((with_reducible show wpAny _ _ (call (.ref 674) _) _ _ _); refine held ?_) | k_extra "g")))
 exact True.intro
local macro_rules | `(tactic| walk_at "subscriptTail") => `(tactic| k_extra "C")
local macro_rules | `(tactic| walk_at "getMethod ref") => `(tactic| k_extra "D")
local macro_rules | `(tactic| walk_at "call builtin:len") => `(tactic| k_extra "E")
local macro_rules | `(tactic| walk_at "call builtin:dict.get") => `(tactic| k_extra "F")
local macro_rules | `(tactic| walk_at "call builtin:list.append") => `(tactic| k_extra "G")
local macro_rules | `(tactic| walk_at "compareOp Eq ref ref") => `(tactic| k_extra "H")
local macro_rules | `(tactic| walk_at "setItem ref str") => `(tactic| k_extra "I")
local macro_rules | `(tactic| walk_at "compareOp NotIn str ref") => `(tactic| k_extra "J")
theorem deed {w : World} {mg mb : Str → Option Value} {hB : Heap} {s : Shared} {c : LC} {v : LV} {KT S0 S1 Sb C : Addr} {dd uu : Nat} {gs : Option (List Code)} {outer : List Env} {Q : Value → Shared → Prop} {E : Value → Shared → Prop}
  (WD : Wd w mg mb hB) (K : KD hB c KT S0 S1 Sb C) (X : LS w hB s.heap c v) (hDD : v.Dh = v.D) (st : hB.StaysIn s.heap) (hdd : dd ≤ 404) (huu : uu ≤ 1200) (hF : s.heap.FunFrames hB outer) (hAo : ∀ a ∈ v.at c, a ∉ frs outer)
  (n0 : 0 ≤ v.n) (n1 : v.n ≤ 800) (hvl : v.vals.length < 100) (hv2 : 2 ≤ v.vals.length)
  (hQ : ∀ v' h' tk A, DS w hB s.heap c v outer h' v' A → v'.Dh = v'.D → v.n ≤ v'.n → v'.n ≤ v.n + 6 → (v.vals.length ≤ v'.vals.length ∧ v'.vals.length ≤ v.vals.length + 1) → (∀ b o, s.heap.get? b = some o → b ∉ v.at c ++ frs outer → h'.get? b = some o) → Q (.bool true) { s with heap := h', toks := tk }) :
  wpAny (model prog0 w) ⟨none, dd, some outer, gs, uu⟩ (call (.ref 723) [.ref c.T, .ref C, .ref c.O, .ref c.NL, .ref KT]) Q E s := by
 refine xEL (K.cell) fun CD hC => ?_
 refine xEEEEEEEEEL (hC.o2) fun cH1 cT1 cH2 cT2 cV2 cH3 cT3 cV3 cN hCD => ?_
 have hex : ∀ a ∈ v.at c ++ frs outer, ∃ o, s.heap.get? a = some o := fun a ha => by
  rcases List.mem_append.mp ha with ha | ha
  ·exact X.there a ha
  ·refine xAEAL (hF.mem ha) fun _ o ho _ => ?_; exact ⟨o, ho⟩
 have hfst := frO_fst (h := s.heap) hex
 have d0 : DS w hB s.heap c v outer s.heap v (v.at c ++ frs outer) := ⟨X, fun a ha => List.mem_append_left _ ha, fun a ha => List.mem_append_right _ ha, fun a ha => List.mem_append_left _ ha, hex, fun b o hb e => ⟨o.slots, e⟩, fun a ha => (List.mem_append.mp ha).elim .inl fun z => .inr (.inl z), hAo⟩
 refine wpAny_call ?_
 refine' enter0 (news := frO s.heap (v.at c ++ frs outer)) (binds := [(Str.ofString "tape", .ref c.T), (Str.ofString "cell", .ref C), (Str.ofString "own", .ref c.O), (Str.ofString "names", .ref c.NL), (Str.ofString "kinds", .ref KT)]) WD st ?hN ?hroom ?ho ?hcd ?hb ?hl ?body ?c1 ?c2 ?c3 ?c4
 k_extra "j"
 case hN =>
  intro q hq
  refine xAL (frO_mem hq) fun m1 m2 => ?_
  refine ⟨m2, ?_⟩
  rcases List.mem_append.mp m1 with z | z
  ·exact X.hb _ z
  ·exact (hF.mem z).1
 case body =>
  intro g L h₁ S1' S2' S3' F' N' KX' T' l1
  rw [hfst] at S2'
  have hg : ∀ b o, s.heap.get? b = some o → b ∉ v.at c ++ frs outer → g.get? b = some o := S2'
  have qC := S1' _ _ hC.o1
  have qCD := S1' _ _ hCD
  have hKTg : IsTup g KT [Value.ref S0, .ref S1, .ref Sb].toArray := K.kt.keeps S1'
  have d := d0
  clear S3' S2' l1 hfst hex d0
  dsimp only
  k_extra "L"
  unfold Held
  k_extra "a"
  (with_unfolding_all refine' next_L WD (d.cur nN ?hl) ?st ?hd ?hu ?a1 ?a2 ?a3 ?a4 ?_)
  case hl => k_extra "K"
  case st => exact stays_of S1' fF
  case hd => k_extra "b"
  case hu => k_extra "b"
  case a1 => exact n0
  case a2 => first | exact b1.1 | exact Int.le_trans b1.2 (by decide) | exact b2.1 | exact Int.le_trans b2.2 (by decide) | omega
  case a3 => decide
  case a4 => decide
  k_whole
  intro way tw' h' tk' w0 w1 kp X1
  refine bump c v fun v1 p1 p2x hDx p3 p4 up => ?_
  replace X1 := up _ _ _ X1
  clear up
  have p2 : v1.Dh = v1.D := p2x.trans (Eq.trans hDD hDx.symm)
  refine xAAL (d.step (Ex := []) fF nN (by k_extra "K") hg kp (fun _ ha => sgH ha) X1 (fun _ ha => sgH ha) (fun a ha => .inl (p4 ▸ ha)) (fun _ h => by cases h)) fun d1 N' F' => ?_
  generalize [] ++ v1.at c ++ (v.at c ++ frs outer) = A1 at d1 N'
  clear d fF nN X1 kp
  rename DS _ _ _ _ _ _ _ _ _ => d
  have b1 := bnS p1 ⟨n0, n1⟩
  have hw := four w0 w1
  rcases hw with rfl | rfl | rfl | rfl
  ·k_extra "L"
   unfold Held
   k_extra "a"
   have dp := d.move nN (by k_extra "K")
   have Xp := dp.X
   have stp := stays_of S1' fF
   (with_unfolding_all refine' record_L WD K Xp ?st ?hd ?hu ?a1 ?a2 ?_)
   case st => exact stays_of S1' fF
   case hd => k_extra "b"
   case hu => k_extra "b"
   case a1 => first | exact b1.1 | exact Int.le_trans b1.2 (by decide) | exact b2.1 | exact Int.le_trans b2.2 (by decide) | omega
   case a2 => first | exact b1.1 | exact Int.le_trans b1.2 (by decide) | exact b2.1 | exact Int.le_trans b2.2 (by decide) | omega
   k_whole
   intro D2 R2 RD2 FD2 Y2 YD2 YB2 YI2 tp2 H2 HY2 n2 kvs2 h' tk' ok2 m1 m2 X2 r2 k2 a2 fr2 ap2 kp
   refine xAAL (d.step (Ex := [R2, RD2, FD2] ++ bX D2 [Y2, YD2, YB2, YI2, tp2]) fF nN (by k_extra "K") hg kp (fun a ha => at_TO ha) X2 (fun a ha => at_TO ha) (fun a ha => at_new fr2 ha) (fun a ha => ⟨.inr (fr2 a (in_new ha)), recs_there r2 a2 a ha⟩)) fun d1 N' F' => ?_
   clear d fF nN X2 kp
   rename DS _ _ _ _ _ _ _ _ _ => d
   k_extra "L"
   unfold Held
   k_extra "a"
   rename (∀ (p : Addr × Obj), p ∈ frO _ _ → p.1 < _) => l7
   have Xc := d.cur nN (by k_extra "K")
   have aE : ∀ a ∈ [R2, RD2, FD2] ++ bX D2 [Y2, YD2, YB2, YI2, tp2], a ∈ ([R2, RD2, FD2] ++ bX D2 [Y2, YD2, YB2, YI2, tp2] ++ ({ v1 with n := n2, Dh := D2, H := H2, HY := HY2 } : LV).at c ++ A1) := fun a ha => List.mem_append_left _ (List.mem_append_left _ ha)
   refine xAL (recs_move r2 a2 (fun a ha o e => d.at' nN (by k_extra "K") a (aE a ha) o e)) fun r2c a2c => ?_
   (with_unfolding_all refine' stored_cell_L WD K Xc ?st ?hd ?hu ?hP ?nP r2c k2 a2c ok2 ?ap ?_)
   case st => exact stays_of S1' fF
   case hd => k_extra "b"
   case hu => k_extra "b"
   case hP => exact News.isTup nN (by k_mem)
   case nP =>
    intro q
    have q1 := d.at_ _ q
    refine xEL (d.ex _ q1) fun o ho => ?_
    exact absurd (l7 _ (frO_in q1 ho)) (Nat.lt_irrefl _)
   case ap => exact ap_new Xp stp fr2 ap2
   k_whole
   intro t5 h' tk' kp w43
   (refine xEEEEEEAAL w43 fun FD5 Y5 YD5 YB5 YI5 tp5 X5 hn5 hc5 => ?_; try clear w43)
   obtain ⟨d1, N', F'⟩ := d.step (Ex := []) fF nN (by k_extra "K") hg kp (fun a ha => Xc.sR_at a (chg_in a ha)) X5 (fun a ha => at_recI (hc5 a ha)) (fun a ha => by
    rcases at_rec ha with z | z
    ·exact .inl z
    ·rcases hn5 a z with z | z | z
     ·exact .inl (Xc.sR_at a z)
     ·have z2 : a ∈ [R2, RD2, FD2] ++ bX D2 [Y2, YD2, YB2, YI2, tp2] := List.mem_append_right _ (bx_tp z)
      exact .inr (.inl ⟨aE a z2, dp.nfr (fr2 a (in_new z2))⟩)
     ·exact .inr (.inr z)) (fun _ h => by cases h)
   clear d fF nN X5 kp dp Xp Xc
   rename DS _ _ _ _ _ _ _ _ _ => d
   k_extra "L"
   all_goals (try dsimp only)
   rename Fr _ _ _ _ => FF
   rename News _ _ _ _ => NN
   exact hQ _ _ _ _ (d.move NN (by k_extra "K")) rfl (ge1 p1 m1 m2).1 (ge1 p1 m1 m2).2 (by show v.vals.length ≤ v1.vals.length ∧ v1.vals.length ≤ _; rw [p3]; exact ⟨Nat.le_refl _, Nat.le_succ _⟩) (fun b o e nb => FF.keep b o (hg b o e nb))
  ·k_extra "L"
   unfold Held
   k_extra "a"
   have Xc := d.cur nN (by k_extra "K")
   (with_unfolding_all refine' parts WD ?st ?hd ?hu ?_)
   case st => exact stays_of S1' fF
   case hd => k_extra "b"
   case hu => k_extra "b"
   k_whole
   intro B pt1 pt2 pt3 pn h' tk' kp gB nB
   refine xAAL (d.step (Ex := [B]) fF nN (by k_extra "K") hg (S := []) (fun b o _ e => kp b o e) (fun _ h => by cases h) (Xc.keeps kp) (fun _ h => by cases h) (fun a ha => .inl ha) (fun a ha => by rw [List.mem_singleton.mp ha]; exact ⟨.inr nB, _, gB⟩)) fun d1 N' F' => ?_
   clear d fF nN kp Xc
   rename DS _ _ _ _ _ _ _ _ _ => d
   have mB : B ∈ [B] ++ v1.at c ++ A1 := List.mem_append_left _ (List.mem_append_left _ (.head _))
   k_extra "L"
   unfold Held
   k_extra "a"
   have Xc := d.cur nN (by k_extra "K")
   (with_unfolding_all refine' next_L WD Xc ?st ?hd ?hu ?a1 ?a2 ?a3 ?a4 ?_)
   case st => exact stays_of S1' fF
   case hd => k_extra "b"
   case hu => k_extra "b"
   case a1 => first | exact b1.1 | exact Int.le_trans b1.2 (by decide) | exact b2.1 | exact Int.le_trans b2.2 (by decide) | omega
   case a2 => first | exact b1.1 | exact Int.le_trans b1.2 (by decide) | exact b2.1 | exact Int.le_trans b2.2 (by decide) | omega
   case a3 => exact rowN_pos _
   case a4 => exact rowN_le _
   k_whole
   intro r tw2 h' tk' r0 r1 kp X1
   refine bump c v1 fun v2 s1 s2 s5 s3 s4 up => ?_
   replace X1 := up _ _ _ X1
   clear up
   have b2 := bnS s1 b1
   refine xAAL (d.step (Ex := []) fF nN (by k_extra "K") hg kp (fun _ ha => sgH ha) X1 (fun _ ha => sgH ha) (fun a ha => .inl (s4 ▸ ha)) (fun _ h => by cases h)) fun d1 N' F' => ?_
   clear d fF nN X1 kp Xc
   rename DS _ _ _ _ _ _ _ _ _ => d
   k_extra "L"
   unfold Held
   k_extra "a"
   have Xc := d.cur nN (by k_extra "K")
   refine xEAAL (Xc.rc) fun kvs hA kr ar => ?_
   refine xEL (num_of Xc.okd nm (by rw [s5, ← p2]; exact hnm) _ _ kr) fun vv hval => ?_
   (with_unfolding_all refine' field_place WD ?st ?hd ?hu hA ?lo hval ?_)
   case st => exact stays_of S1' fF
   case hd => k_extra "b"
   case hu => k_extra "b"
   case lo => exact ne_sys K.sys (Xc.hb _ (Xc.sR_at _ (by first | k_mem | simp [LV.sR])))
   k_whole
   intro P pw h' tk' kp i2 nP
   have nfP := (d.move nN (by k_extra "K")).nfr nP
   have fP := Xc.fresh (stays_of S1' fF) nP
   refine xAAL (d.step (Ex := [P]) fF nN (by k_extra "K") hg (S := []) (fun b o _ e => kp b o e) (fun _ h => by cases h) (Xc.keeps kp) (fun _ h => by cases h) (fun a ha => .inl ha) (fun a ha => by rw [List.mem_singleton.mp ha]; exact ⟨.inr nP, let ⟨o, ho, _⟩ := i2; ⟨o, ho⟩⟩)) fun d1 N' F' => ?_
   clear d fF nN kp Xc hA
   rename DS _ _ _ _ _ _ _ _ _ => d
   k_extra "L"
   unfold Held
   k_extra "a"
   rename (∀ (p : Addr × Obj), p ∈ frO _ _ → p.1 < _) => l7
   have i2' := tupMove d nN (by k_extra "K") i2 (List.mem_append_left _ (List.mem_append_left _ (.head _)))
   have Xc := d.cur nN (by k_extra "K")
   (with_unfolding_all refine' names_append Xc ?_)
   intro h' e' kp
   refine xAAL (d.add fF nN (by k_extra "K") hg (.head _) l7) fun d2 N2 nT => ?_
   have i1 := (News.isTup nN (.head _))
   have gT := (nN _ (.head _)).2.2
   have nNLt : ∀ {tt : Addr} {xs : Array Value}, IsTup _ tt xs → tt ≠ c.NL := fun {tt xs} i q => by
    (refine xEAAL i fun o ho hc _ => ?_; try clear i)
    refine xEL (Xc.nm.1) fun n e => ?_
    rw [q, e] at ho
    cases ho
    simp [PySem.W.listOf] at hc
   have n1' := nNLt i1
   have n2' := nNLt i2'
   have X9 := Xc.name kp e' ⟨fun q => nT (d.at_ _ q), fresh_base S1' gT⟩ ⟨fP.1, fP.2⟩ (tupS i1 (by simpa using n1') (fun b o e nb => kp b o nb e)) (tupS i2' (by simpa using n2') (fun b o e nb => kp b o nb e)) (NIn.name hnm) (by rw [s3, p3]; exact hvl)
   obtain ⟨d3, N', F'⟩ := d2.step (Ex := []) fF N2 (by k_extra "K") hg kp (fun a ha => by rw [List.mem_singleton.mp ha]; exact .tail _ (.head _)) X9 (fun a ha => by rw [List.mem_singleton.mp ha]; exact .tail _ (.head _)) (fun a ha => by
    unfold LV.at at ha
    rcases List.mem_cons.mp ha with z | ha
    ·exact .inl (z ▸ .head _)
    rcases List.mem_cons.mp ha with z | ha
    ·exact .inl (z ▸ .tail _ (.head _))
    rcases List.mem_append.mp ha with ha | ha
    ·exact .inl (.tail _ (.tail _ (List.mem_append_left _ ha)))
    rcases List.mem_cons.mp ha with z | ha
    ·exact .inr (.inl ⟨z ▸ .head _, fun q => nT (d.fr_ _ (z ▸ q))⟩)
    rcases List.mem_cons.mp ha with z | ha
    ·exact .inr (.inl ⟨z ▸ .tail _ (List.mem_append_left _ (List.mem_append_left _ (.head _))), fun q => nfP (z ▸ q)⟩)
    exact .inl (.tail _ (.tail _ (List.mem_append_right _ ha)))) (fun _ h => by cases h)
   clear d d2 fF nN N2 Xc X9
   rename DS _ _ _ _ _ _ _ _ _ => d
   k_extra "L"
   all_goals (try dsimp only)
   rename Fr _ _ _ _ => FF
   rename News _ _ _ _ => NN
   exact hQ _ _ _ _ (d.move NN (by k_extra "K")) (by show v2.Dh = v2.D; rw [s2, s5]; exact p2) (ge2 p1 s1).1 (ge2 p1 s1).2 (by show v.vals.length ≤ (v2.vals ++ _).length ∧ (v2.vals ++ _).length ≤ _; rw [List.length_append, s3, p3]; exact ⟨Nat.le_add_right _ _, Nat.le_refl _⟩) (fun b o e nb => FF.keep b o (hg b o e nb))
  ·k_extra "L"
   unfold Held
   k_extra "a"
   have Xc := d.cur nN (by k_extra "K")
   (with_unfolding_all refine' next_L WD Xc ?st ?hd ?hu ?a1 ?a2 ?a3 ?a4 ?_)
   case st => exact stays_of S1' fF
   case hd => k_extra "b"
   case hu => k_extra "b"
   case a1 => first | exact b1.1 | exact Int.le_trans b1.2 (by decide) | exact b2.1 | exact Int.le_trans b2.2 (by decide) | omega
   case a2 => first | exact b1.1 | exact Int.le_trans b1.2 (by decide) | exact b2.1 | exact Int.le_trans b2.2 (by decide) | omega
   case a3 => (have q5 := Xc.nm.2.2; rw [p3] at q5 ⊢; omega)
   case a4 => (have q5 := Xc.nm.2.2; rw [p3] at q5 ⊢; omega)
   k_whole
   intro r tw2 h' tk' r0 r1 kp X1
   refine bump c v1 fun v2 s1 s2 s5 s3 s4 up => ?_
   replace X1 := up _ _ _ X1
   clear up
   have b2 := bnS s1 b1
   refine xAAL (d.step (Ex := []) fF nN (by k_extra "K") hg kp (fun _ ha => sgH ha) X1 (fun _ ha => sgH ha) (fun a ha => .inl (s4 ▸ ha)) (fun _ h => by cases h)) fun d1 N' F' => ?_
   clear d fF nN X1 kp Xc
   rename DS _ _ _ _ _ _ _ _ _ => d
   have r1 : r < (v2.vals.length : Int) := by rw [s3]; exact r1
   k_extra "L"
   unfold Held
   k_extra "a"
   (refine xEEEEEEAAAAAL (d.X.nm.2.1 x hx) fun tup pl name u1 u2 u3 z398x6 mt mp i1 i2 hm => ?_; subst z398x6)
   have aPl : pl ∈ v2.at c := .tail _ (.tail _ (List.mem_append_right _ mp))
   have i1c := tupMove d nN (by k_extra "K") i1 (d.at_ _ (.tail _ (.tail _ (List.mem_append_right _ mt))))
   have okd := d.X.okd
   have e2 : v2.Dh = v2.D := by rw [s2, s5]; exact p2
   clear i1
   k_extra "L"
   unfold Held
   k_extra "a"
   have Xc := d.cur nN (by k_extra "K")
   have i2c := tupMove d nN (by k_extra "K") i2 (d.at_ _ aPl)
   have stc := stays_of S1' fF
   refine xEAAL (Xc.rc) fun kvs hA kr ar => ?_
   have nFD := Xc.nFD
   have hlo := ne_sys K.sys nFD
   rcases name_case (D := v2.D) hm okd with w44 | w45 | hp
   ·(refine xEEL w44 fun vv ff hp => ?_; try clear w44)
    have hny := hp.ny
    (with_unfolding_all refine' drawn_nL WD Xc ?st ?hd ?hu ?a1 ?a2 hny ?_)
    case st => exact stays_of S1' fF
    case hd => k_extra "b"
    case hu => k_extra "b"
    case a1 => first | exact b1.1 | exact Int.le_trans b1.2 (by decide) | exact b2.1 | exact Int.le_trans b2.2 (by decide) | omega
    case a2 => first | exact b1.1 | exact Int.le_trans b1.2 (by decide) | exact b2.1 | exact Int.le_trans b2.2 (by decide) | omega
    k_whole
    intro x tx h' tk' x0 x1 kp X3
    refine bump c v2 fun v3 z1' z2'x z3' z4' z5' up => ?_
    replace X3 := up _ _ _ X3
    clear up
    have z2' : v3.Dh = v2.D := z2'x.trans e2
    refine xAAL (d.step (Ex := []) fF nN (by k_extra "K") hg kp (fun _ ha => sgH ha) X3 (fun _ ha => sgH ha) (fun a ha => .inl (z5' ▸ ha)) (fun _ h => by cases h)) fun d1 N' F' => ?_
    have aPl3 : pl ∈ v3.at c := z5' ▸ aPl
    have npl : pl ∉ [c.T] := fun q => Xc.sN _ mp (by rw [List.mem_singleton.mp q]; exact .head _)
    have i2 := tupS i2c npl (fun b o e nb => kp b o nb e)
    clear d fF nN X3 kp Xc hA ar nFD kr
    rename DS _ _ _ _ _ _ _ _ _ => d
    k_extra "L"
    unfold Held
    k_extra "a"
    have Xc := d.cur nN (by k_extra "K")
    have i2c := tupMove d nN (by k_extra "K") i2 (d.at_ _ aPl3)
    (with_unfolding_all refine' value_int WD ?st ?hd ?hu ?_)
    case st => exact stays_of S1' fF
    case hd => k_extra "b"
    case hu => k_extra "b"
    k_whole
    intro h' tk' kp
    have i2 := i2c.keeps kp
    refine xAAL (d.step (Ex := []) fF nN (by k_extra "K") hg (S := []) (fun b o _ e => kp b o e) (fun _ h => by cases h) (Xc.keeps kp) (fun _ h => by cases h) (fun a ha => .inl ha) (fun _ h => by cases h)) fun d1 N' F' => ?_
    clear d fF nN kp
    rename DS _ _ _ _ _ _ _ _ _ => d
    k_extra "L"
    unfold Held
    k_extra "a"
    have Xc := d.cur nN (by k_extra "K")
    have i2c := tupMove d nN (by k_extra "K") i2 (d.at_ _ aPl3)
    have stc := stays_of S1' fF
    refine xEAAL (Xc.rc) fun kvs hA kr ar => ?_
    have nFD := Xc.nFD
    have hlo := ne_sys K.sys nFD
    refine xEL (hp.rv _ _ (by rw [z3'] at kr; exact kr)) fun tv hval => ?_
    (with_unfolding_all refine' stored_int_L (D' := ff x) WD K Xc stc ?hd ?hu i2c hA kr ar hval x0 x1 (hp.ok x x0 x1) ?ds ?rs ?_)
    case hd => k_extra "b"
    case hu => k_extra "b"
    case ds => (rw [z3']; exact hp.ds x)
    case rs => (rw [z3'] at kr; exact hp.rs x _ _ _ kr)
    k_whole
    intro t9 h' tk' kp X4
    have ds3 : DSame v3.D (ff x) := by rw [z3']; exact hp.ds x
    refine xAAL (d.step (Ex := []) fF nN (by k_extra "K") hg kp (fun a ha => by rw [List.mem_singleton.mp ha]; exact Xc.sR_at _ (by first | k_mem | simp [LV.sR])) X4 (fun a ha => by rw [List.mem_singleton.mp ha]; exact X4.sR_at _ (by first | k_mem | simp [LV.sR])) (fun a ha => .inl (at_ds ds3 ha)) (fun _ h => by cases h)) fun d1 N' F' => ?_
    clear d fF nN X4 kp Xc hA ar nFD kr
    rename DS _ _ _ _ _ _ _ _ _ => d
    have hin : ∀ HY hk, HasKv HY v3.Dh hk → (valueAt hk name).isSome = true := fun HY hk kh => by
     rw [z2'] at kh
     refine xEL (hp.hv _ _ kh) fun t e => ?_
     rw [e]; rfl
    k_extra "L"
    unfold Held
    k_extra "a"
    have Xc := d.cur nN (by k_extra "K")
    (with_unfolding_all refine' has_set Xc ?_)
    intro hk h' oH' kh g' d' kp
    refine xEEEEAAAAAL (Xc.bk) fun _ _ _ _ _ _ _ _ _ hy0 => ?_
    have iH : v3.H ∈ v3.sB c := by simp [LV.sB]
    have kh2 : HasKv v3.HY v2.D hk := by have kh' : HasKv v3.HY v3.Dh hk := kh; rw [z2'] at kh'; exact kh'
    have hyk : HYat _ v3.HY (ff x) := (hp.ds x).hy _ _ (by have hy' : HYat _ v3.HY v3.Dh := hy0; rw [z2'] at hy'; exact hy')
    have ndB : (v3.sB c).Nodup := Xc.ndB
    have nHY : ∀ a ∈ bX (ff x) [v3.HY], a ∈ v3.sB c ∧ a ≠ c.O ∧ a ≠ v3.H := fun a ha => by
     rw [(hp.ds x).b, ← z2'] at ha
     have hin2 : a ∈ v3.sB c := by unfold LV.sB; exact List.mem_append_right _ ha
     unfold LV.sB at ndB
     have q := (List.nodup_append.mp ndB).2.2
     exact ⟨hin2, fun z => q c.O (by first | k_mem | simp) a ha z.symm, fun z => q v3.H (by first | k_mem | simp) a ha z.symm⟩
    have X5 := Xc.has (D' := ff x) (HY' := v3.HY) kp g' d' (hp.hs x _ _ _ kh2) (by show (ff x).d = v3.Dh.d; rw [z2']; exact (hp.ds x).d) (hyk.off kp (fun a ha q => (nHY a ha).2.2 (List.mem_singleton.mp q))) (hp.ok x x0 x1) (fun a ha => .inl (nHY a ha))
    obtain ⟨d1, N', F'⟩ := d.step (Ex := []) fF nN (by k_extra "K") hg kp (fun a ha => by rw [List.mem_singleton.mp ha]; exact .tail _ (.tail _ (List.mem_append_left _ (List.mem_append_left _ iH)))) X5 (fun a ha => by rw [List.mem_singleton.mp ha]; exact .tail _ (.tail _ (List.mem_append_left _ (List.mem_append_left _ (by simp [LV.sB]))))) (fun a ha => by
     unfold LV.at at ha
     rcases List.mem_cons.mp ha with z | ha
     ·exact .inl (z ▸ .head _)
     rcases List.mem_cons.mp ha with z | ha
     ·exact .inl (z ▸ .tail _ (.head _))
     rcases List.mem_append.mp ha with ha | ha
     ·rcases List.mem_append.mp ha with ha | ha
      ·unfold LV.sB at ha
       rcases List.mem_append.mp ha with ha | ha
       ·exact .inl (.tail _ (.tail _ (List.mem_append_left _ (List.mem_append_left _ (List.mem_append_left _ ha)))))
       ·exact .inl (.tail _ (.tail _ (List.mem_append_left _ (List.mem_append_left _ (nHY a ha).1))))
      ·exact .inl (.tail _ (.tail _ (List.mem_append_left _ (List.mem_append_right _ ha))))
     ·exact .inl (.tail _ (.tail _ (List.mem_append_right _ ha)))) (fun _ h => by cases h)
    clear d fF nN X5 kp Xc
    rename DS _ _ _ _ _ _ _ _ _ => d
    k_extra "L"
    all_goals (try dsimp only)
    rename Fr _ _ _ _ => FF
    rename News _ _ _ _ => NN
    try rw [show (Str.ofString "" == Str.ofString "") = true from by decide +kernel]
    exact hQ _ _ _ _ (d.move NN (by k_extra "K")) (rfl) (ge3 p1 s1 z1').1 (ge3 p1 s1 z1').2 (by show v.vals.length ≤ v3.vals.length ∧ v3.vals.length ≤ _; rw [z4', s3, p3]; exact ⟨Nat.le_refl _, Nat.le_succ _⟩) (fun b o e nb => FF.keep b o (hg b o e nb))
   ·(refine xEEEL w45 fun cc f1 z1 hp => ?_; try clear w45)
    have hyn := hp.y
    subst hyn
    (with_unfolding_all refine' drawn_yL WD Xc ?st ?hd ?hu ?a1 ?a2 ?_)
    case st => exact stays_of S1' fF
    case hd => k_extra "b"
    case hu => k_extra "b"
    case a1 => first | exact b1.1 | exact Int.le_trans b1.2 (by decide) | exact b2.1 | exact Int.le_trans b2.2 (by decide) | omega
    case a2 => first | exact b1.1 | exact Int.le_trans b1.2 (by decide) | exact b2.1 | exact Int.le_trans b2.2 (by decide) | omega
    k_whole
    intro x B bt1 bt2 bn h' tk' x0 x1 kp X3 gB nB
    refine bump c v2 fun v3 z1' z2'x z3' z4' z5' up => ?_
    replace X3 := up _ _ _ X3
    clear up
    have z2' : v3.Dh = v2.D := z2'x.trans e2
    have fB := Xc.fresh stc nB
    have fB3 : B ∉ v3.at c ∧ hB.get? B = none := by rw [z5']; exact fB
    have nfB := (d.move nN (by k_extra "K")).nfr nB
    refine xAAL (d.step (Ex := [B]) fF nN (by k_extra "K") hg kp (fun _ ha => sgH ha) X3 (fun _ ha => sgH ha) (fun a ha => .inl (z5' ▸ ha)) (fun a ha => by rw [List.mem_singleton.mp ha]; exact ⟨.inr nB, _, gB⟩)) fun d1 N' F' => ?_
    have aPl3 : pl ∈ v3.at c := z5' ▸ aPl
    have npl : pl ∉ [c.T] := fun q => Xc.sN _ mp (by rw [List.mem_singleton.mp q]; exact .head _)
    have i2 := tupS i2c npl (fun b o e nb => kp b o nb e)
    clear d fF nN X3 kp Xc hA ar nFD kr
    rename DS _ _ _ _ _ _ _ _ _ => d
    have mB : B ∈ [B] ++ v3.at c ++ ([] ++ v2.at c ++ A1) := List.mem_append_left _ (List.mem_append_left _ (.head _))
    k_extra "L"
    unfold Held
    k_extra "a"
    have Xc := d.cur nN (by k_extra "K")
    have i2c := tupMove d nN (by k_extra "K") i2 (d.at_ _ aPl3)
    have gBc := d.at' nN (by k_extra "K") _ mB _ gB
    (with_unfolding_all refine' value_lst WD ?st ?hd ?hu ⟨_, _, _, gBc⟩ ?_)
    case st => exact stays_of S1' fF
    case hd => k_extra "b"
    case hu => k_extra "b"
    k_whole
    intro Y2 YD2 YB2 YI2 tp2 yt1 yt2 h' tk' kp hY2 hT2 hnew hnd
    have i2 := i2c.keeps kp
    have gB := kp _ _ gBc
    have fY : ∀ a ∈ [Y2, YD2, YB2, YI2, tp2], a ∉ v3.at c ∧ hB.get? a = none := fun a ha => Xc.fresh (stays_of S1' fF) (hnew a ha)
    obtain ⟨d1, N', F'⟩ := d.step (Ex := [Y2, YD2, YB2, YI2, tp2]) fF nN (by k_extra "K") hg (S := []) (fun b o _ e => kp b o e) (fun _ h => by cases h) (Xc.keeps kp) (fun _ h => by cases h) (fun a ha => .inl ha) (fun a ha => ⟨.inr (hnew a ha), by
     simp only [List.mem_cons, List.not_mem_nil, or_false] at ha
     rcases ha with rfl | rfl | rfl | rfl | rfl
     ·exact ⟨_, hY2.o1⟩
     ·refine xEEEEEL (hY2.o2) fun _ _ _ _ _ q => ?_; exact ⟨_, q⟩
     ·refine xEL (hY2.o3) fun _ q => ?_; exact ⟨_, q⟩
     ·refine xEEEL (hY2.o4) fun _ _ _ q => ?_; exact ⟨_, q⟩
     ·(refine xEAL hT2 fun o q _ => ?_; try clear hT2); exact ⟨o, q⟩⟩)
    clear d fF nN kp Xc
    rename DS _ _ _ _ _ _ _ _ _ => d
    have mB2 := List.mem_append_right ([Y2, YD2, YB2, YI2, tp2] ++ v3.at c) mB
    have mY : ∀ a ∈ [Y2, YD2, YB2, YI2, tp2], a ∈ [Y2, YD2, YB2, YI2, tp2] ++ v3.at c ++ ([B] ++ v3.at c ++ ([] ++ v2.at c ++ A1)) := fun a ha => List.mem_append_left _ (List.mem_append_left _ ha)
    k_extra "L"
    unfold Held
    k_extra "a"
    have Xc := d.cur nN (by k_extra "K")
    have i2c := tupMove d nN (by k_extra "K") i2 (d.at_ _ aPl3)
    have stc := stays_of S1' fF
    refine xEAAL (Xc.rc) fun kvs hA kr ar => ?_
    have nFD := Xc.nFD
    have hlo := ne_sys K.sys nFD
    have hY2c : ArrAt _ Y2 YD2 YB2 YI2 tp2 x (x + 3) := hY2.sub (S := (List.range h'.objs.size).filter fun a => decide (a ∉ [Y2, YD2, YB2, YI2, tp2])) (fun a ha => moveN (by
     simp only [List.mem_cons, List.not_mem_nil, or_false] at ha ⊢
     rcases ha with rfl | rfl | rfl | rfl <;> simp)) (fun b o e nb => moveS (fun a ha o e => d.at' nN (by k_extra "K") a (mY a ha) o e) b o nb e)
    have hT2c := tupMove d nN (by k_extra "K") hT2 (mY tp2 (by first | k_mem | simp))
    have kr2 : RecKv v3.Y v2.D kvs := by rw [z3'] at kr; exact kr
    have hval := hp.rv _ _ kr2
    (with_unfolding_all refine' stored_arr_L WD K Xc stc ?hd ?hu i2c hA ar (by rw [z3']; exact hp.eD) hval x0 x1 (hp.rs x _ _ kr2) hY2c ⟨_, _, hT2c⟩ fY ?_)
    case hd => k_extra "b"
    case hu => k_extra "b"
    k_whole
    intro t9 h' tk' YB9 kp nYB X4
    have hD3 : v3.D = .b cc f1 z1 := by rw [z3']; exact hp.eD
    have sRe : v3.sR c = [c.R, c.RD, v3.FD, v3.Y, v3.YD, v3.YB, v3.YI, v3.tp] := by unfold LV.sR; rw [hD3]; rfl
    obtain ⟨d1, N', F'⟩ := d.step (Ex := []) fF nN (by k_extra "K") hg kp (fun a ha => Xc.sR_at _ (by
     rw [sRe]
     simp only [List.mem_cons, List.not_mem_nil, or_false] at ha ⊢
     rcases ha with rfl | rfl <;> simp)) X4 (fun a ha => X4.sR_at _ (by
     simp only [List.mem_cons, List.not_mem_nil, or_false] at ha
     rcases ha with rfl | rfl <;> simp [LV.sR, bX])) (fun a ha => by
     unfold LV.at at ha
     rcases List.mem_cons.mp ha with z | ha
     ·exact .inl (z ▸ .head _)
     rcases List.mem_cons.mp ha with z | ha
     ·exact .inl (z ▸ .tail _ (.head _))
     rcases List.mem_append.mp ha with ha | ha
     ·rcases List.mem_append.mp ha with ha | ha
      ·exact .inl (.tail _ (.tail _ (List.mem_append_left _ (List.mem_append_left _ ha))))
      ·have hx2 : a = YB9 ∨ a ∈ v3.sR c := by
        rw [sRe]
        simp only [LV.sR, bX, List.cons_append, List.nil_append, List.mem_cons, List.not_mem_nil, or_false] at ha ⊢
        rcases ha with h | h | h | h | h | h | h | h <;> simp [h]
       rcases hx2 with z | z
       ·exact .inr (.inr (by rw [z]; exact nYB))
       ·exact .inl (Xc.sR_at a z)
     ·exact .inl (.tail _ (.tail _ (List.mem_append_right _ ha)))) (fun _ h => by cases h)
    have kb : B ∉ [v3.YD, v3.YI] := fun q => fB3.1 (Xc.sR_at _ (by
     rw [sRe]
     simp only [List.mem_cons, List.not_mem_nil, or_false] at q ⊢
     rcases q with rfl | rfl <;> simp))
    have gB := kp _ _ kb (d.at' nN (by k_extra "K") _ mB2 _ gB)
    have mB3 := List.mem_append_right ([] ++ ({ v3 with D := .b cc x z1, YB := YB9 } : LV).at c) mB2
    have nB4 : B ∉ ({ v3 with D := .b cc x z1, YB := YB9 } : LV).at c := fun q => by
     unfold LV.at at q
     rcases List.mem_cons.mp q with z | q
     ·exact fB3.1 (z ▸ .head _)
     rcases List.mem_cons.mp q with z | q
     ·exact fB3.1 (z ▸ .tail _ (.head _))
     rcases List.mem_append.mp q with q | q
     ·rcases List.mem_append.mp q with q | q
      ·exact fB3.1 (.tail _ (.tail _ (List.mem_append_left _ (List.mem_append_left _ q))))
      ·have hx2 : B = YB9 ∨ B ∈ v3.sR c := by
        rw [sRe]
        simp only [LV.sR, bX, List.cons_append, List.nil_append, List.mem_cons, List.not_mem_nil, or_false] at q ⊢
        rcases q with h | h | h | h | h | h | h | h <;> simp [h]
       rcases hx2 with z | z
       ·have := d.at' nN (by k_extra "K") _ mB2 _ ‹_›
        rw [z, nYB] at this; cases this
       ·exact fB3.1 (Xc.sR_at _ z)
     ·exact fB3.1 (.tail _ (.tail _ (List.mem_append_right _ q)))
    clear d fF nN X4 kp Xc hA ar nFD kr kr2
    rename DS _ _ _ _ _ _ _ _ _ => d
    have hin : ∀ HY hk, HasKv HY v3.Dh hk → (valueAt hk (Str.ofString "y")).isSome = true := fun HY hk kh => by
     rw [z2'] at kh
     rw [hp.hv _ _ kh]; rfl
    k_extra "L"
    unfold Held
    k_extra "a"
    have Xc := d.cur nN (by k_extra "K")
    have gBc := d.at' nN (by k_extra "K") _ mB3 _ gB
    (with_unfolding_all refine' has_set Xc ?_)
    intro hk h' oH' kh g' d' kp
    have iH : v3.H ∈ v3.sB c := by simp [LV.sB]
    have kh2 : HasKv v3.HY v2.D hk := by have kh' : HasKv v3.HY v3.Dh hk := kh; rw [z2'] at kh'; exact kh'
    have nBH : B ≠ v3.H := fun q => fB3.1 (q ▸ .tail _ (.tail _ (List.mem_append_left _ (List.mem_append_left _ iH))))
    have X5 := Xc.has (D' := .b cc x z1) (HY' := B) kp g' d' (hp.hs x _ _ _ kh2) (by show (1 : Int) = v3.Dh.d; rw [z2', hp.eD]; rfl) ⟨_, _, _, kp _ _ (by simpa using nBH) gBc⟩ (by have ok3 := Xc.okd; exact ok3) (fun a ha => .inr (by rw [List.mem_singleton.mp ha]; exact ⟨nB4, fB.2⟩))
    obtain ⟨d1, N', F'⟩ := d.step (Ex := []) fF nN (by k_extra "K") hg kp (fun a ha => by rw [List.mem_singleton.mp ha]; exact .tail _ (.tail _ (List.mem_append_left _ (List.mem_append_left _ iH)))) X5 (fun a ha => by rw [List.mem_singleton.mp ha]; exact .tail _ (.tail _ (List.mem_append_left _ (List.mem_append_left _ (by simp [LV.sB]))))) (fun a ha => by
     unfold LV.at at ha
     rcases List.mem_cons.mp ha with z | ha
     ·exact .inl (z ▸ .head _)
     rcases List.mem_cons.mp ha with z | ha
     ·exact .inl (z ▸ .tail _ (.head _))
     rcases List.mem_append.mp ha with ha | ha
     ·rcases List.mem_append.mp ha with ha | ha
      ·unfold LV.sB at ha
       rcases List.mem_append.mp ha with ha | ha
       ·exact .inl (.tail _ (.tail _ (List.mem_append_left _ (List.mem_append_left _ (List.mem_append_left _ ha)))))
       ·exact .inr (.inl (by rw [List.mem_singleton.mp ha]; exact ⟨mB3, nfB⟩))
      ·exact .inl (.tail _ (.tail _ (List.mem_append_left _ (List.mem_append_right _ ha))))
     ·exact .inl (.tail _ (.tail _ (List.mem_append_right _ ha)))) (fun _ h => by cases h)
    clear d fF nN X5 kp Xc
    rename DS _ _ _ _ _ _ _ _ _ => d
    k_extra "L"
    all_goals (try dsimp only)
    rename Fr _ _ _ _ => FF
    rename News _ _ _ _ => NN
    try rw [show (Str.ofString "" == Str.ofString "") = true from by decide +kernel]
    exact hQ _ _ _ _ (d.move NN (by k_extra "K")) (rfl) (ge3 p1 s1 z1').1 (ge3 p1 s1 z1').2 (by show v.vals.length ≤ v3.vals.length ∧ v3.vals.length ≤ _; rw [z4', s3, p3]; exact ⟨Nat.le_refl _, Nat.le_succ _⟩) (fun b o e nb => FF.keep b o (hg b o e nb))
   ·by_cases hny : (name == Str.ofString "y") = false
    ·(with_unfolding_all refine' drawn_nL WD Xc ?st ?hd ?hu ?a1 ?a2 hny ?_)
     case st => exact stays_of S1' fF
     case hd => k_extra "b"
     case hu => k_extra "b"
     case a1 => first | exact b1.1 | exact Int.le_trans b1.2 (by decide) | exact b2.1 | exact Int.le_trans b2.2 (by decide) | omega
     case a2 => first | exact b1.1 | exact Int.le_trans b1.2 (by decide) | exact b2.1 | exact Int.le_trans b2.2 (by decide) | omega
     k_whole
     intro x tx h' tk' x0 x1 kp X3
     refine bump c v2 fun v3 z1' z2'x z3' z4' z5' up => ?_
     replace X3 := up _ _ _ X3
     clear up
     have z2' : v3.Dh = v2.D := z2'x.trans e2
     refine xAAL (d.step (Ex := []) fF nN (by k_extra "K") hg kp (fun _ ha => sgH ha) X3 (fun _ ha => sgH ha) (fun a ha => .inl (z5' ▸ ha)) (fun _ h => by cases h)) fun d1 N' F' => ?_
     have aPl3 : pl ∈ v3.at c := z5' ▸ aPl
     have npl : pl ∉ [c.T] := fun q => Xc.sN _ mp (by rw [List.mem_singleton.mp q]; exact .head _)
     have i2 := tupS i2c npl (fun b o e nb => kp b o nb e)
     clear d fF nN X3 kp Xc hA ar nFD kr
     rename DS _ _ _ _ _ _ _ _ _ => d
     k_extra "L"
     unfold Held
     k_extra "a"
     have Xc := d.cur nN (by k_extra "K")
     have i2c := tupMove d nN (by k_extra "K") i2 (d.at_ _ aPl3)
     (with_unfolding_all refine' value_int WD ?st ?hd ?hu ?_)
     case st => exact stays_of S1' fF
     case hd => k_extra "b"
     case hu => k_extra "b"
     k_whole
     intro h' tk' kp
     have i2 := i2c.keeps kp
     refine xAAL (d.step (Ex := []) fF nN (by k_extra "K") hg (S := []) (fun b o _ e => kp b o e) (fun _ h => by cases h) (Xc.keeps kp) (fun _ h => by cases h) (fun a ha => .inl ha) (fun _ h => by cases h)) fun d1 N' F' => ?_
     clear d fF nN kp
     rename DS _ _ _ _ _ _ _ _ _ => d
     k_extra "L"
     unfold Held
     k_extra "a"
     have Xc := d.cur nN (by k_extra "K")
     have i2c := tupMove d nN (by k_extra "K") i2 (d.at_ _ aPl3)
     have stc := stays_of S1' fF
     refine xEAAL (Xc.rc) fun kvs hA kr ar => ?_
     have nFD := Xc.nFD
     have hlo := ne_sys K.sys nFD
     have hval := hp.rv _ _ (by rw [z3'] at kr; exact kr)
     (with_unfolding_all refine' stored_goneI_L WD K stc ?hd ?hu (d.ff fF nN (by k_extra "K") hF S1') i2c hA nFD hval x0 x1 ?_)
     case hd => k_extra "b"
     case hu => k_extra "b"
     k_whole
     intro t9 h' tk' ku
     refine xAAL (d.stepR fF nN (by k_extra "K") ku) fun d1 N' F' => ?_
     clear d fF nN ku Xc hA ar nFD kr
     rename DS _ _ _ _ _ _ _ _ _ => d
     have hin : ∀ HY hk, HasKv HY v3.Dh hk → (valueAt hk name).isSome = false := fun HY hk kh => by
      rw [z2'] at kh
      rw [hp.hv _ _ kh]; rfl
     k_extra "L"
     all_goals (try dsimp only)
     rename Fr _ _ _ _ => FF
     rename News _ _ _ _ => NN
     try rw [show (Str.ofString "program_error" == Str.ofString "program_error") = true from by decide +kernel]
     exact hQ _ _ _ _ (d.move NN (by k_extra "K")) (by rw [z2', z3']) (ge3 p1 s1 z1').1 (ge3 p1 s1 z1').2 (by show v.vals.length ≤ v3.vals.length ∧ v3.vals.length ≤ _; rw [z4', s3, p3]; exact ⟨Nat.le_refl _, Nat.le_succ _⟩) (fun b o e nb => FF.keep b o (hg b o e nb))
    ·have hyn : name = Str.ofString "y" := by simpa using hny
     subst hyn
     (with_unfolding_all refine' drawn_yL WD Xc ?st ?hd ?hu ?a1 ?a2 ?_)
     case st => exact stays_of S1' fF
     case hd => k_extra "b"
     case hu => k_extra "b"
     case a1 => first | exact b1.1 | exact Int.le_trans b1.2 (by decide) | exact b2.1 | exact Int.le_trans b2.2 (by decide) | omega
     case a2 => first | exact b1.1 | exact Int.le_trans b1.2 (by decide) | exact b2.1 | exact Int.le_trans b2.2 (by decide) | omega
     k_whole
     intro x B bt1 bt2 bn h' tk' x0 x1 kp X3 gB nB
     refine bump c v2 fun v3 z1' z2'x z3' z4' z5' up => ?_
     replace X3 := up _ _ _ X3
     clear up
     have z2' : v3.Dh = v2.D := z2'x.trans e2
     have fB := Xc.fresh stc nB
     have fB3 : B ∉ v3.at c ∧ hB.get? B = none := by rw [z5']; exact fB
     have nfB := (d.move nN (by k_extra "K")).nfr nB
     refine xAAL (d.step (Ex := [B]) fF nN (by k_extra "K") hg kp (fun _ ha => sgH ha) X3 (fun _ ha => sgH ha) (fun a ha => .inl (z5' ▸ ha)) (fun a ha => by rw [List.mem_singleton.mp ha]; exact ⟨.inr nB, _, gB⟩)) fun d1 N' F' => ?_
     have aPl3 : pl ∈ v3.at c := z5' ▸ aPl
     have npl : pl ∉ [c.T] := fun q => Xc.sN _ mp (by rw [List.mem_singleton.mp q]; exact .head _)
     have i2 := tupS i2c npl (fun b o e nb => kp b o nb e)
     clear d fF nN X3 kp Xc hA ar nFD kr
     rename DS _ _ _ _ _ _ _ _ _ => d
     have mB : B ∈ [B] ++ v3.at c ++ ([] ++ v2.at c ++ A1) := List.mem_append_left _ (List.mem_append_left _ (.head _))
     k_extra "L"
     unfold Held
     k_extra "a"
     have Xc := d.cur nN (by k_extra "K")
     have i2c := tupMove d nN (by k_extra "K") i2 (d.at_ _ aPl3)
     have gBc := d.at' nN (by k_extra "K") _ mB _ gB
     (with_unfolding_all refine' value_lst WD ?st ?hd ?hu ⟨_, _, _, gBc⟩ ?_)
     case st => exact stays_of S1' fF
     case hd => k_extra "b"
     case hu => k_extra "b"
     k_whole
     intro Y2 YD2 YB2 YI2 tp2 yt1 yt2 h' tk' kp hY2 hT2 hnew hnd
     have i2 := i2c.keeps kp
     have gB := kp _ _ gBc
     have fY : ∀ a ∈ [Y2, YD2, YB2, YI2, tp2], a ∉ v3.at c ∧ hB.get? a = none := fun a ha => Xc.fresh (stays_of S1' fF) (hnew a ha)
     obtain ⟨d1, N', F'⟩ := d.step (Ex := [Y2, YD2, YB2, YI2, tp2]) fF nN (by k_extra "K") hg (S := []) (fun b o _ e => kp b o e) (fun _ h => by cases h) (Xc.keeps kp) (fun _ h => by cases h) (fun a ha => .inl ha) (fun a ha => ⟨.inr (hnew a ha), by
      simp only [List.mem_cons, List.not_mem_nil, or_false] at ha
      rcases ha with rfl | rfl | rfl | rfl | rfl
      ·exact ⟨_, hY2.o1⟩
      ·refine xEEEEEL (hY2.o2) fun _ _ _ _ _ q => ?_; exact ⟨_, q⟩
      ·refine xEL (hY2.o3) fun _ q => ?_; exact ⟨_, q⟩
      ·refine xEEEL (hY2.o4) fun _ _ _ q => ?_; exact ⟨_, q⟩
      ·(refine xEAL hT2 fun o q _ => ?_; try clear hT2); exact ⟨o, q⟩⟩)
     clear d fF nN kp Xc
     rename DS _ _ _ _ _ _ _ _ _ => d
     have mB2 := List.mem_append_right ([Y2, YD2, YB2, YI2, tp2] ++ v3.at c) mB
     have mY : ∀ a ∈ [Y2, YD2, YB2, YI2, tp2], a ∈ [Y2, YD2, YB2, YI2, tp2] ++ v3.at c ++ ([B] ++ v3.at c ++ ([] ++ v2.at c ++ A1)) := fun a ha => List.mem_append_left _ (List.mem_append_left _ ha)
     k_extra "L"
     unfold Held
     k_extra "a"
     have Xc := d.cur nN (by k_extra "K")
     have i2c := tupMove d nN (by k_extra "K") i2 (d.at_ _ aPl3)
     have stc := stays_of S1' fF
     refine xEAAL (Xc.rc) fun kvs hA kr ar => ?_
     have nFD := Xc.nFD
     have hlo := ne_sys K.sys nFD
     have hY2c : ArrAt _ Y2 YD2 YB2 YI2 tp2 x (x + 3) := hY2.sub (S := (List.range h'.objs.size).filter fun a => decide (a ∉ [Y2, YD2, YB2, YI2, tp2])) (fun a ha => moveN (by
      simp only [List.mem_cons, List.not_mem_nil, or_false] at ha ⊢
      rcases ha with rfl | rfl | rfl | rfl <;> simp)) (fun b o e nb => moveS (fun a ha o e => d.at' nN (by k_extra "K") a (mY a ha) o e) b o nb e)
     have hT2c := tupMove d nN (by k_extra "K") hT2 (mY tp2 (by first | k_mem | simp))
     have hval := hp.rv _ _ (by rw [z3'] at kr; exact kr)
     refine xEEEEEL (hY2c.o2) fun _ _ _ _ _ qYD => ?_
     (with_unfolding_all refine' stored_goneA_L WD K stc ?hd ?hu (d.ff fF nN (by k_extra "K") hF S1') i2c hA nFD hval hY2c.o1 qYD ?_)
     case hd => k_extra "b"
     case hu => k_extra "b"
     k_whole
     intro t9 h' tk' ku
     refine xAAL (d.stepR fF nN (by k_extra "K") ku) fun d1 N' F' => ?_
     clear d fF nN ku Xc hA ar nFD kr
     rename DS _ _ _ _ _ _ _ _ _ => d
     have hin : ∀ HY hk, HasKv HY v3.Dh hk → (valueAt hk (Str.ofString "y")).isSome = false := fun HY hk kh => by
      rw [z2'] at kh
      rw [hp.hv _ _ kh]; rfl
     k_extra "L"
     all_goals (try dsimp only)
     rename Fr _ _ _ _ => FF
     rename News _ _ _ _ => NN
     try rw [show (Str.ofString "program_error" == Str.ofString "program_error") = true from by decide +kernel]
     exact hQ _ _ _ _ (d.move NN (by k_extra "K")) (by rw [z2', z3']) (ge3 p1 s1 z1').1 (ge3 p1 s1 z1').2 (by show v.vals.length ≤ v3.vals.length ∧ v3.vals.length ≤ _; rw [z4', s3, p3]; exact ⟨Nat.le_refl _, Nat.le_succ _⟩) (fun b o e nb => FF.keep b o (hg b o e nb))
  ·k_extra "L"
   unfold Held
   k_extra "a"
   have Xc := d.cur nN (by k_extra "K")
   (with_unfolding_all refine' next_L WD Xc ?st ?hd ?hu ?a1 ?a2 ?a3 ?a4 ?_)
   case st => exact stays_of S1' fF
   case hd => k_extra "b"
   case hu => k_extra "b"
   case a1 => first | exact b1.1 | exact Int.le_trans b1.2 (by decide) | exact b2.1 | exact Int.le_trans b2.2 (by decide) | omega
   case a2 => first | exact b1.1 | exact Int.le_trans b1.2 (by decide) | exact b2.1 | exact Int.le_trans b2.2 (by decide) | omega
   case a3 => (have q5 := Xc.nm.2.2; rw [p3] at q5 ⊢; omega)
   case a4 => (have q5 := Xc.nm.2.2; rw [p3] at q5 ⊢; omega)
   k_whole
   intro r tw2 h' tk' r0 r1 kp X1
   refine bump c v1 fun v2 s1 s2 s5 s3 s4 up => ?_
   replace X1 := up _ _ _ X1
   clear up
   have b2 := bnS s1 b1
   refine xAAL (d.step (Ex := []) fF nN (by k_extra "K") hg kp (fun _ ha => sgH ha) X1 (fun _ ha => sgH ha) (fun a ha => .inl (s4 ▸ ha)) (fun _ h => by cases h)) fun d1 N' F' => ?_
   clear d fF nN X1 kp Xc
   rename DS _ _ _ _ _ _ _ _ _ => d
   have r1 : r < (v2.vals.length : Int) := by rw [s3]; exact r1
   k_extra "L"
   unfold Held
   k_extra "a"
   (refine xEEEEEEAAAAAL (d.X.nm.2.1 x hx) fun tup pl name u1 u2 u3 z426x6 mt mp i1 i2 hm => ?_; subst z426x6)
   have aPl : pl ∈ v2.at c := .tail _ (.tail _ (List.mem_append_right _ mp))
   have i1c := tupMove d nN (by k_extra "K") i1 (d.at_ _ (.tail _ (.tail _ (List.mem_append_right _ mt))))
   have okd := d.X.okd
   have e2 : v2.Dh = v2.D := by rw [s2, s5]; exact p2
   clear i1
   k_extra "L"
   unfold Held
   k_extra "a"
   have Xc := d.cur nN (by k_extra "K")
   have i2c := tupMove d nN (by k_extra "K") i2 (d.at_ _ aPl)
   have stc := stays_of S1' fF
   refine xEAAL (Xc.rc) fun kvs hA kr ar => ?_
   have nFD := Xc.nFD
   have hlo := ne_sys K.sys nFD
   rcases name_case (D := v2.D) hm okd with w46 | w47 | hp
   ·(refine xEEL w46 fun vv ff hp => ?_; try clear w46)
    refine xEL (hp.rv _ _ kr) fun tv hval => ?_
    (with_unfolding_all refine' lread_int WD ?st ?hd ?hu i2c hA hlo hval ?_)
    case st => exact stays_of S1' fF
    case hd => k_extra "b"
    case hu => k_extra "b"
    k_whole
    intro h' tk' kp
    refine xAAL (d.step (Ex := []) fF nN (by k_extra "K") hg (S := []) (fun b o _ e => kp b o e) (fun _ h => by cases h) (Xc.keeps kp) (fun _ h => by cases h) (fun a ha => .inl ha) (fun _ h => by cases h)) fun d1 N' F' => ?_
    clear d fF nN kp
    rename DS _ _ _ _ _ _ _ _ _ => d
    k_extra "L"
    unfold Held
    k_extra "a"
    (with_unfolding_all refine' has_get (d.cur nN ?hl) K.sys (P := fun x => ∃ t, x = some (.int vv t)) (fun hk kh => hp.hv _ _ (by rw [e2] at kh; exact kh)) ?_)
    case hl => k_extra "K"
    k_whole
    intro _ w48
    (refine xEL w48 fun t9 z123x1 => ?_; try clear w48; subst z123x1)
    dsimp only [Option.getD]
    k_extra "L"
    all_goals (try dsimp only)
    rename Fr _ _ _ _ => FF
    rename News _ _ _ _ => NN
    rw [beq_self_eq_true]
    exact hQ _ _ _ _ (d.move NN (by k_extra "K")) (e2) (ge2 p1 s1).1 (ge2 p1 s1).2 (by show v.vals.length ≤ v2.vals.length ∧ v2.vals.length ≤ _; rw [s3, p3]; exact ⟨Nat.le_refl _, Nat.le_succ _⟩) (fun b o e nb => FF.keep b o (hg b o e nb))
   ·(refine xEEEL w47 fun cc f1 z1 hp => ?_; try clear w47)
    have hval := hp.rv _ _ kr
    have ar2 := ar
    rw [hp.eD] at ar2
    (refine xAL ar2 fun hYo _ => ?_; try clear ar2)
    (with_unfolding_all refine' lread_arr WD ?st ?hd ?hu i2c hA hlo hval hYo ?_)
    case st => exact stays_of S1' fF
    case hd => k_extra "b"
    case hu => k_extra "b"
    k_whole
    intro h' tk' kp
    refine xAAL (d.step (Ex := []) fF nN (by k_extra "K") hg (S := []) (fun b o _ e => kp b o e) (fun _ h => by cases h) (Xc.keeps kp) (fun _ h => by cases h) (fun a ha => .inl ha) (fun _ h => by cases h)) fun d1 N' F' => ?_
    clear d fF nN kp
    rename DS _ _ _ _ _ _ _ _ _ => d
    k_extra "L"
    unfold Held
    k_extra "a"
    (with_unfolding_all refine' has_get (d.cur nN ?hl) K.sys (P := fun x => x = some (.ref v2.HY)) (fun hk kh => hp.hv _ _ (by rw [e2] at kh; exact kh)) ?_)
    case hl => k_extra "K"
    k_whole
    rintro _ rfl
    dsimp only [Option.getD]
    k_extra "L"
    unfold Held
    k_extra "a"
    have Xd := d.cur nN (by k_extra "K")
    refine xEAAL (Xd.rc) fun _ _ _ ar3 => ?_
    rw [hp.eD] at ar3
    refine xEEEL (ar3.1.o4) fun nq tq3 tq4 gq => ?_
    refine xEEEEAAAAAL (Xd.bk) fun _ _ _ _ _ _ _ _ _ hyq => ?_
    rw [e2, hp.eD] at hyq
    (refine xEEEL hyq fun ts3 ts4 nsq gs4 => ?_; try clear hyq)
    (with_unfolding_all refine' ke_eq_ints (xs := [_, _]) (ys := [_, _]) ⟨_, gq, rfl, _, rfl⟩ ⟨_, gs4, rfl, _, rfl⟩ (.cons _ _ (.cons _ _ .nil)) (.cons _ _ (.cons _ _ .nil)) ?hu9 ?_)
    case hu9 => (show _ + 64 < 9900; (try dsimp only [Around.deeper]); first | exact ol1 (by assumption) rfl | exact ol2 (by assumption) rfl | omega)
    k_extra "L"
    all_goals (try dsimp only)
    rename Fr _ _ _ _ => FF
    rename News _ _ _ _ => NN
    rw [decide_eq_true rfl]
    exact hQ _ _ _ _ (d.move NN (by k_extra "K")) (e2) (ge2 p1 s1).1 (ge2 p1 s1).2 (by show v.vals.length ≤ v2.vals.length ∧ v2.vals.length ≤ _; rw [s3, p3]; exact ⟨Nat.le_refl _, Nat.le_succ _⟩) (fun b o e nb => FF.keep b o (hg b o e nb))
   ·have hval := hp.rv _ _ kr
    (with_unfolding_all refine' lread_gone_L WD K stc ?hd ?hu (d.ff fF nN (by k_extra "K") hF S1') i2c hA nFD hval ?_)
    case hd => k_extra "b"
    case hu => k_extra "b"
    k_whole
    intro t9 h' tk' ku
    refine xAAL (d.stepR fF nN (by k_extra "K") ku) fun d1 N' F' => ?_
    clear d fF nN ku Xc hA
    rename DS _ _ _ _ _ _ _ _ _ => d
    k_extra "L"
    unfold Held
    k_extra "a"
    (with_unfolding_all refine' has_get (d.cur nN ?hl) K.sys (P := fun x => x = none) (fun hk kh => hp.hv _ _ (by rw [e2] at kh; exact kh)) ?_)
    case hl => k_extra "K"
    k_whole
    rintro _ rfl
    dsimp only [Option.getD]
    k_extra "L"
    all_goals (try dsimp only)
    rename Fr _ _ _ _ => FF
    rename News _ _ _ _ => NN
    try rw [show (Str.ofString "program_error" == Str.ofString "program_error") = true from by decide +kernel]
    exact hQ _ _ _ _ (d.move NN (by k_extra "K")) (e2) (ge2 p1 s1).1 (ge2 p1 s1).2 (by show v.vals.length ≤ v2.vals.length ∧ v2.vals.length ≤ _; rw [s3, p3]; exact ⟨Nat.le_refl _, Nat.le_succ _⟩) (fun b o e nb => FF.keep b o (hg b o e nb))
end
section
section
def rep (k : Str) (v : Value) : List DictEntry → List DictEntry
 | [] => []
 | e :: r => if e.key.isStr k then ⟨e.hash, e.key, v⟩ :: r else e :: rep k v r
theorem rep_length (k : Str) (v : Value) : ∀ es : List DictEntry, (rep k v es).length = es.length
 | [] => rfl
 | e :: r => by
  unfold rep; split
  ·rfl
  ·simp [rep_length k v r]
theorem isStr_inj {v : Value} {j k : Str} (h : v.isStr j = true) (h' : v.isStr k = true) : j = k := by
 cases v <;> simp [Value.isStr] at h h'
 rw [← h, ← h']
theorem rep_refKey (k : Str) (v : Value) : ∀ es : List DictEntry, (rep k v es).any (·.refKey) = es.any (·.refKey)
 | [] => rfl
 | e :: r => by
  unfold rep; split
  ·rfl
  ·simp [rep_refKey k v r]
theorem rep_find_ne {j k : Str} (v : Value) (ne : (j == k) = false) : ∀ es : List DictEntry, (rep k v es).find? (·.key.isStr j) = es.find? (·.key.isStr j)
 | [] => rfl
 | e :: r => by
  unfold rep; split
  ·rename_i h
   have hj : e.key.isStr j = false := by
    cases q : e.key.isStr j with
    | false => rfl
    | true => rw [isStr_inj q h] at ne; simp at ne
   simp [hj]
  ·cases q : e.key.isStr j <;> simp [q, rep_find_ne v ne r]
theorem getL_rep_ne {j k : Str} (v : Value) (ne : (j == k) = false) (es : List DictEntry) : getL j (rep k v es) = getL j es := by
 unfold getL; rw [rep_find_ne v ne, rep_refKey]
theorem getL_rep {k : Str} (v : Value) : ∀ {es : List DictEntry}, (∃ x, getL k es = some (some x)) → getL k (rep k v es) = some (some v)
 | [], ⟨x, h⟩ => by simp [getL] at h
 | e :: r, ⟨x, h⟩ => by
  unfold rep; split
  ·rename_i q; simp [getL, q]
  ·rename_i q
   have q' : e.key.isStr k = false := by simpa using q
   have : ∃ x, getL k r = some (some x) := by
    unfold getL at h ⊢
    simp only [List.find?_cons, q'] at h
    cases g : r.find? (·.key.isStr k) with
    | none => rw [g] at h; simp at h
    | some y => exact ⟨y.val, rfl⟩
   have ih := getL_rep v this
   unfold getL at ih ⊢
   simp only [List.find?_cons, q']
   cases g : (rep k v r).find? (·.key.isStr k) with
   | none => rw [g] at ih; simp at ih
   | some y => rw [g] at ih; simpa using ih
theorem putL_rep {k : Str} (hsh : Int) (key v : Value) : ∀ {es : List DictEntry}, (∃ x, getL k es = some (some x)) → putL k hsh key v es = rep k v es
 | [], ⟨x, h⟩ => by simp [getL] at h
 | e :: r, ⟨x, h⟩ => by
  unfold rep putL; split
  ·rfl
  ·rename_i q
   have q' : e.key.isStr k = false := by simpa using q
   have : ∃ x, getL k r = some (some x) := by
    unfold getL at h ⊢
    simp only [List.find?_cons, q'] at h
    cases g : r.find? (·.key.isStr k) with
    | none => rw [g] at h; simp at h
    | some y => exact ⟨y.val, rfl⟩
   rw [putL_rep hsh key v this]
theorem getL_any {k : Str} {es : List DictEntry} (h : ∃ x, getL k es = some (some x)) : es.any (·.key.isStr k) = true := by
 (refine xEL h fun x h => ?_)
 unfold getL at h
 cases g : es.find? (·.key.isStr k) with
 | none => rw [g] at h; simp at h
 | some y => exact List.any_eq_true.mpr ⟨y, List.mem_of_find?_eq_some g, by simpa using List.find?_some g⟩
def typeNames : List Str := ["number", "low", "high", "index", "component", "is_constrained", "discriminants", "components", "variant"].map Str.ofString
structure Ty (es : List DictEntry) : Prop where
 len : es.length ≤ 100
 has : ∀ k ∈ typeNames, ∃ x, getL k es = some (some x)
theorem Ty.rep {k : Str} {v : Value} {es : List DictEntry} (t : Ty es) : Ty (rep k v es) :=
 ⟨by rw [rep_length]; exact t.len, fun j hj => by
  cases q : (j == k) with
  | false => rw [getL_rep_ne v q]; exact t.has j hj
  | true => (have : j = k := by simpa using q); subst this; exact ⟨v, getL_rep v (t.has j hj)⟩⟩
end
section
variable {w : World} {A : Around} {E : Value → Shared → Prop} {s : Shared} {K : Frag} {x C dx L : Addr} {h₀ : Heap} {m : Str → Option Value} {news news' : List (Addr × Obj)} {ox : Obj} {es : List DictEntry} {n : Nat} {k : Str} {v : Value}
theorem setA {Q : Unit → Shared → Prop} (F : Fr h₀ L s.heap m) (X₀ : K.In h₀) (N : News h₀ L s.heap news) (I : InstAt s.heap x ox C (some (dictOf es n))) (hd : ox.dict = some dx)
  (hs : findIn K (.ref C) "__setattr__" = some (some (.builtin "object.__setattr__"))) (hp : plainOver K C = true) (ht : takerIn K C k = some none) (hh : hasDictIn K C = true) (T : Ty es) (hk : k ∈ typeNames)
  (U : Upd dx (dictOf es n) (dictOf (rep k v es) n) news news')
  (h : ∀ h', Fr h₀ L h' m → News h₀ L h' news' → Q () { s with heap := h', toks := s.toks + 2 }) : wpAny (model prog0 w) A (setAttr (.ref x) k v) Q E s := by
 have hx := T.has k hk
 refine set_dict F X₀ N I hd hs hp ht hh ?_ ?_ U ?_ h
 ·(refine xEL hx fun y hy => ?_; try clear hx); rw [hy]; rfl
 ·rw [putL_rep _ _ _ hx]; unfold putN; rw [getL_any hx]; rfl
 ·rw [rep_length]; have := T.len; omega
end
section
theorem putL_app {k : Str} (hsh : Int) (key v : Value) : ∀ {es : List DictEntry}, es.any (·.key.isStr k) = false → putL k hsh key v es = es ++ [⟨hsh, key, v⟩]
 | [], _ => rfl
 | e :: r, h => by
  simp only [List.any_cons, Bool.or_eq_false_iff] at h
  unfold putL; rw [h.1, putL_app hsh key v h.2]; rfl
theorem getL_app {j : Str} {es : List DictEntry} {y : Value} (r : List DictEntry) (h : getL j es = some (some y)) : getL j (es ++ r) = some (some y) := by
 unfold getL at h ⊢
 rw [List.find?_append]
 cases q : es.find? (·.key.isStr j) with
 | some e => rw [q] at h; exact h
 | none => rw [q] at h; dsimp only at h; split at h <;> cases h
theorem getL_new {j : Str} {es : List DictEntry} {hsh : Int} {key v : Value} (h : es.any (·.key.isStr j) = false) (hk : key.isStr j = true) : getL j (es ++ [⟨hsh, key, v⟩]) = some (some v) := by
 have : es.find? (·.key.isStr j) = none := List.find?_eq_none.mpr fun x hx hy => by
  have : es.any (·.key.isStr j) = true := List.any_eq_true.mpr ⟨x, hx, hy⟩
  rw [h] at this; cases this
 unfold getL
 rw [List.find?_append, this, Option.none_or, List.find?_cons, hk]
abbrev kK : Str := Str.ofString "kind"
abbrev kT : Str := Str.ofString "is_tagged"
structure Ks (ks : List Str) (kd : Value) (es : List DictEntry) : Prop where
 len : es.length = ks.length
 ref : es.any (·.refKey) = false
 has : ∀ j, es.any (·.key.isStr j) = ks.contains j
 kd : ks.contains kK = true → getL kK es = some (some kd)
 tg : ks.contains kT = true → getL kT es = some (some (.bool false))
theorem Ks.get {ks : List Str} {kd : Value} {es : List DictEntry} (T : Ks ks kd es) (j : Str) (h : ks.contains j = true) : ∃ x, getL j es = some (some x) := by
 unfold getL
 rw [← T.has j] at h
 cases q : es.find? (·.key.isStr j) with
 | some e => exact ⟨_, rfl⟩
 | none =>
  refine xEAL (List.any_eq_true.mp h) fun x hx hy => ?_
  exact absurd hy (List.find?_eq_none.mp q x hx)
theorem Ks.put {ks : List Str} {kd : Value} {es : List DictEntry} {k : Str} {hsh : Int} {t : Tok} {v : Value} (T : Ks ks kd es) (hk : ks.contains k = false) (h1 : (kK == k) = true → v = kd) (h2 : (kT == k) = true → v = .bool false) :
  Ks (k :: ks) kd (es ++ [⟨hsh, .str k t, v⟩]) := by
 have hn := (T.has k).trans hk
 refine ⟨by rw [List.length_append, T.len]; rfl, ?_, fun j => ?_, fun h => ?_, fun h => ?_⟩
 ·rw [List.any_append, T.ref]; rfl
 ·rw [List.any_append, T.has j, List.contains_cons, List.any_cons, List.any_nil, Bool.or_false, Bool.or_comm]
  congr 1
  show (k == j) = (j == k)
  cases q : (k == j) with
  | true => rw [show k = j by simpa using q]; simp
  | false =>
   cases q' : (j == k) with
   | true => rw [show j = k by simpa using q'] at q; simp at q
   | false => rfl
 ·rw [List.contains_cons] at h
  cases q : (kK == k) with
  | true =>
   have e : kK = k := by simpa using q
   rw [e, h1 q]; exact getL_new hn (by simp [Value.isStr])
  | false => rw [q, Bool.false_or] at h; exact getL_app _ (T.kd h)
 ·rw [List.contains_cons] at h
  cases q : (kT == k) with
  | true =>
   have e : kT = k := by simpa using q
   rw [e, h2 q]; exact getL_new hn (by simp [Value.isStr])
  | false => rw [q, Bool.false_or] at h; exact getL_app _ (T.tg h)
end
section
variable {w : World} {A : Around} {E : Value → Shared → Prop} {s : Shared} {K : Frag} {x C dx L : Addr} {h₀ : Heap} {m : Str → Option Value} {news : List (Addr × Obj)} {g : Obj → List (Addr × Obj)} {ox : Obj} {es : List DictEntry} {n : Nat} {k : Str} {v kd : Value} {ks : List Str}
theorem updF {d : Addr} {o : Obj} {l : List (Addr × Obj)} {g : Obj → List (Addr × Obj)} (u : UpdF d o l g) (o' : Obj) : Upd d o o' l (g o') := by
 induction u with
 | head h => exact .head h
 | tail h _ ih => exact .tail h ih
theorem setT {Q : Unit → Shared → Prop} (F : Fr h₀ L s.heap m) (X₀ : K.In h₀) (N : News h₀ L s.heap news) (I : InstAt s.heap x ox C (some (dictOf es n))) (hd : ox.dict = some dx)
  (hs : findIn K (.ref C) "__setattr__" = some (some (.builtin "object.__setattr__"))) (hp : plainOver K C = true) (ht : takerIn K C k = some none) (hh : hasDictIn K C = true) (T : Ks ks kd es) (hk : ks.contains k = false)
  (hz : ks.length ≤ 100) (h1 : (kK == k) = true → v = kd) (h2 : (kT == k) = true → v = .bool false) (U : UpdF dx (dictOf es n) news g)
  (h : ∀ h' es' n', Ks (k :: ks) kd es' → Fr h₀ L h' m → News h₀ L h' (g (dictOf es' n')) → Q () { s with heap := h', toks := s.toks + 2 }) : wpAny (model prog0 w) A (setAttr (.ref x) k v) Q E s := by
 refine set_dict F X₀ N I hd hs hp ht hh ?_ rfl (updF U _) ?_ fun h' F' N' => h h' _ _ ?_ F' N'
 ·unfold getL; split
  ·rfl
  ·rw [T.ref]; rfl
 ·rw [putL_app _ _ _ ((T.has k).trans hk), List.length_append, T.len]; simp; omega
 ·rw [putL_app _ _ _ ((T.has k).trans hk)]; exact T.put hk h1 h2
end
section
theorem mkType {w : World} {mg mb : Str → Option Value} {hB : Heap} {s : Shared} {k n : Str} {t1 t2 : Tok} {A : Around} {Q : Value → Shared → Prop} {E : Value → Shared → Prop} (WD : Wd w mg mb hB) (st : hB.StaysIn s.heap) (hh : A.handled = none) (hd : A.depth ≤ 600) (hu : A.units ≤ 3000)
  (hQ : ∀ T D es n h' tk, Keeps s.heap h' → h'.get? T = some (instObj 253 D) ∧ s.heap.get? T = none → h'.get? D = some (dictOf es n) ∧ s.heap.get? D = none → @Ne Nat T D → Ty es → getL (Str.ofString "kind") es = some (some (.str k t1)) → getL (Str.ofString "is_tagged") es = some (some (.bool false)) → Q (.ref T) {s with heap := h', toks := tk}) :
  wpAny (model prog0 w) A (PySem.call (.ref 253) [.str k t1, .str n t2]) Q E s := by
 refine' mk0 (binds := fun x => [(Str.ofString "self", .ref x), (Str.ofString "kind", .str k t1), (Str.ofString "name", .str n t2)]) WD st hh hd ?hm ?hi ?hf ?ho ?hcd ?hb ?hl ?body ?c1 ?c2 ?c3 ?c4
 case hm => k_is
 case hi => k_is
 case hf => k_is
 case ho => k_is
 case hcd => k_is
 case hb => exact fun _ => rfl
 case hl => exact fun _ => locs rfl
 case c1 => rfl
 case c2 => rfl
 case c3 => rfl
 case c4 => decide
 case body =>
  intro A' x dx g L h₁ tk hA ne n1 n2 kp lx FF NN KX' T' kg
  have ks0 : Ks [] (.str k t1) [] := ⟨rfl, rfl, fun _ => rfl, fun h => (nomatch h), fun h => (nomatch h)⟩
  dsimp only
  (repeat' (first | k_extra "h" | ((with_reducible show wpAny _ _ (eval (PySem.Expr.Call (PySem.Expr.Name _ _) (_ :: _) [] _) _) _ _ _); k_dflt (refine' callS ?F ?X ?T ?hf ?hb ?ha ?_ ?x1 ?x2 ?x3; (case F => k_asm); (case X => k_asm); (case T => k_asm); (case hf => k_is); (case hb => k_is); (case ha => rfl); (case x1 => rfl); (case x2 => rfl); (case x3 => decide); k_whole)) | ((with_reducible show wpAny _ _ (setAttr (Value.ref _) _ _) _ _ _); k_dflt (refine' setT (kd := .str k t1) ?k1 ?k2 ?k3 ?k4 ?k5 ?k6 ?k7 ?k8 ?k9 ?k10 ?k11 ?k12 ?k13 ?k14 ?k15 ?_; (case k1 => k_asm); (case k2 => k_asm); (case k3 => k_asm); (case k4 => exact InstAt.of_news (by assumption) (by k_mem) (by k_mem)); (case k5 => exact rfl); (case k6 => k_is); (case k7 => k_is); (case k8 => k_is); (case k9 => k_is); (case k10 => assumption); (case k11 => decide +kernel); (case k12 => decide); (case k13 => first | exact fun _ => rfl | exact fun e => absurd e (by decide +kernel)); (case k14 => first | exact fun _ => rfl | exact fun e => absurd e (by decide +kernel)); (case k15 => k_updF)); intro h' es' n' T' F' N'; (try dsimp only at N'); k_sweep) | ((with_reducible show wpAny _ _ (exec _ _) _ _ _); (fail_if_success (fail_if_success k_fold)); refine foldQ ?_; intro qk; walk1) | walk1 | (dsimp only; walk1) | (leave1; try dsimp only) | fail "no step"))
  rename Fr _ _ _ _ => FF
  rename News _ _ _ _ => NN
  rename Ks _ _ _ => TT
  refine' hQ x dx _ _ _ _ (fun b o e => FF.keep b o (kg b o e)) ⟨(NN (x, instObj 253 dx) ?m1).1, n1⟩ ⟨(NN (dx, _) ?mm).1, n2⟩ ne ⟨?b, ?c⟩ (TT.kd (by decide +kernel)) (TT.tg (by decide +kernel))
  case m1 => k_mem
  case mm => k_mem
  case b => rw [TT.len]; decide +kernel
  case c => intro k hk; exact TT.get k (List.all_eq_true.mp (show typeNames.all _ = true by decide +kernel) k hk)
end
section
theorem sConstraint : Str.ofString "constraint" = ⟨#[99, 111, 110, 115, 116, 114, 97, 105, 110, 116]⟩ := by decide +kernel
theorem sValue : Str.ofString "value" = ⟨#[118, 97, 108, 117, 101]⟩ := by decide +kernel
theorem sNumber : Str.ofString "number" = ⟨#[110, 117, 109, 98, 101, 114]⟩ := by decide +kernel
theorem sSubtype : Str.ofString "subtype" = ⟨#[115, 117, 98, 116, 121, 112, 101]⟩ := by decide +kernel
theorem mkSub {w : World} {mg mb : Str → Option Value} {hB : Heap} {s : Shared} {a : Addr} {c : Value} {A : Around} {Q : Value → Shared → Prop} {E : Value → Shared → Prop} (WD : Wd w mg mb hB) (st : hB.StaysIn s.heap) (hh : A.handled = none) (hd : A.depth ≤ 600) (hu : A.units ≤ 3000) (hc : c = .none ∨ ∃ b, c = .ref b)
  (hQ : ∀ Y YD h1 t1 h2 t2 n h' tk, Keeps s.heap h' → h'.get? Y = some (instObj 274 YD) ∧ s.heap.get? Y = none → h'.get? YD = some (pairD h1 "type" t1 (.ref a) h2 "constraint" t2 c n) ∧ s.heap.get? YD = none → @Ne Nat Y YD → Q (.ref Y) {s with heap := h', toks := tk}) :
  wpAny (model prog0 w) A (PySem.call (.ref 274) [.ref a, c]) Q E s := by
 obtain rfl | ⟨b, rfl⟩ := hc
 ·refine' mk0 (binds := fun x => [(Str.ofString "self", .ref x), (Str.ofString "t", .ref a), (Str.ofString "constraint", .none)]) WD st hh hd ?hm ?hi ?hf ?ho ?hcd ?hb ?hl ?body ?c1 ?c2 ?c3 ?c4
  case hm => k_is
  case hi => k_is
  case hf => k_is
  case ho => k_is
  case hcd => k_is
  case hb => exact fun _ => rfl
  case hl => exact fun _ => locs rfl
  case c1 => rfl
  case c2 => rfl
  case c3 => rfl
  case c4 => decide
  case body =>
   intro A' x dx g L h₁ tk hA ne n1 n2 kp lx FF NN KX' T' kg
   dsimp only
   (repeat' (first | k_extra "h" | k_extra "g"))
   rename Fr _ _ _ _ => FF
   rename News _ _ _ _ => NN
   exact hQ x dx _ _ _ _ _ _ _ (fun b o e => FF.keep b o (kg b o e)) ⟨(NN (_, _) (.head _)).1, n1⟩ ⟨(NN (_, _) (.tail _ (.head _))).1, n2⟩ ne
 ·refine' mk0 (binds := fun x => [(Str.ofString "self", .ref x), (Str.ofString "t", .ref a), (Str.ofString "constraint", .ref b)]) WD st hh hd ?hm ?hi ?hf ?ho ?hcd ?hb ?hl ?body ?c1 ?c2 ?c3 ?c4
  case hm => k_is
  case hi => k_is
  case hf => k_is
  case ho => k_is
  case hcd => k_is
  case hb => exact fun _ => rfl
  case hl => exact fun _ => locs rfl
  case c1 => rfl
  case c2 => rfl
  case c3 => rfl
  case c4 => decide
  case body =>
   intro A' x dx g L h₁ tk hA ne n1 n2 kp lx FF NN KX' T' kg
   dsimp only
   (repeat' (first | k_extra "h" | k_extra "g"))
   rename Fr _ _ _ _ => FF
   rename News _ _ _ _ => NN
   exact hQ x dx _ _ _ _ _ _ _ (fun b o e => FF.keep b o (kg b o e)) ⟨(NN (_, _) (.head _)).1, n1⟩ ⟨(NN (_, _) (.tail _ (.head _))).1, n2⟩ ne
theorem mkCell {w : World} {mg mb : Str → Option Value} {hB : Heap} {s : Shared} {a : Addr} {t : Tok} {A : Around} {Q : Value → Shared → Prop} {E : Value → Shared → Prop} (WD : Wd w mg mb hB) (st : hB.StaysIn s.heap) (hh : A.handled = none) (hd : A.depth ≤ 600) (hu : A.units ≤ 3000)
  (hQ : ∀ Y YD h1 t1 h2 t2 h3 t3 n h' tk, Keeps s.heap h' → h'.get? Y = some (instObj 110 YD) ∧ s.heap.get? Y = none → h'.get? YD = some (cellD h1 t1 (.ref a) h2 t2 (.int 1 t) h3 t3 .none n) ∧ s.heap.get? YD = none → @Ne Nat Y YD → Q (.ref Y) {s with heap := h', toks := tk}) :
  wpAny (model prog0 w) A (PySem.call (.ref 110) [.ref a, .int 1 t]) Q E s := by
 refine' mk0 (binds := fun x => [(Str.ofString "self", .ref x), (Str.ofString "value", .ref a), (Str.ofString "number", .int 1 t)]) WD st hh hd ?hm ?hi ?hf ?ho ?hcd ?hb ?hl ?body ?c1 ?c2 ?c3 ?c4
 case hm => k_is
 case hi => k_is
 case hf => k_is
 case ho => k_is
 case hcd => k_is
 case hb => exact fun _ => rfl
 case hl => exact fun _ => locs rfl
 case c1 => rfl
 case c2 => rfl
 case c3 => rfl
 case c4 => decide
 case body =>
  intro A' x dx g L h₁ tk hA ne n1 n2 kp lx FF NN KX' T' kg
  dsimp only
  (repeat' (first | k_extra "h" | k_extra "g"))
  rename Fr _ _ _ _ => FF
  rename News _ _ _ _ => NN
  exact hQ x dx _ _ _ _ _ _ _ _ _ (fun b o e => FF.keep b o (kg b o e)) ⟨(NN (_, _) (.head _)).1, n1⟩ ⟨(NN (_, _) (.tail _ (.head _))).1, n2⟩ ne
end
end
theorem turn_GK9 {w : World} {A : Around} {Q : Flow → Shared → Prop} {E : Value → Shared → Prop} {s : Shared} {env : Env} {p : Pos} (h : wpAny (model prog0 w) A (exec (.Pass p) env) Q E s) : wpAny (model prog0 w) A (exec (.Pass p) env) Q E s := by
 first | (walk1; fail "on") | exact h
section
theorem said_14 : True := by
 k_with "M" => ((k_dflt (refine setA (by k_asm) (by k_asm) (by k_asm) (by first | exact InstAt.of_news (by assumption) (by k_mem) (by k_mem) | exact inst_mix (by assumption) (by assumption) (by with_reducible assumption) (by k_mem)) (by rfl) (by k_is) (by k_is) (by k_is) (by k_is) (by (repeat (first | assumption | refine Ty.rep ?_))) (by (simp only [typeNames, List.map, List.mem_cons, true_or, or_true])) (by k_upd) ?_; k_whole; intro _ _ _; (try k_sweep))))
 exact True.intro
local macro_rules | `(tactic| walk_at "setAttr ref") => `(tactic| k_extra "M")
section
open PySem PySem.W PyProof.Rows PySem.Calls
variable {w : World} {mg mb : Str → Option Value} {hB : Heap} {s : Shared} {dd uu : Nat} {gs : Option (List Code)} {fr : Option (List Env)} {Q : Value → Shared → Prop} {E : Value → Shared → Prop}
theorem base_bounds {t : Tok}
  (WD : Wd w mg mb hB) (st : hB.StaysIn s.heap) (hdd : dd ≤ 488) (huu : uu ≤ 1900)
  (hQ : ∀ B h' tk, Keeps s.heap h' → (∃ t1 t2, IsTup h' B #[.int (-32768) t1, .int 32767 t2]) → s.heap.get? B = none → Q (.ref B) {s with heap := h', toks := tk}) :
  wpAny (model prog0 w) ⟨none, dd, fr, gs, uu⟩ (call (.ref 285) [.int 16 t]) Q E s := by
 refine wpAny_call ?_
 refine' enter0 (news := []) (binds := [(Str.ofString "width", .int 16 t)]) WD st ?hN ?hroom ?ho ?hcd ?hb ?hl ?body ?c1 ?c2 ?c3 ?c4
 k_extra "j"
 case hN => exact List.forall_mem_nil _
 case body =>
  intro g L h₁ S1 S2 S3 F' N' KX' T' l1
  try simp only [AllLt, and_true] at l1
  dsimp only
  (try (repeat' (first | k_extra "h" | ((with_reducible show wpAny _ _ (call (.ref 253) [Value.str _ _, Value.str _ _]) _ _ _); (with_unfolding_all refine' mkType ?W ?st ?hh ?hd ?hu  ?_); (case W => assumption); (case st => exact stays_of (by assumption) (by assumption)); (case hh => rfl); (case hd => k_extra "b"); (case hu => k_extra "b");  k_whole; intro T' D' es' n' h' tk' hk' gT' gD' ne' ty' kd' tg'; k_extra "a"; (obtain F' := Fr.keeps fF hk'); (obtain N' := newsJ fF nN hk' (more := [(T', _), (D', _)]) (List.forall_mem_cons.mpr ⟨gT', List.forall_mem_cons.mpr ⟨gD', List.forall_mem_nil _⟩⟩)); (obtain na0' := allNe_of nN gT'.2); (try simp only [AllNe, and_true] at na0'); (obtain na1' := allNe_of nN gD'.2); (try simp only [AllNe, and_true] at na1'); (simp only [List.cons_append, List.nil_append] at N'); clear hk' gT' gD'; k_sweep) | k_extra "g")))
  all_goals (rename Fr _ _ _ _ => FF; rename News _ _ _ _ => NN; (simp only [show (-(1 * 2 ^ ((16 : Int) - 1).toNat) : Int) = -32768 from by decide, show ((1 * 2 ^ ((16 : Int) - 1).toNat - 1) : Int) = 32767 from by decide] at NN); refine' hQ _ _ _ ?k1 ?k2 ?k3; (case k1 => exact fun b o e => FF.keep b o (S2 b o e nNil)); (case k2 => exact ⟨_, _, _, (NN (_, _) (by k_mem)).1, rfl, _, rfl⟩); (case k3 => exact new_of S2 NN (by k_mem) nNil))
theorem int_type {nm : Str} {a b : Int} {t t1 t2 : Tok}
  (WD : Wd w mg mb hB) (st : hB.StaysIn s.heap) (hdd : dd ≤ 488) (huu : uu ≤ 1900)
  (hQ : ∀ T D es n tk1 h' tk, Keeps s.heap h' → h'.get? T = some (instObj 253 D) ∧ s.heap.get? T = none → h'.get? D = some (dictOf es n) ∧ s.heap.get? D = none → @Ne Nat T D → Ty es → getL (Str.ofString "kind") es = some (some (.str (Str.ofString "int") tk1)) → getL (Str.ofString "low") es = some (some (.int a t1)) → getL (Str.ofString "high") es = some (some (.int b t2)) → Q (.ref T) {s with heap := h', toks := tk}) :
  wpAny (model prog0 w) ⟨none, dd, fr, gs, uu⟩ (call (.ref 292) [.str nm t, .int a t1, .int b t2]) Q E s := by
 refine wpAny_call ?_
 refine' enter0 (news := []) (binds := [(Str.ofString "name", .str nm t), (Str.ofString "low", .int a t1), (Str.ofString "high", .int b t2)]) WD st ?hN ?hroom ?ho ?hcd ?hb ?hl ?body ?c1 ?c2 ?c3 ?c4
 k_extra "j"
 case hN => exact List.forall_mem_nil _
 case body =>
  intro g L h₁ S1 S2 S3 F' N' KX' T' l1
  try simp only [AllLt, and_true] at l1
  dsimp only
  (try (repeat' (first | k_extra "h" | ((with_reducible show wpAny _ _ (call (.ref 253) [Value.str _ _, Value.str _ _]) _ _ _); (with_unfolding_all refine' mkType ?W ?st ?hh ?hd ?hu  ?_); (case W => assumption); (case st => exact stays_of (by assumption) (by assumption)); (case hh => rfl); (case hd => k_extra "b"); (case hu => k_extra "b");  k_whole; intro T' D' es' n' h' tk' hk' gT' gD' ne' ty' kd' tg'; k_extra "a"; (obtain F' := Fr.keeps fF hk'); (obtain N' := newsJ fF nN hk' (more := [(T', _), (D', _)]) (List.forall_mem_cons.mpr ⟨gT', List.forall_mem_cons.mpr ⟨gD', List.forall_mem_nil _⟩⟩)); (obtain na0' := allNe_of nN gT'.2); (try simp only [AllNe, and_true] at na0'); (obtain na1' := allNe_of nN gD'.2); (try simp only [AllNe, and_true] at na1'); (simp only [List.cons_append, List.nil_append] at N'); clear hk' gT' gD'; k_sweep) | k_extra "g")))
  all_goals (rename Fr _ _ _ _ => FF; rename News _ _ _ _ => NN; refine' hQ _ _ _ _ _ _ _ ?k1 ?k2 ?k3 ?k4 ?k5 ?k6 ?k7 ?k8; (case k1 => exact fun b o e => FF.keep b o (S2 b o e nNil)); (case k2 => exact ⟨(NN (_, _) (by k_mem)).1, new_of S2 NN (by k_mem) nNil⟩); (case k3 => exact ⟨(NN (_, _) (by k_mem)).1, new_of S2 NN (by k_mem) nNil⟩); (case k4 => assumption); (case k5 => (repeat (first | assumption | refine Ty.rep ?_))); (case k6 => ((repeat (first | refine (getL_rep_ne _ (by decide +kernel) _).trans ?_ | refine getL_rep _ ?_)); (first | assumption | exact Ty.has (by (repeat (first | assumption | refine Ty.rep ?_))) _ (by (simp only [typeNames, List.map, List.mem_cons, true_or, or_true]))))); (case k7 => ((repeat (first | refine (getL_rep_ne _ (by decide +kernel) _).trans ?_ | refine getL_rep _ ?_)); (first | assumption | exact Ty.has (by (repeat (first | assumption | refine Ty.rep ?_))) _ (by (simp only [typeNames, List.map, List.mem_cons, true_or, or_true]))))); (case k8 => ((repeat (first | refine (getL_rep_ne _ (by decide +kernel) _).trans ?_ | refine getL_rep _ ?_)); (first | assumption | exact Ty.has (by (repeat (first | assumption | refine Ty.rep ?_))) _ (by (simp only [typeNames, List.map, List.mem_cons, true_or, or_true]))))))
theorem numbered {T D : Addr} {es : List DictEntry} {n : Nat} {m : Int} {t : Tok}
  (WD : Wd w mg mb hB) (st : hB.StaysIn s.heap) (hdd : dd ≤ 488) (huu : uu ≤ 1900)
  (hT : s.heap.get? T = some (instObj 253 D)) (hD : s.heap.get? D = some (dictOf es n) ∧ hB.get? D = none) (ne : @Ne Nat T D) (ty : Ty es)
  (hQ : ∀ h' tk, KeepsOff [D] s.heap h' → h'.get? D = some (dictOf (rep (Str.ofString "number") (.int m t) es) n) → Q (.ref T) {s with heap := h', toks := tk}) :
  wpAny (model prog0 w) ⟨none, dd, fr, gs, uu⟩ (call (.ref 313) [.ref T, .int m t]) Q E s := by
 refine wpAny_call ?_
 refine' enter0 (news := [(D, dictOf es n)]) (binds := [(Str.ofString "t", .ref T), (Str.ofString "number", .int m t)]) WD st ?hN ?hroom ?ho ?hcd ?hb ?hl ?body ?c1 ?c2 ?c3 ?c4
 k_extra "j"
 case hN => exact List.forall_mem_cons.mpr ⟨⟨hD.1, hD.2⟩, List.forall_mem_nil _⟩
 case body =>
  intro g L h₁ S1 S2 S3 F' N' KX' T' l1
  try simp only [AllLt, and_true] at l1
  have qT := S2 _ _ hT (by simpa using ne)
  dsimp only
  (try (repeat' (first | k_extra "h" | ((with_reducible show wpAny _ _ (call (.ref 253) [Value.str _ _, Value.str _ _]) _ _ _); (with_unfolding_all refine' mkType ?W ?st ?hh ?hd ?hu  ?_); (case W => assumption); (case st => exact stays_of (by assumption) (by assumption)); (case hh => rfl); (case hd => k_extra "b"); (case hu => k_extra "b");  k_whole; intro T' D' es' n' h' tk' hk' gT' gD' ne' ty' kd' tg'; k_extra "a"; (obtain F' := Fr.keeps fF hk'); (obtain N' := newsJ fF nN hk' (more := [(T', _), (D', _)]) (List.forall_mem_cons.mpr ⟨gT', List.forall_mem_cons.mpr ⟨gD', List.forall_mem_nil _⟩⟩)); (obtain na0' := allNe_of nN gT'.2); (try simp only [AllNe, and_true] at na0'); (obtain na1' := allNe_of nN gD'.2); (try simp only [AllNe, and_true] at na1'); (simp only [List.cons_append, List.nil_append] at N'); clear hk' gT' gD'; k_sweep) | k_extra "g")))
  all_goals (rename Fr _ _ _ _ => FF; rename News _ _ _ _ => NN; refine' hQ _ _ ?k1 ?k2; (case k1 => exact fun b o nb e => FF.keep b o (S2 b o e nb)); (case k2 => exact (NN (_, _) (by k_mem)).1))
end
section
open PySem PySem.W PyProof.Rows PySem.Calls
variable {w : World} {mg mb : Str → Option Value} {hB : Heap} {s : Shared} {dd uu : Nat} {gs : Option (List Code)} {fr : Option (List Env)} {Q : Value → Shared → Prop} {E : Value → Shared → Prop}
theorem noneB {hB g : Heap} {a : Addr} (S : hB.StaysIn g) (n : g.get? a = none) : hB.get? a = none := by
 cases q : hB.get? a with
 | none => rfl
 | some o => rw [S _ _ q] at n; cases n
section
theorem integer_type {t : Tok}
  (WD : Wd w mg mb hB) (st : hB.StaysIn s.heap) (hdd : dd ≤ 464) (huu : uu ≤ 1700)
  (hQ : ∀ T D es n tk1 t1 t2 h' tk, Keeps s.heap h' → h'.get? T = some (instObj 253 D) ∧ s.heap.get? T = none → h'.get? D = some (dictOf es n) ∧ s.heap.get? D = none → @Ne Nat T D → Ty es → getL (Str.ofString "kind") es = some (some (.str (Str.ofString "int") tk1)) → getL (Str.ofString "low") es = some (some (.int (-32768) t1)) → getL (Str.ofString "high") es = some (some (.int 32767 t2)) → Q (.ref T) {s with heap := h', toks := tk}) :
  wpAny (model prog0 w) ⟨none, dd, fr, gs, uu⟩ (call (.ref 341) [.int 16 t]) Q E s := by
 refine wpAny_call ?_
 refine' enter0 (news := []) (binds := [(Str.ofString "width", .int 16 t)]) WD st ?hN ?hroom ?ho ?hcd ?hb ?hl ?body ?c1 ?c2 ?c3 ?c4
 k_extra "j"
 case hN => exact List.forall_mem_nil _
 case body =>
  intro g L h₁ S1 S2 S3 F' N' KX' T' l1
  try simp only [AllLt, and_true] at l1
  dsimp only
  (try (repeat' (first | k_extra "h" | ((with_reducible show wpAny _ _ (call (.ref 313) [Value.ref _, Value.int _ _]) _ _ _); (with_unfolding_all refine' numbered ?W ?st ?hd ?hu ?hT ?hD ?ne ?ty ?_); k_extra "i"; (case hT => (rename News _ _ _ _ => nQ; exact (nQ (_, _) (by k_mem)).1)); (case hD => (rename News _ _ _ _ => nQ; exact ⟨(nQ (_, _) (by k_mem)).1, noneB (by assumption) (nQ (_, _) (by k_mem)).2.2⟩)); (case ne => assumption); (case ty => (repeat (first | assumption | refine Ty.rep ?_))); k_whole; intro h' tk' hk' gT'; k_extra "a"; (obtain F' := frButS fF hk' (List.forall_mem_cons.mpr ⟨⟨(nN (_, _) (by k_mem)).2.2, (nN (_, _) (by k_mem)).2.1⟩, List.forall_mem_nil _⟩)); (refine' newsUpdC nN ?U hk' gT' ?_); (case U => k_updF); intro N'; (try dsimp only at N'); clear hk' gT'; k_sweep) | ((with_reducible show wpAny _ _ (call (.ref 292) [Value.str _ _, Value.int _ _, Value.int _ _]) _ _ _); (with_unfolding_all refine' int_type ?W ?st ?hd ?hu  ?_); k_extra "i";  k_whole; intro T' D' es' n' k' h' tk' hk' gT' gD' ne' ty' kd' lo' hi'; k_extra "a"; (obtain F' := Fr.keeps fF hk'); (obtain N' := newsJ fF nN hk' (more := [(T', _), (D', _)]) (List.forall_mem_cons.mpr ⟨gT', List.forall_mem_cons.mpr ⟨gD', List.forall_mem_nil _⟩⟩)); (obtain na0' := allNe_of nN gT'.2); (try simp only [AllNe, and_true] at na0'); (obtain na1' := allNe_of nN gD'.2); (try simp only [AllNe, and_true] at na1'); (simp only [List.cons_append, List.nil_append] at N'); clear hk' gT' gD'; k_sweep) | ((with_reducible show wpAny _ _ (call (.ref 285) [Value.int _ _]) _ _ _); (with_unfolding_all refine' base_bounds ?W ?st ?hd ?hu  ?_); k_extra "i";  k_whole; intro B' h' tk' hk' tB' nB'; k_extra "a"; (obtain F' := Fr.keeps fF hk'); (obtain N' := newsK nN hk'); ((refine xEEL tB' fun t1' t2' tB' => ?_)); clear hk' nB'; k_sweep) | ((with_reducible show wpAny _ _ (call (.ref 253) [Value.str _ _, Value.str _ _]) _ _ _); (with_unfolding_all refine' mkType ?W ?st ?hh ?hd ?hu  ?_); (case W => assumption); (case st => exact stays_of (by assumption) (by assumption)); (case hh => rfl); (case hd => k_extra "b"); (case hu => k_extra "b");  k_whole; intro T' D' es' n' h' tk' hk' gT' gD' ne' ty' kd' tg'; k_extra "a"; (obtain F' := Fr.keeps fF hk'); (obtain N' := newsJ fF nN hk' (more := [(T', _), (D', _)]) (List.forall_mem_cons.mpr ⟨gT', List.forall_mem_cons.mpr ⟨gD', List.forall_mem_nil _⟩⟩)); (obtain na0' := allNe_of nN gT'.2); (try simp only [AllNe, and_true] at na0'); (obtain na1' := allNe_of nN gD'.2); (try simp only [AllNe, and_true] at na1'); (simp only [List.cons_append, List.nil_append] at N'); clear hk' gT' gD'; k_sweep) | k_extra "g")))
  all_goals (rename Fr _ _ _ _ => FF; rename News _ _ _ _ => NN; refine' hQ _ _ _ _ _ _ _ _ _ ?k1 ?k2 ?k3 ?k4 ?k5 ?k6 ?k7 ?k8; (case k1 => exact fun b o e => FF.keep b o (S2 b o e nNil)); (case k2 => exact ⟨(NN (_, _) (by k_mem)).1, new_of S2 NN (by k_mem) nNil⟩); (case k3 => exact ⟨(NN (_, _) (by k_mem)).1, new_of S2 NN (by k_mem) nNil⟩); (case k4 => assumption); (case k5 => (repeat (first | assumption | refine Ty.rep ?_))); (case k6 => ((repeat (first | refine (getL_rep_ne _ (by decide +kernel) _).trans ?_ | refine getL_rep _ ?_)); (first | assumption | exact Ty.has (by (repeat (first | assumption | refine Ty.rep ?_))) _ (by (simp only [typeNames, List.map, List.mem_cons, true_or, or_true]))))); (case k7 => ((repeat (first | refine (getL_rep_ne _ (by decide +kernel) _).trans ?_ | refine getL_rep _ ?_)); (first | assumption | exact Ty.has (by (repeat (first | assumption | refine Ty.rep ?_))) _ (by (simp only [typeNames, List.map, List.mem_cons, true_or, or_true]))))); (case k8 => ((repeat (first | refine (getL_rep_ne _ (by decide +kernel) _).trans ?_ | refine getL_rep _ ?_)); (first | assumption | exact Ty.has (by (repeat (first | assumption | refine Ty.rep ?_))) _ (by (simp only [typeNames, List.map, List.mem_cons, true_or, or_true]))))))
end
theorem array_type {nm : Str} {I C x : Addr} {t : Tok} {b : Bool}
  (WD : Wd w mg mb hB) (st : hB.StaysIn s.heap) (hdd : dd ≤ 488) (huu : uu ≤ 1900)
  (hI : s.heap.IsList I [Value.ref x].toArray)
  (hQ : ∀ T D es n h' tk, Keeps s.heap h' → h'.get? T = some (instObj 253 D) ∧ s.heap.get? T = none → h'.get? D = some (dictOf es n) ∧ s.heap.get? D = none → @Ne Nat T D → Ty es → Q (.ref T) {s with heap := h', toks := tk}) :
  wpAny (model prog0 w) ⟨none, dd, fr, gs, uu⟩ (call (.ref 299) [.str nm t, .ref I, .ref C, .bool b]) Q E s := by
 refine wpAny_call ?_
 refine' enter0 (news := []) (binds := [(Str.ofString "name", .str nm t), (Str.ofString "index", .ref I), (Str.ofString "component", .ref C), (Str.ofString "is_constrained", .bool b)]) WD st ?hN ?hroom ?ho ?hcd ?hb ?hl ?body ?c1 ?c2 ?c3 ?c4
 k_extra "j"
 case hN => exact List.forall_mem_nil _
 case body =>
  intro g L h₁ S1 S2 S3 F' N' KX' T' l1
  try simp only [AllLt, and_true] at l1
  have hIg := listK hI (fun b o e => S2 b o e nNil)
  dsimp only
  (try (repeat' (first | k_extra "h" | ((with_reducible show wpAny _ _ (call (.ref 313) [Value.ref _, Value.int _ _]) _ _ _); (with_unfolding_all refine' numbered ?W ?st ?hd ?hu ?hT ?hD ?ne ?ty ?_); k_extra "i"; (case hT => (rename News _ _ _ _ => nQ; exact (nQ (_, _) (by k_mem)).1)); (case hD => (rename News _ _ _ _ => nQ; exact ⟨(nQ (_, _) (by k_mem)).1, noneB (by assumption) (nQ (_, _) (by k_mem)).2.2⟩)); (case ne => assumption); (case ty => (repeat (first | assumption | refine Ty.rep ?_))); k_whole; intro h' tk' hk' gT'; k_extra "a"; (obtain F' := frButS fF hk' (List.forall_mem_cons.mpr ⟨⟨(nN (_, _) (by k_mem)).2.2, (nN (_, _) (by k_mem)).2.1⟩, List.forall_mem_nil _⟩)); (refine' newsUpdC nN ?U hk' gT' ?_); (case U => k_updF); intro N'; (try dsimp only at N'); clear hk' gT'; k_sweep) | ((with_reducible show wpAny _ _ (call (.ref 292) [Value.str _ _, Value.int _ _, Value.int _ _]) _ _ _); (with_unfolding_all refine' int_type ?W ?st ?hd ?hu  ?_); k_extra "i";  k_whole; intro T' D' es' n' k' h' tk' hk' gT' gD' ne' ty' kd' lo' hi'; k_extra "a"; (obtain F' := Fr.keeps fF hk'); (obtain N' := newsJ fF nN hk' (more := [(T', _), (D', _)]) (List.forall_mem_cons.mpr ⟨gT', List.forall_mem_cons.mpr ⟨gD', List.forall_mem_nil _⟩⟩)); (obtain na0' := allNe_of nN gT'.2); (try simp only [AllNe, and_true] at na0'); (obtain na1' := allNe_of nN gD'.2); (try simp only [AllNe, and_true] at na1'); (simp only [List.cons_append, List.nil_append] at N'); clear hk' gT' gD'; k_sweep) | ((with_reducible show wpAny _ _ (call (.ref 285) [Value.int _ _]) _ _ _); (with_unfolding_all refine' base_bounds ?W ?st ?hd ?hu  ?_); k_extra "i";  k_whole; intro B' h' tk' hk' tB' nB'; k_extra "a"; (obtain F' := Fr.keeps fF hk'); (obtain N' := newsK nN hk'); (obtain ⟨t1', t2', tB'⟩ := tB'); clear hk' nB'; k_sweep) | ((with_reducible show wpAny _ _ (call (.ref 253) [Value.str _ _, Value.str _ _]) _ _ _); (with_unfolding_all refine' mkType ?W ?st ?hh ?hd ?hu  ?_); (case W => assumption); (case st => exact stays_of (by assumption) (by assumption)); (case hh => rfl); (case hd => k_extra "b"); (case hu => k_extra "b");  k_whole; intro T' D' es' n' h' tk' hk' gT' gD' ne' ty' kd' tg'; k_extra "a"; (obtain F' := Fr.keeps fF hk'); (obtain N' := newsJ fF nN hk' (more := [(T', _), (D', _)]) (List.forall_mem_cons.mpr ⟨gT', List.forall_mem_cons.mpr ⟨gD', List.forall_mem_nil _⟩⟩)); (obtain na0' := allNe_of nN gT'.2); (try simp only [AllNe, and_true] at na0'); (obtain na1' := allNe_of nN gD'.2); (try simp only [AllNe, and_true] at na1'); (simp only [List.cons_append, List.nil_append] at N'); clear hk' gT' gD'; k_sweep) | k_extra "g")))
  all_goals (rename Fr _ _ _ _ => FF; rename News _ _ _ _ => NN; refine' hQ _ _ _ _ _ _ ?k1 ?k2 ?k3 ?k4 ?k5; (case k1 => exact fun b o e => FF.keep b o (S2 b o e nNil)); (case k2 => exact ⟨(NN (_, _) (by k_mem)).1, new_of S2 NN (by k_mem) nNil⟩); (case k3 => exact ⟨(NN (_, _) (by k_mem)).1, new_of S2 NN (by k_mem) nNil⟩); (case k4 => assumption); (case k5 => (repeat (first | assumption | refine Ty.rep ?_))))
theorem record_type {nm : Str} {DI CO V x y : Addr} {t : Tok}
  (WD : Wd w mg mb hB) (st : hB.StaysIn s.heap) (hdd : dd ≤ 488) (huu : uu ≤ 1900)
  (hI : s.heap.IsList DI [Value.ref x].toArray) (hJ : s.heap.IsList CO [Value.ref y].toArray)
  (hQ : ∀ T D es n LD LC c1 c2 tk1 h' tk, Keeps s.heap h' → h'.get? T = some (instObj 253 D) ∧ s.heap.get? T = none → h'.get? D = some (dictOf es n) ∧ s.heap.get? D = none → @Ne Nat T D → Ty es → h'.get? LD = some (W.listOf #[Value.ref x] c1) ∧ s.heap.get? LD = none → h'.get? LC = some (W.listOf #[Value.ref y] c2) ∧ s.heap.get? LC = none → getL (Str.ofString "kind") es = some (some (.str (Str.ofString "record") tk1)) → getL (Str.ofString "is_tagged") es = some (some (.bool false)) → getL (Str.ofString "discriminants") es = some (some (.ref LD)) → getL (Str.ofString "components") es = some (some (.ref LC)) → getL (Str.ofString "variant") es = some (some (.ref V)) → Q (.ref T) {s with heap := h', toks := tk}) :
  wpAny (model prog0 w) ⟨none, dd, fr, gs, uu⟩ (call (.ref 306) [.str nm t, .ref DI, .ref CO, .ref V]) Q E s := by
 refine wpAny_call ?_
 refine' enter0 (news := []) (binds := [(Str.ofString "name", .str nm t), (Str.ofString "discriminants", .ref DI), (Str.ofString "components", .ref CO), (Str.ofString "variant", .ref V)]) WD st ?hN ?hroom ?ho ?hcd ?hb ?hl ?body ?c1 ?c2 ?c3 ?c4
 k_extra "j"
 case hN => exact List.forall_mem_nil _
 case body =>
  intro g L h₁ S1 S2 S3 F' N' KX' T' l1
  try simp only [AllLt, and_true] at l1
  have hIg := listK hI (fun b o e => S2 b o e nNil)
  have hJg := listK hJ (fun b o e => S2 b o e nNil)
  dsimp only
  (try (repeat' (first | k_extra "h" | ((with_reducible show wpAny _ _ (call (.ref 313) [Value.ref _, Value.int _ _]) _ _ _); (with_unfolding_all refine' numbered ?W ?st ?hd ?hu ?hT ?hD ?ne ?ty ?_); k_extra "i"; (case hT => (rename News _ _ _ _ => nQ; exact (nQ (_, _) (by k_mem)).1)); (case hD => (rename News _ _ _ _ => nQ; exact ⟨(nQ (_, _) (by k_mem)).1, noneB (by assumption) (nQ (_, _) (by k_mem)).2.2⟩)); (case ne => assumption); (case ty => (repeat (first | assumption | refine Ty.rep ?_))); k_whole; intro h' tk' hk' gT'; k_extra "a"; (obtain F' := frButS fF hk' (List.forall_mem_cons.mpr ⟨⟨(nN (_, _) (by k_mem)).2.2, (nN (_, _) (by k_mem)).2.1⟩, List.forall_mem_nil _⟩)); (refine' newsUpdC nN ?U hk' gT' ?_); (case U => k_updF); intro N'; (try dsimp only at N'); clear hk' gT'; k_sweep) | ((with_reducible show wpAny _ _ (call (.ref 292) [Value.str _ _, Value.int _ _, Value.int _ _]) _ _ _); (with_unfolding_all refine' int_type ?W ?st ?hd ?hu  ?_); k_extra "i";  k_whole; intro T' D' es' n' k' h' tk' hk' gT' gD' ne' ty' kd' lo' hi'; k_extra "a"; (obtain F' := Fr.keeps fF hk'); (obtain N' := newsJ fF nN hk' (more := [(T', _), (D', _)]) (List.forall_mem_cons.mpr ⟨gT', List.forall_mem_cons.mpr ⟨gD', List.forall_mem_nil _⟩⟩)); (obtain na0' := allNe_of nN gT'.2); (try simp only [AllNe, and_true] at na0'); (obtain na1' := allNe_of nN gD'.2); (try simp only [AllNe, and_true] at na1'); (simp only [List.cons_append, List.nil_append] at N'); clear hk' gT' gD'; k_sweep) | ((with_reducible show wpAny _ _ (call (.ref 285) [Value.int _ _]) _ _ _); (with_unfolding_all refine' base_bounds ?W ?st ?hd ?hu  ?_); k_extra "i";  k_whole; intro B' h' tk' hk' tB' nB'; k_extra "a"; (obtain F' := Fr.keeps fF hk'); (obtain N' := newsK nN hk'); (obtain ⟨t1', t2', tB'⟩ := tB'); clear hk' nB'; k_sweep) | ((with_reducible show wpAny _ _ (call (.ref 253) [Value.str _ _, Value.str _ _]) _ _ _); (with_unfolding_all refine' mkType ?W ?st ?hh ?hd ?hu  ?_); (case W => assumption); (case st => exact stays_of (by assumption) (by assumption)); (case hh => rfl); (case hd => k_extra "b"); (case hu => k_extra "b");  k_whole; intro T' D' es' n' h' tk' hk' gT' gD' ne' ty' kd' tg'; k_extra "a"; (obtain F' := Fr.keeps fF hk'); (obtain N' := newsJ fF nN hk' (more := [(T', _), (D', _)]) (List.forall_mem_cons.mpr ⟨gT', List.forall_mem_cons.mpr ⟨gD', List.forall_mem_nil _⟩⟩)); (obtain na0' := allNe_of nN gT'.2); (try simp only [AllNe, and_true] at na0'); (obtain na1' := allNe_of nN gD'.2); (try simp only [AllNe, and_true] at na1'); (simp only [List.cons_append, List.nil_append] at N'); clear hk' gT' gD'; k_sweep) | k_extra "g")))
  all_goals (rename Fr _ _ _ _ => FF; rename News _ _ _ _ => NN; refine' hQ _ _ _ _ _ _ _ _ _ _ _ ?k1 ?k2 ?k3 ?k4 ?k5 ?k6 ?k7 ?k8 ?k9 ?k10 ?k11 ?k12; (case k1 => exact fun b o e => FF.keep b o (S2 b o e nNil)); (case k2 => exact ⟨(NN (_, _) (by k_mem)).1, new_of S2 NN (by k_mem) nNil⟩); (case k3 => exact ⟨(NN (_, _) (by k_mem)).1, new_of S2 NN (by k_mem) nNil⟩); (case k4 => assumption); (case k5 => (repeat (first | assumption | refine Ty.rep ?_))); (case k8 => ((repeat (first | refine (getL_rep_ne _ (by decide +kernel) _).trans ?_ | refine getL_rep _ ?_)); (first | assumption | exact Ty.has (by (repeat (first | assumption | refine Ty.rep ?_))) _ (by (simp only [typeNames, List.map, List.mem_cons, true_or, or_true]))))); (case k9 => ((repeat (first | refine (getL_rep_ne _ (by decide +kernel) _).trans ?_ | refine getL_rep _ ?_)); (first | assumption | exact Ty.has (by (repeat (first | assumption | refine Ty.rep ?_))) _ (by (simp only [typeNames, List.map, List.mem_cons, true_or, or_true]))))); (case k10 => ((repeat (first | refine (getL_rep_ne _ (by decide +kernel) _).trans ?_ | refine getL_rep _ ?_)); (first | assumption | exact Ty.has (by (repeat (first | assumption | refine Ty.rep ?_))) _ (by (simp only [typeNames, List.map, List.mem_cons, true_or, or_true]))))); (case k11 => ((repeat (first | refine (getL_rep_ne _ (by decide +kernel) _).trans ?_ | refine getL_rep _ ?_)); (first | assumption | exact Ty.has (by (repeat (first | assumption | refine Ty.rep ?_))) _ (by (simp only [typeNames, List.map, List.mem_cons, true_or, or_true]))))); (case k12 => ((repeat (first | refine (getL_rep_ne _ (by decide +kernel) _).trans ?_ | refine getL_rep _ ?_)); (first | assumption | exact Ty.has (by (repeat (first | assumption | refine Ty.rep ?_))) _ (by (simp only [typeNames, List.map, List.mem_cons, true_or, or_true]))))); (case k6 => exact ⟨(NN (_, _) (by k_mem)).1, new_of S2 NN (by k_mem) nNil⟩); (case k7 => exact ⟨(NN (_, _) (by k_mem)).1, new_of S2 NN (by k_mem) nNil⟩))
end
end
section
open PySem PySem.W PyProof.Rows PySem.Calls
variable {w : World} {mg mb : Str → Option Value} {hB : Heap} {s : Shared} {dd uu : Nat} {gs : Option (List Code)} {fr : Option (List Env)} {Q : Value → Shared → Prop} {E : Value → Shared → Prop}
section
variable {M : Model} {A : Around} {E : Value → Shared → Prop} {s : Shared} {h₀ : Heap} {L : Addr} {m : Str → Option Value} {news : List (Addr × Obj)} {Q : Value → Shared → Prop} {vs : List Value}
theorem newTupleF (F : Fr h₀ L s.heap m) (N : News h₀ L s.heap news) (hz : vs.length ≤ sizeLine)
  (h : ∀ D h' l, l = news → Fr h₀ L h' m → News h₀ L h' ((D, ({ cls := .type "tuple", data := .seq vs.toArray } : Obj)) :: l) → Q (.ref D) { s with heap := h' }) : wpAny M A (newTuple vs) Q E s :=
 newTuple_N F N (fun h' F' N' => h _ h' _ rfl F' N') hz
theorem newListF (F : Fr h₀ L s.heap m) (N : News h₀ L s.heap news) (hz : vs.length ≤ sizeLine)
  (h : ∀ D h' l, l = news → Fr h₀ L h' m → News h₀ L h' ((D, W.listOf vs.toArray 0) :: l) → Q (.ref D) { s with heap := h' }) : wpAny M A (newList vs) Q E s :=
 newList_N F N (fun h' F' N' => h _ h' _ rfl F' N') hz
end
theorem newsJF {g h h' : Heap} {L : Addr} {m : Str → Option Value} {news more : List (Addr × Obj)} {G : Prop} (F : Fr g L h m) (N : News g L h news) (hk : Keeps h h') (hn : NewIn h h' more)
  (k : ∀ l, l = news → (∀ b, h.get? b = none → ∀ p ∈ l, @Ne Nat p.1 b) → Fr g L h' m → News g L h' (more ++ l) → G) : G :=
 k _ rfl (fun b e p hp q => by have := (N p hp).1; rw [q, e] at this; cases this) (Fr.keeps F hk) (newsJ F N hk hn)
theorem memE {p : Addr × Obj} {l r : List (Addr × Obj)} (e : l = r) (h : p ∈ r) : p ∈ l := e ▸ h
theorem peelE {h : Heap} {l r : List (Addr × Obj)} {a : Addr} {o : Obj} {G : Prop} (e : l = (a, o) :: r) (H : ∀ q ∈ l, h.get? q.1 = some q.2) (k : h.get? a = some o → (∀ q ∈ r, h.get? q.1 = some q.2) → G) : G :=
 k (H (a, o) (e ▸ .head _)) fun q hq => H q (e ▸ .tail _ hq)
structure Kinds (h : Heap) (KT S0 S1 Sb RT : Addr) : Prop where
 kt : IsTup h KT #[Value.ref S0, .ref S1, .ref Sb]
 num : ∃ SD T D es n t1 t2 t3, SubAt h S0 SD T ∧ TypA h T D es n ∧ getL (Str.ofString "kind") es = some (some (.str (Str.ofString "int") t1)) ∧ getL (Str.ofString "low") es = some (some (.int (-32768) t2)) ∧ getL (Str.ofString "high") es = some (some (.int 32767 t3))
 rk : ∃ SD D es n LD DT LC CT V AL A0 A1 A2 P0 P1 P2 X0 X1 X2, SubAt h Sb SD RT ∧ TypA h RT D es n ∧ RecKind h es LD DT LC CT V AL A0 A1 A2 P0 P1 P2 X0 X1 X2
theorem neLD {h : Heap} {a b : Addr} {xs : Array Value} {c n : Nat} {es : List DictEntry} (x : h.get? a = some (W.listOf xs c)) (y : h.get? b = some (dictOf es n)) : @Ne Nat a b := fun q => by
 have := congrArg Obj.cls (Option.some.inj (x.symm.trans ((congrArg _ q).trans y)))
 simp [W.listOf, dictOf] at this
theorem LI {h : Heap} {a : Addr} {c : Nat} {xs : Array Value} (e : h.get? a = some (W.listOf xs c)) : h.IsList a xs := ⟨_, e, rfl, _, rfl⟩
theorem allH {h0 g h : Heap} {L : Addr} {news : List (Addr × Obj)} (S2 : ∀ b o, h0.get? b = some o → b ∉ ([] : List (Addr × Obj)).map (·.1) → g.get? b = some o) (NN : News g L h news) (h'' : Heap)
  (HN : ∀ b o, h0.get? b = none → h.get? b = some o → h''.get? b = some o) : ∀ q ∈ news, h''.get? q.1 = some q.2 := fun q hq => HN q.1 q.2 (new_of S2 NN hq (by simp)) (NN q hq).1
theorem law_kinds 
  (WD : Wd w mg mb hB) (st : hB.StaysIn s.heap) (hdd : dd ≤ 440) (huu : uu ≤ 1500)
  (hQ : ∀ KT S0 S1 Sb RT h' tk, Keeps s.heap h' → (∀ h'', (∀ b o, s.heap.get? b = none → h'.get? b = some o → h''.get? b = some o) → Kinds h'' KT S0 S1 Sb RT) → Q (.ref KT) {s with heap := h', toks := tk}) :
  wpAny (model prog0 w) ⟨none, dd, fr, gs, uu⟩ (call (.ref 660) []) Q E s := by
 refine wpAny_call ?_
 refine' enter0 (news := []) (binds := []) WD st ?hN ?hroom ?ho ?hcd ?hb ?hl ?body ?c1 ?c2 ?c3 ?c4
 k_extra "j"
 case hN => exact List.forall_mem_nil _
 case body =>
  intro g L h₁ S1 S2 S3 F' N' KX' T' l1
  try simp only [AllLt, and_true] at l1
  dsimp only
  (try (repeat' (first | ((with_reducible show qk _ _); dsimp only [qk]; (try clear qk)) | (k_unfold; (try dsimp only); (try clear qk)) | (k_end; wrow_close) | ((with_reducible show wpAny _ _ (call (.ref 313) [Value.ref _, Value.int _ _]) _ _ _); (with_unfolding_all refine' numbered ?W ?st ?hd ?hu ?hT ?hD ?ne ?ty ?_); k_extra "i"; (case hT => (rename News _ _ _ _ => nQ; exact (nQ (_, _) (by k_mem)).1)); (case hD => (rename News _ _ _ _ => nQ; exact ⟨(nQ (_, _) (by k_mem)).1, noneB (by assumption) (nQ (_, _) (by k_mem)).2.2⟩)); (case ne => assumption); (case ty => (repeat (first | assumption | refine Ty.rep ?_))); k_whole; intro h' tk' hk' gT'; k_extra "a"; (obtain F' := frButS fF hk' (List.forall_mem_cons.mpr ⟨⟨(nN (_, _) (by k_mem)).2.2, (nN (_, _) (by k_mem)).2.1⟩, List.forall_mem_nil _⟩)); (refine' newsUpdC nN ?U hk' gT' ?_); (case U => first | exact UpdF.tail (by assumption) (UpdF.head (by assumption)) | exact UpdF.tail (by assumption) (UpdF.head (List.forall_mem_cons.mpr ⟨by assumption, List.forall_mem_cons.mpr ⟨by assumption, by assumption⟩⟩))); intro N'; (try dsimp only at N'); clear hk' gT'; k_sweep) | ((with_reducible show wpAny _ _ (call (.ref 306) [Value.str _ _, Value.ref _, Value.ref _, Value.ref _]) _ _ _); (with_unfolding_all refine' record_type ?W ?st ?hd ?hu ?hI ?hJ ?_); k_extra "i"; (case hI => exact News.isList (by assumption) (.tail _ (memE (by assumption) (.tail _ (memE (by assumption) (.head _)))))); (case hJ => exact News.isList (by assumption) (.head _)); k_whole; intro T' D' es' n' LD' LC' c1' c2' k' h' tk' hk' gT' gD' ne' ty' gL' gC' kd' tg' di' co' va'; k_extra "a"; (obtain xL' := neLD gL'.1 gD'.1); (obtain xC' := neLD gC'.1 gD'.1); (refine newsJF fF nN hk' (more := [(T', _), (D', _), (LD', _), (LC', _)]) (List.forall_mem_cons.mpr ⟨gT', List.forall_mem_cons.mpr ⟨gD', List.forall_mem_cons.mpr ⟨gL', List.forall_mem_cons.mpr ⟨gC', List.forall_mem_nil _⟩⟩⟩⟩) ?_); intro l' el' z' F' N'; (obtain z' := z' _ gD'.2); (dsimp only [List.cons_append, List.nil_append] at N'); clear hk' gT' gD' gL' gC'; k_sweep) | ((with_reducible show wpAny _ _ (call (.ref 299) [Value.str _ _, Value.ref _, Value.ref _, Value.bool _]) _ _ _); (with_unfolding_all refine' array_type ?W ?st ?hd ?hu ?hI ?_); k_extra "i"; (case hI => exact News.isList (by assumption) (.head _)); k_whole; intro T' D' es' n' h' tk' hk' gT' gD' ne' ty'; k_extra "a"; (refine newsJF fF nN hk' (more := [(T', _), (D', _)]) (List.forall_mem_cons.mpr ⟨gT', List.forall_mem_cons.mpr ⟨gD', List.forall_mem_nil _⟩⟩) ?_); intro l' el' z' F' N'; (obtain z' := z' _ gD'.2); (dsimp only [List.cons_append, List.nil_append] at N'); clear hk' gT' gD'; k_sweep) | ((with_reducible show wpAny _ _ (call (.ref 274) [Value.ref _, _]) _ _ _); (with_unfolding_all refine' mkSub ?W ?st ?hh ?hd ?hu ?hc ?_); (case W => assumption); (case st => exact stays_of (by assumption) (by assumption)); (case hh => rfl); (case hd => k_extra "b"); (case hu => k_extra "b"); (case hc => first | exact .inl rfl | exact .inr ⟨_, rfl⟩); k_whole; intro Y' YD' a1' b1' a2' b2' n' h' tk' hk' gT' gD' ne'; k_extra "a"; (refine newsJF fF nN hk' (more := [(Y', _), (YD', _)]) (List.forall_mem_cons.mpr ⟨gT', List.forall_mem_cons.mpr ⟨gD', List.forall_mem_nil _⟩⟩) ?_); intro l' el' z' F' N'; clear z'; (dsimp only [List.cons_append, List.nil_append] at N'); clear hk' gT' gD'; k_sweep) | ((with_reducible show wpAny _ _ (call (.ref 341) [Value.int _ _]) _ _ _); (with_unfolding_all refine' integer_type ?W ?st ?hd ?hu  ?_); k_extra "i";  k_whole; intro T' D' es' n' k' t1' t2' h' tk' hk' gT' gD' ne' ty' kd' lo' hi'; k_extra "a"; (refine newsJF fF nN hk' (more := [(T', _), (D', _)]) (List.forall_mem_cons.mpr ⟨gT', List.forall_mem_cons.mpr ⟨gD', List.forall_mem_nil _⟩⟩) ?_); intro l' el' z' F' N'; clear z'; (dsimp only [List.cons_append, List.nil_append] at N'); clear hk' gT' gD'; k_sweep) | ((with_reducible show wpAny _ _ (newTuple _) _ _ _); (refine' newTupleF ?F ?N ?z ?_; (case F => k_asm); (case N => k_asm); (case z => exact Nat.le_of_ble_eq_true rfl)); intro D' h' l' e' F' N'; k_sweep) | ((with_reducible show wpAny _ _ (newList _) _ _ _); (refine' newListF ?F ?N ?z ?_; (case F => k_asm); (case N => k_asm); (case z => exact Nat.le_of_ble_eq_true rfl)); intro D' h' l' e' F' N'; k_sweep) | k_extra "g")))
  all_goals (rename Fr _ _ _ _ => FF; rename News _ _ _ _ => NN)
  refine' hQ _ _ _ _ T' _ _ (fun b o e => FF.keep b o (S2 b o e nNil)) (fun h'' HN => ?fin)
  case fin =>
   have HH := allH S2 NN h'' HN
   repeat (first | (refine peelE rfl HH ?_; clear HH; intro _ HH) | (refine peelE (by assumption) HH ?_; clear HH; intro _ HH))
   refine' ⟨⟨_, by assumption, rfl, _, rfl⟩, ?num, ?rk⟩
   case num => exact iE8 _ _ _ _ _ _ _ _ ⟨⟨(by assumption), iE5 _ _ _ _ _ (by assumption)⟩, ⟨(by assumption), (by assumption)⟩, by assumption, by assumption, by assumption⟩
   case rk =>
    refine' iE19 _ _ _ _ _ _ _ _ _ _ _ _ _ _ _ _ _ _ _ ⟨⟨(by assumption), iE5 _ _ _ _ _ (by assumption)⟩, ⟨(by assumption), (by assumption)⟩, ⟨⟨_, ?f1⟩, ?f2, ?f3, ?f4, ?f5, ?g1, ?g2, ?g3, ?g4, ?g5, ?g6, ?g7, ?g8, ?g9, ?g10, ?g11, ?g12, ?g13, ?g14, ?g15⟩⟩
    case f1 => (repeat (first | refine (getL_rep_ne _ (by decide +kernel) _).trans ?_ | refine getL_rep _ ?_)); (first | assumption | exact Ty.has (by (repeat (first | assumption | refine Ty.rep ?_))) _ (by (simp only [typeNames, List.map, List.mem_cons, true_or, or_true])))
    case f2 => (repeat (first | refine (getL_rep_ne _ (by decide +kernel) _).trans ?_ | refine getL_rep _ ?_)); (first | assumption | exact Ty.has (by (repeat (first | assumption | refine Ty.rep ?_))) _ (by (simp only [typeNames, List.map, List.mem_cons, true_or, or_true])))
    case f3 => (repeat (first | refine (getL_rep_ne _ (by decide +kernel) _).trans ?_ | refine getL_rep _ ?_)); (first | assumption | exact Ty.has (by (repeat (first | assumption | refine Ty.rep ?_))) _ (by (simp only [typeNames, List.map, List.mem_cons, true_or, or_true])))
    case f4 => (repeat (first | refine (getL_rep_ne _ (by decide +kernel) _).trans ?_ | refine getL_rep _ ?_)); (first | assumption | exact Ty.has (by (repeat (first | assumption | refine Ty.rep ?_))) _ (by (simp only [typeNames, List.map, List.mem_cons, true_or, or_true])))
    case f5 => (repeat (first | refine (getL_rep_ne _ (by decide +kernel) _).trans ?_ | refine getL_rep _ ?_)); (first | assumption | exact Ty.has (by (repeat (first | assumption | refine Ty.rep ?_))) _ (by (simp only [typeNames, List.map, List.mem_cons, true_or, or_true])))
    case g1 => exact LI ((by assumption))
    case g3 => exact LI ((by assumption))
    case g2 => exact ⟨_, _, _, _, (by assumption), rfl, _, rfl⟩
    case g4 => exact ⟨_, _, _, (by assumption), rfl, _, rfl⟩
    case g5 => exact ⟨_, _, (by assumption), rfl, _, rfl⟩
    case g6 => exact LI ((by assumption))
    case g7 => exact ⟨_, _, (by assumption), rfl, _, rfl⟩
    case g8 => exact ⟨_, _, (by assumption), rfl, _, rfl⟩
    case g9 => exact ⟨_, _, (by assumption), rfl, _, rfl⟩
    case g10 => exact LI ((by assumption))
    case g11 => exact LI ((by assumption))
    case g12 => exact LI ((by assumption))
    case g13 => exact ⟨_, _, _, (by assumption), rfl, _, rfl⟩
    case g14 => exact ⟨_, _, _, (by assumption), rfl, _, rfl⟩
    case g15 => exact ⟨_, _, _, (by assumption), rfl, _, rfl⟩
end
end
section
def newA (g : Heap) (L : Addr) (h : Heap) : List Addr := (List.range h.objs.size).filter fun a => (g.get? a).isNone && decide (a ≠ L)
def allN (g : Heap) (L : Addr) (h : Heap) : List (Addr × Obj) := frO h (newA g L h)
theorem allN_in {g h : Heap} {L b : Addr} {o : Obj} (e : h.get? b = some o) (n : g.get? b = none) (nL : b ≠ L) : (b, o) ∈ allN g L h :=
 frO_in (List.mem_filter.mpr ⟨List.mem_range.mpr (Heap.lt_size e), by rw [n]; simpa using nL⟩) e
theorem allN_news {g h : Heap} {L : Addr} : News g L h (allN g L h) := fun q hq => by
 refine xAL (frO_mem hq) fun m1 m2 => ?_
 have := (List.mem_filter.mp m1).2
 rw [Bool.and_eq_true] at this
 exact ⟨m2, of_decide_eq_true this.2, by simpa using this.1⟩
theorem lawKeep {g h hc : Heap} {L : Addr} {m' : Str → Option Value} {l : List (Addr × Obj)} (F : g.StaysIn h) (F' : Fr g L hc m') (N' : News g L hc l) (hl : ∀ q ∈ allN g L h, q ∈ l) : KeepsOff [L] h hc := fun b o nb e => by
 cases q : g.get? b with
 | some o' =>
  have := F _ _ q
  rw [e] at this
  cases this
  exact F'.keep _ _ q
 | none => exact (N' _ (hl _ (allN_in e q fun z => nb (z ▸ .head _)))).1
theorem Fr.pin {g h : Heap} {L : Addr} {m : Str → Option Value} {x : Str} {v : Value} (F : Fr g L h m) (hm : m x = some v) : Fr g L h (fun y => if y = x then some v else m y) := by
 have : (fun y => if y = x then some v else m y) = m := by
  funext y
  by_cases e : y = x
  ·rw [if_pos e, e, hm]
  ·rw [if_neg e]
 rw [this]; exact F
theorem newsCons9 {g h : Heap} {L b : Addr} {o : Obj} {l : List (Addr × Obj)} (e : h.get? b = some o) (nL : b ≠ L) (n : g.get? b = none) (N : News g L h l) : News g L h ((b, o) :: l) := fun q hq => by
 rcases List.mem_cons.mp hq with rfl | hq
 ·exact ⟨e, nL, n⟩
 ·exact N q hq
theorem stOwn {w : World} {A : Around} {E : Value → Shared → Prop} {s : Shared} {name x : Str} {scope : Scope} {L a c : Addr} {cd v : Value} {vo : Option Value} {g : Heap} {m : Str → Option Value} {o : Obj} {Q : Unit → Shared → Prop} (F : Fr g L s.heap m) (ho : s.heap.get? c = some o) (hd : o.data = .cell vo) (cL : c ≠ L) (cg : g.get? c = none)
  (hc : (cellsFrom (L + 1) scope.names []).lookup x = some c)
  (h : ∀ h' o', Fr g L h' m → h'.get? c = some o' → o'.data = .cell (some v) → KeepsOff [c] s.heap h' → Q () { s with heap := h' })
  (hk : scope.kind = .function := by rfl) (hl : (envOfC name scope L a cd).kindOf x = some .cell := by rfl) :
  wpAny (model prog0 w) A (storeName (envOfC name scope L a cd) x v) Q E s := by
 refine wpAny_storeName_cell hk hl hc ⟨o, ho, hd⟩ fun h' hv hs => ?_
 (refine xEAL hv fun o' ho' hd' => ?_; try clear hv)
 have kp : KeepsOff [c] s.heap h' := fun b ob nb e => (hs.2 b (by simpa using nb)).trans e
 exact h h' o' (frButS F kp (List.forall_mem_cons.mpr ⟨⟨cg, cL⟩, List.forall_mem_nil _⟩)) ho' hd' kp
def PostJ (K : Shared → Prop) (Q : Flow → Shared → Prop) : Flow → Shared → Prop
 | .next => K
 | .cont => K
 | .brk => Q .next
 | .ret v => Q (.ret v)
def LoopJ (w : World) (A : Around) (env : Env) (target : PySem.Expr) (body : List Stmt) (Q : Flow → Shared → Prop) (E : Value → Shared → Prop) (it : Value) (s₂ : Shared) : Prop :=
 ∃ (n : Nat) (J : Nat → Shared → Prop), J 0 s₂ ∧
  (∀ i s, i < n → J i s → wpAny (model prog0 w) A (pyNext it) (fun r s₁ => ∃ v, r = some v ∧ wpAny (model prog0 w) A (letOwnedTupleGo target it v) (fun _ s₁' => wpAny (model prog0 w) A (assign target env v) (fun _ s₂ => wpAny (model prog0 w) A (execs body env) (PostJ (J (i + 1)) Q) E s₂) E s₁') E s₁) E s) ∧
  (∀ s, J n s → wpAny (model prog0 w) A (pyNext it) (fun r s₁ => r = none ∧ Q .next s₁) E s)
theorem For_J {w : World} {A : Around} {E : Value → Shared → Prop} {s : Shared} {env : Env} {target iter : PySem.Expr} {body : List Stmt} {pos : Pos} {Q : Flow → Shared → Prop}
  (h : wpAny (model prog0 w) A (eval iter env) (fun xv s₁ => wpAny (model prog0 w) A (pyIter xv) (fun it s₂ => LoopJ w A env target body Q E it s₂) E s₁) E s)
  (hs : ∀ x, foldedSetIterable iter env x = pure x := by intro _; rfl)
  (hE : PassesOwn (model prog0 w) A env E := by passes_own) :
  wpAny (model prog0 w) A (exec (.For target iter body [] pos) env) Q E s := by
 refine wpAny_For (wpAny_mono h (fun xv s₁ h₁ => wpAny_mono h₁ (fun it s₂ h₂ => ?_) fun _ _ e => e) fun _ _ e => e) hs
 (refine xEEAAL h₂ fun n J h0 step done => ?_; try clear h₂)
 refine codeAny_forLoop_any (R := fun r s' => match r with | .ok f => Q f s' | .error e => cameBackBy (model prog0 w) A env E e s') (fun k s' => ∃ i, J i s' ∧ i ≤ n ∧ k = n - i) ?_ n ⟨0, h0, Nat.zero_le _, rfl⟩
 intro k s' w49
 (refine xEAAL w49 fun i hJ hi z125x3 => ?_; try clear w49; subst z125x3)
 by_cases hlt : i < n
 ·refine wpAny_passesOwn hE (wpAny_mono (step i s' hlt hJ) (fun r s₁ x => ?_) fun _ _ e => e)
  (refine xEAL x fun v z444x1 y => ?_; clear x; subst z444x1)
  refine wpAny_passesOwn hE (wpAny_mono y (fun _ s₂ x => ?_) fun _ _ e => e)
  refine wpAny_passesOwn hE (wpAny_mono x (fun _ s₃ x => ?_) fun _ _ e => e)
  refine wpAny_passesOwn hE (wpAny_mono x (fun f s₄ x => ?_) fun _ _ e => e)
  cases f with
  | next => exact ⟨n - (i + 1), by omega, i + 1, x, hlt, rfl⟩
  | cont => exact ⟨n - (i + 1), by omega, i + 1, x, hlt, rfl⟩
  | brk => exact x
  | ret v => exact x
 ·have e : i = n := by omega
  subst e
  refine wpAny_passesOwn hE (wpAny_mono (done s' hJ) (fun r s₁ x => ?_) fun _ _ e => e)
  (refine xAL x fun z445x0 y => ?_; clear x; subst z445x0)
  exact wpAny_execs_nil y
structure LW (w : World) (hB g : Heap) (L : Addr) (c : LC) (v : LV) (h : Heap) : Prop where
 X : LS w hB h c v
 st : hB.StaysIn h
 gB : g.StaysIn hB
 Ln : hB.get? L = none ∧ L ∉ v.at c
 Lo : ∃ o, h.get? L = some o
 c1o : ∃ o, h.get? (L + 1) = some o ∧ o.data = .cell (some (.ref c.O))
 c2o : ∃ o x, h.get? (L + 1 + 1) = some o ∧ o.data = .cell x
 c1n : hB.get? (L + 1) = none ∧ L + 1 ∉ v.at c
 c2n : hB.get? (L + 1 + 1) = none ∧ L + 1 + 1 ∉ v.at c
section
variable {w : World} {hB g h h' hc : Heap} {L : Addr} {c : LC} {v v' : LV} {m : Str → Option Value} {S : List Addr}
theorem LW.gn (W : LW w hB g L c v h) {a : Addr} (n : hB.get? a = none) : g.get? a = none := by
 cases q : g.get? a with
 | none => rfl
 | some o => rw [W.gB _ _ q] at n; cases n
theorem neL1 {L : Nat} : (L + 1 : Nat) ≠ L := by omega
theorem neL2 {L : Nat} : (L + 1 + 1 : Nat) ≠ L := by omega
theorem neL12 {L : Nat} : (L + 1 : Nat) ≠ L + 1 + 1 := by omega
theorem LW.move (W : LW w hB g L c v h) (k : KeepsOff [L] h hc) (F : Fr g L hc m) : LW w hB g L c v hc := by
 have n1 : L + 1 ∉ [L] := fun q => neL1 (List.mem_singleton.mp q)
 have n2 : L + 1 + 1 ∉ [L] := fun q => neL2 (List.mem_singleton.mp q)
 refine ⟨W.X.off k (fun a ha q => W.Ln.2 ((List.mem_singleton.mp q) ▸ ha)), fun b o e => k b o (fun q => ?_) (W.st _ _ e), W.gB, W.Ln, ?_, ?_, ?_, W.c1n, W.c2n⟩
 ·rw [List.mem_singleton.mp q, W.Ln.1] at e; cases e
 ·refine xEEEAL (F.ns) fun oL _ _ hL _ => ?_; exact ⟨_, hL⟩
 ·refine xEAL (W.c1o) fun o a b => ?_; exact ⟨o, k _ _ n1 a, b⟩
 ·refine xEEAL (W.c2o) fun o x a b => ?_; exact ⟨o, x, k _ _ n2 a, b⟩
theorem LW.step (W : LW w hB g L c v h) (k : KeepsOff S h h') (hS : ∀ a ∈ S, a ∈ v.at c) (X' : LS w hB h' c v') (hn : ∀ a ∈ v'.at c, a ∈ v.at c ∨ h.get? a = none) : LW w hB g L c v' h' := by
 refine xEAL (W.c1o) fun o1 a1 b1 => ?_
 refine xEEAL (W.c2o) fun o2 x2 a2 b2 => ?_
 refine xEL (W.Lo) fun oL aL => ?_
 have no : ∀ {a o}, h.get? a = some o → a ∉ v.at c → a ∉ v'.at c := fun e n q => (hn _ q).elim n fun z => by rw [e] at z; cases z
 refine ⟨X', fun b o e => k b o (fun q => ?_) (W.st _ _ e), W.gB, ⟨W.Ln.1, no aL W.Ln.2⟩, ⟨oL, k _ _ (fun q => W.Ln.2 (hS _ q)) aL⟩, ⟨o1, k _ _ (fun q => W.c1n.2 (hS _ q)) a1, b1⟩, ⟨o2, x2, k _ _ (fun q => W.c2n.2 (hS _ q)) a2, b2⟩, ⟨W.c1n.1, no a1 W.c1n.2⟩, ⟨W.c2n.1, no a2 W.c2n.2⟩⟩
 rw [W.X.hb _ (hS _ q)] at e; cases e
theorem LW.fr (W : LW w hB g L c v h) (F : Fr g L h m) (k : KeepsOff S h h') (hS : ∀ a ∈ S, a ∈ v.at c) : Fr g L h' m :=
 frButS F k fun a ha => ⟨W.gn (W.X.hb _ (hS a ha)), fun q => W.Ln.2 (q ▸ hS a ha)⟩
theorem LW.led (W : LW w hB g L c v h) : ∃ o1 o2, News g L h ((L + 1 + 1, o1) :: (L + 1, o2) :: allN g L h) ∧ (∃ x, o1.data = .cell x) ∧ o2.data = .cell (some (.ref c.O)) := by
 refine xEAL (W.c1o) fun o1 a1 b1 => ?_
 refine xEEAL (W.c2o) fun o2 x2 a2 b2 => ?_
 exact ⟨o2, o1, newsCons9 a2 neL2 (W.gn W.c2n.1) (newsCons9 a1 neL1 (W.gn W.c1n.1) allN_news), ⟨_, b2⟩, b1⟩
theorem LW.deed {env : Env} {A : List Addr} (W : LW w hB g L c v h) (F : Fr g L h m) (hf : frs [env] = [L]) (d : DS w hB h c v [env] h' v' A) (k : ∀ b o, h.get? b = some o → b ∉ v.at c ++ frs [env] → h'.get? b = some o) : LW w hB g L c v' h' ∧ Fr g L h' m := by
 rw [hf] at k
 refine xEAL (W.c1o) fun o1 a1 b1 => ?_
 refine xEEAL (W.c2o) fun o2 x2 a2 b2 => ?_
 refine xEL (W.Lo) fun oL aL => ?_
 have up := d.up
 have nw := d.nw
 have sf := d.sf
 rw [hf] at up nw sf
 have n1 : L + 1 ∉ v.at c ++ [L] := fun q => (List.mem_append.mp q).elim W.c1n.2 fun z => neL1 (List.mem_singleton.mp z)
 have n2 : L + 1 + 1 ∉ v.at c ++ [L] := fun q => (List.mem_append.mp q).elim W.c2n.2 fun z => neL2 (List.mem_singleton.mp z)
 have no : ∀ {a o}, h.get? a = some o → a ∉ v.at c ++ [L] → a ∉ v'.at c := fun e n q => by
  rcases nw _ (d.at_ _ q) with z | z | z
  ·exact n (List.mem_append_left _ z)
  ·exact n (List.mem_append_right _ z)
  ·rw [e] at z; cases z
 refine xEL (up L oL (.head _) aL) fun sl hsl => ?_
 refine ⟨⟨d.X, fun b o e => k b o (W.st _ _ e) fun q => ?_, W.gB, ⟨W.Ln.1, fun q => sf _ q (.head _)⟩, ⟨_, hsl⟩, ⟨o1, k _ _ a1 n1, b1⟩, ⟨o2, x2, k _ _ a2 n2, b2⟩, ⟨W.c1n.1, no a1 n1⟩, ⟨W.c2n.1, no a2 n2⟩⟩, ?_⟩
 ·rcases List.mem_append.mp q with z | z
  ·rw [W.X.hb _ z] at e; cases e
  ·rw [List.mem_singleton.mp z, W.Ln.1] at e; cases e
 ·refine xEEEAAL (F.ns) fun oL' es ep hL hd r => ?_
  refine xEL (up L oL' (.head _) hL) fun sl' hs => ?_
  refine ⟨⟨_, es, ep, hs, hd, r⟩, fun b o e => k b o (F.keep b o e) fun q => ?_, F.above⟩
  rcases List.mem_append.mp q with z | z
  ·rw [W.gn (W.X.hb _ z)] at e; cases e
  ·rw [List.mem_singleton.mp z, fr_self F] at e; cases e
end
end
section
theorem sBounds : Str.ofString "bounds" = ⟨#[98, 111, 117, 110, 100, 115]⟩ := by decide +kernel
theorem sType : Str.ofString "type" = ⟨#[116, 121, 112, 101]⟩ := by decide +kernel
section
variable {w : World} {h a b c : Heap} {S1 S2 : List Addr}
theorem KeepsOff.tr (x : KeepsOff S1 a b) (y : KeepsOff S2 b c) : KeepsOff (S1 ++ S2) a c := fun z o n e => y z o (fun q => n (List.mem_append_right _ q)) (x z o (fun q => n (List.mem_append_left _ q)) e)
theorem KeepsOff.sub (x : KeepsOff S1 a b) (h : ∀ z ∈ S1, z ∈ S2) : KeepsOff S2 a b := fun z o n e => x z o (fun q => n (h _ q)) e
theorem neObj {x y : Addr} {ox oy : Obj} (hx : h.get? x = some ox) (hy : h.get? y = some oy) (n : ox ≠ oy) : x ≠ y := fun q => n (by rw [q, hy] at hx; exact (Option.some.inj hx).symm)
theorem neCls {x y : Addr} {ox oy : Obj} (hx : h.get? x = some ox) (hy : h.get? y = some oy) (n : ox.cls ≠ oy.cls) : x ≠ y := neObj hx hy fun q => n (by rw [q])
theorem neOld {x y : Addr} {o : Obj} (hx : h.get? x = some o) (hy : h.get? y = none) : x ≠ y := fun q => by rw [q, hy] at hx; cases hx
theorem neDat {x y : Addr} {ox oy : Obj} (hx : h.get? x = some ox) (hy : h.get? y = some oy) (n : ox.data ≠ oy.data) : x ≠ y := neObj hx hy fun q => n (by rw [q])
theorem rec_nodup {R RD FD RT Y YD YB YI tp : Addr} {kvs : List (Str × Value)} {D : DD} (r : RecAt w h R RD FD RT kvs) (k : RecKv Y D kvs) (x : ArrSt h Y YD YB YI tp D) : ([R, RD, FD] ++ bX D [Y, YD, YB, YI, tp]).Nodup := by
 have n := r.ne
 have e1 := n.1
 have e2 := n.2.1
 have e3 := n.2.2
 have base : ([R, RD, FD] : List Addr).Nodup := by
  simp only [List.nodup_cons, List.mem_cons, List.not_mem_nil, or_false, not_or, not_false_eq_true, List.nodup_nil, and_true]
  exact ⟨⟨e3, Ne.symm e1⟩, Ne.symm e2⟩
 cases D with
 | a c x => simpa [bX] using base
 | e c => simpa [bX] using base
 | b c f z =>
  (refine xEEEL k fun t0 t1 t2 z460x3 => ?_; try clear k; subst z460x3)
  (refine xAEEEAAL x fun hA ta tb oT hT cT _ => ?_; try clear x)
  have gR := r.o1
  refine xEEEEEL (r.o2) fun _ _ _ _ _ gRD => ?_
  (refine xEAEEAAAAL (r.o3) fun oF gF es ep z463x4 dF _ pF _ => ?_; (refine xAL z463x4 fun cF _ => ?_; try clear z463x4))
  have lF := pF.length
  have gY := hA.o1
  refine xEEEEEL (hA.o2) fun _ _ _ _ _ gYD => ?_
  refine xEL (hA.o3) fun _ gYB => ?_
  refine xEEEL (hA.o4) fun _ _ _ gYI => ?_
  have b1 : R ≠ Y := neCls gR gY (by first | k_mem | simp)
  have b2 : R ≠ YD := neCls gR gYD (by first | k_mem | simp)
  have b3 : R ≠ YB := neCls gR gYB (by first | k_mem | simp)
  have b4 : R ≠ YI := neCls gR gYI (by first | k_mem | simp)
  have b5 : R ≠ tp := neCls gR hT (by rw [cT]; simp)
  have c1 : RD ≠ Y := neCls gRD gY (by first | k_mem | simp)
  have c2 : RD ≠ YD := neDat gRD gYD (by simp [sType, sBounds])
  have c3 : RD ≠ YB := neCls gRD gYB (by first | k_mem | simp)
  have c4 : RD ≠ YI := neCls gRD gYI (by first | k_mem | simp)
  have c5 : RD ≠ tp := neCls gRD hT (by rw [cT]; simp)
  have d1 : FD ≠ Y := neCls gF gY (by rw [cF]; simp)
  have d2 : FD ≠ YD := neDat gF gYD (by
   rw [dF]
   intro q
   have q' := congrArg (fun d => match d with | Data.dict es _ => es.toList.length | _ => 0) q
   simp only at q'
   rw [lF] at q'
   simp at q')
  have d3 : FD ≠ YB := neCls gF gYB (by rw [cF]; simp)
  have d4 : FD ≠ YI := neCls gF gYI (by rw [cF]; simp)
  have d5 : FD ≠ tp := neCls gF hT (by rw [cF, cT]; simp)
  have f1 : Y ≠ YD := neCls gY gYD (by first | k_mem | simp)
  have f2 : Y ≠ YB := neCls gY gYB (by first | k_mem | simp)
  have f3 : Y ≠ YI := neCls gY gYI (by first | k_mem | simp)
  have f4 : Y ≠ tp := neCls gY hT (by rw [cT]; simp)
  have g1 : YD ≠ YB := neCls gYD gYB (by first | k_mem | simp)
  have g2 : YD ≠ YI := neCls gYD gYI (by first | k_mem | simp)
  have g3 : YD ≠ tp := neCls gYD hT (by rw [cT]; simp)
  have i1 : YB ≠ YI := neDat gYB gYI (by first | k_mem | simp)
  have i2 : YB ≠ tp := neCls gYB hT (by rw [cT]; simp)
  have j1 : YI ≠ tp := neCls gYI hT (by rw [cT]; simp)
  simp only [bX, List.cons_append, List.nil_append, List.nodup_cons, List.mem_cons, List.not_mem_nil, or_false, not_or, not_false_eq_true, List.nodup_nil, and_true]
  exact ⟨⟨e3, Ne.symm e1, b1, b2, b3, b4, b5⟩, ⟨Ne.symm e2, c1, c2, c3, c4, c5⟩, ⟨d1, d2, d3, d4, d5⟩, ⟨f1, f2, f3, f4⟩, ⟨g1, g2, g3⟩, ⟨i1, i2⟩, j1⟩
end
theorem setCell {w : World} {A : Around} {E : Value → Shared → Prop} {s : Shared} {g : Heap} {L C CD : Addr} {m : Str → Option Value} {h1 h2 h3 : Int} {t1 t2 t3 : Tok} {a1 a2 v v3 : Value} {n : Nat} {Q : Unit → Shared → Prop} (X : (hd.heap_39 w.params).In g) (F : Fr g L s.heap m) (gC : s.heap.get? C = some (instObj 110 CD)) (gCD : s.heap.get? CD = some (cellD h1 t1 a1 h2 t2 a2 h3 t3 v3 n)) (z : CD ≠ L ∧ g.get? CD = none)
  (h : ∀ h', Fr g L h' m → h'.get? CD = some (cellD h1 t1 a1 h2 t2 a2 h3 t3 v n) → KeepsOff [L, CD] s.heap h' → Q () { s with heap := h', toks := s.toks + 2 }) : wpAny (model prog0 w) A (setAttr (.ref C) (Str.ofString "subtype") v) Q E s := by
 have N : News g L s.heap ((CD, cellD h1 t1 a1 h2 t2 a2 h3 t3 v3 n) :: (allN g L s.heap).filter fun p => decide (p.1 ≠ CD)) := newsCons9 gCD z.1 z.2 fun q hq => allN_news q (List.mem_filter.mp hq).1
 have q1 : (Str.ofString "value" == Str.ofString "subtype") = false := by decide +kernel
 have q2 : (Str.ofString "number" == Str.ofString "subtype") = false := by decide +kernel
 unfold cellD at N gCD
 refine set_dict F X N ⟨gC, rfl, rfl, gCD⟩ rfl ?hs ?hp ?ht ?hh ?hl ?e (.head fun p hp => of_decide_eq_true (List.mem_filter.mp hp).2) ?hz fun h' F' N' => h h' F' (N' _ (.head _)).1 fun b o nb e => ?_
 case hs => k_is
 case hp => k_is
 case ht => k_is
 case hh => k_is
 case hl => simp [getL, isStr_str, q1, q2]
 case e => simp [putL, putN, isStr_str, q1, q2]
 case hz => simp
 cases x : g.get? b with
 | some o' =>
  have := F.keep _ _ x
  rw [e] at this
  cases this
  exact F'.keep _ _ x
 | none => exact (N' _ (.tail _ (List.mem_filter.mpr ⟨allN_in e x fun y => nb (by rw [y]; exact .head _), decide_eq_true fun y => nb (by have y' : b = CD := y; rw [y']; simp)⟩))).1
theorem law_start {w : World} {g hx hk h4 h5 h11 : Heap} {L T O Dl KT S0 S1 Sb RT R RD FD Y YD YB YI tp H HY C CD NL : Addr} {m : Str → Option Value} {ws : List Value} {ns : List Int} {n' : Int} {t : Tok} {D : DD} {kvs hk' : List (Str × Value)} {oT' oO' oH oL oT oO o1 o2 o3 o4 : Obj} {ca nn : Nat}
  (F : Fr g L h11 m) (kinds : ∀ h'', (∀ b o, hx.get? b = none → hk.get? b = some o → h''.get? b = some o) → Kinds h'' KT S0 S1 Sb RT)
  (gL : hx.get? L = some oL) (gc1 : hx.get? (L + 1) = some o1) (gc2 : hx.get? (L + 1 + 1) = some o2) (gT : hx.get? T = some oT) (gO : hx.get? O = some oO) (gD : hx.get? Dl = some (W.listOf ws.toArray ca))
  (zT : T ≠ L ∧ g.get? T = none) (zO : O ≠ L ∧ g.get? O = none) (zc1 : g.get? (L + 1) = none) (zc2 : g.get? (L + 1 + 1) = none)
  (nOT : O ≠ T) (nDT : Dl ≠ T) (nDO : Dl ≠ O) (nDL : Dl ≠ L ∧ Dl ≠ L + 1 ∧ Dl ≠ L + 1 + 1) (nT : T ≠ L + 1 ∧ T ≠ L + 1 + 1) (nO : O ≠ L + 1 ∧ O ≠ L + 1 + 1)
  (loT : (T == sysModules) = false) (hi : IntsAre ws ns) (hns : ns.length ≤ 60) (sys : ∃ o, g.get? sysModules = some o)
  (kk : Keeps hx hk) (gL4 : ∃ o, h4.get? L = some o) (g14 : ∃ o, h4.get? (L + 1) = some o) (k4 : KeepsOff [L, L + 1] hk h4) (sg : ∀ b o, g.get? b = some o → h4.get? b = some o)
  (k5 : KeepsOff [T, O] h4 h5) (okD : D.Ok) (gT' : h5.get? T = some oT') (dT' : TapeIs w oT' Dl n') (gO' : h5.get? O = some oO') (dO' : oO'.IsDictOf (PySem.strKind prog0 w) [(Str.ofString "d", .int D.d t), (Str.ofString "has", .ref H)]) (gH : h5.get? H = some oH) (dH : oH.IsDictOf (PySem.strKind prog0 w) hk') (kh : HasKv HY D hk') (hy : HYat h5 HY D)
  (rA : RecAt w h5 R RD FD RT kvs) (rK : RecKv Y D kvs) (aS : ArrSt h5 Y YD YB YI tp D) (hfr : ∀ a ∈ [H, R, RD, FD] ++ bX D [Y, YD, YB, YI, tp, HY], h4.get? a = none) (hap : ∀ a ∈ [R, RD, FD] ++ bX D [Y, YD, YB, YI, tp], a ≠ H ∧ a ∉ bX D [HY])
  (k11 : KeepsOff [L] h5 h11) (nC : h5.get? C = none) (nCD : h5.get? CD = none) (nNL : h5.get? NL = none) (cC : CellAt h11 C CD R) (eNL : h11.get? NL = some (W.listOf #[] nn)) (qC : NL ≠ C) (qCD : NL ≠ CD)
  (c1 : h11.get? (L + 1) = some o3) (c1d : o3.data = .cell (some (.ref O))) (c2 : h11.get? (L + 1 + 1) = some o4) {x4 : Option Value} (c2d : o4.data = .cell x4) :
  ∃ hB v, KD hB ⟨T, O, NL, R, RD, RT, Dl, ws, ns⟩ KT S0 S1 Sb C ∧ LW w hB g L ⟨T, O, NL, R, RD, RT, Dl, ws, ns⟩ v h11 ∧ v.Dh = v.D ∧ v.vals = [] ∧ v.n = n' := by
 obtain ⟨v, hv⟩ : ∃ v : LV, v = ⟨n', D, D, H, HY, FD, Y, YD, YB, YI, tp, [], []⟩ := ⟨_, rfl⟩
 obtain ⟨c, hc⟩ : ∃ c : LC, c = ⟨T, O, NL, R, RD, RT, Dl, ws, ns⟩ := ⟨_, rfl⟩
 have eB : v.sB c = [O, H] ++ bX D [HY] := by rw [hv, hc]; rfl
 have eR : v.sR c = [R, RD, FD] ++ bX D [Y, YD, YB, YI, tp] := by rw [hv, hc]; rfl
 have eA : v.at c = T :: NL :: (v.sB c ++ v.sR c ++ []) := by rw [hv, hc]; rfl
 -- where each stands
 have g4 : ∀ {a : Addr} {o : Obj}, hx.get? a = some o → a ≠ L → a ≠ L + 1 → h4.get? a = some o := fun e n1 n2 => k4 _ _ (by simp [n1, n2]) (kk _ _ e)
 have gT4 := g4 gT zT.1 nT.1
 have gO4 := g4 gO zO.1 nO.1
 have gD4 := g4 gD nDL.1 nDL.2.1
 have g24 := g4 gc2 neL2 (Ne.symm neL12)
 have newS : ∀ a ∈ [H] ++ bX D [HY] ++ v.sR c, h4.get? a = none := fun a ha => by
  rw [eR] at ha
  rcases List.mem_append.mp ha with ha | ha
  ·rcases List.mem_append.mp ha with ha | ha
   ·exact hfr a (List.mem_append_left _ (by rw [List.mem_singleton.mp ha]; exact .head _))
   ·refine hfr a (List.mem_append_right _ ?_)
    cases D <;> simp only [bX, List.not_mem_nil, List.mem_singleton] at ha
    rw [ha]; simp [bX]
  ·rcases List.mem_append.mp ha with ha | ha
   ·exact hfr a (List.mem_append_left _ (.tail _ ha))
   ·refine hfr a (List.mem_append_right _ ?_)
    cases D <;> simp only [bX, List.not_mem_nil] at ha
    simp only [List.mem_cons, List.not_mem_nil, or_false] at ha
    rcases ha with rfl | rfl | rfl | rfl | rfl <;> simp [bX]
 have there5 : ∀ a ∈ T :: (v.sB c ++ v.sR c), ∃ o, h5.get? a = some o := fun a ha => by
  rw [eB, eR] at ha
  rcases List.mem_cons.mp ha with rfl | ha
  ·exact ⟨_, gT'⟩
  rcases List.mem_append.mp ha with ha | ha
  ·rcases List.mem_append.mp ha with ha | ha
   ·simp only [List.mem_cons, List.not_mem_nil, or_false] at ha
    rcases ha with rfl | rfl
    ·exact ⟨_, gO'⟩
    ·exact ⟨_, gH⟩
   ·refine xEEL (hy.list ha) fun _ _ e => ?_; exact ⟨_, e⟩
  ·exact recs_there rA aS a ha
 -- what is not among them
 have out : ∀ a, a ≠ T → a ≠ O → a ≠ NL → (∃ o, h4.get? a = some o) → a ∉ v.at c := fun a n1 n2 n3 ⟨o, e⟩ q => by
  rw [eA, eB] at q
  rcases List.mem_cons.mp q with z | q
  ·exact n1 z
  rcases List.mem_cons.mp q with z | q
  ·exact n3 z
  rw [List.append_nil] at q
  have : a = O ∨ a ∈ [H] ++ bX D [HY] ++ v.sR c := by
   rcases List.mem_append.mp q with q | q
   ·rcases List.mem_cons.mp q with q | q
    ·exact .inl q
    ·exact .inr (List.mem_append_left _ q)
   ·exact .inr (List.mem_append_right _ q)
  rcases this with z | z
  ·exact n2 z
  ·rw [newS a z] at e; cases e
 have o5 : ∀ {a : Addr} {o : Obj}, h4.get? a = some o → ∃ o', h5.get? a = some o' := fun {a o} e => by
  by_cases z : a ∈ [T, O]
  ·simp only [List.mem_cons, List.not_mem_nil, or_false] at z
   rcases z with rfl | rfl
   ·exact ⟨_, gT'⟩
   ·exact ⟨_, gO'⟩
  ·exact ⟨_, k5 _ _ z e⟩
 have nlNe : ∀ {a : Addr} {o : Obj}, h5.get? a = some o → a ≠ NL := fun e q => by rw [q, nNL] at e; cases e
 have outN : ∀ a, h5.get? a = none → a ≠ NL → a ∉ v.at c := fun a n n3 q => by
  rw [eA, List.append_nil] at q
  have : a ∈ T :: (v.sB c ++ v.sR c) := by
   rcases List.mem_cons.mp q with z | q
   ·exact z ▸ .head _
   rcases List.mem_cons.mp q with z | q
   ·exact absurd z n3
   ·exact .tail _ q
  refine xEL (there5 a this) fun o e => ?_
  rw [n] at e; cases e
 (refine xEL gL4 fun oL4 gL4 => ?_)
 (refine xEL g14 fun o14 g14 => ?_)
 refine xEL (o5 gL4) fun _ L5 => ?_
 refine xEL (o5 g14) fun _ c15 => ?_
 refine xEL (o5 g24) fun _ c25 => ?_
 obtain ⟨hB, hhB⟩ : ∃ hB, hB = hideAll h11 ([L, L + 1, L + 1 + 1] ++ v.at c) := ⟨_, rfl⟩
 have hid : ∀ a ∈ [L, L + 1, L + 1 + 1] ++ v.at c, hB.get? a = none := fun a ha => by rw [hhB]; exact hideAll_none _ ha
 have shw : ∀ b o, h11.get? b = some o → b ∉ [L, L + 1, L + 1 + 1] ++ v.at c → hB.get? b = some o := fun b o e n => by rw [hhB]; exact hideAll_get _ e n
 have hid1 : ∀ a ∈ v.at c, hB.get? a = none := fun a ha => hid a (List.mem_append_right _ ha)
 have hidL := hid L (by first | k_mem | simp)
 have hid11 := hid (L + 1) (by first | k_mem | simp)
 have hid12 := hid (L + 1 + 1) (by first | k_mem | simp)
 have notin : ∀ b, b ≠ L → b ≠ L + 1 → b ≠ L + 1 + 1 → b ∉ v.at c → b ∉ [L, L + 1, L + 1 + 1] ++ v.at c := fun b n1 n2 n3 n4 q => by
  rcases List.mem_append.mp q with q | q
  ·simp only [List.mem_cons, List.not_mem_nil, or_false] at q
   rcases q with q | q | q
   ·exact n1 q
   ·exact n2 q
   ·exact n3 q
  ·exact n4 q
 have old11 : ∀ {b : Addr} {o : Obj}, h4.get? b = some o → b ≠ T → b ≠ O → b ≠ L → h11.get? b = some o := fun e n1 n2 n3 => k11 _ _ (by simpa using n3) (k5 _ _ (by simp [n1, n2]) e)
 have nLB : ∀ {b : Addr} {o : Obj}, h4.get? b = some o → b ≠ NL := fun e => let ⟨_, e5⟩ := o5 e; nlNe e5
 have KN : Kinds hB KT S0 S1 Sb RT := kinds hB fun b o n e => by
  have ne : ∀ {a : Addr} {oa : Obj}, hx.get? a = some oa → b ≠ a := fun ea q => by rw [← q, n] at ea; cases ea
  have e4 := k4 b o (by simp [ne gL, ne gc1]) e
  exact shw b o (old11 e4 (ne gT) (ne gO) (ne gL)) (notin b (ne gL) (ne gc1) (ne gc2) (out b (ne gT) (ne gO) (nLB e4) ⟨_, e4⟩))
 have gh : ∀ a ∈ [L, L + 1, L + 1 + 1] ++ v.at c, g.get? a = none := fun a ha => by
  rcases List.mem_append.mp ha with q | q
  ·simp only [List.mem_cons, List.not_mem_nil, or_false] at q
   rcases q with rfl | rfl | rfl
   ·exact fr_self F
   ·exact zc1
   ·exact zc2
  ·cases e : g.get? a with
   | none => rfl
   | some o =>
    have e4 := sg _ _ e
    refine absurd q (out a (fun z => ?_) (fun z => ?_) (nLB e4) ⟨_, e4⟩)
    ·rw [z, zT.2] at e; cases e
    ·rw [z, zO.2] at e; cases e
 have gB : g.StaysIn hB := fun b o e => shw b o (F.keep b o e) fun q => by rw [gh b q] at e; cases e
 have nNew : ∀ {a : Addr}, h5.get? a = none → a ≠ L ∧ a ≠ L + 1 ∧ a ≠ L + 1 + 1 := fun n => ⟨fun q => (by rw [q, L5] at n; cases n), fun q => (by rw [q, c15] at n; cases n), fun q => (by rw [q, c25] at n; cases n)⟩
 have sh5 : ∀ {a : Addr}, h5.get? a = none → a ≠ NL → ∀ o, h11.get? a = some o → hB.get? a = some o := fun n q o e => shw _ o e (notin _ (nNew n).1 (nNew n).2.1 (nNew n).2.2 (outN _ n q))
 have gD11 := old11 gD4 nDT nDO nDL.1
 have gDB := shw Dl _ gD11 (notin Dl nDL.1 nDL.2.1 nDL.2.2 (out Dl nDT nDO (nLB gD4) ⟨_, gD4⟩))
 have atL : ∀ a ∈ v.at c, a ∉ [L] := fun a ha q => out L (Ne.symm zT.1) (Ne.symm zO.1) (nLB gL4) ⟨_, gL4⟩ ((List.mem_singleton.mp q) ▸ ha)
 have iB : ∀ a ∈ v.sB c, a ∈ v.at c := fun a ha => .tail _ (.tail _ (List.mem_append_left _ (List.mem_append_left _ ha)))
 have iR : ∀ a ∈ v.sR c, a ∈ v.at c := fun a ha => .tail _ (.tail _ (List.mem_append_left _ (List.mem_append_right _ ha)))
 have iT : T ∈ v.at c := by rw [eA]; exact .head _
 have iO : O ∈ v.sB c := by rw [eB]; simp
 have iH : H ∈ v.sB c := by rw [eB]; simp
 have nwT : T ∉ [H] ++ bX D [HY] ++ v.sR c := fun q => by rw [newS T q] at gT4; cases gT4
 have nwO : O ∉ [H] ++ bX D [HY] ++ v.sR c := fun q => by rw [newS O q] at gO4; cases gO4
 have X : LS w hB h11 c v := by
  have bk0 : BK w h11 O H HY D := ⟨oO', oH, t, hk', k11 _ _ (atL _ (iB _ iO)) gO', dO', k11 _ _ (atL _ (iB _ iH)) gH, dH, kh, hy.off k11 fun a ha => atL a (iB a (by rw [eB]; exact List.mem_append_right _ ha))⟩
  have rc0 : RC w h11 R RD RT FD Y YD YB YI tp D := RC.off (S := [L]) ⟨kvs, rA, rK, aS⟩ k11 fun a ha => atL a (iR a (by rw [eR]; exact ha))
  have nd1 : (v.sB c).Nodup := by
   rw [eB]
   have q1 : O ≠ H := fun q => nwO (by rw [q]; simp)
   have q2 : ∀ a ∈ bX D [HY], O ≠ a := fun a ha q => nwO (by rw [q]; exact List.mem_append_left _ (List.mem_append_right _ ha))
   have q3 : ∀ a ∈ bX D [HY], H ≠ a := fun a ha => by
    refine xEEL (hy.list ha) fun _ _ e => ?_
    (refine xEEAL dH fun _ _ z475x2 _ => ?_; try clear dH; (refine xAL z475x2 fun cH _ => ?_; try clear z475x2))
    exact neCls gH e (by rw [cH]; simp)
   revert q2 q3
   cases D <;> intro q2 q3
   ·simpa [bX] using q1
   ·have := q2 HY (by simp [bX]); have := q3 HY (by simp [bX]); simp [bX, *]
   ·simpa [bX] using q1
  have nd2 : (v.sR c).Nodup := by rw [eR]; exact rec_nodup rA rK aS
  have s1 : T ∉ v.sB c ++ v.sR c ++ [NL] := fun q => by
   rcases List.mem_append.mp q with q | q
   ·rcases List.mem_append.mp q with q | q
    ·rw [eB] at q
     rcases List.mem_append.mp q with q | q
     ·simp only [List.mem_cons, List.not_mem_nil, or_false] at q
      rcases q with q | q
      ·exact nOT q.symm
      ·exact nwT (by rw [q]; simp)
     ·exact nwT (List.mem_append_left _ (List.mem_append_right _ q))
    ·exact nwT (List.mem_append_right _ q)
   ·exact nLB gT4 (List.mem_singleton.mp q)
  have s2 : ∀ a ∈ v.sB c, a ∉ v.sR c ++ [NL] := fun a ha q => by
   rcases List.mem_append.mp q with q | q
   ·rw [eB] at ha
    rw [eR] at q
    rcases List.mem_append.mp ha with ha | ha
    ·simp only [List.mem_cons, List.not_mem_nil, or_false] at ha
     rcases ha with rfl | rfl
     ·exact nwO (List.mem_append_right _ (by rw [eR]; exact q))
     ·exact (hap _ q).1 rfl
    ·exact (hap _ q).2 ha
   ·refine xEL (there5 a (.tail _ (List.mem_append_left _ ha))) fun o e => ?_
    exact nlNe e (List.mem_singleton.mp q)
  have s3 : NL ∉ v.sR c := fun q => by
   refine xEL (there5 NL (.tail _ (List.mem_append_right _ q))) fun o e => ?_
   exact nlNe e rfl
  have tk0 : TapeOk w hB hB T Dl ws ns := ⟨hid1 T iT, loT, ⟨_, gDB, rfl, _, rfl⟩, hi, nDT, hns⟩
  have tp0 : TP w h11 T Dl n' := ⟨oT', k11 _ _ (atL _ iT) gT', dT'⟩
  subst hv
  subst hc
  exact ⟨tk0, tp0, bk0, rc0, ⟨⟨nn, eNL⟩, (fun _ q => nomatch q), Nat.zero_le _, Nat.zero_le _⟩, okD, okD, s1, s2, s3, (fun _ q => nomatch q), nd1, nd2, hid1, (fun _ q => nomatch q)⟩
 refine ⟨hB, v, hc ▸ ⟨KN.kt, KN.num, by rw [hc]; exact KN.rk, ?_, ?_⟩, hc ▸ ⟨X, fun b o e => by rw [hhB] at e; exact of_hideAll _ e, gB, ⟨hidL, fun q => atL L q (.head _)⟩, ⟨_, F.ns.choose_spec.choose_spec.choose_spec.1⟩, ⟨o3, c1, by rw [hc]; exact c1d⟩, ⟨o4, x4, c2, c2d⟩, ⟨hid11, out (L + 1) (Ne.symm nT.1) (Ne.symm nO.1) (nLB g14) ⟨_, g14⟩⟩, ⟨hid12, out (L + 1 + 1) (Ne.symm nT.2) (Ne.symm nO.2) (nLB g24) ⟨_, g24⟩⟩⟩, by rw [hv], by rw [hv], by rw [hv]⟩
 ·obtain ⟨x1, x2⟩ := cC
  (refine xEEEEEEEEEL x2 fun y1 y2 y3 y4 y5 y6 y7 y8 y9 e => ?_; try clear x2)
  rw [hc]
  exact ⟨CD, sh5 nC (Ne.symm qC) _ x1, y1, y2, y3, y4, y5, y6, y7, y8, y9, sh5 nCD (Ne.symm qCD) _ e⟩
 ·(refine xEL sys fun o e => ?_; try clear sys)
  exact ⟨o, gB _ _ e⟩
end
section
def lawMap (c : LC) (C KT : Addr) (u : Str → Option Value) : Str → Option Value := fun y => if y = Str.ofString "tape" then some (.ref c.T) else if y = Str.ofString "cell" then some (.ref C) else if y = Str.ofString "names" then some (.ref c.NL) else if y = Str.ofString "kinds" then some (.ref KT) else u y
theorem allLt_mem {l : Addr} {p : Addr × Obj} : ∀ {xs : List (Addr × Obj)}, AllLt l xs → p ∈ xs → p.1 < l
 | [], _, h => nomatch h
 | _ :: _, h, hm => by
  rcases List.mem_cons.mp hm with rfl | hm
  ·exact h.1
  ·exact allLt_mem h.2 hm
section
variable {w : World} {hB hB' g h h' hc : Heap} {L C KT : Addr} {c : LC} {v v' : LV} {m : Str → Option Value} {S : List Addr}
theorem Fr.law (F : Fr g L h m) (h1 : m (Str.ofString "tape") = some (.ref c.T)) (h2 : m (Str.ofString "cell") = some (.ref C)) (h3 : m (Str.ofString "names") = some (.ref c.NL)) (h4 : m (Str.ofString "kinds") = some (.ref KT)) : Fr g L h (lawMap c C KT m) := by
 have : lawMap c C KT m = m := by
  funext y
  unfold lawMap
  by_cases e1 : y = Str.ofString "tape"
  ·rw [if_pos e1, e1, h1]
  rw [if_neg e1]
  by_cases e2 : y = Str.ofString "cell"
  ·rw [if_pos e2, e2, h2]
  rw [if_neg e2]
  by_cases e3 : y = Str.ofString "names"
  ·rw [if_pos e3, e3, h3]
  rw [if_neg e3]
  by_cases e4 : y = Str.ofString "kinds"
  ·rw [if_pos e4, e4, h4]
  rw [if_neg e4]
 rw [this]; exact F
theorem LW.rebase (W : LW w hB g L c v h) : ∃ hB', hB.StaysIn hB' ∧ LW w hB' g L c v h ∧ ∀ b o, h.get? b = some o → b ≠ L → b ≠ L + 1 → b ≠ L + 1 + 1 → b ∉ v.at c → hB'.get? b = some o := by
 have hid : ∀ a ∈ [L, L + 1, L + 1 + 1] ++ v.at c, (hideAll h ([L, L + 1, L + 1 + 1] ++ v.at c)).get? a = none := fun a ha => hideAll_none _ ha
 have st : hB.StaysIn (hideAll h ([L, L + 1, L + 1 + 1] ++ v.at c)) := fun b o e => hideAll_get _ (W.st b o e) fun q => by
  rcases List.mem_append.mp q with q | q
  ·simp only [List.mem_cons, List.not_mem_nil, or_false] at q
   rcases q with q | q | q
   ·rw [q, W.Ln.1] at e; cases e
   ·rw [q, W.c1n.1] at e; cases e
   ·rw [q, W.c2n.1] at e; cases e
  ·rw [W.X.hb _ q] at e; cases e
 refine ⟨_, st, ⟨?_, fun b o e => of_hideAll _ e, fun b o e => st _ _ (W.gB _ _ e), ⟨hid _ (by first | k_mem | simp), W.Ln.2⟩, W.Lo, W.c1o, W.c2o, ⟨hid _ (by first | k_mem | simp), W.c1n.2⟩, ⟨hid _ (by first | k_mem | simp), W.c2n.2⟩⟩, fun b o e n1 n2 n3 n4 => hideAll_get _ e fun q => ?_⟩
 ·have X := W.X
  have tk := X.tk.keeps st
  exact ⟨⟨hid _ (List.mem_append_right _ (.head _)), tk.lo, tk.hl, tk.hi, tk.hlT, tk.hns⟩, X.tp, X.bk, X.rc, X.nm, X.okh, X.okd, X.sT, X.sB, X.sR, X.sN, X.ndB, X.ndR, fun a ha => hid a (List.mem_append_right _ ha), X.aN⟩
 ·rcases List.mem_append.mp q with q | q
  ·simp only [List.mem_cons, List.not_mem_nil, or_false] at q
   rcases q with q | q | q
   ·exact n1 q
   ·exact n2 q
   ·exact n3 q
  ·exact n4 q
theorem LW.lower (W : LW w hB' g L c v h) (st : hB.StaysIn hB') (tk : TapeOk w hB hB c.T c.l c.vs c.ns) (gB : g.StaysIn hB) : LW w hB g L c v h := by
 have lo : ∀ {a : Addr}, hB'.get? a = none → hB.get? a = none := fun n => by
  rename_i a
  cases q : hB.get? a with
  | none => rfl
  | some o => rw [st _ _ q] at n; cases n
 have X := W.X
 exact ⟨⟨tk, X.tp, X.bk, X.rc, X.nm, X.okh, X.okd, X.sT, X.sB, X.sR, X.sN, X.ndB, X.ndR, fun a ha => lo (X.hb a ha), X.aN⟩, fun b o e => W.st _ _ (st _ _ e), gB, ⟨lo W.Ln.1, W.Ln.2⟩, W.Lo, W.c1o, W.c2o, ⟨lo W.c1n.1, W.c1n.2⟩, ⟨lo W.c2n.1, W.c2n.2⟩⟩
theorem LW.off (W : LW w hB g L c v h) (k : KeepsOff S h h') (hS : ∀ a ∈ S, a ∉ v.at c ∧ a ≠ L ∧ a ≠ L + 1 ∧ a ≠ L + 1 + 1 ∧ hB.get? a = none) : LW w hB g L c v h' := by
 refine xEAL (W.c1o) fun o1 a1 b1 => ?_
 refine xEEAL (W.c2o) fun o2 x2 a2 b2 => ?_
 refine xEL (W.Lo) fun oL aL => ?_
 refine ⟨W.X.off k fun a ha q => (hS a q).1 ha, fun b o e => k b o (fun q => ?_) (W.st _ _ e), W.gB, W.Ln, ⟨oL, k _ _ (fun q => (hS _ q).2.1 rfl) aL⟩, ⟨o1, k _ _ (fun q => (hS _ q).2.2.1 rfl) a1, b1⟩, ⟨o2, x2, k _ _ (fun q => (hS _ q).2.2.2.1 rfl) a2, b2⟩, W.c1n, W.c2n⟩
 rw [(hS _ q).2.2.2.2] at e; cases e
theorem LW.offF (W : LW w hB g L c v h) (F : Fr g L h m) (k : KeepsOff S h h') (hS : ∀ a ∈ S, a ∉ v.at c ∧ a ≠ L ∧ a ≠ L + 1 ∧ a ≠ L + 1 + 1 ∧ hB.get? a = none) : Fr g L h' m :=
 frButS F k fun a ha => ⟨W.gn (hS a ha).2.2.2.2, (hS a ha).2.1⟩
theorem LW.cell2 {x : Value} {o' : Obj} (W : LW w hB g L c v h) (k : KeepsOff [L + 1 + 1] h h') (e : h'.get? (L + 1 + 1) = some o') (d : o'.data = .cell (some x)) : LW w hB g L c v h' := by
 refine xEAL (W.c1o) fun o1 a1 b1 => ?_
 refine xEL (W.Lo) fun oL aL => ?_
 have ne : ∀ {a : Addr}, a ≠ L + 1 + 1 → a ∉ [L + 1 + 1] := fun n q => n (List.mem_singleton.mp q)
 refine ⟨W.X.off k fun a ha => ne fun q => W.c2n.2 (q ▸ ha), fun b o e => k b o (ne fun q => ?_) (W.st _ _ e), W.gB, W.Ln, ⟨oL, k _ _ (ne (Ne.symm neL2)) aL⟩, ⟨o1, k _ _ (ne neL12) a1, b1⟩, ⟨o', _, e, d⟩, W.c1n, W.c2n⟩
 rw [q, W.c2n.1] at e; cases e
end
end
section
section
variable {w : World} {hB hB' g h h' hc : Heap} {L C KT S0 S1 Sb : Addr} {c : LC} {v v' : LV} {m mg mb : Str → Option Value} {S : List Addr} {s : Shared} {dd uu : Nat} {gs : Option (List Code)} {fr : Option (List Env)} {Q : Value → Shared → Prop} {E : Value → Shared → Prop}
theorem KD.keeps (K : KD hB c KT S0 S1 Sb C) (st : hB.StaysIn hB') : KD hB' c KT S0 S1 Sb C := by
 (obtain ⟨kt, z485x1, z485x2, z485x3, z485x4⟩ := K; (refine xEEEEEEEEAAL z485x1 fun SD T D es n t1 t2 t3 a1 a2 a3 => ?_; try clear z485x1); (refine xEEEEEEEEEEEEEEEEEEEAAL z485x2 fun SD' D' es' n' LD DT LC CT V AL A0 A1 A2 P0 P1 P2 X0 X1 X2 b1 b2 b3 => ?_; try clear z485x2); (refine xEL z485x3 fun CD cc => ?_; try clear z485x3); (refine xEL z485x4 fun o e => ?_; try clear z485x4))
 exact ⟨kt.keeps st, iE8 SD T D es n t1 t2 t3 ⟨a1.keeps st, a2.keeps st, a3⟩, iE19 SD' D' es' n' LD DT LC CT V AL A0 A1 A2 P0 P1 P2 X0 X1 X2 ⟨b1.keeps st, b2.keeps st, b3.keeps st⟩, ⟨CD, cc.keeps st⟩, ⟨o, st _ _ e⟩⟩
theorem LW.sk (W : LW w hB g L c v h) : g.StaysIn h := fun b o e => W.st _ _ (W.gB _ _ e)
theorem LW.newI (W : LW w hB g L c v h) {a : Addr} (n : h.get? a = none) : a ∉ v.at c ∧ a ≠ L ∧ a ≠ L + 1 ∧ a ≠ L + 1 + 1 ∧ hB.get? a = none := by
 refine xEAL (W.c1o) fun o1 a1 _ => ?_
 refine xEEAL (W.c2o) fun o2 x2 a2 _ => ?_
 refine xEL (W.Lo) fun oL aL => ?_
 refine ⟨fun q => ?_, fun q => ?_, fun q => ?_, fun q => ?_, fresh_base W.st n⟩
 ·refine xEL (W.X.there _ q) fun o e => ?_; rw [n] at e; cases e
 ·rw [q, aL] at n; cases n
 ·rw [q, a1] at n; cases n
 ·rw [q, a2] at n; cases n
theorem lt_new {a : Addr} (l1 : ∀ p ∈ allN g L h, p.1 < a) (n : g.get? a = none) (nL : a ≠ L) : h.get? a = none := by
 cases q : h.get? a with
 | none => rfl
 | some o => exact absurd (l1 _ (allN_in q n nL)) (Nat.lt_irrefl _)
theorem LW.lift (W : LW w hB g L c v h) (k : Keeps h h') : LW w hB g L c v h' := W.off (S := []) (fun b o _ e => k b o e) (fun _ h => nomatch h)
theorem LW.next {many : Int} {tm : Tok} (WD : Wd w mg mb hB) (W : LW w hB g L c v s.heap) (F : Fr g L s.heap m) (hdd : dd ≤ 488) (huu : uu ≤ 1900) (h0 : 0 ≤ v.n) (h1 : v.n ≤ 1000) (hm : 0 < many) (hm' : many ≤ 1000)
  (hQ : ∀ r t h' tk, 0 ≤ r → r < many → LW w hB g L c { v with n := v.n + 1 } h' → Fr g L h' m → KeepsOff [c.T] s.heap h' → Q (.int r t) { s with heap := h', toks := tk }) :
  wpAny (model prog0 w) ⟨none, dd, fr, gs, uu⟩ (call (.ref 674) [.ref c.T, .int many tm]) Q E s := by
 have hT : ∀ a ∈ [c.T], a ∈ v.at c := fun a ha => by rw [List.mem_singleton.mp ha]; exact .head _
 exact next_L WD W.X W.st hdd huu h0 h1 hm hm' fun r t h' tk r0 r1 kp X1 => hQ r t h' tk r0 r1 (W.step kp hT X1 fun a ha => .inl ha) (W.fr F kp hT) kp
theorem LW.parts (WD : Wd w mg mb hB) (W : LW w hB g L c v s.heap) (F : Fr g L s.heap m) (hdd : dd ≤ 488) (huu : uu ≤ 1900)
  (hQ : ∀ B t1 t2 t3 n h' tk, LW w hB g L c v h' → Fr g L h' m → h'.get? B = some (PySem.W.listOf #[Value.str (Str.ofString "cx") t1, .str (Str.ofString "cyz") t2, .str (Str.ofString "c") t3] n) → s.heap.get? B = none → Q (.ref B) {s with heap := h', toks := tk}) :
  wpAny (model prog0 w) ⟨none, dd, fr, gs, uu⟩ (call (.ref 667) []) Q E s :=
 Mine.parts WD W.st (by omega) (by omega) fun B t1 t2 t3 n h' tk kp gB nB => hQ B t1 t2 t3 n h' tk (W.lift kp) (F.keeps kp) gB nB
theorem LW.place {name : Str} {tn : Tok} (WD : Wd w mg mb hB) (K : KD hB c KT S0 S1 Sb C) (W : LW w hB g L c v s.heap) (F : Fr g L s.heap m) (hdd : dd ≤ 488) (huu : uu ≤ 1900)
  (hn : name = Str.ofString "c" ∨ (name = Str.ofString "x" ∧ v.D.d = 0) ∨ (name = Str.ofString "y" ∧ v.D.d = 1) ∨ (name = Str.ofString "z" ∧ v.D.d = 1))
  (hQ : ∀ P tw h' tk, LW w hB g L c v h' → Fr g L h' m → IsTup h' P #[Value.str (Str.ofString "field") tw, .ref c.R, .str name tn] → s.heap.get? P = none → Q (.ref P) {s with heap := h', toks := tk}) :
  wpAny (model prog0 w) ⟨none, dd, fr, gs, uu⟩ (call (.ref 428) [.ref c.R, .str name tn]) Q E s := by
 refine xEAAL (W.X.rc) fun kvs hA kr ar => ?_
 refine xEL (num_of W.X.okd name hn _ _ kr) fun vv hval => ?_
 exact field_place WD W.st hdd huu hA (ne_sys K.sys (W.X.hb _ (W.X.sR_at _ (by first | k_mem | simp [LV.sR])))) hval fun P tw h' tk kp i nP => hQ P tw h' tk (W.lift kp) (F.keeps kp) i nP
theorem LW.append {tup P : Addr} {name : Str} {t1 t2 t3 : Tok} {A : Around} (W : LW w hB g L c v s.heap) (F : Fr g L s.heap m)
  (f1 : tup ∉ v.at c ∧ hB.get? tup = none) (f2 : P ∉ v.at c ∧ hB.get? P = none) (nl1 : tup ≠ L ∧ tup ≠ L + 1 ∧ tup ≠ L + 1 + 1) (nl2 : P ≠ L ∧ P ≠ L + 1 ∧ P ≠ L + 1 + 1) (i1 : IsTup s.heap tup #[Value.str name t1, .ref P]) (i2 : IsTup s.heap P #[Value.str (Str.ofString "field") t2, .ref c.R, .str name t3])
  (hm : name = Str.ofString "c" ∨ name = Str.ofString "x" ∨ name = Str.ofString "y" ∨ name = Str.ofString "z") (hl : v.vals.length < 100)
  (hQ : ∀ h', LW w hB g L c { v with vals := v.vals ++ [Value.ref tup], NA := tup :: P :: v.NA } h' → Fr g L h' m → Q .none { s with heap := h' }) :
  wpAny (model prog0 w) A (call (.builtin "list.append") [.ref c.NL, .ref tup]) Q E s := by
 have iN : ∀ a ∈ [c.NL], a ∈ v.at c := fun a ha => by rw [List.mem_singleton.mp ha]; exact .tail _ (.head _)
 have nNL : ∀ {tt : Addr} {xs : Array Value}, IsTup s.heap tt xs → tt ∉ [c.NL] := fun {tt xs} i q => by
  (refine xEAAL i fun o ho hc _ => ?_; try clear i)
  refine xEL (W.X.nm.1) fun n e => ?_
  rw [List.mem_singleton.mp q, e] at ho
  cases ho
  simp at hc
 refine names_append W.X fun h' e' kp => ?_
 have kp' : ∀ b o, s.heap.get? b = some o → b ∉ [c.NL] → h'.get? b = some o := fun b o e nb => kp b o nb e
 have X9 := W.X.name kp e' f1 f2 (tupS i1 (nNL i1) kp') (tupS i2 (nNL i2) kp') hm hl
 have st' : hB.StaysIn h' := fun b o e => kp b o (fun q => by rw [W.X.hb _ (iN _ q)] at e; cases e) (W.st _ _ e)
 refine xEAL (W.c1o) fun o1 a1 b1 => ?_
 refine xEEAL (W.c2o) fun o2 x2 a2 b2 => ?_
 refine xEL (W.Lo) fun oL aL => ?_
 have at9 : ∀ a, a ∉ v.at c → a ≠ tup → a ≠ P → a ∉ ({ v with vals := v.vals ++ [Value.ref tup], NA := tup :: P :: v.NA } : LV).at c := fun a n1 n2 n3 q => by
  unfold LV.at at q n1
  rcases List.mem_cons.mp q with z | q
  ·exact n1 (z ▸ .head _)
  rcases List.mem_cons.mp q with z | q
  ·exact n1 (z ▸ .tail _ (.head _))
  rcases List.mem_append.mp q with q | q
  ·exact n1 (.tail _ (.tail _ (List.mem_append_left _ q)))
  rcases List.mem_cons.mp q with z | q
  ·exact n2 z
  rcases List.mem_cons.mp q with z | q
  ·exact n3 z
  exact n1 (.tail _ (.tail _ (List.mem_append_right _ q)))
 refine hQ h' ⟨X9, st', W.gB, ⟨W.Ln.1, at9 _ W.Ln.2 (Ne.symm nl1.1) (Ne.symm nl2.1)⟩, ⟨oL, kp _ _ (fun q => W.Ln.2 (iN _ q)) aL⟩, ⟨o1, kp _ _ (fun q => W.c1n.2 (iN _ q)) a1, b1⟩, ⟨o2, x2, kp _ _ (fun q => W.c2n.2 (iN _ q)) a2, b2⟩, ⟨W.c1n.1, at9 _ W.c1n.2 (Ne.symm nl1.2.1) (Ne.symm nl2.2.1)⟩, ⟨W.c2n.1, at9 _ W.c2n.2 (Ne.symm nl1.2.2) (Ne.symm nl2.2.2)⟩⟩ (W.fr F kp iN)
end
end
section
def LT (w : World) (hB g : Heap) (L : Addr) (c : LC) (C KT : Addr) (s₁ : Shared) (P : LV → Prop) (s' : Shared) : Prop :=
 ∃ h tk v m, s' = { s₁ with heap := h, toks := tk } ∧ LW w hB g L c v h ∧ v.Dh = v.D ∧ P v ∧ Fr g L h (lawMap c C KT m)
section
variable {w : World} {hB g h : Heap} {L C KT : Addr} {c : LC} {v : LV} {m : Str → Option Value} {A : Around} {E : Value → Shared → Prop} {s₁ : Shared} {env : Env} {x : Str} {px : Pos} {body : List Stmt} {Q : Flow → Shared → Prop} {tk : Nat}
def ItOk (hB : Heap) (L : Addr) (c : LC) (v : LV) (I : Addr) : Prop := I ∉ v.at c ∧ I ≠ L ∧ I ≠ L + 1 ∧ I ≠ L + 1 + 1 ∧ hB.get? I = none
theorem loop_range {n : Nat} (P : Nat → LV → Prop) (hh : A.handled = none) (W : LW w hB g L c v h) (F : Fr g L h (lawMap c C KT m)) (hD : v.Dh = v.D) (hP : P 0 v)
  (turn : ∀ i hB' h tk v m t, i < n → hB.StaysIn hB' → LW w hB' g L c v h → v.Dh = v.D → P i v → Fr g L h (lawMap c C KT m) →
   wpAny (model prog0 w) A (assign (.Name x px) env (.int (0 + (i : Nat) * 1) t)) (fun _ s₂ => wpAny (model prog0 w) A (execs body env) (PostJ (LT w hB' g L c C KT s₁ (P (i + 1))) Q) E s₂) E { s₁ with heap := h, toks := tk })
  (done : ∀ h tk v m, LW w hB g L c v h → v.Dh = v.D → P n v → Fr g L h (lawMap c C KT m) → Q .next { s₁ with heap := h, toks := tk }) :
  LoopJ w A env (.Name x px) body Q E (.ref h.objs.size) { s₁ with heap := h.push { cls := .type "range_iterator", data := .fields #[rawInt 0, rawInt (n : Int), rawInt 1] }, toks := tk } := by
 have nI : ItOk hB L c v h.objs.size := W.newI (Heap.get?_none_of_le (Nat.le_refl _))
 refine ⟨n, fun i s' => ∃ h' tk v m, s' = { s₁ with heap := h', toks := tk } ∧ LW w hB g L c v h' ∧ v.Dh = v.D ∧ P i v ∧ Fr g L h' (lawMap c C KT m) ∧ ItOk hB L c v h.objs.size ∧ IsRangeIter h' h.objs.size (0 + (i : Nat) * 1) ((n : Int) - (i : Nat)) 1, ?_, ?_, ?_⟩
 ·refine ⟨_, _, v, m, rfl, W.lift fun b o e => Heap.get?_push_of_some _ e, hD, hP, F.push _, nI, ?_⟩
  show IsRangeIter _ _ _ _ _
  simpa using Heap.get?_push_size h rfl
 ·intro i s' hi w50
  (refine xEEEEAAAAAAL w50 fun h1 tk1 v1 m1 z132x4 W1 hD1 hP1 F1 nI1 it1 => ?_; try clear w50; subst z132x4)
  refine (Walks.range hh h.objs.size 0 1 n).item i _ _ _ hi it1 fun x' h2 tk2 hx it2 k2 => ?_
  (refine xEL hx fun t z497x1 => ?_; try clear hx; subst z497x1)
  have kp : KeepsOff [h.objs.size] h1 h2 := fun b o nb e => k2 b o nb e
  have hS : ∀ a ∈ [h.objs.size], a ∉ v1.at c ∧ a ≠ L ∧ a ≠ L + 1 ∧ a ≠ L + 1 + 1 ∧ hB.get? a = none := fun a ha => by rw [List.mem_singleton.mp ha]; exact nI1
  have W2 := W1.off kp hS
  have F2 := W1.offF F1 kp hS
  refine xEAAL (W2.rebase) fun hB' stB W3 shB => ?_
  have gI := shB _ _ it2 nI1.2.1 nI1.2.2.1 nI1.2.2.2.1 nI1.1
  refine ⟨_, rfl, wpAny_of_eq (a := ()) rfl (wpAny_mono (turn i hB' h2 tk2 v1 m1 t hi stB W3 hD1 hP1 F2) (fun _ s₂ z => wpAny_mono z (fun f s₃ z => ?_) fun _ _ e => e) fun _ _ e => e)⟩
  have back : LT w hB' g L c C KT s₁ (P (i + 1)) s₃ → ∃ h' tk v m, s₃ = { s₁ with heap := h', toks := tk } ∧ LW w hB g L c v h' ∧ v.Dh = v.D ∧ P (i + 1) v ∧ Fr g L h' (lawMap c C KT m) ∧ ItOk hB L c v h.objs.size ∧ IsRangeIter h' h.objs.size (0 + ((i + 1 : Nat) : Int) * 1) ((n : Int) - ((i + 1 : Nat) : Int)) 1 := by
   intro w51
   (refine xEEEEAAAAL w51 fun h4 tk4 v4 m4 z133x4 W4 hD4 hP4 F4 => ?_; try clear w51; subst z133x4)
   exact ⟨h4, tk4, v4, m4, rfl, W4.lower stB W.X.tk W.gB, hD4, hP4, F4, ⟨fun q => (by rw [W4.X.hb _ q] at gI; cases gI), nI1.2⟩, W4.st _ _ gI⟩
  cases f with
  | next => exact back z
  | cont => exact back z
  | brk => exact z
  | ret v => exact z
 ·intro s' w52
  (refine xEEEEAAAAAAL w52 fun h1 tk1 v1 m1 z134x4 W1 hD1 hP1 F1 nI1 it1 => ?_; try clear w52; subst z134x4)
  refine (Walks.range hh h.objs.size 0 1 n).done _ _ _ it1 fun h2 tk2 k2 => ⟨rfl, ?_⟩
  have kp : KeepsOff [h.objs.size] h1 h2 := fun b o nb e => k2 b o nb e
  have hS : ∀ a ∈ [h.objs.size], a ∉ v1.at c ∧ a ≠ L ∧ a ≠ L + 1 ∧ a ≠ L + 1 + 1 ∧ hB.get? a = none := fun a ha => by rw [List.mem_singleton.mp ha]; exact nI1
  exact done h2 tk2 v1 m1 (W1.off kp hS) hD1 hP1 (W1.offF F1 kp hS)
end
end
section
section
variable {w : World} {hB g : Heap} {L C KT S0 S1 Sb : Addr} {c : LC} {v : LV} {m : Str → Option Value} {s : Shared} {A : Around} {Q : Value → Shared → Prop} {E : Value → Shared → Prop}
theorem LW.getR {ex : Bool} (KX : (hd.heap_39 w.params).In g) (K : KD hB c KT S0 S1 Sb C) (W : LW w hB g L c v s.heap) (F : Fr g L s.heap m) (h : Q (.ref c.R) { s with toks := s.toks + 1 }) : wpAny (model prog0 w) A (getAttr (.ref C) (Str.ofString "value") ex) Q E s := by
 obtain ⟨CD, x1, x2⟩ := K.cell
 (refine xEEEEEEEEEL x2 fun y1 y2 y3 y4 y5 y6 y7 y8 y9 e => ?_; try clear x2)
 have I : InstAt s.heap C (instObj 110 CD) 110 (some (cellD y1 y2 (.ref c.R) y3 y4 y5 y6 y7 y8 y9)) := ⟨W.st _ _ x1, rfl, rfl, W.st _ _ e⟩
 refine' get_own F KX I ?k4 ?k5 ?k6 ?k7 ?k8 ?k9 h
 case k4 => k_is
 case k5 => k_is
 case k6 => k_is
 case k7 => k_is
 case k8 => simp [getL, isStr_str]
 case k9 => rfl
theorem item_any {value slice : PySem.Expr} {l : Addr} {items : Array Value} {k : Int} {u : Tok} {x : Value} (hl : s.heap.IsList l items) (h0 : 0 ≤ k) (hhi : k < 2 ^ 63) (hx : items[k.toNat]? = some x) (h : Q x s)
  (hs : subscripted slice false (.ref l) (.int k u) = operate [.ref l, .int k u] (getItem (.ref l) (.int k u)) := by with_unfolding_all rfl) : wpAny (model prog0 w) A (subscriptTail value slice (.ref l) (.int k u)) Q E s :=
 tail_any hl.typeIs slot_list_getitem.lookup (wpAny_getItem_list hl h0 hhi hx h) hs
theorem LW.getFD {ex : Bool} (KX : (hd.heap_39 w.params).In g) (W : LW w hB g L c v s.heap) (F : Fr g L s.heap m) (h : Q (.ref v.FD) { s with toks := s.toks + 1 }) : wpAny (model prog0 w) A (getAttr (.ref c.R) (Str.ofString "fields") ex) Q E s := by
 refine xEAAL (W.X.rc) fun kvs hA _ _ => ?_
 refine xEEEEEL (hA.o2) fun y1 y2 y3 y4 y5 e => ?_
 have q1 : (Str.ofString "type" == Str.ofString "fields") = false := by decide +kernel
 have I : InstAt s.heap c.R (instObj 152 c.RD) 152 (some (pairD y1 "type" y2 (.ref c.RT) y3 "fields" y4 (.ref v.FD) y5)) := ⟨hA.o1, rfl, rfl, e⟩
 refine' get_own F KX I ?k4 ?k5 ?k6 ?k7 ?k8 ?k9 h
 case k4 => k_is
 case k5 => k_is
 case k6 => k_is
 case k7 => k_is
 case k8 => simp [getL, isStr_str, q1]
 case k9 => rfl
end
end
section
section
theorem rising_pw : ∀ (p : Str) (r : List Str), risingS p r = true → (p :: r).Pairwise (fun a b => a.cps.toList ≤ b.cps.toList)
 | p, [], _ => by simp
 | p, x :: r, h => by
  have h' : (!ltCps x.cps.toList p.cps.toList && risingS x r) = true := h
  rw [Bool.and_eq_true] at h'
  have h1 : p.cps.toList ≤ x.cps.toList := by
   have := h'.1
   rw [ltCps_eq] at this
   simpa using this
  have ih := rising_pw x r h'.2
  refine List.pairwise_cons.mpr ⟨fun z hz => ?_, ih⟩
  rcases List.mem_cons.mp hz with rfl | hz
  ·exact h1
  ·exact List.le_trans h1 ((List.pairwise_cons.mp ih).1 z hz)
theorem sorted_pw : ∀ (l : List Str), sortedS l = true → l.Pairwise (fun a b => a.cps.toList ≤ b.cps.toList)
 | [], _ => .nil
 | x :: r, h => rising_pw x r h
theorem sorted_unique {a b : List Str} (ha : sortedS a = true) (hb : sortedS b = true) (p : a.Perm b) : a = b :=
 List.Perm.eq_of_pairwise (le := fun (a b : Str) => a.cps.toList ≤ b.cps.toList) (fun x y _ _ h1 h2 => by
  have : x.cps.toList = y.cps.toList := List.le_antisymm h1 h2
  cases x; cases y
  simpa using this) (sorted_pw a ha) (sorted_pw b hb) p
theorem strs_of : ∀ {kvs : List (Str × Value)} {vs : List Value}, vs.length = kvs.length → (∀ (j : Nat) (v : Value), vs[j]? = some v → ∃ k x, kvs[j]? = some (k, x) ∧ (∃ t, v = .str k t)) → StrsAre vs (kvs.map (·.1))
 | [], [], _, _ => .nil
 | [], _ :: _, h, _ => by simp at h
 | _ :: _, [], h, _ => by simp at h
 | q :: r, v :: vs, hl, h => by
  (refine xEEAEL (h 0 v rfl) fun k x e t z502x4 => ?_; subst z502x4)
  simp at e
  subst e
  exact .cons k t (strs_of (by simpa using hl) fun j u hu => by simpa using h (j + 1) u (by simpa using hu))
end
section
variable {w : World} {A : Around} {E : Value → Shared → Prop} {s : Shared} {g : Heap} {L d l a b : Addr} {m : Str → Option Value} {kvs : List (Str × Value)} {Q : Value → Shared → Prop} {vs xs ys : List Value} {ss : List Str}
theorem sorted_dict (hh : A.handled = none) (F : Fr g L s.heap m) (sk : g.StaysIn s.heap) (hD : s.heap.DictOf (PySem.strKind prog0 w) d kvs) (lo : (d == sysModules) = false) (hn : kvs.length < 64)
  (h : ∀ B h' tk vs' ss' e, KeepsOff [L] s.heap h' → Fr g L h' m → h'.get? B = some (W.listOf (List.toArray vs') e) → s.heap.get? B = none → StrsAre vs' ss' → ss'.Perm (kvs.map (·.1)) → sortedS ss' = true → Q (.ref B) { s with heap := h', toks := tk }) :
  wpAny (model prog0 w) A (call (.builtin "sorted") [.ref d]) Q E s := by
 refine xEL (hD.dictAt) fun ep hat => ?_
 refine kdu_sorted (kdl_dict (knd := PySem.strKind prog0 w) (kvs := kvs) (ep := ep) lo) hh F (allN_news (g := g) (L := L)) hat (kdl_size (by omega)) fun D h' tk vs F' N' l1 hl hv => ?_
 have hS : StrsAre vs (kvs.map (·.1)) := strs_of hl fun j v hj => by
  refine xEEAL (hv j v hj) fun k x e q => ?_
  exact ⟨k, x, e, Value.isStrOf_shape q⟩
 have hoD : h'.get? D = some (seqObj "list" vs.toArray 0) := newsAt N' (.head _)
 have zD := (N' _ (.head _)).2
 refine wpAny_call_entry slot_list_sort ⟨_, hoD, rfl⟩ entry_list_sort (list_sort_treeK strKind_oneLt hoD hS.keysOf (fun v₁ v₂ rest e => keyKind_strs (by rw [← e]; exact hS)) (by rw [hl]; exact hn) fun st' hp hs => ⟨_, rfl, ?_⟩) (args_list_sort _)
 refine xEAAL (sorted_out_str hS hp hs) fun ss' h1 h2 h3 => ?_
 refine xEL (sortedHeap_at (out := (arrOf st').map (·.2)) hoD) fun e he => ?_
 have kD : KeepsOff [D] h' (sortedHeap h' D vs ((arrOf st').map (·.2))) := fun b o nb eb => by
  rw [sortedHeap_old (by simpa using nb) (Heap.lt_size eb)]; exact eb
 have k0 : KeepsOff [L] s.heap h' := lawKeep sk F' N' (fun q hq => .tail _ hq)
 have nD : s.heap.get? D = none := lt_new l1 zD.2 zD.1
 refine h D _ _ ((arrOf st').map (·.2)).toList ss' e (fun b o nb eb => kD b o (fun q => ?_) (k0 b o nb eb)) (frButS F' kD (List.forall_mem_cons.mpr ⟨⟨zD.2, zD.1⟩, List.forall_mem_nil _⟩)) (by rw [Array.toArray_toList]; exact he) nD h1 h2 h3
 rw [List.mem_singleton.mp q, nD] at eb; cases eb
theorem sorted_list (F : Fr g L s.heap m) (hl : s.heap.IsList l vs.toArray) (hS : StrsAre vs ss) (h64 : vs.length < 64)
  (h : ∀ B h' vs' ss' e, Keeps s.heap h' → Fr g L h' m → h'.get? B = some (W.listOf (List.toArray vs') e) → s.heap.get? B = none → StrsAre vs' ss' → ss'.Perm ss → sortedS ss' = true → Q (.ref B) { s with heap := h' }) :
  wpAny (model prog0 w) A (call (.builtin "sorted") [.ref l]) Q E s := by
 refine sorted_strs hl hS h64 fun out ss' a1 a2 a3 => ?_
 refine xEL (sortedAll_at s.heap vs out) fun e he => ?_
 exact h _ _ out.toList ss' e (fun _ _ => sortedAll_old) (F.kept fun _ _ => sortedAll_old) (by rw [Array.toArray_toList]; exact he) (Heap.get?_none_of_le (Nat.le_succ _)) a1 a2 a3
theorem list_dict (hh : A.handled = none) (F : Fr g L s.heap m) (sk : g.StaysIn s.heap) (hD : s.heap.DictOf (PySem.strKind prog0 w) d kvs) (lo : (d == sysModules) = false) (hn : kvs.length < 64)
  (h : ∀ B h' tk vs' e, KeepsOff [L] s.heap h' → Fr g L h' m → h'.get? B = some (W.listOf (List.toArray vs') e) → s.heap.get? B = none → StrsAre vs' (kvs.map (·.1)) → Q (.ref B) { s with heap := h', toks := tk }) :
  wpAny (model prog0 w) A (call (.type "list") [.ref d]) Q E s := by
 refine xEL (hD.dictAt) fun ep hat => ?_
 refine kdl_N (kdl_dict (knd := PySem.strKind prog0 w) (kvs := kvs) (ep := ep) lo) hh F (allN_news (g := g) (L := L)) hat (kdl_size (by omega)) fun D c h' tk vs F' N' l1 hl hv => ?_
 have hS : StrsAre vs (kvs.map (·.1)) := strs_of hl fun j v hj => by
  refine xEEAL (hv j v hj) fun k x e q => ?_
  exact ⟨k, x, e, Value.isStrOf_shape q⟩
 have zD := (N' _ (.head _)).2
 exact h D h' tk vs c (lawKeep sk F' N' (fun q hq => .tail _ hq)) F' (newsAt N' (.head _)) (lt_new l1 zD.2 zD.1) hS
theorem ne_strs (ha : s.heap.IsList a xs.toArray) (hb : s.heap.IsList b ys.toArray) (hx : StrsAre xs ss) (hy : StrsAre ys ss) (hu : A.units < cLine) (h : Q (.bool false) s) : wpAny (model prog0 w) A (compareOp .NotEq (.ref a) (.ref b)) Q E s := by
 have h1 := hx.length
 have h2 := hy.length
 refine SeqAt.RcNeAt.lists (e := fun _ => true) ha hb (by simp only [List.size_toArray]; omega) hu (fun j q1 q2 => ?_) prog0 w E Q (by rw [show ((List.range xs.toArray.size).all fun _ => true) = true from List.all_eq_true.mpr fun _ _ => rfl]; exact h)
 have j1 : j < ss.length := by simp only [List.size_toArray] at q1; omega
 refine xEL (hx.get j ss[j] (by simp [j1])) fun t e1 => ?_
 refine xEL (hy.get j ss[j] (by simp [j1])) fun u e2 => ?_
 have f1 : xs.toArray[j] = .str ss[j] t := by
  have : xs.toArray[j]? = some (.str ss[j] t) := by simpa using e1
  rw [Array.getElem?_eq_getElem q1] at this
  exact Option.some.inj this
 have f2 : ys.toArray[j] = .str ss[j] u := by
  have : ys.toArray[j]? = some (.str ss[j] u) := by simpa using e2
  rw [Array.getElem?_eq_getElem q2] at this
  exact Option.some.inj this
 rw [f1, f2]
 have := SeqAt.EqAt.str_str (A := A.in1) (s := s) ss[j] t ss[j] u
 rwa [beq_self_eq_true] at this
end
def keysH : DD → List Str
 | .a .. => [Str.ofString "c", Str.ofString "x"]
 | .b .. => [Str.ofString "c", Str.ofString "y", Str.ofString "z"]
 | .e .. => [Str.ofString "c"]
theorem recKv_keys {Y : Addr} {D : DD} {kvs : List (Str × Value)} (k : RecKv Y D kvs) : kvs.map (·.1) = Str.ofString "d" :: keysH D := by
 cases D <;> simp only [RecKv] at k
 ·(refine xEEEL k fun _ _ _ z512x3 => ?_; try clear k; subst z512x3); rfl
 ·(refine xEEEL k fun _ _ _ z513x3 => ?_; try clear k; subst z513x3); rfl
 ·(refine xEEL k fun _ _ z514x2 => ?_; try clear k; subst z514x2); rfl
theorem hasKv_keys {HY : Addr} {D : DD} {hk : List (Str × Value)} (k : HasKv HY D hk) : hk.map (·.1) = keysH D := by
 cases D <;> simp only [HasKv] at k
 ·(refine xEEL k fun _ _ z515x2 => ?_; try clear k; subst z515x2); rfl
 ·(refine xEEL k fun _ _ z516x2 => ?_; try clear k; subst z516x2); rfl
 ·(refine xEL k fun _ z517x1 => ?_; try clear k; subst z517x1); rfl
end
section
theorem range_small {r : Int} (r0 : 0 ≤ r) (r1 : r < 9) : Builtin.Range.small 0 (1 + r) 1 = true := natI (P := fun r => Builtin.Range.small 0 (1 + r) 1 = true) (k := 9) (by decide) r0 r1
theorem range_size {r : Int} (r0 : 0 ≤ r) (r1 : r < 9) : Builtin.Range.rangeSize 0 (1 + r) 1 = (((1 + r).toNat : Nat) : Int) := natI (P := fun r => Builtin.Range.rangeSize 0 (1 + r) 1 = (((1 + r).toNat : Nat) : Int)) (k := 9) (by decide) r0 r1
section
variable {w : World} {hB g h h' : Heap} {L C KT S0 S1 Sb : Addr} {c : LC} {v : LV} {m mg mb : Str → Option Value} {s : Shared} {uu dd : Nat} {gs : Option (List Code)} {A : Around} {Q : Value → Shared → Prop} {E : Value → Shared → Prop}
theorem LW.deedL {name : Str} {scope : Scope} {fa : Addr} {cd : Value} (WD : Wd w mg mb hB) (K : KD hB c KT S0 S1 Sb C) (W : LW w hB g L c v s.heap) (F : Fr g L s.heap m) (hDD : v.Dh = v.D) (hdd : dd ≤ 404) (huu : uu ≤ 1200) (n0 : 0 ≤ v.n) (n1 : v.n ≤ 800) (hvl : v.vals.length < 100) (hv2 : 2 ≤ v.vals.length)
  (hQ : ∀ v' h' tk, LW w hB g L c v' h' → Fr g L h' m → v'.Dh = v'.D → v.n ≤ v'.n → v'.n ≤ v.n + 6 → (v.vals.length ≤ v'.vals.length ∧ v'.vals.length ≤ v.vals.length + 1) → Q (.bool true) { s with heap := h', toks := tk }) (hk : scope.kind = .function := by rfl) :
  wpAny (model prog0 w) ⟨none, dd, some [envOfC name scope L fa cd], gs, uu⟩ (call (.ref 723) [.ref c.T, .ref C, .ref c.O, .ref c.NL, .ref KT]) Q E s := by
 have hf : frs [envOfC name scope L fa cd] = [L] := rfl
 refine Mine.deed WD K W.X hDD W.st hdd huu ?_ (fun a ha q => W.Ln.2 (by rw [hf] at q; exact (List.mem_singleton.mp q) ▸ ha)) n0 n1 hvl hv2 fun v' h' tk A d e1 a1 a2 a3 kp => ?_
 ·refine xEEEAAL (F.ns) fun oL es ep hL hd _ => ?_
  refine ⟨?_, ⟨L, oL, rfl, W.Ln.1, hL, fun vs q => by rw [hd] at q; cases q⟩, trivial⟩
  show scope.kind ≠ .module
  rw [hk]; decide
 ·refine xAL (W.deed F hf d kp) fun W' F' => ?_
  exact hQ v' h' tk W' F' e1 a1 a2 a3
theorem LW.led2 {o3 : Obj} (W : LW w hB g L c v h) (e3 : h.get? (L + 1 + 1) = some o3) : ∃ o2, News g L h ((L + 1 + 1, o3) :: (L + 1, o2) :: allN g L h) ∧ o2.data = .cell (some (.ref c.O)) := by
 refine xEAL (W.c1o) fun o1 a1 b1 => ?_
 exact ⟨o1, newsCons9 e3 neL2 (W.gn W.c2n.1) (newsCons9 a1 neL1 (W.gn W.c1n.1) allN_news), b1⟩
theorem itemD_any {d : Addr} {kvs : List (Str × Value)} {k : Str} {t : Tok} {x : Value} {value slice : PySem.Expr} (hD : s.heap.DictOf (PySem.strKind prog0 w) d kvs) (hl : valueAt kvs k = some x) (h : Q x { s with toks := s.toks + 1 })
  (hs : subscripted slice false (.ref d) (.str k t) = operate [.ref d, .str k t] (getItem (.ref d) (.str k t)) := by with_unfolding_all rfl) :
  wpAny (model prog0 w) A (subscriptTail value slice (.ref d) (.str k t)) Q E s :=
 tail_any hD.typeIs slot_dict_getitem.lookup (wpAny_getItem_of (strKind_is _ _ _ _) hD.mapOf hl h) hs
theorem LW.dictF (W : LW w hB g L c v h) : ∃ kvs, h.DictOf (PySem.strKind prog0 w) v.FD kvs ∧ RecKv v.Y v.D kvs ∧ ArrSt h v.Y v.YD v.YB v.YI v.tp v.D := by
 refine xEAAL (W.X.rc) fun kvs hA kr ar => ?_
 exact ⟨kvs, Heap.dictOf_iff.mpr hA.o3, kr, ar⟩
theorem LW.dictH (W : LW w hB g L c v h) : ∃ hk, h.DictOf (PySem.strKind prog0 w) v.H hk ∧ HasKv v.HY v.Dh hk ∧ HYat h v.HY v.Dh := by
 refine xEEEEAAAAAL (W.X.bk) fun oO oH td hk gO dO gH dH kh hy => ?_
 exact ⟨hk, Heap.dictOf_iff.mpr ⟨oH, gH, dH⟩, kh, hy⟩
theorem LW.loF (K : KD hB c KT S0 S1 Sb C) (W : LW w hB g L c v h) : (v.FD == sysModules) = false := ne_sys K.sys (W.X.hb _ (W.X.sR_at _ (by first | k_mem | simp [LV.sR])))
theorem LW.loH (K : KD hB c KT S0 S1 Sb C) (W : LW w hB g L c v h) : (v.H == sysModules) = false := ne_sys K.sys (W.X.hb _ (.tail _ (.tail _ (List.mem_append_left _ (List.mem_append_left _ (by simp [LV.sB]))))))
end
theorem recKv_len3 {Y : Addr} {D : DD} {kvs : List (Str × Value)} (k : RecKv Y D kvs) : kvs.length < 64 := by
 have := congrArg List.length (recKv_keys k)
 cases D <;> simp [keysH] at this <;> omega
theorem hasKv_len3 {HY : Addr} {D : DD} {kvs : List (Str × Value)} (k : HasKv HY D kvs) : kvs.length < 64 := by
 have := congrArg List.length (hasKv_keys k)
 cases D <;> simp [keysH] at this <;> omega
theorem recKv_d {Y : Addr} {D : DD} {kvs : List (Str × Value)} (k : RecKv Y D kvs) : ∃ t, valueAt kvs (Str.ofString "d") = some (.int D.d t) := by
 cases D <;> simp only [RecKv] at k
 ·(refine xEEEL k fun t _ _ z523x3 => ?_; try clear k; subst z523x3); exact ⟨t, vaE⟩
 ·(refine xEEEL k fun t _ _ z524x3 => ?_; try clear k; subst z524x3); exact ⟨t, vaE⟩
 ·(refine xEEL k fun t _ z525x2 => ?_; try clear k; subst z525x2); exact ⟨t, vaE⟩
theorem part_pair {Y HY : Addr} {D : DD} {kvs hk : List (Str × Value)} (k : RecKv Y D kvs) (kh : HasKv HY D hk) {i : Nat} {name : Str} {x : Value} (e : hk[i]? = some (name, x)) :
  (∃ n t1 t2, valueAt kvs name = some (.int n t1) ∧ valueAt hk name = some (.int n t2)) ∨ (∃ cc f z, D = .b cc f z ∧ valueAt kvs name = some (.ref Y) ∧ valueAt hk name = some (.ref HY)) := by
 have e1 := xdc; have e2 := xdx; have e3 := xdy; have e4 := xdz; have e5 := xcx; have e6 := xcy; have e7 := xcz; have e10 := xyz
 cases D <;> simp only [RecKv, HasKv] at k kh
 ·(refine xEEEL k fun t0 t1 t2 z526x3 => ?_; try clear k; subst z526x3)
  (refine xEEL kh fun u1 u2 z527x2 => ?_; try clear kh; subst z527x2)
  match i, e with
  | 0, e => simp at e; (refine xAL e fun z528x0 z528x1 => ?_; try clear e; subst z528x0; subst z528x1); exact .inl ⟨_, _, _, by rw [vaN e1, vaE], vaE⟩
  | 1, e => simp at e; (refine xAL e fun z529x0 z529x1 => ?_; try clear e; subst z529x0; subst z529x1); exact .inl ⟨_, _, _, by rw [vaN e2, vaN e5, vaE], by rw [vaN e5, vaE]⟩
  | i + 2, e => simp at e
 ·(refine xEEEL k fun t0 t1 t2 z530x3 => ?_; try clear k; subst z530x3)
  (refine xEEL kh fun u1 u2 z531x2 => ?_; try clear kh; subst z531x2)
  match i, e with
  | 0, e => simp at e; (refine xAL e fun z532x0 z532x1 => ?_; try clear e; subst z532x0; subst z532x1); exact .inl ⟨_, _, _, by rw [vaN e1, vaE], vaE⟩
  | 1, e => simp at e; (refine xAL e fun z533x0 z533x1 => ?_; try clear e; subst z533x0; subst z533x1); exact .inr ⟨_, _, _, rfl, by rw [vaN e3, vaN e6, vaE], by rw [vaN e6, vaE]⟩
  | 2, e => simp at e; (refine xAL e fun z534x0 z534x1 => ?_; try clear e; subst z534x0; subst z534x1); exact .inl ⟨_, _, _, by rw [vaN e4, vaN e7, vaN e10, vaE], by rw [vaN e7, vaN e10, vaE]⟩
  | i + 3, e => simp at e
 ·(refine xEEL k fun t0 t1 z535x2 => ?_; try clear k; subst z535x2)
  (refine xEL kh fun u1 z536x1 => ?_; try clear kh; subst z536x1)
  match i, e with
  | 0, e => simp at e; (refine xAL e fun z537x0 z537x1 => ?_; try clear e; subst z537x0; subst z537x1); exact .inl ⟨_, _, _, by rw [vaN e1, vaE], vaE⟩
  | i + 1, e => simp at e
end
section
def LT1 (w : World) (hB g : Heap) (L : Addr) (c : LC) (v : LV) (C KT : Addr) (s₁ : Shared) (s' : Shared) : Prop :=
 ∃ h tk m, s' = { s₁ with heap := h, toks := tk } ∧ LW w hB g L c v h ∧ Fr g L h (lawMap c C KT m)
section
variable {w : World} {hB g h h' : Heap} {L C KT : Addr} {c : LC} {v : LV} {m : Str → Option Value} {A : Around} {E : Value → Shared → Prop} {s₁ : Shared} {env : Env} {body : List Stmt} {Q : Flow → Shared → Prop} {tk : Nat} {elts : List PySem.Expr} {k : Nat} {pos : Pos}
theorem LW.lst (W : LW w hB g L c v h) : h.IsList c.NL v.vals.toArray := by
 refine xEL (W.X.nm.1) fun n e => ?_; exact ⟨_, e, rfl, n, rfl⟩
theorem loop_list (hh : A.handled = none) (W : LW w hB g L c v h) (F : Fr g L h (lawMap c C KT m))
  (turn : ∀ (i : Nat) hB' h tk m x, v.vals[i]? = some x → hB.StaysIn hB' → LW w hB' g L c v h → Fr g L h (lawMap c C KT m) →
   wpAny (model prog0 w) A (assign (.Tuple elts k pos) env x) (fun _ s₂ => wpAny (model prog0 w) A (execs body env) (PostJ (LT1 w hB' g L c v C KT s₁) Q) E s₂) E { s₁ with heap := h, toks := tk })
  (done : ∀ h tk m, LW w hB g L c v h → Fr g L h (lawMap c C KT m) → Q .next { s₁ with heap := h, toks := tk }) :
  LoopJ w A env (.Tuple elts k pos) body Q E (.ref h.objs.size) { s₁ with heap := h.push { cls := .type "list_iterator", data := .fields #[.ref c.NL, .int 0 0] }, toks := tk } := by
 have nI : ItOk hB L c v h.objs.size := W.newI (Heap.get?_none_of_le (Nat.le_refl _))
 have hne : c.NL ≠ h.objs.size := fun q => nI.1 (by rw [← q]; exact .tail _ (.head _))
 have hS : ∀ a ∈ [h.objs.size], a ∉ v.at c ∧ a ≠ L ∧ a ≠ L + 1 ∧ a ≠ L + 1 + 1 ∧ hB.get? a = none := fun a ha => by rw [List.mem_singleton.mp ha]; exact nI
 refine ⟨v.vals.toArray.size, fun i s' => ∃ h' tk m, s' = { s₁ with heap := h', toks := tk } ∧ LW w hB g L c v h' ∧ Fr g L h' (lawMap c C KT m) ∧ h'.IsListIter h.objs.size c.NL i, ?_, ?_, ?_⟩
 ·exact ⟨_, _, m, rfl, W.lift fun b o e => Heap.get?_push_of_some _ e, F.push _, ⟨_, Heap.get?_push_size _ rfl, rfl, rfl⟩⟩
 ·intro i s' hi w53
  (refine xEEEAAAL w53 fun h1 tk1 m1 z135x3 W1 F1 it1 => ?_; try clear w53; subst z135x3)
  refine (Walks.list hh h.objs.size c.NL hne v.vals.toArray).item i _ _ _ hi ⟨it1, W1.lst⟩ fun x h2 tk2 hx it2 k2 => ?_
  have kp : KeepsOff [h.objs.size] h1 h2 := fun b o nb e => k2 b o nb e
  have W2 := W1.off kp hS
  have F2 := W1.offF F1 kp hS
  refine xEAAL (W2.rebase) fun hB' stB W3 shB => ?_
  refine xEAL (it2.1) fun oI gI0 rI => ?_
  have gI := shB _ _ gI0 nI.2.1 nI.2.2.1 nI.2.2.2.1 nI.1
  refine ⟨_, rfl, letGo_listiter it2.1 ?_⟩
  refine wpAny_mono (turn i hB' h2 tk2 m1 x (by simpa using hx) stB W3 F2) (fun _ s₂ z => wpAny_mono z (fun f s₃ z => ?_) fun _ _ e => e) fun _ _ e => e
  have back : LT1 w hB' g L c v C KT s₁ s₃ → ∃ h' tk m, s₃ = { s₁ with heap := h', toks := tk } ∧ LW w hB g L c v h' ∧ Fr g L h' (lawMap c C KT m) ∧ h'.IsListIter h.objs.size c.NL (i + 1) := by
   intro w54
   (refine xEEEAAL w54 fun h4 tk4 m4 z136x3 W4 F4 => ?_; try clear w54; subst z136x3)
   exact ⟨h4, tk4, m4, rfl, W4.lower stB W.X.tk W.gB, F4, ⟨oI, W4.st _ _ gI, rI⟩⟩
  cases f with
  | next => exact back z
  | cont => exact back z
  | brk => exact z
  | ret v => exact z
 ·intro s' w55
  (refine xEEEAAAL w55 fun h1 tk1 m1 z137x3 W1 F1 it1 => ?_; try clear w55; subst z137x3)
  refine (Walks.list hh h.objs.size c.NL hne v.vals.toArray).done _ _ _ ⟨it1, W1.lst⟩ fun h2 tk2 k2 => ⟨rfl, ?_⟩
  have kp : KeepsOff [h.objs.size] h1 h2 := fun b o nb e => k2 b o nb e
  exact done h2 tk2 m1 (W1.off kp hS) (W1.offF F1 kp hS)
theorem LW.up (W : LW w hB g L c v h) (F : Fr g L h m) (hf : frs [env] = [L]) (u : UpF [env] h h') : LW w hB g L c v h' ∧ Fr g L h' m := by
 have off := u.off
 have fr := u.fr
 rw [hf] at off fr
 refine xEAL (W.c1o) fun o1 a1 b1 => ?_
 refine xEEAL (W.c2o) fun o2 x2 a2 b2 => ?_
 refine xEL (W.Lo) fun oL aL => ?_
 have kp : KeepsOff [L] h h' := fun b o nb e => off b o nb e
 refine xEL (fr L oL (.head _) aL) fun sl hsl => ?_
 refine ⟨⟨W.X.off kp fun a ha q => W.Ln.2 ((List.mem_singleton.mp q) ▸ ha), fun b o e => kp b o (fun q => ?_) (W.st _ _ e), W.gB, W.Ln, ⟨_, hsl⟩, ⟨o1, kp _ _ (fun q => neL1 (List.mem_singleton.mp q)) a1, b1⟩, ⟨o2, x2, kp _ _ (fun q => neL2 (List.mem_singleton.mp q)) a2, b2⟩, W.c1n, W.c2n⟩, ?_⟩
 ·rw [List.mem_singleton.mp q, W.Ln.1] at e; cases e
 ·refine xEEEAAL (F.ns) fun oL' es ep hL hd r => ?_
  refine xEL (fr L oL' (.head _) hL) fun sl' hs => ?_
  refine ⟨⟨_, es, ep, hs, hd, r⟩, fun b o e => kp b o (fun q => ?_) (F.keep b o e), F.above⟩
  rw [List.mem_singleton.mp q, fr_self F] at e; cases e
theorem LW.ff {name : Str} {scope : Scope} {fa : Addr} {cd : Value} (W : LW w hB g L c v h) (F : Fr g L h m) (hk : scope.kind = .function := by rfl) : h.FunFrames hB [envOfC name scope L fa cd] := by
 refine xEEEAAL (F.ns) fun oL es ep hL hd _ => ?_
 refine ⟨?_, ⟨L, oL, rfl, W.Ln.1, hL, fun vs q => by rw [hd] at q; cases q⟩, trivial⟩
 show scope.kind ≠ .module
 rw [hk]; decide
end
end
section
theorem turn_LW {w : World} {A : Around} {Q : Flow → Shared → Prop} {E : Value → Shared → Prop} {s : Shared} {env : Env} {p : Pos} (h : wpAny (model prog0 w) A (exec (.Pass p) env) Q E s) : wpAny (model prog0 w) A (exec (.Pass p) env) Q E s := by
 first | (walk1; fail "on") | exact h
def Held2 (p : Prop) : Prop := p
theorem held2 {p : Prop} (h : Held2 p) : p := h
theorem bindL_one {k : Str → Option NameKind} {n : Str} {v : Value} {m : Str → Option Value} (h : k n = some .local) : bindL k [(n, v)] m = fun y => if y = n then some v else m y := by
 unfold bindL bindL; rw [if_pos h]
theorem bindC_one {k : Str → Option NameKind} {n : Str} {v : Value} {m : Str → Option Value} (h : k n = some .local) : bindC k [(n, v)] m = m := by
 unfold bindC bindC; rw [if_pos h]
theorem cells_two {kd : Str → Option NameKind} {n n1 n2 : Str} {v : Value} {a1 a2 : Addr} {cs : List (Str × Addr)} {cells : List (Addr × Obj)} (x : CellsAre (bindC kd [(n, v)] fun _ => none) cs cells) (hk : kd n = some .local) (hc : cs = [(n1, a1), (n2, a2)]) :
  ∃ o1 o2, cells = [(a1, o1), (a2, o2)] ∧ o1.data = .cell none ∧ o2.data = .cell none := by
 rw [bindC_one hk] at x
 subst hc
 exact CellsAre.two x
theorem said_15 : True := by
 k_with "N" => ((intro q hq; first | exact hq | exact .tail _ hq | exact .tail _ (.tail _ hq) | exact .tail _ (.tail _ (.tail _ hq)) | exact .tail _ (.tail _ (.tail _ (.tail _ hq))) | exact .tail _ (.tail _ (.tail _ (.tail _ (.tail _ hq))))))
 k_with "O" => (first | exact Frag.In.keeps KX (Fr.keep (by with_reducible assumption)) | (dsimp only; exact Frag.In.keeps KX (Fr.keep (by with_reducible assumption))))
 exact True.intro
local macro_rules | `(tactic| k_in) => `(tactic| k_extra "O")
local macro_rules | `(tactic| walk_at "eval Dict") => `(tactic| (kdn_look; k_dflt (refine kdn_str (by rfl) (by k_asm) (by first | k_asm | exact News.nil) (by exact TopRead.nolimit (by k_asm)) (by rfl) (by rfl) (by exact List.cons_ne_nil _ _) (by exact Nat.le_of_ble_eq_true rfl) ?_); intro d' h' o' F' N' l1 lo' hd'; (try k_lt l1)))
theorem row_any {w : World} {A : Around} {E : Value → Shared → Prop} {s : Shared} {value slice : PySem.Expr} {D : DD} {Q : Value → Shared → Prop} {B : Addr} {t1 t2 t3 u : Tok} (i : s.heap.IsList B #[Value.str (Str.ofString "cx") t1, .str (Str.ofString "cyz") t2, .str (Str.ofString "c") t3]) (h : ∀ t, Q (.str (rowS D) t) s)
  (hs : subscripted slice false (.ref B) (.int D.d u) = operate [.ref B, .int D.d u] (getItem (.ref B) (.int D.d u)) := by with_unfolding_all rfl) :
  wpAny (model prog0 w) A (subscriptTail value slice (.ref B) (.int D.d u)) Q E s := by
 cases D with
 | a c x => exact item_any i (show (0 : Int) ≤ 0 by decide) (show (0 : Int) < 2 ^ 63 by decide) rfl (h t1) hs
 | b c f z => exact item_any i (show (0 : Int) ≤ 1 by decide) (show (1 : Int) < 2 ^ 63 by decide) rfl (h t2) hs
 | e c => exact item_any i (show (0 : Int) ≤ 2 by decide) (show (2 : Int) < 2 ^ 63 by decide) rfl (h t3) hs
theorem said_16 : True := by
 k_with "P" => (((repeat' (first | ((with_reducible show wpAny _ _ (execs [_] _) _ _ _); (fail_if_success k_fold); refine execs1 ?_) | ((with_reducible show wpAny _ _ (execs (_ :: _) _) _ _ _); refine execsC fun qk hqn hqr => ?_) | ((with_reducible show qk _ _); (first | refine hqn _ ?_ | refine hqr _ _ nRet ?_ | refine hqr _ _ nBrk ?_ | refine hqr _ _ nCont ?_); (try clear hqn hqr qk); (try dsimp only)) | ((with_reducible show qk _ _); dsimp only [qk]; (try clear qk)) | (k_unfold; (try dsimp only); (try clear qk)) | ((first | with_reducible show wpAny _ _ (call (Value.ref _) _) _ _ _ | with_reducible show wpAny _ _ (subscriptTail _ _ (Value.ref _) (Value.int _ _)) _ _ _ | with_reducible show wpAny _ _ (subscriptTail _ _ (Value.ref _) (Value.str _ _)) _ _ _ | with_reducible show wpAny _ _ (getAttr (Value.ref _) _ _) _ _ _ | with_reducible show wpAny _ _ (getMethod (Value.ref _) _ _) _ _ _ | with_reducible show wpAny _ _ (setAttr _ _ _) _ _ _ | with_reducible show wpAny _ _ (exec (Stmt.For _ _ _ _ _) _) _ _ _ | with_reducible show wpAny _ _ (pyIter (Value.ref _)) _ _ _ | with_reducible show wpAny _ _ (compareOp _ (Value.ref _) (Value.ref _)) _ _ _ | with_reducible show wpAny _ _ (binaryOp _ (Value.ref _) (Value.ref _)) _ _ _ | with_reducible show wpAny _ _ (eval (PySem.Expr.ListComp _ _ _ _) _) _ _ _ | with_reducible show wpAny _ _ (storeName _ (Str.ofString "own") _) _ _ _ | with_reducible show wpAny _ _ (storeName _ (Str.ofString "fields") _) _ _ _ | with_reducible show wpAny _ _ (call (Value.builtin "list.append") _) _ _ _ | with_reducible show wpAny _ _ (call (Value.builtin "sorted") _) _ _ _ | with_reducible show wpAny _ _ (call (Value.builtin "dict.get") _) _ _ _ | with_reducible show wpAny _ _ (call (Value.type "list") _) _ _ _); refine held2 ?_) | ((with_reducible show wpAny _ _ (call _ [Value.str _ _]) _ _ _); refine len_writK (rowN _) (rowS_len _) (rowN_lt _) ?_) | ((with_reducible show wpAny _ _ (subscriptTail _ _ (Value.str _ _) (Value.int _ _)) _ _ _); refine row_char r0 r1 ?_; intro nm hnm) | ((with_reducible show wpAny _ _ (exec _ _) _ _ _); (fail_if_success (fail_if_success k_fold)); refine foldQ ?_; intro qk; walk1) | walk1 | (dsimp only; walk1) | (leave1; try dsimp only) | fail)); (try unfold Held2); (try dsimp only)))
 exact True.intro
theorem v1 : PySem.Challenge.rw_xw0010_01.Holds := by
 refine holds_law hd.said fun said => ?_
 refine holds_open (q := hd.view_39) (loose := hd.loose) (Xt := hd.Xt) (XP := XL hd.view_39 []) (Yf := hd.H.obs) (Ya := hd.H.val) (YP := hd.H.says) (N := 9352) hd.left (Hook.of hd.H) (Hook.keeps hd.H) (fun s e => xl_of s (Bool.and_eq_true_iff.mp e).1) XL.keeps (by rfl) (by rfl) (by rfl) (fun s e => recFacts_of (Bool.and_eq_true_iff.mp e).2) (by rfl) said hd.chk hd.bareE ?hw ?hc
 case hw => w_witness2
 clear said
 intro w s₀ s₁ mg mb G Y fa o pm cd doc dV kV ho hd hcd hD hmg hg args vals as hpre hlay hrd hwl hlo
 have KX := kIn_of Y
 have X := (Ground.X G).1
 have V := (Ground.X G).2
 refine Ground.open G ?_
 intro T B D TE TW
 wrow_args hpre hlay hrd hwl hlo
 refine enter_call ?_
 w_top on
 refine codeAny_mono ?_ (fun _ _ g => GoodW.toG g)
 have he := Dflts.none hD rfl
 subst he
 have he := Dflts.noKw hD
 subst he
 have hd' := fd_plain hd
 dsimp only at hd' hcd
 clear hd hmg hD
 rename Heap.IsList _ _ _ => hlist
 rename IntsAre _ _ => hints
 rename (¬ _ < _) => hlen
 rename List Int => ns
 rename List Value => vs
 have hlen' : ns.length ≤ 63 := by
  have := hlen
  push_cast at this
  omega
 clear hlen
 have TR : TopRead hd.view_39 (looseW hd.view_39 hd.loose) mg mb s₁.heap := ⟨T.g, T.b, T.nolimit, T.builtins, T.free⟩
 have hnol := T.nolimit
 clear D TE TW B V X Y G T
 (try (rename WShape.hasAll _ _ _ = true => hz1; clear hz1))
 (try (rename WData.layableAll _ = true => hz2; clear hz2))
 (try (rename PyData.layableAll0 _ = true => hz3; clear hz3))
 rename Addr => l
 refine call_cellsN_ret (binds := [(Str.ofString "script", .ref l)]) (by decide) ho hd' hnol hcd rfl (kinds_of (by kinds_ok)) (by decide) fun h₁ tk₁ cells F0 N0 X0 => ?_
 clear hd' hcd
 rw [bindL_one rfl] at F0
 (refine xEEAAL (cells_two (n1 := Str.ofString "fields") (n2 := Str.ofString "own") (a1 := s₁.heap.objs.size + 1 + 1) (a2 := s₁.heap.objs.size + 1) X0 rfl rfl) fun o1 o2 z548x2 c1d c2d => ?_; subst z548x2)
 clear X0
 refine wpAny_mono (Q := fun f s' => f = .ret (.bool true) ∧ ∃ h' tk, Keeps s₁.heap h' ∧ s' = { s₁ with heap := h', toks := tk }) ?_ (fun f s' x => ?post) (fun _ _ x => x)
 case post =>
  (refine xAEEAL x fun z549x0 h' tk kp z549x4 => ?_; try clear x; subst z549x0; subst z549x4)
  refine ⟨.inl ⟨_, .bool true, [], rfl, raisesW_false ?_, .bool true, ?_, fun _ => ⟨.nil, fun _ ha => nomatch ha⟩⟩, kp, rfl, hg⟩
  ·wrow_none_raised
  ·wrow_post
 obtain ⟨L, hL⟩ : ∃ L, L = s₁.heap.objs.size := ⟨_, rfl⟩
 rw [← hL] at F0 N0
 rw [← hL]
 clear hL hg
 change wpAny (model prog0 w) ⟨none, 302, some [_], some [], 7⟩ _ _ _ _
 k_extra "P"
 k_extra "a"
 refine' law_kinds (hB := s₁.heap) ⟨KX, TR⟩ fF.keep ?hd ?hu ?_
 case hd => decide
 case hu => decide
 intro KT S0 S1 Sb RT hk tkk kk kinds
 rename_i T hx4 oT0 loT hdT0 lT Dl ws hx3 hws hCn hLn lD hx2 oT hdT hx1 O hx0 oO loO hdO fs9 hi9 fi9 lO
 clear hdT0 fs9 hi9 fi9 hCn hLn
 obtain ⟨oLx, gLx⟩ : ∃ o, hx0.get? L = some o := by refine xEEEAL (fF.ns) fun o _ _ e _ => ?_; exact ⟨o, e⟩
 have gT := newsAt nN (show (T, oT) ∈ _ by k_mem)
 have gO := newsAt nN (show (O, oO) ∈ _ by k_mem)
 have gD := newsAt nN (show (Dl, _) ∈ _ by k_mem)
 have gc1 := newsAt nN (show (L + 1, o2) ∈ _ by k_mem)
 have gc2 := newsAt nN (show (L + 1 + 1, o1) ∈ _ by k_mem)
 have zT := (nN (T, oT) (by k_mem)).2
 have zO := (nN (O, oO) (by k_mem)).2
 have zD := (nN (Dl, _) (by k_mem)).2
 have zc1 := (nN (L + 1, o2) (by k_mem)).2
 have zc2 := (nN (L + 1 + 1, o1) (by k_mem)).2
 have F2 := Fr.keeps fF kk
 have N2 : News s₁.heap L hk (allN s₁.heap L hk) := allN_news
 have sk2 : s₁.heap.StaysIn hk := F2.keep
 dsimp only at kk kinds gT gO gD gc1 gc2 zT zO zD zc1 zc2
 have q1 : L + 1 ∉ [L] := fun q => neL1 (List.mem_singleton.mp q)
 have q2 : L + 1 + 1 ∉ [L] := fun q => neL2 (List.mem_singleton.mp q)
 clear nN fF
 k_extra "P"
 k_extra "a"
 have kp1 := lawKeep sk2 fF nN (fun q hq => .tail _ hq)
 refine stOwn fF (kp1 _ _ q1 (kk _ _ gc1)) c2d neL1 zc1.2 rfl fun h3 o3 F3 e3 d3 kp2 => ?_
 have kpA : KeepsOff [L, L + 1] hk h3 := kp1.tr kp2
 have e3' : h3.get? (L + 1 + 1) = some o1 := kp2 _ _ (fun q => neL12 (List.mem_singleton.mp q).symm) (kp1 _ _ q2 (kk _ _ gc2))
 have N3 : News s₁.heap L h3 ((L + 1 + 1, o1) :: (L + 1, o3) :: allN s₁.heap L h3) := newsCons9 e3' neL2 zc2.2 (newsCons9 e3 neL1 zc1.2 allN_news)
 have sk3 : s₁.heap.StaysIn h3 := F3.keep
 clear kp1 kp2 nN fF sk2
 k_extra "P"
 k_extra "a"
 rename_i h4
 have kB4 : KeepsOff [L] h3 h4 := lawKeep sk3 fF nN (fun q hq => .tail _ (.tail _ hq))
 have k4 : KeepsOff [L, L + 1] hk h4 := (kpA.tr kB4).sub (by simp)
 have sg4 : s₁.heap.StaysIn h4 := fF.keep
 have gL4 : ∃ o, h4.get? L = some o := by refine xEEEAL (fF.ns) fun o _ _ e _ => ?_; exact ⟨o, e⟩
 have g14 := kB4 _ _ q1 e3
 have g24 := kB4 _ _ q2 e3'
 clear kB4 kpA e3 e3' sk3
 obtain ⟨hB, hhB⟩ : ∃ hB, hB = hideAll h4 [L, L + 1, T, O] := ⟨_, rfl⟩
 have nT : T ≠ L + 1 ∧ T ≠ L + 1 + 1 := ⟨Nat.ne_of_gt lT.2, Nat.ne_of_gt lT.1⟩
 have nDT : Dl ≠ T := Nat.ne_of_gt lD.1
 have nDL : Dl ≠ L ∧ Dl ≠ L + 1 ∧ Dl ≠ L + 1 + 1 := ⟨zD.1, Nat.ne_of_gt lD.2.2, Nat.ne_of_gt lD.2.1⟩
 have nDO : Dl ≠ O := Nat.ne_of_lt lO.1
 have nOT : O ≠ T := Nat.ne_of_gt lO.2.1
 have nO : O ≠ L + 1 ∧ O ≠ L + 1 + 1 := ⟨Nat.ne_of_gt lO.2.2.2, Nat.ne_of_gt lO.2.2.1⟩
 clear lT lD lO
 have in4 : ∀ {a : Addr} {oa : Obj}, hx0.get? a = some oa → a ≠ L → a ≠ L + 1 → h4.get? a = some oa := fun e n1 n2 => k4 _ _ (by simp [n1, n2]) (kk _ _ e)
 have KN : Kinds hB KT S0 S1 Sb RT := kinds hB fun b o n e => by
  have ne : ∀ {a : Addr} {oa : Obj}, hx0.get? a = some oa → b ≠ a := fun ea q => by rw [← q, n] at ea; cases ea
  rw [hhB]
  exact hideAll_get _ (k4 b o (by simp [ne gLx, ne gc1]) e) (by simp [ne gLx, ne gc1, ne gT, ne gO])
 have st2 : hB.StaysIn h4 := fun b o e => by rw [hhB] at e; exact of_hideAll _ e
 have gB2 : s₁.heap.StaysIn hB := fun b o e => by
  rw [hhB]
  refine hideAll_get _ (sg4 b o e) fun q => ?_
  simp only [List.mem_cons, List.not_mem_nil, or_false] at q
  rcases q with q | q | q | q
  ·rw [q, fr_self fF] at e; cases e
  ·rw [q, zc1.2] at e; cases e
  ·rw [q, zT.2] at e; cases e
  ·rw [q, zO.2] at e; cases e
 have W2 : Wd w mg mb hB := ⟨KX.keeps gB2, TR.keeps gB2⟩
 refine xEEEEEEEEEEEEEEEEEEEAL (KN.rk) fun SD _ _ _ _ _ _ _ _ _ _ _ _ _ _ _ _ _ _ hS _ => ?_
 have hTO : TapeOk w hB h4 T Dl ws (ns.take 60) := ⟨by rw [hhB]; exact hideAll_none _ (by simp), loT, ⟨_, in4 gD zD.1 nDL.2.1, rfl, _, rfl⟩, hws, nDT, List.length_take_le _ _⟩
 refine' record_new W2 st2 ?hd ?hu hTO (in4 gT zT.1 nT.1) ⟨_, hdT⟩ ?n0 ?n1 (in4 gO zO.1 nO.1) ?hBO loO nOT nDO KN.kt hS hdO ?_
 case hd => decide
 case hu => decide
 case n0 => decide
 case n1 => decide
 case hBO => rw [hhB]; exact hideAll_none _ (by simp)
 intro D R RD FD Y YD YB YI tp H HY oT' oO' oH hkv kvs n' t h5 tk5 ok n1 n2 gT' dT' gO' dO' gH dH kh hy rA rK aS hfr hap k5
 have F5 := frButS fF k5 (List.forall_mem_cons.mpr ⟨⟨zT.2, zT.1⟩, List.forall_mem_cons.mpr ⟨⟨zO.2, zO.1⟩, List.forall_mem_nil _⟩⟩)
 have g15 := k5 _ _ (by simp [Ne.symm nT.1, Ne.symm nO.1]) g14
 have g25 := k5 _ _ (by simp [Ne.symm nT.2, Ne.symm nO.2]) g24
 have N5 : News s₁.heap L h5 ((L + 1 + 1, o1) :: (L + 1, o3) :: allN s₁.heap L h5) := newsCons9 g25 neL2 zc2.2 (newsCons9 g15 neL1 zc1.2 allN_news)
 have sk5 : s₁.heap.StaysIn h5 := F5.keep
 clear nN fF KN st2 gB2 W2 hS hTO in4 hhB
 k_extra "P"
 k_extra "a"
 dsimp only at hfr k5
 have kk5 : ∀ b o, hx0.get? b = none → hk.get? b = some o → h5.get? b = some o := fun b o n e => by
  have ne : ∀ {a : Addr} {oa : Obj}, hx0.get? a = some oa → b ≠ a := fun ea q => by rw [← q, n] at ea; cases ea
  exact k5 _ _ (by simp [ne gT, ne gO]) (k4 _ _ (by simp [ne gLx, ne gc1]) e)
 have hL5 : ∃ o, h5.get? L = some o := by refine xEEEAL (fF.ns) fun o _ _ e _ => ?_; exact ⟨o, e⟩
 refine' mkCell (hB := s₁.heap) ⟨KX, TR⟩ sk5 rfl ?hd ?hu ?_
 case hd => (dsimp only; decide)
 case hu => (dsimp only; decide)
 intro C CD x1 y1 x2 y2 x3 y3 nc h7 tk7 k7 gC gCD nCC
 dsimp only at k7 gC gCD
 have ne5 : ∀ {a b : Addr} {o : Obj}, h5.get? a = some o → h5.get? b = none → b ≠ a := fun e n q => by rw [q, e] at n; cases n
 (refine xEL hL5 fun oL5 gL5 => ?_; try clear hL5)
 have nCL := ne5 gL5 gC.2
 have nCDL := ne5 gL5 gCD.2
 have g17 := k7 _ _ g15
 have g27 := k7 _ _ g25
 have F7 := fF.keeps k7
 have N7 : News s₁.heap L h7 ((L + 1 + 1, o1) :: (L + 1, o3) :: allN s₁.heap L h7) := newsCons9 g27 neL2 zc2.2 (newsCons9 g17 neL1 zc1.2 allN_news)
 have sk7 : s₁.heap.StaysIn h7 := F7.keep
 clear nN fF
 k_extra "P"
 k_extra "a"
 have kp8 := lawKeep sk7 fF nN (fun q hq => .tail _ (.tail _ hq))
 k_dflt (refine' item_tupleT ?i1 ?i2 ?i3 ?i4 ?i5 ?_; (case i1 => exact (kinds _ fun b o n e => kp8 _ _ (fun q => by rw [List.mem_singleton.mp q, gLx] at n; cases n) (k7 _ _ (kk5 b o n e))).kt); (case i2 => decide); (case i3 => decide); (case i4 => rfl); (case i5 => rfl))
 clear kp8
 k_extra "P"
 k_extra "a"
 have kp9 := lawKeep sk7 fF nN (fun q hq => .tail _ (.tail _ hq))
 have zCD : s₁.heap.get? CD = none := by
  cases q : s₁.heap.get? CD with
  | none => rfl
  | some o => have := sk5 _ _ q; rw [gCD.2] at this; cases this
 refine setCell KX fF (kp9 _ _ (by simpa using nCL) gC.1) (kp9 _ _ (by simpa using nCDL) gCD.1) ⟨nCDL, zCD⟩ fun h10 F10 e10 kp10 => ?_
 have eC10 := kp10 _ _ (by simp [nCL, nCC]) (kp9 _ _ (by simpa using nCL) gC.1)
 have g110 := kp10 _ _ (by simp [neL1, Ne.symm (ne5 g15 gCD.2)]) (kp9 _ _ q1 g17)
 have g210 := kp10 _ _ (by simp [neL2, Ne.symm (ne5 g25 gCD.2)]) (kp9 _ _ q2 g27)
 have N10 : News s₁.heap L h10 ((L + 1 + 1, o1) :: (L + 1, o3) :: allN s₁.heap L h10) := newsCons9 g210 neL2 zc2.2 (newsCons9 g110 neL1 zc1.2 allN_news)
 have sk10 : s₁.heap.StaysIn h10 := F10.keep
 have k510 : KeepsOff [L] h5 h10 := fun b o nb e => kp10 _ _ (by
  have nb' : b ≠ L := by simpa using nb
  have : b ≠ CD := Ne.symm (ne5 e gCD.2)
  simp [nb', this]) (kp9 _ _ nb (k7 _ _ e))
 clear nN fF kp9 kp10
 k_extra "P"
 k_extra "a"
 rename_i NL hx12 lNL h11
 have k11 : KeepsOff [L] h5 h11 := (k510.tr (lawKeep sk10 fF nN (fun q hq => .tail _ (.tail _ (.tail _ hq))))).sub (by simp)
 have eNL := newsAt nN (.head _)
 have zNL := (nN _ (.head _)).2
 have newNL : ∀ b o, h10.get? b = some o → s₁.heap.get? b = none → b ≠ L → b ≠ NL := fun b o e n q z => Nat.lt_irrefl _ (z ▸ allLt_mem lNL.2.2 (allN_in e n q))
 have nNL : h5.get? NL = none := by
  cases q : h5.get? NL with
  | none => rfl
  | some o => exact absurd rfl (newNL NL o (k510 _ _ (by simpa using zNL.1) q) zNL.2 zNL.1)
 have zC : s₁.heap.get? C = none := by
  cases q : s₁.heap.get? C with
  | none => rfl
  | some o => have := sk5 _ _ q; rw [gC.2] at this; cases this
 have k1011 : KeepsOff [L] h10 h11 := lawKeep sk10 fF nN (fun q hq => .tail _ (.tail _ (.tail _ hq)))
 have cC : CellAt h11 C CD R := ⟨k1011 _ _ (by simpa using nCL) eC10, _, _, _, _, _, _, _, _, _, k1011 _ _ (by simpa using nCDL) e10⟩
 have sys9 : ∃ o, s₁.heap.get? sysModules = some o := ⟨_, KX _ _ (by k_is)⟩
 refine xEEAAAAL (law_start fF kinds gLx gc1 gc2 gT gO gD zT zO zc1.2 zc2.2 nOT nDT nDO nDL nT nO loT hws (List.length_take_le _ _) sys9 kk gL4 ⟨_, g14⟩ k4 sg4 k5 ok gT' dT' gO' dO' gH dH kh hy rA rK aS hfr hap k11 gC.2 gCD.2 nNL cC eNL (Ne.symm (newNL _ _ eC10 zC nCL)) (Ne.symm (newNL _ _ e10 zCD nCDL)) (k1011 _ _ q1 g110) d3 (k1011 _ _ q2 g210) c1d) fun hB3 v K W hDD hvals hvn => ?_
 obtain ⟨c, hc⟩ : ∃ c : LC, c = ⟨T, O, NL, R, RD, RT, Dl, ws, ns.take 60⟩ := ⟨_, rfl⟩
 rw [← hc] at K W
 have eT : T = c.T := by rw [hc]
 have eO : O = c.O := by rw [hc]
 have eN : NL = c.NL := by rw [hc]
 have hv0 : 0 ≤ v.n := by rw [hvn]; exact n1
 have hv1 : v.n ≤ 4 := by rw [hvn]; omega
 have F11 : Fr s₁.heap L h11 (lawMap c C KT _) := Fr.law fF (by rw [← eT]; with_unfolding_all rfl) (by with_unfolding_all rfl) (by rw [← eN]; with_unfolding_all rfl) (by with_unfolding_all rfl)
 have WD : Wd w mg mb hB3 := ⟨KX.keeps W.gB, TR.keeps W.gB⟩
 obtain ⟨m1, hm1⟩ : ∃ m1 : Str → Option Value, Fr s₁.heap L h11 (lawMap c C KT m1) := ⟨_, F11⟩
 clear F11 fF nN kinds gLx gc1 gc2 gT gO gD zT zO nOT nDT nDO nDL nT nO loT hws kk gL4 g14 k4 sg4 k5 gT' dT' gO' dO' gH dH kh hy rA rK aS hfr hap k11 gC gCD nNL cC eNL newNL eC10 e10 k1011 g110 g210 k510 sk10 sk7 sk5 kk5 g15 g25 g17 g27 ne5 gL5 zCD zC q1 q2 hdT loO hdO hc eT eO eN lNL zNL
 refine For_J ?_
 (refine xEEAAL (W.led) fun p1 p2 N1 z556x3 pd2 => ?_; (refine xEL z556x3 fun px pd1 => ?_; try clear z556x3))
 unfold lawMap at hm1
 k_extra "P"
 k_extra "a"
 have kq := lawKeep W.sk fF nN (by k_extra "N")
 replace W := W.move kq fF
 clear kq
 rename_i h12 tkz tz1 tz2 tz3 hz1 hz2
 refine wpAny_pyIter_range hz1 (by decide) ?_
 have hP0 : v.vals.length = 0 ∧ 0 ≤ v.n ∧ v.n ≤ 4 + ((0 : Nat) : Int) := ⟨by rw [hvals]; rfl, hv0, by simpa using hv1⟩
 have FL : Fr s₁.heap L h12 (lawMap c C KT m1) := fF
 try dsimp only
 rw [show Builtin.Range.rangeSize 0 2 1 = ((2 : Nat) : Int) from by decide]
 refine loop_range (s₁ := s₁) (n := 2) (fun i v => v.vals.length = i ∧ 0 ≤ v.n ∧ v.n ≤ 4 + (i : Int)) rfl W FL hDD hP0 ?turn1 ?done1
 case turn1 =>
  clear W fF nN pd1 pd2 hDD hvals hvn hv0 hv1 hz1 hz2 FL hP0
  rename KD _ _ _ _ _ _ _ => K0
  intro i hB' h tk v m t hi stB W hDD w56 F
  (refine xAAL w56 fun hvl hn0 hn1 => ?_; try clear w56)
  have K := K0.keeps stB
  have WD : Wd w mg mb hB' := ⟨KX.keeps W.gB, TR.keeps W.gB⟩
  have hvl' : v.vals.length < 100 := by omega
  clear stB K0
  unfold lawMap at F
  (refine xEEAAL (W.led) fun p1 p2 N1 z557x3 pd2 => ?_; (refine xEL z557x3 fun px pd1 => ?_; try clear z557x3))
  k_extra "P"
  k_extra "a"
  have kq := lawKeep W.sk fF nN (by k_extra "N")
  replace W := W.move kq fF
  clear kq
  refine LW.parts WD W fF (by decide) (by decide) ?_
  intro B pt1 pt2 pt3 pn h' tk' WB FB gB nB
  have zB := W.newI nB
  clear fF nN W
  have W := WB
  clear WB pd1 pd2
  (refine xEEAAL (W.led) fun p1 p2 N1 z558x3 pd2 => ?_; (refine xEL z558x3 fun px pd1 => ?_; try clear z558x3))
  k_extra "P"
  k_extra "a"
  have kq := lawKeep W.sk fF nN (by k_extra "N")
  replace gB := kq _ _ (fun q => zB.2.1 (List.mem_singleton.mp q)) gB
  replace W := W.move kq fF
  clear kq
  refine own_d W.X ?_
  intro td'
  clear pd1 pd2 nN
  (refine xEEAAL (W.led) fun p1 p2 N1 z559x3 pd2 => ?_; (refine xEL z559x3 fun px pd1 => ?_; try clear z559x3))
  k_extra "P"
  k_extra "a"
  have kq := lawKeep W.sk fF nN (by k_extra "N")
  replace gB := kq _ _ (fun q => zB.2.1 (List.mem_singleton.mp q)) gB
  replace W := W.move kq fF
  clear kq
  refine row_any (t1 := pt1) (t2 := pt2) (t3 := pt3) ⟨_, gB, rfl, _, rfl⟩ ?_
  intro trow
  clear gB zB nB
  clear pd1 pd2 nN
  (refine xEEAAL (W.led) fun p1 p2 N1 z560x3 pd2 => ?_; (refine xEL z560x3 fun px pd1 => ?_; try clear z560x3))
  k_extra "P"
  k_extra "a"
  have kq := lawKeep W.sk fF nN (by k_extra "N")
  replace W := W.move kq fF
  clear kq
  refine LW.next WD W fF (by decide) (by decide) hn0 (by omega) (rowN_pos _) (rowN_le _) ?_
  intro r tw2 h' tk' r0 r1 WN FN kpN
  clear fF nN W kpN
  have W := WN
  clear WN
  have e2 : ({ v with n := v.n + 1 } : LV).n = v.n + 1 := rfl
  clear pd1 pd2
  (refine xEEAAL (W.led) fun p1 p2 N1 z561x3 pd2 => ?_; (refine xEL z561x3 fun px pd1 => ?_; try clear z561x3))
  k_extra "P"
  k_extra "a"
  have kq := lawKeep W.sk fF nN (by k_extra "N")
  replace W := W.move kq fF
  clear kq
  refine names_meth W.X ?_
  clear pd1 pd2 nN
  (refine xEEAAL (W.led) fun p1 p2 N1 z562x3 pd2 => ?_; (refine xEL z562x3 fun px pd1 => ?_; try clear z562x3))
  k_extra "P"
  k_extra "a"
  have kq := lawKeep W.sk fF nN (by k_extra "N")
  replace W := W.move kq fF
  clear kq
  refine LW.getR KX K W fF ?_
  clear pd1 pd2 nN
  (refine xEEAAL (W.led) fun p1 p2 N1 z563x3 pd2 => ?_; (refine xEL z563x3 fun px pd1 => ?_; try clear z563x3))
  k_extra "P"
  k_extra "a"
  have kq := lawKeep W.sk fF nN (by k_extra "N")
  replace W := W.move kq fF
  clear kq
  refine LW.place WD K W fF (by decide) (by decide) (by show NIn v.D nm; rw [← hDD]; exact hnm) ?_
  intro P pw h' tk' WP FP iP nP
  have zP := W.newI nP
  clear fF nN W
  have W := WP
  clear WP
  clear pd1 pd2
  (refine xEEAAL (W.led) fun p1 p2 N1 z564x3 pd2 => ?_; (refine xEL z564x3 fun px pd1 => ?_; try clear z564x3))
  k_extra "P"
  k_extra "a"
  have kq := lawKeep W.sk fF nN (by k_extra "N")
  have iP' := tupS iP (fun q => zP.2.1 (List.mem_singleton.mp q)) (fun b o e nb => kq b o nb e)
  have iT := News.isTup nN (.head _)
  have zt := (nN _ (.head _)).2
  dsimp only at zt iT
  rename (_ < _ ∧ _ < _ ∧ AllLt _ _) => l1
  have zT := W.newI (lt_new (fun p hp => allLt_mem l1.2.2 hp) zt.2 zt.1)
  replace W := W.move kq fF
  refine W.append fF ⟨zT.1, zT.2.2.2.2⟩ ⟨zP.1, zP.2.2.2.2⟩ ⟨zT.2.1, zT.2.2.1, zT.2.2.2.1⟩ ⟨zP.2.1, zP.2.2.1, zP.2.2.2.1⟩ iT iP' (NIn.name hnm) hvl' ?_
  intro h9 W9 F9
  clear W fF nN kq iP iP' iT zt zT zP nP l1 pd1 pd2
  (refine xEEAAL (W9.led) fun p1 p2 N1 z565x3 pd2 => ?_; (refine xEL z565x3 fun px pd1 => ?_; try clear z565x3))
  k_extra "P"
  rename Fr _ _ _ _ => fF
  exact ⟨_, _, _, _, rfl, W9, hDD, ⟨by show (v.vals ++ _).length = i + 1; rw [List.length_append, hvl]; rfl, by show 0 ≤ v.n + 1; omega, by show v.n + 1 ≤ 4 + ((i + 1 : Nat) : Int); omega⟩, Fr.law fF (by with_unfolding_all rfl) (by with_unfolding_all rfl) (by with_unfolding_all rfl) (by with_unfolding_all rfl)⟩
 case done1 =>
  clear W fF nN pd1 pd2 hDD hvals hvn hv0 hv1 hz1 hz2 FL hP0
  intro h tk v m W hDD w57 F
  (refine xAAL w57 fun hvl hn0 hn1 => ?_; try clear w57)
  (try dsimp only)
  unfold lawMap at F
  (refine xEEAAL (W.led) fun p1 p2 N1 z597x3 pd2 => ?_; (refine xEL z597x3 fun px pd1 => ?_; try clear z597x3))
  k_extra "P"
  (try unfold Held2)
  (try dsimp only)
  k_extra "a"
  have kq := lawKeep W.sk fF nN (by k_extra "N")
  replace W := W.move kq fF
  clear kq
  refine For_J ?_
  clear pd1 pd2 nN
  (refine xEEAAL (W.led) fun p1 p2 N1 z598x3 pd2 => ?_; (refine xEL z598x3 fun px pd1 => ?_; try clear z598x3))
  k_extra "P"
  (try unfold Held2)
  (try dsimp only)
  k_extra "a"
  have kq := lawKeep W.sk fF nN (by k_extra "N")
  replace W := W.move kq fF
  clear kq
  refine LW.next WD W fF (by decide) (by decide) hn0 (by omega) (by decide) (by decide) ?_
  intro r tr h' tk' r0 r1 WN FN kpN
  have q1 : ({ v with n := v.n + 1 } : LV).vals.length = 2 := hvl
  have q2 : ({ v with n := v.n + 1 } : LV).Dh = ({ v with n := v.n + 1 } : LV).D := hDD
  have q3 : 0 ≤ ({ v with n := v.n + 1 } : LV).n := by show 0 ≤ v.n + 1; omega
  have q4 : ({ v with n := v.n + 1 } : LV).n ≤ 7 := by show v.n + 1 ≤ 7; omega
  clear fF nN W kpN pd1 pd2 hvl hDD hn0 hn1
  generalize ({ v with n := v.n + 1 } : LV) = v2 at WN q1 q2 q3 q4
  have W := WN
  clear WN
  (refine xEEAAL (W.led) fun p1 p2 N1 z599x3 pd2 => ?_; (refine xEL z599x3 fun px pd1 => ?_; try clear z599x3))
  k_extra "P"
  (try unfold Held2)
  (try dsimp only)
  k_extra "a"
  have kq := lawKeep W.sk fF nN (by k_extra "N")
  replace W := W.move kq fF
  clear kq
  rename_i h13 tkz tz1 tz2 tz3 hz1 hz2
  refine wpAny_pyIter_range hz1 (range_small r0 r1) ?_
  try dsimp only
  rw [range_size r0 r1]
  have FL : Fr s₁.heap L h13 (lawMap c C KT _) := Fr.law fF (by with_unfolding_all rfl) (by with_unfolding_all rfl) (by with_unfolding_all rfl) (by with_unfolding_all rfl)
  have hn9 : (1 + r).toNat ≤ 9 := by omega
  have hP0 : 2 ≤ v2.vals.length ∧ v2.vals.length ≤ 2 + 0 ∧ 0 ≤ v2.n ∧ v2.n ≤ 7 + 6 * ((0 : Nat) : Int) := ⟨by omega, by omega, q3, by simpa using q4⟩
  clear hz1 hz2
  refine loop_range (s₁ := s₁) (n := (1 + r).toNat) (fun i v => 2 ≤ v.vals.length ∧ v.vals.length ≤ 2 + i ∧ 0 ≤ v.n ∧ v.n ≤ 7 + 6 * (i : Int)) rfl W FL q2 hP0 ?turn2 ?done2
  case turn2 =>
   clear W fF nN pd1 pd2 q1 q2 q3 q4 FL hP0
   rename KD _ _ _ _ _ _ _ => K0
   intro i hB' h tk v m t hi stB W hDD w58 F
   (refine xAAAL w58 fun hv2 hvl hn0 hn1 => ?_; try clear w58)
   have K := K0.keeps stB
   have WD : Wd w mg mb hB' := ⟨KX.keeps W.gB, TR.keeps W.gB⟩
   have hi9 : i < 9 := by omega
   clear stB K0
   unfold lawMap at F
   (refine xEEAAL (W.led) fun p1 p2 N1 z600x3 pd2 => ?_; (refine xEL z600x3 fun px pd1 => ?_; try clear z600x3))
   k_extra "P"
   (try unfold Held2)
   (try dsimp only)
   k_extra "a"
   have kq := lawKeep W.sk fF nN (by k_extra "N")
   replace W := W.move kq fF
   clear kq
   refine W.deedL WD K fF hDD (by decide) (by decide) hn0 (by omega) (by omega) hv2 ?_
   intro v' h' tk' WN FN hDD' m1 m2 m3
   clear fF nN W pd1 pd2 hDD
   have W := WN
   clear WN
   (refine xEEAAL (W.led) fun p1 p2 N1 z601x3 pd2 => ?_; (refine xEL z601x3 fun px pd1 => ?_; try clear z601x3))
   k_extra "P"
   (try unfold Held2)
   (try dsimp only)
   k_extra "a"
   have kq := lawKeep W.sk fF nN (by k_extra "N")
   replace W := W.move kq fF
   clear kq
   refine LW.getR KX K W fF ?_
   clear pd1 pd2 nN
   (refine xEEAAL (W.led) fun p1 p2 N1 z602x3 pd2 => ?_; (refine xEL z602x3 fun px pd1 => ?_; try clear z602x3))
   k_extra "P"
   (try unfold Held2)
   (try dsimp only)
   k_extra "a"
   have kq := lawKeep W.sk fF nN (by k_extra "N")
   replace W := W.move kq fF
   clear kq
   refine LW.getFD KX W fF ?_
   clear pd1 pd2 nN
   (refine xEEAAL (W.led) fun p1 p2 N1 z603x3 pd2 => ?_; (refine xEL z603x3 fun px pd1 => ?_; try clear z603x3))
   k_extra "P"
   (try unfold Held2)
   (try dsimp only)
   k_extra "a"
   have kq := lawKeep W.sk fF nN (by k_extra "N")
   replace W := W.move kq fF
   clear kq
   refine xEEAL (W.c2o) fun oz xz az bz => ?_
   refine stOwn fF az bz neL2 (W.gn W.c2n.1) rfl fun h3 o3 F3 e3 d3 k3 => ?_
   replace W := W.cell2 k3 e3 d3
   clear fF nN pd1 pd2 k3 az bz
   refine xEAL (W.led2 e3) fun p2 N1 pd2 => ?_
   k_extra "P"
   (try unfold Held2)
   (try dsimp only)
   k_extra "a"
   have kq := lawKeep W.sk fF nN (by k_extra "N")
   replace e3 := kq _ _ (fun q => neL2 (List.mem_singleton.mp q)) e3
   replace W := W.move kq fF
   clear kq
   refine xEAAL (W.dictF) fun kvs hF kr ar => ?_
   refine sorted_dict rfl fF W.sk hF (W.loF K) (recKv_len3 kr) ?_
   intro B1 h' tk' vs1 ss1 n1 k1 F1 gB1 nB1 hS1 pS1 sS1
   have zB1 := W.newI nB1
   rw [recKv_keys kr] at pS1
   replace e3 := k1 _ _ (fun q => neL2 (List.mem_singleton.mp q)) e3
   replace W := W.move k1 F1
   clear fF nN nB1 k1 hF kr ar
   refine xEAL (W.led2 e3) fun p2 N1 pd2 => ?_
   k_extra "P"
   (try unfold Held2)
   try dsimp only
   rename News _ _ _ _ => nN
   have gBD := newsAt nN (.head _)
   have zBD := (nN _ (.head _)).2.1
   have gD' := (nN _ (.head _)).2.2
   dsimp only at zBD gD'
   (try unfold Held2)
   (try dsimp only)
   k_extra "a"
   have kq := lawKeep W.sk fF nN (by k_extra "N")
   replace e3 := kq _ _ (fun q => neL2 (List.mem_singleton.mp q)) e3
   replace gB1 := kq _ _ (fun q => zB1.2.1 (List.mem_singleton.mp q)) gB1
   replace W := W.move kq fF
   clear kq
   refine own_has W.X ?_
   clear nN
   refine xEAL (W.led2 e3) fun p2' N1' pd2' => ?_
   k_extra "P"
   (try unfold Held2)
   (try dsimp only)
   k_extra "a"
   have kq := lawKeep W.sk fF nN (by k_extra "N")
   replace e3 := kq _ _ (fun q => neL2 (List.mem_singleton.mp q)) e3
   replace gB1 := kq _ _ (fun q => zB1.2.1 (List.mem_singleton.mp q)) gB1
   replace gBD := kq _ _ (fun q => zBD (List.mem_singleton.mp q)) gBD
   replace W := W.move kq fF
   clear kq
   refine xEAAL (W.dictH) fun hk2 hH kh hy => ?_
   refine list_dict rfl fF W.sk hH (W.loH K) (hasKv_len3 kh) ?_
   intro B2 h' tk' vs2 n2 k2 F2 gB2 nB2 hS2
   have zB2 := W.newI nB2
   rw [hasKv_keys kh] at hS2
   replace e3 := k2 _ _ (fun q => neL2 (List.mem_singleton.mp q)) e3
   replace gB1 := k2 _ _ (fun q => zB1.2.1 (List.mem_singleton.mp q)) gB1
   replace gBD := k2 _ _ (fun q => zBD (List.mem_singleton.mp q)) gBD
   replace W := W.move k2 F2
   clear fF nN nB2 k2 hH kh hy pd2 pd2'
   refine xEAL (W.led2 e3) fun p2 N1 pd2 => ?_
   have N2 := newsCons9 gB2 zB2.2.1 (W.gn zB2.2.2.2.2) (newsCons9 gBD zBD gD' N1)
   clear N1
   k_extra "P"
   (try unfold Held2)
   (try dsimp only)
   k_extra "a"
   have kq := lawKeep W.sk fF nN (by k_extra "N")
   replace e3 := kq _ _ (fun q => neL2 (List.mem_singleton.mp q)) e3
   replace gB1 := kq _ _ (fun q => zB1.2.1 (List.mem_singleton.mp q)) gB1
   replace W := W.move kq fF
   clear kq
   have hl2 : vs2.length ≤ 3 := by rw [hS2.length]; cases v'.Dh <;> simp [keysH]
   refine add_arrays fF nN ⟨_, gBD, rfl, _, rfl⟩ ⟨_, gB2, rfl, _, rfl⟩ (fun h5 F5 N5 => ?_) (by rw [sizeLine_eq]; simp only [List.size_toArray, List.length_singleton]; omega)
   have gB3 := (N5 _ (.head _)).1
   have zB3 := (N5 _ (.head _)).2.1
   dsimp only at gB3 zB3
   have k5 := lawKeep W.sk F5 N5 (by k_extra "N")
   replace e3 := k5 _ _ (fun q => neL2 (List.mem_singleton.mp q)) e3
   replace gB1 := k5 _ _ (fun q => zB1.2.1 (List.mem_singleton.mp q)) gB1
   replace W := W.move k5 F5
   have hS3 : ∀ tz, StrsAre (Value.str (Str.ofString "d") tz :: vs2) (Str.ofString "d" :: keysH v'.Dh) := fun tz => .cons _ tz hS2
   clear fF nN k5 N5 gB2 gBD zBD gD' zB2 pd2
   refine xEAL (W.led2 e3) fun p2 N1 pd2 => ?_
   k_extra "P"
   (try unfold Held2)
   (try dsimp only)
   k_extra "a"
   have kq := lawKeep W.sk fF nN (by k_extra "N")
   replace e3 := kq _ _ (fun q => neL2 (List.mem_singleton.mp q)) e3
   replace gB1 := kq _ _ (fun q => zB1.2.1 (List.mem_singleton.mp q)) gB1
   replace gB3 := kq _ _ (fun q => zB3 (List.mem_singleton.mp q)) gB3
   replace W := W.move kq fF
   clear kq
   refine sorted_list (vs := Value.str (Str.ofString "d") _ :: vs2) fF ⟨_, gB3, rfl, _, rfl⟩ (hS3 _) (by simp only [List.length_cons]; omega) ?_
   intro B4 h6 vs6 ss6 n6 k6 F6 gB6 nB6 hS6 pS6 sS6
   have zB6 := W.newI nB6
   rw [hDD'] at pS6
   have e6 : ss6 = ss1 := sorted_unique sS6 sS1 (pS6.trans pS1.symm)
   subst e6
   replace e3 := k6 _ _ e3
   replace gB1 := k6 _ _ gB1
   replace W := W.lift k6
   clear fF nN k6 gB3 zB3 hS3 hS2 hl2 pS6 pS1 sS1 sS6 nB6 pd2
   refine xEAL (W.led2 e3) fun p2 N1 pd2 => ?_
   k_extra "P"
   (try unfold Held2)
   (try dsimp only)
   k_extra "a"
   have kq := lawKeep W.sk fF nN (by k_extra "N")
   replace e3 := kq _ _ (fun q => neL2 (List.mem_singleton.mp q)) e3
   replace gB1 := kq _ _ (fun q => zB1.2.1 (List.mem_singleton.mp q)) gB1
   replace gB6 := kq _ _ (fun q => zB6.2.1 (List.mem_singleton.mp q)) gB6
   replace W := W.move kq fF
   clear kq
   refine ne_strs ⟨_, gB1, rfl, _, rfl⟩ ⟨_, gB6, rfl, _, rfl⟩ hS1 hS6 (by show (7 : Nat) < _; decide) ?_
   clear gB1 gB6 hS1 hS6 zB1 zB6
   clear nN
   refine xEAL (W.led2 e3) fun p2 N1 pd2 => ?_
   k_extra "P"
   (try unfold Held2)
   (try dsimp only)
   k_extra "a"
   have kq := lawKeep W.sk fF nN (by k_extra "N")
   replace e3 := kq _ _ (fun q => neL2 (List.mem_singleton.mp q)) e3
   replace W := W.move kq fF
   clear kq
   refine xEAAL (W.dictF) fun kvs9 hF kr ar => ?_
   refine xEL (recKv_d kr) fun td9 hd9 => ?_
   refine itemD_any hF hd9 ?_
   clear hF kr ar
   clear nN
   refine xEAL (W.led2 e3) fun p2 N1 pd2 => ?_
   k_extra "P"
   (try unfold Held2)
   (try dsimp only)
   k_extra "a"
   have kq := lawKeep W.sk fF nN (by k_extra "N")
   replace e3 := kq _ _ (fun q => neL2 (List.mem_singleton.mp q)) e3
   replace W := W.move kq fF
   clear kq
   refine own_d W.X ?_
   intro td8
   rw [hDD']
   clear nN
   refine xEAL (W.led2 e3) fun p2 N1 pd2 => ?_
   k_extra "P"
   all_goals (try exact absurd (rfl : v'.D.d = v'.D.d) ‹_›)
   (try unfold Held2)
   (try dsimp only)
   k_extra "a"
   have kq := lawKeep W.sk fF nN (by k_extra "N")
   replace e3 := kq _ _ (fun q => neL2 (List.mem_singleton.mp q)) e3
   replace W := W.move kq fF
   clear kq
   refine wpAny_ListComp_free (fun _ => false) (fun _ _ => True) (by with_unfolding_all rfl) (by decide) rfl (by decide) rfl ?_
   clear nN
   refine xEAL (W.led2 e3) fun p2 N1 pd2 => ?_
   k_extra "P"
   (try unfold Held2)
   (try dsimp only)
   k_extra "a"
   have kq := lawKeep W.sk fF nN (by k_extra "N")
   replace e3 := kq _ _ (fun q => neL2 (List.mem_singleton.mp q)) e3
   replace W := W.move kq fF
   clear kq
   refine own_has W.X ?_
   clear nN
   refine xEAL (W.led2 e3) fun p2 N1 pd2 => ?_
   k_extra "P"
   (try unfold Held2)
   (try dsimp only)
   k_extra "a"
   have kq := lawKeep W.sk fF nN (by k_extra "N")
   replace e3 := kq _ _ (fun q => neL2 (List.mem_singleton.mp q)) e3
   replace W := W.move kq fF
   clear kq
   refine xEAAL (W.dictH) fun hk9 hH kh hy => ?_
   refine xEL (hH.dictAt) fun ep hat => ?_
   refine xEAL (Heap.dictOf_iff.mp hH) fun oH9 gH9 dH9 => ?_
   rw [hDD'] at kh
   refine wpAny_pyIter_dict (W.loH K) hat ?_
   have zI := W.newI (Heap.get?_none_of_le (Nat.le_refl h6.objs.size))
   have kup : Keeps h6 (h6.push { cls := .type "dict_keyiterator", data := .fields #[.ref v'.H, .int 0 0, .int hk9.length 0, .int ep 0] }) := fun b o e => Heap.get?_push_of_some _ e
   have W2 := W.lift kup
   have F2 := fF.keeps kup
   have e32 := kup _ _ e3
   try dsimp only
   refine ⟨h6.objs.size, _, _, _, _, _, rfl, Walks.dictKeys rfl _ v'.H (Nat.ne_of_lt hat.lt_size) hk9 ep, kdl_size (by have := hasKv_len3 kh; omega), ⟨⟨_, Heap.get?_push_size _ rfl, rfl, rfl⟩, hat.push _⟩, ?fp, ⟨?tests, ?elt⟩, ?fin⟩
   case fp =>
    intro b hb
    rw [Heap.size_push]
    simp only [List.mem_cons, List.not_mem_nil, or_false] at hb
    rcases hb with rfl | rfl
    ·exact Nat.lt_succ_self _
    ·exact Nat.lt_succ_of_lt hat.lt_size
   case elt =>
    intro C i x s₃ m₃ E' hC hP hpv
    exact absurd hpv Bool.false_ne_true
   case tests =>
    clear fF nN e3 W hH hat hd9 pd2
    intro C9 i9 x9 s₃ m₃ E' hC9 w59 hns hm hkp htk
    (refine xEEAL w59 fun k9 xx9 hk9' hkey => ?_; try clear w59)
    (refine xEL (Value.isStrOf_shape hkey) fun tz9 z623x1 => ?_; subst z623x1)
    refine xEAL (LCg.ns_obj hns) fun oC9 eC9 nC9 => ?_
    have kp9 : KeepsOff [h6.objs.size] _ s₃.heap := fun b o nb e => hkp b o nb e
    have hS9 : ∀ a ∈ [h6.objs.size], a ∉ v'.at c ∧ a ≠ L ∧ a ≠ L + 1 ∧ a ≠ L + 1 + 1 ∧ hB'.get? a = none := fun a ha => by rw [List.mem_singleton.mp ha]; exact zI
    have W := W2.off kp9 hS9
    have F9 := W2.offF F2 kp9 hS9
    have e3 := kp9 _ _ (fun q => zI.2.2.2.1 (List.mem_singleton.mp q).symm) e32
    have gH8 := kp9 _ _ (fun q => Nat.lt_irrefl _ ((List.mem_singleton.mp q) ▸ Heap.lt_size gH9)) (kup _ _ gH9)
    have zC9 := W2.newI (Heap.get?_none_of_le hC9)
    refine wpAny_tests_one ?_
    refine xEAL (W.led2 e3) fun p2 N0 pd2 => ?_
    have N1 := newsCons9 eC9 zC9.2.1 (W.gn zC9.2.2.2.2) N0
    clear hkp kp9 hS9 W2 F2 e32 kup htk hns N0 hC9
    k_extra "P"
    (try unfold Held2)
    refine xEAAL (W.dictF) fun kvs8 hF kr ar => ?_
    rcases part_pair kr kh hk9' with w60 | w61
    ·(refine xEEEAL w60 fun nn u1 u2 b1 b2 => ?_; try clear w60)
     refine itemD_any hF b1 ?_
     k_extra "P"
     (try unfold Held2)
     (try dsimp only)
     k_extra "a"
     refine told_int WD W.st (by decide) (by decide) ?_
     intro h' tk' kk
     have W' := W.lift kk
     have F' := fF.keeps kk
     have e3' := kk _ _ e3
     have eC' := kk _ _ eC9
     have gH' := kk _ _ gH8
     clear fF nN pd2
     refine xEAL (W'.led2 e3') fun p2 N0 pd2 => ?_
     have N1 := newsCons9 eC' zC9.2.1 (W.gn zC9.2.2.2.2) N0
     clear N0
     k_extra "P"
     (try unfold Held2)
     (try dsimp only)
     refine own_has W'.X ?_
     k_extra "P"
     (try unfold Held2)
     (try dsimp only)
     refine itemD_any (Heap.dictOf_iff.mpr ⟨_, gH', dH9⟩) b2 ?_
     k_extra "P"
     ·simp
     ·exact ⟨h', _, rfl, kk⟩
    ·(refine xEEEAAL w61 fun cc f9 z9 hDe b1 b2 => ?_; try clear w61)
     refine itemD_any hF b1 ?_
     k_extra "P"
     rw [hDe] at ar
     (try unfold Held2)
     (try dsimp only)
     k_extra "a"
     refine told_arr WD W.st (by decide) (by decide) ar.1 ?_
     intro h' tk' kk
     have W' := W.lift kk
     have F' := fF.keeps kk
     have e3' := kk _ _ e3
     have eC' := kk _ _ eC9
     have gH' := kk _ _ gH8
     clear fF nN pd2
     refine xEAL (W'.led2 e3') fun p2 N0 pd2 => ?_
     have N1 := newsCons9 eC' zC9.2.1 (W.gn zC9.2.2.2.2) N0
     clear N0
     k_extra "P"
     (try unfold Held2)
     (try dsimp only)
     refine own_has W'.X ?_
     k_extra "P"
     (try unfold Held2)
     (try dsimp only)
     refine itemD_any (Heap.dictOf_iff.mpr ⟨_, gH', dH9⟩) b2 ?_
     k_extra "P"
     (try unfold Held2)
     try dsimp only
     refine xEAAL (W'.dictH) fun hkx _ _ hy' => ?_
     rw [hDD', hDe] at hy'
     (refine xEEEL hy' fun y1 y2 yn gHY => ?_; try clear hy')
     refine xEEEL (ar.1.o4) fun yn2 y3 y4 gYI => ?_
     refine ke_ne_ints (xs := [_, _]) (ys := [_, _]) (ns := [f9, f9 + 3]) (ms := [f9, f9 + 3]) ⟨_, kk _ _ gYI, rfl, _, rfl⟩ ⟨_, gHY, rfl, _, rfl⟩ (.cons _ _ (.cons _ _ .nil)) (.cons _ _ (.cons _ _ .nil)) (by show (7 : Nat) + 64 < _; decide) ?_
     rw [decide_eq_true rfl]
     k_extra "P"
     all_goals (try exact ⟨h', _, rfl, kk⟩)
     all_goals (try rfl)
   case fin =>
    intro D9 h9 tk9 ys vsx hD9 hl9 hpl9 hlen9 hP9 hpair hkp
    have hS9 : ∀ a ∈ [h6.objs.size], a ∉ v'.at c ∧ a ≠ L ∧ a ≠ L + 1 ∧ a ≠ L + 1 + 1 ∧ hB'.get? a = none := fun a ha => by rw [List.mem_singleton.mp ha]; exact zI
    have zD9 := W2.newI hD9
    have kp9 : KeepsOff [h6.objs.size] _ h9 := fun b o nb e => hkp b o nb e
    clear W e3 fF nN
    have W := W2.off kp9 hS9
    have F9 := W2.offF F2 kp9 hS9
    have e3 := kp9 _ _ (fun q => zI.2.2.2.1 (List.mem_singleton.mp q).symm) e32
    have hys : ys = #[] := by
     have : vsx.filter (fun _ => false) = [] := by simp
     rw [this] at hpair
     cases hz : ys.toList with
     | nil => simpa using hz
     | cons a b => rw [hz] at hpair; cases hpair
    subst hys
    clear hpair hP9 hlen9 hpl9 hkp kp9 hS9 W2 F2 e32 kup hat hH
    (refine xEAAEL hl9 fun oD9 gD9 cD9 nD9 dD9 => ?_; try clear hl9)
    refine xEAL (W.led2 e3) fun p2 N1 pd2 => ?_
    k_extra "P"
    (try unfold Held2)
    (try dsimp only)
    k_extra "a"
    have kq := lawKeep W.sk fF nN (by k_extra "N")
    replace e3 := kq _ _ (fun q => neL2 (List.mem_singleton.mp q)) e3
    replace gD9 := kq _ _ (fun q => zD9.2.1 (List.mem_singleton.mp q)) gD9
    have gE9 := newsAt nN (.head _)
    replace W := W.move kq fF
    clear kq
    refine ne_strs (xs := []) (ys := []) (ss := []) ⟨oD9, gD9, cD9, nD9, dD9⟩ ⟨_, gE9, rfl, _, rfl⟩ .nil .nil (by show (7 : Nat) < _; decide) ?_
    clear gE9 gD9
    clear nN
    refine xEAL (W.led2 e3) fun p2 N1 pd2 => ?_
    k_extra "P"
    k_extra "a"
    replace W := W.move (lawKeep W.sk fF nN (by k_extra "N")) fF
    exact ⟨_, _, _, _, rfl, W, hDD', ⟨by omega, by omega, by omega, by push_cast; omega⟩, Fr.law fF (by with_unfolding_all rfl) (by with_unfolding_all rfl) (by with_unfolding_all rfl) (by with_unfolding_all rfl)⟩
  case done2 =>
   clear W fF nN pd1 pd2 q1 q2 q3 q4 FL hP0
   intro h tk v m W hDD w62 F
   (refine xAAAL w62 fun hv2 hvl hn0 hn1 => ?_; try clear w62)
   try dsimp only
   unfold lawMap at F
   (refine xEEAAL (W.led) fun p1 p2 N1 z635x3 pd2 => ?_; (refine xEL z635x3 fun px pd1 => ?_; try clear z635x3))
   k_extra "P"
   k_extra "a"
   have kq := lawKeep W.sk fF nN (by k_extra "N")
   replace W := W.move kq fF
   clear kq
   refine For_J ?_
   clear pd1 pd2 nN
   (refine xEEAAL (W.led) fun p1 p2 N1 z636x3 pd2 => ?_; (refine xEL z636x3 fun px pd1 => ?_; try clear z636x3))
   k_extra "P"
   k_extra "a"
   have kq := lawKeep W.sk fF nN (by k_extra "N")
   replace W := W.move kq fF
   clear kq
   rename_i h14
   have FL := Fr.law (C := C) (KT := KT) (c := c) fF (by with_unfolding_all rfl) (by with_unfolding_all rfl) (by with_unfolding_all rfl) (by with_unfolding_all rfl)
   refine wpAny_pyIter_list W.lst ?_
   try dsimp only
   clear hn0 hn1 hv2 hvl
   refine loop_list (s₁ := s₁) rfl W FL ?turn3 ?done3
   case turn3 =>
    clear W fF nN pd1 pd2 FL
    rename KD _ _ _ _ _ _ _ => K0
    intro i hB' h tk m x hx stB W F
    have K := K0.keeps stB
    have WD : Wd w mg mb hB' := ⟨KX.keeps W.gB, TR.keeps W.gB⟩
    clear stB K0
    (refine xEEEEEEAAAAAL (W.X.nm.2.1 x (List.mem_of_getElem? hx)) fun tup pl name u1 u2 u3 z637x6 mt mp i1 i2 hm => ?_; subst z637x6)
    have npl : pl ≠ L := fun q => W.Ln.2 (q ▸ .tail _ (.tail _ (List.mem_append_right _ mp)))
    clear mt mp
    unfold lawMap at F
    (refine xEEAAL (W.led) fun p1 p2 N1 z638x3 pd2 => ?_; (refine xEL z638x3 fun px pd1 => ?_; try clear z638x3))
    k_extra "P"
    (try unfold Held2)
    (try dsimp only)
    k_extra "a"
    have kq := lawKeep W.sk fF nN (by k_extra "N")
    replace i2 := tupS i2 (fun q => npl (List.mem_singleton.mp q)) (fun b o e nb => kq b o nb e)
    replace W := W.move kq fF
    clear kq i1
    refine xEAAL (W.X.rc) fun kvs hA kr ar => ?_
    have hlo := W.loF K
    rcases name_case (D := v.D) hm W.X.okd with w63 | w64 | hp
    ·(refine xEEL w63 fun vv ff hp => ?_; try clear w63)
     refine xEL (hp.rv _ _ kr) fun tv hval => ?_
     refine lread_int WD W.st (by decide) (by decide) i2 hA hlo hval ?_
     intro h' tk' kk
     replace W := W.lift kk
     have F' := fF.keeps kk
     clear fF kk hA hval i2
     clear pd1 pd2 nN
     (refine xEEAAL (W.led) fun p1 p2 N1 z641x3 pd2 => ?_; (refine xEL z641x3 fun px pd1 => ?_; try clear z641x3))
     k_extra "P"
     k_extra "a"
     have kq := lawKeep W.sk fF nN (by k_extra "N")
     replace W := W.move kq fF
     clear kq
     refine own_has W.X ?_
     clear pd1 pd2 nN
     (refine xEEAAL (W.led) fun p1 p2 N1 z642x3 pd2 => ?_; (refine xEL z642x3 fun px pd1 => ?_; try clear z642x3))
     k_extra "P"
     k_extra "a"
     have kq := lawKeep W.sk fF nN (by k_extra "N")
     replace W := W.move kq fF
     clear kq
     refine has_meth W.X ?_
     clear pd1 pd2 nN
     (refine xEEAAL (W.led) fun p1 p2 N1 z643x3 pd2 => ?_; (refine xEL z643x3 fun px pd1 => ?_; try clear z643x3))
     k_extra "P"
     k_extra "a"
     have kq := lawKeep W.sk fF nN (by k_extra "N")
     replace W := W.move kq fF
     clear kq
     refine has_get W.X K.sys (P := fun x => ∃ t, x = some (.int vv t)) (fun hk kh => hp.hv _ _ (by rw [hDD] at kh; exact kh)) ?_
     intro _ w65
     (refine xEL w65 fun t9 z169x1 => ?_; try clear w65; subst z169x1)
     dsimp only [Option.getD]
     clear pd1 pd2 nN
     (refine xEEAAL (W.led) fun p1 p2 N1 z644x3 pd2 => ?_; (refine xEL z644x3 fun px pd1 => ?_; try clear z644x3))
     k_extra "P"
     all_goals (try exact absurd (rfl : vv = vv) ‹_›)
     k_extra "a"
     replace W := W.move (lawKeep W.sk fF nN (by k_extra "N")) fF
     exact ⟨_, _, _, rfl, W, Fr.law fF (by with_unfolding_all rfl) (by with_unfolding_all rfl) (by with_unfolding_all rfl) (by with_unfolding_all rfl)⟩
    ·(refine xEEEL w64 fun cc f1 z1 hp => ?_; try clear w64)
     have hval := hp.rv _ _ kr
     have ar2 := ar
     rw [hp.eD] at ar2
     (refine xAL ar2 fun hYo _ => ?_; try clear ar2)
     refine lread_arr WD W.st (by decide) (by decide) i2 hA hlo hval hYo ?_
     intro h' tk' kk
     replace W := W.lift kk
     have F' := fF.keeps kk
     clear fF kk hA hval i2 hYo ar
     clear pd1 pd2 nN
     (refine xEEAAL (W.led) fun p1 p2 N1 z646x3 pd2 => ?_; (refine xEL z646x3 fun px pd1 => ?_; try clear z646x3))
     k_extra "P"
     k_extra "a"
     have kq := lawKeep W.sk fF nN (by k_extra "N")
     replace W := W.move kq fF
     clear kq
     refine own_has W.X ?_
     clear pd1 pd2 nN
     (refine xEEAAL (W.led) fun p1 p2 N1 z647x3 pd2 => ?_; (refine xEL z647x3 fun px pd1 => ?_; try clear z647x3))
     k_extra "P"
     k_extra "a"
     have kq := lawKeep W.sk fF nN (by k_extra "N")
     replace W := W.move kq fF
     clear kq
     refine has_meth W.X ?_
     clear pd1 pd2 nN
     (refine xEEAAL (W.led) fun p1 p2 N1 z648x3 pd2 => ?_; (refine xEL z648x3 fun px pd1 => ?_; try clear z648x3))
     k_extra "P"
     k_extra "a"
     have kq := lawKeep W.sk fF nN (by k_extra "N")
     replace W := W.move kq fF
     clear kq
     refine has_get W.X K.sys (P := fun x => x = some (.ref v.HY)) (fun hk kh => hp.hv _ _ (by rw [hDD] at kh; exact kh)) ?_
     rintro _ rfl
     dsimp only [Option.getD]
     clear pd1 pd2 nN
     (refine xEEAAL (W.led) fun p1 p2 N1 z649x3 pd2 => ?_; (refine xEL z649x3 fun px pd1 => ?_; try clear z649x3))
     k_extra "P"
     k_extra "a"
     have kq := lawKeep W.sk fF nN (by k_extra "N")
     replace W := W.move kq fF
     clear kq
     refine xEAAL (W.X.rc) fun _ _ _ ar3 => ?_
     rw [hp.eD] at ar3
     refine xEEEL (ar3.1.o4) fun nq tq3 tq4 gq => ?_
     refine xEAAL (W.dictH) fun _ _ _ hyq => ?_
     rw [hDD, hp.eD] at hyq
     (refine xEEEL hyq fun ts3 ts4 nsq gs4 => ?_; try clear hyq)
     refine ke_ne_ints (xs := [_, _]) (ys := [_, _]) (ns := [f1, f1 + 3]) (ms := [f1, f1 + 3]) ⟨_, gq, rfl, _, rfl⟩ ⟨_, gs4, rfl, _, rfl⟩ (.cons _ _ (.cons _ _ .nil)) (.cons _ _ (.cons _ _ .nil)) (by show (7 : Nat) + 64 < _; decide) ?_
     rw [decide_eq_true rfl]
     clear gq gs4 ar3
     clear pd1 pd2 nN
     (refine xEEAAL (W.led) fun p1 p2 N1 z654x3 pd2 => ?_; (refine xEL z654x3 fun px pd1 => ?_; try clear z654x3))
     k_extra "P"
     k_extra "a"
     replace W := W.move (lawKeep W.sk fF nN (by k_extra "N")) fF
     exact ⟨_, _, _, rfl, W, Fr.law fF (by with_unfolding_all rfl) (by with_unfolding_all rfl) (by with_unfolding_all rfl) (by with_unfolding_all rfl)⟩
    ·have hval := hp.rv _ _ kr
     refine lread_gone_L WD K W.st (by decide) (by decide) (W.ff fF) i2 hA (W.X.hb _ (W.X.sR_at _ (by simp [LV.sR]))) hval ?_
     intro t9 h' tk' ku
     refine xAL (W.up fF rfl ku) fun W' F' => ?_
     clear W fF ku hA hval i2 ar
     have W := W'
     clear W'
     clear pd1 pd2 nN
     (refine xEEAAL (W.led) fun p1 p2 N1 z656x3 pd2 => ?_; (refine xEL z656x3 fun px pd1 => ?_; try clear z656x3))
     k_extra "P"
     k_extra "a"
     have kq := lawKeep W.sk fF nN (by k_extra "N")
     replace W := W.move kq fF
     clear kq
     refine own_has W.X ?_
     clear pd1 pd2 nN
     (refine xEEAAL (W.led) fun p1 p2 N1 z657x3 pd2 => ?_; (refine xEL z657x3 fun px pd1 => ?_; try clear z657x3))
     k_extra "P"
     k_extra "a"
     have kq := lawKeep W.sk fF nN (by k_extra "N")
     replace W := W.move kq fF
     clear kq
     refine has_meth W.X ?_
     clear pd1 pd2 nN
     (refine xEEAAL (W.led) fun p1 p2 N1 z658x3 pd2 => ?_; (refine xEL z658x3 fun px pd1 => ?_; try clear z658x3))
     k_extra "P"
     k_extra "a"
     have kq := lawKeep W.sk fF nN (by k_extra "N")
     replace W := W.move kq fF
     clear kq
     refine has_get W.X K.sys (P := fun x => x = none) (fun hk kh => hp.hv _ _ (by rw [hDD] at kh; exact kh)) ?_
     rintro _ rfl
     dsimp only [Option.getD]
     clear pd1 pd2 nN
     (refine xEEAAL (W.led) fun p1 p2 N1 z659x3 pd2 => ?_; (refine xEL z659x3 fun px pd1 => ?_; try clear z659x3))
     k_extra "P"
     k_extra "a"
     replace W := W.move (lawKeep W.sk fF nN (by k_extra "N")) fF
     exact ⟨_, _, _, rfl, W, Fr.law fF (by with_unfolding_all rfl) (by with_unfolding_all rfl) (by with_unfolding_all rfl) (by with_unfolding_all rfl)⟩
   case done3 =>
    clear W fF nN pd1 pd2 FL
    intro h tk m W F
    try dsimp only
    unfold lawMap at F
    (refine xEEAAL (W.led) fun p1 p2 N1 z660x3 pd2 => ?_; (refine xEL z660x3 fun px pd1 => ?_; try clear z660x3))
    k_extra "P"
    (try unfold Held2)
    (try dsimp only)
    k_extra "a"
    have iP := News.isTup nN (.head _)
    have zp := (nN _ (.head _)).2
    dsimp only at zp iP
    rename (_ < _ ∧ _ < _ ∧ AllLt _ _) => l1
    have zT := W.newI (lt_new (fun p hp => allLt_mem l1.2.2 hp) zp.2 zp.1)
    have kq := lawKeep W.sk fF nN (by k_extra "N")
    replace W := W.move kq fF
    clear kq
    k_dflt (refine' item_tupleT ?i1 ?i2 ?i3 ?i4 ?i5 ?_; (case i1 => exact K.kt.keeps W.st); (case i2 => decide); (case i3 => decide); (case i4 => rfl); (case i5 => rfl))
    clear pd1 pd2 nN
    (refine xEEAAL (W.led) fun p1 p2 N1 z661x3 pd2 => ?_; (refine xEL z661x3 fun px pd1 => ?_; try clear z661x3))
    k_extra "P"
    (try unfold Held2)
    (try dsimp only)
    k_extra "a"
    have kq := lawKeep W.sk fF nN (by k_extra "N")
    replace iP := tupS iP (fun q => zp.1 (List.mem_singleton.mp q)) (fun b o e nb => kq b o nb e)
    replace W := W.move kq fF
    clear kq
    refine LW.getR KX K W fF ?_
    clear pd1 pd2 nN
    (refine xEEAAL (W.led) fun p1 p2 N1 z662x3 pd2 => ?_; (refine xEL z662x3 fun px pd1 => ?_; try clear z662x3))
    k_extra "P"
    (try unfold Held2)
    (try dsimp only)
    k_extra "a"
    have kq := lawKeep W.sk fF nN (by k_extra "N")
    replace iP := tupS iP (fun q => zp.1 (List.mem_singleton.mp q)) (fun b o e nb => kq b o nb e)
    replace W := W.move kq fF
    clear kq
    refine stored_self_L WD K W.X W.st (by decide) (by decide) iP zT.1 ?_
    intro t9 h' tk' kp _
    have F' := W.fr fF kp (fun a ha => W.X.sR_at _ (chg_in a ha))
    clear fF nN W kp iP
    have N1 : News s₁.heap L h' (allN s₁.heap L h') := allN_news
    k_extra "P"
end
end
end Mine
open PySem PySem.W PyProof.Rows
theorem PySem.Challenge.cw_xw0010_01_holds : PySem.Challenge.rw_xw0010_01.Holds := by
 exact Mine.v1
