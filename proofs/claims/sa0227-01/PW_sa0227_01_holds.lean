import PyProof.Rows.All
import Wide.All
import OpenK.AllK
import Wide.FinOn
import PySem.Challenge.RW_sa0227_01
set_option Elab.async false
section
set_option tactic.hygienic false
set_option maxRecDepth 100000
open PySem PySem.W PyProof.Rows PySem.Calls
namespace Mine
/-! printed by genz.py: what the start-up leaves in the heap -/
noncomputable abbrev pz : Program := PySem.Challenge.rw_sa0227_01.row.prog
noncomputable def nth : List Stmt → Nat → Stmt
  | [], _ => .Pass ⟨0, 0, 0, 0⟩
  | s :: _, 0 => s
  | _ :: l, n + 1 => nth l n
noncomputable def pst (i : Nat) : Stmt := nth pz.main.body i
noncomputable def clsBody : Stmt → List Stmt
  | .ClassDef _ _ _ b _ _ _ _ _ _ _ => b
  | _ => []
noncomputable def fnD (s : Stmt) (q : String) (g : Addr) (m c : Value) : FuncData := match s with
  | .FunctionDef n a b _ _ _ sc _ _ _ => ⟨n, Str.ofString q, a, .stmts b, sc, g, [], .none, .none, .none, m, none, c, .none, 0⟩
  | _ => default
noncomputable def de (P : Params) (x : String) (t : Tok) (v : Value) : DictEntry := ⟨PyData.keyHash P (Str.ofString x), .str (Str.ofString x) t, v⟩
noncomputable def di (k : Int) (t : Tok) (v : Value) : DictEntry := ⟨k, .int k t, v⟩
noncomputable def tupO (l : List Value) : Obj := ⟨.type "tuple", none, .seq l.toArray 0, #[]⟩
noncomputable def dicO (l : List DictEntry) (n : Nat) : Obj := ⟨.type "dict", none, .dict l.toArray n, #[]⟩
noncomputable def fldO (l : List Value) : Obj := ⟨.none, none, .fields l.toArray, #[]⟩
noncomputable def codO (l : List Value) : Obj := ⟨.type "code", none, .fields l.toArray, #[]⟩

noncomputable def o_43 : Obj := tupO []
noncomputable def o_44 : Obj := fldO []
noncomputable def o_45 : Obj := codO [(.str "<module>" 182), (.str "<module>" 183), (.str "/claim/cut.py" 184), (.int 1 0), (.int 0 0), (.int 0 0), (.int 0 0), (.int 0 0), (.ref 11), (.bool .false), (.int 181 0), (.ref 12), .none, .none, .none, .none, (.int 185 0), (.int 1 0), (.str "/claim/cut.py" 186)]
noncomputable def o_46 : Obj := ⟨(.type "frame"), .none, .plain, #[(.some (.ref 13)), (.some (.ref 3)), (.some (.ref 3)), .none, (.some (.str "__main__" 164)), .none, (.some (.ref 0))]⟩
noncomputable def o_49 (P : Params) : Obj := ⟨.none, .none, (.dict #[de P "type.__subclasses__.Exception.0" 248 (.int 31 0), de P "type.__subclasses__.Exception.n" 249 (.int 1 0)] 2), #[]⟩
noncomputable def o_72 (P : Params) : Obj := dicO [de P "__name__" 165 (.str "framerune.ops" 268), de P "__doc__" 166 (.none), de P "__package__" 167 (.none), de P "__loader__" 168 (.builtin "__main__.__loader__#opaque"), de P "__spec__" 169 (.none), de P "__annotations__" 170 (.ref 6), de P "__builtins__" 171 (.ref 4), de P "__file__" 173 (.str "/claim/cut.py" 172), de P "__cached__" 174 (.none), de P "OP_CALL" 188 (.int 40 187), de P "OP_RET" 190 (.int 42 189), de P "OP_BR" 192 (.int 56 191), de P "OP_SWITCH" 194 (.int 69 193), de P "OP_CALLVIRT" 196 (.int 111 195), de P "OP_NEWOBJ" 198 (.int 115 197), de P "OP_THROW" 200 (.int 122 199), de P "OP_LDELEMA" 202 (.int 143 201), de P "OP_ENDFINALLY" 204 (.int 220 203), de P "OP_LEAVE" 206 (.int 221 205), de P "OP_ENDFILTER" 208 (.int 65041 207), de P "OP_CONSTRAINED" 210 (.int 65046 209), de P "OP_RETHROW" 212 (.int 65050 211), de P "OP_READONLY" 214 (.int 65054 213), de P "EC_CATCH" 216 (.int 0 215), de P "EC_FILTER" 218 (.int 1 217), de P "RuneError" 251 (.ref 31), de P "BadCode" 267 (.ref 44), de P "SO_NONE" 271 (.int 0 270), de P "SO_I4" 273 (.int 1 272), de P "SO_I8" 275 (.int 2 274), de P "SO_ARG" 277 (.int 3 276), de P "SO_LOCAL" 279 (.int 4 278), de P "SO_BRANCH" 281 (.int 5 280), de P "SO_SWITCH" 283 (.int 6 282), de P "SO_KIND" 285 (.int 7 284), de P "SO_FIELD" 287 (.int 8 286), de P "SO_METHOD" 289 (.int 9 288), de P "SO_TEXT" 291 (.int 10 290), de P "SO_TOKEN" 293 (.int 11 292)] 39
noncomputable def o_73 : Obj := fldO [(.int 18 0), (.int 0 0), (.ref 20), (.int 23 0), (.int 0 0), (.ref 40)]
noncomputable def o_52 : Obj := tupO [(.type "Exception")]
noncomputable def o_53 : Obj := ⟨(.type "builtin_function_or_method"), .none, (.fields #[(.builtin "type.__prepare__"), (.type "type")]), #[]⟩
noncomputable def o_54 (P : Params) : Obj := dicO [de P "__module__" 228 (.str "framerune.faults" 219), de P "__qualname__" 230 (.str "RuneError" 229), de P "__firstlineno__" 232 (.int 18 231), de P "__init__" 241 (.ref 28), de P "__static_attributes__" 244 (.ref 29)] 5
noncomputable def o_55 : Obj := tupO []
noncomputable def o_56 : Obj := fldO [(.int 20 0), (.int 4 0), (.ref 27)]
noncomputable def o_57 : Obj := codO [(.str "RuneError" 223), (.str "RuneError" 224), (.str "/claim/cut.py" 225), (.int 18 0), (.int 0 0), (.int 0 0), (.int 0 0), (.int 0 0), (.ref 18), (.bool .false), (.int 181 0), (.ref 19), .none, .none, .none, .none, (.int 226 0), (.int 18 0), (.str "/claim/cut.py" 227)]
noncomputable def o_58 : Obj := ⟨(.type "frame"), .none, .plain, #[(.some (.ref 20)), (.some (.ref 3)), (.some (.ref 17)), .none, (.some (.str "framerune.faults" 219)), .none, (.some (.ref 0))]⟩
noncomputable def o_59 : Obj := tupO []
noncomputable def o_60 : Obj := fldO []
noncomputable def o_61 : Obj := tupO [(.str "self" 236), (.str "code" 237), (.str "at" 238)]
noncomputable def o_62 : Obj := tupO []
noncomputable def o_63 : Obj := ⟨.none, .none, (.func (fnD (nth (clsBody (pst 17)) 0) "RuneError.__init__" 0 .none .none)), #[]⟩
noncomputable def o_64 : Obj := codO [(.str "__init__" 233), (.str "RuneError.__init__" 234), (.str "/claim/cut.py" 235), (.int 20 0), (.int 3 0), (.int 0 0), (.int 0 0), (.int 3 0), (.ref 22), (.bool .true), (.int 181 0), (.ref 23), .none, (.ref 24), (.ref 25), (.ref 26), (.int 239 0), (.int 20 0), (.str "/claim/cut.py" 240)]
noncomputable def o_65 : Obj := ⟨(.type "function"), .none, (.func (fnD (nth (clsBody (pst 17)) 0) "RuneError.__init__" 3 (.str "framerune.faults" 219) (.ref 27))), #[]⟩
noncomputable def o_66 : Obj := tupO [(.str "at" 242), (.str "code" 243)]
noncomputable def o_67 (P : Params) : Obj := dicO [de P "__module__" 228 (.str "framerune.faults" 219), de P "__firstlineno__" 232 (.int 18 231), de P "__init__" 241 (.ref 28), de P "__static_attributes__" 244 (.ref 29), de P "__weakref__" 246 (.ref 32), de P "__doc__" 247 (.none)] 3
noncomputable def o_74 : Obj := ⟨(.type "type"), .none, (.cls ⟨"RuneError", [(.type "Exception")], [(.ref 31), (.type "Exception"), (.type "BaseException"), (.type "object")], 30, "RuneError", .true, [], [(.ref 44)], .false, .none, .false⟩), #[(.some (.ref 15)), .none, (.some (.str "RuneError" 221)), (.some (.str "RuneError" 229)), (.some (.builtin "Exception.__new__")), (.some (.bool .true))]⟩
noncomputable def o_69 : Obj := ⟨(.type "getset_descriptor"), .none, (.fields #[(.str "__weakref__" 245), (.ref 31), (.builtin "ExceptionGroup.__weakref__"), .none]), #[]⟩
noncomputable def o_70 : Obj := ⟨(.type "super"), .none, (.fields #[(.ref 31), (.ref 31), (.ref 31)]), #[]⟩
noncomputable def o_71 : Obj := ⟨(.type "builtin_function_or_method"), .none, (.fields #[(.builtin "object.__init_subclass__"), (.ref 31)]), #[]⟩
noncomputable def o_75 : Obj := tupO [(.ref 31)]
noncomputable def o_76 : Obj := ⟨(.type "builtin_function_or_method"), .none, (.fields #[(.builtin "type.__prepare__"), (.type "type")]), #[]⟩
noncomputable def o_77 (P : Params) : Obj := dicO [de P "__module__" 259 (.str "framerune.faults" 219), de P "__qualname__" 261 (.str "BadCode" 260), de P "__firstlineno__" 263 (.int 23 262), de P "__static_attributes__" 264 (.ref 42)] 4
noncomputable def o_78 : Obj := tupO []
noncomputable def o_79 : Obj := fldO []
noncomputable def o_80 : Obj := codO [(.str "BadCode" 254), (.str "BadCode" 255), (.str "/claim/cut.py" 256), (.int 23 0), (.int 0 0), (.int 0 0), (.int 0 0), (.int 0 0), (.ref 38), (.bool .false), (.int 181 0), (.ref 39), .none, .none, .none, .none, (.int 257 0), (.int 23 0), (.str "/claim/cut.py" 258)]
noncomputable def o_81 : Obj := ⟨(.type "frame"), .none, .plain, #[(.some (.ref 40)), (.some (.ref 3)), (.some (.ref 37)), .none, (.some (.str "framerune.faults" 219)), .none, (.some (.ref 0))]⟩
noncomputable def o_82 : Obj := tupO []
noncomputable def o_83 (P : Params) : Obj := dicO [de P "__module__" 259 (.str "framerune.faults" 219), de P "__firstlineno__" 263 (.int 23 262), de P "__static_attributes__" 264 (.ref 42), de P "__doc__" 265 (.none)] 2
noncomputable def o_84 : Obj := ⟨(.type "type"), .none, (.cls ⟨"BadCode", [(.ref 31)], [(.ref 44), (.ref 31), (.type "Exception"), (.type "BaseException"), (.type "object")], 43, "BadCode", .true, [], [], .false, .none, .false⟩), #[(.some (.ref 35)), .none, (.some (.str "BadCode" 252)), (.some (.str "BadCode" 260)), (.some (.builtin "Exception.__new__")), (.some (.bool .true))]⟩
noncomputable def o_85 : Obj := ⟨(.type "super"), .none, (.fields #[(.ref 44), (.ref 44), (.ref 44)]), #[]⟩
noncomputable def o_86 : Obj := ⟨(.type "builtin_function_or_method"), .none, (.fields #[(.builtin "object.__init_subclass__"), (.ref 44)]), #[]⟩
noncomputable def o_87 (P : Params) : Obj := dicO [de P "__name__" 165 (.str "framerune.ops" 268), de P "__doc__" 166 (.none), de P "__package__" 167 (.none), de P "__loader__" 168 (.builtin "__main__.__loader__#opaque"), de P "__spec__" 169 (.none), de P "__annotations__" 170 (.ref 6), de P "__builtins__" 171 (.ref 4), de P "__file__" 173 (.str "/claim/cut.py" 172), de P "__cached__" 174 (.none), de P "OP_CALL" 188 (.int 40 187), de P "OP_RET" 190 (.int 42 189), de P "OP_BR" 192 (.int 56 191), de P "OP_SWITCH" 194 (.int 69 193), de P "OP_CALLVIRT" 196 (.int 111 195), de P "OP_NEWOBJ" 198 (.int 115 197), de P "OP_THROW" 200 (.int 122 199), de P "OP_LDELEMA" 202 (.int 143 201), de P "OP_ENDFINALLY" 204 (.int 220 203), de P "OP_LEAVE" 206 (.int 221 205), de P "OP_ENDFILTER" 208 (.int 65041 207), de P "OP_CONSTRAINED" 210 (.int 65046 209), de P "OP_RETHROW" 212 (.int 65050 211), de P "OP_READONLY" 214 (.int 65054 213), de P "EC_CATCH" 216 (.int 0 215), de P "EC_FILTER" 218 (.int 1 217), de P "RuneError" 251 (.ref 31), de P "BadCode" 267 (.ref 44), de P "SO_NONE" 271 (.int 0 270), de P "SO_I4" 273 (.int 1 272), de P "SO_I8" 275 (.int 2 274), de P "SO_ARG" 277 (.int 3 276), de P "SO_LOCAL" 279 (.int 4 278), de P "SO_BRANCH" 281 (.int 5 280), de P "SO_SWITCH" 283 (.int 6 282), de P "SO_KIND" 285 (.int 7 284), de P "SO_FIELD" 287 (.int 8 286), de P "SO_METHOD" 289 (.int 9 288), de P "SO_TEXT" 291 (.int 10 290), de P "SO_TOKEN" 293 (.int 11 292), de P "OP_SORT" 546 (.ref 47)] 40
noncomputable def dsort : List DictEntry := [di 0 294 (.int 0 270), di 20 296 (.int 0 270), di 32 298 (.int 1 272), di 33 300 (.int 2 274), di 37 302 (.int 0 270), di 38 304 (.int 0 270), di 40 306 (.int 9 288), di 42 308 (.int 0 270), di 56 310 (.int 5 280), di 57 312 (.int 5 280), di 58 314 (.int 5 280), di 59 316 (.int 5 280), di 60 318 (.int 5 280), di 61 320 (.int 5 280), di 62 322 (.int 5 280), di 63 324 (.int 5 280), di 64 326 (.int 5 280), di 65 328 (.int 5 280), di 66 330 (.int 5 280), di 67 332 (.int 5 280), di 68 334 (.int 5 280), di 69 336 (.int 6 282), di 70 338 (.int 0 270), di 71 340 (.int 0 270), di 72 342 (.int 0 270), di 73 344 (.int 0 270), di 74 346 (.int 0 270), di 75 348 (.int 0 270), di 76 350 (.int 0 270), di 77 352 (.int 0 270), di 80 354 (.int 0 270), di 81 356 (.int 0 270), di 82 358 (.int 0 270), di 83 360 (.int 0 270), di 84 362 (.int 0 270), di 85 364 (.int 0 270), di 88 366 (.int 0 270), di 89 368 (.int 0 270), di 90 370 (.int 0 270), di 91 372 (.int 0 270), di 92 374 (.int 0 270), di 93 376 (.int 0 270), di 94 378 (.int 0 270), di 95 380 (.int 0 270), di 96 382 (.int 0 270), di 97 384 (.int 0 270), di 98 386 (.int 0 270), di 99 388 (.int 0 270), di 100 390 (.int 0 270), di 101 392 (.int 0 270), di 102 394 (.int 0 270), di 103 396 (.int 0 270), di 104 398 (.int 0 270), di 105 400 (.int 0 270), di 106 402 (.int 0 270), di 109 404 (.int 0 270), di 110 406 (.int 0 270), di 111 408 (.int 9 288), di 113 410 (.int 7 284), di 114 412 (.int 10 290), di 115 414 (.int 9 288), di 116 416 (.int 7 284), di 117 418 (.int 7 284), di 121 420 (.int 7 284), di 122 422 (.int 0 270), di 123 424 (.int 8 286), di 124 426 (.int 8 286), di 125 428 (.int 8 286), di 126 430 (.int 8 286), di 127 432 (.int 8 286), di 128 434 (.int 8 286), di 129 436 (.int 7 284), di 130 438 (.int 0 270), di 131 440 (.int 0 270), di 132 442 (.int 0 270), di 133 444 (.int 0 270), di 134 446 (.int 0 270), di 135 448 (.int 0 270), di 136 450 (.int 0 270), di 137 452 (.int 0 270), di 140 454 (.int 7 284), di 141 456 (.int 7 284), di 142 458 (.int 0 270), di 143 460 (.int 7 284), di 163 462 (.int 7 284), di 164 464 (.int 7 284), di 165 466 (.int 7 284), di 179 468 (.int 0 270), di 180 470 (.int 0 270), di 181 472 (.int 0 270), di 182 474 (.int 0 270), di 183 476 (.int 0 270), di 184 478 (.int 0 270), di 185 480 (.int 0 270), di 186 482 (.int 0 270), di 208 484 (.int 11 292), di 209 486 (.int 0 270), di 210 488 (.int 0 270), di 211 490 (.int 0 270), di 214 492 (.int 0 270), di 215 494 (.int 0 270), di 216 496 (.int 0 270), di 217 498 (.int 0 270), di 218 500 (.int 0 270), di 219 502 (.int 0 270), di 220 504 (.int 0 270), di 221 506 (.int 5 280), di 223 508 (.int 0 270), di 65025 510 (.int 0 270), di 65026 512 (.int 0 270), di 65027 514 (.int 0 270), di 65028 516 (.int 0 270), di 65029 518 (.int 0 270), di 65030 520 (.int 9 288), di 65031 522 (.int 9 288), di 65033 524 (.int 3 276), di 65034 526 (.int 3 276), di 65035 528 (.int 3 276), di 65036 530 (.int 4 278), di 65037 532 (.int 4 278), di 65038 533 (.int 4 278), di 65041 534 (.int 0 270), di 65045 535 (.int 7 284), di 65046 536 (.int 7 284), di 65050 537 (.int 0 270), di 65054 538 (.int 0 270)]
noncomputable def o_88 : Obj := dicO dsort 126
noncomputable def o_89 : Obj := dicO [di 65 328 (.int 5 280), di 66 330 (.int 5 280), di 67 332 (.int 5 280), di 68 334 (.int 5 280), di 69 336 (.int 6 282), di 70 338 (.int 0 270), di 71 340 (.int 0 270), di 72 342 (.int 0 270), di 73 344 (.int 0 270), di 74 346 (.int 0 270), di 75 348 (.int 0 270), di 76 350 (.int 0 270), di 77 352 (.int 0 270), di 80 354 (.int 0 270), di 81 356 (.int 0 270), di 82 358 (.int 0 270), di 83 360 (.int 0 270)] 17
noncomputable def o_90 : Obj := dicO [di 84 362 (.int 0 270), di 85 364 (.int 0 270), di 88 366 (.int 0 270), di 89 368 (.int 0 270), di 90 370 (.int 0 270), di 91 372 (.int 0 270), di 92 374 (.int 0 270), di 93 376 (.int 0 270), di 94 378 (.int 0 270), di 95 380 (.int 0 270), di 96 382 (.int 0 270), di 97 384 (.int 0 270), di 98 386 (.int 0 270), di 99 388 (.int 0 270), di 100 390 (.int 0 270), di 101 392 (.int 0 270), di 102 394 (.int 0 270)] 17
noncomputable def o_91 : Obj := dicO [di 103 396 (.int 0 270), di 104 398 (.int 0 270), di 105 400 (.int 0 270), di 106 402 (.int 0 270), di 109 404 (.int 0 270), di 110 406 (.int 0 270), di 111 408 (.int 9 288), di 113 410 (.int 7 284), di 114 412 (.int 10 290), di 115 414 (.int 9 288), di 116 416 (.int 7 284), di 117 418 (.int 7 284), di 121 420 (.int 7 284), di 122 422 (.int 0 270), di 123 424 (.int 8 286), di 124 426 (.int 8 286), di 125 428 (.int 8 286)] 17
noncomputable def o_92 : Obj := dicO [di 126 430 (.int 8 286), di 127 432 (.int 8 286), di 128 434 (.int 8 286), di 129 436 (.int 7 284), di 130 438 (.int 0 270), di 131 440 (.int 0 270), di 132 442 (.int 0 270), di 133 444 (.int 0 270), di 134 446 (.int 0 270), di 135 448 (.int 0 270), di 136 450 (.int 0 270), di 137 452 (.int 0 270), di 140 454 (.int 7 284), di 141 456 (.int 7 284), di 142 458 (.int 0 270), di 143 460 (.int 7 284), di 163 462 (.int 7 284)] 17
noncomputable def o_93 : Obj := dicO [di 164 464 (.int 7 284), di 165 466 (.int 7 284), di 179 468 (.int 0 270), di 180 470 (.int 0 270), di 181 472 (.int 0 270), di 182 474 (.int 0 270), di 183 476 (.int 0 270), di 184 478 (.int 0 270), di 185 480 (.int 0 270), di 186 482 (.int 0 270), di 208 484 (.int 11 292), di 209 486 (.int 0 270), di 210 488 (.int 0 270), di 211 490 (.int 0 270), di 214 492 (.int 0 270), di 215 494 (.int 0 270), di 216 496 (.int 0 270)] 17
noncomputable def o_94 : Obj := dicO [di 217 498 (.int 0 270), di 218 500 (.int 0 270), di 219 502 (.int 0 270), di 220 504 (.int 0 270), di 221 506 (.int 5 280), di 223 508 (.int 0 270), di 65025 510 (.int 0 270), di 65026 512 (.int 0 270), di 65027 514 (.int 0 270), di 65028 516 (.int 0 270), di 65029 518 (.int 0 270), di 65030 520 (.int 9 288), di 65031 522 (.int 9 288), di 65033 524 (.int 3 276), di 65034 526 (.int 3 276), di 65035 528 (.int 3 276), di 65036 530 (.int 4 278)] 17
noncomputable def o_95 : Obj := dicO [di 65037 532 (.int 4 278), di 65038 533 (.int 4 278), di 65041 534 (.int 0 270), di 65045 535 (.int 7 284), di 65046 536 (.int 7 284), di 65050 537 (.int 0 270), di 65054 538 (.int 0 270)] 7
noncomputable def o_108 (P : Params) : Obj := dicO [de P "__name__" 165 (.str "framerune.ops" 268), de P "__doc__" 166 (.none), de P "__package__" 167 (.none), de P "__loader__" 168 (.builtin "__main__.__loader__#opaque"), de P "__spec__" 169 (.none), de P "__annotations__" 170 (.ref 6), de P "__builtins__" 171 (.ref 4), de P "__file__" 173 (.str "/claim/cut.py" 172), de P "__cached__" 174 (.none), de P "OP_CALL" 188 (.int 40 187), de P "OP_RET" 190 (.int 42 189), de P "OP_BR" 192 (.int 56 191), de P "OP_SWITCH" 194 (.int 69 193), de P "OP_CALLVIRT" 196 (.int 111 195), de P "OP_NEWOBJ" 198 (.int 115 197), de P "OP_THROW" 200 (.int 122 199), de P "OP_LDELEMA" 202 (.int 143 201), de P "OP_ENDFINALLY" 204 (.int 220 203), de P "OP_LEAVE" 206 (.int 221 205), de P "OP_ENDFILTER" 208 (.int 65041 207), de P "OP_CONSTRAINED" 210 (.int 65046 209), de P "OP_RETHROW" 212 (.int 65050 211), de P "OP_READONLY" 214 (.int 65054 213), de P "EC_CATCH" 216 (.int 0 215), de P "EC_FILTER" 218 (.int 1 217), de P "RuneError" 251 (.ref 31), de P "BadCode" 267 (.ref 44), de P "SO_NONE" 271 (.int 0 270), de P "SO_I4" 273 (.int 1 272), de P "SO_I8" 275 (.int 2 274), de P "SO_ARG" 277 (.int 3 276), de P "SO_LOCAL" 279 (.int 4 278), de P "SO_BRANCH" 281 (.int 5 280), de P "SO_SWITCH" 283 (.int 6 282), de P "SO_KIND" 285 (.int 7 284), de P "SO_FIELD" 287 (.int 8 286), de P "SO_METHOD" 289 (.int 9 288), de P "SO_TEXT" 291 (.int 10 290), de P "SO_TOKEN" 293 (.int 11 292), de P "OP_SORT" 546 (.ref 47), de P "OP_STACK" 1035 (.ref 55)] 41
noncomputable def dstack : List DictEntry := [di 0 547 (.ref 56), di 20 551 (.ref 57), di 32 555 (.ref 58), di 33 559 (.ref 59), di 37 563 (.ref 60), di 38 567 (.ref 61), di 56 571 (.ref 62), di 57 575 (.ref 63), di 58 579 (.ref 64), di 59 583 (.ref 65), di 60 587 (.ref 66), di 61 591 (.ref 67), di 62 595 (.ref 68), di 63 599 (.ref 69), di 64 603 (.ref 70), di 65 607 (.ref 71), di 66 611 (.ref 72), di 67 615 (.ref 74), di 68 619 (.ref 75), di 69 623 (.ref 76), di 70 627 (.ref 77), di 71 631 (.ref 78), di 72 635 (.ref 79), di 73 639 (.ref 80), di 74 643 (.ref 81), di 75 647 (.ref 82), di 76 651 (.ref 83), di 77 655 (.ref 84), di 80 659 (.ref 85), di 81 663 (.ref 86), di 82 667 (.ref 87), di 83 671 (.ref 88), di 84 675 (.ref 89), di 85 679 (.ref 90), di 88 683 (.ref 92), di 89 687 (.ref 93), di 90 691 (.ref 94), di 91 695 (.ref 95), di 92 699 (.ref 96), di 93 703 (.ref 97), di 94 707 (.ref 98), di 95 711 (.ref 99), di 96 715 (.ref 100), di 97 719 (.ref 101), di 98 723 (.ref 102), di 99 727 (.ref 103), di 100 731 (.ref 104), di 101 735 (.ref 105), di 102 739 (.ref 106), di 103 743 (.ref 107), di 104 747 (.ref 108), di 105 751 (.ref 110), di 106 755 (.ref 111), di 109 759 (.ref 112), di 110 763 (.ref 113), di 113 767 (.ref 114), di 114 771 (.ref 115), di 116 775 (.ref 116), di 117 779 (.ref 117), di 121 783 (.ref 118), di 122 787 (.ref 119), di 123 791 (.ref 120), di 124 795 (.ref 121), di 125 799 (.ref 122), di 126 803 (.ref 123), di 127 807 (.ref 124), di 128 811 (.ref 125), di 129 815 (.ref 126), di 130 819 (.ref 128), di 131 823 (.ref 129), di 132 827 (.ref 130), di 133 831 (.ref 131), di 134 835 (.ref 132), di 135 839 (.ref 133), di 136 843 (.ref 134), di 137 847 (.ref 135), di 140 851 (.ref 136), di 141 855 (.ref 137), di 142 859 (.ref 138), di 143 863 (.ref 139), di 163 867 (.ref 140), di 164 871 (.ref 141), di 165 875 (.ref 142), di 179 879 (.ref 143), di 180 883 (.ref 144), di 181 887 (.ref 146), di 182 891 (.ref 147), di 183 895 (.ref 148), di 184 899 (.ref 149), di 185 903 (.ref 150), di 186 907 (.ref 151), di 208 911 (.ref 152), di 209 915 (.ref 153), di 210 919 (.ref 154), di 211 923 (.ref 155), di 214 927 (.ref 156), di 215 931 (.ref 157), di 216 935 (.ref 158), di 217 939 (.ref 159), di 218 943 (.ref 160), di 219 947 (.ref 161), di 220 951 (.ref 162), di 221 955 (.ref 164), di 223 959 (.ref 165), di 65025 963 (.ref 166), di 65026 967 (.ref 167), di 65027 971 (.ref 168), di 65028 975 (.ref 169), di 65029 979 (.ref 170), di 65030 983 (.ref 171), di 65031 987 (.ref 172), di 65033 991 (.ref 173), di 65034 995 (.ref 174), di 65035 999 (.ref 175), di 65036 1003 (.ref 176), di 65037 1007 (.ref 177), di 65038 1011 (.ref 178), di 65041 1015 (.ref 179), di 65045 1019 (.ref 180), di 65046 1023 (.ref 182), di 65050 1026 (.ref 183), di 65054 1029 (.ref 184)]
noncomputable def o_109 : Obj := dicO dstack 122
noncomputable def o_110 : Obj := tupO [(.int 0 548), (.int 0 549)]
noncomputable def o_111 : Obj := tupO [(.int 0 552), (.int 1 553)]
noncomputable def o_112 : Obj := tupO [(.int 0 556), (.int 1 557)]
noncomputable def o_113 : Obj := tupO [(.int 0 560), (.int 1 561)]
noncomputable def o_114 : Obj := tupO [(.int 1 564), (.int 2 565)]
noncomputable def o_115 : Obj := tupO [(.int 1 568), (.int 0 569)]
noncomputable def o_116 : Obj := tupO [(.int 0 572), (.int 0 573)]
noncomputable def o_117 : Obj := tupO [(.int 1 576), (.int 0 577)]
noncomputable def o_118 : Obj := tupO [(.int 1 580), (.int 0 581)]
noncomputable def o_119 : Obj := tupO [(.int 2 584), (.int 0 585)]
noncomputable def o_120 : Obj := tupO [(.int 2 588), (.int 0 589)]
noncomputable def o_121 : Obj := tupO [(.int 2 592), (.int 0 593)]
noncomputable def o_122 : Obj := tupO [(.int 2 596), (.int 0 597)]
noncomputable def o_123 : Obj := tupO [(.int 2 600), (.int 0 601)]
noncomputable def o_124 : Obj := tupO [(.int 2 604), (.int 0 605)]
noncomputable def o_125 : Obj := tupO [(.int 2 608), (.int 0 609)]
noncomputable def o_126 : Obj := tupO [(.int 2 612), (.int 0 613)]
noncomputable def o_127 : Obj := dicO [di 67 615 (.ref 74), di 68 619 (.ref 75), di 69 623 (.ref 76), di 70 627 (.ref 77), di 71 631 (.ref 78), di 72 635 (.ref 79), di 73 639 (.ref 80), di 74 643 (.ref 81), di 75 647 (.ref 82), di 76 651 (.ref 83), di 77 655 (.ref 84), di 80 659 (.ref 85), di 81 663 (.ref 86), di 82 667 (.ref 87), di 83 671 (.ref 88), di 84 675 (.ref 89), di 85 679 (.ref 90)] 17
noncomputable def o_128 : Obj := tupO [(.int 2 616), (.int 0 617)]
noncomputable def o_129 : Obj := tupO [(.int 2 620), (.int 0 621)]
noncomputable def o_130 : Obj := tupO [(.int 1 624), (.int 0 625)]
noncomputable def o_131 : Obj := tupO [(.int 1 628), (.int 1 629)]
noncomputable def o_132 : Obj := tupO [(.int 1 632), (.int 1 633)]
noncomputable def o_133 : Obj := tupO [(.int 1 636), (.int 1 637)]
noncomputable def o_134 : Obj := tupO [(.int 1 640), (.int 1 641)]
noncomputable def o_135 : Obj := tupO [(.int 1 644), (.int 1 645)]
noncomputable def o_136 : Obj := tupO [(.int 1 648), (.int 1 649)]
noncomputable def o_137 : Obj := tupO [(.int 1 652), (.int 1 653)]
noncomputable def o_138 : Obj := tupO [(.int 1 656), (.int 1 657)]
noncomputable def o_139 : Obj := tupO [(.int 1 660), (.int 1 661)]
noncomputable def o_140 : Obj := tupO [(.int 2 664), (.int 0 665)]
noncomputable def o_141 : Obj := tupO [(.int 2 668), (.int 0 669)]
noncomputable def o_142 : Obj := tupO [(.int 2 672), (.int 0 673)]
noncomputable def o_143 : Obj := tupO [(.int 2 676), (.int 0 677)]
noncomputable def o_144 : Obj := tupO [(.int 2 680), (.int 0 681)]
noncomputable def o_145 : Obj := dicO [di 88 683 (.ref 92), di 89 687 (.ref 93), di 90 691 (.ref 94), di 91 695 (.ref 95), di 92 699 (.ref 96), di 93 703 (.ref 97), di 94 707 (.ref 98), di 95 711 (.ref 99), di 96 715 (.ref 100), di 97 719 (.ref 101), di 98 723 (.ref 102), di 99 727 (.ref 103), di 100 731 (.ref 104), di 101 735 (.ref 105), di 102 739 (.ref 106), di 103 743 (.ref 107), di 104 747 (.ref 108)] 17
noncomputable def o_146 : Obj := tupO [(.int 2 684), (.int 1 685)]
noncomputable def o_147 : Obj := tupO [(.int 2 688), (.int 1 689)]
noncomputable def o_148 : Obj := tupO [(.int 2 692), (.int 1 693)]
noncomputable def o_149 : Obj := tupO [(.int 2 696), (.int 1 697)]
noncomputable def o_150 : Obj := tupO [(.int 2 700), (.int 1 701)]
noncomputable def o_151 : Obj := tupO [(.int 2 704), (.int 1 705)]
noncomputable def o_152 : Obj := tupO [(.int 2 708), (.int 1 709)]
noncomputable def o_153 : Obj := tupO [(.int 2 712), (.int 1 713)]
noncomputable def o_154 : Obj := tupO [(.int 2 716), (.int 1 717)]
noncomputable def o_155 : Obj := tupO [(.int 2 720), (.int 1 721)]
noncomputable def o_156 : Obj := tupO [(.int 2 724), (.int 1 725)]
noncomputable def o_157 : Obj := tupO [(.int 2 728), (.int 1 729)]
noncomputable def o_158 : Obj := tupO [(.int 2 732), (.int 1 733)]
noncomputable def o_159 : Obj := tupO [(.int 1 736), (.int 1 737)]
noncomputable def o_160 : Obj := tupO [(.int 1 740), (.int 1 741)]
noncomputable def o_161 : Obj := tupO [(.int 1 744), (.int 1 745)]
noncomputable def o_162 : Obj := tupO [(.int 1 748), (.int 1 749)]
noncomputable def o_163 : Obj := dicO [di 105 751 (.ref 110), di 106 755 (.ref 111), di 109 759 (.ref 112), di 110 763 (.ref 113), di 113 767 (.ref 114), di 114 771 (.ref 115), di 116 775 (.ref 116), di 117 779 (.ref 117), di 121 783 (.ref 118), di 122 787 (.ref 119), di 123 791 (.ref 120), di 124 795 (.ref 121), di 125 799 (.ref 122), di 126 803 (.ref 123), di 127 807 (.ref 124), di 128 811 (.ref 125), di 129 815 (.ref 126)] 17
noncomputable def o_164 : Obj := tupO [(.int 1 752), (.int 1 753)]
noncomputable def o_165 : Obj := tupO [(.int 1 756), (.int 1 757)]
noncomputable def o_166 : Obj := tupO [(.int 1 760), (.int 1 761)]
noncomputable def o_167 : Obj := tupO [(.int 1 764), (.int 1 765)]
noncomputable def o_168 : Obj := tupO [(.int 1 768), (.int 1 769)]
noncomputable def o_169 : Obj := tupO [(.int 0 772), (.int 1 773)]
noncomputable def o_170 : Obj := tupO [(.int 1 776), (.int 1 777)]
noncomputable def o_171 : Obj := tupO [(.int 1 780), (.int 1 781)]
noncomputable def o_172 : Obj := tupO [(.int 1 784), (.int 1 785)]
noncomputable def o_173 : Obj := tupO [(.int 1 788), (.int 0 789)]
noncomputable def o_174 : Obj := tupO [(.int 1 792), (.int 1 793)]
noncomputable def o_175 : Obj := tupO [(.int 1 796), (.int 1 797)]
noncomputable def o_176 : Obj := tupO [(.int 2 800), (.int 0 801)]
noncomputable def o_177 : Obj := tupO [(.int 0 804), (.int 1 805)]
noncomputable def o_178 : Obj := tupO [(.int 0 808), (.int 1 809)]
noncomputable def o_179 : Obj := tupO [(.int 1 812), (.int 0 813)]
noncomputable def o_180 : Obj := tupO [(.int 2 816), (.int 0 817)]
noncomputable def o_181 : Obj := dicO [di 130 819 (.ref 128), di 131 823 (.ref 129), di 132 827 (.ref 130), di 133 831 (.ref 131), di 134 835 (.ref 132), di 135 839 (.ref 133), di 136 843 (.ref 134), di 137 847 (.ref 135), di 140 851 (.ref 136), di 141 855 (.ref 137), di 142 859 (.ref 138), di 143 863 (.ref 139), di 163 867 (.ref 140), di 164 871 (.ref 141), di 165 875 (.ref 142), di 179 879 (.ref 143), di 180 883 (.ref 144)] 17
noncomputable def o_182 : Obj := tupO [(.int 1 820), (.int 1 821)]
noncomputable def o_183 : Obj := tupO [(.int 1 824), (.int 1 825)]
noncomputable def o_184 : Obj := tupO [(.int 1 828), (.int 1 829)]
noncomputable def o_185 : Obj := tupO [(.int 1 832), (.int 1 833)]
noncomputable def o_186 : Obj := tupO [(.int 1 836), (.int 1 837)]
noncomputable def o_187 : Obj := tupO [(.int 1 840), (.int 1 841)]
noncomputable def o_188 : Obj := tupO [(.int 1 844), (.int 1 845)]
noncomputable def o_189 : Obj := tupO [(.int 1 848), (.int 1 849)]
noncomputable def o_190 : Obj := tupO [(.int 1 852), (.int 1 853)]
noncomputable def o_191 : Obj := tupO [(.int 1 856), (.int 1 857)]
noncomputable def o_192 : Obj := tupO [(.int 1 860), (.int 1 861)]
noncomputable def o_193 : Obj := tupO [(.int 2 864), (.int 1 865)]
noncomputable def o_194 : Obj := tupO [(.int 2 868), (.int 1 869)]
noncomputable def o_195 : Obj := tupO [(.int 3 872), (.int 0 873)]
noncomputable def o_196 : Obj := tupO [(.int 1 876), (.int 1 877)]
noncomputable def o_197 : Obj := tupO [(.int 1 880), (.int 1 881)]
noncomputable def o_198 : Obj := tupO [(.int 1 884), (.int 1 885)]
noncomputable def o_199 : Obj := dicO [di 181 887 (.ref 146), di 182 891 (.ref 147), di 183 895 (.ref 148), di 184 899 (.ref 149), di 185 903 (.ref 150), di 186 907 (.ref 151), di 208 911 (.ref 152), di 209 915 (.ref 153), di 210 919 (.ref 154), di 211 923 (.ref 155), di 214 927 (.ref 156), di 215 931 (.ref 157), di 216 935 (.ref 158), di 217 939 (.ref 159), di 218 943 (.ref 160), di 219 947 (.ref 161), di 220 951 (.ref 162)] 17
noncomputable def o_200 : Obj := tupO [(.int 1 888), (.int 1 889)]
noncomputable def o_201 : Obj := tupO [(.int 1 892), (.int 1 893)]
noncomputable def o_202 : Obj := tupO [(.int 1 896), (.int 1 897)]
noncomputable def o_203 : Obj := tupO [(.int 1 900), (.int 1 901)]
noncomputable def o_204 : Obj := tupO [(.int 1 904), (.int 1 905)]
noncomputable def o_205 : Obj := tupO [(.int 1 908), (.int 1 909)]
noncomputable def o_206 : Obj := tupO [(.int 0 912), (.int 1 913)]
noncomputable def o_207 : Obj := tupO [(.int 1 916), (.int 1 917)]
noncomputable def o_208 : Obj := tupO [(.int 1 920), (.int 1 921)]
noncomputable def o_209 : Obj := tupO [(.int 1 924), (.int 1 925)]
noncomputable def o_210 : Obj := tupO [(.int 2 928), (.int 1 929)]
noncomputable def o_211 : Obj := tupO [(.int 2 932), (.int 1 933)]
noncomputable def o_212 : Obj := tupO [(.int 2 936), (.int 1 937)]
noncomputable def o_213 : Obj := tupO [(.int 2 940), (.int 1 941)]
noncomputable def o_214 : Obj := tupO [(.int 2 944), (.int 1 945)]
noncomputable def o_215 : Obj := tupO [(.int 2 948), (.int 1 949)]
noncomputable def o_216 : Obj := tupO [(.int 0 952), (.int 0 953)]
noncomputable def o_217 : Obj := dicO [di 221 955 (.ref 164), di 223 959 (.ref 165), di 65025 963 (.ref 166), di 65026 967 (.ref 167), di 65027 971 (.ref 168), di 65028 975 (.ref 169), di 65029 979 (.ref 170), di 65030 983 (.ref 171), di 65031 987 (.ref 172), di 65033 991 (.ref 173), di 65034 995 (.ref 174), di 65035 999 (.ref 175), di 65036 1003 (.ref 176), di 65037 1007 (.ref 177), di 65038 1011 (.ref 178), di 65041 1015 (.ref 179), di 65045 1019 (.ref 180)] 17
noncomputable def o_218 : Obj := tupO [(.int 0 956), (.int 0 957)]
noncomputable def o_219 : Obj := tupO [(.int 2 960), (.int 0 961)]
noncomputable def o_220 : Obj := tupO [(.int 2 964), (.int 1 965)]
noncomputable def o_221 : Obj := tupO [(.int 2 968), (.int 1 969)]
noncomputable def o_222 : Obj := tupO [(.int 2 972), (.int 1 973)]
noncomputable def o_223 : Obj := tupO [(.int 2 976), (.int 1 977)]
noncomputable def o_224 : Obj := tupO [(.int 2 980), (.int 1 981)]
noncomputable def o_225 : Obj := tupO [(.int 0 984), (.int 1 985)]
noncomputable def o_226 : Obj := tupO [(.int 1 988), (.int 1 989)]
noncomputable def o_227 : Obj := tupO [(.int 0 992), (.int 1 993)]
noncomputable def o_228 : Obj := tupO [(.int 0 996), (.int 1 997)]
noncomputable def o_229 : Obj := tupO [(.int 1 1000), (.int 0 1001)]
noncomputable def o_230 : Obj := tupO [(.int 0 1004), (.int 1 1005)]
noncomputable def o_231 : Obj := tupO [(.int 0 1008), (.int 1 1009)]
noncomputable def o_232 : Obj := tupO [(.int 1 1012), (.int 0 1013)]
noncomputable def o_233 : Obj := tupO [(.int 1 1016), (.int 0 1017)]
noncomputable def o_234 : Obj := tupO [(.int 1 1020), (.int 0 1021)]
noncomputable def o_235 : Obj := dicO [di 65046 1023 (.ref 182), di 65050 1026 (.ref 183), di 65054 1029 (.ref 184)] 3
noncomputable def o_236 : Obj := tupO [(.int 0 1024), (.int 0 1025)]
noncomputable def o_237 : Obj := tupO [(.int 0 1027), (.int 0 1028)]
noncomputable def o_238 : Obj := tupO [(.int 0 1030), (.int 0 1031)]
noncomputable def o_513 (P : Params) : Obj := dicO [de P "__name__" 165 (.str "law_sa0227_01" 1208), de P "__doc__" 166 (.none), de P "__package__" 167 (.none), de P "__loader__" 168 (.builtin "__main__.__loader__#opaque"), de P "__spec__" 169 (.none), de P "__annotations__" 170 (.ref 6), de P "__builtins__" 171 (.ref 4), de P "__file__" 173 (.str "/claim/cut.py" 172), de P "__cached__" 174 (.none), de P "OP_CALL" 188 (.int 40 187), de P "OP_RET" 190 (.int 42 189), de P "OP_BR" 192 (.int 56 191), de P "OP_SWITCH" 194 (.int 69 193), de P "OP_CALLVIRT" 196 (.int 111 195), de P "OP_NEWOBJ" 198 (.int 115 197), de P "OP_THROW" 200 (.int 122 199), de P "OP_LDELEMA" 202 (.int 143 201), de P "OP_ENDFINALLY" 204 (.int 220 203), de P "OP_LEAVE" 206 (.int 221 205), de P "OP_ENDFILTER" 208 (.int 65041 207), de P "OP_CONSTRAINED" 210 (.int 65046 209), de P "OP_RETHROW" 212 (.int 65050 211), de P "OP_READONLY" 214 (.int 65054 213), de P "EC_CATCH" 216 (.int 0 215), de P "EC_FILTER" 218 (.int 1 217), de P "RuneError" 251 (.ref 31), de P "BadCode" 267 (.ref 44), de P "SO_NONE" 271 (.int 0 270), de P "SO_I4" 273 (.int 1 272), de P "SO_I8" 275 (.int 2 274), de P "SO_ARG" 277 (.int 3 276), de P "SO_LOCAL" 279 (.int 4 278), de P "SO_BRANCH" 281 (.int 5 280), de P "SO_SWITCH" 283 (.int 6 282), de P "SO_KIND" 285 (.int 7 284), de P "SO_FIELD" 287 (.int 8 286), de P "SO_METHOD" 289 (.int 9 288), de P "SO_TEXT" 291 (.int 10 290), de P "SO_TOKEN" 293 (.int 11 292), de P "OP_SORT" 546 (.ref 47), de P "OP_STACK" 1035 (.ref 55), de P "PlainTeller" 1081 (.ref 215), de P "op_sort" 1088 (.ref 226), de P "ends_flow" 1095 (.ref 233), de P "is_branch" 1102 (.ref 240), de P "targets" 1109 (.ref 247), de P "prefix_goal" 1116 (.ref 254), de P "pops_pushes" 1126 (.ref 261), de P "clause_edges" 1135 (.ref 268), de P "check_edges" 1147 (.ref 275), de P "successors" 1158 (.ref 282), de P "enter_depth" 1168 (.ref 289), de P "start_depths" 1180 (.ref 296), de P "depth_after" 1192 (.ref 303), de P "max_stack" 1207 (.ref 310), de P "_law_STACK" 1374 (.ref 352), de P "_law_CALLS" 1399 (.ref 353), de P "_law_ENDS" 1407 (.ref 360), de P "_law_call" 1417 (.ref 367), de P "_law_row" 1423 (.ref 372), de P "_law_behind" 1432 (.ref 379), de P "_law_drawn" 1446 (.ref 386), de P "_law_pick" 1452 (.ref 391), de P "_law_aimed" 1458 (.ref 396), de P "_law_clauses" 1475 (.ref 403), de P "_law_edges_good" 1491 (.ref 410), de P "_law_goals" 1502 (.ref 417), de P "_law_most" 1508 (.ref 422), de P "law" 1514 (.ref 427)] 69
noncomputable def o_514 : Obj := fldO [(.int 18 0), (.int 0 0), (.ref 20), (.int 23 0), (.int 0 0), (.ref 40), (.int 40 0), (.int 0 0), (.ref 190), (.int 53 0), (.int 0 0), (.ref 225), (.int 55 0), (.int 0 0), (.ref 232), (.int 59 0), (.int 0 0), (.ref 239), (.int 61 0), (.int 0 0), (.ref 246), (.int 67 0), (.int 0 0), (.ref 253), (.int 73 0), (.int 0 0), (.ref 260), (.int 92 0), (.int 0 0), (.ref 267), (.int 96 0), (.int 0 0), (.ref 274), (.int 105 0), (.int 0 0), (.ref 281), (.int 116 0), (.int 0 0), (.ref 288), (.int 124 0), (.int 0 0), (.ref 295), (.int 134 0), (.int 0 0), (.ref 302), (.int 143 0), (.int 0 0), (.ref 309), (.int 163 0), (.int 0 0), (.ref 366), (.int 172 0), (.int 0 0), (.ref 371), (.int 195 0), (.int 0 0), (.ref 378), (.int 199 0), (.int 0 0), (.ref 385), (.int 210 0), (.int 0 0), (.ref 390), (.int 217 0), (.int 0 0), (.ref 395), (.int 227 0), (.int 0 0), (.ref 402), (.int 244 0), (.int 0 0), (.ref 409), (.int 254 0), (.int 0 0), (.ref 416), (.int 264 0), (.int 0 0), (.ref 421), (.int 293 0), (.int 0 0), (.ref 426)]
noncomputable def o_332 : Obj := tupO []
noncomputable def o_333 : Obj := ⟨(.type "builtin_function_or_method"), .none, (.fields #[(.builtin "type.__prepare__"), (.type "type")]), #[]⟩
noncomputable def o_334 (P : Params) : Obj := dicO [de P "__module__" 1043 (.str "framerune.ops" 268), de P "__qualname__" 1045 (.str "PlainTeller" 1044), de P "__firstlineno__" 1047 (.int 40 1046), de P "__init__" 1056 (.ref 198), de P "call_counts" 1064 (.ref 205), de P "ret_count" 1071 (.ref 212), de P "__static_attributes__" 1074 (.ref 213)] 7
noncomputable def o_335 : Obj := tupO []
noncomputable def o_336 : Obj := fldO [(.int 42 0), (.int 4 0), (.ref 197), (.int 46 0), (.int 4 0), (.ref 204), (.int 51 0), (.int 4 0), (.ref 211)]
noncomputable def o_337 : Obj := codO [(.str "PlainTeller" 1038), (.str "PlainTeller" 1039), (.str "/claim/cut.py" 1040), (.int 40 0), (.int 0 0), (.int 0 0), (.int 0 0), (.int 0 0), (.ref 188), (.bool .false), (.int 181 0), (.ref 189), .none, .none, .none, .none, (.int 1041 0), (.int 40 0), (.str "/claim/cut.py" 1042)]
noncomputable def o_338 : Obj := ⟨(.type "frame"), .none, .plain, #[(.some (.ref 190)), (.some (.ref 3)), (.some (.ref 187)), .none, (.some (.str "framerune.ops" 268)), .none, (.some (.ref 0))]⟩
noncomputable def o_339 : Obj := tupO []
noncomputable def o_340 : Obj := fldO []
noncomputable def o_341 : Obj := tupO [(.str "self" 1051), (.str "calls" 1052), (.str "ret" 1053)]
noncomputable def o_342 : Obj := tupO []
noncomputable def o_343 : Obj := ⟨.none, .none, (.func (fnD (nth (clsBody (pst 34)) 0) "PlainTeller.__init__" 0 .none .none)), #[]⟩
noncomputable def o_344 : Obj := codO [(.str "__init__" 1048), (.str "PlainTeller.__init__" 1049), (.str "/claim/cut.py" 1050), (.int 42 0), (.int 3 0), (.int 0 0), (.int 0 0), (.int 3 0), (.ref 192), (.bool .true), (.int 181 0), (.ref 193), .none, (.ref 194), (.ref 195), (.ref 196), (.int 1054 0), (.int 42 0), (.str "/claim/cut.py" 1055)]
noncomputable def o_345 : Obj := ⟨(.type "function"), .none, (.func (fnD (nth (clsBody (pst 34)) 0) "PlainTeller.__init__" 3 (.str "framerune.ops" 268) (.ref 197))), #[]⟩
noncomputable def o_346 : Obj := tupO []
noncomputable def o_347 : Obj := fldO []
noncomputable def o_348 : Obj := tupO [(.str "self" 1060), (.str "mref" 1061)]
noncomputable def o_349 : Obj := tupO []
noncomputable def o_350 : Obj := ⟨.none, .none, (.func (fnD (nth (clsBody (pst 34)) 1) "PlainTeller.call_counts" 0 .none .none)), #[]⟩
noncomputable def o_351 : Obj := codO [(.str "call_counts" 1057), (.str "PlainTeller.call_counts" 1058), (.str "/claim/cut.py" 1059), (.int 46 0), (.int 2 0), (.int 0 0), (.int 0 0), (.int 3 0), (.ref 199), (.bool .true), (.int 181 0), (.ref 200), .none, (.ref 201), (.ref 202), (.ref 203), (.int 1062 0), (.int 46 0), (.str "/claim/cut.py" 1063)]
noncomputable def o_352 : Obj := ⟨(.type "function"), .none, (.func (fnD (nth (clsBody (pst 34)) 1) "PlainTeller.call_counts" 3 (.str "framerune.ops" 268) (.ref 204))), #[]⟩
noncomputable def o_353 : Obj := tupO []
noncomputable def o_354 : Obj := fldO []
noncomputable def o_355 : Obj := tupO [(.str "self" 1068)]
noncomputable def o_356 : Obj := tupO []
noncomputable def o_357 : Obj := ⟨.none, .none, (.func (fnD (nth (clsBody (pst 34)) 2) "PlainTeller.ret_count" 0 .none .none)), #[]⟩
noncomputable def o_358 : Obj := codO [(.str "ret_count" 1065), (.str "PlainTeller.ret_count" 1066), (.str "/claim/cut.py" 1067), (.int 51 0), (.int 1 0), (.int 0 0), (.int 0 0), (.int 3 0), (.ref 206), (.bool .true), (.int 181 0), (.ref 207), .none, (.ref 208), (.ref 209), (.ref 210), (.int 1069 0), (.int 51 0), (.str "/claim/cut.py" 1070)]
noncomputable def o_359 : Obj := ⟨(.type "function"), .none, (.func (fnD (nth (clsBody (pst 34)) 2) "PlainTeller.ret_count" 3 (.str "framerune.ops" 268) (.ref 211))), #[]⟩
noncomputable def o_360 : Obj := tupO [(.str "calls" 1072), (.str "ret" 1073)]
noncomputable def o_361 (P : Params) : Obj := dicO [de P "__module__" 1043 (.str "framerune.ops" 268), de P "__firstlineno__" 1047 (.int 40 1046), de P "__init__" 1056 (.ref 198), de P "call_counts" 1064 (.ref 205), de P "ret_count" 1071 (.ref 212), de P "__static_attributes__" 1074 (.ref 213), de P "__dict__" 1076 (.ref 216), de P "__weakref__" 1078 (.ref 217), de P "__doc__" 1079 (.none)] 4
noncomputable def o_362 : Obj := ⟨(.type "type"), .none, (.cls ⟨"PlainTeller", [(.type "object")], [(.ref 215), (.type "object")], 214, "PlainTeller", .true, [], [], .false, .none, .false⟩), #[.none, .none, (.some (.str "PlainTeller" 1036)), (.some (.str "PlainTeller" 1044)), (.some (.builtin "object.__new__")), (.some (.bool .true))]⟩
noncomputable def o_363 : Obj := ⟨(.type "getset_descriptor"), .none, (.fields #[(.str "__dict__" 1075), (.ref 215), (.builtin "function.__dict__"), (.builtin "function.__dict__#set")]), #[]⟩
noncomputable def o_364 : Obj := ⟨(.type "getset_descriptor"), .none, (.fields #[(.str "__weakref__" 1077), (.ref 215), (.builtin "ExceptionGroup.__weakref__"), .none]), #[]⟩
noncomputable def o_365 : Obj := ⟨(.type "super"), .none, (.fields #[(.ref 215), (.ref 215), (.ref 215)]), #[]⟩
noncomputable def o_366 : Obj := ⟨(.type "builtin_function_or_method"), .none, (.fields #[(.builtin "object.__init_subclass__"), (.ref 215)]), #[]⟩
noncomputable def o_367 : Obj := tupO []
noncomputable def o_368 : Obj := fldO []
noncomputable def o_369 : Obj := tupO [(.str "op" 1085)]
noncomputable def o_370 : Obj := tupO []
noncomputable def o_371 : Obj := ⟨.none, .none, (.func (fnD (pst 35) "op_sort" 0 .none .none)), #[]⟩
noncomputable def o_372 : Obj := codO [(.str "op_sort" 1082), (.str "op_sort" 1083), (.str "/claim/cut.py" 1084), (.int 53 0), (.int 1 0), (.int 0 0), (.int 0 0), (.int 3 0), (.ref 220), (.bool .true), (.int 181 0), (.ref 221), .none, (.ref 222), (.ref 223), (.ref 224), (.int 1086 0), (.int 53 0), (.str "/claim/cut.py" 1087)]
noncomputable def o_373 : Obj := ⟨(.type "function"), .none, (.func (fnD (pst 35) "op_sort" 3 (.str "framerune.ops" 268) (.ref 225))), #[]⟩
noncomputable def o_374 : Obj := tupO []
noncomputable def o_375 : Obj := fldO []
noncomputable def o_376 : Obj := tupO [(.str "op" 1092)]
noncomputable def o_377 : Obj := tupO []
noncomputable def o_378 : Obj := ⟨.none, .none, (.func (fnD (pst 36) "ends_flow" 0 .none .none)), #[]⟩
noncomputable def o_379 : Obj := codO [(.str "ends_flow" 1089), (.str "ends_flow" 1090), (.str "/claim/cut.py" 1091), (.int 55 0), (.int 1 0), (.int 0 0), (.int 0 0), (.int 3 0), (.ref 227), (.bool .true), (.int 181 0), (.ref 228), .none, (.ref 229), (.ref 230), (.ref 231), (.int 1093 0), (.int 55 0), (.str "/claim/cut.py" 1094)]
noncomputable def o_380 : Obj := ⟨(.type "function"), .none, (.func (fnD (pst 36) "ends_flow" 3 (.str "framerune.ops" 268) (.ref 232))), #[]⟩
noncomputable def o_381 : Obj := tupO []
noncomputable def o_382 : Obj := fldO []
noncomputable def o_383 : Obj := tupO [(.str "op" 1099)]
noncomputable def o_384 : Obj := tupO []
noncomputable def o_385 : Obj := ⟨.none, .none, (.func (fnD (pst 37) "is_branch" 0 .none .none)), #[]⟩
noncomputable def o_386 : Obj := codO [(.str "is_branch" 1096), (.str "is_branch" 1097), (.str "/claim/cut.py" 1098), (.int 59 0), (.int 1 0), (.int 0 0), (.int 0 0), (.int 3 0), (.ref 234), (.bool .true), (.int 181 0), (.ref 235), .none, (.ref 236), (.ref 237), (.ref 238), (.int 1100 0), (.int 59 0), (.str "/claim/cut.py" 1101)]
noncomputable def o_387 : Obj := ⟨(.type "function"), .none, (.func (fnD (pst 37) "is_branch" 3 (.str "framerune.ops" 268) (.ref 239))), #[]⟩
noncomputable def o_390 : Obj := tupO []
noncomputable def o_391 : Obj := fldO []
noncomputable def o_392 : Obj := tupO [(.str "ins" 1106)]
noncomputable def o_393 : Obj := tupO []
noncomputable def o_394 : Obj := ⟨.none, .none, (.func (fnD (pst 38) "targets" 0 .none .none)), #[]⟩
noncomputable def o_395 : Obj := codO [(.str "targets" 1103), (.str "targets" 1104), (.str "/claim/cut.py" 1105), (.int 61 0), (.int 1 0), (.int 0 0), (.int 0 0), (.int 3 0), (.ref 241), (.bool .true), (.int 181 0), (.ref 242), .none, (.ref 243), (.ref 244), (.ref 245), (.int 1107 0), (.int 61 0), (.str "/claim/cut.py" 1108)]
noncomputable def o_396 : Obj := ⟨(.type "function"), .none, (.func (fnD (pst 38) "targets" 3 (.str "framerune.ops" 268) (.ref 246))), #[]⟩
noncomputable def o_397 : Obj := tupO []
noncomputable def o_398 : Obj := fldO []
noncomputable def o_399 : Obj := tupO [(.str "op" 1113)]
noncomputable def o_400 : Obj := tupO []
noncomputable def o_401 : Obj := ⟨.none, .none, (.func (fnD (pst 39) "prefix_goal" 0 .none .none)), #[]⟩
noncomputable def o_402 : Obj := codO [(.str "prefix_goal" 1110), (.str "prefix_goal" 1111), (.str "/claim/cut.py" 1112), (.int 67 0), (.int 1 0), (.int 0 0), (.int 0 0), (.int 3 0), (.ref 248), (.bool .true), (.int 181 0), (.ref 249), .none, (.ref 250), (.ref 251), (.ref 252), (.int 1114 0), (.int 67 0), (.str "/claim/cut.py" 1115)]
noncomputable def o_403 : Obj := ⟨(.type "function"), .none, (.func (fnD (pst 39) "prefix_goal" 3 (.str "framerune.ops" 268) (.ref 253))), #[]⟩
noncomputable def o_404 : Obj := tupO []
noncomputable def o_405 : Obj := fldO []
noncomputable def o_406 : Obj := tupO [(.str "ins" 1120), (.str "teller" 1121), (.str "op" 1122), (.str "taken" 1123)]
noncomputable def o_407 : Obj := tupO []
noncomputable def o_408 : Obj := ⟨.none, .none, (.func (fnD (pst 40) "pops_pushes" 0 .none .none)), #[]⟩
noncomputable def o_409 : Obj := codO [(.str "pops_pushes" 1117), (.str "pops_pushes" 1118), (.str "/claim/cut.py" 1119), (.int 73 0), (.int 2 0), (.int 0 0), (.int 0 0), (.int 3 0), (.ref 255), (.bool .true), (.int 181 0), (.ref 256), .none, (.ref 257), (.ref 258), (.ref 259), (.int 1124 0), (.int 73 0), (.str "/claim/cut.py" 1125)]
noncomputable def o_410 : Obj := ⟨(.type "function"), .none, (.func (fnD (pst 40) "pops_pushes" 3 (.str "framerune.ops" 268) (.ref 260))), #[]⟩
noncomputable def o_411 : Obj := tupO []
noncomputable def o_412 : Obj := fldO []
noncomputable def o_413 : Obj := tupO [(.str "clause" 1132)]
noncomputable def o_414 : Obj := tupO []
noncomputable def o_415 : Obj := ⟨.none, .none, (.func (fnD (pst 42) "clause_edges" 0 .none .none)), #[]⟩
noncomputable def o_416 : Obj := codO [(.str "clause_edges" 1129), (.str "clause_edges" 1130), (.str "/claim/cut.py" 1131), (.int 92 0), (.int 1 0), (.int 0 0), (.int 0 0), (.int 3 0), (.ref 262), (.bool .true), (.int 181 0), (.ref 263), .none, (.ref 264), (.ref 265), (.ref 266), (.int 1133 0), (.int 92 0), (.str "/claim/cut.py" 1134)]
noncomputable def o_417 : Obj := ⟨(.type "function"), .none, (.func (fnD (pst 42) "clause_edges" 3 (.str "framerune.ilflow" 1127) (.ref 267))), #[]⟩
noncomputable def o_418 : Obj := tupO []
noncomputable def o_419 : Obj := fldO []
noncomputable def o_420 : Obj := tupO [(.str "code" 1139), (.str "clauses" 1140), (.str "count" 1141), (.str "at" 1142), (.str "clause" 1143), (.str "edge" 1144)]
noncomputable def o_421 : Obj := tupO []
noncomputable def o_422 : Obj := ⟨.none, .none, (.func (fnD (pst 43) "check_edges" 0 .none .none)), #[]⟩
noncomputable def o_423 : Obj := codO [(.str "check_edges" 1136), (.str "check_edges" 1137), (.str "/claim/cut.py" 1138), (.int 96 0), (.int 2 0), (.int 0 0), (.int 0 0), (.int 3 0), (.ref 269), (.bool .true), (.int 181 0), (.ref 270), .none, (.ref 271), (.ref 272), (.ref 273), (.int 1145 0), (.int 96 0), (.str "/claim/cut.py" 1146)]
noncomputable def o_424 : Obj := ⟨(.type "function"), .none, (.func (fnD (pst 43) "check_edges" 3 (.str "framerune.ilflow" 1127) (.ref 274))), #[]⟩
noncomputable def o_425 : Obj := tupO []
noncomputable def o_426 : Obj := fldO []
noncomputable def o_427 : Obj := tupO [(.str "code" 1151), (.str "i" 1152), (.str "count" 1153), (.str "out" 1154), (.str "goal" 1155)]
noncomputable def o_428 : Obj := tupO []
noncomputable def o_429 : Obj := ⟨.none, .none, (.func (fnD (pst 44) "successors" 0 .none .none)), #[]⟩
noncomputable def o_430 : Obj := codO [(.str "successors" 1148), (.str "successors" 1149), (.str "/claim/cut.py" 1150), (.int 105 0), (.int 2 0), (.int 0 0), (.int 0 0), (.int 3 0), (.ref 276), (.bool .true), (.int 181 0), (.ref 277), .none, (.ref 278), (.ref 279), (.ref 280), (.int 1156 0), (.int 105 0), (.str "/claim/cut.py" 1157)]
noncomputable def o_431 : Obj := ⟨(.type "function"), .none, (.func (fnD (pst 44) "successors" 3 (.str "framerune.ilflow" 1127) (.ref 281))), #[]⟩
noncomputable def o_432 : Obj := tupO []
noncomputable def o_433 : Obj := fldO []
noncomputable def o_434 : Obj := tupO [(.str "depths" 1162), (.str "work" 1163), (.str "i" 1164), (.str "depth" 1165)]
noncomputable def o_435 : Obj := tupO []
noncomputable def o_436 : Obj := ⟨.none, .none, (.func (fnD (pst 45) "enter_depth" 0 .none .none)), #[]⟩
noncomputable def o_437 : Obj := codO [(.str "enter_depth" 1159), (.str "enter_depth" 1160), (.str "/claim/cut.py" 1161), (.int 116 0), (.int 4 0), (.int 0 0), (.int 0 0), (.int 3 0), (.ref 283), (.bool .true), (.int 181 0), (.ref 284), .none, (.ref 285), (.ref 286), (.ref 287), (.int 1166 0), (.int 116 0), (.str "/claim/cut.py" 1167)]
noncomputable def o_438 : Obj := ⟨(.type "function"), .none, (.func (fnD (pst 45) "enter_depth" 3 (.str "framerune.ilflow" 1127) (.ref 288))), #[]⟩
noncomputable def o_439 : Obj := tupO []
noncomputable def o_440 : Obj := fldO []
noncomputable def o_441 : Obj := tupO [(.str "code" 1172), (.str "clauses" 1173), (.str "depths" 1174), (.str "work" 1175), (.str "clause" 1176), (.str "depth" 1177)]
noncomputable def o_442 : Obj := tupO []
noncomputable def o_443 : Obj := ⟨.none, .none, (.func (fnD (pst 46) "start_depths" 0 .none .none)), #[]⟩
noncomputable def o_444 : Obj := codO [(.str "start_depths" 1169), (.str "start_depths" 1170), (.str "/claim/cut.py" 1171), (.int 124 0), (.int 4 0), (.int 0 0), (.int 0 0), (.int 3 0), (.ref 290), (.bool .true), (.int 181 0), (.ref 291), .none, (.ref 292), (.ref 293), (.ref 294), (.int 1178 0), (.int 124 0), (.str "/claim/cut.py" 1179)]
noncomputable def o_445 : Obj := ⟨(.type "function"), .none, (.func (fnD (pst 46) "start_depths" 3 (.str "framerune.ilflow" 1127) (.ref 295))), #[]⟩
noncomputable def o_446 : Obj := tupO []
noncomputable def o_447 : Obj := fldO []
noncomputable def o_448 : Obj := tupO [(.str "code" 1184), (.str "i" 1185), (.str "depth" 1186), (.str "teller" 1187), (.str "taken" 1188), (.str "given" 1189)]
noncomputable def o_449 : Obj := tupO []
noncomputable def o_450 : Obj := ⟨.none, .none, (.func (fnD (pst 47) "depth_after" 0 .none .none)), #[]⟩
noncomputable def o_451 : Obj := codO [(.str "depth_after" 1181), (.str "depth_after" 1182), (.str "/claim/cut.py" 1183), (.int 134 0), (.int 4 0), (.int 0 0), (.int 0 0), (.int 3 0), (.ref 297), (.bool .true), (.int 181 0), (.ref 298), .none, (.ref 299), (.ref 300), (.ref 301), (.int 1190 0), (.int 134 0), (.str "/claim/cut.py" 1191)]
noncomputable def o_452 : Obj := ⟨(.type "function"), .none, (.func (fnD (pst 47) "depth_after" 3 (.str "framerune.ilflow" 1127) (.ref 302))), #[]⟩
noncomputable def o_453 : Obj := tupO []
noncomputable def o_454 : Obj := fldO []
noncomputable def o_455 : Obj := tupO [(.str "code" 1196), (.str "clauses" 1197), (.str "teller" 1198), (.str "depths" 1199), (.str "work" 1200), (.str "most" 1201), (.str "i" 1202), (.str "after" 1203), (.str "goal" 1204)]
noncomputable def o_456 : Obj := tupO []
noncomputable def o_457 : Obj := ⟨.none, .none, (.func (fnD (pst 48) "max_stack" 0 .none .none)), #[]⟩
noncomputable def o_458 : Obj := codO [(.str "max_stack" 1193), (.str "max_stack" 1194), (.str "/claim/cut.py" 1195), (.int 143 0), (.int 3 0), (.int 0 0), (.int 0 0), (.int 3 0), (.ref 304), (.bool .true), (.int 181 0), (.ref 305), .none, (.ref 306), (.ref 307), (.ref 308), (.int 1205 0), (.int 143 0), (.str "/claim/cut.py" 1206)]
noncomputable def o_459 : Obj := ⟨(.type "function"), .none, (.func (fnD (pst 48) "max_stack" 3 (.str "framerune.ilflow" 1127) (.ref 309))), #[]⟩
noncomputable def o_461 : Obj := tupO [(.int 0 1210), (.int 1 1211), (.int 0 1212), (.int 0 1213)]
noncomputable def o_462 : Obj := tupO [(.int 20 1214), (.int 1 1215), (.int 0 1216), (.int 1 1217)]
noncomputable def o_463 : Obj := tupO [(.int 32 1218), (.int 2 1219), (.int 0 1220), (.int 1 1221)]
noncomputable def o_464 : Obj := tupO [(.int 37 1222), (.int 1 1223), (.int 1 1224), (.int 2 1225)]
noncomputable def o_465 : Obj := tupO [(.int 38 1226), (.int 1 1227), (.int 1 1228), (.int 0 1229)]
noncomputable def o_466 : Obj := tupO [(.int 70 1230), (.int 8 1231), (.int 1 1232), (.int 1 1233)]
noncomputable def o_467 : Obj := tupO [(.int 80 1234), (.int 1 1235), (.int 1 1236), (.int 1 1237)]
noncomputable def o_468 : Obj := tupO [(.int 81 1238), (.int 5 1239), (.int 2 1240), (.int 0 1241)]
noncomputable def o_469 : Obj := tupO [(.int 88 1242), (.int 13 1243), (.int 2 1244), (.int 1 1245)]
noncomputable def o_470 : Obj := tupO [(.int 101 1246), (.int 6 1247), (.int 1 1248), (.int 1 1249)]
noncomputable def o_471 : Obj := tupO [(.int 109 1250), (.int 2 1251), (.int 1 1252), (.int 1 1253)]
noncomputable def o_472 : Obj := tupO [(.int 113 1254), (.int 1 1255), (.int 1 1256), (.int 1 1257)]
noncomputable def o_473 : Obj := tupO [(.int 114 1258), (.int 1 1259), (.int 0 1260), (.int 1 1261)]
noncomputable def o_474 : Obj := tupO [(.int 116 1262), (.int 2 1263), (.int 1 1264), (.int 1 1265)]
noncomputable def o_475 : Obj := tupO [(.int 121 1266), (.int 1 1267), (.int 1 1268), (.int 1 1269)]
noncomputable def o_476 : Obj := tupO [(.int 123 1270), (.int 2 1271), (.int 1 1272), (.int 1 1273)]
noncomputable def o_477 : Obj := tupO [(.int 125 1274), (.int 1 1275), (.int 2 1276), (.int 0 1277)]
noncomputable def o_478 : Obj := tupO [(.int 126 1278), (.int 2 1279), (.int 0 1280), (.int 1 1281)]
noncomputable def o_479 : Obj := tupO [(.int 128 1282), (.int 1 1283), (.int 1 1284), (.int 0 1285)]
noncomputable def o_480 : Obj := tupO [(.int 129 1286), (.int 1 1287), (.int 2 1288), (.int 0 1289)]
noncomputable def o_481 : Obj := tupO [(.int 130 1290), (.int 8 1291), (.int 1 1292), (.int 1 1293)]
noncomputable def o_482 : Obj := tupO [(.int 140 1294), (.int 3 1295), (.int 1 1296), (.int 1 1297)]
noncomputable def o_483 : Obj := tupO [(.int 143 1298), (.int 1 1299), (.int 2 1300), (.int 1 1301)]
noncomputable def o_484 : Obj := tupO [(.int 163 1302), (.int 1 1303), (.int 2 1304), (.int 1 1305)]
noncomputable def o_485 : Obj := tupO [(.int 164 1306), (.int 1 1307), (.int 3 1308), (.int 0 1309)]
noncomputable def o_486 : Obj := tupO [(.int 165 1310), (.int 1 1311), (.int 1 1312), (.int 1 1313)]
noncomputable def o_487 : Obj := tupO [(.int 179 1314), (.int 8 1315), (.int 1 1316), (.int 1 1317)]
noncomputable def o_488 : Obj := tupO [(.int 208 1318), (.int 1 1319), (.int 0 1320), (.int 1 1321)]
noncomputable def o_489 : Obj := tupO [(.int 209 1322), (.int 3 1323), (.int 1 1324), (.int 1 1325)]
noncomputable def o_490 : Obj := tupO [(.int 214 1326), (.int 6 1327), (.int 2 1328), (.int 1 1329)]
noncomputable def o_491 : Obj := tupO [(.int 223 1330), (.int 1 1331), (.int 2 1332), (.int 0 1333)]
noncomputable def o_492 : Obj := tupO [(.int 65025 1334), (.int 5 1335), (.int 2 1336), (.int 1 1337)]
noncomputable def o_493 : Obj := tupO [(.int 65030 1338), (.int 1 1339), (.int 0 1340), (.int 1 1341)]
noncomputable def o_494 : Obj := tupO [(.int 65031 1342), (.int 1 1343), (.int 1 1344), (.int 1 1345)]
noncomputable def o_495 : Obj := tupO [(.int 65033 1346), (.int 2 1347), (.int 0 1348), (.int 1 1349)]
noncomputable def o_496 : Obj := tupO [(.int 65035 1350), (.int 1 1351), (.int 1 1352), (.int 0 1353)]
noncomputable def o_497 : Obj := tupO [(.int 65036 1354), (.int 2 1355), (.int 0 1356), (.int 1 1357)]
noncomputable def o_498 : Obj := tupO [(.int 65038 1358), (.int 1 1359), (.int 1 1360), (.int 0 1361)]
noncomputable def o_499 : Obj := tupO [(.int 65045 1362), (.int 1 1363), (.int 1 1364), (.int 0 1365)]
noncomputable def o_500 : Obj := tupO [(.int 65046 1366), (.int 1 1367), (.int 0 1368), (.int 0 1369)]
noncomputable def o_501 : Obj := tupO [(.int 65054 1370), (.int 1 1371), (.int 0 1372), (.int 0 1373)]
noncomputable def o_502 : Obj := tupO [(.ref 311), (.ref 312), (.ref 313), (.ref 314), (.ref 315), (.ref 316), (.ref 317), (.ref 318), (.ref 319), (.ref 320), (.ref 321), (.ref 322), (.ref 323), (.ref 324), (.ref 325), (.ref 326), (.ref 327), (.ref 328), (.ref 329), (.ref 330), (.ref 331), (.ref 332), (.ref 333), (.ref 334), (.ref 335), (.ref 336), (.ref 337), (.ref 338), (.ref 339), (.ref 340), (.ref 341), (.ref 342), (.ref 343), (.ref 344), (.ref 345), (.ref 346), (.ref 347), (.ref 348), (.ref 349), (.ref 350), (.ref 351)]
noncomputable def o_503 : Obj := dicO [di 1 1375 (.ref 354), di 2 1378 (.ref 355), di 3 1381 (.ref 356), di 4 1384 (.ref 357), di 5 1387 (.ref 358), di 6 1390 (.ref 359)] 6
noncomputable def o_504 : Obj := tupO [(.int 0 1376), (.int 0 1377)]
noncomputable def o_505 : Obj := tupO [(.int 1 1379), (.int 1 1380)]
noncomputable def o_506 : Obj := tupO [(.int 2 1382), (.int 1 1383)]
noncomputable def o_507 : Obj := tupO [(.int 1 1385), (.int 0 1386)]
noncomputable def o_508 : Obj := tupO [(.int 3 1388), (.int 0 1389)]
noncomputable def o_509 : Obj := tupO [(.int 0 1391), (.int 1 1392)]
noncomputable def o_510 : Obj := tupO [(.int 42 1400), (.int 122 1401), (.int 220 1402), (.int 65041 1403), (.int 65050 1404), (.int 221 1405), (.int 56 1406)]
noncomputable def o_515 : Obj := tupO []
noncomputable def o_516 : Obj := fldO []
noncomputable def o_517 : Obj := tupO [(.str "op" 1411), (.str "mid" 1412), (.str "taken" 1413), (.str "given" 1414)]
noncomputable def o_518 : Obj := tupO []
noncomputable def o_519 : Obj := ⟨.none, .none, (.func (fnD (pst 53) "_law_call" 0 .none .none)), #[]⟩
noncomputable def o_520 : Obj := codO [(.str "_law_call" 1408), (.str "_law_call" 1409), (.str "/claim/cut.py" 1410), (.int 163 0), (.int 2 0), (.int 0 0), (.int 0 0), (.int 3 0), (.ref 361), (.bool .true), (.int 181 0), (.ref 362), .none, (.ref 363), (.ref 364), (.ref 365), (.int 1415 0), (.int 163 0), (.str "/claim/cut.py" 1416)]
noncomputable def o_521 : Obj := ⟨(.type "function"), .none, (.func (fnD (pst 53) "_law_call" 3 (.str "law_sa0227_01" 1208) (.ref 366))), #[]⟩
noncomputable def o_522 : Obj := tupO []
noncomputable def o_523 : Obj := fldO []
noncomputable def o_524 : Obj := ⟨.none, .none, (.func (fnD (pst 54) "_law_row" 0 .none .none)), #[]⟩
noncomputable def o_525 : Obj := codO [(.str "_law_row" 1418), (.str "_law_row" 1419), (.str "/claim/cut.py" 1420), (.int 172 0), (.int 2 0), (.int 0 0), (.int 0 0), (.int 3 0), (.ref 368), (.bool .true), (.int 181 0), (.ref 369), .none, .none, .none, (.ref 370), (.int 1421 0), (.int 172 0), (.str "/claim/cut.py" 1422)]
noncomputable def o_526 : Obj := ⟨(.type "function"), .none, (.func (fnD (pst 54) "_law_row" 3 (.str "law_sa0227_01" 1208) (.ref 371))), #[]⟩
noncomputable def o_527 : Obj := tupO []
noncomputable def o_528 : Obj := fldO []
noncomputable def o_529 : Obj := tupO [(.str "op" 1427), (.str "effect" 1428), (.str "depth" 1429)]
noncomputable def o_530 : Obj := tupO []
noncomputable def o_531 : Obj := ⟨.none, .none, (.func (fnD (pst 55) "_law_behind" 0 .none .none)), #[]⟩
noncomputable def o_532 : Obj := codO [(.str "_law_behind" 1424), (.str "_law_behind" 1425), (.str "/claim/cut.py" 1426), (.int 195 0), (.int 3 0), (.int 0 0), (.int 0 0), (.int 3 0), (.ref 373), (.bool .true), (.int 181 0), (.ref 374), .none, (.ref 375), (.ref 376), (.ref 377), (.int 1430 0), (.int 195 0), (.str "/claim/cut.py" 1431)]
noncomputable def o_533 : Obj := ⟨(.type "function"), .none, (.func (fnD (pst 55) "_law_behind" 3 (.str "law_sa0227_01" 1208) (.ref 378))), #[]⟩
noncomputable def o_534 : Obj := tupO []
noncomputable def o_535 : Obj := fldO []
noncomputable def o_536 : Obj := tupO [(.str "numbers" 1436), (.str "ret" 1437), (.str "rows" 1438), (.str "depth" 1439), (.str "v" 1440), (.str "row" 1441), (.str "effect" 1442), (.str "behind" 1443)]
noncomputable def o_537 : Obj := tupO []
noncomputable def o_538 : Obj := ⟨.none, .none, (.func (fnD (pst 56) "_law_drawn" 0 .none .none)), #[]⟩
noncomputable def o_539 : Obj := codO [(.str "_law_drawn" 1433), (.str "_law_drawn" 1434), (.str "/claim/cut.py" 1435), (.int 199 0), (.int 2 0), (.int 0 0), (.int 0 0), (.int 3 0), (.ref 380), (.bool .true), (.int 181 0), (.ref 381), .none, (.ref 382), (.ref 383), (.ref 384), (.int 1444 0), (.int 199 0), (.str "/claim/cut.py" 1445)]
noncomputable def o_540 : Obj := ⟨(.type "function"), .none, (.func (fnD (pst 56) "_law_drawn" 3 (.str "law_sa0227_01" 1208) (.ref 385))), #[]⟩
noncomputable def o_541 : Obj := tupO []
noncomputable def o_542 : Obj := fldO []
noncomputable def o_543 : Obj := ⟨.none, .none, (.func (fnD (pst 57) "_law_pick" 0 .none .none)), #[]⟩
noncomputable def o_544 : Obj := codO [(.str "_law_pick" 1447), (.str "_law_pick" 1448), (.str "/claim/cut.py" 1449), (.int 210 0), (.int 3 0), (.int 0 0), (.int 0 0), (.int 3 0), (.ref 387), (.bool .true), (.int 181 0), (.ref 388), .none, .none, .none, (.ref 389), (.int 1450 0), (.int 210 0), (.str "/claim/cut.py" 1451)]
noncomputable def o_545 : Obj := ⟨(.type "function"), .none, (.func (fnD (pst 57) "_law_pick" 3 (.str "law_sa0227_01" 1208) (.ref 390))), #[]⟩
noncomputable def o_546 : Obj := tupO []
noncomputable def o_547 : Obj := fldO []
noncomputable def o_548 : Obj := ⟨.none, .none, (.func (fnD (pst 58) "_law_aimed" 0 .none .none)), #[]⟩
noncomputable def o_549 : Obj := codO [(.str "_law_aimed" 1453), (.str "_law_aimed" 1454), (.str "/claim/cut.py" 1455), (.int 217 0), (.int 1 0), (.int 0 0), (.int 0 0), (.int 3 0), (.ref 392), (.bool .true), (.int 181 0), (.ref 393), .none, .none, .none, (.ref 394), (.int 1456 0), (.int 217 0), (.str "/claim/cut.py" 1457)]
noncomputable def o_550 : Obj := ⟨(.type "function"), .none, (.func (fnD (pst 58) "_law_aimed" 3 (.str "law_sa0227_01" 1208) (.ref 395))), #[]⟩
noncomputable def o_551 : Obj := tupO []
noncomputable def o_552 : Obj := fldO []
noncomputable def o_553 : Obj := tupO [(.str "rows" 1462), (.str "q" 1463), (.str "out" 1464), (.str "size" 1465), (.str "j" 1466), (.str "w" 1467), (.str "sort" 1468), (.str "begin" 1469), (.str "place" 1470), (.str "row" 1471), (.str "k" 1472)]
noncomputable def o_554 : Obj := tupO []
noncomputable def o_555 : Obj := ⟨.none, .none, (.func (fnD (pst 59) "_law_clauses" 0 .none .none)), #[]⟩
noncomputable def o_556 : Obj := codO [(.str "_law_clauses" 1459), (.str "_law_clauses" 1460), (.str "/claim/cut.py" 1461), (.int 227 0), (.int 2 0), (.int 0 0), (.int 0 0), (.int 3 0), (.ref 397), (.bool .true), (.int 181 0), (.ref 398), .none, (.ref 399), (.ref 400), (.ref 401), (.int 1473 0), (.int 227 0), (.str "/claim/cut.py" 1474)]
noncomputable def o_557 : Obj := ⟨(.type "function"), .none, (.func (fnD (pst 59) "_law_clauses" 3 (.str "law_sa0227_01" 1208) (.ref 402))), #[]⟩
noncomputable def o_558 : Obj := tupO []
noncomputable def o_559 : Obj := fldO []
noncomputable def o_560 : Obj := tupO [(.str "code" 1479), (.str "clauses" 1480), (.str "sort" 1481), (.str "t0" 1482), (.str "t1" 1483), (.str "h0" 1484), (.str "h1" 1485), (.str "extra" 1486), (.str "edges" 1487), (.str "n" 1488)]
noncomputable def o_561 : Obj := tupO []
noncomputable def o_562 : Obj := ⟨.none, .none, (.func (fnD (pst 60) "_law_edges_good" 0 .none .none)), #[]⟩
noncomputable def o_563 : Obj := codO [(.str "_law_edges_good" 1476), (.str "_law_edges_good" 1477), (.str "/claim/cut.py" 1478), (.int 244 0), (.int 2 0), (.int 0 0), (.int 0 0), (.int 3 0), (.ref 404), (.bool .true), (.int 181 0), (.ref 405), .none, (.ref 406), (.ref 407), (.ref 408), (.int 1489 0), (.int 244 0), (.str "/claim/cut.py" 1490)]
noncomputable def o_564 : Obj := ⟨(.type "function"), .none, (.func (fnD (pst 60) "_law_edges_good" 3 (.str "law_sa0227_01" 1208) (.ref 409))), #[]⟩
noncomputable def o_565 : Obj := tupO []
noncomputable def o_566 : Obj := fldO []
noncomputable def o_567 : Obj := tupO [(.str "code" 1495), (.str "i" 1496), (.str "op" 1497), (.str "goal" 1498), (.str "out" 1499)]
noncomputable def o_568 : Obj := tupO []
noncomputable def o_569 : Obj := ⟨.none, .none, (.func (fnD (pst 61) "_law_goals" 0 .none .none)), #[]⟩
noncomputable def o_570 : Obj := codO [(.str "_law_goals" 1492), (.str "_law_goals" 1493), (.str "/claim/cut.py" 1494), (.int 254 0), (.int 2 0), (.int 0 0), (.int 0 0), (.int 3 0), (.ref 411), (.bool .true), (.int 181 0), (.ref 412), .none, (.ref 413), (.ref 414), (.ref 415), (.int 1500 0), (.int 254 0), (.str "/claim/cut.py" 1501)]
noncomputable def o_571 : Obj := ⟨(.type "function"), .none, (.func (fnD (pst 61) "_law_goals" 3 (.str "law_sa0227_01" 1208) (.ref 416))), #[]⟩
noncomputable def o_572 : Obj := tupO []
noncomputable def o_573 : Obj := fldO []
noncomputable def o_574 : Obj := ⟨.none, .none, (.func (fnD (pst 62) "_law_most" 0 .none .none)), #[]⟩
noncomputable def o_575 : Obj := codO [(.str "_law_most" 1503), (.str "_law_most" 1504), (.str "/claim/cut.py" 1505), (.int 264 0), (.int 3 0), (.int 0 0), (.int 0 0), (.int 3 0), (.ref 418), (.bool .true), (.int 181 0), (.ref 419), .none, .none, .none, (.ref 420), (.int 1506 0), (.int 264 0), (.str "/claim/cut.py" 1507)]
noncomputable def o_576 : Obj := ⟨(.type "function"), .none, (.func (fnD (pst 62) "_law_most" 3 (.str "law_sa0227_01" 1208) (.ref 421))), #[]⟩
noncomputable def o_577 : Obj := tupO []
noncomputable def o_578 : Obj := fldO []
noncomputable def o_579 : Obj := ⟨.none, .none, (.func (fnD (pst 63) "law" 0 .none .none)), #[]⟩
noncomputable def o_580 : Obj := codO [(.str "law" 1509), (.str "law" 1510), (.str "/claim/cut.py" 1511), (.int 293 0), (.int 1 0), (.int 0 0), (.int 0 0), (.int 3 0), (.ref 423), (.bool .true), (.int 181 0), (.ref 424), .none, .none, .none, (.ref 425), (.int 1512 0), (.int 293 0), (.str "/claim/cut.py" 1513)]
noncomputable def o_581 : Obj := ⟨(.type "function"), .none, (.func (fnD (pst 63) "law" 3 (.str "law_sa0227_01" 1208) (.ref 426))), #[]⟩
noncomputable def tree_47 (P : Params) : BT := .node (PySem.W.boot_o_0 P) (.node (PySem.W.boot_o_1 P) (.node (PySem.W.boot_o_3 P) (.node (PySem.W.boot_o_7 P) .nil .nil) (.node o_43 .nil .nil)) (.node (PySem.W.boot_o_5 P) (.node (PySem.W.boot_o_9 P) .nil .nil) (.node o_45 .nil .nil))) (.node (PySem.W.boot_o_2 P) (.node (PySem.W.boot_o_4 P) (.node (PySem.W.boot_o_8 P) .nil .nil) (.node o_44 .nil .nil)) (.node (PySem.W.boot_o_6 P) (.node (PySem.W.boot_o_10 P) .nil .nil) (.node o_46 .nil .nil)))
noncomputable def tree_86 (P : Params) : BT := .node (PySem.W.boot_o_0 P) (.node (PySem.W.boot_o_1 P) (.node (o_72 P) (.node (PySem.W.boot_o_7 P) (.node o_52 (.node o_74 .nil .nil) .nil) (.node o_60 (.node o_79 .nil .nil) .nil)) (.node o_43 (.node o_56 (.node o_75 .nil .nil) .nil) (.node o_64 (.node (o_83 P) .nil .nil) .nil))) (.node (PySem.W.boot_o_5 P) (.node (PySem.W.boot_o_9 P) (.node (o_54 P) (.node o_70 .nil .nil) .nil) (.node o_62 (.node o_81 .nil .nil) .nil)) (.node o_45 (.node o_58 (.node (o_77 P) .nil .nil) .nil) (.node o_66 (.node o_85 .nil .nil) .nil)))) (.node (o_49 P) (.node (PySem.W.boot_o_4 P) (.node (PySem.W.boot_o_8 P) (.node o_53 (.node o_69 .nil .nil) .nil) (.node o_61 (.node o_80 .nil .nil) .nil)) (.node o_73 (.node o_57 (.node o_76 .nil .nil) .nil) (.node o_65 (.node o_84 .nil .nil) .nil))) (.node (PySem.W.boot_o_6 P) (.node (PySem.W.boot_o_10 P) (.node o_55 (.node o_71 .nil .nil) .nil) (.node o_63 (.node o_82 .nil .nil) .nil)) (.node o_46 (.node o_59 (.node o_78 .nil .nil) .nil) (.node (o_67 P) (.node o_86 .nil .nil) .nil))))
noncomputable def tree_95 (P : Params) : BT := .node (PySem.W.boot_o_0 P) (.node (PySem.W.boot_o_1 P) (.node (o_87 P) (.node (PySem.W.boot_o_7 P) (.node o_52 (.node o_74 .nil .nil) (.node o_88 .nil .nil)) (.node o_60 (.node o_79 .nil .nil) .nil)) (.node o_43 (.node o_56 (.node o_75 .nil .nil) (.node o_92 .nil .nil)) (.node o_64 (.node (o_83 P) .nil .nil) .nil))) (.node (PySem.W.boot_o_5 P) (.node (PySem.W.boot_o_9 P) (.node (o_54 P) (.node o_70 .nil .nil) (.node o_90 .nil .nil)) (.node o_62 (.node o_81 .nil .nil) .nil)) (.node o_45 (.node o_58 (.node (o_77 P) .nil .nil) (.node o_94 .nil .nil)) (.node o_66 (.node o_85 .nil .nil) .nil)))) (.node (o_49 P) (.node (PySem.W.boot_o_4 P) (.node (PySem.W.boot_o_8 P) (.node o_53 (.node o_69 .nil .nil) (.node o_89 .nil .nil)) (.node o_61 (.node o_80 .nil .nil) .nil)) (.node o_73 (.node o_57 (.node o_76 .nil .nil) (.node o_93 .nil .nil)) (.node o_65 (.node o_84 .nil .nil) .nil))) (.node (PySem.W.boot_o_6 P) (.node (PySem.W.boot_o_10 P) (.node o_55 (.node o_71 .nil .nil) (.node o_91 .nil .nil)) (.node o_63 (.node o_82 .nil .nil) .nil)) (.node o_46 (.node o_59 (.node o_78 .nil .nil) (.node o_95 .nil .nil)) (.node (o_67 P) (.node o_86 .nil .nil) .nil))))
noncomputable def tree_238 (P : Params) : BT := .node (PySem.W.boot_o_0 P) (.node (PySem.W.boot_o_1 P) (.node (o_108 P) (.node (PySem.W.boot_o_7 P) (.node o_52 (.node o_74 (.node o_117 (.node o_181 .nil .nil) .nil) (.node o_149 (.node o_213 .nil .nil) .nil)) (.node o_88 (.node o_133 (.node o_197 .nil .nil) .nil) (.node o_165 (.node o_229 .nil .nil) .nil))) (.node o_60 (.node o_79 (.node o_125 (.node o_189 .nil .nil) .nil) (.node o_157 (.node o_221 .nil .nil) .nil)) (.node o_109 (.node o_141 (.node o_205 .nil .nil) .nil) (.node o_173 (.node o_237 .nil .nil) .nil)))) (.node o_43 (.node o_56 (.node o_75 (.node o_121 (.node o_185 .nil .nil) .nil) (.node o_153 (.node o_217 .nil .nil) .nil)) (.node o_92 (.node o_137 (.node o_201 .nil .nil) .nil) (.node o_169 (.node o_233 .nil .nil) .nil))) (.node o_64 (.node (o_83 P) (.node o_129 (.node o_193 .nil .nil) .nil) (.node o_161 (.node o_225 .nil .nil) .nil)) (.node o_113 (.node o_145 (.node o_209 .nil .nil) .nil) (.node o_177 .nil .nil))))) (.node (PySem.W.boot_o_5 P) (.node (PySem.W.boot_o_9 P) (.node (o_54 P) (.node o_70 (.node o_119 (.node o_183 .nil .nil) .nil) (.node o_151 (.node o_215 .nil .nil) .nil)) (.node o_90 (.node o_135 (.node o_199 .nil .nil) .nil) (.node o_167 (.node o_231 .nil .nil) .nil))) (.node o_62 (.node o_81 (.node o_127 (.node o_191 .nil .nil) .nil) (.node o_159 (.node o_223 .nil .nil) .nil)) (.node o_111 (.node o_143 (.node o_207 .nil .nil) .nil) (.node o_175 .nil .nil)))) (.node o_45 (.node o_58 (.node (o_77 P) (.node o_123 (.node o_187 .nil .nil) .nil) (.node o_155 (.node o_219 .nil .nil) .nil)) (.node o_94 (.node o_139 (.node o_203 .nil .nil) .nil) (.node o_171 (.node o_235 .nil .nil) .nil))) (.node o_66 (.node o_85 (.node o_131 (.node o_195 .nil .nil) .nil) (.node o_163 (.node o_227 .nil .nil) .nil)) (.node o_115 (.node o_147 (.node o_211 .nil .nil) .nil) (.node o_179 .nil .nil)))))) (.node (o_49 P) (.node (PySem.W.boot_o_4 P) (.node (PySem.W.boot_o_8 P) (.node o_53 (.node o_69 (.node o_118 (.node o_182 .nil .nil) .nil) (.node o_150 (.node o_214 .nil .nil) .nil)) (.node o_89 (.node o_134 (.node o_198 .nil .nil) .nil) (.node o_166 (.node o_230 .nil .nil) .nil))) (.node o_61 (.node o_80 (.node o_126 (.node o_190 .nil .nil) .nil) (.node o_158 (.node o_222 .nil .nil) .nil)) (.node o_110 (.node o_142 (.node o_206 .nil .nil) .nil) (.node o_174 (.node o_238 .nil .nil) .nil)))) (.node o_73 (.node o_57 (.node o_76 (.node o_122 (.node o_186 .nil .nil) .nil) (.node o_154 (.node o_218 .nil .nil) .nil)) (.node o_93 (.node o_138 (.node o_202 .nil .nil) .nil) (.node o_170 (.node o_234 .nil .nil) .nil))) (.node o_65 (.node o_84 (.node o_130 (.node o_194 .nil .nil) .nil) (.node o_162 (.node o_226 .nil .nil) .nil)) (.node o_114 (.node o_146 (.node o_210 .nil .nil) .nil) (.node o_178 .nil .nil))))) (.node (PySem.W.boot_o_6 P) (.node (PySem.W.boot_o_10 P) (.node o_55 (.node o_71 (.node o_120 (.node o_184 .nil .nil) .nil) (.node o_152 (.node o_216 .nil .nil) .nil)) (.node o_91 (.node o_136 (.node o_200 .nil .nil) .nil) (.node o_168 (.node o_232 .nil .nil) .nil))) (.node o_63 (.node o_82 (.node o_128 (.node o_192 .nil .nil) .nil) (.node o_160 (.node o_224 .nil .nil) .nil)) (.node o_112 (.node o_144 (.node o_208 .nil .nil) .nil) (.node o_176 .nil .nil)))) (.node o_46 (.node o_59 (.node o_78 (.node o_124 (.node o_188 .nil .nil) .nil) (.node o_156 (.node o_220 .nil .nil) .nil)) (.node o_95 (.node o_140 (.node o_204 .nil .nil) .nil) (.node o_172 (.node o_236 .nil .nil) .nil))) (.node (o_67 P) (.node o_86 (.node o_132 (.node o_196 .nil .nil) .nil) (.node o_164 (.node o_228 .nil .nil) .nil)) (.node o_116 (.node o_148 (.node o_212 .nil .nil) .nil) (.node o_180 .nil .nil))))))
noncomputable def tree_581 (P : Params) : BT := .node (PySem.W.boot_o_0 P) (.node (PySem.W.boot_o_1 P) (.node (o_513 P) (.node (PySem.W.boot_o_7 P) (.node o_52 (.node o_74 (.node o_117 (.node o_181 (.node o_404 .nil .nil) (.node o_537 .nil .nil)) (.node o_338 (.node o_469 .nil .nil) .nil)) (.node o_149 (.node o_213 (.node o_436 .nil .nil) (.node o_569 .nil .nil)) (.node o_370 (.node o_501 .nil .nil) .nil))) (.node o_88 (.node o_133 (.node o_197 (.node o_420 .nil .nil) (.node o_553 .nil .nil)) (.node o_354 (.node o_485 .nil .nil) .nil)) (.node o_165 (.node o_229 (.node o_452 .nil .nil) .nil) (.node o_386 (.node o_521 .nil .nil) .nil)))) (.node o_60 (.node o_79 (.node o_125 (.node o_189 (.node o_412 .nil .nil) (.node o_545 .nil .nil)) (.node o_346 (.node o_477 .nil .nil) .nil)) (.node o_157 (.node o_221 (.node o_444 .nil .nil) (.node o_577 .nil .nil)) (.node o_378 (.node o_509 .nil .nil) .nil))) (.node o_109 (.node o_141 (.node o_205 (.node o_428 .nil .nil) (.node o_561 .nil .nil)) (.node o_362 (.node o_493 .nil .nil) .nil)) (.node o_173 (.node o_237 (.node o_461 .nil .nil) .nil) (.node o_396 (.node o_529 .nil .nil) .nil))))) (.node o_43 (.node o_56 (.node o_75 (.node o_121 (.node o_185 (.node o_408 .nil .nil) (.node o_541 .nil .nil)) (.node o_342 (.node o_473 .nil .nil) .nil)) (.node o_153 (.node o_217 (.node o_440 .nil .nil) (.node o_573 .nil .nil)) (.node o_374 (.node o_505 .nil .nil) .nil))) (.node o_92 (.node o_137 (.node o_201 (.node o_424 .nil .nil) (.node o_557 .nil .nil)) (.node o_358 (.node o_489 .nil .nil) .nil)) (.node o_169 (.node o_233 (.node o_456 .nil .nil) .nil) (.node o_392 (.node o_525 .nil .nil) .nil)))) (.node o_64 (.node (o_83 P) (.node o_129 (.node o_193 (.node o_416 .nil .nil) (.node o_549 .nil .nil)) (.node o_350 (.node o_481 .nil .nil) .nil)) (.node o_161 (.node o_225 (.node o_448 .nil .nil) (.node o_581 .nil .nil)) (.node o_382 (.node o_517 .nil .nil) .nil))) (.node o_113 (.node o_145 (.node o_209 (.node o_432 .nil .nil) (.node o_565 .nil .nil)) (.node o_366 (.node o_497 .nil .nil) .nil)) (.node o_177 (.node (o_334 P) (.node o_465 .nil .nil) .nil) (.node o_400 (.node o_533 .nil .nil) .nil)))))) (.node (PySem.W.boot_o_5 P) (.node (PySem.W.boot_o_9 P) (.node (o_54 P) (.node o_70 (.node o_119 (.node o_183 (.node o_406 .nil .nil) (.node o_539 .nil .nil)) (.node o_340 (.node o_471 .nil .nil) .nil)) (.node o_151 (.node o_215 (.node o_438 .nil .nil) (.node o_571 .nil .nil)) (.node o_372 (.node o_503 .nil .nil) .nil))) (.node o_90 (.node o_135 (.node o_199 (.node o_422 .nil .nil) (.node o_555 .nil .nil)) (.node o_356 (.node o_487 .nil .nil) .nil)) (.node o_167 (.node o_231 (.node o_454 .nil .nil) .nil) (.node o_390 (.node o_523 .nil .nil) .nil)))) (.node o_62 (.node o_81 (.node o_127 (.node o_191 (.node o_414 .nil .nil) (.node o_547 .nil .nil)) (.node o_348 (.node o_479 .nil .nil) .nil)) (.node o_159 (.node o_223 (.node o_446 .nil .nil) (.node o_579 .nil .nil)) (.node o_380 (.node o_515 .nil .nil) .nil))) (.node o_111 (.node o_143 (.node o_207 (.node o_430 .nil .nil) (.node o_563 .nil .nil)) (.node o_364 (.node o_495 .nil .nil) .nil)) (.node o_175 (.node o_332 (.node o_463 .nil .nil) .nil) (.node o_398 (.node o_531 .nil .nil) .nil))))) (.node o_45 (.node o_58 (.node (o_77 P) (.node o_123 (.node o_187 (.node o_410 .nil .nil) (.node o_543 .nil .nil)) (.node o_344 (.node o_475 .nil .nil) .nil)) (.node o_155 (.node o_219 (.node o_442 .nil .nil) (.node o_575 .nil .nil)) (.node o_376 (.node o_507 .nil .nil) .nil))) (.node o_94 (.node o_139 (.node o_203 (.node o_426 .nil .nil) (.node o_559 .nil .nil)) (.node o_360 (.node o_491 .nil .nil) .nil)) (.node o_171 (.node o_235 (.node o_458 .nil .nil) .nil) (.node o_394 (.node o_527 .nil .nil) .nil)))) (.node o_66 (.node o_85 (.node o_131 (.node o_195 (.node o_418 .nil .nil) (.node o_551 .nil .nil)) (.node o_352 (.node o_483 .nil .nil) .nil)) (.node o_163 (.node o_227 (.node o_450 .nil .nil) .nil) (.node o_384 (.node o_519 .nil .nil) .nil))) (.node o_115 (.node o_147 (.node o_211 (.node o_434 .nil .nil) (.node o_567 .nil .nil)) (.node o_368 (.node o_499 .nil .nil) .nil)) (.node o_179 (.node o_336 (.node o_467 .nil .nil) .nil) (.node o_402 (.node o_535 .nil .nil) .nil))))))) (.node (o_49 P) (.node (PySem.W.boot_o_4 P) (.node (PySem.W.boot_o_8 P) (.node o_53 (.node o_69 (.node o_118 (.node o_182 (.node o_405 .nil .nil) (.node o_538 .nil .nil)) (.node o_339 (.node o_470 .nil .nil) .nil)) (.node o_150 (.node o_214 (.node o_437 .nil .nil) (.node o_570 .nil .nil)) (.node o_371 (.node o_502 .nil .nil) .nil))) (.node o_89 (.node o_134 (.node o_198 (.node o_421 .nil .nil) (.node o_554 .nil .nil)) (.node o_355 (.node o_486 .nil .nil) .nil)) (.node o_166 (.node o_230 (.node o_453 .nil .nil) .nil) (.node o_387 (.node o_522 .nil .nil) .nil)))) (.node o_61 (.node o_80 (.node o_126 (.node o_190 (.node o_413 .nil .nil) (.node o_546 .nil .nil)) (.node o_347 (.node o_478 .nil .nil) .nil)) (.node o_158 (.node o_222 (.node o_445 .nil .nil) (.node o_578 .nil .nil)) (.node o_379 (.node o_510 .nil .nil) .nil))) (.node o_110 (.node o_142 (.node o_206 (.node o_429 .nil .nil) (.node o_562 .nil .nil)) (.node o_363 (.node o_494 .nil .nil) .nil)) (.node o_174 (.node o_238 (.node o_462 .nil .nil) .nil) (.node o_397 (.node o_530 .nil .nil) .nil))))) (.node o_514 (.node o_57 (.node o_76 (.node o_122 (.node o_186 (.node o_409 .nil .nil) (.node o_542 .nil .nil)) (.node o_343 (.node o_474 .nil .nil) .nil)) (.node o_154 (.node o_218 (.node o_441 .nil .nil) (.node o_574 .nil .nil)) (.node o_375 (.node o_506 .nil .nil) .nil))) (.node o_93 (.node o_138 (.node o_202 (.node o_425 .nil .nil) (.node o_558 .nil .nil)) (.node o_359 (.node o_490 .nil .nil) .nil)) (.node o_170 (.node o_234 (.node o_457 .nil .nil) .nil) (.node o_393 (.node o_526 .nil .nil) .nil)))) (.node o_65 (.node o_84 (.node o_130 (.node o_194 (.node o_417 .nil .nil) (.node o_550 .nil .nil)) (.node o_351 (.node o_482 .nil .nil) .nil)) (.node o_162 (.node o_226 (.node o_449 .nil .nil) .nil) (.node o_383 (.node o_518 .nil .nil) .nil))) (.node o_114 (.node o_146 (.node o_210 (.node o_433 .nil .nil) (.node o_566 .nil .nil)) (.node o_367 (.node o_498 .nil .nil) .nil)) (.node o_178 (.node o_335 (.node o_466 .nil .nil) .nil) (.node o_401 (.node o_534 .nil .nil) .nil)))))) (.node (PySem.W.boot_o_6 P) (.node (PySem.W.boot_o_10 P) (.node o_55 (.node o_71 (.node o_120 (.node o_184 (.node o_407 .nil .nil) (.node o_540 .nil .nil)) (.node o_341 (.node o_472 .nil .nil) .nil)) (.node o_152 (.node o_216 (.node o_439 .nil .nil) (.node o_572 .nil .nil)) (.node o_373 (.node o_504 .nil .nil) .nil))) (.node o_91 (.node o_136 (.node o_200 (.node o_423 .nil .nil) (.node o_556 .nil .nil)) (.node o_357 (.node o_488 .nil .nil) .nil)) (.node o_168 (.node o_232 (.node o_455 .nil .nil) .nil) (.node o_391 (.node o_524 .nil .nil) .nil)))) (.node o_63 (.node o_82 (.node o_128 (.node o_192 (.node o_415 .nil .nil) (.node o_548 .nil .nil)) (.node o_349 (.node o_480 .nil .nil) .nil)) (.node o_160 (.node o_224 (.node o_447 .nil .nil) (.node o_580 .nil .nil)) (.node o_381 (.node o_516 .nil .nil) .nil))) (.node o_112 (.node o_144 (.node o_208 (.node o_431 .nil .nil) (.node o_564 .nil .nil)) (.node o_365 (.node o_496 .nil .nil) .nil)) (.node o_176 (.node o_333 (.node o_464 .nil .nil) .nil) (.node o_399 (.node o_532 .nil .nil) .nil))))) (.node o_46 (.node o_59 (.node o_78 (.node o_124 (.node o_188 (.node o_411 .nil .nil) (.node o_544 .nil .nil)) (.node o_345 (.node o_476 .nil .nil) .nil)) (.node o_156 (.node o_220 (.node o_443 .nil .nil) (.node o_576 .nil .nil)) (.node o_377 (.node o_508 .nil .nil) .nil))) (.node o_95 (.node o_140 (.node o_204 (.node o_427 .nil .nil) (.node o_560 .nil .nil)) (.node (o_361 P) (.node o_492 .nil .nil) .nil)) (.node o_172 (.node o_236 (.node o_459 .nil .nil) .nil) (.node o_395 (.node o_528 .nil .nil) .nil)))) (.node (o_67 P) (.node o_86 (.node o_132 (.node o_196 (.node o_419 .nil .nil) (.node o_552 .nil .nil)) (.node o_353 (.node o_484 .nil .nil) .nil)) (.node o_164 (.node o_228 (.node o_451 .nil .nil) .nil) (.node o_385 (.node o_520 .nil .nil) .nil))) (.node o_116 (.node o_148 (.node o_212 (.node o_435 .nil .nil) (.node o_568 .nil .nil)) (.node o_369 (.node o_500 .nil .nil) .nil)) (.node o_180 (.node o_337 (.node o_468 .nil .nil) .nil) (.node o_403 (.node o_536 .nil .nil) .nil)))))))
noncomputable def heapA (P : Params) : Heap := ⟨#[PySem.W.boot_o_0 P, PySem.W.boot_o_1 P, PySem.W.boot_o_2 P, PySem.W.boot_o_3 P, PySem.W.boot_o_4 P, PySem.W.boot_o_5 P, PySem.W.boot_o_6 P, PySem.W.boot_o_7 P, PySem.W.boot_o_8 P, PySem.W.boot_o_9 P, PySem.W.boot_o_10 P, o_43, o_44, o_45, o_46], {}⟩
noncomputable def kAs : List Addr := [2, 3, 15, 22, 24, 25, 27, 28, 29, 30, 31, 32, 35, 42, 43, 44, 47, 55, 56, 57, 58, 59, 60, 61, 62, 63, 64, 65, 66, 67, 68, 69, 70, 71, 72, 74, 75, 76, 77, 78, 79, 80, 81, 82, 83, 84, 85, 86, 87, 88, 89, 90, 92, 93, 94, 95, 96, 97, 98, 99, 100, 101, 102, 103, 104, 105, 106, 107, 108, 110, 111, 112, 113, 114, 115, 116, 117, 118, 119, 120, 121, 122, 123, 124, 125, 126, 128, 129, 130, 131, 132, 133, 134, 135, 136, 137, 138, 139, 140, 141, 142, 143, 144, 146, 147, 148, 149, 150, 151, 152, 153, 154, 155, 156, 157, 158, 159, 160, 161, 162, 164, 165, 166, 167, 168, 169, 170, 171, 172, 173, 174, 175, 176, 177, 178, 179, 180, 182, 183, 184, 192, 194, 195, 197, 198, 199, 201, 202, 204, 205, 206, 208, 209, 211, 212, 213, 214, 215, 216, 217, 220, 222, 223, 225, 226, 227, 229, 230, 232, 233, 234, 236, 237, 239, 240, 241, 243, 244, 246, 247, 248, 250, 251, 253, 254, 255, 257, 258, 260, 261, 262, 264, 265, 267, 268, 269, 271, 272, 274, 275, 276, 278, 279, 281, 282, 283, 285, 286, 288, 289, 290, 292, 293, 295, 296, 297, 299, 300, 302, 303, 304, 306, 307, 309, 310, 311, 312, 313, 314, 315, 316, 317, 318, 319, 320, 321, 322, 323, 324, 325, 326, 327, 328, 329, 330, 331, 332, 333, 334, 335, 336, 337, 338, 339, 340, 341, 342, 343, 344, 345, 346, 347, 348, 349, 350, 351, 352, 353, 354, 355, 356, 357, 358, 359, 360, 361, 363, 364, 366, 367, 368, 371, 372, 373, 375, 376, 378, 379, 380, 382, 383, 385, 386, 387, 390, 391, 392, 395, 396, 397, 399, 400, 402, 403, 404, 406, 407, 409, 410, 411, 413, 414, 416, 417, 418, 421, 422, 423, 426, 427]
noncomputable def kz (P : Params) : Frag := [(2, o_49 P), (3, o_513 P), (15, o_52), (22, o_59), (24, o_61), (25, o_62), (27, o_64), (28, o_65), (29, o_66), (30, o_67 P), (31, o_74), (32, o_69), (35, o_75), (42, o_82), (43, o_83 P), (44, o_84), (47, o_88), (55, o_109), (56, o_110), (57, o_111), (58, o_112), (59, o_113), (60, o_114), (61, o_115), (62, o_116), (63, o_117), (64, o_118), (65, o_119), (66, o_120), (67, o_121), (68, o_122), (69, o_123), (70, o_124), (71, o_125), (72, o_126), (74, o_128), (75, o_129), (76, o_130), (77, o_131), (78, o_132), (79, o_133), (80, o_134), (81, o_135), (82, o_136), (83, o_137), (84, o_138), (85, o_139), (86, o_140), (87, o_141), (88, o_142), (89, o_143), (90, o_144), (92, o_146), (93, o_147), (94, o_148), (95, o_149), (96, o_150), (97, o_151), (98, o_152), (99, o_153), (100, o_154), (101, o_155), (102, o_156), (103, o_157), (104, o_158), (105, o_159), (106, o_160), (107, o_161), (108, o_162), (110, o_164), (111, o_165), (112, o_166), (113, o_167), (114, o_168), (115, o_169), (116, o_170), (117, o_171), (118, o_172), (119, o_173), (120, o_174), (121, o_175), (122, o_176), (123, o_177), (124, o_178), (125, o_179), (126, o_180), (128, o_182), (129, o_183), (130, o_184), (131, o_185), (132, o_186), (133, o_187), (134, o_188), (135, o_189), (136, o_190), (137, o_191), (138, o_192), (139, o_193), (140, o_194), (141, o_195), (142, o_196), (143, o_197), (144, o_198), (146, o_200), (147, o_201), (148, o_202), (149, o_203), (150, o_204), (151, o_205), (152, o_206), (153, o_207), (154, o_208), (155, o_209), (156, o_210), (157, o_211), (158, o_212), (159, o_213), (160, o_214), (161, o_215), (162, o_216), (164, o_218), (165, o_219), (166, o_220), (167, o_221), (168, o_222), (169, o_223), (170, o_224), (171, o_225), (172, o_226), (173, o_227), (174, o_228), (175, o_229), (176, o_230), (177, o_231), (178, o_232), (179, o_233), (180, o_234), (182, o_236), (183, o_237), (184, o_238), (192, o_339), (194, o_341), (195, o_342), (197, o_344), (198, o_345), (199, o_346), (201, o_348), (202, o_349), (204, o_351), (205, o_352), (206, o_353), (208, o_355), (209, o_356), (211, o_358), (212, o_359), (213, o_360), (214, o_361 P), (215, o_362), (216, o_363), (217, o_364), (220, o_367), (222, o_369), (223, o_370), (225, o_372), (226, o_373), (227, o_374), (229, o_376), (230, o_377), (232, o_379), (233, o_380), (234, o_381), (236, o_383), (237, o_384), (239, o_386), (240, o_387), (241, o_390), (243, o_392), (244, o_393), (246, o_395), (247, o_396), (248, o_397), (250, o_399), (251, o_400), (253, o_402), (254, o_403), (255, o_404), (257, o_406), (258, o_407), (260, o_409), (261, o_410), (262, o_411), (264, o_413), (265, o_414), (267, o_416), (268, o_417), (269, o_418), (271, o_420), (272, o_421), (274, o_423), (275, o_424), (276, o_425), (278, o_427), (279, o_428), (281, o_430), (282, o_431), (283, o_432), (285, o_434), (286, o_435), (288, o_437), (289, o_438), (290, o_439), (292, o_441), (293, o_442), (295, o_444), (296, o_445), (297, o_446), (299, o_448), (300, o_449), (302, o_451), (303, o_452), (304, o_453), (306, o_455), (307, o_456), (309, o_458), (310, o_459), (311, o_461), (312, o_462), (313, o_463), (314, o_464), (315, o_465), (316, o_466), (317, o_467), (318, o_468), (319, o_469), (320, o_470), (321, o_471), (322, o_472), (323, o_473), (324, o_474), (325, o_475), (326, o_476), (327, o_477), (328, o_478), (329, o_479), (330, o_480), (331, o_481), (332, o_482), (333, o_483), (334, o_484), (335, o_485), (336, o_486), (337, o_487), (338, o_488), (339, o_489), (340, o_490), (341, o_491), (342, o_492), (343, o_493), (344, o_494), (345, o_495), (346, o_496), (347, o_497), (348, o_498), (349, o_499), (350, o_500), (351, o_501), (352, o_502), (353, o_503), (354, o_504), (355, o_505), (356, o_506), (357, o_507), (358, o_508), (359, o_509), (360, o_510), (361, o_515), (363, o_517), (364, o_518), (366, o_520), (367, o_521), (368, o_522), (371, o_525), (372, o_526), (373, o_527), (375, o_529), (376, o_530), (378, o_532), (379, o_533), (380, o_534), (382, o_536), (383, o_537), (385, o_539), (386, o_540), (387, o_541), (390, o_544), (391, o_545), (392, o_546), (395, o_549), (396, o_550), (397, o_551), (399, o_553), (400, o_554), (402, o_556), (403, o_557), (404, o_558), (406, o_560), (407, o_561), (409, o_563), (410, o_564), (411, o_565), (413, o_567), (414, o_568), (416, o_570), (417, o_571), (418, o_572), (421, o_575), (422, o_576), (423, o_577), (426, o_580), (427, o_581)]
noncomputable def pB1 : Obj := dicO (dsort.take 17) 17
noncomputable def tB1 (P : Params) : BT := .node (PySem.W.boot_o_0 P) (.node (PySem.W.boot_o_1 P) (.node (o_72 P) (.node (PySem.W.boot_o_7 P) (.node o_52 (.node o_74 .nil .nil) (.node pB1 .nil .nil)) (.node o_60 (.node o_79 .nil .nil) .nil)) (.node o_43 (.node o_56 (.node o_75 .nil .nil) .nil) (.node o_64 (.node (o_83 P) .nil .nil) .nil))) (.node (PySem.W.boot_o_5 P) (.node (PySem.W.boot_o_9 P) (.node (o_54 P) (.node o_70 .nil .nil) .nil) (.node o_62 (.node o_81 .nil .nil) .nil)) (.node o_45 (.node o_58 (.node (o_77 P) .nil .nil) .nil) (.node o_66 (.node o_85 .nil .nil) .nil)))) (.node (o_49 P) (.node (PySem.W.boot_o_4 P) (.node (PySem.W.boot_o_8 P) (.node o_53 (.node o_69 .nil .nil) .nil) (.node o_61 (.node o_80 .nil .nil) .nil)) (.node o_73 (.node o_57 (.node o_76 .nil .nil) .nil) (.node o_65 (.node o_84 .nil .nil) .nil))) (.node (PySem.W.boot_o_6 P) (.node (PySem.W.boot_o_10 P) (.node o_55 (.node o_71 .nil .nil) .nil) (.node o_63 (.node o_82 .nil .nil) .nil)) (.node o_46 (.node o_59 (.node o_78 .nil .nil) .nil) (.node (o_67 P) (.node o_86 .nil .nil) .nil))))
noncomputable def pB2 : Obj := dicO (dsort.take 34) 34
noncomputable def tB2 (P : Params) : BT := .node (PySem.W.boot_o_0 P) (.node (PySem.W.boot_o_1 P) (.node (o_72 P) (.node (PySem.W.boot_o_7 P) (.node o_52 (.node o_74 .nil .nil) (.node pB2 .nil .nil)) (.node o_60 (.node o_79 .nil .nil) .nil)) (.node o_43 (.node o_56 (.node o_75 .nil .nil) .nil) (.node o_64 (.node (o_83 P) .nil .nil) .nil))) (.node (PySem.W.boot_o_5 P) (.node (PySem.W.boot_o_9 P) (.node (o_54 P) (.node o_70 .nil .nil) .nil) (.node o_62 (.node o_81 .nil .nil) .nil)) (.node o_45 (.node o_58 (.node (o_77 P) .nil .nil) .nil) (.node o_66 (.node o_85 .nil .nil) .nil)))) (.node (o_49 P) (.node (PySem.W.boot_o_4 P) (.node (PySem.W.boot_o_8 P) (.node o_53 (.node o_69 .nil .nil) (.node o_89 .nil .nil)) (.node o_61 (.node o_80 .nil .nil) .nil)) (.node o_73 (.node o_57 (.node o_76 .nil .nil) .nil) (.node o_65 (.node o_84 .nil .nil) .nil))) (.node (PySem.W.boot_o_6 P) (.node (PySem.W.boot_o_10 P) (.node o_55 (.node o_71 .nil .nil) .nil) (.node o_63 (.node o_82 .nil .nil) .nil)) (.node o_46 (.node o_59 (.node o_78 .nil .nil) .nil) (.node (o_67 P) (.node o_86 .nil .nil) .nil))))
noncomputable def pB3 : Obj := dicO (dsort.take 51) 51
noncomputable def tB3 (P : Params) : BT := .node (PySem.W.boot_o_0 P) (.node (PySem.W.boot_o_1 P) (.node (o_72 P) (.node (PySem.W.boot_o_7 P) (.node o_52 (.node o_74 .nil .nil) (.node pB3 .nil .nil)) (.node o_60 (.node o_79 .nil .nil) .nil)) (.node o_43 (.node o_56 (.node o_75 .nil .nil) .nil) (.node o_64 (.node (o_83 P) .nil .nil) .nil))) (.node (PySem.W.boot_o_5 P) (.node (PySem.W.boot_o_9 P) (.node (o_54 P) (.node o_70 .nil .nil) (.node o_90 .nil .nil)) (.node o_62 (.node o_81 .nil .nil) .nil)) (.node o_45 (.node o_58 (.node (o_77 P) .nil .nil) .nil) (.node o_66 (.node o_85 .nil .nil) .nil)))) (.node (o_49 P) (.node (PySem.W.boot_o_4 P) (.node (PySem.W.boot_o_8 P) (.node o_53 (.node o_69 .nil .nil) (.node o_89 .nil .nil)) (.node o_61 (.node o_80 .nil .nil) .nil)) (.node o_73 (.node o_57 (.node o_76 .nil .nil) .nil) (.node o_65 (.node o_84 .nil .nil) .nil))) (.node (PySem.W.boot_o_6 P) (.node (PySem.W.boot_o_10 P) (.node o_55 (.node o_71 .nil .nil) .nil) (.node o_63 (.node o_82 .nil .nil) .nil)) (.node o_46 (.node o_59 (.node o_78 .nil .nil) .nil) (.node (o_67 P) (.node o_86 .nil .nil) .nil))))
noncomputable def pB4 : Obj := dicO (dsort.take 68) 68
noncomputable def tB4 (P : Params) : BT := .node (PySem.W.boot_o_0 P) (.node (PySem.W.boot_o_1 P) (.node (o_72 P) (.node (PySem.W.boot_o_7 P) (.node o_52 (.node o_74 .nil .nil) (.node pB4 .nil .nil)) (.node o_60 (.node o_79 .nil .nil) .nil)) (.node o_43 (.node o_56 (.node o_75 .nil .nil) .nil) (.node o_64 (.node (o_83 P) .nil .nil) .nil))) (.node (PySem.W.boot_o_5 P) (.node (PySem.W.boot_o_9 P) (.node (o_54 P) (.node o_70 .nil .nil) (.node o_90 .nil .nil)) (.node o_62 (.node o_81 .nil .nil) .nil)) (.node o_45 (.node o_58 (.node (o_77 P) .nil .nil) .nil) (.node o_66 (.node o_85 .nil .nil) .nil)))) (.node (o_49 P) (.node (PySem.W.boot_o_4 P) (.node (PySem.W.boot_o_8 P) (.node o_53 (.node o_69 .nil .nil) (.node o_89 .nil .nil)) (.node o_61 (.node o_80 .nil .nil) .nil)) (.node o_73 (.node o_57 (.node o_76 .nil .nil) .nil) (.node o_65 (.node o_84 .nil .nil) .nil))) (.node (PySem.W.boot_o_6 P) (.node (PySem.W.boot_o_10 P) (.node o_55 (.node o_71 .nil .nil) (.node o_91 .nil .nil)) (.node o_63 (.node o_82 .nil .nil) .nil)) (.node o_46 (.node o_59 (.node o_78 .nil .nil) .nil) (.node (o_67 P) (.node o_86 .nil .nil) .nil))))
noncomputable def pB5 : Obj := dicO (dsort.take 85) 85
noncomputable def tB5 (P : Params) : BT := .node (PySem.W.boot_o_0 P) (.node (PySem.W.boot_o_1 P) (.node (o_72 P) (.node (PySem.W.boot_o_7 P) (.node o_52 (.node o_74 .nil .nil) (.node pB5 .nil .nil)) (.node o_60 (.node o_79 .nil .nil) .nil)) (.node o_43 (.node o_56 (.node o_75 .nil .nil) (.node o_92 .nil .nil)) (.node o_64 (.node (o_83 P) .nil .nil) .nil))) (.node (PySem.W.boot_o_5 P) (.node (PySem.W.boot_o_9 P) (.node (o_54 P) (.node o_70 .nil .nil) (.node o_90 .nil .nil)) (.node o_62 (.node o_81 .nil .nil) .nil)) (.node o_45 (.node o_58 (.node (o_77 P) .nil .nil) .nil) (.node o_66 (.node o_85 .nil .nil) .nil)))) (.node (o_49 P) (.node (PySem.W.boot_o_4 P) (.node (PySem.W.boot_o_8 P) (.node o_53 (.node o_69 .nil .nil) (.node o_89 .nil .nil)) (.node o_61 (.node o_80 .nil .nil) .nil)) (.node o_73 (.node o_57 (.node o_76 .nil .nil) .nil) (.node o_65 (.node o_84 .nil .nil) .nil))) (.node (PySem.W.boot_o_6 P) (.node (PySem.W.boot_o_10 P) (.node o_55 (.node o_71 .nil .nil) (.node o_91 .nil .nil)) (.node o_63 (.node o_82 .nil .nil) .nil)) (.node o_46 (.node o_59 (.node o_78 .nil .nil) .nil) (.node (o_67 P) (.node o_86 .nil .nil) .nil))))
noncomputable def pB6 : Obj := dicO (dsort.take 102) 102
noncomputable def tB6 (P : Params) : BT := .node (PySem.W.boot_o_0 P) (.node (PySem.W.boot_o_1 P) (.node (o_72 P) (.node (PySem.W.boot_o_7 P) (.node o_52 (.node o_74 .nil .nil) (.node pB6 .nil .nil)) (.node o_60 (.node o_79 .nil .nil) .nil)) (.node o_43 (.node o_56 (.node o_75 .nil .nil) (.node o_92 .nil .nil)) (.node o_64 (.node (o_83 P) .nil .nil) .nil))) (.node (PySem.W.boot_o_5 P) (.node (PySem.W.boot_o_9 P) (.node (o_54 P) (.node o_70 .nil .nil) (.node o_90 .nil .nil)) (.node o_62 (.node o_81 .nil .nil) .nil)) (.node o_45 (.node o_58 (.node (o_77 P) .nil .nil) .nil) (.node o_66 (.node o_85 .nil .nil) .nil)))) (.node (o_49 P) (.node (PySem.W.boot_o_4 P) (.node (PySem.W.boot_o_8 P) (.node o_53 (.node o_69 .nil .nil) (.node o_89 .nil .nil)) (.node o_61 (.node o_80 .nil .nil) .nil)) (.node o_73 (.node o_57 (.node o_76 .nil .nil) (.node o_93 .nil .nil)) (.node o_65 (.node o_84 .nil .nil) .nil))) (.node (PySem.W.boot_o_6 P) (.node (PySem.W.boot_o_10 P) (.node o_55 (.node o_71 .nil .nil) (.node o_91 .nil .nil)) (.node o_63 (.node o_82 .nil .nil) .nil)) (.node o_46 (.node o_59 (.node o_78 .nil .nil) .nil) (.node (o_67 P) (.node o_86 .nil .nil) .nil))))
noncomputable def pB7 : Obj := dicO (dsort.take 119) 119
noncomputable def tB7 (P : Params) : BT := .node (PySem.W.boot_o_0 P) (.node (PySem.W.boot_o_1 P) (.node (o_72 P) (.node (PySem.W.boot_o_7 P) (.node o_52 (.node o_74 .nil .nil) (.node pB7 .nil .nil)) (.node o_60 (.node o_79 .nil .nil) .nil)) (.node o_43 (.node o_56 (.node o_75 .nil .nil) (.node o_92 .nil .nil)) (.node o_64 (.node (o_83 P) .nil .nil) .nil))) (.node (PySem.W.boot_o_5 P) (.node (PySem.W.boot_o_9 P) (.node (o_54 P) (.node o_70 .nil .nil) (.node o_90 .nil .nil)) (.node o_62 (.node o_81 .nil .nil) .nil)) (.node o_45 (.node o_58 (.node (o_77 P) .nil .nil) (.node o_94 .nil .nil)) (.node o_66 (.node o_85 .nil .nil) .nil)))) (.node (o_49 P) (.node (PySem.W.boot_o_4 P) (.node (PySem.W.boot_o_8 P) (.node o_53 (.node o_69 .nil .nil) (.node o_89 .nil .nil)) (.node o_61 (.node o_80 .nil .nil) .nil)) (.node o_73 (.node o_57 (.node o_76 .nil .nil) (.node o_93 .nil .nil)) (.node o_65 (.node o_84 .nil .nil) .nil))) (.node (PySem.W.boot_o_6 P) (.node (PySem.W.boot_o_10 P) (.node o_55 (.node o_71 .nil .nil) (.node o_91 .nil .nil)) (.node o_63 (.node o_82 .nil .nil) .nil)) (.node o_46 (.node o_59 (.node o_78 .nil .nil) .nil) (.node (o_67 P) (.node o_86 .nil .nil) .nil))))
noncomputable def pB8 : Obj := dicO (dsort.take 126) 126
noncomputable def tB8 (P : Params) : BT := .node (PySem.W.boot_o_0 P) (.node (PySem.W.boot_o_1 P) (.node (o_72 P) (.node (PySem.W.boot_o_7 P) (.node o_52 (.node o_74 .nil .nil) (.node pB8 .nil .nil)) (.node o_60 (.node o_79 .nil .nil) .nil)) (.node o_43 (.node o_56 (.node o_75 .nil .nil) (.node o_92 .nil .nil)) (.node o_64 (.node (o_83 P) .nil .nil) .nil))) (.node (PySem.W.boot_o_5 P) (.node (PySem.W.boot_o_9 P) (.node (o_54 P) (.node o_70 .nil .nil) (.node o_90 .nil .nil)) (.node o_62 (.node o_81 .nil .nil) .nil)) (.node o_45 (.node o_58 (.node (o_77 P) .nil .nil) (.node o_94 .nil .nil)) (.node o_66 (.node o_85 .nil .nil) .nil)))) (.node (o_49 P) (.node (PySem.W.boot_o_4 P) (.node (PySem.W.boot_o_8 P) (.node o_53 (.node o_69 .nil .nil) (.node o_89 .nil .nil)) (.node o_61 (.node o_80 .nil .nil) .nil)) (.node o_73 (.node o_57 (.node o_76 .nil .nil) (.node o_93 .nil .nil)) (.node o_65 (.node o_84 .nil .nil) .nil))) (.node (PySem.W.boot_o_6 P) (.node (PySem.W.boot_o_10 P) (.node o_55 (.node o_71 .nil .nil) (.node o_91 .nil .nil)) (.node o_63 (.node o_82 .nil .nil) .nil)) (.node o_46 (.node o_59 (.node o_78 .nil .nil) (.node o_95 .nil .nil)) (.node (o_67 P) (.node o_86 .nil .nil) .nil))))
noncomputable def pC1 : Obj := dicO (dstack.take 17) 17
noncomputable def tC1 (P : Params) : BT := .node (PySem.W.boot_o_0 P) (.node (PySem.W.boot_o_1 P) (.node (o_87 P) (.node (PySem.W.boot_o_7 P) (.node o_52 (.node o_74 (.node o_117 .nil .nil) .nil) (.node o_88 .nil .nil)) (.node o_60 (.node o_79 (.node o_125 .nil .nil) .nil) (.node pC1 .nil .nil))) (.node o_43 (.node o_56 (.node o_75 (.node o_121 .nil .nil) .nil) (.node o_92 .nil .nil)) (.node o_64 (.node (o_83 P) .nil .nil) (.node o_113 .nil .nil)))) (.node (PySem.W.boot_o_5 P) (.node (PySem.W.boot_o_9 P) (.node (o_54 P) (.node o_70 (.node o_119 .nil .nil) .nil) (.node o_90 .nil .nil)) (.node o_62 (.node o_81 .nil .nil) (.node o_111 .nil .nil))) (.node o_45 (.node o_58 (.node (o_77 P) (.node o_123 .nil .nil) .nil) (.node o_94 .nil .nil)) (.node o_66 (.node o_85 .nil .nil) (.node o_115 .nil .nil))))) (.node (o_49 P) (.node (PySem.W.boot_o_4 P) (.node (PySem.W.boot_o_8 P) (.node o_53 (.node o_69 (.node o_118 .nil .nil) .nil) (.node o_89 .nil .nil)) (.node o_61 (.node o_80 (.node o_126 .nil .nil) .nil) (.node o_110 .nil .nil))) (.node o_73 (.node o_57 (.node o_76 (.node o_122 .nil .nil) .nil) (.node o_93 .nil .nil)) (.node o_65 (.node o_84 .nil .nil) (.node o_114 .nil .nil)))) (.node (PySem.W.boot_o_6 P) (.node (PySem.W.boot_o_10 P) (.node o_55 (.node o_71 (.node o_120 .nil .nil) .nil) (.node o_91 .nil .nil)) (.node o_63 (.node o_82 .nil .nil) (.node o_112 .nil .nil))) (.node o_46 (.node o_59 (.node o_78 (.node o_124 .nil .nil) .nil) (.node o_95 .nil .nil)) (.node (o_67 P) (.node o_86 .nil .nil) (.node o_116 .nil .nil)))))
noncomputable def pC2 : Obj := dicO (dstack.take 34) 34
noncomputable def tC2 (P : Params) : BT := .node (PySem.W.boot_o_0 P) (.node (PySem.W.boot_o_1 P) (.node (o_87 P) (.node (PySem.W.boot_o_7 P) (.node o_52 (.node o_74 (.node o_117 .nil .nil) .nil) (.node o_88 (.node o_133 .nil .nil) .nil)) (.node o_60 (.node o_79 (.node o_125 .nil .nil) .nil) (.node pC2 (.node o_141 .nil .nil) .nil))) (.node o_43 (.node o_56 (.node o_75 (.node o_121 .nil .nil) .nil) (.node o_92 (.node o_137 .nil .nil) .nil)) (.node o_64 (.node (o_83 P) (.node o_129 .nil .nil) .nil) (.node o_113 .nil .nil)))) (.node (PySem.W.boot_o_5 P) (.node (PySem.W.boot_o_9 P) (.node (o_54 P) (.node o_70 (.node o_119 .nil .nil) .nil) (.node o_90 (.node o_135 .nil .nil) .nil)) (.node o_62 (.node o_81 (.node o_127 .nil .nil) .nil) (.node o_111 (.node o_143 .nil .nil) .nil))) (.node o_45 (.node o_58 (.node (o_77 P) (.node o_123 .nil .nil) .nil) (.node o_94 (.node o_139 .nil .nil) .nil)) (.node o_66 (.node o_85 (.node o_131 .nil .nil) .nil) (.node o_115 .nil .nil))))) (.node (o_49 P) (.node (PySem.W.boot_o_4 P) (.node (PySem.W.boot_o_8 P) (.node o_53 (.node o_69 (.node o_118 .nil .nil) .nil) (.node o_89 (.node o_134 .nil .nil) .nil)) (.node o_61 (.node o_80 (.node o_126 .nil .nil) .nil) (.node o_110 (.node o_142 .nil .nil) .nil))) (.node o_73 (.node o_57 (.node o_76 (.node o_122 .nil .nil) .nil) (.node o_93 (.node o_138 .nil .nil) .nil)) (.node o_65 (.node o_84 (.node o_130 .nil .nil) .nil) (.node o_114 .nil .nil)))) (.node (PySem.W.boot_o_6 P) (.node (PySem.W.boot_o_10 P) (.node o_55 (.node o_71 (.node o_120 .nil .nil) .nil) (.node o_91 (.node o_136 .nil .nil) .nil)) (.node o_63 (.node o_82 (.node o_128 .nil .nil) .nil) (.node o_112 (.node o_144 .nil .nil) .nil))) (.node o_46 (.node o_59 (.node o_78 (.node o_124 .nil .nil) .nil) (.node o_95 (.node o_140 .nil .nil) .nil)) (.node (o_67 P) (.node o_86 (.node o_132 .nil .nil) .nil) (.node o_116 .nil .nil)))))
noncomputable def pC3 : Obj := dicO (dstack.take 51) 51
noncomputable def tC3 (P : Params) : BT := .node (PySem.W.boot_o_0 P) (.node (PySem.W.boot_o_1 P) (.node (o_87 P) (.node (PySem.W.boot_o_7 P) (.node o_52 (.node o_74 (.node o_117 .nil .nil) (.node o_149 .nil .nil)) (.node o_88 (.node o_133 .nil .nil) .nil)) (.node o_60 (.node o_79 (.node o_125 .nil .nil) (.node o_157 .nil .nil)) (.node pC3 (.node o_141 .nil .nil) .nil))) (.node o_43 (.node o_56 (.node o_75 (.node o_121 .nil .nil) (.node o_153 .nil .nil)) (.node o_92 (.node o_137 .nil .nil) .nil)) (.node o_64 (.node (o_83 P) (.node o_129 .nil .nil) (.node o_161 .nil .nil)) (.node o_113 (.node o_145 .nil .nil) .nil)))) (.node (PySem.W.boot_o_5 P) (.node (PySem.W.boot_o_9 P) (.node (o_54 P) (.node o_70 (.node o_119 .nil .nil) (.node o_151 .nil .nil)) (.node o_90 (.node o_135 .nil .nil) .nil)) (.node o_62 (.node o_81 (.node o_127 .nil .nil) (.node o_159 .nil .nil)) (.node o_111 (.node o_143 .nil .nil) .nil))) (.node o_45 (.node o_58 (.node (o_77 P) (.node o_123 .nil .nil) (.node o_155 .nil .nil)) (.node o_94 (.node o_139 .nil .nil) .nil)) (.node o_66 (.node o_85 (.node o_131 .nil .nil) .nil) (.node o_115 (.node o_147 .nil .nil) .nil))))) (.node (o_49 P) (.node (PySem.W.boot_o_4 P) (.node (PySem.W.boot_o_8 P) (.node o_53 (.node o_69 (.node o_118 .nil .nil) (.node o_150 .nil .nil)) (.node o_89 (.node o_134 .nil .nil) .nil)) (.node o_61 (.node o_80 (.node o_126 .nil .nil) (.node o_158 .nil .nil)) (.node o_110 (.node o_142 .nil .nil) .nil))) (.node o_73 (.node o_57 (.node o_76 (.node o_122 .nil .nil) (.node o_154 .nil .nil)) (.node o_93 (.node o_138 .nil .nil) .nil)) (.node o_65 (.node o_84 (.node o_130 .nil .nil) (.node o_162 .nil .nil)) (.node o_114 (.node o_146 .nil .nil) .nil)))) (.node (PySem.W.boot_o_6 P) (.node (PySem.W.boot_o_10 P) (.node o_55 (.node o_71 (.node o_120 .nil .nil) (.node o_152 .nil .nil)) (.node o_91 (.node o_136 .nil .nil) .nil)) (.node o_63 (.node o_82 (.node o_128 .nil .nil) (.node o_160 .nil .nil)) (.node o_112 (.node o_144 .nil .nil) .nil))) (.node o_46 (.node o_59 (.node o_78 (.node o_124 .nil .nil) (.node o_156 .nil .nil)) (.node o_95 (.node o_140 .nil .nil) .nil)) (.node (o_67 P) (.node o_86 (.node o_132 .nil .nil) .nil) (.node o_116 (.node o_148 .nil .nil) .nil)))))
noncomputable def pC4 : Obj := dicO (dstack.take 68) 68
noncomputable def tC4 (P : Params) : BT := .node (PySem.W.boot_o_0 P) (.node (PySem.W.boot_o_1 P) (.node (o_87 P) (.node (PySem.W.boot_o_7 P) (.node o_52 (.node o_74 (.node o_117 .nil .nil) (.node o_149 .nil .nil)) (.node o_88 (.node o_133 .nil .nil) (.node o_165 .nil .nil))) (.node o_60 (.node o_79 (.node o_125 .nil .nil) (.node o_157 .nil .nil)) (.node pC4 (.node o_141 .nil .nil) (.node o_173 .nil .nil)))) (.node o_43 (.node o_56 (.node o_75 (.node o_121 .nil .nil) (.node o_153 .nil .nil)) (.node o_92 (.node o_137 .nil .nil) (.node o_169 .nil .nil))) (.node o_64 (.node (o_83 P) (.node o_129 .nil .nil) (.node o_161 .nil .nil)) (.node o_113 (.node o_145 .nil .nil) (.node o_177 .nil .nil))))) (.node (PySem.W.boot_o_5 P) (.node (PySem.W.boot_o_9 P) (.node (o_54 P) (.node o_70 (.node o_119 .nil .nil) (.node o_151 .nil .nil)) (.node o_90 (.node o_135 .nil .nil) (.node o_167 .nil .nil))) (.node o_62 (.node o_81 (.node o_127 .nil .nil) (.node o_159 .nil .nil)) (.node o_111 (.node o_143 .nil .nil) (.node o_175 .nil .nil)))) (.node o_45 (.node o_58 (.node (o_77 P) (.node o_123 .nil .nil) (.node o_155 .nil .nil)) (.node o_94 (.node o_139 .nil .nil) (.node o_171 .nil .nil))) (.node o_66 (.node o_85 (.node o_131 .nil .nil) (.node o_163 .nil .nil)) (.node o_115 (.node o_147 .nil .nil) (.node o_179 .nil .nil)))))) (.node (o_49 P) (.node (PySem.W.boot_o_4 P) (.node (PySem.W.boot_o_8 P) (.node o_53 (.node o_69 (.node o_118 .nil .nil) (.node o_150 .nil .nil)) (.node o_89 (.node o_134 .nil .nil) (.node o_166 .nil .nil))) (.node o_61 (.node o_80 (.node o_126 .nil .nil) (.node o_158 .nil .nil)) (.node o_110 (.node o_142 .nil .nil) (.node o_174 .nil .nil)))) (.node o_73 (.node o_57 (.node o_76 (.node o_122 .nil .nil) (.node o_154 .nil .nil)) (.node o_93 (.node o_138 .nil .nil) (.node o_170 .nil .nil))) (.node o_65 (.node o_84 (.node o_130 .nil .nil) (.node o_162 .nil .nil)) (.node o_114 (.node o_146 .nil .nil) (.node o_178 .nil .nil))))) (.node (PySem.W.boot_o_6 P) (.node (PySem.W.boot_o_10 P) (.node o_55 (.node o_71 (.node o_120 .nil .nil) (.node o_152 .nil .nil)) (.node o_91 (.node o_136 .nil .nil) (.node o_168 .nil .nil))) (.node o_63 (.node o_82 (.node o_128 .nil .nil) (.node o_160 .nil .nil)) (.node o_112 (.node o_144 .nil .nil) (.node o_176 .nil .nil)))) (.node o_46 (.node o_59 (.node o_78 (.node o_124 .nil .nil) (.node o_156 .nil .nil)) (.node o_95 (.node o_140 .nil .nil) (.node o_172 .nil .nil))) (.node (o_67 P) (.node o_86 (.node o_132 .nil .nil) (.node o_164 .nil .nil)) (.node o_116 (.node o_148 .nil .nil) (.node o_180 .nil .nil))))))
noncomputable def pC5 : Obj := dicO (dstack.take 85) 85
noncomputable def tC5 (P : Params) : BT := .node (PySem.W.boot_o_0 P) (.node (PySem.W.boot_o_1 P) (.node (o_87 P) (.node (PySem.W.boot_o_7 P) (.node o_52 (.node o_74 (.node o_117 (.node o_181 .nil .nil) .nil) (.node o_149 .nil .nil)) (.node o_88 (.node o_133 (.node o_197 .nil .nil) .nil) (.node o_165 .nil .nil))) (.node o_60 (.node o_79 (.node o_125 (.node o_189 .nil .nil) .nil) (.node o_157 .nil .nil)) (.node pC5 (.node o_141 .nil .nil) (.node o_173 .nil .nil)))) (.node o_43 (.node o_56 (.node o_75 (.node o_121 (.node o_185 .nil .nil) .nil) (.node o_153 .nil .nil)) (.node o_92 (.node o_137 .nil .nil) (.node o_169 .nil .nil))) (.node o_64 (.node (o_83 P) (.node o_129 (.node o_193 .nil .nil) .nil) (.node o_161 .nil .nil)) (.node o_113 (.node o_145 .nil .nil) (.node o_177 .nil .nil))))) (.node (PySem.W.boot_o_5 P) (.node (PySem.W.boot_o_9 P) (.node (o_54 P) (.node o_70 (.node o_119 (.node o_183 .nil .nil) .nil) (.node o_151 .nil .nil)) (.node o_90 (.node o_135 .nil .nil) (.node o_167 .nil .nil))) (.node o_62 (.node o_81 (.node o_127 (.node o_191 .nil .nil) .nil) (.node o_159 .nil .nil)) (.node o_111 (.node o_143 .nil .nil) (.node o_175 .nil .nil)))) (.node o_45 (.node o_58 (.node (o_77 P) (.node o_123 (.node o_187 .nil .nil) .nil) (.node o_155 .nil .nil)) (.node o_94 (.node o_139 .nil .nil) (.node o_171 .nil .nil))) (.node o_66 (.node o_85 (.node o_131 (.node o_195 .nil .nil) .nil) (.node o_163 .nil .nil)) (.node o_115 (.node o_147 .nil .nil) (.node o_179 .nil .nil)))))) (.node (o_49 P) (.node (PySem.W.boot_o_4 P) (.node (PySem.W.boot_o_8 P) (.node o_53 (.node o_69 (.node o_118 (.node o_182 .nil .nil) .nil) (.node o_150 .nil .nil)) (.node o_89 (.node o_134 (.node o_198 .nil .nil) .nil) (.node o_166 .nil .nil))) (.node o_61 (.node o_80 (.node o_126 (.node o_190 .nil .nil) .nil) (.node o_158 .nil .nil)) (.node o_110 (.node o_142 .nil .nil) (.node o_174 .nil .nil)))) (.node o_73 (.node o_57 (.node o_76 (.node o_122 (.node o_186 .nil .nil) .nil) (.node o_154 .nil .nil)) (.node o_93 (.node o_138 .nil .nil) (.node o_170 .nil .nil))) (.node o_65 (.node o_84 (.node o_130 (.node o_194 .nil .nil) .nil) (.node o_162 .nil .nil)) (.node o_114 (.node o_146 .nil .nil) (.node o_178 .nil .nil))))) (.node (PySem.W.boot_o_6 P) (.node (PySem.W.boot_o_10 P) (.node o_55 (.node o_71 (.node o_120 (.node o_184 .nil .nil) .nil) (.node o_152 .nil .nil)) (.node o_91 (.node o_136 .nil .nil) (.node o_168 .nil .nil))) (.node o_63 (.node o_82 (.node o_128 (.node o_192 .nil .nil) .nil) (.node o_160 .nil .nil)) (.node o_112 (.node o_144 .nil .nil) (.node o_176 .nil .nil)))) (.node o_46 (.node o_59 (.node o_78 (.node o_124 (.node o_188 .nil .nil) .nil) (.node o_156 .nil .nil)) (.node o_95 (.node o_140 .nil .nil) (.node o_172 .nil .nil))) (.node (o_67 P) (.node o_86 (.node o_132 (.node o_196 .nil .nil) .nil) (.node o_164 .nil .nil)) (.node o_116 (.node o_148 .nil .nil) (.node o_180 .nil .nil))))))
noncomputable def pC6 : Obj := dicO (dstack.take 102) 102
noncomputable def tC6 (P : Params) : BT := .node (PySem.W.boot_o_0 P) (.node (PySem.W.boot_o_1 P) (.node (o_87 P) (.node (PySem.W.boot_o_7 P) (.node o_52 (.node o_74 (.node o_117 (.node o_181 .nil .nil) .nil) (.node o_149 (.node o_213 .nil .nil) .nil)) (.node o_88 (.node o_133 (.node o_197 .nil .nil) .nil) (.node o_165 .nil .nil))) (.node o_60 (.node o_79 (.node o_125 (.node o_189 .nil .nil) .nil) (.node o_157 .nil .nil)) (.node pC6 (.node o_141 (.node o_205 .nil .nil) .nil) (.node o_173 .nil .nil)))) (.node o_43 (.node o_56 (.node o_75 (.node o_121 (.node o_185 .nil .nil) .nil) (.node o_153 .nil .nil)) (.node o_92 (.node o_137 (.node o_201 .nil .nil) .nil) (.node o_169 .nil .nil))) (.node o_64 (.node (o_83 P) (.node o_129 (.node o_193 .nil .nil) .nil) (.node o_161 .nil .nil)) (.node o_113 (.node o_145 (.node o_209 .nil .nil) .nil) (.node o_177 .nil .nil))))) (.node (PySem.W.boot_o_5 P) (.node (PySem.W.boot_o_9 P) (.node (o_54 P) (.node o_70 (.node o_119 (.node o_183 .nil .nil) .nil) (.node o_151 (.node o_215 .nil .nil) .nil)) (.node o_90 (.node o_135 (.node o_199 .nil .nil) .nil) (.node o_167 .nil .nil))) (.node o_62 (.node o_81 (.node o_127 (.node o_191 .nil .nil) .nil) (.node o_159 .nil .nil)) (.node o_111 (.node o_143 (.node o_207 .nil .nil) .nil) (.node o_175 .nil .nil)))) (.node o_45 (.node o_58 (.node (o_77 P) (.node o_123 (.node o_187 .nil .nil) .nil) (.node o_155 .nil .nil)) (.node o_94 (.node o_139 (.node o_203 .nil .nil) .nil) (.node o_171 .nil .nil))) (.node o_66 (.node o_85 (.node o_131 (.node o_195 .nil .nil) .nil) (.node o_163 .nil .nil)) (.node o_115 (.node o_147 (.node o_211 .nil .nil) .nil) (.node o_179 .nil .nil)))))) (.node (o_49 P) (.node (PySem.W.boot_o_4 P) (.node (PySem.W.boot_o_8 P) (.node o_53 (.node o_69 (.node o_118 (.node o_182 .nil .nil) .nil) (.node o_150 (.node o_214 .nil .nil) .nil)) (.node o_89 (.node o_134 (.node o_198 .nil .nil) .nil) (.node o_166 .nil .nil))) (.node o_61 (.node o_80 (.node o_126 (.node o_190 .nil .nil) .nil) (.node o_158 .nil .nil)) (.node o_110 (.node o_142 (.node o_206 .nil .nil) .nil) (.node o_174 .nil .nil)))) (.node o_73 (.node o_57 (.node o_76 (.node o_122 (.node o_186 .nil .nil) .nil) (.node o_154 .nil .nil)) (.node o_93 (.node o_138 (.node o_202 .nil .nil) .nil) (.node o_170 .nil .nil))) (.node o_65 (.node o_84 (.node o_130 (.node o_194 .nil .nil) .nil) (.node o_162 .nil .nil)) (.node o_114 (.node o_146 (.node o_210 .nil .nil) .nil) (.node o_178 .nil .nil))))) (.node (PySem.W.boot_o_6 P) (.node (PySem.W.boot_o_10 P) (.node o_55 (.node o_71 (.node o_120 (.node o_184 .nil .nil) .nil) (.node o_152 (.node o_216 .nil .nil) .nil)) (.node o_91 (.node o_136 (.node o_200 .nil .nil) .nil) (.node o_168 .nil .nil))) (.node o_63 (.node o_82 (.node o_128 (.node o_192 .nil .nil) .nil) (.node o_160 .nil .nil)) (.node o_112 (.node o_144 (.node o_208 .nil .nil) .nil) (.node o_176 .nil .nil)))) (.node o_46 (.node o_59 (.node o_78 (.node o_124 (.node o_188 .nil .nil) .nil) (.node o_156 .nil .nil)) (.node o_95 (.node o_140 (.node o_204 .nil .nil) .nil) (.node o_172 .nil .nil))) (.node (o_67 P) (.node o_86 (.node o_132 (.node o_196 .nil .nil) .nil) (.node o_164 .nil .nil)) (.node o_116 (.node o_148 (.node o_212 .nil .nil) .nil) (.node o_180 .nil .nil))))))
noncomputable def pC7 : Obj := dicO (dstack.take 119) 119
noncomputable def tC7 (P : Params) : BT := .node (PySem.W.boot_o_0 P) (.node (PySem.W.boot_o_1 P) (.node (o_87 P) (.node (PySem.W.boot_o_7 P) (.node o_52 (.node o_74 (.node o_117 (.node o_181 .nil .nil) .nil) (.node o_149 (.node o_213 .nil .nil) .nil)) (.node o_88 (.node o_133 (.node o_197 .nil .nil) .nil) (.node o_165 (.node o_229 .nil .nil) .nil))) (.node o_60 (.node o_79 (.node o_125 (.node o_189 .nil .nil) .nil) (.node o_157 (.node o_221 .nil .nil) .nil)) (.node pC7 (.node o_141 (.node o_205 .nil .nil) .nil) (.node o_173 .nil .nil)))) (.node o_43 (.node o_56 (.node o_75 (.node o_121 (.node o_185 .nil .nil) .nil) (.node o_153 (.node o_217 .nil .nil) .nil)) (.node o_92 (.node o_137 (.node o_201 .nil .nil) .nil) (.node o_169 (.node o_233 .nil .nil) .nil))) (.node o_64 (.node (o_83 P) (.node o_129 (.node o_193 .nil .nil) .nil) (.node o_161 (.node o_225 .nil .nil) .nil)) (.node o_113 (.node o_145 (.node o_209 .nil .nil) .nil) (.node o_177 .nil .nil))))) (.node (PySem.W.boot_o_5 P) (.node (PySem.W.boot_o_9 P) (.node (o_54 P) (.node o_70 (.node o_119 (.node o_183 .nil .nil) .nil) (.node o_151 (.node o_215 .nil .nil) .nil)) (.node o_90 (.node o_135 (.node o_199 .nil .nil) .nil) (.node o_167 (.node o_231 .nil .nil) .nil))) (.node o_62 (.node o_81 (.node o_127 (.node o_191 .nil .nil) .nil) (.node o_159 (.node o_223 .nil .nil) .nil)) (.node o_111 (.node o_143 (.node o_207 .nil .nil) .nil) (.node o_175 .nil .nil)))) (.node o_45 (.node o_58 (.node (o_77 P) (.node o_123 (.node o_187 .nil .nil) .nil) (.node o_155 (.node o_219 .nil .nil) .nil)) (.node o_94 (.node o_139 (.node o_203 .nil .nil) .nil) (.node o_171 .nil .nil))) (.node o_66 (.node o_85 (.node o_131 (.node o_195 .nil .nil) .nil) (.node o_163 (.node o_227 .nil .nil) .nil)) (.node o_115 (.node o_147 (.node o_211 .nil .nil) .nil) (.node o_179 .nil .nil)))))) (.node (o_49 P) (.node (PySem.W.boot_o_4 P) (.node (PySem.W.boot_o_8 P) (.node o_53 (.node o_69 (.node o_118 (.node o_182 .nil .nil) .nil) (.node o_150 (.node o_214 .nil .nil) .nil)) (.node o_89 (.node o_134 (.node o_198 .nil .nil) .nil) (.node o_166 (.node o_230 .nil .nil) .nil))) (.node o_61 (.node o_80 (.node o_126 (.node o_190 .nil .nil) .nil) (.node o_158 (.node o_222 .nil .nil) .nil)) (.node o_110 (.node o_142 (.node o_206 .nil .nil) .nil) (.node o_174 .nil .nil)))) (.node o_73 (.node o_57 (.node o_76 (.node o_122 (.node o_186 .nil .nil) .nil) (.node o_154 (.node o_218 .nil .nil) .nil)) (.node o_93 (.node o_138 (.node o_202 .nil .nil) .nil) (.node o_170 (.node o_234 .nil .nil) .nil))) (.node o_65 (.node o_84 (.node o_130 (.node o_194 .nil .nil) .nil) (.node o_162 (.node o_226 .nil .nil) .nil)) (.node o_114 (.node o_146 (.node o_210 .nil .nil) .nil) (.node o_178 .nil .nil))))) (.node (PySem.W.boot_o_6 P) (.node (PySem.W.boot_o_10 P) (.node o_55 (.node o_71 (.node o_120 (.node o_184 .nil .nil) .nil) (.node o_152 (.node o_216 .nil .nil) .nil)) (.node o_91 (.node o_136 (.node o_200 .nil .nil) .nil) (.node o_168 (.node o_232 .nil .nil) .nil))) (.node o_63 (.node o_82 (.node o_128 (.node o_192 .nil .nil) .nil) (.node o_160 (.node o_224 .nil .nil) .nil)) (.node o_112 (.node o_144 (.node o_208 .nil .nil) .nil) (.node o_176 .nil .nil)))) (.node o_46 (.node o_59 (.node o_78 (.node o_124 (.node o_188 .nil .nil) .nil) (.node o_156 (.node o_220 .nil .nil) .nil)) (.node o_95 (.node o_140 (.node o_204 .nil .nil) .nil) (.node o_172 .nil .nil))) (.node (o_67 P) (.node o_86 (.node o_132 (.node o_196 .nil .nil) .nil) (.node o_164 (.node o_228 .nil .nil) .nil)) (.node o_116 (.node o_148 (.node o_212 .nil .nil) .nil) (.node o_180 .nil .nil))))))
noncomputable def pC8 : Obj := dicO (dstack.take 122) 122
noncomputable def tC8 (P : Params) : BT := .node (PySem.W.boot_o_0 P) (.node (PySem.W.boot_o_1 P) (.node (o_87 P) (.node (PySem.W.boot_o_7 P) (.node o_52 (.node o_74 (.node o_117 (.node o_181 .nil .nil) .nil) (.node o_149 (.node o_213 .nil .nil) .nil)) (.node o_88 (.node o_133 (.node o_197 .nil .nil) .nil) (.node o_165 (.node o_229 .nil .nil) .nil))) (.node o_60 (.node o_79 (.node o_125 (.node o_189 .nil .nil) .nil) (.node o_157 (.node o_221 .nil .nil) .nil)) (.node pC8 (.node o_141 (.node o_205 .nil .nil) .nil) (.node o_173 (.node o_237 .nil .nil) .nil)))) (.node o_43 (.node o_56 (.node o_75 (.node o_121 (.node o_185 .nil .nil) .nil) (.node o_153 (.node o_217 .nil .nil) .nil)) (.node o_92 (.node o_137 (.node o_201 .nil .nil) .nil) (.node o_169 (.node o_233 .nil .nil) .nil))) (.node o_64 (.node (o_83 P) (.node o_129 (.node o_193 .nil .nil) .nil) (.node o_161 (.node o_225 .nil .nil) .nil)) (.node o_113 (.node o_145 (.node o_209 .nil .nil) .nil) (.node o_177 .nil .nil))))) (.node (PySem.W.boot_o_5 P) (.node (PySem.W.boot_o_9 P) (.node (o_54 P) (.node o_70 (.node o_119 (.node o_183 .nil .nil) .nil) (.node o_151 (.node o_215 .nil .nil) .nil)) (.node o_90 (.node o_135 (.node o_199 .nil .nil) .nil) (.node o_167 (.node o_231 .nil .nil) .nil))) (.node o_62 (.node o_81 (.node o_127 (.node o_191 .nil .nil) .nil) (.node o_159 (.node o_223 .nil .nil) .nil)) (.node o_111 (.node o_143 (.node o_207 .nil .nil) .nil) (.node o_175 .nil .nil)))) (.node o_45 (.node o_58 (.node (o_77 P) (.node o_123 (.node o_187 .nil .nil) .nil) (.node o_155 (.node o_219 .nil .nil) .nil)) (.node o_94 (.node o_139 (.node o_203 .nil .nil) .nil) (.node o_171 (.node o_235 .nil .nil) .nil))) (.node o_66 (.node o_85 (.node o_131 (.node o_195 .nil .nil) .nil) (.node o_163 (.node o_227 .nil .nil) .nil)) (.node o_115 (.node o_147 (.node o_211 .nil .nil) .nil) (.node o_179 .nil .nil)))))) (.node (o_49 P) (.node (PySem.W.boot_o_4 P) (.node (PySem.W.boot_o_8 P) (.node o_53 (.node o_69 (.node o_118 (.node o_182 .nil .nil) .nil) (.node o_150 (.node o_214 .nil .nil) .nil)) (.node o_89 (.node o_134 (.node o_198 .nil .nil) .nil) (.node o_166 (.node o_230 .nil .nil) .nil))) (.node o_61 (.node o_80 (.node o_126 (.node o_190 .nil .nil) .nil) (.node o_158 (.node o_222 .nil .nil) .nil)) (.node o_110 (.node o_142 (.node o_206 .nil .nil) .nil) (.node o_174 (.node o_238 .nil .nil) .nil)))) (.node o_73 (.node o_57 (.node o_76 (.node o_122 (.node o_186 .nil .nil) .nil) (.node o_154 (.node o_218 .nil .nil) .nil)) (.node o_93 (.node o_138 (.node o_202 .nil .nil) .nil) (.node o_170 (.node o_234 .nil .nil) .nil))) (.node o_65 (.node o_84 (.node o_130 (.node o_194 .nil .nil) .nil) (.node o_162 (.node o_226 .nil .nil) .nil)) (.node o_114 (.node o_146 (.node o_210 .nil .nil) .nil) (.node o_178 .nil .nil))))) (.node (PySem.W.boot_o_6 P) (.node (PySem.W.boot_o_10 P) (.node o_55 (.node o_71 (.node o_120 (.node o_184 .nil .nil) .nil) (.node o_152 (.node o_216 .nil .nil) .nil)) (.node o_91 (.node o_136 (.node o_200 .nil .nil) .nil) (.node o_168 (.node o_232 .nil .nil) .nil))) (.node o_63 (.node o_82 (.node o_128 (.node o_192 .nil .nil) .nil) (.node o_160 (.node o_224 .nil .nil) .nil)) (.node o_112 (.node o_144 (.node o_208 .nil .nil) .nil) (.node o_176 .nil .nil)))) (.node o_46 (.node o_59 (.node o_78 (.node o_124 (.node o_188 .nil .nil) .nil) (.node o_156 (.node o_220 .nil .nil) .nil)) (.node o_95 (.node o_140 (.node o_204 .nil .nil) .nil) (.node o_172 (.node o_236 .nil .nil) .nil))) (.node (o_67 P) (.node o_86 (.node o_132 (.node o_196 .nil .nil) .nil) (.node o_164 (.node o_228 .nil .nil) .nil)) (.node o_116 (.node o_148 (.node o_212 .nil .nil) .nil) (.node o_180 .nil .nil))))))
end Mine
end
section
set_option tactic.hygienic false
set_option maxRecDepth 100000
open PySem PySem.W PyProof.Rows PySem.Calls
namespace Mine
/-! the run of the start-up, in six pieces -/
noncomputable def envA : Env := { scope := pz.main.scope, locals := mainNs, globals := mainNs, cells := [], code := .ref 13, frame := some 14 }
noncomputable abbrev bA : List Stmt := behindTheImports pz
noncomputable abbrev cA : Code := .body bA envA
noncomputable abbrev q0 : Pos := ⟨0, 0, 0, 0⟩
noncomputable abbrev framesA : List Frame := [topFrame q0]
noncomputable def stsA : List Stmt := bA.take 32
noncomputable def stsB : List Stmt := [nth bA 32]
noncomputable def stsC : List Stmt := [nth bA 33]
noncomputable def stsD : List Stmt := bA.drop 34
theorem sts_all : bA = stsA ++ (stsB ++ (stsC ++ (stsD ++ []))) := by kernel_rfl
noncomputable def sT (t : Params → BT) (n k : Nat) (w : World) (os : OsState) : SharedT := ⟨t w.params, n, {}, #[], {}, k, os⟩
noncomputable def annA : Option Value := some (.ref 6)
noncomputable def sBoot (w : World) (os : OsState) : Shared := ⟨boot_heap w.params, #[], boot_drawn, boot_toks, os⟩
noncomputable def sPre (w : World) (os : OsState) : Shared := ⟨heapA w.params, #[], {}, 187, os⟩

theorem z_pre (w : World) : (fun os => topGo treeTable pz w 11 annA 12 (sBoot w os) (topStub pz)) = fun os => some (sPre w os, ⟨denote treeTable cA, cA, q0, framesA⟩) := by
  rw [PySem.W.Fast.te15667345088766844465, PySem.W.Fast.te14364793385576792824, PySem.W.Fast.te11892475500146522536]
  kernel_rfl
theorem z_block (w : World) : (fun os => segRun treeTable pz w 11 annA 1 1 (sPre w os) (blockOf bA envA cA q0 framesA)) = fun os => some (.next, (sT tree_47 15 187 w os).abs, cA, q0) := by
  rw [PySem.W.Fast.te14374325043358763698, PySem.W.Fast.te14364793385576792824]
  kernel_rfl
theorem z_A (w : World) : (fun os => segRunT treeTable pz w 11 annA 1 800 (sT tree_47 15 187 w os) (piecesOf stsA envA cA q0 framesA)) = fun os => some (.next, sT tree_86 47 294 w os, cA, ⟨37, 0, 37, 8⟩) := by
  rw [PySem.W.Fast.te10110043849684766642, PySem.W.Fast.te14364793385576792824]
  kernel_rfl
theorem z_fin (w : World) : (fun os => topRun treeTable pz w 11 annA 2 (sT tree_581 428 1515 w os).abs ⟨doneF .next, cA, ⟨293, 0, 307, 22⟩, framesA⟩) = fun os => some (sT tree_581 428 1515 w os).abs := by
  rw [PySem.W.Fast.te14082659384304107361, PySem.W.Fast.te14364793385576792824]
  kernel_rfl
end Mine
end
section
set_option tactic.hygienic false
set_option maxRecDepth 100000
open PySem PySem.W PyProof.Rows PySem.Calls
namespace Mine
/-! a long dict display, flush by flush -/
noncomputable abbrev Pairs := List (Sem Value × Sem Value)
noncomputable def fl (main : Option Addr) (run : Pairs) : Sem (Option Addr) := match main with
  | none => do return some (← subDict run)
  | some d => do
    let sub ← holding [.ref d] (subDict run)
    (holding [.ref d, .ref sub] (mergeMapping d (.ref sub) false)).onRaise fun x => do let _ ← holding [.ref d, x] (runValue (.builtin "proto.let_go" {}))
    return some d
noncomputable def disp : List Pairs → Option Addr → Sem Value
  | [], main => match main with
    | some d => pure (.ref d)
    | none => newDict
  | c :: cs, main => do disp cs (← fl main c)
noncomputable def full (c : Pairs) : List (Option (Sem Value) × Sem Value) := c.map fun p => (some p.1, p.2)

theorem sem_assoc {α β γ : Type} (m : Sem α) (f : α → Sem β) (g : β → Sem γ) : (m.bind f).bind g = m.bind fun a => (f a).bind g := by
  rw [Sem.bind_eq_wrap (m.bind f), Sem.bind_eq_wrap m f, Sem.wrap_wrap, Sem.bind_eq_wrap m]
  exact Sem.wrap_congr _ _ _ (fun a => (Sem.bind_eq_wrap _ _).symm) fun _ => rfl
section
variable {σ : Type} {body : (Option (Sem Value) × Sem Value) → σ → Sem (ForInStep σ)} {mk : Option Addr → Pairs → σ}
variable (hb : ∀ k v main run, body (some k, v) (mk main run) = if (run ++ [(k, v)]).length == 17 then fl main (run ++ [(k, v)]) >>= fun m => pure (ForInStep.yield (mk m [])) else pure (ForInStep.yield (mk main (run ++ [(k, v)]))))
include hb
theorem loop_lt {rest : List (Option (Sem Value) × Sem Value)} {main : Option Addr} : ∀ (c run : Pairs), run.length + c.length < 17 → forIn (full c ++ rest) (mk main run) body = forIn rest (mk main (run ++ c)) body
  | [], run, _ => by simp [full]
  | (k, v) :: c, run, h => by
    have h' : (run ++ [(k, v)]).length + c.length < 17 := by simp at h ⊢; (first | lia | omega)
    have hl : ((run ++ [(k, v)]).length == 17) = false := by simp at h ⊢; (first | lia | omega)
    show forIn ((some k, v) :: (full c ++ rest)) (mk main run) body = _
    rw [List.forIn_cons, hb, hl]
    refine Eq.trans (b := forIn (full c ++ rest) (mk main (run ++ [(k, v)])) body) rfl ?_
    rw [loop_lt c (run ++ [(k, v)]) h', List.append_assoc]
    rfl
theorem loop_17 {rest : List (Option (Sem Value) × Sem Value)} {main : Option Addr} {c : Pairs} (h : c.length = 17) : forIn (full c ++ rest) (mk main []) body = (fl main c).bind fun m => forIn rest (mk m []) body := by
  rcases List.eq_nil_or_concat c with rfl | ⟨c', ⟨k, v⟩, rfl⟩
  · simp at h
  have e : full (c' ++ [(k, v)]) ++ rest = full c' ++ ((some k, v) :: rest) := by simp [full]
  have h16 : c'.length = 16 := by simp at h; (first | lia | omega)
  rw [List.concat_eq_append] at h ⊢
  rw [e, loop_lt hb c' [] (by simp; (first | lia | omega)), List.nil_append, List.forIn_cons, hb, if_pos (by simpa using h)]
  exact sem_assoc _ _ _
theorem loop_all {last : Pairs} {fin : σ → Sem Value} (hl : last.length < 17) (hf : ∀ main, fin (mk main last) = disp [last] main) : ∀ (cs : List Pairs) (main : Option Addr), (∀ c ∈ cs, c.length = 17) → (forIn (full (cs.flatten ++ last)) (mk main []) body).bind fin = disp (cs ++ [last]) main
  | [], main, _ => by
    have := loop_lt hb (rest := []) (main := main) last [] (by simpa using hl)
    rw [List.append_nil] at this
    show (forIn (full last) (mk main []) body).bind fin = _
    rw [this, List.nil_append, List.forIn_nil]
    exact hf main
  | c :: cs, main, h => by
    have e : full ((c :: cs).flatten ++ last) = full c ++ full (cs.flatten ++ last) := by simp [full]
    rw [e, loop_17 hb (h c (.head _)), sem_assoc]
    exact congrArg ((fl main c).bind ·) (funext fun m => loop_all hl hf cs m fun c' q => h c' (.tail _ q))
end
theorem dictDisplay_disp {cs : List Pairs} {last : Pairs} (h : ∀ c ∈ cs, c.length = 17) (h0 : 0 < last.length) (hl : last.length < 17) : dictDisplay (full (cs.flatten ++ last)) = disp (cs ++ [last]) none := by
  unfold dictDisplay
  dsimp only
  refine loop_all (σ := Option Addr × Pairs) (mk := Prod.mk) (fun k v main run => ?_) hl (fun main => ?_) cs none h
  · have ne : (run ++ [(k, v)]).isEmpty = false := by simp
    dsimp only
    rw [ne]
    cases main <;> rfl
  · have ne : last.isEmpty = false := by cases last <;> simp_all
    dsimp only
    rw [ne]
    cases main <;> rfl
end Mine
end
section
set_option tactic.hygienic false
set_option maxRecDepth 100000
open PySem PySem.W PyProof.Rows PySem.Calls
namespace Mine
section
variable {t : PySem.Expr} {ks : List (Option PySem.Expr)} {vs : List PySem.Expr} {p q : Pos} {env : Env}
noncomputable def asgD (t : PySem.Expr) (ks : List (Option PySem.Expr)) (vs : List PySem.Expr) (p : Pos) (env : Env) (v : Value) : Sem Flow := do
  assignStores env v (← swappedStores [t] (.Dict ks vs p) env) ((assignEach [t] env).map (·.2))
noncomputable def itemsD (ks : List (Option PySem.Expr)) (vs : List PySem.Expr) (p : Pos) (env : Env) : List (Option (Sem Value) × Sem Value) :=
  (evalEachOpt ks env).zip ((evalEach vs env).map fun v => do let x ← v; standAt p; pure x)
end
noncomputable def encA : Option Addr → Value
  | some d => .ref d
  | none => .none
section
variable {w : World} {s s' r : Shared} {n N : Nat} {c c' : Code} {pos p' : Pos}
theorem wrap_step {α : Type} (res : α → Flow) {a0 : α} {f : Flow} {x : Sem α} {K : α → Sem Fin} {H : Value → Sem Fin} (inj : ∀ a, res a = f → a = a0)
    (h : segRun treeTable pz w 11 annA 1 n s ⟨x.wrap (fun a => .pure (.done (res a))) deadEnd id id, c, pos, framesA⟩ = some (f, s', c', p')) (k : topRun treeTable pz w 11 annA N s' ⟨K a0, c', p', framesA⟩ = some r) :
    topRun treeTable pz w 11 annA (n + N) s ⟨x.wrap K H id id, c, pos, framesA⟩ = some r := by
  obtain ⟨a, ha, hN⟩ := seg_top (res := res) (K' := K) (H' := H) (B := framesA) rfl n s ⟨x.wrap (fun a => .pure (.done (res a))) deadEnd id id, c, pos, framesA⟩ ⟨x.wrap K H id id, c, pos, framesA⟩ _ _ _ _ ⟨rfl, rfl, .inl ⟨rfl, rfl, _, rfl, rfl⟩⟩ h
  obtain rfl := inj a ha
  exact hN N r k
theorem wrap_bind {α β : Type} (x : Sem α) (f : α → Sem β) (K : β → Sem Fin) (H : Value → Sem Fin) : (x.bind f).wrap K H id id = x.wrap (fun a => (f a).wrap K H id id) H id id := by
  rw [Sem.bind_eq_wrap, Sem.wrap_wrap]
  rfl
theorem enc_inj (d : Addr) : ∀ a : Option Addr, Flow.ret (encA a) = .ret (.ref d) → a = some d := by
  intro a h
  cases a <;> simp_all [encA]
noncomputable abbrev encK : Option Addr → Sem Fin := fun m => .pure (.done (.ret (encA m)))
theorem flush_step {main : Option Addr} {d : Addr} {l : Pairs} {cs : List Pairs} {G : Value → Sem Flow} {K : Flow → Sem Fin} {H : Value → Sem Fin} (h : segRun treeTable pz w 11 annA 1 n s ⟨(fl main l).wrap encK deadEnd id id, c, pos, framesA⟩ = some (.ret (.ref d), s', c', p'))
    (k : topRun treeTable pz w 11 annA N s' ⟨((disp cs (some d)).bind G).wrap K H id id, c', p', framesA⟩ = some r) : topRun treeTable pz w 11 annA (n + N) s ⟨((disp (l :: cs) main).bind G).wrap K H id id, c, pos, framesA⟩ = some r := by
  have e : (disp (l :: cs) main).bind G = (fl main l).bind fun m => (disp cs m).bind G := sem_assoc _ _ _
  rw [e, wrap_bind]
  exact wrap_step (fun m => .ret (encA m)) (enc_inj d) h k
/-- the statement's start, and its first flush -/
noncomputable def fl0 (q p : Pos) (l : Pairs) : Sem (Option Addr) := (standAt q).bind fun _ => (standAt p).bind fun _ => fl none l
theorem first_step {st : Stmt} {its : List (Option (Sem Value) × Sem Value)} {G : Value → Sem Flow} {p q : Pos} {d : Addr} {l last : Pairs} {cs : List Pairs} {rest : List Stmt} (he : exec st envA = (standAt q).bind fun _ => (standAt p).bind fun _ => (dictDisplay its).bind G)
    (hi : its = full ((l :: cs).flatten ++ last)) (h17 : ∀ x ∈ l :: cs, x.length = 17) (h0 : 0 < last.length) (hl : last.length < 17)
    (h : segRun treeTable pz w 11 annA 1 n s ⟨(fl0 q p l).wrap encK deadEnd id id, c, pos, framesA⟩ = some (.ret (.ref d), s', c', p'))
    (k : topRun treeTable pz w 11 annA N s' ⟨((disp (cs ++ [last]) (some d)).bind G).wrap (fun f => match f with | .next => (execs rest envA).wrap doneF (leaveH envA) id id | f => doneF f) (leaveH envA) id id, c', p', framesA⟩ = some r) :
    topRun treeTable pz w 11 annA (n + N) s (restOf (st :: rest) envA c pos framesA) = some r := by
  have e : exec st envA = (fl0 q p l).bind fun m => (disp (cs ++ [last]) m).bind G := by
    rw [he, hi, dictDisplay_disp h17 h0 hl]
    unfold fl0
    rw [sem_assoc]
    refine congrArg ((standAt q).bind ·) (funext fun _ => ?_)
    rw [sem_assoc]
    refine congrArg ((standAt p).bind ·) (funext fun _ => ?_)
    exact sem_assoc _ _ _
  unfold restOf
  rw [execs_cons_wrap, e, wrap_bind]
  exact wrap_step (fun m => .ret (encA m)) (enc_inj d) h k
theorem last_step {d : Addr} {G : Value → Sem Flow} {rest : List Stmt} (h : segRun treeTable pz w 11 annA 1 n s ⟨(G (.ref d)).wrap doneF deadEnd id id, c, pos, framesA⟩ = some (.next, s', c', p'))
    (k : topRun treeTable pz w 11 annA N s' (restOf rest envA c' p' framesA) = some r) :
    topRun treeTable pz w 11 annA (n + N) s ⟨((disp [] (some d)).bind G).wrap (fun f => match f with | .next => (execs rest envA).wrap doneF (leaveH envA) id id | f => doneF f) (leaveH envA) id id, c, pos, framesA⟩ = some r :=
  wrap_step id (x := G (.ref d)) (fun _ h => h) h k
end
end Mine
end
section
set_option tactic.hygienic false
set_option maxRecDepth 100000
open PySem PySem.W PyProof.Rows PySem.Calls
namespace Mine
noncomputable def asT : Stmt → PySem.Expr
  | .Assign [t] _ _ => t
  | _ => .Constant .none 0 ⟨0, 0, 0, 0⟩
noncomputable def asKs : Stmt → List (Option PySem.Expr)
  | .Assign _ (.Dict ks _ _) _ => ks
  | _ => []
noncomputable def asVs : Stmt → List PySem.Expr
  | .Assign _ (.Dict _ vs _) _ => vs
  | _ => []
noncomputable def asP : Stmt → Pos
  | .Assign _ (.Dict _ _ p) _ => p
  | _ => ⟨0, 0, 0, 0⟩
noncomputable def asQ : Stmt → Pos
  | .Assign _ _ q => q
  | _ => ⟨0, 0, 0, 0⟩
noncomputable abbrev stB : Stmt := nth bA 32
noncomputable abbrev stC : Stmt := nth bA 33
noncomputable abbrev asG (st : Stmt) : Value → Sem Flow := asgD (asT st) (asKs st) (asVs st) (asP st) envA
noncomputable abbrev itsOf (st : Stmt) : List (Option (Sem Value) × Sem Value) := itemsD (asKs st) (asVs st) (asP st) envA
noncomputable def prs (st : Stmt) : Pairs := (itsOf st).map fun x => (x.1.getD newDict, x.2)
noncomputable def chk (st : Stmt) (j : Nat) : Pairs := ((prs st).drop (17 * j)).take 17
noncomputable abbrev chks (st : Stmt) : List Pairs := [chk st 1, chk st 2, chk st 3, chk st 4, chk st 5, chk st 6]
theorem heB : exec stB envA = (standAt (asQ stB)).bind fun _ => (standAt (asP stB)).bind fun _ => (dictDisplay (itsOf stB)).bind (asG stB) := by kernel_rfl
theorem heC : exec stC envA = (standAt (asQ stC)).bind fun _ => (standAt (asP stC)).bind fun _ => (dictDisplay (itsOf stC)).bind (asG stC) := by kernel_rfl
theorem hiB : itsOf stB = full ((chk stB 0 :: chks stB).flatten ++ chk stB 7) := by kernel_rfl
theorem hiC : itsOf stC = full ((chk stC 0 :: chks stC).flatten ++ chk stC 7) := by kernel_rfl
theorem hlB : ((chk stB 0 :: chks stB).map List.length, (chk stB 7).length) = (List.replicate 7 17, 7) := by kernel_rfl
theorem hlC : ((chk stC 0 :: chks stC).map List.length, (chk stC 7).length) = (List.replicate 7 17, 3) := by kernel_rfl
end Mine
end
section
set_option tactic.hygienic false
set_option maxRecDepth 100000
open PySem PySem.W PyProof.Rows PySem.Calls
namespace Mine
noncomputable abbrev P_B1 (w : World) : Prop := (fun os => segRunT treeTable pz w 11 annA 1 500 (sT tree_86 47 294 w os) ⟨(fl0 (asQ stB) (asP stB) (chk stB 0)).wrap encK deadEnd id id, cA, ⟨37, 0, 37, 8⟩, framesA⟩) = fun os => some (.ret (.ref 47), sT tB1 48 328 w os, cA, ⟨38, 10, 38, 1804⟩)
theorem f_B1 (w : World) : P_B1 (w.withFollow "special-get-raises" false) := by
  unfold P_B1
  rw [PySem.W.Fast.te10110043849684766642, PySem.W.Fast.te14364793385576792824]
  kernel_rfl
theorem t_B1 (w : World) : P_B1 (w.withFollow "special-get-raises" true) := by
  unfold P_B1
  rw [PySem.W.Fast.te10110043849684766642, PySem.W.Fast.te14364793385576792824]
  kernel_rfl
theorem z_B1 : ∀ w : World, P_B1 w := byRow2 "special-get-raises" f_B1 t_B1
noncomputable abbrev P_B2 (w : World) : Prop := (fun os => segRunT treeTable pz w 11 annA 1 500 (sT tB1 48 328 w os) ⟨(fl (some 47) (chk stB 1)).wrap encK deadEnd id id, cA, ⟨38, 10, 38, 1804⟩, framesA⟩) = fun os => some (.ret (.ref 47), sT tB2 49 362 w os, cA, ⟨38, 10, 38, 1804⟩)
theorem f_B2 (w : World) : P_B2 (w.withFollow "special-get-raises" false) := by
  unfold P_B2
  rw [PySem.W.Fast.te10110043849684766642, PySem.W.Fast.te14364793385576792824]
  kernel_rfl
theorem t_B2 (w : World) : P_B2 (w.withFollow "special-get-raises" true) := by
  unfold P_B2
  rw [PySem.W.Fast.te10110043849684766642, PySem.W.Fast.te14364793385576792824]
  kernel_rfl
theorem z_B2 : ∀ w : World, P_B2 w := byRow2 "special-get-raises" f_B2 t_B2
noncomputable abbrev P_B3 (w : World) : Prop := (fun os => segRunT treeTable pz w 11 annA 1 500 (sT tB2 49 362 w os) ⟨(fl (some 47) (chk stB 2)).wrap encK deadEnd id id, cA, ⟨38, 10, 38, 1804⟩, framesA⟩) = fun os => some (.ret (.ref 47), sT tB3 50 396 w os, cA, ⟨38, 10, 38, 1804⟩)
theorem f_B3 (w : World) : P_B3 (w.withFollow "special-get-raises" false) := by
  unfold P_B3
  rw [PySem.W.Fast.te10110043849684766642, PySem.W.Fast.te14364793385576792824]
  kernel_rfl
theorem t_B3 (w : World) : P_B3 (w.withFollow "special-get-raises" true) := by
  unfold P_B3
  rw [PySem.W.Fast.te10110043849684766642, PySem.W.Fast.te14364793385576792824]
  kernel_rfl
theorem z_B3 : ∀ w : World, P_B3 w := byRow2 "special-get-raises" f_B3 t_B3
noncomputable abbrev P_B4 (w : World) : Prop := (fun os => segRunT treeTable pz w 11 annA 1 500 (sT tB3 50 396 w os) ⟨(fl (some 47) (chk stB 3)).wrap encK deadEnd id id, cA, ⟨38, 10, 38, 1804⟩, framesA⟩) = fun os => some (.ret (.ref 47), sT tB4 51 430 w os, cA, ⟨38, 10, 38, 1804⟩)
theorem f_B4 (w : World) : P_B4 (w.withFollow "special-get-raises" false) := by
  unfold P_B4
  rw [PySem.W.Fast.te10110043849684766642, PySem.W.Fast.te14364793385576792824]
  kernel_rfl
theorem t_B4 (w : World) : P_B4 (w.withFollow "special-get-raises" true) := by
  unfold P_B4
  rw [PySem.W.Fast.te10110043849684766642, PySem.W.Fast.te14364793385576792824]
  kernel_rfl
theorem z_B4 : ∀ w : World, P_B4 w := byRow2 "special-get-raises" f_B4 t_B4
noncomputable abbrev P_B5 (w : World) : Prop := (fun os => segRunT treeTable pz w 11 annA 1 500 (sT tB4 51 430 w os) ⟨(fl (some 47) (chk stB 4)).wrap encK deadEnd id id, cA, ⟨38, 10, 38, 1804⟩, framesA⟩) = fun os => some (.ret (.ref 47), sT tB5 52 464 w os, cA, ⟨38, 10, 38, 1804⟩)
theorem f_B5 (w : World) : P_B5 (w.withFollow "special-get-raises" false) := by
  unfold P_B5
  rw [PySem.W.Fast.te10110043849684766642, PySem.W.Fast.te14364793385576792824]
  kernel_rfl
theorem t_B5 (w : World) : P_B5 (w.withFollow "special-get-raises" true) := by
  unfold P_B5
  rw [PySem.W.Fast.te10110043849684766642, PySem.W.Fast.te14364793385576792824]
  kernel_rfl
theorem z_B5 : ∀ w : World, P_B5 w := byRow2 "special-get-raises" f_B5 t_B5
noncomputable abbrev P_B6 (w : World) : Prop := (fun os => segRunT treeTable pz w 11 annA 1 500 (sT tB5 52 464 w os) ⟨(fl (some 47) (chk stB 5)).wrap encK deadEnd id id, cA, ⟨38, 10, 38, 1804⟩, framesA⟩) = fun os => some (.ret (.ref 47), sT tB6 53 498 w os, cA, ⟨38, 10, 38, 1804⟩)
theorem f_B6 (w : World) : P_B6 (w.withFollow "special-get-raises" false) := by
  unfold P_B6
  rw [PySem.W.Fast.te10110043849684766642, PySem.W.Fast.te14364793385576792824]
  kernel_rfl
theorem t_B6 (w : World) : P_B6 (w.withFollow "special-get-raises" true) := by
  unfold P_B6
  rw [PySem.W.Fast.te10110043849684766642, PySem.W.Fast.te14364793385576792824]
  kernel_rfl
theorem z_B6 : ∀ w : World, P_B6 w := byRow2 "special-get-raises" f_B6 t_B6
noncomputable abbrev P_B7 (w : World) : Prop := (fun os => segRunT treeTable pz w 11 annA 1 500 (sT tB6 53 498 w os) ⟨(fl (some 47) (chk stB 6)).wrap encK deadEnd id id, cA, ⟨38, 10, 38, 1804⟩, framesA⟩) = fun os => some (.ret (.ref 47), sT tB7 54 532 w os, cA, ⟨38, 10, 38, 1804⟩)
theorem f_B7 (w : World) : P_B7 (w.withFollow "special-get-raises" false) := by
  unfold P_B7
  rw [PySem.W.Fast.te10110043849684766642, PySem.W.Fast.te14364793385576792824]
  kernel_rfl
theorem t_B7 (w : World) : P_B7 (w.withFollow "special-get-raises" true) := by
  unfold P_B7
  rw [PySem.W.Fast.te10110043849684766642, PySem.W.Fast.te14364793385576792824]
  kernel_rfl
theorem z_B7 : ∀ w : World, P_B7 w := byRow2 "special-get-raises" f_B7 t_B7
noncomputable abbrev P_B8 (w : World) : Prop := (fun os => segRunT treeTable pz w 11 annA 1 500 (sT tB7 54 532 w os) ⟨(fl (some 47) (chk stB 7)).wrap encK deadEnd id id, cA, ⟨38, 10, 38, 1804⟩, framesA⟩) = fun os => some (.ret (.ref 47), sT tB8 55 546 w os, cA, ⟨38, 10, 38, 1804⟩)
theorem f_B8 (w : World) : P_B8 (w.withFollow "special-get-raises" false) := by
  unfold P_B8
  rw [PySem.W.Fast.te10110043849684766642, PySem.W.Fast.te14364793385576792824]
  kernel_rfl
theorem t_B8 (w : World) : P_B8 (w.withFollow "special-get-raises" true) := by
  unfold P_B8
  rw [PySem.W.Fast.te10110043849684766642, PySem.W.Fast.te14364793385576792824]
  kernel_rfl
theorem z_B8 : ∀ w : World, P_B8 w := byRow2 "special-get-raises" f_B8 t_B8
theorem z_B9 (w : World) : (fun os => segRunT treeTable pz w 11 annA 1 100 (sT tB8 55 546 w os) ⟨(asG stB (.ref 47)).wrap doneF deadEnd id id, cA, ⟨38, 10, 38, 1804⟩, framesA⟩) = fun os => some (.next, sT tree_95 55 547 w os, cA, ⟨38, 0, 38, 7⟩) := by
  rw [PySem.W.Fast.te10110043849684766642, PySem.W.Fast.te14364793385576792824]
  kernel_rfl
noncomputable abbrev P_C1 (w : World) : Prop := (fun os => segRunT treeTable pz w 11 annA 1 500 (sT tree_95 55 547 w os) ⟨(fl0 (asQ stC) (asP stC) (chk stC 0)).wrap encK deadEnd id id, cA, ⟨38, 0, 38, 7⟩, framesA⟩) = fun os => some (.ret (.ref 55), sT tC1 73 615 w os, cA, ⟨39, 11, 39, 1586⟩)
theorem f_C1 (w : World) : P_C1 (w.withFollow "special-get-raises" false) := by
  unfold P_C1
  rw [PySem.W.Fast.te10110043849684766642, PySem.W.Fast.te14364793385576792824]
  kernel_rfl
theorem t_C1 (w : World) : P_C1 (w.withFollow "special-get-raises" true) := by
  unfold P_C1
  rw [PySem.W.Fast.te10110043849684766642, PySem.W.Fast.te14364793385576792824]
  kernel_rfl
theorem z_C1 : ∀ w : World, P_C1 w := byRow2 "special-get-raises" f_C1 t_C1
noncomputable abbrev P_C2 (w : World) : Prop := (fun os => segRunT treeTable pz w 11 annA 1 500 (sT tC1 73 615 w os) ⟨(fl (some 55) (chk stC 1)).wrap encK deadEnd id id, cA, ⟨39, 11, 39, 1586⟩, framesA⟩) = fun os => some (.ret (.ref 55), sT tC2 91 683 w os, cA, ⟨39, 11, 39, 1586⟩)
theorem f_C2 (w : World) : P_C2 (w.withFollow "special-get-raises" false) := by
  unfold P_C2
  rw [PySem.W.Fast.te10110043849684766642, PySem.W.Fast.te14364793385576792824]
  kernel_rfl
theorem t_C2 (w : World) : P_C2 (w.withFollow "special-get-raises" true) := by
  unfold P_C2
  rw [PySem.W.Fast.te10110043849684766642, PySem.W.Fast.te14364793385576792824]
  kernel_rfl
theorem z_C2 : ∀ w : World, P_C2 w := byRow2 "special-get-raises" f_C2 t_C2
noncomputable abbrev P_C3 (w : World) : Prop := (fun os => segRunT treeTable pz w 11 annA 1 500 (sT tC2 91 683 w os) ⟨(fl (some 55) (chk stC 2)).wrap encK deadEnd id id, cA, ⟨39, 11, 39, 1586⟩, framesA⟩) = fun os => some (.ret (.ref 55), sT tC3 109 751 w os, cA, ⟨39, 11, 39, 1586⟩)
theorem f_C3 (w : World) : P_C3 (w.withFollow "special-get-raises" false) := by
  unfold P_C3
  rw [PySem.W.Fast.te10110043849684766642, PySem.W.Fast.te14364793385576792824]
  kernel_rfl
theorem t_C3 (w : World) : P_C3 (w.withFollow "special-get-raises" true) := by
  unfold P_C3
  rw [PySem.W.Fast.te10110043849684766642, PySem.W.Fast.te14364793385576792824]
  kernel_rfl
theorem z_C3 : ∀ w : World, P_C3 w := byRow2 "special-get-raises" f_C3 t_C3
noncomputable abbrev P_C4 (w : World) : Prop := (fun os => segRunT treeTable pz w 11 annA 1 500 (sT tC3 109 751 w os) ⟨(fl (some 55) (chk stC 3)).wrap encK deadEnd id id, cA, ⟨39, 11, 39, 1586⟩, framesA⟩) = fun os => some (.ret (.ref 55), sT tC4 127 819 w os, cA, ⟨39, 11, 39, 1586⟩)
theorem f_C4 (w : World) : P_C4 (w.withFollow "special-get-raises" false) := by
  unfold P_C4
  rw [PySem.W.Fast.te10110043849684766642, PySem.W.Fast.te14364793385576792824]
  kernel_rfl
theorem t_C4 (w : World) : P_C4 (w.withFollow "special-get-raises" true) := by
  unfold P_C4
  rw [PySem.W.Fast.te10110043849684766642, PySem.W.Fast.te14364793385576792824]
  kernel_rfl
theorem z_C4 : ∀ w : World, P_C4 w := byRow2 "special-get-raises" f_C4 t_C4
noncomputable abbrev P_C5 (w : World) : Prop := (fun os => segRunT treeTable pz w 11 annA 1 500 (sT tC4 127 819 w os) ⟨(fl (some 55) (chk stC 4)).wrap encK deadEnd id id, cA, ⟨39, 11, 39, 1586⟩, framesA⟩) = fun os => some (.ret (.ref 55), sT tC5 145 887 w os, cA, ⟨39, 11, 39, 1586⟩)
theorem f_C5 (w : World) : P_C5 (w.withFollow "special-get-raises" false) := by
  unfold P_C5
  rw [PySem.W.Fast.te10110043849684766642, PySem.W.Fast.te14364793385576792824]
  kernel_rfl
theorem t_C5 (w : World) : P_C5 (w.withFollow "special-get-raises" true) := by
  unfold P_C5
  rw [PySem.W.Fast.te10110043849684766642, PySem.W.Fast.te14364793385576792824]
  kernel_rfl
theorem z_C5 : ∀ w : World, P_C5 w := byRow2 "special-get-raises" f_C5 t_C5
noncomputable abbrev P_C6 (w : World) : Prop := (fun os => segRunT treeTable pz w 11 annA 1 500 (sT tC5 145 887 w os) ⟨(fl (some 55) (chk stC 5)).wrap encK deadEnd id id, cA, ⟨39, 11, 39, 1586⟩, framesA⟩) = fun os => some (.ret (.ref 55), sT tC6 163 955 w os, cA, ⟨39, 11, 39, 1586⟩)
theorem f_C6 (w : World) : P_C6 (w.withFollow "special-get-raises" false) := by
  unfold P_C6
  rw [PySem.W.Fast.te10110043849684766642, PySem.W.Fast.te14364793385576792824]
  kernel_rfl
theorem t_C6 (w : World) : P_C6 (w.withFollow "special-get-raises" true) := by
  unfold P_C6
  rw [PySem.W.Fast.te10110043849684766642, PySem.W.Fast.te14364793385576792824]
  kernel_rfl
theorem z_C6 : ∀ w : World, P_C6 w := byRow2 "special-get-raises" f_C6 t_C6
noncomputable abbrev P_C7 (w : World) : Prop := (fun os => segRunT treeTable pz w 11 annA 1 500 (sT tC6 163 955 w os) ⟨(fl (some 55) (chk stC 6)).wrap encK deadEnd id id, cA, ⟨39, 11, 39, 1586⟩, framesA⟩) = fun os => some (.ret (.ref 55), sT tC7 181 1023 w os, cA, ⟨39, 11, 39, 1586⟩)
theorem f_C7 (w : World) : P_C7 (w.withFollow "special-get-raises" false) := by
  unfold P_C7
  rw [PySem.W.Fast.te10110043849684766642, PySem.W.Fast.te14364793385576792824]
  kernel_rfl
theorem t_C7 (w : World) : P_C7 (w.withFollow "special-get-raises" true) := by
  unfold P_C7
  rw [PySem.W.Fast.te10110043849684766642, PySem.W.Fast.te14364793385576792824]
  kernel_rfl
theorem z_C7 : ∀ w : World, P_C7 w := byRow2 "special-get-raises" f_C7 t_C7
noncomputable abbrev P_C8 (w : World) : Prop := (fun os => segRunT treeTable pz w 11 annA 1 500 (sT tC7 181 1023 w os) ⟨(fl (some 55) (chk stC 7)).wrap encK deadEnd id id, cA, ⟨39, 11, 39, 1586⟩, framesA⟩) = fun os => some (.ret (.ref 55), sT tC8 185 1035 w os, cA, ⟨39, 11, 39, 1586⟩)
theorem f_C8 (w : World) : P_C8 (w.withFollow "special-get-raises" false) := by
  unfold P_C8
  rw [PySem.W.Fast.te10110043849684766642, PySem.W.Fast.te14364793385576792824]
  kernel_rfl
theorem t_C8 (w : World) : P_C8 (w.withFollow "special-get-raises" true) := by
  unfold P_C8
  rw [PySem.W.Fast.te10110043849684766642, PySem.W.Fast.te14364793385576792824]
  kernel_rfl
theorem z_C8 : ∀ w : World, P_C8 w := byRow2 "special-get-raises" f_C8 t_C8
theorem z_C9 (w : World) : (fun os => segRunT treeTable pz w 11 annA 1 100 (sT tC8 185 1035 w os) ⟨(asG stC (.ref 55)).wrap doneF deadEnd id id, cA, ⟨39, 11, 39, 1586⟩, framesA⟩) = fun os => some (.next, sT tree_238 185 1036 w os, cA, ⟨39, 0, 39, 8⟩) := by
  rw [PySem.W.Fast.te10110043849684766642, PySem.W.Fast.te14364793385576792824]
  kernel_rfl
noncomputable abbrev P_D (w : World) : Prop := (fun os => segRunT treeTable pz w 11 annA 1 1434 (sT tree_238 185 1036 w os) (piecesOf stsD envA cA ⟨39, 0, 39, 8⟩ framesA)) = fun os => some (.next, sT tree_581 428 1515 w os, cA, ⟨293, 0, 307, 22⟩)
theorem f_D (w : World) : P_D (w.withFollow "special-get-raises" false) := by
  unfold P_D
  rw [PySem.W.Fast.te10110043849684766642, PySem.W.Fast.te14364793385576792824]
  kernel_rfl
theorem t_D (w : World) : P_D (w.withFollow "special-get-raises" true) := by
  unfold P_D
  rw [PySem.W.Fast.te10110043849684766642, PySem.W.Fast.te14364793385576792824]
  kernel_rfl
theorem z_D : ∀ w : World, P_D w := byRow2 "special-get-raises" f_D t_D
end Mine
end
section
set_option tactic.hygienic false
set_option maxRecDepth 100000
open PySem PySem.W PyProof.Rows PySem.Calls
namespace Mine
/-! the whole run -/
theorem len17 {l : Pairs} {cs : List Pairs} {last : Pairs} {k : Nat} (h : ((l :: cs).map List.length, last.length) = (List.replicate 7 17, k)) : (∀ x ∈ l :: cs, x.length = 17) ∧ last.length = k := by
  obtain ⟨a, b⟩ := Prod.mk.inj h
  refine ⟨fun x hx => ?_, b⟩
  have : x.length ∈ List.replicate 7 17 := a ▸ List.mem_map_of_mem hx
  exact List.eq_of_mem_replicate this
noncomputable def sFin (w : World) (os : OsState) : Shared := (sT tree_581 428 1515 w os).abs
theorem run_D (w : World) (os : OsState) : topRun treeTable pz w 11 annA (1434 + 2) (sT tree_238 185 1036 w os).abs (restOf (stsD ++ []) envA cA ⟨39, 0, 39, 8⟩ framesA) = some (sFin w os) :=
  piece_app (segRun_of (congrFun (z_D w) os)) (piece_nil (congrFun (z_fin w) os))
theorem run_C (w : World) (os : OsState) : topRun treeTable pz w 11 annA (500 + (500 + (500 + (500 + (500 + (500 + (500 + (500 + (100 + (1434 + 2)))))))))) (sT tree_95 55 547 w os).abs (restOf (stC :: (stsD ++ [])) envA cA ⟨38, 0, 38, 7⟩ framesA) = some (sFin w os) := by
  obtain ⟨h17, h0⟩ := len17 hlC
  refine first_step heC hiC h17 (by rw [h0]; decide) (by rw [h0]; decide) (segRun_of (congrFun (z_C1 w) os)) ?_
  refine flush_step (segRun_of (congrFun (z_C2 w) os)) ?_
  refine flush_step (segRun_of (congrFun (z_C3 w) os)) ?_
  refine flush_step (segRun_of (congrFun (z_C4 w) os)) ?_
  refine flush_step (segRun_of (congrFun (z_C5 w) os)) ?_
  refine flush_step (segRun_of (congrFun (z_C6 w) os)) ?_
  refine flush_step (segRun_of (congrFun (z_C7 w) os)) ?_
  refine flush_step (segRun_of (congrFun (z_C8 w) os)) ?_
  exact last_step (segRun_of (congrFun (z_C9 w) os)) (run_D w os)
theorem run_B (w : World) (os : OsState) : topRun treeTable pz w 11 annA (500 + (500 + (500 + (500 + (500 + (500 + (500 + (500 + (100 + (500 + (500 + (500 + (500 + (500 + (500 + (500 + (500 + (100 + (1434 + 2))))))))))))))))))) (sT tree_86 47 294 w os).abs (restOf (stB :: (stC :: (stsD ++ []))) envA cA ⟨37, 0, 37, 8⟩ framesA) = some (sFin w os) := by
  obtain ⟨h17, h0⟩ := len17 hlB
  refine first_step heB hiB h17 (by rw [h0]; decide) (by rw [h0]; decide) (segRun_of (congrFun (z_B1 w) os)) ?_
  refine flush_step (segRun_of (congrFun (z_B2 w) os)) ?_
  refine flush_step (segRun_of (congrFun (z_B3 w) os)) ?_
  refine flush_step (segRun_of (congrFun (z_B4 w) os)) ?_
  refine flush_step (segRun_of (congrFun (z_B5 w) os)) ?_
  refine flush_step (segRun_of (congrFun (z_B6 w) os)) ?_
  refine flush_step (segRun_of (congrFun (z_B7 w) os)) ?_
  refine flush_step (segRun_of (congrFun (z_B8 w) os)) ?_
  exact last_step (segRun_of (congrFun (z_B9 w) os)) (run_C w os)
noncomputable def stepsA : Nat := 12 + (1 + (800 + (500 + (500 + (500 + (500 + (500 + (500 + (500 + (500 + (100 + (500 + (500 + (500 + (500 + (500 + (500 + (500 + (500 + (100 + (1434 + 2)))))))))))))))))))))
theorem run_all (w : World) (os : OsState) : topRun treeTable pz w 11 annA stepsA (sBoot w os) (topStub pz) = some (sFin w os) := by
  refine go_top (congrFun (z_pre w) os) (piece_block (congrFun (z_block w) os) ?_)
  rw [show restOf bA envA cA q0 framesA = restOf (stsA ++ (stB :: (stC :: (stsD ++ [])))) envA cA q0 framesA from congrArg (fun b => restOf b envA cA q0 framesA) sts_all]
  exact piece_app (segRun_of (congrFun (z_A w) os)) (run_B w os)
end Mine
end
section
set_option tactic.hygienic false
set_option maxRecDepth 100000
open PySem PySem.W PyProof.Rows PySem.Calls
namespace Mine
/-! what is seen behind the start-up -/
noncomputable def qz : Program := { pz with main := { pz.main with body := [pst 0, pst 1, pst 2, pst 3, pst 4, pst 5, pst 6, pst 7, pst 8, pst 9, pst 10, pst 11, pst 12, pst 13, pst 14, pst 15, pst 17, pst 18, pst 20, pst 21, pst 22, pst 23, pst 24, pst 25, pst 26, pst 27, pst 28, pst 29, pst 30, pst 31, pst 32, pst 33, pst 34, pst 35, pst 36, pst 37, pst 38, pst 39, pst 40, pst 42, pst 43, pst 44, pst 45, pst 46, pst 47, pst 48, pst 50, pst 51, pst 52, pst 53, pst 54, pst 55, pst 56, pst 57, pst 58, pst 59, pst 60, pst 61, pst 62, pst 63] } }
noncomputable abbrev looseZ : List Str := [Str.ofString "OP_SORT", Str.ofString "OP_STACK", Str.ofString "_law_CALLS"]
noncomputable abbrev rz : RowW := OpenRow.toRowW PySem.Challenge.rw_sa0227_01.row
noncomputable abbrev Xz : Shared → Bool := fun s => xlAt qz [] s && recOk (RowW.records rz) s
noncomputable def hF (P : Params) : Heap := absHeap (tree_581 P) 428 {}
noncomputable def sF (w : World) (os : OsState) : Shared := ⟨hF w.params, #[], {}, 1515, os⟩
noncomputable abbrev modsZ : List Str := importedModules pz.main.body
noncomputable abbrev hookZ : Hook := kHook kz kAs fun _ => by kernel_rfl

theorem look_0 (w : World) (os : OsState) : (staticsOk modsZ (boot_heap w.params) (hF w.params) && namesBound pz (hF w.params) && gensDone (sF w os) && laidKept (boot_heap w.params) (hF w.params)) = true := by
  unfold modsZ
  rw [PySem.W.Fast.te5923862056798008813]
  kernel_rfl
theorem look_1 (w : World) (os : OsState) : (openSeen qz looseZ modsZ Xz true (sF w os)).1 = (openGood qz looseZ).1 := by
  unfold openSeen openGood
  dsimp only
  rw [PySem.W.Fast.te5160383126252970620, PySem.W.Fast.te3399658132070893891, PySem.W.Fast.te5991557255702980513]
  kernel_rfl
theorem look_2 (w : World) (os : OsState) : (openSeen qz looseZ modsZ Xz true (sF w os)).2.1 = (openGood qz looseZ).2.1 := by
  unfold openSeen openGood
  dsimp only
  kernel_rfl
theorem look_3 (w : World) (os : OsState) : (openSeen qz looseZ modsZ Xz true (sF w os)).2.2.1 = (openGood qz looseZ).2.2.1 := by
  unfold openSeen openGood modsZ
  dsimp only
  rw [PySem.W.Fast.te10880121769531294198, PySem.W.Fast.te821141287760084731, PySem.W.Fast.te3399658132070893891, PySem.W.Fast.te7409074990110511671, PySem.W.Fast.te13664370479719496447, PySem.W.Fast.te14722251495701143533, PySem.W.Fast.te5923862056798008813, PySem.W.Fast.te10994771534591457954]
  kernel_rfl
theorem look_4 (w : World) (os : OsState) : (openSeen qz looseZ modsZ Xz true (sF w os)).2.2.2.1 = (openGood qz looseZ).2.2.2.1 := by
  unfold openSeen openGood
  dsimp only
  rw [PySem.W.Fast.te479339242167458305]
  kernel_rfl
theorem look_5 (w : World) (os : OsState) : (openSeen qz looseZ modsZ Xz true (sF w os)).2.2.2.2.1 = (openGood qz looseZ).2.2.2.2.1 := by
  unfold openSeen openGood
  dsimp only
  rw [PySem.W.Fast.te16090120013241838585, PySem.W.Fast.te3247288618530077131]
  kernel_rfl
theorem look_6 (w : World) (os : OsState) : (openSeen qz looseZ modsZ Xz true (sF w os)).2.2.2.2.2.1 = (openGood qz looseZ).2.2.2.2.2.1 := by
  unfold openSeen openGood
  dsimp only
  rw [PySem.W.Fast.te2386780881361962483, PySem.W.Fast.te821141287760084731]
  kernel_rfl
theorem look_7 (w : World) (os : OsState) : (openSeen qz looseZ modsZ Xz true (sF w os)).2.2.2.2.2.2.1 = (openGood qz looseZ).2.2.2.2.2.2.1 := by
  unfold openSeen openGood
  dsimp only
  rw [PySem.W.Fast.te11698064438423848299]
  kernel_rfl
theorem look_8 (w : World) (os : OsState) : (openSeen qz looseZ modsZ Xz true (sF w os)).2.2.2.2.2.2.2.1 = (openGood qz looseZ).2.2.2.2.2.2.2.1 := by
  unfold openSeen openGood
  dsimp only
  rw [PySem.W.Fast.te7317090234206586261]
  kernel_rfl
theorem look_9 (w : World) (os : OsState) : (openSeen qz looseZ modsZ Xz true (sF w os)).2.2.2.2.2.2.2.2 = (openGood qz looseZ).2.2.2.2.2.2.2.2 := by
  unfold openSeen openGood
  dsimp only
  rw [PySem.W.Fast.te7369524293546568484]
  kernel_rfl
theorem look_k (w : World) (os : OsState) : hookZ.obs (sF w os) = hookZ.val w := by kernel_rfl
theorem size_z (w : World) : ((boot_heap w.params).isNs mainGlobals && (#[] : Array GenState).size == 0, (boot_heap w.params).objs.size, (boot_heap w.params).nsMap mainGlobals "__annotations__") = (true, 11, annA) := by
  rw [PySem.W.Fast.te8920871248978507458]
  kernel_rfl
end Mine
end
section
set_option tactic.hygienic false
set_option maxRecDepth 100000
open PySem PySem.W PyProof.Rows PySem.Calls
namespace Mine
/-! the head -/
theorem looks_z (w : World) : (fun os => ((staticsOk modsZ (boot_heap w.params) (hF w.params) && namesBound pz (hF w.params) && gensDone (sF w os) && laidKept (boot_heap w.params) (hF w.params)), openSeen qz looseZ modsZ Xz true (sF w os), hookZ.obs (sF w os))) =
    fun _ => (true, openGood qz looseZ, hookZ.val w) := by
  funext os
  exact Prod.ext (look_0 w os) (Prod.ext (Prod.ext (look_1 w os) (Prod.ext (look_2 w os) (Prod.ext (look_3 w os) (Prod.ext (look_4 w os) (Prod.ext (look_5 w os) (Prod.ext (look_6 w os) (Prod.ext (look_7 w os) (Prod.ext (look_8 w os) (look_9 w os))))))))) (look_k w os))
theorem open_z : ∀ w : World, (fencedOpening treeTable pz w 14654).map (fun s => (s.heap, s.gens, s.drawn, s.toks)) = some (boot_heap w.params, Array.mk [], boot_drawn, boot_toks) :=
  boot_open (by kernel_rfl) (by decide) (fun s => by kernel_rfl)
theorem left_z : LeftO pz qz looseZ Xz hookZ.obs hookZ.val 14654 :=
  LeftO.of_pieces (H₁ := hF) (gs₁ := #[]) (d₁ := {}) (k₁ := 1515) open_z size_z run_all (by decide) looks_z
noncomputable def dz : DefRec := match pst 63 with
  | .FunctionDef n a b _ _ _ sc _ _ p => ⟨n, a, b, sc, p⟩
  | _ => ⟨"", ⟨[], [], none, [], [], none, []⟩, [], ⟨.function, [], false, false, []⟩, ⟨0, 0, 0, 0⟩⟩
theorem def_z : defOf qz rz.name = some (dz, []) := by kernel_rfl
theorem thedef_z : rz.prog.theDef rz.name = some (dz.params, dz.body, dz.scope) := by kernel_rfl
theorem kw_z : kwWritten? dz.params.kwonlyargs dz.params.kw_defaults = some [] := by kernel_rfl
theorem said_looks : looksOpen PySem.Challenge.rw_sa0227_01.row.prog = true := by
  rw [PySem.W.Fast.te12908688711261696721]
  kernel_rfl
theorem said_row : PySem.Challenge.rw_sa0227_01.row.wellSaid = true := by
  unfold OpenRow.wellSaid OpenRow.partSaid
  rw [said_looks]
  kernel_rfl
theorem said_z : PySem.Challenge.rw_sa0227_01.wellSaid = true := by
  unfold OpenLaw.wellSaid
  rw [said_row, PySem.W.Fast.te8179353310426384613, PySem.W.Fast.te8326940854005059898, PySem.W.Fast.te9558739934217749035, PySem.W.Fast.te16286561074155671207, PySem.W.Fast.te17119622794617984870]
  kernel_rfl
theorem head_z (walk : WalkO qz looseZ (XL qz []) hookZ.says rz dz [] fun f vs => PySem.call f vs) : PySem.Challenge.rw_sa0227_01.Holds := by
  refine holds_law said_z fun said => ?_
  refine holds_open (q := qz) (loose := looseZ) (Xt := Xz) (XP := XL qz []) (Yf := hookZ.obs) (Ya := hookZ.val) (YP := hookZ.says) (N := 14654) left_z hookZ.of hookZ.keeps (fun s e => xl_of s (Bool.and_eq_true_iff.mp e).1) XL.keeps def_z thedef_z kw_z (fun s e => recFacts_of (Bool.and_eq_true_iff.mp e).2) (by rfl) said (by decide +kernel) ⟨rfl, rfl, rfl, rfl, rfl, by decide +kernel⟩ ?hw walk
  case hw => w_witness2
end Mine
end
section
set_option tactic.hygienic false
open PySem PySem.W PyProof.Rows PySem.Calls
namespace Mine

/-! # the value semantics -/
inductive V where
  | none
  | bool (b : Bool)
  | int (i : Int)
  | tup (l : List V)
  | lst (r : Nat)
  | cl (ns : List Int)
  | tab (k : Nat)
  | tel (r : Int)
  | rng (n : Int)

noncomputable abbrev Sto := List (List V)
inductive R (α : Type) where
  | ok (a : α) (σ : Sto)
  | exc
  | stuck
structure St where
  loc : Nat → Option V
  sto : Sto
noncomputable abbrev DE := St → R V
noncomputable abbrev DB := St → R Bool
noncomputable abbrev DL := St → R (List V)
inductive Fl where
  | next
  | cont
  | brk
  | ret (v : V)
inductive RS where
  | ok (f : Fl) (st : St)
  | exc
  | stuck
noncomputable abbrev DS := St → RS

/-! # the world -/
structure Wd where
  prog : Program
  w : World
  K : Frag
  p : Program
  loose : List Str
  mg : Str → Option Value
  mb : Str → Option Value
  base : Heap
  tabA : Nat → Addr
  tel : Addr
  bad : Addr
  X : K.In base
  T : TopRead p loose mg mb base

noncomputable abbrev Wd.M (W : Wd) : Model := model W.prog W.w

noncomputable def callsN : Str := Str.ofString "calls"
noncomputable def retN : Str := Str.ofString "ret"

noncomputable def telD (W : Wd) (r : Int) (t1 t2 t3 : Tok) (n : Nat) : Obj :=
  dictOf [⟨PyData.keyHash W.w.params callsN, .str callsN t1, .ref (W.tabA 2)⟩, ⟨PyData.keyHash W.w.params retN, .str retN t2, .int r t3⟩] n

noncomputable def TelAt (W : Wd) (h : Heap) (a : Addr) (r : Int) : Prop :=
  ∃ dx t1 t2 t3 n, h.get? a = some ⟨.ref W.tel, some dx, .plain, #[]⟩ ∧ h.get? dx = some (telD W r t1 t2 t3 n)

mutual
inductive VR (W : Wd) (ρ : List Addr) (h : Heap) : V → Value → Prop
  | none : VR W ρ h .none .none
  | bool (b : Bool) : VR W ρ h (.bool b) (.bool b)
  | int (i : Int) (t : Tok) : VR W ρ h (.int i) (.int i t)
  | tup {xs : List V} {vs : List Value} {a : Addr} {n : Nat} : h.get? a = some { cls := .type "tuple", data := .seq vs.toArray n } → VRs W ρ h xs vs → VR W ρ h (.tup xs) (.ref a)
  | lst {r : Nat} {a : Addr} : ρ[r]? = some a → VR W ρ h (.lst r) (.ref a)
  | cl {ns : List Int} {vs : List Value} {a : Addr} : W.base.IsList a vs.toArray → IntsAre vs ns → VR W ρ h (.cl ns) (.ref a)
  | tab (k : Nat) : VR W ρ h (.tab k) (.ref (W.tabA k))
  | tel {a : Addr} {r : Int} : TelAt W h a r → VR W ρ h (.tel r) (.ref a)
  | rng {a : Addr} {n : Int} {t u v : Tok} : IsRange h a 0 n 1 t u v → VR W ρ h (.rng n) (.ref a)
inductive VRs (W : Wd) (ρ : List Addr) (h : Heap) : List V → List Value → Prop
  | nil : VRs W ρ h [] []
  | cons {x : V} {v : Value} {xs : List V} {vs : List Value} : VR W ρ h x v → VRs W ρ h xs vs → VRs W ρ h (x :: xs) (v :: vs)
end

noncomputable def Keep (l : List Addr) (h h' : Heap) : Prop := ∀ a o, h.get? a = some o → a ∉ l → h'.get? a = some o
noncomputable def KeepX (l : List Addr) (h h' : Heap) : Prop := ∀ a o, h.get? a = some o → a ∉ l → (∀ vs, o.data ≠ .fields vs) → ∃ sl, h'.get? a = some { o with slots := sl }

/-- the classes of the iterators that a loop turns -/
noncomputable def iterT : List String := ["list_iterator", "tuple_iterator", "range_iterator"]
noncomputable def MutO (o : Obj) : Prop := o.cls = .type "list" ∨ (∃ c, o.data = .cell c) ∨ (∃ es n, o.data = .dict es n ∧ nsFind es callsN = none) ∨ ∃ T ∈ iterT, o.cls = .type T
noncomputable def MutAt (h : Heap) (l : List Addr) : Prop := ∀ a ∈ l, ∀ o, h.get? a = some o → MutO o

theorem Keep.refl {l : List Addr} {h : Heap} : Keep l h h := fun _ _ e _ => e
theorem Keep.mono {l l' : List Addr} {h h' : Heap} (k : Keep l h h') (s : ∀ a ∈ l, a ∈ l') : Keep l' h h' := fun a o e n => k a o e fun q => n (s a q)
theorem Keep.all {h h' : Heap} {l : List Addr} (k : ∀ a o, h.get? a = some o → h'.get? a = some o) : Keep l h h' := fun a o e _ => k a o e
theorem KeepX.of {l : List Addr} {h h' : Heap} (k : Keep l h h') : KeepX l h h' := fun a o e n _ => ⟨o.slots, k a o e n⟩
theorem KeepX.mono {l l' : List Addr} {h h' : Heap} (k : KeepX l h h') (s : ∀ a ∈ l, a ∈ l') : KeepX l' h h' := fun a o e n f => k a o e (fun q => n (s a q)) f
theorem KeepX.trans {l : List Addr} {h₁ h₂ h₃ : Heap} (x : KeepX l h₁ h₂) (y : KeepX l h₂ h₃) : KeepX l h₁ h₃ := fun a o e n f => by
  obtain ⟨sl, e1⟩ := x a o e n f
  obtain ⟨sl', e2⟩ := y a _ e1 n f
  exact ⟨sl', e2⟩
theorem KeepX.upTo {l : List Addr} {h₁ h₂ h₃ : Heap} (x : KeepX l h₁ h₂) (y : h₂.UpToSlots h₃) : KeepX l h₁ h₃ :=
  x.trans fun a o e _ f => y a o e f

/-- addresses that came: fresh ones -/
noncomputable def Fresh (ρ ρ' : List Addr) (h : Heap) : Prop := ∀ a ∈ ρ', a ∉ ρ → h.get? a = none

theorem Keep.trans {ρ ρ₁ own : List Addr} {h h₁ h₂ : Heap} (k : Keep (ρ ++ own) h h₁) (k₁ : Keep (ρ₁ ++ own) h₁ h₂) (f : Fresh ρ ρ₁ h) : Keep (ρ ++ own) h h₂ := fun a o e n => by
  refine k₁ a o (k a o e n) fun q => ?_
  rcases List.mem_append.mp q with q | q
  · by_cases hm : a ∈ ρ
    · exact n (List.mem_append_left _ hm)
    · rw [f a q hm] at e; cases e
  · exact n (List.mem_append_right _ q)
theorem Keep.trans0 {ρ ρ₁ : List Addr} {h h₁ h₂ : Heap} (k : Keep ρ h h₁) (k₁ : Keep ρ₁ h₁ h₂) (f : Fresh ρ ρ₁ h) : Keep ρ h h₂ := by
  have := Keep.trans (own := []) (by simpa using k) (by simpa using k₁) f
  simpa using this
theorem Fresh.refl {ρ : List Addr} {h : Heap} : Fresh ρ ρ h := fun _ q n => absurd q n
theorem Fresh.trans {ρ ρ₁ ρ₂ own : List Addr} {h h₁ : Heap} (f : Fresh ρ ρ₁ h) (f₁ : Fresh ρ₁ ρ₂ h₁) (k : Keep (ρ ++ own) h h₁) (ho : ∀ a ∈ own, a ∉ ρ₂) (p : ρ <+: ρ₁) : Fresh ρ ρ₂ h := fun a q n => by
  by_cases hm : a ∈ ρ₁
  · exact f a hm n
  · have e := f₁ a q hm
    cases hq : h.get? a with
    | none => rfl
    | some o =>
      have := k a o hq fun z => by
        rcases List.mem_append.mp z with z | z
        · exact n z
        · exact ho a z q
      rw [this] at e; cases e

theorem VRs.length {W : Wd} {ρ : List Addr} {h : Heap} : ∀ {xs : List V} {vs : List Value}, VRs W ρ h xs vs → vs.length = xs.length
  | _, _, .nil => rfl
  | _, _, .cons _ r => congrArg (· + 1) r.length
theorem VRs.get {W : Wd} {ρ : List Addr} {h : Heap} : ∀ {xs : List V} {vs : List Value}, VRs W ρ h xs vs → ∀ {i : Nat} {x : V}, xs[i]? = some x → ∃ v, vs[i]? = some v ∧ VR W ρ h x v
  | _, _, .cons a r, 0, _, e => by cases e; exact ⟨_, rfl, a⟩
  | _, _, .cons _ r, i + 1, _, e => r.get (i := i) (by simpa using e)
theorem VRs.append {W : Wd} {ρ : List Addr} {h : Heap} {ys : List V} {ws : List Value} (k : VRs W ρ h ys ws) : ∀ {xs : List V} {vs : List Value}, VRs W ρ h xs vs → VRs W ρ h (xs ++ ys) (vs ++ ws)
  | _, _, .nil => k
  | _, _, .cons a r => .cons a (k.append r)
theorem VRs.take {W : Wd} {ρ : List Addr} {h : Heap} : ∀ {xs : List V} {vs : List Value} (n : Nat), VRs W ρ h xs vs → VRs W ρ h (xs.take n) (vs.take n)
  | _, _, 0, _ => by simpa using .nil
  | _, _, _ + 1, .nil => .nil
  | _, _, n + 1, .cons a r => .cons a (r.take n)
theorem VRs.drop {W : Wd} {ρ : List Addr} {h : Heap} : ∀ {xs : List V} {vs : List Value} (n : Nat), VRs W ρ h xs vs → VRs W ρ h (xs.drop n) (vs.drop n)
  | _, _, 0, k => by simpa using k
  | _, _, _ + 1, .nil => .nil
  | _, _, n + 1, .cons _ r => r.drop n
theorem VRs.set {W : Wd} {ρ : List Addr} {h : Heap} {y : V} {w : Value} (k : VR W ρ h y w) : ∀ {xs : List V} {vs : List Value} (n : Nat), VRs W ρ h xs vs → VRs W ρ h (xs.set n y) (vs.set n w)
  | _, _, _, .nil => by simpa using .nil
  | _, _, 0, .cons _ r => .cons k r
  | _, _, n + 1, .cons a r => .cons a (VRs.set k n r)
theorem VRs.ints {W : Wd} {ρ : List Addr} {h : Heap} : ∀ {vs : List Value} {ns : List Int}, IntsAre vs ns → VRs W ρ h (ns.map V.int) vs
  | _, _, .nil => .nil
  | _, _, .cons n t r => .cons (.int n t) (VRs.ints r)
theorem VRs.toInts {W : Wd} {ρ : List Addr} {h : Heap} : ∀ {ns : List Int} {vs : List Value}, VRs W ρ h (ns.map V.int) vs → IntsAre vs ns := by
  intro ns
  induction ns with
  | nil => intro vs r; cases r; exact .nil
  | cons n ns ih =>
    intro vs r
    cases r with
    | cons a r => cases a; exact .cons _ _ (ih r)

theorem not_mem_of_mut {h : Heap} {l : List Addr} {a : Addr} {o : Obj} (m : MutAt h l) (e : h.get? a = some o) (n : ¬ MutO o) : a ∉ l := fun q => n (m a q o e)

theorem telD_not {W : Wd} {r : Int} {t1 t2 t3 : Tok} {n : Nat} : ¬ MutO (telD W r t1 t2 t3 n) := by
  rintro (q | ⟨c, q⟩ | ⟨es, k, q, z⟩ | ⟨T, hT, q⟩)
  rotate_right
  · have e : ("dict" : String) = T := by injection q
    subst e
    exact absurd hT (by decide)
  · have e : ("dict" : String) = "list" := by injection q
    exact absurd e (by decide)
  · cases q
  · have e : es = (List.toArray [⟨PyData.keyHash W.w.params callsN, .str callsN t1, .ref (W.tabA 2)⟩, ⟨PyData.keyHash W.w.params retN, .str retN t2, .int r t3⟩] : Array DictEntry) := by
      injection q with q1 _
      exact q1.symm
    subst e
    simp [nsFind, findBy, Value.isStr] at z

mutual
theorem VR.mono {W : Wd} {ρ ρ' l : List Addr} {h h' : Heap} (k : Keep l h h') (m : MutAt h l) (p : ρ <+: ρ') : ∀ {x : V} {v : Value}, VR W ρ h x v → VR W ρ' h' x v
  | _, _, .none => .none
  | _, _, .bool b => .bool b
  | _, _, .int i t => .int i t
  | _, _, .tup e r => .tup (k _ _ e (not_mem_of_mut m e (by
      rintro (q | ⟨c, q⟩ | ⟨es, k, q, _⟩ | ⟨T, hT, q⟩)
      · injection q with q; exact absurd q (by decide)
      · cases q
      · cases q
      · injection q with q; subst q; exact absurd hT (by decide)))) (VRs.mono k m p r)
  | _, _, .lst e => .lst (by
      obtain ⟨t, rfl⟩ := p
      rw [List.getElem?_append_left]
      · exact e
      · exact (List.getElem?_eq_some_iff.mp e).1)
  | _, _, .cl a b => .cl a b
  | _, _, .tab i => .tab i
  | _, _, .tel ⟨dx, t1, t2, t3, n, e1, e2⟩ => .tel ⟨dx, t1, t2, t3, n, k _ _ e1 (not_mem_of_mut m e1 (by
      rintro (q | ⟨c, q⟩ | ⟨es, k, q, _⟩ | ⟨T, hT, q⟩)
      · cases q
      · cases q
      · cases q
      · cases q)), k _ _ e2 (not_mem_of_mut m e2 telD_not)⟩
  | _, _, .rng e => .rng (k _ _ e (not_mem_of_mut m e (by
      rintro (q | ⟨c, q⟩ | ⟨es, k, q, _⟩ | ⟨T, hT, q⟩)
      · injection q with q; exact absurd q (by decide)
      · cases q
      · cases q
      · injection q with q; subst q; exact absurd hT (by decide))))
theorem VRs.mono {W : Wd} {ρ ρ' l : List Addr} {h h' : Heap} (k : Keep l h h') (m : MutAt h l) (p : ρ <+: ρ') : ∀ {xs : List V} {vs : List Value}, VRs W ρ h xs vs → VRs W ρ' h' xs vs
  | _, _, .nil => .nil
  | _, _, .cons a r => .cons (VR.mono k m p a) (VRs.mono k m p r)
end

/-! # invariants -/
structure HI (W : Wd) (fs : List Env) (ρ : List Addr) (σ : Sto) (h : Heap) : Prop where
  stays : W.base.StaysIn h
  ff : h.FunFrames W.base fs
  nd : ρ.Nodup
  len : ρ.length = σ.length
  nb : ∀ a ∈ ρ, W.base.get? a = none
  hr : ∀ (r : Nat) (a : Addr) (xs : List V), ρ[r]? = some a → σ[r]? = some xs → ∃ vs : List Value, h.PlainList a vs.toArray ∧ VRs W ρ h xs vs

theorem HI.isL {W : Wd} {fs : List Env} {ρ : List Addr} {σ : Sto} {h : Heap} (H : HI W fs ρ σ h) {a : Addr} (m : a ∈ ρ) : ∃ o, h.get? a = some o ∧ o.cls = .type "list" ∧ ∃ xs n, o.data = .seq xs n := by
  obtain ⟨r, hr, rfl⟩ := List.getElem_of_mem m
  obtain ⟨vs, ⟨n, ho⟩, _⟩ := H.hr r ρ[r] (σ[r]'(H.len ▸ hr)) (by simp [hr]) (by simp [H.len ▸ hr])
  exact ⟨_, ho, rfl, _, n, rfl⟩
theorem HI.mutAt {W : Wd} {fs : List Env} {ρ : List Addr} {σ : Sto} {h : Heap} (H : HI W fs ρ σ h) : MutAt h ρ := fun a m o e => by
  obtain ⟨o', e', hc, _⟩ := H.isL m
  rw [e] at e'; cases e'
  exact .inl hc

noncomputable def own (env : Env) : List Addr := env.locals :: env.cells.map (·.2)

noncomputable def Held (env : Env) (m : Str → Option Value) (h : Heap) (x : Str) (v : Value) : Prop :=
  (env.kindOf x = some .local ∧ m x = some v) ∨ (env.kindOf x = some .cell ∧ ∃ c, env.cells.lookup x = some c ∧ h.IsCell c (some v))

structure EI (W : Wd) (lay : List Str) (env : Env) (ρ : List Addr) (loc : Nat → Option V) (h : Heap) : Prop where
  kind : env.scope.kind = .function
  glob : env.globals = mainGlobals
  blt : env.builtins = builtinsNs
  nb : W.base.get? env.locals = none
  ns : ∃ m, h.Ns env.locals m ∧ m callsN = none ∧ ∀ i v, loc i = some v → ∃ x val, lay[i]? = some x ∧ VR W ρ h v val ∧ Held env m h x val
  cells : ∀ x c, (x, c) ∈ env.cells → W.base.get? c = none ∧ ∃ v, h.IsCell c v
  apart : env.cells.Pairwise fun x y => x.2 ≠ y.2

theorem EI.mutAt {W : Wd} {lay : List Str} {env : Env} {ρ : List Addr} {loc : Nat → Option V} {h : Heap} (E : EI W lay env ρ loc h) : MutAt h (own env) := fun a q o e => by
  rcases List.mem_cons.mp q with rfl | q
  · obtain ⟨m, ⟨o', es, ep, ho, hd, _, hf⟩, hm, _⟩ := E.ns
    rw [e] at ho; cases ho
    exact .inr (.inr (.inl ⟨es, ep, hd, (hf _).trans hm⟩))
  · obtain ⟨⟨x, c⟩, hm, rfl⟩ := List.mem_map.mp q
    obtain ⟨_, v, o', ho, hd⟩ := E.cells x c hm
    rw [e] at ho; cases ho
    exact .inr (.inl ⟨_, hd⟩)
theorem EI.notL {W : Wd} {lay : List Str} {env : Env} {fs : List Env} {ρ : List Addr} {σ : Sto} {loc : Nat → Option V} {h : Heap} (E : EI W lay env ρ loc h) (H : HI W fs ρ σ h) : ∀ a ∈ own env, a ∉ ρ := fun a q z => by
  obtain ⟨o, ho, hc, xs, n, hd⟩ := H.isL z
  rcases List.mem_cons.mp q with rfl | q
  · obtain ⟨m, ⟨o', es, ep, ho', hd', _⟩, _⟩ := E.ns
    rw [ho] at ho'; cases ho'
    rw [hd] at hd'; cases hd'
  · obtain ⟨⟨x, c⟩, hm, rfl⟩ := List.mem_map.mp q
    obtain ⟨_, v, o', ho', hd'⟩ := E.cells x c hm
    rw [ho] at ho'; cases ho'
    rw [hd] at hd'; cases hd'

theorem MutAt.append {h : Heap} {l l' : List Addr} (a : MutAt h l) (b : MutAt h l') : MutAt h (l ++ l') := fun x q => by
  rcases List.mem_append.mp q with q | q
  · exact a x q
  · exact b x q

theorem mem_lookup {α : Type} {l : List (Str × α)} {n : Str} {c : α} (h : l.lookup n = some c) : (n, c) ∈ l := PySem.mem_of_lookup h

/-- the frame stands while the heap's own lists alone turn -/
theorem EI.step {W : Wd} {lay : List Str} {env : Env} {ρ ρ' l : List Addr} {loc : Nat → Option V} {h h' : Heap} (E : EI W lay env ρ loc h) (k : Keep l h h') (m : MutAt h l) (n : ∀ a ∈ own env, a ∉ l) (p : ρ <+: ρ') :
    EI W lay env ρ' loc h' := by
  obtain ⟨m₀, hn, hc, hl⟩ := E.ns
  have cellK : ∀ x c v, env.cells.lookup x = some c → h.IsCell c v → h'.IsCell c v := fun x c v e ⟨o, ho, hd⟩ =>
    ⟨o, k c o ho (n c (List.mem_cons_of_mem _ (List.mem_map.mpr ⟨(x, c), mem_lookup e, rfl⟩))), hd⟩
  refine ⟨E.kind, E.glob, E.blt, E.nb, ⟨m₀, hn.at' fun o e => k _ o e (n _ (.head _)), hc, fun i v e => ?_⟩, fun x c e => ?_, E.apart⟩
  · obtain ⟨x, val, a, b, c⟩ := hl i v e
    refine ⟨x, val, a, b.mono k m p, c.imp id fun ⟨q, c, e, z⟩ => ⟨q, c, e, cellK _ _ _ e z⟩⟩
  · obtain ⟨a, v, o, ho, hd⟩ := E.cells x c e
    exact ⟨a, v, o, k c o ho (n c (List.mem_cons_of_mem _ (List.mem_map.mpr ⟨(x, c), e, rfl⟩))), hd⟩

/-- one step of an expression -/
structure Step (W : Wd) (fs : List Env) (ρ : List Addr) (h : Heap) (ρ' : List Addr) (σ' : Sto) (h' : Heap) : Prop where
  keep : Keep ρ h h'
  pre : ρ <+: ρ'
  fresh : Fresh ρ ρ' h
  hi : HI W fs ρ' σ' h'
theorem Step.trans {W : Wd} {fs : List Env} {ρ ρ₁ ρ₂ : List Addr} {h h₁ h₂ : Heap} {σ₁ σ₂ : Sto} (a : Step W fs ρ h ρ₁ σ₁ h₁) (b : Step W fs ρ₁ h₁ ρ₂ σ₂ h₂) : Step W fs ρ h ρ₂ σ₂ h₂ where
  keep := a.keep.trans0 b.keep a.fresh
  pre := a.pre.trans b.pre
  fresh := Fresh.trans (own := []) a.fresh b.fresh (by simpa using a.keep) (fun _ q => nomatch q) a.pre
  hi := b.hi
theorem Step.refl {W : Wd} {fs : List Env} {ρ : List Addr} {σ : Sto} {h : Heap} (H : HI W fs ρ σ h) : Step W fs ρ h ρ σ h := ⟨.refl, List.prefix_refl _, .refl, H⟩
theorem EI.after {W : Wd} {lay : List Str} {env : Env} {fs : List Env} {ρ ρ' : List Addr} {σ σ' : Sto} {loc : Nat → Option V} {h h' : Heap} (E : EI W lay env ρ loc h) (H : HI W fs ρ σ h) (S : Step W fs ρ h ρ' σ' h') : EI W lay env ρ' loc h' :=
  E.step S.keep H.mutAt (E.notL H) S.pre
theorem VR.after {W : Wd} {fs : List Env} {ρ ρ' : List Addr} {σ σ' : Sto} {h h' : Heap} {x : V} {v : Value} (r : VR W ρ h x v) (H : HI W fs ρ σ h) (S : Step W fs ρ h ρ' σ' h') : VR W ρ' h' x v := r.mono S.keep H.mutAt S.pre
theorem VRs.after {W : Wd} {fs : List Env} {ρ ρ' : List Addr} {σ σ' : Sto} {h h' : Heap} {xs : List V} {vs : List Value} (r : VRs W ρ h xs vs) (H : HI W fs ρ σ h) (S : Step W fs ρ h ρ' σ' h') : VRs W ρ' h' xs vs := r.mono S.keep H.mutAt S.pre

/-- a heap that only grew -/
theorem HI.grow {W : Wd} {fs : List Env} {ρ : List Addr} {σ : Sto} {h h' : Heap} (H : HI W fs ρ σ h) (k : ∀ a o, h.get? a = some o → h'.get? a = some o) : HI W fs ρ σ h' where
  stays := fun b o e => k b o (H.stays b o e)
  ff := H.ff.of_keeps fun b o e _ => ⟨o, k b o e, rfl⟩
  nd := H.nd
  len := H.len
  nb := H.nb
  hr := fun r a xs e1 e2 => by
    obtain ⟨vs, ⟨n, ho⟩, b⟩ := H.hr r a xs e1 e2
    exact ⟨vs, ⟨n, k _ _ ho⟩, b.mono (l := []) (.all k) (fun _ q => nomatch q) (List.prefix_refl _)⟩
theorem Step.grow {W : Wd} {fs : List Env} {ρ : List Addr} {σ : Sto} {h h' : Heap} (H : HI W fs ρ σ h) (k : ∀ a o, h.get? a = some o → h'.get? a = some o) : Step W fs ρ h ρ σ h' :=
  ⟨.all k, List.prefix_refl _, .refl, H.grow k⟩

/-! # exceptions -/
noncomputable def XOK (W : Wd) (h : Heap) (e : Addr) : Prop :=
  W.base.get? e = none ∧ ∃ oe vs a0, h.get? e = some oe ∧ oe.cls = .ref W.bad ∧ oe.data = .fields vs ∧ vs[0]? = some a0 ∧
    (vs[1]? = some .none ∨ ∃ T oT ts fl, vs[1]? = some (.ref T) ∧ W.base.get? T = none ∧ T ≠ e ∧ h.get? T = some oT ∧ oT.data = .fields ts ∧ ts[3]? = some fl)
structure XP (W : Wd) (fs : List Env) (l : List Addr) (s : Shared) (e : Value) (s' : Shared) : Prop where
  ex : ∃ ea h' tk, e = .ref ea ∧ s' = { s with heap := h', toks := tk } ∧ W.base.StaysIn h' ∧ h'.FunFrames W.base fs ∧ KeepX l s.heap h' ∧ XOK W h' ea

theorem XP.before {W : Wd} {fs : List Env} {ρ ρ₁ own : List Addr} {s s' : Shared} {e : Value} {h₁ : Heap} {tk₁ : Nat} (k : Keep (ρ ++ own) s.heap h₁) (f : Fresh ρ ρ₁ s.heap) (x : XP W fs (ρ₁ ++ own) { s with heap := h₁, toks := tk₁ } e s') : XP W fs (ρ ++ own) s e s' := by
  obtain ⟨ea, h', tk, rfl, rfl, a, b, c, d⟩ := x.ex
  refine ⟨ea, h', tk, rfl, rfl, a, b, fun a o e n z => ?_, d⟩
  refine c a o (k a o e n) (fun q => ?_) z
  rcases List.mem_append.mp q with q | q
  · by_cases hm : a ∈ ρ
    · exact n (List.mem_append_left _ hm)
    · rw [f a q hm] at e; cases e
  · exact n (List.mem_append_right _ q)
theorem XP.before0 {W : Wd} {fs : List Env} {ρ ρ₁ : List Addr} {s s' : Shared} {e : Value} {h₁ : Heap} {tk₁ : Nat} (k : Keep ρ s.heap h₁) (f : Fresh ρ ρ₁ s.heap) (x : XP W fs ρ₁ { s with heap := h₁, toks := tk₁ } e s') : XP W fs ρ s e s' := by
  have := XP.before (own := []) (by simpa using k) f (by simpa using x)
  simpa using this
theorem XP.mono {W : Wd} {fs : List Env} {l l' : List Addr} {s s' : Shared} {e : Value} (x : XP W fs l s e s') (h : ∀ a ∈ l, a ∈ l') : XP W fs l' s e s' := by
  obtain ⟨ea, h', tk, rfl, rfl, a, b, c, d⟩ := x.ex
  exact ⟨ea, h', tk, rfl, rfl, a, b, c.mono h, d⟩

/-! # what a tree does -/
structure Room (n : Nat) (A : Around) : Prop where
  hd : A.handled = none
  dp : A.depth + 4 * n + 16 < recursionLimit
  un : A.units + 16 * n + 64 < cLine

/-- what a tree does, told to whoever goes on -/
noncomputable def Good {α β : Type} (W : Wd) (lay : List Str) (env : Env) (n : Nat) (rel : List Addr → Heap → β → α → Prop) (t : Sem α) (d : St → R β) : Prop :=
  ∀ (A : Around) (fs : List Env) (ρ : List Addr) (st : St) (s : Shared) (Q : α → Shared → Prop) (E : Value → Shared → Prop),
    Room n A → A.frames = some fs → EI W lay env ρ st.loc s.heap → HI W fs ρ st.sto s.heap → d st ≠ .stuck →
    (∀ x σ' ρ' v h' tk, d st = .ok x σ' → rel ρ' h' x v → Step W fs ρ s.heap ρ' σ' h' → Q v { s with heap := h', toks := tk }) →
    (∀ e s', d st = .exc → XP W fs ρ s e s' → E e s') → wpAny W.M A t Q E s
noncomputable abbrev GoodE (W : Wd) (lay : List Str) (env : Env) (n : Nat) (t : Sem Value) (d : DE) : Prop := Good W lay env n (VR W) t d
noncomputable abbrev GoodB (W : Wd) (lay : List Str) (env : Env) (n : Nat) (t : Sem Bool) (d : DB) : Prop := Good W lay env n (fun _ _ b b' => b = b') t d
noncomputable abbrev GoodL (W : Wd) (lay : List Str) (env : Env) (n : Nat) (t : Sem (List Value)) (d : DL) : Prop := Good W lay env n (VRs W) t d

/-- a tree over values at hand -/
noncomputable def Prim {α β γ : Type} (W : Wd) (n : Nat) (args : List Addr → Heap → γ → Prop) (rel : List Addr → Heap → β → α → Prop) (t : γ → Sem α) (p : γ → Sto → R β → Prop) : Prop :=
  ∀ (A : Around) (fs : List Env) (ρ : List Addr) (σ : Sto) (s : Shared) (g : γ) (r : R β) (Q : α → Shared → Prop) (E : Value → Shared → Prop),
    Room n A → A.frames = some fs → HI W fs ρ σ s.heap → args ρ s.heap g → p g σ r → r ≠ .stuck →
    (∀ x σ' ρ' v h' tk, r = .ok x σ' → rel ρ' h' x v → Step W fs ρ s.heap ρ' σ' h' → Q v { s with heap := h', toks := tk }) →
    (∀ e s', r = .exc → XP W fs ρ s e s' → E e s') → wpAny W.M A (t g) Q E s

noncomputable def R.bind {α β : Type} (r : R α) (k : α → Sto → R β) : R β := match r with
  | .ok a σ => k a σ
  | .exc => .exc
  | .stuck => .stuck
@[simp] theorem R.bind_ok {α β : Type} (a : α) (σ : Sto) (k : α → Sto → R β) : (R.ok a σ).bind k = k a σ := rfl
@[simp] theorem R.bind_exc {α β : Type} (k : α → Sto → R β) : (R.exc : R α).bind k = .exc := rfl
@[simp] theorem R.bind_stuck {α β : Type} (k : α → Sto → R β) : (R.stuck : R α).bind k = .stuck := rfl
theorem R.ns {α β : Type} {r : R α} {k : α → Sto → R β} (h : r.bind k ≠ .stuck) : r ≠ .stuck := fun e => h (by rw [e]; rfl)
theorem R.ns2 {α β : Type} {r : R α} {k : α → Sto → R β} {a : α} {σ : Sto} (h : r.bind k ≠ .stuck) (e : r = .ok a σ) : k a σ ≠ .stuck := fun q => h (by rw [e]; exact q)
theorem R.of {α β : Type} {r : R α} {k : α → Sto → R β} {a : α} {σ : Sto} {q : R β} (e : r = .ok a σ) (e' : k a σ = q) : r.bind k = q := by rw [e]; exact e'
theorem R.ofX {α β : Type} {r : R α} {k : α → Sto → R β} (e : r = .exc) : r.bind k = .exc := by rw [e]; rfl

theorem XP.back {W : Wd} {fs : List Env} {ρ ρ₁ : List Addr} {σ₁ : Sto} {s s' : Shared} {e : Value} {h₁ : Heap} {tk₁ : Nat} (S : Step W fs ρ s.heap ρ₁ σ₁ h₁) (x : XP W fs ρ₁ { s with heap := h₁, toks := tk₁ } e s') : XP W fs ρ s e s' := XP.before0 S.keep S.fresh x

end Mine
end
section
set_option tactic.hygienic false
open PySem PySem.W PyProof.Rows PySem.Calls
namespace Mine

section
variable {W : Wd} {lay : List Str} {env : Env} {n : Nat}

/-! ## heaps that turn -/
theorem FunFrames.turn {h h' base : Heap} (k : ∀ b o, h.get? b = some o → (∀ vs, o.data ≠ .fields vs) → ∃ o', h'.get? b = some o' ∧ ∀ vs, o'.data ≠ .fields vs) {l : List Env} (hl : h.FunFrames base l) : h'.FunFrames base l := by
  induction l with
  | nil => trivial
  | cons e rest ih =>
    obtain ⟨hk, ⟨L, o, hf, hn, ho, hd⟩, hr⟩ := hl
    obtain ⟨o', ho', hd'⟩ := k L o ho hd
    exact ⟨hk, ⟨L, o', hf, hn, ho', hd'⟩, ih hr⟩

theorem HI.pushL {fs : List Env} {ρ : List Addr} {σ : Sto} {h : Heap} (H : HI W fs ρ σ h) {xs : List V} {vs : List Value} (r : VRs W ρ h xs vs) :
    Step W fs ρ h (ρ ++ [h.objs.size]) (σ ++ [xs]) (h.push { cls := .type "list", data := .seq vs.toArray }) := by
  have k : ∀ a o, h.get? a = some o → (h.push { cls := .type "list", data := .seq vs.toArray }).get? a = some o := fun a o e => Heap.get?_push_of_some _ e
  have H' := H.grow k
  have p : ρ <+: ρ ++ [h.objs.size] := ⟨_, rfl⟩
  have new : h.objs.size ∉ ρ := fun q => by
    obtain ⟨o, ho, _⟩ := H.isL q
    exact absurd (Heap.lt_size ho) (Nat.lt_irrefl _)
  refine ⟨.all k, p, fun a q z => ?_, ⟨H'.stays, H'.ff, ?_, by simp [H.len], fun a q => ?_, fun i a ys e1 e2 => ?_⟩⟩
  · rcases List.mem_append.mp q with q | q
    · exact absurd q z
    · obtain rfl := List.mem_singleton.mp q
      exact Heap.get?_none_of_le (Nat.le_refl _)
  · rw [List.nodup_append]
    exact ⟨H.nd, by simp, fun a q b z => by obtain rfl := List.mem_singleton.mp z; exact fun e => new (e ▸ q)⟩
  · rcases List.mem_append.mp q with q | q
    · exact H.nb a q
    · obtain rfl := List.mem_singleton.mp q
      exact H.stays.fresh
  · by_cases hi : i < ρ.length
    · rw [List.getElem?_append_left hi] at e1
      rw [List.getElem?_append_left (H.len ▸ hi)] at e2
      obtain ⟨ws, a1, a2⟩ := H'.hr i a ys e1 e2
      exact ⟨ws, a1, a2.mono (l := []) .refl (fun _ q => nomatch q) p⟩
    · have hi' : i = ρ.length := by
        have := (List.getElem?_eq_some_iff.mp e1).1
        rw [List.length_append, List.length_singleton] at this
        (first | lia | omega)
      subst hi'
      rw [List.getElem?_append_right (Nat.le_refl _), Nat.sub_self] at e1
      rw [List.getElem?_append_right (by rw [H.len]; exact Nat.le_refl _), H.len, Nat.sub_self] at e2
      simp only [List.getElem?_cons_zero, Option.some.injEq] at e1 e2
      subst e1 e2
      exact ⟨vs, ⟨0, Heap.get?_push_size _ rfl⟩, r.mono (l := []) (.all k) (fun _ q => nomatch q) p⟩

theorem HI.setL {fs : List Env} {ρ : List Addr} {σ : Sto} {h h' : Heap} (H : HI W fs ρ σ h) {r : Nat} {a : Addr} {xs : List V} {vs : List Value} (ha : ρ[r]? = some a) (hs : Heap.SameBut a h h') (hp : h'.PlainList a vs.toArray) (v : VRs W ρ h xs vs) :
    Step W fs ρ h ρ (σ.set r xs) h' := by
  have hm : a ∈ ρ := List.mem_of_getElem? ha
  have k : Keep ρ h h' := fun b o e z => (hs.2 b fun q => z (q ▸ hm)).trans e
  have mono : ∀ {ys : List V} {ws : List Value}, VRs W ρ h ys ws → VRs W ρ h' ys ws := fun q => q.mono k H.mutAt (List.prefix_refl _)
  obtain ⟨np, hp'⟩ := hp
  refine ⟨k, List.prefix_refl _, .refl, ⟨fun b o e => (hs.2 b fun q => ?_).trans (H.stays b o e), FunFrames.turn (fun b o e f => ?_) H.ff, H.nd, by rw [List.length_set]; exact H.len, H.nb, fun i b ys e1 e2 => ?_⟩⟩
  · have := H.nb a hm
    rw [← q, e] at this; cases this
  · by_cases q : b = a
    · subst q; exact ⟨_, hp', fun vs q => by cases q⟩
    · exact ⟨o, (hs.2 b q).trans e, f⟩
  · by_cases q : i = r
    · subst q
      rw [ha] at e1; cases e1
      rw [List.getElem?_set_self (by rw [← H.len]; exact (List.getElem?_eq_some_iff.mp ha).1)] at e2
      cases e2
      exact ⟨vs, ⟨np, hp'⟩, mono v⟩
    · rw [List.getElem?_set_ne (Ne.symm q)] at e2
      obtain ⟨ws, ⟨m, hw⟩, b2⟩ := H.hr i b ys e1 e2
      have hne : b ≠ a := fun z => by
        subst z
        have hi := (List.getElem?_eq_some_iff.mp e1)
        have hr := (List.getElem?_eq_some_iff.mp ha)
        exact q ((List.getElem_inj H.nd).mp (hi.2.trans hr.2.symm))
      exact ⟨ws, ⟨m, (hs.2 b hne).trans hw⟩, mono b2⟩

/-! ## atoms -/
noncomputable def dInt (i : Int) : DE := fun st => .ok (.int i) st.sto
noncomputable def dNone : DE := fun st => .ok .none st.sto
noncomputable def dBool (b : Bool) : DE := fun st => .ok (.bool b) st.sto
noncomputable def dLoc (i : Nat) : DE := fun st => match st.loc i with
  | some v => .ok v st.sto
  | none => .stuck
noncomputable def dVal (v : V) : DE := fun st => .ok v st.sto

theorem good_int {i : Int} {k : Nat} {pos : Pos} : GoodE W lay env n (eval (.Constant (.int i) k pos) env) (dInt i) :=
  fun _ _ _ _ _ _ _ _ _ _ hi _ ok _ => wpAny_Constant_int (ok _ _ _ _ _ _ rfl (.int i _) (.refl hi))
theorem good_none {k : Nat} {pos : Pos} : GoodE W lay env n (eval (.Constant .none k pos) env) dNone :=
  fun _ _ _ _ _ _ _ _ _ _ hi _ ok _ => wpAny_Constant_none (ok _ _ _ _ _ _ rfl .none (.refl hi))
theorem good_bool {b : Bool} {k : Nat} {pos : Pos} : GoodE W lay env n (eval (.Constant (.bool b) k pos) env) (dBool b) :=
  fun _ _ _ _ _ _ _ _ _ _ hi _ ok _ => wpAny_Constant_bool (ok _ _ _ _ _ _ rfl (.bool b) (.refl hi))

theorem good_loc {i : Nat} {x : Str} {pos : Pos} (hx : lay[i]? = some x) (hd : (x == ("__debug__" : Str)) = false) : GoodE W lay env n (eval (.Name x pos) env) (dLoc i) := by
  intro A fs ρ st s Q E hr hf ei hi hs ok ex
  obtain ⟨m, hn, _, hl⟩ := ei.ns
  cases h : st.loc i with
  | none => exact absurd (by simp [dLoc, h]) hs
  | some v =>
    obtain ⟨x', val, e, r, held⟩ := hl i v h
    rw [hx] at e; cases e
    have go : Q val s := ok v _ ρ val s.heap s.toks (by simp [dLoc, h]) r (.refl hi)
    rcases held with ⟨hk, hv⟩ | ⟨hk, c, hc, hv⟩
    · exact wpAny_Name (wpAny_loadName_local ei.kind hk hn hv go) hd
    · exact wpAny_Name (wpAny_loadName_cell ei.kind hk hc hv go) hd

theorem name_glob {A : Around} {h : Heap} {s : Shared} {x : Str} {pos : Pos} {v : Value} {Q : Value → Shared → Prop} {E : Value → Shared → Prop} {ρ : List Addr} {loc : Nat → Option V} (ei : EI W lay env ρ loc h) (hst : W.base.StaysIn s.heap)
    (hx : env.kindOf x = some .globalImplicit) (e : nsIn W.K mainGlobals x = some (some v)) (hd : (x == ("__debug__" : Str)) = false) (hq : Q v s) : wpAny W.M A (eval (.Name x pos) env) Q E s :=
  Name_function_global ei.kind hx (loadGlobal_global (by rw [ei.glob]; exact W.T.g.keeps hst) (mg_of W.X W.T.g e) hq) hd
theorem name_blt {A : Around} {h : Heap} {s : Shared} {x : Str} {pos : Pos} {v : Value} {Q : Value → Shared → Prop} {E : Value → Shared → Prop} {ρ : List Addr} {loc : Nat → Option V} (ei : EI W lay env ρ loc h) (hst : W.base.StaysIn s.heap)
    (hx : env.kindOf x = some .globalImplicit) (e : nsIn W.K mainGlobals x = some none) (hv : bootBuiltins x = some v) (hn : x ≠ "__name__") (hd : (x == ("__debug__" : Str)) = false) (hq : Q v s) : wpAny W.M A (eval (.Name x pos) env) Q E s :=
  Name_function_global ei.kind hx (loadGlobal_builtin (by rw [ei.glob]; exact W.T.g.keeps hst) (mg_none_of W.X W.T.g e) (by rw [ei.blt]; exact W.T.b.keeps hst) ((W.T.builtins x hn).trans hv) hq) hd

theorem good_glob {x : Str} {pos : Pos} {v : Value} {X : V} (hx : env.kindOf x = some .globalImplicit) (e : nsIn W.K mainGlobals x = some (some v)) (hd : (x == ("__debug__" : Str)) = false)
    (r : ∀ ρ h, W.base.StaysIn h → VR W ρ h X v) : GoodE W lay env n (eval (.Name x pos) env) (dVal X) :=
  fun _ _ ρ _ s _ _ _ _ ei hi _ ok _ => name_glob ei hi.stays hx e hd (ok X _ ρ v s.heap s.toks rfl (r _ _ hi.stays) (.refl hi))

/-! ## operations upon values -/
noncomputable def P1 {α β : Type} (W : Wd) (n : Nat) (rel : List Addr → Heap → β → α → Prop) (t : Value → Sem α) (p : V → Sto → R β) : Prop :=
  ∀ (A : Around) (fs : List Env) (ρ : List Addr) (σ : Sto) (s : Shared) (x : V) (v : Value) (Q : α → Shared → Prop) (E : Value → Shared → Prop),
    Room n A → A.frames = some fs → HI W fs ρ σ s.heap → VR W ρ s.heap x v → p x σ ≠ .stuck →
    (∀ y σ' ρ' w h' tk, p x σ = .ok y σ' → rel ρ' h' y w → Step W fs ρ s.heap ρ' σ' h' → Q w { s with heap := h', toks := tk }) →
    (∀ e s', p x σ = .exc → XP W fs ρ s e s' → E e s') → wpAny W.M A (t v) Q E s
noncomputable def P2 {α β : Type} (W : Wd) (n : Nat) (rel : List Addr → Heap → β → α → Prop) (t : Value → Value → Sem α) (p : V → V → Sto → R β) : Prop :=
  ∀ (A : Around) (fs : List Env) (ρ : List Addr) (σ : Sto) (s : Shared) (x y : V) (v u : Value) (Q : α → Shared → Prop) (E : Value → Shared → Prop),
    Room n A → A.frames = some fs → HI W fs ρ σ s.heap → VR W ρ s.heap x v → VR W ρ s.heap y u → p x y σ ≠ .stuck →
    (∀ z σ' ρ' w h' tk, p x y σ = .ok z σ' → rel ρ' h' z w → Step W fs ρ s.heap ρ' σ' h' → Q w { s with heap := h', toks := tk }) →
    (∀ e s', p x y σ = .exc → XP W fs ρ s e s' → E e s') → wpAny W.M A (t v u) Q E s
noncomputable def PL {α β : Type} (W : Wd) (n : Nat) (rel : List Addr → Heap → β → α → Prop) (t : List Value → Sem α) (p : List V → Sto → R β) : Prop :=
  ∀ (A : Around) (fs : List Env) (ρ : List Addr) (σ : Sto) (s : Shared) (xs : List V) (vs : List Value) (Q : α → Shared → Prop) (E : Value → Shared → Prop),
    Room n A → A.frames = some fs → HI W fs ρ σ s.heap → VRs W ρ s.heap xs vs → p xs σ ≠ .stuck →
    (∀ z σ' ρ' w h' tk, p xs σ = .ok z σ' → rel ρ' h' z w → Step W fs ρ s.heap ρ' σ' h' → Q w { s with heap := h', toks := tk }) →
    (∀ e s', p xs σ = .exc → XP W fs ρ s e s' → E e s') → wpAny W.M A (t vs) Q E s

noncomputable def dThen {α β : Type} (d : St → R α) (k : α → Sto → R β) : St → R β := fun st => (d st).bind k
noncomputable def dThen2 {α β γ : Type} (d : St → R α) (e : St → R β) (k : α → β → Sto → R γ) : St → R γ := fun st => (d st).bind fun a σ => (e ⟨st.loc, σ⟩).bind fun b σ => k a b σ

/-! two subtrees, then a primitive -/
theorem use2 {α γ : Type} {rel : List Addr → Heap → γ → α → Prop} {t : Sem Value} {u : Sem Value} {d : DE} {e : DE} {k : V → V → Sto → R γ} {f : Value → Value → Sem α}
    (g : GoodE W lay env n t d) (h : GoodE W lay env n u e) (p : P2 W n rel f k)
    {A : Around} {fs : List Env} {ρ : List Addr} {st : St} {s : Shared} {Q : α → Shared → Prop} {E : Value → Shared → Prop}
    (hr : Room n A) (hf : A.frames = some fs) (ei : EI W lay env ρ st.loc s.heap) (hi : HI W fs ρ st.sto s.heap) (hs : dThen2 d e k st ≠ .stuck)
    (ok : ∀ x σ' ρ' v h' tk, dThen2 d e k st = .ok x σ' → rel ρ' h' x v → Step W fs ρ s.heap ρ' σ' h' → Q v { s with heap := h', toks := tk })
    (ex : ∀ e' s', dThen2 d e k st = .exc → XP W fs ρ s e' s' → E e' s') :
    wpAny W.M A t (fun a s₁ => wpAny W.M A u (fun b s₂ => wpAny W.M A (f a b) Q E s₂) E s₁) E s := by
  refine g A fs ρ st s _ _ hr hf ei hi (R.ns hs) (fun x σ₁ ρ₁ v h₁ tk₁ e₁ r₁ S₁ => ?_) fun e' s' e₁ x => ex e' s' (R.ofX e₁) x
  have hs₁ := R.ns2 hs e₁
  have ei₁ := ei.after hi S₁
  refine h A fs ρ₁ ⟨st.loc, σ₁⟩ _ _ _ hr hf ei₁ S₁.hi (R.ns hs₁) (fun y σ₂ ρ₂ w h₂ tk₂ e₂ r₂ S₂ => ?_) fun e' s' e₂ x => ex e' s' (R.of e₁ (R.ofX e₂)) (x.back S₁)
  have S := S₁.trans S₂
  refine p A fs ρ₂ σ₂ _ x y v w _ _ hr hf S₂.hi (r₁.after S₁.hi S₂) r₂ (R.ns2 hs₁ e₂) (fun z σ₃ ρ₃ v₃ h₃ tk₃ e₃ r₃ S₃ => ok z σ₃ ρ₃ v₃ h₃ tk₃ (R.of e₁ (R.of e₂ e₃)) r₃ (S.trans S₃)) fun e' s' e₃ x => ex e' s' (R.of e₁ (R.of e₂ e₃)) (x.back S)

theorem use1 {α γ : Type} {rel : List Addr → Heap → γ → α → Prop} {t : Sem Value} {d : DE} {k : V → Sto → R γ} {f : Value → Sem α}
    (g : GoodE W lay env n t d) (p : P1 W n rel f k)
    {A : Around} {fs : List Env} {ρ : List Addr} {st : St} {s : Shared} {Q : α → Shared → Prop} {E : Value → Shared → Prop}
    (hr : Room n A) (hf : A.frames = some fs) (ei : EI W lay env ρ st.loc s.heap) (hi : HI W fs ρ st.sto s.heap) (hs : dThen d k st ≠ .stuck)
    (ok : ∀ x σ' ρ' v h' tk, dThen d k st = .ok x σ' → rel ρ' h' x v → Step W fs ρ s.heap ρ' σ' h' → Q v { s with heap := h', toks := tk })
    (ex : ∀ e' s', dThen d k st = .exc → XP W fs ρ s e' s' → E e' s') :
    wpAny W.M A t (fun a s₁ => wpAny W.M A (f a) Q E s₁) E s := by
  refine g A fs ρ st s _ _ hr hf ei hi (R.ns hs) (fun x σ₁ ρ₁ v h₁ tk₁ e₁ r₁ S₁ => ?_) fun e' s' e₁ x => ex e' s' (R.ofX e₁) x
  exact p A fs ρ₁ σ₁ _ x v _ _ hr hf S₁.hi r₁ (R.ns2 hs e₁) (fun z σ₃ ρ₃ v₃ h₃ tk₃ e₃ r₃ S₃ => ok z σ₃ ρ₃ v₃ h₃ tk₃ (R.of e₁ e₃) r₃ (S₁.trans S₃)) fun e' s' e₃ x => ex e' s' (R.of e₁ e₃) (x.back S₁)
end
end Mine
end
section
set_option tactic.hygienic false
open PySem PySem.W PyProof.Rows PySem.Calls
namespace Mine

section
variable {W : Wd} {n : Nat}

noncomputable def limN : Nat := 1000
theorem limN_le : limN ≤ sizeLine := by decide
theorem le_size {k : Nat} (h : k ≤ limN) : k ≤ sizeLine := Nat.le_trans h limN_le
theorem le_63 {k : Nat} (h : k ≤ limN) : (k : Int) < 2 ^ 63 := by unfold limN at h; (first | lia | omega)

theorem HI.list {fs : List Env} {ρ : List Addr} {σ : Sto} {h : Heap} (H : HI W fs ρ σ h) {r : Nat} {xs : List V} {v : Value} (e : σ[r]? = some xs) (hv : VR W ρ h (.lst r) v) :
    ∃ a vs k, v = .ref a ∧ ρ[r]? = some a ∧ h.get? a = some { cls := .type "list", data := .seq (List.toArray vs) k } ∧ VRs W ρ h xs vs := by
  cases hv with
  | lst q =>
    obtain ⟨vs, ⟨k, ho⟩, r⟩ := H.hr _ _ _ q e
    exact ⟨_, vs, k, rfl, q, ho, r⟩

theorem P2.mk {α β : Type} {rel : List Addr → Heap → β → α → Prop} {t : Value → Value → Sem α} {p : V → V → Sto → R β} (nx : ∀ x y σ, p x y σ ≠ .exc)
    (h : ∀ (A : Around) (fs : List Env) (ρ : List Addr) (σ : Sto) (s : Shared) (x y : V) (v u : Value) (Q : α → Shared → Prop) (E : Value → Shared → Prop) (z : β) (σ' : Sto),
      Room n A → A.frames = some fs → HI W fs ρ σ s.heap → VR W ρ s.heap x v → VR W ρ s.heap y u → p x y σ = .ok z σ' →
      (∀ ρ' w h' tk, rel ρ' h' z w → Step W fs ρ s.heap ρ' σ' h' → Q w { s with heap := h', toks := tk }) → wpAny W.M A (t v u) Q E s) : P2 W n rel t p := by
  intro A fs ρ σ s x y v u Q E hr hf hi hx hy hs ok _
  cases e : p x y σ with
  | ok z σ' => exact h A fs ρ σ s x y v u Q E z σ' hr hf hi hx hy e fun ρ' w h' tk r S => ok z σ' ρ' w h' tk e r S
  | exc => exact absurd e (nx x y σ)
  | stuck => exact absurd e hs
theorem P1.mk {α β : Type} {rel : List Addr → Heap → β → α → Prop} {t : Value → Sem α} {p : V → Sto → R β} (nx : ∀ x σ, p x σ ≠ .exc)
    (h : ∀ (A : Around) (fs : List Env) (ρ : List Addr) (σ : Sto) (s : Shared) (x : V) (v : Value) (Q : α → Shared → Prop) (E : Value → Shared → Prop) (z : β) (σ' : Sto),
      Room n A → A.frames = some fs → HI W fs ρ σ s.heap → VR W ρ s.heap x v → p x σ = .ok z σ' →
      (∀ ρ' w h' tk, rel ρ' h' z w → Step W fs ρ s.heap ρ' σ' h' → Q w { s with heap := h', toks := tk }) → wpAny W.M A (t v) Q E s) : P1 W n rel t p := by
  intro A fs ρ σ s x v Q E hr hf hi hx hs ok _
  cases e : p x σ with
  | ok z σ' => exact h A fs ρ σ s x v Q E z σ' hr hf hi hx e fun ρ' w h' tk r S => ok z σ' ρ' w h' tk e r S
  | exc => exact absurd e (nx x σ)
  | stuck => exact absurd e hs
theorem PL.mk {α β : Type} {rel : List Addr → Heap → β → α → Prop} {t : List Value → Sem α} {p : List V → Sto → R β} (nx : ∀ x σ, p x σ ≠ .exc)
    (h : ∀ (A : Around) (fs : List Env) (ρ : List Addr) (σ : Sto) (s : Shared) (x : List V) (v : List Value) (Q : α → Shared → Prop) (E : Value → Shared → Prop) (z : β) (σ' : Sto),
      Room n A → A.frames = some fs → HI W fs ρ σ s.heap → VRs W ρ s.heap x v → p x σ = .ok z σ' →
      (∀ ρ' w h' tk, rel ρ' h' z w → Step W fs ρ s.heap ρ' σ' h' → Q w { s with heap := h', toks := tk }) → wpAny W.M A (t v) Q E s) : PL W n rel t p := by
  intro A fs ρ σ s x v Q E hr hf hi hx hs ok _
  cases e : p x σ with
  | ok z σ' => exact h A fs ρ σ s x v Q E z σ' hr hf hi hx e fun ρ' w h' tk r S => ok z σ' ρ' w h' tk e r S
  | exc => exact absurd e (nx x σ)
  | stuck => exact absurd e hs

/-! ## arithmetic -/
noncomputable def oAdd : V → V → Sto → R V
  | .int a, .int b, σ => .ok (.int (a + b)) σ
  | .lst r, .lst q, σ => match σ[r]?, σ[q]? with
    | some xs, some ys => if xs.length + ys.length ≤ limN then .ok (.lst σ.length) (σ ++ [xs ++ ys]) else .stuck
    | _, _ => .stuck
  | _, _, _ => .stuck
noncomputable def oSub : V → V → Sto → R V
  | .int a, .int b, σ => .ok (.int (a - b)) σ
  | _, _, _ => .stuck
noncomputable def oMul : V → V → Sto → R V
  | .int a, .int b, σ => if a.natAbs < 1000000 ∧ b.natAbs < 1000000 then .ok (.int (a * b)) σ else .stuck
  | .lst r, .int k, σ => match σ[r]? with
    | some xs => if 0 ≤ k ∧ k ≤ 1000 ∧ xs.length = 1 then .ok (.lst σ.length) (σ ++ [(List.replicate k.toNat xs).flatten]) else .stuck
    | _ => .stuck
  | _, _, _ => .stuck
noncomputable def oDiv : V → V → Sto → R V
  | .int a, .int b, σ => if b ≠ 0 ∧ b.natAbs < 1000000 then .ok (.int (a.fdiv b)) σ else .stuck
  | _, _, _ => .stuck
noncomputable def oMod : V → V → Sto → R V
  | .int a, .int b, σ => if b ≠ 0 then .ok (.int (a.fmod b)) σ else .stuck
  | _, _, _ => .stuck

set_option tactic.hygienic true in
theorem p_add : P2 W n (VR W) (binaryOp .Add) oAdd := by
  refine P2.mk (fun x y σ => by unfold oAdd; (repeat' split) <;> simp) fun A fs ρ σ s x y v u Q E z σ' hr hf hi hx hy e ok => ?_
  unfold oAdd at e
  split at e
  · cases e; cases hx; cases hy
    exact add_int (ok ρ _ s.heap _ (.int _ _) (.refl hi))
  · split at e
    · rename_i xs ys e1 e2
      split at e
      · rename_i hl
        cases e
        obtain ⟨a, vs, k, rfl, q1, ho, r1⟩ := hi.list e1 hx
        obtain ⟨b, ws, j, rfl, q2, ho2, r2⟩ := hi.list e2 hy
        have hz : vs.toArray.size + ws.toArray.size ≤ sizeLine := by
          rw [List.size_toArray, List.size_toArray, r1.length, r2.length]; exact le_size hl
        refine P.add_list ho ho2 ?_ hz
        have e : vs.toArray ++ ws.toArray = (vs ++ ws).toArray := by simp
        rw [e]
        exact ok _ _ _ s.toks (.lst (by rw [← hi.len]; simp)) (hi.pushL (VRs.append r2 r1))
      · cases e
    · cases e
  · cases e

theorem p_sub : P2 W n (VR W) (binaryOp .Sub) oSub := by
  refine P2.mk (fun x y σ => by unfold oSub; (repeat' split) <;> simp) fun A fs ρ σ s x y v u Q E z σ' hr hf hi hx hy e ok => ?_
  unfold oSub at e
  split at e
  · cases e; cases hx; cases hy
    exact sub_int (ok ρ _ s.heap _ (.int _ _) (.refl hi))
  · cases e

set_option tactic.hygienic true in
theorem p_div : P2 W n (VR W) (binaryOp .FloorDiv) oDiv := by
  refine P2.mk (fun x y σ => by unfold oDiv; (repeat' split) <;> simp) fun A fs ρ σ s x y v u Q E z σ' hr hf hi hx hy e ok => ?_
  unfold oDiv at e
  split at e
  · split at e
    · rename_i hb
      cases e; cases hx; cases hy
      exact floordiv_int hb.1 (ok ρ _ s.heap _ (.int _ _) (.refl hi)) (.inl (PyProof.noPylong_small (by (first | lia | omega))))
    · cases e
  · cases e

set_option tactic.hygienic true in
theorem p_mod : P2 W n (VR W) (binaryOp .Mod) oMod := by
  refine P2.mk (fun x y σ => by unfold oMod; (repeat' split) <;> simp) fun A fs ρ σ s x y v u Q E z σ' hr hf hi hx hy e ok => ?_
  unfold oMod at e
  split at e
  · split at e
    · rename_i hb
      cases e; cases hx; cases hy
      exact mod_int hb (ok ρ _ s.heap _ (.int _ _) (.refl hi))
    · cases e
  · cases e

set_option tactic.hygienic true in
theorem p_mul : P2 W n (VR W) (binaryOp .Mult) oMul := by
  refine P2.mk (fun x y σ => by unfold oMul; (repeat' split) <;> simp) fun A fs ρ σ s x y v u Q E z σ' hr hf hi hx hy e ok => ?_
  unfold oMul at e
  split at e
  · split at e
    · rename_i hb
      cases e; cases hx; cases hy
      exact mul_int (ok ρ _ s.heap _ (.int _ _) (.refl hi)) (.of_left (intBits_le_64 (by (first | lia | omega)) (by (first | lia | omega))))
    · cases e
  · split at e
    · rename_i xs e1
      split at e
      · rename_i hl
        cases e
        obtain ⟨a, vs, j, rfl, q1, ho, r1⟩ := hi.list e1 hx
        cases hy with
        | int _ t =>
        rename_i k _
        have hz : vs.length = 1 := r1.length.trans hl.2.2
        have hne : vs.toArray.isEmpty = false := by
          cases vs with
          | nil => simp at hz
          | cons _ _ => rfl
        refine wpAny_binaryOp_repeat_ref (T := "list") (U := "int") (by decide) ⟨_, ho, rfl⟩ (fun s' => typeIs_int s' k t) noFill_list_mul PySem.F.fills_int_mul PySem.F.slot_int_rmul repeat_list PySem.F.slot_int_index.lookup
          (call_meets PySem.F.slot_int_rmul (typeIs_int s k t) PySem.F.entry_int_rmul (PySem.F.args_int_rmul_2 _ _) (int___rmul___int_list k t a vs.toArray j)
            ⟨ho, rfl, ⟨_, ho, rfl⟩, call_meets PySem.F.slot_list_mul ⟨_, ho, rfl⟩ PySem.F.entry_list_mul (PySem.F.args_list_mul_2 _ _)
              (AutoListH.list___mul___list_int_3 a vs.toArray j k t (by simp [Builtin.List.listFitsIndex]; (first | lia | omega)) (by rw [List.size_toArray, hz]; (first | lia | omega)) (by simp [Builtin.List.listTooLong, sizeLine, hz]; (first | lia | omega))) ⟨ho, ?_⟩⟩)
        have go : ∀ m : Nat, VRs W ρ s.heap (List.replicate m xs).flatten (List.replicate m vs).flatten := by
          intro m
          induction m with
          | zero => simpa using .nil
          | succ m ih => simpa [List.replicate_succ] using VRs.append ih r1
        have fl : ∀ (m : Nat) (ac : List Value), List.foldl (fun x1 x2 => x1 ++ x2) ac.toArray (List.replicate m vs.toArray) = (ac ++ (List.replicate m vs).flatten).toArray := by
          intro m
          induction m with
          | zero => intro ac; simp
          | succ m ih =>
            intro ac
            rw [List.replicate_succ, List.foldl_cons, List.append_toArray, ih]
            simp [List.replicate_succ]
        have e : List.foldl (fun x1 x2 => x1 ++ x2) #[] (List.replicate (if vs.toArray.isEmpty = true then 0 else k.toNat) vs.toArray) = (List.replicate k.toNat vs).flatten.toArray := by
          rw [hne, if_neg (by decide)]
          have := fl k.toNat []
          simpa using this
        rw [e]
        exact ok _ _ _ _ (.lst (by rw [← hi.len]; simp)) (hi.pushL (go k.toNat))
      · cases e
    · cases e
  · cases e
end
end Mine
end
section
set_option tactic.hygienic false
open PySem PySem.W PyProof.Rows PySem.Calls
namespace Mine

section
variable {W : Wd} {n : Nat}

/-! ## comparisons -/
noncomputable def oIntCmp (f : Int → Int → Bool) : V → V → Sto → R V
  | .int a, .int b, σ => .ok (.bool (f a b)) σ
  | _, _, _ => .stuck
noncomputable def oEq : V → V → Sto → R V
  | .int a, .int b, σ => .ok (.bool (a == b)) σ
  | .lst r, .lst q, σ => match σ[r]?, σ[q]? with
    | some xs, some [] => if xs.length ≤ limN then .ok (.bool xs.isEmpty) σ else .stuck
    | _, _ => .stuck
  | _, _, _ => .stuck
noncomputable def isNoneV : V → Bool
  | .none => true
  | _ => false
noncomputable def oIs : V → V → Sto → R V
  | x, .none, σ => .ok (.bool (isNoneV x)) σ
  | _, _, _ => .stuck
noncomputable def oIsNot : V → V → Sto → R V
  | x, .none, σ => .ok (.bool (!isNoneV x)) σ
  | _, _, _ => .stuck

set_option tactic.hygienic true in
theorem p_eq : P2 W n (VR W) (compareOp .Eq) oEq := by
  refine P2.mk (fun x y σ => by unfold oEq; (repeat' split) <;> simp) fun A fs ρ σ s x y v u Q E z σ' hr hf hi hx hy e ok => ?_
  unfold oEq at e
  split at e
  · cases e; cases hx; cases hy
    exact eq_int (ok ρ _ s.heap s.toks (.bool _) (.refl hi))
  · split at e
    · rename_i xs e1 e2
      split at e
      · rename_i hl
        cases e
        obtain ⟨a, vs, k, rfl, q1, ho, r1⟩ := hi.list e1 hx
        obtain ⟨b, ws, j, rfl, q2, ho2, r2⟩ := hi.list e2 hy
        cases r2
        have go : Q (.bool xs.isEmpty) s := ok ρ _ s.heap s.toks (.bool _) (.refl hi)
        show wpAny _ _ (richCompare .Eq _ _) _ _ _
        cases xs with
        | nil =>
          cases r1
          have := SeqAt.RcAt.lists (A := A) (s := s) (l := a) (b := b) (items := #[]) (items2 := #[]) (e := fun _ => true) ⟨_, ho, rfl, k, rfl⟩ ⟨_, ho2, rfl, j, rfl⟩ rfl (by have := hr.un; (first | lia | omega)) (fun j h1 => absurd h1 (Nat.not_lt_zero _))
          exact this _ _ _ _ (by simpa using go)
        | cons x xs =>
          have hz : vs.length = xs.length + 1 := r1.length
          have := SeqAt.RcAt.lists_lengths (A := A) (s := s) (l := a) (b := b) (items := vs.toArray) (items2 := #[]) ⟨_, ho, rfl, k, rfl⟩ ⟨_, ho2, rfl, j, rfl⟩ (by simp [hz]) (by have := hr.un; (first | lia | omega))
          exact this _ _ _ _ (by simpa using go)
      · cases e
    · cases e
  · cases e

theorem p_ne : P2 W n (VR W) (compareOp .NotEq) (oIntCmp (· != ·)) := by
  refine P2.mk (fun x y σ => by unfold oIntCmp; (repeat' split) <;> simp) fun A fs ρ σ s x y v u Q E z σ' hr hf hi hx hy e ok => ?_
  unfold oIntCmp at e
  split at e
  · cases e; cases hx; cases hy
    exact ne_int (ok ρ _ s.heap s.toks (.bool _) (.refl hi))
  · cases e
theorem p_lt : P2 W n (VR W) (compareOp .Lt) (oIntCmp fun a b => decide (a < b)) := by
  refine P2.mk (fun x y σ => by unfold oIntCmp; (repeat' split) <;> simp) fun A fs ρ σ s x y v u Q E z σ' hr hf hi hx hy e ok => ?_
  unfold oIntCmp at e
  split at e
  · cases e; cases hx; cases hy
    exact lt_int (ok ρ _ s.heap s.toks (.bool _) (.refl hi))
  · cases e
theorem p_le : P2 W n (VR W) (compareOp .LtE) (oIntCmp fun a b => decide (a ≤ b)) := by
  refine P2.mk (fun x y σ => by unfold oIntCmp; (repeat' split) <;> simp) fun A fs ρ σ s x y v u Q E z σ' hr hf hi hx hy e ok => ?_
  unfold oIntCmp at e
  split at e
  · cases e; cases hx; cases hy
    exact le_int (ok ρ _ s.heap s.toks (.bool _) (.refl hi))
  · cases e
theorem p_gt : P2 W n (VR W) (compareOp .Gt) (oIntCmp fun a b => decide (b < a)) := by
  refine P2.mk (fun x y σ => by unfold oIntCmp; (repeat' split) <;> simp) fun A fs ρ σ s x y v u Q E z σ' hr hf hi hx hy e ok => ?_
  unfold oIntCmp at e
  split at e
  · cases e; cases hx; cases hy
    exact gt_int (ok ρ _ s.heap s.toks (.bool _) (.refl hi))
  · cases e
theorem p_ge : P2 W n (VR W) (compareOp .GtE) (oIntCmp fun a b => decide (b ≤ a)) := by
  refine P2.mk (fun x y σ => by unfold oIntCmp; (repeat' split) <;> simp) fun A fs ρ σ s x y v u Q E z σ' hr hf hi hx hy e ok => ?_
  unfold oIntCmp at e
  split at e
  · cases e; cases hx; cases hy
    exact ge_int (ok ρ _ s.heap s.toks (.bool _) (.refl hi))
  · cases e

theorem isNone_VR {ρ : List Addr} {h : Heap} {x : V} {v : Value} (r : VR W ρ h x v) : (v == Value.none) = isNoneV x := by
  cases r <;> first | rfl | (simp [isNoneV])
theorem p_is : P2 W n (VR W) (compareOp .Is) oIs := by
  refine P2.mk (fun x y σ => by unfold oIs; (repeat' split) <;> simp) fun A fs ρ σ s x y v u Q E z σ' hr hf hi hx hy e ok => ?_
  unfold oIs at e
  split at e
  · cases e; cases hy
    refine is_none ?_
    rw [isNone_VR hx]
    exact ok ρ _ s.heap s.toks (.bool _) (.refl hi)
  · cases e
theorem p_isNot : P2 W n (VR W) (compareOp .IsNot) oIsNot := by
  refine P2.mk (fun x y σ => by unfold oIsNot; (repeat' split) <;> simp) fun A fs ρ σ s x y v u Q E z σ' hr hf hi hx hy e ok => ?_
  unfold oIsNot at e
  split at e
  · cases e; cases hy
    refine isNot_none ?_
    rw [isNone_VR hx]
    exact ok ρ _ s.heap s.toks (.bool _) (.refl hi)
  · cases e

noncomputable def intsOf : List V → Option (List Int)
  | [] => some []
  | .int i :: r => (intsOf r).map (i :: ·)
  | _ :: _ => none
theorem intsOf_spec : ∀ {xs : List V} {ns : List Int}, intsOf xs = some ns → xs = ns.map V.int
  | [], _, e => by cases e; rfl
  | .int i :: r, ns, e => by
    simp only [intsOf, Option.map_eq_some_iff] at e
    obtain ⟨ms, a, rfl⟩ := e
    rw [intsOf_spec a]; rfl
  | .none :: _, _, e => by cases e
  | .bool _ :: _, _, e => by cases e
  | .tup _ :: _, _, e => by cases e
  | .lst _ :: _, _, e => by cases e
  | .cl _ :: _, _, e => by cases e
  | .tab _ :: _, _, e => by cases e
  | .tel _ :: _, _, e => by cases e
  | .rng _ :: _, _, e => by cases e
@[simp] theorem intsOf_map (ns : List Int) : intsOf (ns.map V.int) = some ns := by
  induction ns with
  | nil => rfl
  | cons i r ih => simp [intsOf, ih]

/-- the tables: their values, told -/
structure TabF (W : Wd) (tv : Nat → Int → Option V) : Prop where
  map : ∀ k, k < 3 → ∃ f, W.base.MapOf (intKind W.prog W.w) (W.tabA k) f ∧ ∀ i, (f i = none ∧ tv k i = none) ∨ ∃ v x, f i = some v ∧ tv k i = some x ∧ ∀ ρ h, W.base.StaysIn h → VR W ρ h x v
  sys : ∀ k, (W.tabA k == sysModules) = false

theorem TabF.isSome {f : Int → Option Value} {g : Int → Option V} {P : Value → V → Prop} (hv : ∀ i, (f i = none ∧ g i = none) ∨ ∃ v x, f i = some v ∧ g i = some x ∧ P v x) (a : Int) : (f a).isSome = (g a).isSome := by
  rcases hv a with ⟨e1, e2⟩ | ⟨v, x, e1, e2, _⟩ <;> rw [e1, e2] <;> rfl

noncomputable def oIn (tv : Nat → Int → Option V) : V → V → Sto → R V
  | .int a, .tup xs, σ => match intsOf xs with
    | some ns => .ok (.bool (ns.contains a)) σ
    | none => .stuck
  | .int a, .lst r, σ => match σ[r]?.bind intsOf with
    | some ns => .ok (.bool (ns.contains a)) σ
    | none => .stuck
  | .int a, .tab k, σ => if k < 3 then .ok (.bool (tv k a).isSome) σ else .stuck
  | _, _, _ => .stuck
noncomputable def oNotIn (tv : Nat → Int → Option V) : V → V → Sto → R V
  | .int a, .tup xs, σ => match intsOf xs with
    | some ns => .ok (.bool (!ns.contains a)) σ
    | none => .stuck
  | .int a, .lst r, σ => match σ[r]?.bind intsOf with
    | some ns => .ok (.bool (!ns.contains a)) σ
    | none => .stuck
  | .int a, .tab k, σ => if k < 3 then .ok (.bool (!(tv k a).isSome)) σ else .stuck
  | _, _, _ => .stuck

theorem any_isInt' {vs : List Value} {ns : List Int} (h : IntsAre vs ns) (a : Int) : (vs.toArray.any (PyProof.Rows.isInt a)) = ns.contains a := by
  rw [List.any_toArray, any_isInt a h, List.contains_eq_any_beq]
  congr 1
  funext i
  by_cases h : i = a
  · subst h; simp
  · rw [beq_eq_false_iff_ne.mpr h, beq_eq_false_iff_ne.mpr (Ne.symm h)]
set_option tactic.hygienic true in
theorem p_in {tv : Nat → Int → Option V} (T : TabF W tv) : P2 W n (VR W) (compareOp .In) (oIn tv) := by
  refine P2.mk (fun x y σ => by unfold oIn; (repeat' split) <;> simp) fun A fs ρ σ s x y v u Q E z σ' hr hf hi hx hy e ok => ?_
  unfold oIn at e
  split at e
  · split at e
    · rename_i ns hn
      cases e
      cases hx with
      | int _ t =>
      cases hy with
      | tup ho r =>
        rw [intsOf_spec hn] at r
        have hI := r.toInts
        refine SeqRoads2.in_tuple (PyProof.Rows.isInt _) (fun y hy => eq_isInt _ t hI y (by simpa using hy)) ho ?_
        rw [any_isInt' hI]
        exact ok ρ _ s.heap s.toks (.bool _) (.refl hi)
    · cases e
  · split at e
    · rename_i ns hn
      cases e
      obtain ⟨xs, e1, e2⟩ := Option.bind_eq_some_iff.mp hn
      obtain ⟨b, ws, j, rfl, q2, ho2, r2⟩ := hi.list e1 hy
      rw [intsOf_spec e2] at r2
      have hI := r2.toInts
      cases hx with
      | int _ t =>
      refine SeqRoads2.in_list (PyProof.Rows.isInt _) (fun y hy => eq_isInt _ t hI y (by simpa using hy)) ho2 ?_
      rw [any_isInt' hI]
      exact ok ρ _ s.heap s.toks (.bool _) (.refl hi)
    · cases e
  · split at e
    · rename_i k hk
      cases e
      cases hx with
      | int _ t =>
      cases hy with
      | tab _ =>
      obtain ⟨f, ⟨o, es, ep, hm, hm'⟩, hv⟩ := T.map _ hk
      refine wpAny_in_of (intKind_is W.prog W.w _ t) (T.sys _) ⟨o, es, ep, hi.stays _ _ hm, hm'⟩ ?_
      rw [TabF.isSome hv]
      exact ok ρ _ s.heap (s.toks + 1) (.bool _) (.refl hi)
    · cases e
  · cases e
set_option tactic.hygienic true in
theorem p_notIn {tv : Nat → Int → Option V} (T : TabF W tv) : P2 W n (VR W) (compareOp .NotIn) (oNotIn tv) := by
  refine P2.mk (fun x y σ => by unfold oNotIn; (repeat' split) <;> simp) fun A fs ρ σ s x y v u Q E z σ' hr hf hi hx hy e ok => ?_
  unfold oNotIn at e
  split at e
  · split at e
    · rename_i ns hn
      cases e
      cases hx with
      | int _ t =>
      cases hy with
      | tup ho r =>
        rw [intsOf_spec hn] at r
        have hI := r.toInts
        refine SeqRoads2.notIn_tuple (PyProof.Rows.isInt _) (fun y hy => eq_isInt _ t hI y (by simpa using hy)) ho ?_
        rw [any_isInt' hI]
        exact ok ρ _ s.heap s.toks (.bool _) (.refl hi)
    · cases e
  · split at e
    · rename_i ns hn
      cases e
      obtain ⟨xs, e1, e2⟩ := Option.bind_eq_some_iff.mp hn
      obtain ⟨b, ws, j, rfl, q2, ho2, r2⟩ := hi.list e1 hy
      rw [intsOf_spec e2] at r2
      have hI := r2.toInts
      cases hx with
      | int _ t =>
      refine SeqRoads2.notIn_list (PyProof.Rows.isInt _) (fun y hy => eq_isInt _ t hI y (by simpa using hy)) ho2 ?_
      rw [any_isInt' hI]
      exact ok ρ _ s.heap s.toks (.bool _) (.refl hi)
    · cases e
  · split at e
    · rename_i k hk
      cases e
      cases hx with
      | int _ t =>
      cases hy with
      | tab _ =>
      obtain ⟨f, ⟨o, es, ep, hm, hm'⟩, hv⟩ := T.map _ hk
      refine wpAny_notIn_of (intKind_is W.prog W.w _ t) (T.sys _) ⟨o, es, ep, hi.stays _ _ hm, hm'⟩ ?_
      rw [TabF.isSome hv]
      exact ok ρ _ s.heap (s.toks + 1) (.bool _) (.refl hi)
    · cases e
  · cases e

/-! ## truth, minus, not -/
noncomputable def oTruth : V → Sto → R Bool
  | .bool b, σ => .ok b σ
  | .int a, σ => .ok (a != 0) σ
  | .lst r, σ => match σ[r]? with
    | some xs => if xs.length ≤ limN then .ok (!xs.isEmpty) σ else .stuck
    | none => .stuck
  | .cl ns, σ => if ns.length ≤ limN then .ok (!ns.isEmpty) σ else .stuck
  | .tup xs, σ => if xs.length ≤ limN then .ok (!xs.isEmpty) σ else .stuck
  | _, _ => .stuck
theorem empty_of_len {α β : Type} {xs : List α} {ys : List β} (h : ys.length = xs.length) : ys.toArray.isEmpty = xs.isEmpty := by
  cases xs <;> cases ys <;> first | rfl | (simp at h)
set_option tactic.hygienic true in
theorem p_truth : P1 W n (fun _ _ b b' => b = b') truthy oTruth := by
  refine P1.mk (fun x σ => by unfold oTruth; (repeat' split) <;> simp) fun A fs ρ σ s x v Q E z σ' hr hf hi hx e ok => ?_
  unfold oTruth at e
  split at e
  · cases e; cases hx
    exact wpAny_truthy_bool (ok ρ _ s.heap s.toks rfl (.refl hi))
  · cases e; cases hx
    exact truthy_int (ok ρ _ s.heap s.toks rfl (.refl hi))
  · split at e
    · rename_i xs e1
      split at e
      · rename_i hl
        cases e
        obtain ⟨b, ws, j, rfl, q2, ho2, r2⟩ := hi.list e1 hx
        refine wpAny_truthy_list ⟨_, ho2, rfl, j, rfl⟩ (by rw [List.size_toArray, r2.length]; exact le_63 hl) ?_
        rw [empty_of_len r2.length]
        exact ok ρ _ s.heap _ rfl (.refl hi)
      · cases e
    · cases e
  · split at e
    · rename_i hl
      cases e
      cases hx with
      | cl hL hI =>
      obtain ⟨o, ho, r⟩ := hL
      refine wpAny_truthy_list ⟨o, hi.stays _ _ ho, r⟩ (by rw [List.size_toArray, hI.length]; exact le_63 hl) ?_
      rw [empty_of_len hI.length]
      exact ok ρ _ s.heap _ rfl (.refl hi)
    · cases e
  · split at e
    · rename_i hl
      cases e
      cases hx with
      | tup ho r =>
      refine truthy_tuple ⟨_, ho, rfl, _, rfl⟩ (by rw [List.size_toArray, r.length]; exact le_63 hl) ?_
      rw [empty_of_len r.length]
      exact ok ρ _ s.heap _ rfl (.refl hi)
    · cases e
  · cases e

noncomputable def oNeg : V → Sto → R V
  | .int a, σ => .ok (.int (-a)) σ
  | _, _ => .stuck
theorem p_neg : P1 W n (VR W) (unaryOp .USub) oNeg := by
  refine P1.mk (fun x σ => by unfold oNeg; (repeat' split) <;> simp) fun A fs ρ σ s x v Q E z σ' hr hf hi hx e ok => ?_
  unfold oNeg at e
  split at e
  · cases e; cases hx
    exact neg_int (ok ρ _ s.heap _ (.int _ _) (.refl hi))
  · cases e
end
end Mine
end
section
set_option tactic.hygienic false
open PySem PySem.W PyProof.Rows PySem.Calls
namespace Mine

section
variable {W : Wd} {lay : List Str} {env : Env} {n : Nat}

/-! ## items -/
noncomputable def oItem (tv : Nat → Int → Option V) : V → V → Sto → R V
  | .tup xs, .int k, σ => if 0 ≤ k ∧ k < 1000 then (match xs[k.toNat]? with | some x => .ok x σ | none => .stuck) else .stuck
  | .lst r, .int k, σ => if 0 ≤ k ∧ k < 1000 then (match σ[r]?.bind (·[k.toNat]?) with | some x => .ok x σ | none => .stuck) else .stuck
  | .cl ns, .int k, σ => if 0 ≤ k ∧ k < 1000 then (match ns[k.toNat]? with | some x => .ok (.int x) σ | none => .stuck) else .stuck
  | .tab t, .int k, σ => if t < 3 then (match tv t k with | some x => .ok x σ | none => .stuck) else .stuck
  | _, _, _ => .stuck

theorem seqIndex_of {k : Int} {m : Nat} (h0 : 0 ≤ k) (h : k.toNat < m) : seqIndex? k m = some k.toNat := by
  unfold seqIndex?
  have e1 : (if k < 0 then k + (m : Int) else k) = k := if_neg (by (first | lia | omega))
  have e2 : (decide (0 ≤ k) && decide (k < (m : Int))) = true := by simp; (first | lia | omega)
  simp only [e1, e2, if_true]
theorem IntsAre.get' {vs : List Value} {ns : List Int} (h : IntsAre vs ns) {i : Nat} {k : Int} (e : ns[i]? = some k) : ∃ t, vs[i]? = some (.int k t) := h.get i k e

set_option tactic.hygienic true in
theorem p_item {tv : Nat → Int → Option V} (T : TabF W tv) {value slice : PySem.Expr} (hsl : ∀ o i, subscripted slice false o i = operate [o, i] (getItem o i)) :
    P2 W n (VR W) (fun o i => subscriptTail value slice o i) (oItem tv) := by
  refine P2.mk (fun x y σ => by unfold oItem; (repeat' split) <;> simp) fun A fs ρ σ s x y v u Q E z σ' hr hf hi hx hy e ok => ?_
  unfold oItem at e
  split at e
  · split at e
    · rename_i xs k hk
      split at e
      · rename_i w hw
        cases e
        cases hx with
        | tup ho r =>
        cases hy with
        | int _ t =>
        obtain ⟨y, hy, hv⟩ := r.get hw
        have hlt := (List.getElem?_eq_some_iff.mp hw).1
        have hl := r.length
        exact item_tupleT (k := k) (j := k.toNat) ⟨_, ho, rfl, _, rfl⟩ (by (first | lia | omega)) (by (first | lia | omega)) (seqIndex_of hk.1 (by (first | lia | omega))) hy (ok ρ y s.heap s.toks hv (.refl hi)) (hsl _ _)
      · cases e
    · cases e
  · split at e
    · rename_i r k hk
      split at e
      · rename_i w hw
        cases e
        obtain ⟨xs, e1, e2⟩ := Option.bind_eq_some_iff.mp hw
        obtain ⟨a, vs, j, rfl, q1, ho, r1⟩ := hi.list e1 hx
        cases hy with
        | int _ t =>
        obtain ⟨y, hy, hv⟩ := r1.get e2
        have hL : s.heap.IsList a vs.toArray := ⟨_, ho, rfl, j, rfl⟩
        exact tail_any hL.typeIs slot_list_getitem.lookup (wpAny_getItem_list hL hk.1 (by (first | lia | omega)) (by simpa using hy) (ok ρ y s.heap s.toks hv (.refl hi))) (hsl _ _)
      · cases e
    · cases e
  · split at e
    · rename_i ns k hk
      split at e
      · rename_i w hw
        cases e
        cases hx with
        | cl hL hI =>
        cases hy with
        | int _ t =>
        obtain ⟨t', ht'⟩ := hI.get _ _ hw
        obtain ⟨o, ho, hr'⟩ := hL
        have hL : s.heap.IsList _ _ := ⟨o, hi.stays _ _ ho, hr'⟩
        exact tail_any hL.typeIs slot_list_getitem.lookup (wpAny_getItem_list hL hk.1 (by (first | lia | omega)) (by simpa using ht') (ok ρ _ s.heap s.toks (.int _ t') (.refl hi))) (hsl _ _)
      · cases e
    · cases e
  · split at e
    · rename_i t k hk
      split at e
      · rename_i w hw
        cases e
        cases hx with
        | tab _ =>
        cases hy with
        | int _ t' =>
        obtain ⟨f, ⟨o, es, ep, hm, hm'⟩, hv⟩ := T.map _ hk
        have hM : s.heap.MapOf (intKind W.prog W.w) (W.tabA t) f := ⟨o, es, ep, hi.stays _ _ hm, hm'⟩
        rcases hv k with ⟨_, e2⟩ | ⟨v, x, e1, e2, e3⟩
        · rw [hw] at e2; cases e2
        · rw [hw] at e2; cases e2
          exact tail_any hM.typeIs slot_dict_getitem.lookup (wpAny_getItem_of (intKind_is W.prog W.w k t') hM e1 (ok ρ v s.heap (s.toks + 1) (e3 _ _ hi.stays) (.refl hi))) (hsl _ _)
      · cases e
    · cases e
  · cases e

/-! ## the combinators of expressions -/
theorem good_bin {l r : PySem.Expr} {op : Operator} {pos : Pos} {dl dr : DE} {k : V → V → Sto → R V} (hl : GoodE W lay env n (eval l env) dl) (hr : GoodE W lay env n (eval r env) dr) (p : P2 W n (VR W) (binaryOp op) k) :
    GoodE W lay env n (eval (.BinOp l op r pos) env) (dThen2 dl dr k) :=
  fun _ _ _ _ _ _ _ h1 h2 h3 h4 h5 ok ex => wpAny_BinOp (use2 hl hr p h1 h2 h3 h4 h5 ok ex)
theorem good_cmp {l r : PySem.Expr} {op : CmpOp} {pos : Pos} {dl dr : DE} {k : V → V → Sto → R V} (hl : GoodE W lay env n (eval l env) dl) (hr : GoodE W lay env n (eval r env) dr) (p : P2 W n (VR W) (compareOp op) k)
    (hm : behindInMarks op r = false) : GoodE W lay env n (eval (.Compare l [op] [r] pos) env) (dThen2 dl dr k) :=
  fun _ _ _ _ _ _ _ h1 h2 h3 h4 h5 ok ex => wpAny_Compare1 (use2 hl hr p h1 h2 h3 h4 h5 ok ex) hm
theorem good_neg {x : PySem.Expr} {pos : Pos} {d : DE} (hx : GoodE W lay env n (eval x env) d) : GoodE W lay env n (eval (.UnaryOp .USub x pos) env) (dThen d oNeg) :=
  fun _ _ _ _ _ _ _ h1 h2 h3 h4 h5 ok ex => wpAny_UnaryOp (use1 hx p_neg h1 h2 h3 h4 h5 ok ex)
theorem good_sub {tv : Nat → Int → Option V} (T : TabF W tv) {value slice : PySem.Expr} {pos : Pos} {dv ds : DE} (hv : GoodE W lay env n (eval value env) dv) (hs : GoodE W lay env n (eval slice env) ds)
    (hsl : ∀ o i, subscripted slice false o i = operate [o, i] (getItem o i)) : GoodE W lay env n (eval (.Subscript value slice pos) env) (dThen2 dv ds (oItem tv)) :=
  fun _ _ _ _ _ _ _ h1 h2 h3 h4 h5 ok ex => Subscript_ (use2 hv hs (p_item T hsl) h1 h2 h3 h4 h5 ok ex)

/-! ### tests -/
theorem use_then {α β : Type} {rel : List Addr → Heap → β → α → Prop} {t : Sem α} {d : St → R β} (g : Good W lay env n rel t d)
    {γ : Type} {k : β → Sto → R γ} {A : Around} {fs : List Env} {ρ : List Addr} {st : St} {s : Shared} {Q : α → Shared → Prop} {E : Value → Shared → Prop}
    (hr : Room n A) (hf : A.frames = some fs) (ei : EI W lay env ρ st.loc s.heap) (hi : HI W fs ρ st.sto s.heap) (hs : dThen d k st ≠ .stuck)
    (ok : ∀ x σ' ρ' v h' tk, d st = .ok x σ' → rel ρ' h' x v → Step W fs ρ s.heap ρ' σ' h' → EI W lay env ρ' st.loc h' → k x σ' ≠ .stuck → dThen d k st = k x σ' → Q v { s with heap := h', toks := tk })
    (ex : ∀ e' s', dThen d k st = .exc → XP W fs ρ s e' s' → E e' s') : wpAny W.M A t Q E s :=
  g A fs ρ st s _ _ hr hf ei hi (R.ns hs) (fun x σ' ρ' v h' tk e r S => ok x σ' ρ' v h' tk e r S (ei.after hi S) (R.ns2 hs e) (R.of e rfl)) fun e' s' e x => ex e' s' (R.ofX e) x

theorem good_testV {x : PySem.Expr} {d : DE} (hx : GoodE W lay env n (eval x env) d) (he : isTrue x env (eval x env) = (do let v ← eval x env; standAt x.pos; holding [v] (truthy v))) :
    GoodB W lay env n (isTrue x env (eval x env)) (dThen d oTruth) :=
  fun _ _ _ _ _ _ _ h1 h2 h3 h4 h5 ok ex => wpAny_isTrue_value (use1 hx p_truth h1 h2 h3 h4 h5 (fun x σ' ρ' v h' tk e r S => ok x σ' ρ' v h' tk e r S) ex) he

noncomputable def oBoolV : V → Sto → R Bool
  | .bool b, σ => .ok b σ
  | _, _ => .stuck
set_option tactic.hygienic true in
theorem good_testC {l r : PySem.Expr} {op : CmpOp} {pos : Pos} {dl dr : DE} {k : V → V → Sto → R V} (hl : GoodE W lay env n (eval l env) dl) (hr : GoodE W lay env n (eval r env) dr) (p : P2 W n (VR W) (compareOp op) k)
    (hm : behindInMarks op r = false) : GoodB W lay env n (isTrue (.Compare l [op] [r] pos) env (eval (.Compare l [op] [r] pos) env)) (dThen (dThen2 dl dr k) oBoolV) := by
  intro A fs ρ st s Q E h1 h2 h3 h4 h5 ok ex
  refine wpAny_isTrue_Compare1 (use2 hl hr p h1 h2 h3 h4 (R.ns h5) (fun x σ' ρ' v h' tk e r S => ?_) fun e' s' e x => ex e' s' (R.ofX e) x) hm
  have hb := R.ns2 h5 e
  cases x <;> first | exact absurd rfl hb | skip
  rename_i b
  cases r
  exact wpAny_truthy_bool (ok b σ' ρ' b h' tk (R.of e rfl) rfl S)

noncomputable def dNot (d : DB) : DB := fun st => (d st).bind fun b σ => .ok (!b) σ
theorem good_not {x : PySem.Expr} {pos : Pos} {whole : Sem Value} {d : DB} (hx : GoodB W lay env n (isTrue x env (eval x env)) d) : GoodB W lay env n (isTrue (.UnaryOp .Not x pos) env whole) (dNot d) := by
  intro A fs ρ st s Q E h1 h2 h3 h4 h5 ok ex
  refine wpAny_isTrue_Not (hx A fs ρ st s _ _ h1 h2 h3 h4 (R.ns h5) (fun x σ' ρ' v h' tk e r S => ?_) fun e' s' e x => ex e' s' (R.ofX e) x)
  cases r
  exact ok _ σ' ρ' _ h' tk (R.of e rfl) rfl S

noncomputable def dAnd (d e : DB) : DB := fun st => (d st).bind fun b σ => if b then e ⟨st.loc, σ⟩ else .ok false σ
noncomputable def dOr (d e : DB) : DB := fun st => (d st).bind fun b σ => if b then .ok true σ else e ⟨st.loc, σ⟩
noncomputable def dTrue : DB := fun st => .ok true st.sto
noncomputable def dFalse : DB := fun st => .ok false st.sto
theorem good_and_nil : GoodB W lay env n (allTrue .And [] env) dTrue := fun _ _ _ _ _ _ _ _ _ _ h4 _ ok _ => wpAny_allTrue_And_nil (ok _ _ _ _ _ _ rfl rfl (.refl h4))
theorem good_or_nil : GoodB W lay env n (allTrue .Or [] env) dFalse := fun _ _ _ _ _ _ _ _ _ _ h4 _ ok _ => wpAny_allTrue_Or_nil (ok _ _ _ _ _ _ rfl rfl (.refl h4))
theorem good_and_cons {x : PySem.Expr} {rest : List PySem.Expr} {d e : DB} (hx : GoodB W lay env n (isTrue x env (eval x env)) d) (hr : GoodB W lay env n (allTrue .And rest env) e) : GoodB W lay env n (allTrue .And (x :: rest) env) (dAnd d e) := by
  intro A fs ρ st s Q E h1 h2 h3 h4 h5 ok ex
  refine wpAny_allTrue_And_cons (hx A fs ρ st s _ _ h1 h2 h3 h4 (R.ns h5) (fun b σ' ρ' v h' tk eq r S => ?_) fun e' s' eq x => ex e' s' (R.ofX eq) x)
  cases r
  have hs := R.ns2 h5 eq
  cases b
  · exact ok _ σ' ρ' _ h' tk (R.of eq rfl) rfl S
  · exact hr A fs ρ' ⟨st.loc, σ'⟩ _ _ _ h1 h2 (h3.after h4 S) S.hi hs (fun x σ₂ ρ₂ v₂ h₂ tk₂ e₂ r₂ S₂ => ok x σ₂ ρ₂ v₂ h₂ tk₂ (R.of eq e₂) r₂ (S.trans S₂)) fun e' s' e₂ x => ex e' s' (R.of eq e₂) (x.back S)
theorem good_or_cons {x : PySem.Expr} {rest : List PySem.Expr} {d e : DB} (hx : GoodB W lay env n (isTrue x env (eval x env)) d) (hr : GoodB W lay env n (allTrue .Or rest env) e) : GoodB W lay env n (allTrue .Or (x :: rest) env) (dOr d e) := by
  intro A fs ρ st s Q E h1 h2 h3 h4 h5 ok ex
  refine wpAny_allTrue_Or_cons (hx A fs ρ st s _ _ h1 h2 h3 h4 (R.ns h5) (fun b σ' ρ' v h' tk eq r S => ?_) fun e' s' eq x => ex e' s' (R.ofX eq) x)
  cases r
  have hs := R.ns2 h5 eq
  cases b
  · exact hr A fs ρ' ⟨st.loc, σ'⟩ _ _ _ h1 h2 (h3.after h4 S) S.hi hs (fun x σ₂ ρ₂ v₂ h₂ tk₂ e₂ r₂ S₂ => ok x σ₂ ρ₂ v₂ h₂ tk₂ (R.of eq e₂) r₂ (S.trans S₂)) fun e' s' e₂ x => ex e' s' (R.of eq e₂) (x.back S)
  · exact ok _ σ' ρ' _ h' tk (R.of eq rfl) rfl S
theorem good_boolop {op : BoolOp} {values : List PySem.Expr} {pos : Pos} {whole : Sem Value} {d : DB} (h : GoodB W lay env n (allTrue op values env) d) : GoodB W lay env n (isTrue (.BoolOp op values pos) env whole) d :=
  fun _ _ _ _ _ _ _ h1 h2 h3 h4 h5 ok ex => wpAny_isTrue_BoolOp (h _ _ _ _ _ _ _ h1 h2 h3 h4 h5 ok ex)

noncomputable def dIf {α : Type} (t : DB) (a b : St → R α) : St → R α := fun st => (t st).bind fun c σ => if c then a ⟨st.loc, σ⟩ else b ⟨st.loc, σ⟩
theorem good_ifexp {test body orelse : PySem.Expr} {pos : Pos} {t : DB} {a b : DE} (ht : GoodB W lay env n (isTrue test env (eval test env)) t) (ha : GoodE W lay env n (eval body env) a) (hb : GoodE W lay env n (eval orelse env) b) :
    GoodE W lay env n (eval (.IfExp test body orelse pos) env) (dIf t a b) := by
  intro A fs ρ st s Q E h1 h2 h3 h4 h5 ok ex
  refine wpAny_IfExp (ht A fs ρ st s _ _ h1 h2 h3 h4 (R.ns h5) (fun c σ' ρ' v h' tk eq r S => ?_) fun e' s' eq x => ex e' s' (R.ofX eq) x)
  cases r
  have hs := R.ns2 h5 eq
  cases c
  · exact hb A fs ρ' ⟨st.loc, σ'⟩ _ _ _ h1 h2 (h3.after h4 S) S.hi hs (fun x σ₂ ρ₂ v₂ h₂ tk₂ e₂ r₂ S₂ => ok x σ₂ ρ₂ v₂ h₂ tk₂ (R.of eq e₂) r₂ (S.trans S₂)) fun e' s' e₂ x => ex e' s' (R.of eq e₂) (x.back S)
  · exact ha A fs ρ' ⟨st.loc, σ'⟩ _ _ _ h1 h2 (h3.after h4 S) S.hi hs (fun x σ₂ ρ₂ v₂ h₂ tk₂ e₂ r₂ S₂ => ok x σ₂ ρ₂ v₂ h₂ tk₂ (R.of eq e₂) r₂ (S.trans S₂)) fun e' s' e₂ x => ex e' s' (R.of eq e₂) (x.back S)

/-- a chain of two comparisons of ints, as a test: a <= b < c -/
noncomputable def dChain (dl d1 d2 : DE) (k1 k2 : V → V → Sto → R V) : DB := fun st => (dl st).bind fun a σ => (d1 ⟨st.loc, σ⟩).bind fun b σ => (k1 a b σ).bind fun c σ => (oBoolV c σ).bind fun t σ =>
  if t then (d2 ⟨st.loc, σ⟩).bind fun e σ => (k2 b e σ).bind fun f σ => oBoolV f σ else .ok false σ
set_option tactic.hygienic true in
theorem good_chain {l r1 r2 : PySem.Expr} {op1 op2 : CmpOp} {pos : Pos} {whole : Sem Value} {dl d1 d2 : DE} {k1 k2 : V → V → Sto → R V} (hl : GoodE W lay env n (eval l env) dl) (hr1 : GoodE W lay env n (eval r1 env) d1) (hr2 : GoodE W lay env n (eval r2 env) d2)
    (p1 : P2 W n (VR W) (compareOp op1) k1) (p2 : P2 W n (VR W) (compareOp op2) k2) (hm : lastMarks [op1, op2] [r1, r2] = false) :
    GoodB W lay env n (isTrue (.Compare l [op1, op2] [r1, r2] pos) env whole) (dChain dl d1 d2 k1 k2) := by
  intro A fs ρ st s Q E h1 h2 h3 h4 h5 ok ex
  refine isTrue_chain (hl A fs ρ st s _ _ h1 h2 h3 h4 (R.ns h5) (fun a σ1 ρ1 va hp1 tk1 e1 q1 S1 => ?_) fun e' s' eq x => ex e' s' (R.ofX eq) x) hm
  have n1 := R.ns2 h5 e1
  simp only [testChain, evalEach]
  refine wpAny_bind (wpAny_holding (hr1 A fs ρ1 ⟨st.loc, σ1⟩ _ _ _ h1 h2 (h3.after h4 S1) S1.hi (R.ns n1) (fun b σ2 ρ2 vb hp2 tk2 e2 q2 S2 => wpAny_bind (wpAny_standAt ?_)) fun e' s' eq x => ex e' s' (R.of e1 (R.ofX eq)) (x.back S1)))
  have n2 := R.ns2 n1 e2
  have S12 := S1.trans S2
  refine wpAny_bind (wpAny_holding (p1 A fs ρ2 σ2 _ a b va vb _ _ h1 h2 S2.hi (q1.after S1.hi S2) q2 (R.ns n2) (fun c σ3 ρ3 vc hp3 tk3 e3 q3 S3 => wpAny_bind (wpAny_release ?_)) fun e' s' eq x => ex e' s' (R.of e1 (R.of e2 (R.ofX eq))) (x.back S12)))
  have n3 := R.ns2 n2 e3
  have S123 := S12.trans S3
  cases c <;> first | exact absurd rfl n3 | skip
  rename_i t
  cases q3
  refine wpAny_bind (wpAny_holding (wpAny_truthy_bool ?_))
  cases t
  · exact wpAny_pure (ok _ _ _ _ _ _ (R.of e1 (R.of e2 (R.of e3 rfl))) rfl S123)
  · show wpAny _ _ (holding [vb] (eval r2 env) >>= _) _ _ _
    have n4 : (d2 ⟨st.loc, σ3⟩).bind (fun e σ => (k2 b e σ).bind fun f σ => oBoolV f σ) ≠ .stuck := n3
    refine wpAny_bind (wpAny_holding (hr2 A fs ρ3 ⟨st.loc, σ3⟩ _ _ _ h1 h2 (h3.after h4 S123) S3.hi (R.ns n4) (fun e σ4 ρ4 ve hp4 tk4 e4 q4 S4 => wpAny_bind (wpAny_standAt ?_)) fun e' s' eq x => ex e' s' (R.of e1 (R.of e2 (R.of e3 (R.ofX (k := fun e σ => (k2 b e σ).bind fun f σ => oBoolV f σ) eq)))) (x.back S123)))
    have n5 := R.ns2 n4 e4
    refine wpAny_bind (wpAny_operate' (p2 A fs ρ4 σ4 _ b e vb ve _ _ h1 h2 S4.hi ((q2.after S2.hi S3).after S3.hi S4) q4 (R.ns n5) (fun f σ5 ρ5 vf hp5 tk5 e5 q5 S5 => ?_) fun e' s' eq x => ex e' s' (R.of e1 (R.of e2 (R.of e3 (R.of (k := fun e σ => (k2 b e σ).bind fun f σ => oBoolV f σ) e4 (R.ofX eq))))) (x.back (S123.trans S4))))
    have n6 := R.ns2 n5 e5
    cases f <;> first | exact absurd rfl n6 | skip
    rename_i t
    cases q5
    exact wpAny_holding (wpAny_truthy_bool (ok t _ _ _ _ _ (R.of e1 (R.of e2 (R.of e3 (R.of (k := fun e σ => (k2 b e σ).bind fun f σ => oBoolV f σ) e4 (R.of e5 rfl))))) rfl (S123.trans (S4.trans S5))))

/-! ### displays -/
noncomputable def dNil : DL := fun st => .ok [] st.sto
noncomputable def dCons (d : DE) (r : DL) : DL := fun st => (d st).bind fun x σ => (r ⟨st.loc, σ⟩).bind fun xs σ => .ok (x :: xs) σ
inductive NoStar (env : Env) : List PySem.Expr → Prop
  | nil : NoStar env []
  | cons {e : PySem.Expr} {r : List PySem.Expr} : starEach (e :: r) env = (false, eval e env) :: starEach r env → NoStar env r → NoStar env (e :: r)
theorem good_args_nil {pos : Pos} : GoodL W lay env n (spliced (backTo pos (starEach [] env))) dNil :=
  fun _ _ _ _ _ _ _ _ _ _ h4 _ ok _ => spliced_nil (ok _ _ _ _ _ _ rfl .nil (.refl h4))
theorem good_args_cons {pos : Pos} {e : PySem.Expr} {r : List PySem.Expr} {d : DE} {dr : DL} (he : starEach (e :: r) env = (false, eval e env) :: starEach r env) (h : GoodE W lay env n (eval e env) d)
    (hr : GoodL W lay env n (spliced (backTo pos (starEach r env))) dr) : GoodL W lay env n (spliced (backTo pos (starEach (e :: r) env))) (dCons d dr) := by
  intro A fs ρ st s Q E h1 h2 h3 h4 h5 ok ex
  rw [he]
  refine spliced_cons (h A fs ρ st s _ _ h1 h2 h3 h4 (R.ns h5) (fun x σ1 ρ1 v hp1 tk1 e1 q1 S1 => ?_) fun e' s' eq x => ex e' s' (R.ofX eq) x)
  have n1 := R.ns2 h5 e1
  refine hr A fs ρ1 ⟨st.loc, σ1⟩ _ _ _ h1 h2 (h3.after h4 S1) S1.hi (R.ns n1) (fun xs σ2 ρ2 vs hp2 tk2 e2 q2 S2 => ?_) fun e' s' eq x => ex e' s' (R.of e1 (R.ofX eq)) (x.back S1)
  exact ok _ _ _ _ _ _ (R.of e1 (R.of e2 rfl)) (.cons (q1.after S1.hi S2) q2) (S1.trans S2)

noncomputable def oTup (xs : List V) (σ : Sto) : R V := if xs.length ≤ limN then .ok (.tup xs) σ else .stuck
noncomputable def oLst (xs : List V) (σ : Sto) : R V := if xs.length ≤ limN then .ok (.lst σ.length) (σ ++ [xs]) else .stuck
theorem good_tuple {elts : List PySem.Expr} {x1 : Nat} {pos : Pos} {d : DL} (h : GoodL W lay env n (spliced (backTo pos (starEach elts env))) d) : GoodE W lay env n (eval (.Tuple elts x1 pos) env) (dThen d oTup) := by
  intro A fs ρ st s Q E h1 h2 h3 h4 h5 ok ex
  refine wpAny_Tuple_spliced (h A fs ρ st s _ _ h1 h2 h3 h4 (R.ns h5) (fun xs σ1 ρ1 vs hp1 tk1 e1 q1 S1 => ?_) fun e' s' eq x => ex e' s' (R.ofX eq) x)
  have n1 := R.ns2 h5 e1
  unfold oTup at n1
  by_cases hl : xs.length ≤ limN
  · refine ⟨by rw [q1.length]; exact le_size hl, ?_⟩
    have S2 : Step W fs ρ1 hp1 ρ1 σ1 (hp1.push { cls := .type "tuple", data := .seq vs.toArray }) := .grow S1.hi fun a o e => Heap.get?_push_of_some _ e
    exact ok _ _ _ _ _ _ (R.of e1 (if_pos hl)) (.tup (Heap.get?_push_size _ rfl) (q1.after S1.hi S2)) (S1.trans S2)
  · exact absurd (if_neg hl) n1
theorem good_list {elts : List PySem.Expr} {pos : Pos} {d : DL} (h : GoodL W lay env n (spliced (backTo pos (starEach elts env))) d) : GoodE W lay env n (eval (.List elts pos) env) (dThen d oLst) := by
  intro A fs ρ st s Q E h1 h2 h3 h4 h5 ok ex
  refine wpAny_List_spliced (h A fs ρ st s _ _ h1 h2 h3 h4 (R.ns h5) (fun xs σ1 ρ1 vs hp1 tk1 e1 q1 S1 => ?_) fun e' s' eq x => ex e' s' (R.ofX eq) x)
  have n1 := R.ns2 h5 e1
  unfold oLst at n1
  by_cases hl : xs.length ≤ limN
  · refine ⟨by rw [q1.length]; exact le_size hl, ?_⟩
    exact ok _ _ _ _ _ _ (R.of e1 (if_pos hl)) (.lst (by rw [← S1.hi.len]; simp)) (S1.trans (S1.hi.pushL q1))
  · exact absurd (if_neg hl) n1
end
end Mine
end
section
set_option tactic.hygienic false
open PySem PySem.W PyProof.Rows PySem.Calls
namespace Mine

section
variable {W : Wd} {lay : List Str} {env : Env} {n : Nat}

/-! ## built-in functions -/
noncomputable def oLen : List V → Sto → R V
  | [.lst r], σ => match σ[r]? with
    | some xs => if xs.length ≤ limN then .ok (.int xs.length) σ else .stuck
    | none => .stuck
  | [.cl ns], σ => if ns.length ≤ limN then .ok (.int ns.length) σ else .stuck
  | [.tup xs], σ => if xs.length ≤ limN then .ok (.int xs.length) σ else .stuck
  | _, _ => .stuck
noncomputable def oRange : List V → Sto → R V
  | [.int k], σ => .ok (.rng k) σ
  | _, _ => .stuck
noncomputable def oTuple : List V → Sto → R V
  | [.lst r], σ => match σ[r]? with
    | some xs => if xs.length ≤ limN then .ok (.tup xs) σ else .stuck
    | none => .stuck
  | _, _ => .stuck
noncomputable def oList : List V → Sto → R V
  | [.tup xs], σ => if xs.length ≤ limN then .ok (.lst σ.length) (σ ++ [xs]) else .stuck
  | _, _ => .stuck
noncomputable def minL : List Int → Int
  | [] => 0
  | a :: r => r.foldl min a
noncomputable def maxL : List Int → Int
  | [] => 0
  | a :: r => r.foldl max a
theorem foldl_min_spec : ∀ (r : List Int) (a : Int), (r.foldl min a = a ∨ r.foldl min a ∈ r) ∧ r.foldl min a ≤ a ∧ ∀ b ∈ r, r.foldl min a ≤ b
  | [], a => ⟨.inl rfl, Int.le_refl _, fun _ h => nomatch h⟩
  | c :: r, a => by
    obtain ⟨h1, h2, h3⟩ := foldl_min_spec r (min a c)
    refine ⟨?_, Int.le_trans h2 (Int.min_le_left ..), fun b hb => ?_⟩
    · rw [List.foldl_cons]
      rcases h1 with h1 | h1
      · rw [h1]
        rcases Int.le_total a c with h | h
        · rw [Int.min_eq_left h]; exact .inl rfl
        · rw [Int.min_eq_right h]; exact .inr (.head _)
      · exact .inr (.tail _ h1)
    · rcases List.mem_cons.mp hb with rfl | hb
      · exact Int.le_trans h2 (Int.min_le_right ..)
      · exact h3 b hb
theorem foldl_max_spec : ∀ (r : List Int) (a : Int), (r.foldl max a = a ∨ r.foldl max a ∈ r) ∧ a ≤ r.foldl max a ∧ ∀ b ∈ r, b ≤ r.foldl max a
  | [], a => ⟨.inl rfl, Int.le_refl _, fun _ h => nomatch h⟩
  | c :: r, a => by
    obtain ⟨h1, h2, h3⟩ := foldl_max_spec r (max a c)
    refine ⟨?_, Int.le_trans (Int.le_max_left ..) h2, fun b hb => ?_⟩
    · rw [List.foldl_cons]
      rcases h1 with h1 | h1
      · rw [h1]
        rcases Int.le_total a c with h | h
        · rw [Int.max_eq_right h]; exact .inr (.head _)
        · rw [Int.max_eq_left h]; exact .inl rfl
      · exact .inr (.tail _ h1)
    · rcases List.mem_cons.mp hb with rfl | hb
      · exact Int.le_trans (Int.le_max_right ..) h2
      · exact h3 b hb
theorem minL_eq {ns : List Int} {M : Int} (h1 : M ∈ ns) (h2 : ∀ a ∈ ns, M ≤ a) : minL ns = M := by
  cases ns with
  | nil => cases h1
  | cons a r =>
    obtain ⟨g1, g2, g3⟩ := foldl_min_spec r a
    have e1 : minL (a :: r) ∈ a :: r := g1.elim (fun e => by show r.foldl min a ∈ _; rw [e]; exact .head _) fun e => .tail _ e
    have e2 : minL (a :: r) ≤ M := by
      rcases List.mem_cons.mp h1 with rfl | h
      · exact g2
      · exact g3 _ h
    have e3 := h2 _ e1
    (first | lia | omega)
theorem maxL_eq {ns : List Int} {M : Int} (h1 : M ∈ ns) (h2 : ∀ a ∈ ns, a ≤ M) : maxL ns = M := by
  cases ns with
  | nil => cases h1
  | cons a r =>
    obtain ⟨g1, g2, g3⟩ := foldl_max_spec r a
    have e1 : maxL (a :: r) ∈ a :: r := g1.elim (fun e => by show r.foldl max a ∈ _; rw [e]; exact .head _) fun e => .tail _ e
    have e2 : M ≤ maxL (a :: r) := by
      rcases List.mem_cons.mp h1 with rfl | h
      · exact g2
      · exact g3 _ h
    have e3 := h2 _ e1
    (first | lia | omega)

noncomputable def oMax : List V → Sto → R V
  | [.lst r], σ => match σ[r]?.bind intsOf with
    | some (a :: ns) => .ok (.int (maxL (a :: ns))) σ
    | _ => .stuck
  | [.int a, .int b], σ => .ok (.int (max a b)) σ
  | [.int a, .int b, .int c], σ => .ok (.int (max (max a b) c)) σ
  | _, _ => .stuck
noncomputable def oMin : List V → Sto → R V
  | [.lst r], σ => match σ[r]?.bind intsOf with
    | some (a :: ns) => .ok (.int (minL (a :: ns))) σ
    | _ => .stuck
  | _, _ => .stuck

theorem VRs.one {ρ : List Addr} {h : Heap} {x : V} {vs : List Value} (r : VRs W ρ h [x] vs) : ∃ v, vs = [v] ∧ VR W ρ h x v := by
  cases r with
  | cons a b => cases b; exact ⟨_, rfl, a⟩

set_option tactic.hygienic true in
theorem pl_len : PL W n (VR W) (fun vs => call (.builtin "len") vs) oLen := by
  refine PL.mk (fun x σ => by unfold oLen; (repeat' split) <;> simp) fun A fs ρ σ s x vs Q E z σ' hr hf hi hx e ok => ?_
  unfold oLen at e
  split at e
  · split at e
    · rename_i xs e1
      split at e
      · rename_i hl
        cases e
        obtain ⟨v, rfl, hy⟩ := hx.one
        obtain ⟨b, ws, j, rfl, q2, ho2, r2⟩ := hi.list e1 hy
        refine len_list ⟨_, ho2, rfl, j, rfl⟩ (by rw [List.size_toArray, r2.length]; exact le_63 hl) ?_
        rw [List.size_toArray, r2.length]
        exact ok ρ _ s.heap _ (.int _ _) (.refl hi)
      · cases e
    · cases e
  · split at e
    · rename_i hl
      cases e
      obtain ⟨v, rfl, hy⟩ := hx.one
      cases hy with
      | cl hL hI =>
      obtain ⟨o, ho, r⟩ := hL
      refine len_list ⟨o, hi.stays _ _ ho, r⟩ (by rw [List.size_toArray, hI.length]; exact le_63 hl) ?_
      rw [List.size_toArray, hI.length]
      exact ok ρ _ s.heap _ (.int _ _) (.refl hi)
    · cases e
  · split at e
    · rename_i hl
      cases e
      obtain ⟨v, rfl, hy⟩ := hx.one
      cases hy with
      | tup ho r =>
      refine PyProof.Rows.len_tuple ⟨_, ho, rfl, _, rfl⟩ (by rw [List.size_toArray, r.length]; exact le_63 hl) ?_
      rw [List.size_toArray, r.length]
      exact ok ρ _ s.heap _ (.int _ _) (.refl hi)
    · cases e
  · cases e

theorem pl_range : PL W n (VR W) (fun vs => call (.type "range") vs) oRange := by
  refine PL.mk (fun x σ => by unfold oRange; (repeat' split) <;> simp) fun A fs ρ σ s x vs Q E z σ' hr hf hi hx e ok => ?_
  unfold oRange at e
  split at e
  · cases e
    obtain ⟨v, rfl, hy⟩ := hx.one
    cases hy
    exact call_range_1 (ok ρ _ _ _ (.rng (IsRange.new ..)) (.grow hi fun a o e => Heap.get?_push_of_some _ e))
  · cases e

set_option tactic.hygienic true in
theorem pl_tuple : PL W n (VR W) (fun vs => call (.type "tuple") vs) oTuple := by
  refine PL.mk (fun x σ => by unfold oTuple; (repeat' split) <;> simp) fun A fs ρ σ s x vs Q E z σ' hr hf hi hx e ok => ?_
  unfold oTuple at e
  split at e
  · split at e
    · rename_i xs e1
      split at e
      · rename_i hl
        cases e
        obtain ⟨v, rfl, hy⟩ := hx.one
        obtain ⟨b, ws, j, rfl, q2, ho2, r2⟩ := hi.list e1 hy
        refine call_tuple_list ⟨_, ho2, rfl, j, rfl⟩ (fun h' hk => ?_) (by rw [List.size_toArray, r2.length]; exact le_size hl)
        have k : ∀ a o, s.heap.get? a = some o → (h'.push { cls := .type "tuple", data := .seq ws.toArray }).get? a = some o := fun a o e => Heap.get?_push_of_some _ (hk a o e)
        exact ok ρ _ _ _ (.tup (Heap.get?_push_size _ rfl) (r2.mono (l := []) (.all k) (fun _ q => nomatch q) (List.prefix_refl _))) (.grow hi k)
      · cases e
    · cases e
  · cases e

theorem HI.pushAt {fs : List Env} {ρ : List Addr} {σ : Sto} {h h' : Heap} (H : HI W fs ρ σ h) {xs : List V} {vs : List Value} {c : Nat} (r : VRs W ρ h xs vs) (k : ∀ a o, h.get? a = some o → h'.get? a = some o)
    (hn : h'.get? h.objs.size = some { cls := .type "list", data := .seq vs.toArray c }) : Step W fs ρ h (ρ ++ [h.objs.size]) (σ ++ [xs]) h' := by
  have H' := H.grow k
  have p : ρ <+: ρ ++ [h.objs.size] := ⟨_, rfl⟩
  have new : h.objs.size ∉ ρ := fun q => by
    obtain ⟨o, ho, _⟩ := H.isL q
    exact absurd (Heap.lt_size ho) (Nat.lt_irrefl _)
  refine ⟨.all k, p, fun a q z => ?_, ⟨H'.stays, H'.ff, ?_, by simp [H.len], fun a q => ?_, fun i a ys e1 e2 => ?_⟩⟩
  · rcases List.mem_append.mp q with q | q
    · exact absurd q z
    · obtain rfl := List.mem_singleton.mp q
      exact Heap.get?_none_of_le (Nat.le_refl _)
  · rw [List.nodup_append]
    exact ⟨H.nd, by simp, fun a q b z => by obtain rfl := List.mem_singleton.mp z; exact fun e => new (e ▸ q)⟩
  · rcases List.mem_append.mp q with q | q
    · exact H.nb a q
    · obtain rfl := List.mem_singleton.mp q
      exact H.stays.fresh
  · by_cases hi : i < ρ.length
    · rw [List.getElem?_append_left hi] at e1
      rw [List.getElem?_append_left (H.len ▸ hi)] at e2
      obtain ⟨ws, a1, a2⟩ := H'.hr i a ys e1 e2
      exact ⟨ws, a1, a2.mono (l := []) .refl (fun _ q => nomatch q) p⟩
    · have hi' : i = ρ.length := by
        have := (List.getElem?_eq_some_iff.mp e1).1
        rw [List.length_append, List.length_singleton] at this
        (first | lia | omega)
      subst hi'
      rw [List.getElem?_append_right (Nat.le_refl _), Nat.sub_self] at e1
      rw [List.getElem?_append_right (by rw [H.len]; exact Nat.le_refl _), H.len, Nat.sub_self] at e2
      simp only [List.getElem?_cons_zero, Option.some.injEq] at e1 e2
      subst e1 e2
      exact ⟨vs, ⟨c, hn⟩, r.mono (l := []) (.all k) (fun _ q => nomatch q) p⟩

set_option tactic.hygienic true in
theorem pl_list : PL W n (VR W) (fun vs => call (.type "list") vs) oList := by
  refine PL.mk (fun x σ => by unfold oList; (repeat' split) <;> simp) fun A fs ρ σ s x vs Q E z σ' hr hf hi hx e ok => ?_
  unfold oList at e
  split at e
  · split at e
    · rename_i hl
      cases e
      obtain ⟨v, rfl, hy⟩ := hx.one
      cases hy with
      | tup ho r =>
      refine call_list_seq _ (.inr rfl) ho rfl rfl (fun h' c' hk hn => ?_) (by rw [List.size_toArray, r.length]; exact le_size hl)
      exact ok _ _ _ s.toks (.lst (by rw [← hi.len]; simp)) (hi.pushAt r hk hn)
    · cases e
  · cases e

set_option tactic.hygienic true in
theorem pl_max : PL W n (VR W) (fun vs => call (.builtin "max") vs) oMax := by
  refine PL.mk (fun x σ => by unfold oMax; (repeat' split) <;> simp) fun A fs ρ σ s x vs Q E z σ' hr hf hi hx e ok => ?_
  unfold oMax at e
  split at e
  · split at e
    · rename_i a ns hn
      cases e
      obtain ⟨xs', e1, e2⟩ := Option.bind_eq_some_iff.mp hn
      obtain ⟨v, rfl, hy⟩ := hx.one
      obtain ⟨b, ws, j, rfl, q2, ho2, r2⟩ := hi.list e1 hy
      rw [intsOf_spec e2] at r2
      have hI := r2.toInts
      obtain ⟨xs, e⟩ := hI.allInts.items
      have hns : a :: ns = xs.toList.map (·.1) := by
        rw [← hI.numsOf, ← nums_intItems, ← e]
      have hsz : 0 < xs.size := by
        have h3 : 0 < (a :: ns).length := Nat.succ_pos _
        rw [hns, List.length_map, Array.length_toList] at h3; exact h3
      have hl : s.heap.IsList b ws.toArray := ⟨_, ho2, rfl, j, rfl⟩
      rw [e] at hl
      refine max_intList hr.hd hl hsz fun v h' tk hv hk => ?_
      obtain ⟨t, rfl⟩ := intItems_at hv
      obtain ⟨h1, h2⟩ := argBest_gt (numAt xs) (xs.size - 1)
      rw [maxL_eq (M := numAt xs (argBest (fun i j => decide (numAt xs i > numAt xs j)) (xs.size - 1))) ?_ ?_] at ok
      · exact ok ρ _ h' tk (.int _ t) (.grow hi hk)
      · rw [hns, numAt_eq]; exact PySem.getD_mem (by rw [List.length_map, Array.length_toList]; (first | lia | omega))
      · intro a' ha
        rw [hns] at ha
        obtain ⟨j, hj, rfl⟩ := mem_getD ha
        rw [List.length_map, Array.length_toList] at hj
        rw [← numAt_eq]; exact h2 j (by (first | lia | omega))
    · cases e
  · cases e
    cases hx with
    | cons h1 r => cases r with
      | cons h2 r => cases r; cases h1; cases h2; rename_i a b t u
                     refine max_two_ints hr.hd fun h' tk hk => ?_
                     have e : (if b > a then Value.int b u else Value.int a t) = .int (max a b) (if b > a then u else t) := by
                       by_cases h : b > a
                       · rw [if_pos h, if_pos h, Int.max_eq_right (by (first | lia | omega))]
                       · rw [if_neg h, if_neg h, Int.max_eq_left (by (first | lia | omega))]
                     rw [e]
                     exact ok ρ _ h' tk (.int _ _) (.grow hi hk)
  · cases e
    cases hx with
    | cons h1 r => cases r with
      | cons h2 r => cases r with
        | cons h3 r => cases r; cases h1; cases h2; cases h3; rename_i a b c t u x
                       refine max_three_ints hr.hd fun h' tk hk => ?_
                       have e : (if b > a then (if c > b then Value.int c x else Value.int b u) else (if c > a then Value.int c x else Value.int a t)) = .int (max (max a b) c) (if b > a then (if c > b then x else u) else (if c > a then x else t)) := by
                         by_cases h : b > a
                         · rw [if_pos h, if_pos h, Int.max_eq_right (show a ≤ b by (first | lia | omega))]
                           by_cases h' : c > b
                           · rw [if_pos h', if_pos h', Int.max_eq_right (by (first | lia | omega))]
                           · rw [if_neg h', if_neg h', Int.max_eq_left (by (first | lia | omega))]
                         · rw [if_neg h, if_neg h, Int.max_eq_left (show b ≤ a by (first | lia | omega))]
                           by_cases h' : c > a
                           · rw [if_pos h', if_pos h', Int.max_eq_right (by (first | lia | omega))]
                           · rw [if_neg h', if_neg h', Int.max_eq_left (by (first | lia | omega))]
                       rw [e]
                       exact ok ρ _ h' tk (.int _ _) (.grow hi hk)
  · cases e

set_option tactic.hygienic true in
theorem pl_min : PL W n (VR W) (fun vs => call (.builtin "min") vs) oMin := by
  refine PL.mk (fun x σ => by unfold oMin; (repeat' split) <;> simp) fun A fs ρ σ s x vs Q E z σ' hr hf hi hx e ok => ?_
  unfold oMin at e
  split at e
  · split at e
    · rename_i a ns hn
      cases e
      obtain ⟨xs', e1, e2⟩ := Option.bind_eq_some_iff.mp hn
      obtain ⟨v, rfl, hy⟩ := hx.one
      obtain ⟨b, ws, j, rfl, q2, ho2, r2⟩ := hi.list e1 hy
      rw [intsOf_spec e2] at r2
      have hI := r2.toInts
      obtain ⟨xs, e⟩ := hI.allInts.items
      have hns : a :: ns = xs.toList.map (·.1) := by
        rw [← hI.numsOf, ← nums_intItems, ← e]
      have hsz : 0 < xs.size := by
        have h3 : 0 < (a :: ns).length := Nat.succ_pos _
        rw [hns, List.length_map, Array.length_toList] at h3; exact h3
      have hl : s.heap.IsList b ws.toArray := ⟨_, ho2, rfl, j, rfl⟩
      rw [e] at hl
      refine min_intList hr.hd hl hsz fun v h' tk hv hk => ?_
      obtain ⟨t, rfl⟩ := intItems_at hv
      obtain ⟨h1, h2⟩ := argBest_lt (numAt xs) (xs.size - 1)
      rw [minL_eq (M := numAt xs (argBest (fun i j => decide (numAt xs i < numAt xs j)) (xs.size - 1))) ?_ ?_] at ok
      · exact ok ρ _ h' tk (.int _ t) (.grow hi hk)
      · rw [hns, numAt_eq]; exact PySem.getD_mem (by rw [List.length_map, Array.length_toList]; (first | lia | omega))
      · intro a' ha
        rw [hns] at ha
        obtain ⟨j, hj, rfl⟩ := mem_getD ha
        rw [List.length_map, Array.length_toList] at hj
        rw [← numAt_eq]; exact h2 j (by (first | lia | omega))
    · cases e
  · cases e
end
end Mine
end
section
set_option tactic.hygienic false
open PySem PySem.W PyProof.Rows PySem.Calls
namespace Mine

section
variable {W : Wd} {lay : List Str} {env : Env} {n : Nat}

theorem NoStar.plain {pos : Pos} : ∀ {es : List PySem.Expr}, NoStar env es → (backTo pos (starEach es env)).any (·.1) = false
  | _, .nil => rfl
  | _ :: _, .cons h r => by
    rw [h]
    show (false || (backTo pos _).any (·.1)) = false
    rw [r.plain]; rfl
theorem evalArgs_ns {M : Model} {A : Around} {E : Value → Shared → Prop} {s : Shared} {f : Value} {pos : Pos} {es : List PySem.Expr} {Q : Args → Shared → Prop} (hn : NoStar env es)
    (h : wpAny M A (spliced (backTo pos (starEach es env))) (fun vs s' => Q ⟨vs, []⟩ s') E s) : wpAny M A (evalArgs f true (backTo pos (starEach es env)) []) Q E s := by
  cases hn with
  | nil =>
    unfold evalArgs
    show wpAny M A (spliced [] >>= _) Q E s
    refine wpAny_bind (wpAny_mono h (fun vs s' h' => ?_) fun _ _ x => x)
    refine wpAny_holding ?_
    exact wpAny_bind (wpAny_pure (wpAny_bind (wpAny_pure (wpAny_pure h'))))
  | cons he r =>
    rw [he] at h ⊢
    exact evalArgs_plain h

/-- a function of the start-up, by its name -/
theorem good_blt {x : Str} {p pos : Pos} {args : List PySem.Expr} {fv : Value} {da : DL} {k : List V → Sto → R V} (hx : env.kindOf x = some .globalImplicit) (e : nsIn W.K mainGlobals x = some none) (hv : bootBuiltins x = some fv) (hn : x ≠ "__name__")
    (hd : (x == ("__debug__" : Str)) = false) (hfv : (∃ id, fv = .builtin id) ∨ ∃ T, fv = .type T) (hs : NoStar env args) (ha : GoodL W lay env n (spliced (backTo pos (starEach args env))) da) (hp : PL W n (VR W) (fun vs => call fv vs) k) :
    GoodE W lay env n (eval (.Call (.Name x p) args [] pos) env) (dThen da k) := by
  intro A fs ρ st s Q E h1 h2 h3 h4 h5 ok ex
  refine wpAny_Call_NameR (name_blt h3 h4.stays hx e hv hn hd ?_)
  have go : wpAny W.M A (spliced (backTo pos (starEach args env))) (fun vs s₁ => wpAny W.M A (call fv vs) Q E s₁) E s := by
    refine ha A fs ρ st s _ _ h1 h2 h3 h4 (R.ns h5) (fun xs σ1 ρ1 vs hp1 tk1 e1 q1 S1 => ?_) fun e' s' eq x => ex e' s' (R.ofX eq) x
    exact hp A fs ρ1 σ1 _ xs vs _ _ h1 h2 S1.hi q1 (R.ns2 h5 e1) (fun z σ2 ρ2 w hp2 tk2 e2 q2 S2 => ok _ _ _ _ _ _ (R.of e1 e2) q2 (S1.trans S2)) fun e' s' eq x => ex e' s' (R.of e1 eq) (x.back S1)
  rcases hfv with ⟨id, rfl⟩ | ⟨T, rfl⟩
  · exact Calls.callWith_builtin hs.plain (evalArgs_ns hs go)
  · exact PySem.callWith_type hs.plain (evalArgs_ns hs go)

/-! ## methods of lists -/
noncomputable def oAppend : List V → Sto → R V
  | [.lst r, x], σ => match σ[r]? with
    | some xs => if xs.length ≤ limN then .ok .none (σ.set r (xs ++ [x])) else .stuck
    | none => .stuck
  | _, _ => .stuck
noncomputable def oPop : List V → Sto → R V
  | [.lst r], σ => match σ[r]? with
    | some xs => if xs.length ≤ limN then (match xs.getLast? with | some x => .ok x (σ.set r xs.dropLast) | none => .stuck) else .stuck
    | none => .stuck
  | _, _ => .stuck
set_option tactic.hygienic true in
theorem pl_append : PL W n (VR W) (fun vs => call (.builtin "list.append") vs) oAppend := by
  refine PL.mk (fun x σ => by unfold oAppend; (repeat' split) <;> simp) fun A fs ρ σ s x vs Q E z σ' hr hf hi hx e ok => ?_
  unfold oAppend at e
  split at e
  · split at e
    · rename_i xs e1
      split at e
      · rename_i hl
        cases e
        cases hx with
        | cons h1 r =>
        obtain ⟨v, rfl, hv⟩ := r.one
        obtain ⟨b, ws, j, rfl, q2, ho2, r2⟩ := hi.list e1 h1
        refine wpAny_list_append_plain ⟨j, ho2⟩ (fun h' hp hs => ?_) (by rw [List.size_toArray, r2.length]; exact le_size hl)
        rw [List.push_toArray] at hp
        exact ok ρ _ h' s.toks .none (hi.setL q2 hs hp (VRs.append (.cons hv .nil) r2))
      · cases e
    · cases e
  · cases e
theorem VRs.last {ρ : List Addr} {h : Heap} {x : V} {xs : List V} {vs : List Value} (r : VRs W ρ h xs vs) (e : xs.getLast? = some x) : ∃ v, vs[vs.length - 1]? = some v ∧ VR W ρ h x v := by
  rw [List.getLast?_eq_getElem?] at e
  have := r.get e
  rwa [← r.length] at this
set_option tactic.hygienic true in
theorem pl_pop : PL W n (VR W) (fun vs => call (.builtin "list.pop") vs) oPop := by
  refine PL.mk (fun x σ => by unfold oPop; (repeat' split) <;> simp) fun A fs ρ σ s x vs Q E z σ' hr hf hi hx e ok => ?_
  unfold oPop at e
  split at e
  · split at e
    · rename_i xs e1
      split at e
      · rename_i hl
        split at e
        · rename_i y hy
          cases e
          obtain ⟨v, rfl, hv⟩ := hx.one
          obtain ⟨b, ws, j, rfl, q2, ho2, r2⟩ := hi.list e1 hv
          obtain ⟨u, hu, hr'⟩ := r2.last hy
          have hsz : ws.toArray.size = ws.length := List.size_toArray ..
          refine call_meets PySem.F.slot_list_pop ⟨_, ho2, rfl⟩ PySem.F.entry_list_pop (PySem.F.args_list_pop_1 _) (MeetsSeq.list_pop_last b ws.toArray j u (by rw [hsz]; simpa using hu) (by rw [hsz, r2.length]; exact le_size hl)) ⟨ho2, ?_⟩
          have hlt := (List.getElem?_eq_some_iff.mp hu).1
          have em : (ws.toArray.eraseIdxIfInBounds (ws.toArray.size - 1)) = ws.dropLast.toArray := by
            rw [Array.eraseIdxIfInBounds, dif_pos (by rw [hsz]; exact hlt)]
            simp [List.eraseIdx_length_sub_one]
          have hs : Heap.SameBut b s.heap (s.heap.update b (Obj.mapSeq fun xs => xs.eraseIdxIfInBounds (ws.toArray.size - 1))) := Heap.SameBut.update ..
          have hn : ∃ c, (s.heap.update b (Obj.mapSeq fun xs => xs.eraseIdxIfInBounds (ws.toArray.size - 1))).get? b = some { cls := .type "list", data := .seq ws.dropLast.toArray c } := by
            have := Heap.get?_update_self (Obj.mapSeq fun xs => xs.eraseIdxIfInBounds (ws.toArray.size - 1)) ho2 rfl
            simp only [Obj.mapSeq, em] at this
            exact ⟨_, this⟩
          refine ok ρ u _ s.toks ?_ (hi.setL q2 hs hn ?_)
          · exact hr'.mono (l := ρ) (fun a o e z => (hs.2 a fun q => z (q ▸ List.mem_of_getElem? q2)).trans e) hi.mutAt (List.prefix_refl _)
          · rw [List.dropLast_eq_take, List.dropLast_eq_take, r2.length]; exact VRs.take _ r2
        · cases e
      · cases e
    · cases e
  · cases e

noncomputable def isLst (σ : Sto) : V → Bool
  | .lst r => (σ[r]?).isSome
  | _ => false
noncomputable def dMeth (d : DE) (da : DL) (k : List V → Sto → R V) : DE := fun st => (d st).bind fun o σ => if isLst σ o then (da ⟨st.loc, σ⟩).bind fun xs σ => k (o :: xs) σ else .stuck
set_option tactic.hygienic true in
theorem good_methL {o : PySem.Expr} {name : Str} {id : String} {apos pos : Pos} {args : List PySem.Expr} {d : DE} {da : DL} {k : List V → Sto → R V}
    (ho : GoodE W lay env n (eval o env) d) (hs : NoStar env args) (ha : GoodL W lay env n (spliced (backTo pos (starEach args env))) da) (hp : PL W n (VR W) (fun vs => call (.builtin id) vs) k)
    (slot : Slot "list" name id) (hty : typeOf (.builtin id) = pure (.type "method_descriptor"))
    (hbase : attributeBase o name env (eval o env) = eval o env)
    (hfew : ((backTo pos (starEach args env)).all (fun x => !x.1) && (backToKw pos (keywordEach [] env)).all (fun x => x.1.isSome) && decide (args.length + ([] : List Keyword).length + (if ([] : List Keyword).isEmpty then 0 else 1) < 30)) = true)
    (hline : (apos.endLine == pos.line) = true) : GoodE W lay env n (eval (.Call (.Attribute o name apos) args [] pos) env) (dMeth d da k) := by
  intro A fs ρ st s Q E h1 h2 h3 h4 h5 ok ex
  refine wpAny_Call_method (T := "list") (id := id) hbase hfew hline PySem.F.plainAttrs_list slot hty (ho A fs ρ st s _ _ h1 h2 h3 h4 (R.ns h5) (fun x σ1 ρ1 v hp1 tk1 e1 q1 S1 => ?_) fun e' s' eq x => ex e' s' (R.ofX eq) x)
  have n1 := R.ns2 h5 e1
  by_cases hl : isLst σ1 x = true
  · rw [if_pos hl] at n1
    cases x <;> first | (exact absurd (show false = true from hl) (by decide)) | skip
    rename_i r
    obtain ⟨xs, hxs⟩ := Option.isSome_iff_exists.mp (show (σ1[r]?).isSome = true from hl)
    obtain ⟨b, ws, j, rfl, q2, ho2, r2⟩ := S1.hi.list hxs q1
    refine ⟨⟨_, ho2, rfl⟩, fun a e => by cases e; exact ⟨_, ho2, rfl⟩, ?_⟩
    refine Calls.callWith_builtin hs.plain (evalArgs_ns hs (ha A fs ρ1 ⟨st.loc, σ1⟩ _ _ _ h1 h2 (h3.after h4 S1) S1.hi (R.ns n1) (fun ys σ2 ρ2 us hp2 tk2 e2 q2' S2 => ?_) fun e' s' eq x => ex e' s' (R.of e1 (by rw [if_pos hl]; exact R.ofX eq)) (x.back S1)))
    exact hp A fs ρ2 σ2 _ _ _ _ _ h1 h2 S2.hi (.cons (q1.after S1.hi S2) q2') (R.ns2 (k := fun xs σ => k (V.lst r :: xs) σ) n1 e2) (fun z σ3 ρ3 w hp3 tk3 e3 q3 S3 => ok _ _ _ _ _ _ (R.of e1 (by rw [if_pos hl]; exact R.of (k := fun xs σ => k (V.lst r :: xs) σ) e2 e3)) q3 (S1.trans (S2.trans S3)))
      fun e' s' eq x => ex e' s' (R.of e1 (by rw [if_pos hl]; exact R.of (k := fun xs σ => k (V.lst r :: xs) σ) e2 eq)) (x.back (S1.trans S2))
  · rw [if_neg hl] at n1; exact absurd rfl n1

/-! ## a table's get -/
noncomputable def oGet (tv : Nat → Int → Option V) : List V → Sto → R V
  | [.tab t, .int k, d], σ => if t < 3 then .ok ((tv t k).getD d) σ else .stuck
  | _, _ => .stuck
set_option tactic.hygienic true in
theorem pl_get {tv : Nat → Int → Option V} (T : TabF W tv) : PL W n (VR W) (fun vs => call (.builtin "dict.get") vs) (oGet tv) := by
  refine PL.mk (fun x σ => by unfold oGet; (repeat' split) <;> simp) fun A fs ρ σ s x vs Q E z σ' hr hf hi hx e ok => ?_
  unfold oGet at e
  split at e
  · split at e
    · rename_i t k d hk
      cases e
      cases hx with
      | cons h1 r => cases r with
        | cons h2 r =>
          obtain ⟨v, rfl, hv⟩ := r.one
          cases h1
          cases h2
          rename_i tk
          obtain ⟨f, ⟨o, es, ep, hm, hm'⟩, hf'⟩ := T.map _ hk
          have hM : s.heap.MapOf (intKind W.prog W.w) (W.tabA t) f := ⟨o, es, ep, hi.stays _ _ hm, hm'⟩
          refine call_meetsIn PySem.F.slot_dict_get hM.typeIs PySem.F.entry_dict_get (PySem.F.args_dict_get_3 _ _ _) (PySem.meets_dict_get_default (intKind W.prog W.w) (W.tabA t) (intKind_is W.prog W.w k tk) (T.sys _) v) ⟨f, hM, ?_⟩
          refine ok ρ _ s.heap (s.toks + 1) ?_ (.refl hi)
          rcases hf' k with ⟨e1, e2⟩ | ⟨u, y, e1, e2, e3⟩
          · rw [e1, e2]; exact hv
          · rw [e1, e2]; exact e3 _ _ hi.stays
    · cases e
  · cases e
theorem good_get {tv : Nat → Int → Option V} (T : TabF W tv) {x : Str} {xp apos pos : Pos} {args : List PySem.Expr} {t : Nat} {da : DL} (ht : t < 3) (hx : env.kindOf x = some .globalImplicit) (e : nsIn W.K mainGlobals x = some (some (.ref (W.tabA t)))) (hd : (x == ("__debug__" : Str)) = false)
    (hs : NoStar env args) (ha : GoodL W lay env n (spliced (backTo pos (starEach args env))) da)
    (hbase : attributeBase (.Name x xp) "get" env (eval (.Name x xp) env) = eval (.Name x xp) env)
    (hfew : ((backTo pos (starEach args env)).all (fun x => !x.1) && (backToKw pos (keywordEach [] env)).all (fun x => x.1.isSome) && decide (args.length + ([] : List Keyword).length + (if ([] : List Keyword).isEmpty then 0 else 1) < 30)) = true)
    (hline : (apos.endLine == pos.line) = true) : GoodE W lay env n (eval (.Call (.Attribute (.Name x xp) "get" apos) args [] pos) env) (dThen da fun xs σ => oGet tv (.tab t :: xs) σ) := by
  intro A fs ρ st s Q E h1 h2 h3 h4 h5 ok ex
  obtain ⟨f, ⟨o, es, ep, hm, hm'⟩, hf'⟩ := T.map _ ht
  have hM : s.heap.MapOf (intKind W.prog W.w) (W.tabA t) f := ⟨o, es, ep, h4.stays _ _ hm, hm'⟩
  refine wpAny_Call_method (T := "dict") (id := "dict.get") hbase hfew hline PySem.F.plainAttrs_dict PySem.F.slot_dict_get PySem.F.type_dict_get (name_glob h3 h4.stays hx e hd ⟨hM.typeIs, fun a e => hM.noDict a e, ?_⟩)
  refine Calls.callWith_builtin hs.plain (evalArgs_ns hs (ha A fs ρ st s _ _ h1 h2 h3 h4 (R.ns h5) (fun ys σ2 ρ2 us hp2 tk2 e2 q2' S2 => ?_) fun e' s' eq x => ex e' s' (R.ofX eq) x))
  have h5' : (da st).bind (fun xs σ => oGet tv (.tab t :: xs) σ) ≠ .stuck := h5
  exact pl_get T A fs ρ2 σ2 _ (.tab t :: ys) _ _ _ h1 h2 S2.hi (.cons (.tab t) q2') (R.ns2 (k := fun xs σ => oGet tv (.tab t :: xs) σ) h5' e2) (fun z σ3 ρ3 w hp3 tk3 e3 q3 S3 => ok _ _ _ _ _ _ (R.of (k := fun xs σ => oGet tv (.tab t :: xs) σ) e2 e3) q3 (S2.trans S3)) fun e' s' eq x => ex e' s' (R.of (k := fun xs σ => oGet tv (.tab t :: xs) σ) e2 eq) (x.back S2)
end
end Mine
end
section
set_option tactic.hygienic false
open PySem PySem.W PyProof.Rows PySem.Calls
namespace Mine

section
variable {W : Wd} {lay : List Str} {env : Env} {n : Nat}

/-! ## exceptions pass through a frame -/
noncomputable def XOKn (W : Wd) (h : Heap) (e : Addr) : Prop :=
  W.base.get? e = none ∧ ∃ oe vs a0, h.get? e = some oe ∧ oe.cls = .ref W.bad ∧ oe.data = .fields vs ∧ vs[0]? = some a0 ∧
    ∃ T oT ts fl, vs[1]? = some (.ref T) ∧ W.base.get? T = none ∧ T ≠ e ∧ h.get? T = some oT ∧ oT.data = .fields ts ∧ ts[3]? = some fl
theorem XOKn.x {h : Heap} {e : Addr} (x : XOKn W h e) : XOK W h e := by
  obtain ⟨a, oe, vs, a0, b, c, d, e', f⟩ := x
  exact ⟨a, oe, vs, a0, b, c, d, e', .inr f⟩
structure XPn (W : Wd) (fs : List Env) (l : List Addr) (s : Shared) (e : Value) (s' : Shared) : Prop where
  ex : ∃ ea h' tk, e = .ref ea ∧ s' = { s with heap := h', toks := tk } ∧ W.base.StaysIn h' ∧ h'.FunFrames W.base fs ∧ KeepX l s.heap h' ∧ XOKn W h' ea
theorem XPn.x {fs : List Env} {l : List Addr} {s s' : Shared} {e : Value} (x : XPn W fs l s e s') : XP W fs l s e s' := by
  obtain ⟨ea, h', tk, a, b, c, d, e, f⟩ := x.ex
  exact ⟨ea, h', tk, a, b, c, d, e, f.x⟩

theorem frames_fields {base h : Heap} {T : Addr} {oT : Obj} {ts : Array Value} {f : Array Value → Array Value} {l : List Env} (hT : h.get? T = some oT) (hd : oT.data = .fields ts) (hl : h.FunFrames base l) : (h.update T (Obj.mapFields f)).FunFrames base l :=
  hl.of_keeps fun b o hb hnf => ⟨o, (Heap.get?_update_other _ _ (fun q => by subst q; rw [hT] at hb; cases hb; exact hnf _ hd)).trans hb, rfl⟩
theorem keepX_fields {h : Heap} {T : Addr} {oT : Obj} {ts : Array Value} {f : Array Value → Array Value} {l : List Addr} (hT : h.get? T = some oT) (hd : oT.data = .fields ts) : KeepX l h (h.update T (Obj.mapFields f)) :=
  fun b o hb _ hnf => ⟨o.slots, (Heap.get?_update_other _ _ (fun q => by subst q; rw [hT] at hb; cases hb; exact hnf _ hd)).trans hb⟩
theorem stays_update {base h : Heap} {T : Addr} {f : Obj → Obj} (k : base.StaysIn h) (n : base.get? T = none) : base.StaysIn (h.update T f) := fun b o e =>
  (Heap.get?_update_other _ _ (fun q => by subst q; rw [n] at e; cases e)).trans (k b o e)

theorem xp_note {M : Model} {A : Around} {outer : List Env} {l : List Addr} {s s' : Shared} {e : Value} {Q : Unit → Shared → Prop} {E : Value → Shared → Prop} (hfr : A.frames = some (env :: outer)) (hf : env.frame = some env.locals)
    (x : XP W (env :: outer) l s e s') (k : ∀ s'', XPn W (env :: outer) l s e s'' → Q () s'') : wpAny M A (noteFrame e env) Q E s' := by
  obtain ⟨ea, h₁, tk, rfl, rfl, st, ff, kx, hen, oe, vs, a0, he, hc, hd, h0, hx⟩ := x.ex
  unfold noteFrame
  simp only [hf]
  rcases hx with h1 | ⟨T, oT, ts, fl, h1, hnT, hTe, hT, hdT, h3⟩
  · refine wpAny_bind (wpAny_field he hd h1 ?_)
    rw [if_neg (by decide)]
    refine wpAny_entryW hfr ff hf he st hen hd (Array.getElem?_eq_some_iff.mp h1).1 h0 fun h' hN => ?_
    obtain ⟨x1, x2, ⟨oe', vs', T, oT, ts, y1, y2, y3, y4, y5, y6, y7, y8, y9⟩, x4⟩ := hN
    exact k _ ⟨ea, h', tk, rfl, rfl, x1, x2, kx.trans fun a o e _ f => x4 a o e f, hen, oe', vs', a0, y1, y2.1.trans hc, y3, y2.2, T, oT, ts, _, y4, y5, y6, y7, y8, y9⟩
  · refine wpAny_bind (wpAny_field he hd h1 ?_)
    rw [if_pos (show (Value.ref T != Value.none) = true from by simp)]
    refine wpAny_bind (wpAny_field hT hdT h3 ?_)
    by_cases hq : (fl == rawInt env.locals) = true
    · rw [if_pos hq]
      exact wpAny_pure (k _ ⟨ea, h₁, tk, rfl, rfl, st, ff, kx, hen, oe, vs, a0, he, hc, hd, h0, T, oT, ts, fl, h1, hnT, hTe, hT, hdT, h3⟩)
    · rw [if_neg hq]
      refine wpAny_bind (wpAny_setField hT hdT (Array.getElem?_eq_some_iff.mp h3).1 ?_)
      refine wpAny_entryW hfr (frames_fields hT hdT ff) hf ((Heap.get?_update_other _ _ hTe).trans he) (stays_update st hnT) hen hd (Array.getElem?_eq_some_iff.mp h1).1 h0 fun h' hN => ?_
      obtain ⟨x1, x2, ⟨oe', vs', T, oT, ts, y1, y2, y3, y4, y5, y6, y7, y8, y9⟩, x4⟩ := hN
      exact k _ ⟨ea, h', tk, rfl, rfl, x1, x2, (kx.trans (keepX_fields hT hdT)).trans fun a o e _ f => x4 a o e f, hen, oe', vs', a0, y1, y2.1.trans hc, y3, y2.2, T, oT, ts, _, y4, y5, y6, y7, y8, y9⟩

theorem xp_noted {M : Model} {A : Around} {outer : List Env} {l : List Addr} {s s' : Shared} {e : Value} {E : Value → Shared → Prop} (hfr : A.frames = some (env :: outer)) (hf : env.frame = some env.locals)
    (x : XP W (env :: outer) l s e s') (k : ∀ s'', XPn W (env :: outer) l s e s'' → E e s'') : notedBy M A env E e s' := xp_note hfr hf x k
theorem xp_flight {M : Model} {A : Around} {fs : List Env} {l : List Addr} {s s' : Shared} {e : Value} {fr : Option Addr} {Q : Unit → Shared → Prop} {E : Value → Shared → Prop}
    (x : XPn W fs l s e s') (k : ∀ s'', XPn W fs l s e s'' → Q () s'') : wpAny M A (setFlight e fr) Q E s' := by
  obtain ⟨ea, h₁, tk, rfl, rfl, st, ff, kx, hen, oe, vs, a0, he, hc, hd, h0, T, oT, ts, fl, h1, hnT, hTe, hT, hdT, h3⟩ := x.ex
  unfold setFlight
  refine wpAny_bind (wpAny_field he hd h1 ?_)
  rw [if_pos (show (Value.ref T != Value.none) = true from by simp)]
  have hsz : 3 < ts.size := (Array.getElem?_eq_some_iff.mp h3).1
  refine wpAny_setField hT hdT hsz (k _ ⟨ea, _, tk, rfl, rfl, stays_update st hnT, frames_fields hT hdT ff, kx.trans (keepX_fields hT hdT), hen, oe, vs, a0, (Heap.get?_update_other _ _ hTe).trans he, hc, hd, h0, T, _, _, fr.elim Value.none fun f => rawInt f, h1, hnT, hTe,
    Heap.get?_update_self _ hT (Obj.isFreed_of_fields (Obj.data_mapFields hdT _)), Obj.data_mapFields hdT _, ?_⟩)
  simp [hsz]

theorem xp_came {M : Model} {A : Around} {fs : List Env} {l : List Addr} {s s' : Shared} {e : Value} {E : Value → Shared → Prop} (x : XPn W fs l s e s') (k : ∀ s'', XPn W fs l s e s'' → E e s'') : cameBackBy M A env E e s' := by
  obtain ⟨ea, h₁, tk, rfl, rfl, st, ff, kx, hen, oe, vs, a0, he, hc, hd, h0, T, oT, ts, fl, h1, hnT, hTe, hT, hdT, h3⟩ := x.ex
  show wpAny M A (do
    if (← field (.ref ea) 1) == .none then unsupported "frame.own-activation:exception-without-traceback"
    setFlight (.ref ea) env.frame) _ _ _
  refine wpAny_bind (wpAny_field he hd h1 ?_)
  rw [if_neg (show ¬ ((Value.ref T == Value.none) = true) from by simp)]
  exact xp_flight ⟨ea, h₁, tk, rfl, rfl, st, ff, kx, hen, oe, vs, a0, he, hc, hd, h0, T, oT, ts, fl, h1, hnT, hTe, hT, hdT, h3⟩ k

theorem xp_own {M : Model} {A A' : Around} {outer : List Env} {l : List Addr} {s s' : Shared} {e : Value} {E : Value → Shared → Prop} (hfr : A.frames = some (env :: outer)) (hf : env.frame = some env.locals)
    (x : XP W (env :: outer) l s e s') (k : ∀ s'', XP W (env :: outer) l s e s'' → E e s'') : notedBy M A env (cameBackBy M A' env E) e s' :=
  xp_noted hfr hf x fun _ y => xp_came y fun s3 z => k s3 z.x

theorem xp_leave {M : Model} {A : Around} {outer : List Env} {l : List Addr} {s s' : Shared} {e : Value} {Q : Unit → Shared → Prop} {E : Value → Shared → Prop} (hfr : A.frames = some (env :: outer)) (hf : env.frame = some env.locals)
    (x : XP W (env :: outer) l s e s') (k : ∀ s'', XP W outer l s e s'' → Q () s'') : wpAny M A (leaving env e) Q E s' := by
  unfold leaving
  refine wpAny_bind (xp_note hfr hf x fun s2 y => xp_flight y fun s3 z => k s3 ?_)
  obtain ⟨ea, h₁, tk, a, b, c, ff, d⟩ := z.x.ex
  exact ⟨ea, h₁, tk, a, b, c, ff.2.2, d⟩

/-! ## statements -/
inductive FR (W : Wd) (ρ : List Addr) (h : Heap) : Fl → Flow → Prop
  | next : FR W ρ h .next .next
  | cont : FR W ρ h .cont .cont
  | brk : FR W ρ h .brk .brk
  | ret {x : V} {v : Value} : VR W ρ h x v → FR W ρ h (.ret x) (.ret v)
structure StepS (W : Wd) (lay : List Str) (env : Env) (fs : List Env) (ρ : List Addr) (h : Heap) (ρ' : List Addr) (st' : St) (h' : Heap) : Prop where
  keep : Keep (ρ ++ own env) h h'
  pre : ρ <+: ρ'
  fresh : Fresh ρ ρ' h
  ei : EI W lay env ρ' st'.loc h'
  hi : HI W fs ρ' st'.sto h'
theorem Step.toS {fs : List Env} {ρ ρ' : List Addr} {σ σ' : Sto} {loc : Nat → Option V} {h h' : Heap} (S : Step W fs ρ h ρ' σ' h') (E : EI W lay env ρ loc h) (H : HI W fs ρ σ h) : StepS W lay env fs ρ h ρ' ⟨loc, σ'⟩ h' :=
  ⟨S.keep.mono fun _ q => List.mem_append_left _ q, S.pre, S.fresh, E.after H S, S.hi⟩
theorem StepS.trans {fs : List Env} {ρ ρ₁ ρ₂ : List Addr} {h h₁ h₂ : Heap} {st₁ st₂ : St} (a : StepS W lay env fs ρ h ρ₁ st₁ h₁) (b : StepS W lay env fs ρ₁ h₁ ρ₂ st₂ h₂) : StepS W lay env fs ρ h ρ₂ st₂ h₂ where
  keep := a.keep.trans b.keep a.fresh
  pre := a.pre.trans b.pre
  fresh := a.fresh.trans b.fresh a.keep (b.ei.notL b.hi) a.pre
  ei := b.ei
  hi := b.hi
theorem StepS.refl {fs : List Env} {ρ : List Addr} {st : St} {h : Heap} (E : EI W lay env ρ st.loc h) (H : HI W fs ρ st.sto h) : StepS W lay env fs ρ h ρ st h := ⟨.refl, List.prefix_refl _, .refl, E, H⟩
theorem StepS.vr {fs : List Env} {ρ ρ' : List Addr} {h h' : Heap} {loc : Nat → Option V} {σ : Sto} {st' : St} (S : StepS W lay env fs ρ h ρ' st' h') (E : EI W lay env ρ loc h) (H : HI W fs ρ σ h) {x : V} {v : Value} (r : VR W ρ h x v) : VR W ρ' h' x v :=
  r.mono S.keep (H.mutAt.append E.mutAt) S.pre
theorem StepS.vrs {fs : List Env} {ρ ρ' : List Addr} {h h' : Heap} {loc : Nat → Option V} {σ : Sto} {st' : St} (S : StepS W lay env fs ρ h ρ' st' h') (E : EI W lay env ρ loc h) (H : HI W fs ρ σ h) {x : List V} {v : List Value} (r : VRs W ρ h x v) : VRs W ρ' h' x v :=
  r.mono S.keep (H.mutAt.append E.mutAt) S.pre
theorem XP.backS {fs : List Env} {ρ ρ₁ : List Addr} {st₁ : St} {s s' : Shared} {e : Value} {h₁ : Heap} {tk₁ : Nat} (S : StepS W lay env fs ρ s.heap ρ₁ st₁ h₁) (x : XP W fs (ρ₁ ++ own env) { s with heap := h₁, toks := tk₁ } e s') : XP W fs (ρ ++ own env) s e s' := x.before S.keep S.fresh

noncomputable def GoodS (W : Wd) (lay : List Str) (env : Env) (n : Nat) (t : Sem Flow) (d : DS) : Prop :=
  ∀ (A : Around) (outer : List Env) (ρ : List Addr) (st : St) (s : Shared) (Q : Flow → Shared → Prop) (E : Value → Shared → Prop),
    Room n A → A.frames = some (env :: outer) → env.frame = some env.locals → EI W lay env ρ st.loc s.heap → HI W (env :: outer) ρ st.sto s.heap → d st ≠ .stuck →
    (∀ fl st' ρ' f h' tk, d st = .ok fl st' → FR W ρ' h' fl f → StepS W lay env (env :: outer) ρ s.heap ρ' st' h' → Q f { s with heap := h', toks := tk }) →
    (∀ e s', d st = .exc → XP W (env :: outer) (ρ ++ own env) s e s' → E e s') → wpAny W.M A t Q E s

noncomputable def RS.bind (r : RS) (k : Fl → St → RS) : RS := match r with
  | .ok f st => k f st
  | .exc => .exc
  | .stuck => .stuck
@[simp] theorem RS.bind_ok (f : Fl) (st : St) (k : Fl → St → RS) : (RS.ok f st).bind k = k f st := rfl
@[simp] theorem RS.bind_exc (k : Fl → St → RS) : RS.exc.bind k = .exc := rfl
@[simp] theorem RS.bind_stuck (k : Fl → St → RS) : RS.stuck.bind k = .stuck := rfl
theorem RS.ns {r : RS} {k : Fl → St → RS} (h : r.bind k ≠ .stuck) : r ≠ .stuck := fun e => h (by rw [e]; rfl)
theorem RS.ns2 {r : RS} {k : Fl → St → RS} {f : Fl} {st : St} (h : r.bind k ≠ .stuck) (e : r = .ok f st) : k f st ≠ .stuck := fun q => h (by rw [e]; exact q)
theorem RS.of {r : RS} {k : Fl → St → RS} {f : Fl} {st : St} {q : RS} (e : r = .ok f st) (e' : k f st = q) : r.bind k = q := by rw [e]; exact e'
theorem RS.ofX {r : RS} {k : Fl → St → RS} (e : r = .exc) : r.bind k = .exc := by rw [e]; rfl
noncomputable def R.bindS {α : Type} (r : R α) (k : α → Sto → RS) : RS := match r with
  | .ok a σ => k a σ
  | .exc => .exc
  | .stuck => .stuck
@[simp] theorem R.bindS_ok {α : Type} (a : α) (σ : Sto) (k : α → Sto → RS) : (R.ok a σ).bindS k = k a σ := rfl
@[simp] theorem R.bindS_exc {α : Type} (k : α → Sto → RS) : (R.exc : R α).bindS k = .exc := rfl
@[simp] theorem R.bindS_stuck {α : Type} (k : α → Sto → RS) : (R.stuck : R α).bindS k = .stuck := rfl
theorem R.nsS {α : Type} {r : R α} {k : α → Sto → RS} (h : r.bindS k ≠ .stuck) : r ≠ .stuck := fun e => h (by rw [e]; rfl)
theorem R.nsS2 {α : Type} {r : R α} {k : α → Sto → RS} {a : α} {σ : Sto} (h : r.bindS k ≠ .stuck) (e : r = .ok a σ) : k a σ ≠ .stuck := fun q => h (by rw [e]; exact q)
theorem R.ofS {α : Type} {r : R α} {k : α → Sto → RS} {a : α} {σ : Sto} {q : RS} (e : r = .ok a σ) (e' : k a σ = q) : r.bindS k = q := by rw [e]; exact e'
theorem R.ofSX {α : Type} {r : R α} {k : α → Sto → RS} (e : r = .exc) : r.bindS k = .exc := by rw [e]; rfl
theorem XP.toS {fs : List Env} {ρ : List Addr} {s s' : Shared} {e : Value} (x : XP W fs ρ s e s') : XP W fs (ρ ++ own env) s e s' := x.mono fun _ q => List.mem_append_left _ q

noncomputable def upd (loc : Nat → Option V) (i : Nat) (v : V) : Nat → Option V := fun j => if j = i then some v else loc j

structure LayOK (lay : List Str) (env : Env) : Prop where
  nd : lay.Nodup
  noCalls : callsN ∉ lay
  kind : ∀ x ∈ lay, env.kindOf x = some .local ∨ (env.kindOf x = some .cell ∧ (env.cells.lookup x).isSome = true)

theorem lookup_addr {l : List (Str × Addr)} {x y : Str} {c : Addr} (h : l.Pairwise fun a b => a.2 ≠ b.2) (e1 : l.lookup x = some c) (e2 : l.lookup y = some c) : x = y :=
  name_of_addr h (mem_lookup e1) (mem_lookup e2)

theorem store_slot {A : Around} {outer : List Env} {ρ : List Addr} {st : St} {s : Shared} {Q : Unit → Shared → Prop} {E : Value → Shared → Prop} {i : Nat} {x : Str} {y : V} {v : Value} (L : LayOK lay env) (hx : lay[i]? = some x)
    (ei : EI W lay env ρ st.loc s.heap) (hi : HI W (env :: outer) ρ st.sto s.heap) (r : VR W ρ s.heap y v)
    (ok : ∀ h' tk, StepS W lay env (env :: outer) ρ s.heap ρ ⟨upd st.loc i y, st.sto⟩ h' → Q () { s with heap := h', toks := tk }) : wpAny W.M A (storeName env x v) Q E s := by
  have hm := List.mem_of_getElem? hx
  have inj : ∀ j, lay[j]? = some x → j = i := fun j hj => by
    obtain ⟨a1, a2⟩ := List.getElem?_eq_some_iff.mp hj
    obtain ⟨b1, b2⟩ := List.getElem?_eq_some_iff.mp hx
    exact (List.getElem_inj L.nd).mp (a2.trans b2.symm)
  have hxc : x ≠ callsN := fun q => L.noCalls (q ▸ hm)
  obtain ⟨m, hn, hc, hl⟩ := ei.ns
  have M0 : MutAt s.heap (ρ ++ own env) := hi.mutAt.append ei.mutAt
  rcases L.kind x hm with hk | ⟨hk, hsome⟩
  · refine wpAny_storeName_local hk hn (fun h' hn' hs => ok h' _ ?_) (by rw [ei.kind]; rfl)
    have kp : Keep [env.locals] s.heap h' := fun a o e z => (hs.2 a fun q => z (by rw [q]; exact .head _)).trans e
    have kp' : Keep (ρ ++ own env) s.heap h' := kp.mono fun a q => by
      rw [List.mem_singleton.mp q]; exact List.mem_append_right _ (.head _)
    have mono : ∀ {y : V} {v : Value}, VR W ρ s.heap y v → VR W ρ h' y v := fun q => q.mono kp' M0 (List.prefix_refl _)
    have cellK : ∀ c v, s.heap.IsCell c v → c ≠ env.locals → h'.IsCell c v := fun c v ⟨o, ho, hd⟩ ne => ⟨o, kp c o ho (by simpa using ne), hd⟩
    have cne : ∀ c v, s.heap.IsCell c v → c ≠ env.locals := fun c v ⟨o, ho, hd⟩ q => by
      obtain ⟨o', es, ep, ho', hd', _⟩ := hn
      rw [q, ho'] at ho; cases ho
      rw [hd'] at hd; cases hd
    refine ⟨kp', List.prefix_refl _, .refl, ⟨ei.kind, ei.glob, ei.blt, ei.nb, ⟨_, hn', ?_, fun j w e => ?_⟩, fun z c e => ?_, ei.apart⟩, ?_⟩
    · show (if callsN = x then _ else m callsN) = none
      rw [if_neg (Ne.symm hxc)]; exact hc
    · simp only [upd] at e
      by_cases hj : j = i
      · rw [if_pos hj] at e; cases e
        subst hj
        exact ⟨x, v, hx, mono r, .inl ⟨hk, if_pos rfl⟩⟩
      · rw [if_neg hj] at e
        obtain ⟨x', val, a, b, c⟩ := hl j w e
        refine ⟨x', val, a, mono b, c.imp (fun ⟨p, q⟩ => ⟨p, ?_⟩) fun ⟨p, c, q, z⟩ => ⟨p, c, q, cellK _ _ z (cne _ _ z)⟩⟩
        have : x' ≠ x := fun q => hj (inj j (q ▸ a))
        show (if x' = x then _ else m x') = _
        rw [if_neg this]; exact q
    · obtain ⟨a, w, b⟩ := ei.cells z c e
      exact ⟨a, w, cellK _ _ b (cne _ _ b)⟩
    · have nL : env.locals ∉ ρ := ei.notL hi _ (.head _)
      refine ⟨fun b o e => kp b o (hi.stays b o e) (fun q => ?_), FunFrames.turn (fun b o e f => ?_) hi.ff, hi.nd, hi.len, hi.nb, fun i a xs e1 e2 => ?_⟩
      · rw [List.mem_singleton.mp q, ei.nb] at e; cases e
      · by_cases q : b = env.locals
        · subst q
          obtain ⟨o', es, ep, ho', hd', _⟩ := hn'
          exact ⟨o', ho', fun vs z => by rw [hd'] at z; cases z⟩
        · exact ⟨o, kp b o e (by simpa using q), f⟩
      · obtain ⟨vs, ⟨np, ho⟩, rr⟩ := hi.hr i a xs e1 e2
        exact ⟨vs, ⟨np, kp a _ ho (fun q => nL (List.mem_singleton.mp q ▸ List.mem_of_getElem? e1))⟩, rr.mono kp' M0 (List.prefix_refl _)⟩
  · obtain ⟨c, hcl⟩ := Option.isSome_iff_exists.mp hsome
    have hcm := mem_lookup hcl
    obtain ⟨hcb, v₀, hcv⟩ := ei.cells x c hcm
    refine wpAny_storeName_cell ei.kind hk hcl hcv (fun h' hv' hs => ok h' s.toks ?_)
    have kp : Keep [c] s.heap h' := fun a o e z => (hs.2 a fun q => z (by rw [q]; exact .head _)).trans e
    have kp' : Keep (ρ ++ own env) s.heap h' := kp.mono fun a q => by
      rw [List.mem_singleton.mp q]; exact List.mem_append_right _ (.tail _ (List.mem_map.mpr ⟨(x, c), hcm, rfl⟩))
    have mono : ∀ {y : V} {v : Value}, VR W ρ s.heap y v → VR W ρ h' y v := fun q => q.mono kp' M0 (List.prefix_refl _)
    have lne : env.locals ≠ c := fun q => by
      obtain ⟨o', es, ep, ho', hd', _⟩ := hn
      obtain ⟨o, ho, hd⟩ := hcv
      rw [← q, ho'] at ho; cases ho
      rw [hd'] at hd; cases hd
    refine ⟨kp', List.prefix_refl _, .refl, ⟨ei.kind, ei.glob, ei.blt, ei.nb, ⟨m, hn.at' fun o e => kp _ o e (by simpa using lne), hc, fun j w e => ?_⟩, fun z c' e => ?_, ei.apart⟩, ?_⟩
    · simp only [upd] at e
      by_cases hj : j = i
      · rw [if_pos hj] at e; cases e
        subst hj
        exact ⟨x, v, hx, mono r, .inr ⟨hk, c, hcl, hv'⟩⟩
      · rw [if_neg hj] at e
        obtain ⟨x', val, a, b, d⟩ := hl j w e
        refine ⟨x', val, a, mono b, d.imp id fun ⟨p, c', q, z⟩ => ⟨p, c', q, ?_⟩⟩
        have : x' ≠ x := fun q => hj (inj j (q ▸ a))
        have hne : c' ≠ c := fun z => this (lookup_addr ei.apart (z ▸ q) hcl)
        obtain ⟨o, ho, hd⟩ := z
        exact ⟨o, kp c' o ho (by simpa using hne), hd⟩
    · obtain ⟨a, w, b⟩ := ei.cells z c' e
      by_cases q : c' = c
      · subst q; exact ⟨a, _, hv'⟩
      · obtain ⟨o, ho, hd⟩ := b
        exact ⟨a, w, o, kp c' o ho (by simpa using q), hd⟩
    · have nL : c ∉ ρ := ei.notL hi _ (.tail _ (List.mem_map.mpr ⟨(x, c), hcm, rfl⟩))
      refine ⟨fun b o e => kp b o (hi.stays b o e) (fun q => ?_), FunFrames.turn (fun b o e f => ?_) hi.ff, hi.nd, hi.len, hi.nb, fun i a xs e1 e2 => ?_⟩
      · rw [List.mem_singleton.mp q, hcb] at e; cases e
      · by_cases q : b = c
        · subst q
          obtain ⟨o', ho', hd'⟩ := hv'
          exact ⟨o', ho', fun vs z => by rw [hd'] at z; cases z⟩
        · exact ⟨o, kp b o e (by simpa using q), f⟩
      · obtain ⟨vs, ⟨np, ho⟩, rr⟩ := hi.hr i a xs e1 e2
        exact ⟨vs, ⟨np, kp a _ ho (fun q => nL (List.mem_singleton.mp q ▸ List.mem_of_getElem? e1))⟩, rr.mono kp' M0 (List.prefix_refl _)⟩
end
end Mine
end
section
set_option tactic.hygienic false
open PySem PySem.W PyProof.Rows PySem.Calls
namespace Mine

section
variable {W : Wd} {lay : List Str} {env : Env} {n : Nat}

/-! ## plain statements -/
noncomputable def sNil : DS := fun st => .ok .next st
noncomputable def sSeq (a b : DS) : DS := fun st => (a st).bind fun f st' => match f with
  | .next => b st'
  | f => .ok f st'
theorem good_nil : GoodS W lay env n (execs [] env) sNil :=
  fun _ _ _ _ _ _ _ _ _ _ ei hi _ ok _ => wpAny_execs_nil (ok _ _ _ _ _ _ rfl .next (.refl ei hi))
theorem good_seq {st : Stmt} {rest : List Stmt} {a b : DS} (ha : GoodS W lay env n (exec st env) a) (hb : GoodS W lay env n (execs rest env) b) : GoodS W lay env n (execs (st :: rest) env) (sSeq a b) := by
  intro A outer ρ s₀ s Q E hr hf hfr ei hi hs ok ex
  refine wpAny_execs_cons (ha A outer ρ s₀ s _ _ hr hf hfr ei hi (RS.ns hs) (fun fl st' ρ' f h' tk e r S => ?_) fun e s' eq x => ex e s' (RS.ofX eq) x)
  have n1 := RS.ns2 hs e
  cases r with
  | next => exact hb A outer ρ' st' _ _ _ hr hf hfr S.ei S.hi n1 (fun fl2 st2 ρ2 f2 h2 tk2 e2 r2 S2 => ok _ _ _ _ _ _ (RS.of e e2) r2 (S.trans S2)) fun e' s' e2 x => ex e' s' (RS.of e e2) (x.backS S)
  | cont => exact ok _ _ _ _ _ _ (RS.of e rfl) .cont S
  | brk => exact ok _ _ _ _ _ _ (RS.of e rfl) .brk S
  | ret v => exact ok _ _ _ _ _ _ (RS.of e rfl) (.ret v) S

noncomputable def sAssign (i : Nat) (d : DE) : DS := fun st => (d st).bindS fun v σ => .ok .next ⟨upd st.loc i v, σ⟩
theorem good_assign {i : Nat} {x : Str} {p pos : Pos} {value : PySem.Expr} {d : DE} (L : LayOK lay env) (hx : lay[i]? = some x) (hs : swapsWith value (some (.Name x p)) pos.line env = pure false) (hd : GoodE W lay env n (eval value env) d) :
    GoodS W lay env n (exec (.Assign [.Name x p] value pos) env) (sAssign i d) := by
  intro A outer ρ st s Q E hr hf hfr ei hi hns ok ex
  refine wpAny_Assign_Name (hd A _ ρ st s _ _ hr hf ei hi (R.nsS hns) (fun v σ' ρ' w h' tk e r S => ?_) fun e s' eq x => ex e s' (R.ofSX eq) x.toS) hs
  have S1 := S.toS ei hi
  exact store_slot (st := ⟨st.loc, σ'⟩) L hx S1.ei S1.hi r fun h2 tk2 S2 => ok _ _ _ _ _ _ (R.ofS e rfl) .next (S1.trans S2)

noncomputable def sReturn (d : DE) : DS := fun st => (d st).bindS fun v σ => .ok (.ret v) ⟨st.loc, σ⟩
theorem good_return {value : PySem.Expr} {pos : Pos} {d : DE} (hd : GoodE W lay env n (eval value env) d) : GoodS W lay env n (exec (.Return (some value) pos) env) (sReturn d) := by
  intro A outer ρ st s Q E hr hf hfr ei hi hns ok ex
  exact wpAny_Return_some (hd A _ ρ st s _ _ hr hf ei hi (R.nsS hns) (fun v σ' ρ' w h' tk e r S => ok _ _ _ _ _ _ (R.ofS e rfl) (.ret r) (S.toS ei hi)) fun e s' eq x => ex e s' (R.ofSX eq) x.toS)

noncomputable def sExpr (d : DE) : DS := fun st => (d st).bindS fun _ σ => .ok .next ⟨st.loc, σ⟩
theorem good_expr {value : PySem.Expr} {pos : Pos} {d : DE} (hd : GoodE W lay env n (eval value env) d) (hi' : interactive env = false) (hsw : swapsWith value none pos.line env = pure false) : GoodS W lay env n (exec (.Expr value pos) env) (sExpr d) := by
  intro A outer ρ st s Q E hr hf hfr ei hi hns ok ex
  exact wpAny_Expr_any (hd A _ ρ st s _ _ hr hf ei hi (R.nsS hns) (fun v σ' ρ' w h' tk e r S => ok _ _ _ _ _ _ (R.ofS e rfl) .next (S.toS ei hi)) fun e s' eq x => ex e s' (R.ofSX eq) x.toS) hi' hsw

noncomputable def sIf (t : DB) (a b : DS) : DS := fun st => (t st).bindS fun c σ => if c then a ⟨st.loc, σ⟩ else b ⟨st.loc, σ⟩
theorem good_if {test : PySem.Expr} {body orelse : List Stmt} {pos : Pos} {t : DB} {a b : DS} (ht : GoodB W lay env n (isTrue test env (eval test env)) t) (ha : GoodS W lay env n (execs body env) a) (hb : GoodS W lay env n (execs orelse env) b) :
    GoodS W lay env n (exec (.If test body orelse pos) env) (sIf t a b) := by
  intro A outer ρ st s Q E hr hf hfr ei hi hns ok ex
  refine wpAny_If (ht A _ ρ st s _ _ hr hf ei hi (R.nsS hns) (fun c σ' ρ' v h' tk eq r S => ?_) fun e' s' eq x => ex e' s' (R.ofSX eq) x.toS)
  cases r
  have hs := R.nsS2 hns eq
  have S1 := S.toS ei hi
  cases c
  · exact hb A outer ρ' ⟨st.loc, σ'⟩ _ _ _ hr hf hfr S1.ei S1.hi hs (fun fl2 st2 ρ2 f2 h2 tk2 e2 r2 S2 => ok _ _ _ _ _ _ (R.ofS eq e2) r2 (S1.trans S2)) fun e' s' e₂ x => ex e' s' (R.ofS eq e₂) (x.backS S1)
  · exact ha A outer ρ' ⟨st.loc, σ'⟩ _ _ _ hr hf hfr S1.ei S1.hi hs (fun fl2 st2 ρ2 f2 h2 tk2 e2 r2 S2 => ok _ _ _ _ _ _ (R.ofS eq e2) r2 (S1.trans S2)) fun e' s' e₂ x => ex e' s' (R.ofS eq e₂) (x.backS S1)

noncomputable def sCont : DS := fun st => .ok .cont st
theorem good_continue {pos : Pos} : GoodS W lay env n (exec (.Continue pos) env) sCont :=
  fun _ _ _ _ _ _ _ _ _ _ ei hi _ ok _ => wpAny_Continue (ok _ _ _ _ _ _ rfl .cont (.refl ei hi))

/-! ## targets: a name, a tuple of names -/
inductive Tgt where
  | one (i : Nat)
  | many (is : List Nat)
noncomputable def updAll : (Nat → Option V) → List Nat → List V → Option (Nat → Option V)
  | loc, [], [] => some loc
  | loc, i :: is, x :: xs => updAll (upd loc i x) is xs
  | _, _, _ => none
noncomputable def Tgt.set (t : Tgt) (v : V) (loc : Nat → Option V) : Option (Nat → Option V) := match t, v with
  | .one i, v => some (upd loc i v)
  | .many is, .tup xs => updAll loc is xs
  | .many _, _ => none

/-- storing into a target -/
noncomputable def TgtOK (W : Wd) (lay : List Str) (env : Env) (target : PySem.Expr) (t : Tgt) : Prop :=
  ∀ (A : Around) (outer : List Env) (ρ : List Addr) (st : St) (s : Shared) (x : V) (v : Value) (loc' : Nat → Option V) (Q : Unit → Shared → Prop) (E : Value → Shared → Prop),
    A.handled = none → EI W lay env ρ st.loc s.heap → HI W (env :: outer) ρ st.sto s.heap → VR W ρ s.heap x v → t.set x st.loc = some loc' →
    (∀ h' tk, StepS W lay env (env :: outer) ρ s.heap ρ ⟨loc', st.sto⟩ h' → Q () { s with heap := h', toks := tk }) → wpAny W.M A (assign target env v) Q E s
theorem tgt_one {i : Nat} {x : Str} {p : Pos} (L : LayOK lay env) (hx : lay[i]? = some x) : TgtOK W lay env (.Name x p) (.one i) := by
  intro A outer ρ st s y v loc' Q E hh ei hi r e ok
  cases e
  exact wpAny_assign_Name (store_slot L hx ei hi r ok)

inductive NamesOf (lay : List Str) (env : Env) : List PySem.Expr → List Nat → Prop
  | nil : NamesOf lay env [] []
  | cons {x : Str} {p : Pos} {i : Nat} {es : List PySem.Expr} {is : List Nat} : lay[i]? = some x → NamesOf lay env es is → NamesOf lay env (.Name x p :: es) (i :: is)
set_option tactic.hygienic true in
theorem NamesOf.each {es : List PySem.Expr} {is : List Nat} (N : NamesOf lay env es is) : (assignEach es env).length = is.length ∧ (assignEach es env).findIdx? (·.1) = none := by
  induction N with
  | nil => exact ⟨rfl, rfl⟩
  | cons hx _ ih =>
    rename_i x p i es is _
    have e : assignEach (.Name x p :: es) env = (false, assign (.Name x p) env) :: assignEach es env := rfl
    rw [e]
    exact ⟨by simp [ih.1], by simp [List.findIdx?_cons, ih.2]⟩
set_option tactic.hygienic true in
theorem names_store (L : LayOK lay env) {es : List PySem.Expr} {is : List Nat} (N : NamesOf lay env es is) : ∀ (A : Around) (outer : List Env) (ρ : List Addr) (st : St) (s : Shared) (xs : List V) (vs : List Value) (loc' : Nat → Option V) (Q : Unit → Shared → Prop) (E : Value → Shared → Prop),
    EI W lay env ρ st.loc s.heap → HI W (env :: outer) ρ st.sto s.heap → VRs W ρ s.heap xs vs → updAll st.loc is xs = some loc' →
    (∀ h' tk, StepS W lay env (env :: outer) ρ s.heap ρ ⟨loc', st.sto⟩ h' → Q () { s with heap := h', toks := tk }) → wpAny W.M A (assignInOrder ((assignEach es env).map (·.2)) vs) Q E s := by
  induction N with
  | nil =>
    intro A outer ρ st s xs vs loc' Q E ei hi r e ok
    cases r with
    | nil => cases e; exact wpAny_assignInOrder_none (ok s.heap s.toks (.refl ei hi))
    | cons _ _ => cases e
  | cons hx _ ih =>
    rename_i x p i es is _
    intro A outer ρ st s xs vs loc' Q E ei hi r e ok
    cases r with
    | nil => cases e
    | cons r0 rr =>
      have e' : assignEach (.Name x p :: es) env = (false, assign (.Name x p) env) :: assignEach es env := rfl
      rw [e']
      refine wpAny_assignInOrder_more (wpAny_assign_Name (store_slot L hx ei hi r0 fun h1 tk1 S1 => ?_))
      refine ih A outer ρ ⟨upd st.loc i _, st.sto⟩ _ _ _ loc' _ _ S1.ei S1.hi (S1.vrs ei hi rr) e fun h2 tk2 S2 => ok h2 tk2 (S1.trans S2)
set_option tactic.hygienic true in
theorem tgt_many {es : List PySem.Expr} {is : List Nat} {k : Nat} {p : Pos} (L : LayOK lay env) (N : NamesOf lay env es is) : TgtOK W lay env (.Tuple es k p) (.many is) := by
  intro A outer ρ st s y v loc' Q E hh ei hi r e ok
  cases y <;> first | (exact absurd (show none = some loc' from e) (by simp)) | skip
  rename_i xs
  cases r with
  | tup ho rr =>
  rename_i vs a m
  have hlen : is.length = xs.length := by
    have : ∀ (is : List Nat) (xs : List V) (loc : Nat → Option V), updAll loc is xs = some loc' → is.length = xs.length := by
      intro is
      induction is with
      | nil => intro xs loc h; cases xs with
        | nil => rfl
        | cons _ _ => cases h
      | cons i is ih => intro xs loc h; cases xs with
        | nil => cases h
        | cons x xs => exact congrArg (· + 1) (ih xs _ h)
    exact this is xs _ e
  have hz := rr.length
  refine wpAny_assign_Tuple hh ⟨_, ho, rfl, m, rfl⟩ (by rw [N.each.1, List.size_toArray, hz]; exact hlen) N.each.2 fun h' hk => ?_
  have k : ∀ b o, s.heap.get? b = some o → h'.get? b = some o := fun b o e => hk b o (Nat.ne_of_lt (Heap.lt_size e)) e
  have S0 : Step W (env :: outer) ρ s.heap ρ st.sto h' := .grow hi k
  have S1 := S0.toS ei hi
  exact names_store L N A outer ρ ⟨st.loc, st.sto⟩ _ xs vs loc' _ _ S1.ei S1.hi (rr.after hi S0) e fun h2 tk2 S2 => ok h2 tk2 (S1.trans S2)

noncomputable def sUnpack (is : List Nat) (d : DE) : DS := fun st => (d st).bindS fun v σ => match (Tgt.many is).set v st.loc with
  | some loc' => .ok .next ⟨loc', σ⟩
  | none => .stuck
theorem good_unpack {es : List PySem.Expr} {is : List Nat} {k : Nat} {p pos : Pos} {value : PySem.Expr} {d : DE} (L : LayOK lay env) (N : NamesOf lay env es is) (hd : GoodE W lay env n (eval value env) d)
    (hs : swapsWithSole [.Tuple es k p] value pos.line env = pure false) (hw : swappedStores [.Tuple es k p] value env = pure none) : GoodS W lay env n (exec (.Assign [.Tuple es k p] value pos) env) (sUnpack is d) := by
  intro A outer ρ st s Q E hr hf hfr ei hi hns ok ex
  refine Assign_Tuple (hd A _ ρ st s _ _ hr hf ei hi (R.nsS hns) (fun v σ' ρ' w h' tk e r S => ?_) fun e s' eq x => ex e s' (R.ofSX eq) x.toS) hs hw
  have n1 := R.nsS2 hns e
  have S1 := S.toS ei hi
  cases hq : (Tgt.many is).set v st.loc with
  | none => rw [hq] at n1; exact absurd rfl n1
  | some loc' =>
    exact tgt_many L N A outer ρ' ⟨st.loc, σ'⟩ _ v w loc' _ _ hr.hd S1.ei S1.hi r hq fun h2 tk2 S2 => ok _ _ _ _ _ _ (R.ofS e (by rw [hq])) .next (S1.trans S2)

/-! ## an item stored -/
theorem setItem_plain {prog : Program} {w : World} {A : Around} {E : Value → Shared → Prop} {s : Shared} {l : Addr} {items : Array Value} {k : Int} {t : Tok} {v : Value} {Q : Unit → Shared → Prop} (hl : s.heap.PlainList l items)
    (h0 : 0 ≤ k) (hfit : k < 2 ^ 63) (hn : k < items.size)
    (hQ : ∀ h', h'.PlainList l (items.setIfInBounds k.toNat v) → Heap.SameBut l s.heap h' → Q () { s with heap := h' }) :
    wpAny (model prog w) A (setItem (.ref l) (.int k t) v) Q E s := by
  obtain ⟨ne, ho⟩ := hl
  have hL : s.heap.IsList l items := ⟨_, ho, rfl, ne, rfl⟩
  unfold setItem
  try with_reducible refine wpAny_holding ?_
  first | refine wpAny_bind (wpAny_pure ?_) | skip
  refine wpAny_bind (wpAny_sequenceKey hL.typeIs (by decide) ?_)
  refine wpAny_bind (wpAny_callSpecial?_slot (name := Str.ofString "__setitem__") hL.typeIs slot_list_setitem
    (wpAny_call_entry slot_list_setitem hL.typeIs entry_list_setitem ?_ (args_list_setitem _ _ _)))
  show wpAny _ _ (Builtin.List.listSubscript? (.int k t) >>= _) _ _ s
  refine wpAny_bind (wpAny_listSubscript_int (fitsIndex_of h0 hfit) ?_)
  clear hfit
  obtain ⟨j, rfl⟩ := Int.eq_ofNat_of_zero_le h0
  have hj : j < items.size := by (first | lia | omega)
  have hx' : items[j]? = some items[j] := Array.getElem?_eq_getElem hj
  show wpAny _ _ ((seqItemAt l j >>= fun r => pure (r.map (j, ·))) >>= _) _ _ s
  refine wpAny_bind (wpAny_bind (wpAny_seqItemAt ho rfl (wpAny_pure ?_)))
  rw [hx']
  show wpAny _ _ (setSeqItemAt l j v >>= _) _ _ s
  have hfin : (s.heap.update l (Obj.mapSeq (·.setIfInBounds j v))).PlainList l (items.setIfInBounds j v) := by
    have := Heap.get?_update_self (Obj.mapSeq (·.setIfInBounds j v)) ho rfl
    simp only [Obj.mapSeq] at this
    exact ⟨_, this⟩
  refine wpAny_bind (wpAny_setSeqItemAt ho rfl ?_)
  first
    | exact wpAny_bind (wpAny_pure (wpAny_pure ⟨.none, rfl, wpAny_pure (hQ _ hfin (Heap.SameBut.update ..))⟩))
    | exact wpAny_pure ⟨.none, rfl, wpAny_pure (hQ _ hfin (Heap.SameBut.update ..))⟩

noncomputable def sSetItem (dv dl di : DE) : DS := fun st => (dv st).bindS fun v σ => (dl ⟨st.loc, σ⟩).bindS fun l σ => (di ⟨st.loc, σ⟩).bindS fun i σ => match l, i with
  | .lst r, .int k => (match σ[r]? with
    | some xs => if 0 ≤ k ∧ k < xs.length ∧ xs.length ≤ limN then .ok .next ⟨st.loc, σ.set r (xs.set k.toNat v)⟩ else .stuck
    | none => .stuck)
  | _, _ => .stuck
set_option tactic.hygienic true in
theorem good_setItem {o i value : PySem.Expr} {p pos : Pos} {dv dl di : DE} (hv : GoodE W lay env n (eval value env) dv) (ho : GoodE W lay env n (eval o env) dl) (hi' : GoodE W lay env n (eval i env) di)
    (hsw : swapsWith value (some (.Subscript o i p)) pos.line env = pure false) : GoodS W lay env n (exec (.Assign [.Subscript o i p] value pos) env) (sSetItem dv dl di) := by
  intro A outer ρ st s Q E hr hf hfr ei hi hns ok ex
  refine wpAny_Assign_Subscript (hv A _ ρ st s _ _ hr hf ei hi (R.nsS hns) (fun v σ1 ρ1 w h1 tk1 e1 r1 S1 => ?_) fun e s' eq x => ex e s' (R.ofSX eq) x.toS) hsw
  have n1 := R.nsS2 hns e1
  have ei1 := ei.after hi S1
  refine ho A _ ρ1 ⟨st.loc, σ1⟩ _ _ _ hr hf ei1 S1.hi (R.nsS n1) (fun l σ2 ρ2 wl h2 tk2 e2 r2 S2 => ?_) fun e s' eq x => ex e s' (R.ofS e1 (R.ofSX eq)) (x.back S1).toS
  have n2 := R.nsS2 n1 e2
  have S12 := S1.trans S2
  refine hi' A _ ρ2 ⟨st.loc, σ2⟩ _ _ _ hr hf (ei1.after S1.hi S2) S2.hi (R.nsS n2) (fun i σ3 ρ3 wi h3 tk3 e3 r3 S3 => ?_) fun e s' eq x => ex e s' (R.ofS e1 (R.ofS e2 (R.ofSX eq))) (x.back S12).toS
  have n3 := R.nsS2 n2 e3
  have S13 := S12.trans S3
  cases l <;> first | exact absurd rfl n3 | skip
  cases i <;> first | exact absurd rfl n3 | skip
  rename_i r k
  dsimp only at n3
  cases hx : σ3[r]? with
  | none => rw [hx] at n3; exact absurd rfl n3
  | some xs =>
    rw [hx] at n3
    dsimp only at n3
    by_cases hk : 0 ≤ k ∧ k < xs.length ∧ xs.length ≤ limN
    · obtain ⟨b, ws, j, rfl, q2, ho2, r2'⟩ := S3.hi.list hx (r2.after S2.hi S3)
      cases r3 with
      | int _ t =>
      have hz : ws.toArray.size = xs.length := by rw [List.size_toArray, r2'.length]
      refine setItem_plain ⟨j, ho2⟩ hk.1 (by have := hk.2.2; unfold limN at this; (first | lia | omega)) (by rw [hz]; exact hk.2.1) fun h' hp hs => ?_
      have S4 := S3.hi.setL (vs := ws.set k.toNat w) q2 hs (by rw [List.setIfInBounds_toArray] at hp; exact hp) (VRs.set ((r1.after S1.hi S2).after S2.hi S3) k.toNat r2')
      exact ok _ _ _ _ _ tk3 (R.ofS e1 (R.ofS e2 (R.ofS e3 (by dsimp only; rw [hx]; exact if_pos hk)))) .next ((S13.trans S4).toS ei hi)
    · rw [if_neg hk] at n3; exact absurd rfl n3
end
end Mine
end
section
set_option tactic.hygienic false
open PySem PySem.W PyProof.Rows PySem.Calls
namespace Mine

section
variable {W : Wd} {lay : List Str} {env : Env} {n : Nat}

/-! ## what is iterated -/
inductive Src where
  | lst (r : Nat)
  | tup (xs : List V)
  | rng (k : Int)
noncomputable def Src.of : V → Option Src
  | .lst r => some (.lst r)
  | .tup xs => some (.tup xs)
  | .rng k => if -1000 ≤ k ∧ k ≤ 1000 then some (.rng k) else none
  | _ => none
noncomputable def Src.items : Src → Sto → Option (List V)
  | .lst r, σ => σ[r]?
  | .tup xs, _ => some xs
  | .rng k, _ => some ((List.range k.toNat).map fun (i : Nat) => V.int (i : Int))

noncomputable def ItAt (W : Wd) (ρ : List Addr) (h : Heap) (I : Addr) (i : Nat) : Src → Prop
  | .lst r => ∃ a, ρ[r]? = some a ∧ h.IsListIter I a i
  | .tup xs => ∃ t vs m, h.get? t = some { cls := .type "tuple", data := .seq (List.toArray vs) m } ∧ VRs W ρ h xs vs ∧ h.IsTupleIter I t i
  | .rng k => IsRangeIter h I ((0 : Int) + (i : Int) * 1) ((k.toNat : Int) - (i : Int)) 1 ∧ k ≤ 1000

theorem ItAt.obj {ρ : List Addr} {h : Heap} {I : Addr} {i : Nat} {src : Src} (x : ItAt W ρ h I i src) : ∃ o, h.get? I = some o ∧ (∃ T ∈ iterT, o.cls = .type T) ∧ ∃ vs, o.data = .fields vs := by
  cases src with
  | lst r => obtain ⟨a, _, o, ho, hc, hd⟩ := x; exact ⟨o, ho, ⟨_, .head _, hc⟩, _, hd⟩
  | tup xs => obtain ⟨t, vs, m, _, _, o, ho, hc, hd⟩ := x; exact ⟨o, ho, ⟨_, .tail _ (.head _), hc⟩, _, hd⟩
  | rng k => exact ⟨_, x.1, ⟨_, .tail _ (.tail _ (.head _)), rfl⟩, _, rfl⟩
theorem ItAt.mut {ρ : List Addr} {h : Heap} {I : Addr} {i : Nat} {src : Src} (x : ItAt W ρ h I i src) : MutAt h [I] := fun a q o e => by
  obtain ⟨o', ho, hc, _⟩ := x.obj
  rw [List.mem_singleton.mp q, ho] at e; cases e
  exact .inr (.inr (.inr hc))
theorem ItAt.notIn {ρ : List Addr} {h : Heap} {I : Addr} {i : Nat} {src : Src} (x : ItAt W ρ h I i src) {fs : List Env} {σ : Sto} (H : HI W fs ρ σ h) : I ∉ ρ := fun q => by
  obtain ⟨o', ho, _, vs, hd⟩ := x.obj
  obtain ⟨o, ho2, hc, xs, m, hd2⟩ := H.isL q
  rw [ho] at ho2; cases ho2
  rw [hd] at hd2; cases hd2
theorem ItAt.notOwn {ρ : List Addr} {h : Heap} {I : Addr} {i : Nat} {src : Src} (x : ItAt W ρ h I i src) {loc : Nat → Option V} (E : EI W lay env ρ loc h) : I ∉ own env := fun q => by
  obtain ⟨o', ho, _, vs, hd⟩ := x.obj
  rcases List.mem_cons.mp q with rfl | q
  · obtain ⟨m, ⟨o, es, ep, ho', hd', _⟩, _⟩ := E.ns
    rw [ho] at ho'; cases ho'
    rw [hd] at hd'; cases hd'
  · obtain ⟨⟨y, c⟩, hm, rfl⟩ := List.mem_map.mp q
    obtain ⟨_, v, o, ho', hd'⟩ := E.cells y c hm
    rw [ho] at ho'; cases ho'
    rw [hd] at hd'; cases hd'

/-- the iterator alone turned -/
theorem HI.turnI {fs : List Env} {ρ : List Addr} {σ : Sto} {h h' : Heap} {I : Addr} (H : HI W fs ρ σ h) (k : Keep [I] h h') (m : MutAt h [I]) (hb : W.base.get? I = none) (hn : I ∉ ρ) (hd : ∃ o vs, h.get? I = some o ∧ o.data = .fields vs) : HI W fs ρ σ h' := by
  obtain ⟨o₀, vs₀, h0, d0⟩ := hd
  refine ⟨fun b o e => k b o (H.stays b o e) fun q => ?_, H.ff.of_keeps fun b o e f => ⟨o, k b o e fun q => ?_, rfl⟩, H.nd, H.len, H.nb, fun r a xs e1 e2 => ?_⟩
  · rw [List.mem_singleton.mp q, hb] at e; cases e
  · rw [List.mem_singleton.mp q, h0] at e; cases e; exact f _ d0
  · obtain ⟨vs, ⟨c, ho⟩, b⟩ := H.hr r a xs e1 e2
    exact ⟨vs, ⟨c, k a _ ho fun q => hn (List.mem_singleton.mp q ▸ List.mem_of_getElem? e1)⟩, b.mono k m (List.prefix_refl _)⟩

set_option tactic.hygienic true in
theorem it_start {A : Around} {fs : List Env} {ρ : List Addr} {σ : Sto} {s : Shared} {x : V} {v : Value} {src : Src} {Q : Value → Shared → Prop} {E : Value → Shared → Prop}
    (hi : HI W fs ρ σ s.heap) (r : VR W ρ s.heap x v) (hs : Src.of x = some src) (hsome : (src.items σ).isSome = true)
    (ok : ∀ I h' tk, Step W fs ρ s.heap ρ σ h' → ItAt W ρ h' I 0 src → s.heap.get? I = none → Q (.ref I) { s with heap := h', toks := tk }) : wpAny W.M A (pyIter v) Q E s := by
  cases x <;> first | (exact absurd (show none = some src from hs) (by simp)) | skip
  · cases hs
    cases r with
    | tup ho rr =>
    rename_i vs a m
    have k : ∀ b o, s.heap.get? b = some o → (s.heap.push { cls := .type "tuple_iterator", data := .fields #[.ref a, .int 0 0] }).get? b = some o := fun b o e => Heap.get?_push_of_some _ e
    exact wpAny_pyIter_tuple ⟨_, ho, rfl, _, rfl⟩ (ok _ _ s.toks (.grow hi k) ⟨_, _, _, k _ _ ho, rr.mono (l := []) (.all k) (fun _ q => nomatch q) (List.prefix_refl _), _, Heap.get?_push_size _ rfl, rfl, rfl⟩ (Heap.get?_none_of_le (Nat.le_refl _)))
  · cases hs
    obtain ⟨xs, e⟩ := Option.isSome_iff_exists.mp hsome
    obtain ⟨b, ws, j, rfl, q2, ho2, r2⟩ := hi.list e r
    have k : ∀ a o, s.heap.get? a = some o → (s.heap.push { cls := .type "list_iterator", data := .fields #[.ref b, .int 0 0] }).get? a = some o := fun a o e => Heap.get?_push_of_some _ e
    exact wpAny_pyIter_list ⟨_, ho2, rfl, j, rfl⟩ (ok _ _ s.toks (.grow hi k) ⟨b, q2, _, Heap.get?_push_size _ rfl, rfl, rfl⟩ (Heap.get?_none_of_le (Nat.le_refl _)))
  · rename_i k
    simp only [Src.of] at hs
    by_cases hk : -1000 ≤ k ∧ k ≤ 1000
    · rw [if_pos hk] at hs; cases hs
      cases r with
      | rng hR =>
      have kp : ∀ a o, s.heap.get? a = some o → (s.heap.push { cls := .type "range_iterator", data := .fields #[rawInt 0, rawInt (Builtin.Range.rangeSize 0 k 1), rawInt 1] }).get? a = some o := fun a o e => Heap.get?_push_of_some _ e
      have hsz : Builtin.Range.rangeSize 0 k 1 = (k.toNat : Int) := by rw [rangeSize_one]; split <;> (first | lia | omega)
      refine wpAny_pyIter_range hR (small_one (by decide) (by decide) (by (first | lia | omega)) (by (first | lia | omega))) (ok _ _ s.toks (.grow hi kp) ⟨?_, hk.2⟩ (Heap.get?_none_of_le (Nat.le_refl _)))
      have e1 : ((0 : Int) + ((0 : Nat) : Int) * 1) = 0 := by simp
      have e2 : ((k.toNat : Int) - ((0 : Nat) : Int)) = Builtin.Range.rangeSize 0 k 1 := by rw [hsz]; simp
      rw [e1, e2]
      exact Heap.get?_push_size _ rfl
    · rw [if_neg hk] at hs; cases hs
end
end Mine
end
section
set_option tactic.hygienic false
open PySem PySem.W PyProof.Rows PySem.Calls
namespace Mine

section
variable {W : Wd} {lay : List Str} {env : Env} {n : Nat}

theorem keepI {h h' : Heap} {I : Addr} (hs : Heap.ExtBut I h h') : Keep [I] h h' := fun a o e z => hs a o (fun q => z (by rw [q]; exact .head _)) e

theorem it_item {A : Around} {fs : List Env} {ρ : List Addr} {σ : Sto} {s : Shared} {I : Addr} {i : Nat} {src : Src} {xs : List V} {x : V} {Q : Option Value → Shared → Prop} {E : Value → Shared → Prop}
    (hi : HI W fs ρ σ s.heap) (it : ItAt W ρ s.heap I i src) (hx : src.items σ = some xs) (e : xs[i]? = some x)
    (ok : ∀ v h' tk, VR W ρ h' x v → ItAt W ρ h' I (i + 1) src → Keep [I] s.heap h' → Q (some v) { s with heap := h', toks := tk }) : wpAny W.M A (pyNext (.ref I)) Q E s := by
  have M := it.mut
  have nI := it.notIn hi
  cases src with
  | lst r =>
    obtain ⟨a, ha, hit⟩ := it
    obtain ⟨vs, ⟨c, ho⟩, rr⟩ := hi.hr r a xs ha hx
    obtain ⟨v, hv, rv⟩ := rr.get e
    exact wpAny_pyNext_list_item hit ⟨_, ho, rfl, c, rfl⟩ (x := v) (by simpa using hv) fun h' hit' hs => ok v h' s.toks (rv.mono (keepI hs.extBut) M (List.prefix_refl _)) ⟨a, ha, hit'⟩ (keepI hs.extBut)
  | tup ys =>
    cases hx
    obtain ⟨t, vs, m, ho, rr, hit⟩ := it
    obtain ⟨v, hv, rv⟩ := rr.get e
    have ne : t ≠ I := fun q => by
      obtain ⟨o, ho2, hc, _⟩ := hit
      rw [← q, ho] at ho2; cases ho2
      injection hc with hc; exact absurd hc (by decide)
    exact wpAny_pyNext_tuple_item hit ⟨_, ho, rfl, m, rfl⟩ (x := v) (by simpa using hv) fun h' hit' hs => ok v h' s.toks (rv.mono (keepI hs.extBut) M (List.prefix_refl _)) ⟨t, vs, m, hs.extBut _ _ ne ho, rr.mono (keepI hs.extBut) M (List.prefix_refl _), hit'⟩ (keepI hs.extBut)
  | rng k =>
    cases hx
    obtain ⟨hit, hk⟩ := it
    obtain ⟨hl, hxe⟩ := List.getElem?_eq_some_iff.mp e
    simp only [List.length_map, List.length_range] at hl
    have hx' : x = .int (i : Int) := by rw [← hxe]; simp
    subst hx'
    refine wpAny_pyNext_range_item hit (by (first | lia | omega)) fun h' hit' hs => ?_
    have z : (0 : Int) + (i : Int) * 1 = i := by (first | lia | omega)
    rw [z]
    refine ok _ h' (s.toks + 1) (.int _ _) ⟨?_, hk⟩ (keepI hs.extBut)
    have e1 : (0 : Int) + ((i + 1 : Nat) : Int) * 1 = (0 : Int) + (i : Int) * 1 + 1 := by push_cast; (first | lia | omega)
    have e2 : (k.toNat : Int) - ((i + 1 : Nat) : Int) = (k.toNat : Int) - (i : Int) - 1 := by push_cast; (first | lia | omega)
    rw [e1, e2]; exact hit'

theorem it_end {A : Around} {fs : List Env} {ρ : List Addr} {σ : Sto} {s : Shared} {I : Addr} {i : Nat} {src : Src} {xs : List V} {Q : Option Value → Shared → Prop} {E : Value → Shared → Prop}
    (hh : A.handled = none) (hi : HI W fs ρ σ s.heap) (it : ItAt W ρ s.heap I i src) (hx : src.items σ = some xs) (e : xs[i]? = none)
    (ok : ∀ h', Keep [I] s.heap h' → Q none { s with heap := h' }) : wpAny W.M A (pyNext (.ref I)) Q E s := by
  cases src with
  | lst r =>
    obtain ⟨a, ha, hit⟩ := it
    obtain ⟨vs, ⟨c, ho⟩, rr⟩ := hi.hr r a xs ha hx
    exact wpAny_pyNext_list_end hh hit ⟨_, ho, rfl, c, rfl⟩ (by
      have := List.getElem?_eq_none_iff.mp e
      simpa [rr.length] using this) fun h' hs => ok h' (keepI hs)
  | tup ys =>
    cases hx
    obtain ⟨t, vs, m, ho, rr, hit⟩ := it
    exact wpAny_pyNext_tuple_end hh hit ⟨_, ho, rfl, m, rfl⟩ (by
      have := List.getElem?_eq_none_iff.mp e
      simpa [rr.length] using this) fun h' hs => ok h' (keepI hs)
  | rng k =>
    cases hx
    obtain ⟨hit, hk⟩ := it
    have := List.getElem?_eq_none_iff.mp e
    simp only [List.length_map, List.length_range] at this
    exact wpAny_pyNext_range_end hh hit (by (first | lia | omega)) fun h' hs => ok h' (keepI hs)

theorem ItAt.stepS {fs : List Env} {ρ ρ' : List Addr} {st st' : St} {h h' : Heap} {I : Addr} {i : Nat} {src : Src} (it : ItAt W ρ h I i src) (E : EI W lay env ρ st.loc h) (H : HI W fs ρ st.sto h) (S : StepS W lay env fs ρ h ρ' st' h') : ItAt W ρ' h' I i src := by
  have nI : I ∉ ρ ++ own env := fun q => by
    rcases List.mem_append.mp q with q | q
    · exact it.notIn H q
    · exact it.notOwn E q
  have kI : ∀ o, h.get? I = some o → h'.get? I = some o := fun o e => S.keep I o e nI
  cases src with
  | lst r =>
    obtain ⟨a, ha, hit⟩ := it
    obtain ⟨t, rfl⟩ := S.pre
    exact ⟨a, by rw [List.getElem?_append_left (List.getElem?_eq_some_iff.mp ha).1]; exact ha, hit.at kI⟩
  | tup ys =>
    obtain ⟨t, vs, m, ho, rr, o, ho2, r⟩ := it
    refine ⟨t, vs, m, S.keep t _ ho (not_mem_of_mut (H.mutAt.append E.mutAt) ho ?_), S.vrs E H rr, o, kI o ho2, r⟩
    rintro (q | ⟨c, q⟩ | ⟨es, k, q, _⟩ | ⟨T, hT, q⟩)
    · injection q with q; exact absurd q (by decide)
    · cases q
    · cases q
    · injection q with q; subst q; exact absurd hT (by decide)
  | rng k => exact ⟨kI _ it.1, it.2⟩

theorem StepS.ofI {fs : List Env} {ρ ρ' : List Addr} {st : St} {h₀ h h' : Heap} {I : Addr} {i : Nat} {src : Src} (S : StepS W lay env fs ρ h₀ ρ' st h) (it : ItAt W ρ' h I i src) (n0 : h₀.get? I = none) (hb : W.base.get? I = none) (k : Keep [I] h h') : StepS W lay env fs ρ h₀ ρ' st h' := by
  have ei := S.ei.step k it.mut (fun a q z => it.notOwn S.ei (List.mem_singleton.mp z ▸ q)) (List.prefix_refl _)
  obtain ⟨o, ho, _, vs, hd⟩ := it.obj
  exact ⟨fun a o e z => k a o (S.keep a o e z) fun q => (by rw [List.mem_singleton.mp q, n0] at e; cases e), S.pre, S.fresh, ei, S.hi.turnI k it.mut hb (it.notIn S.hi) ⟨o, vs, ho, hd⟩⟩

/-! ## the target of a loop -/
structure TgtL (W : Wd) (lay : List Str) (env : Env) (target : PySem.Expr) (t : Tgt) : Prop where
  st : TgtOK W lay env target t
  go : ∀ (A : Around) (s : Shared) (I : Addr) (v : Value) (Q : Unit → Shared → Prop) (E : Value → Shared → Prop), (∃ o, s.heap.get? I = some o ∧ ∃ T ∈ iterT, o.cls = .type T) → Q () s → wpAny W.M A (letOwnedTupleGo target (.ref I) v) Q E s
theorem tgl_one {i : Nat} {x : Str} {p : Pos} (L : LayOK lay env) (hx : lay[i]? = some x) : TgtL W lay env (.Name x p) (.one i) :=
  ⟨tgt_one L hx, fun _ _ _ _ _ _ _ q => wpAny_of_eq (a := ()) rfl q⟩
theorem tgl_many {es : List PySem.Expr} {is : List Nat} {k : Nat} {p : Pos} (L : LayOK lay env) (N : NamesOf lay env es is) : TgtL W lay env (.Tuple es k p) (.many is) := by
  refine ⟨tgt_many L N, fun A s I v Q E ⟨o, ho, T, hT, hc⟩ q => ?_⟩
  unfold letOwnedTupleGo
  cases v <;> try exact wpAny_of_eq (a := ()) rfl q
  refine wpAny_bind (wpAny_load ho ?_)
  rw [hc]
  rcases hd : o.data with _ | _ <;> try exact wpAny_pure q
  dsimp only
  rw [if_neg]
  · exact wpAny_pure q
  · intro z
    have : (["enumerate", "zip", "dict_itemiterator", "dict_reverseitemiterator", "odict_iterator", "itertools.zip_longest", "itertools.pairwise"].contains T) = false := by
      rcases List.mem_cons.mp hT with rfl | hT
      · decide
      rcases List.mem_cons.mp hT with rfl | hT
      · decide
      rcases List.mem_cons.mp hT with rfl | hT
      · decide
      cases hT
    rw [this, Bool.false_and] at z
    cases z

/-! ## for -/
open Classical in
noncomputable def forGo (src : Src) (full : List V) (t : Tgt) (body : DS) : List V → St → RS
  | [], st => if src.items st.sto = some full then .ok .next st else .stuck
  | x :: xs, st => if src.items st.sto = some full then (match t.set x st.loc with
      | none => .stuck
      | some loc' => (body ⟨loc', st.sto⟩).bind fun f st' => match f with
        | .next => forGo src full t body xs st'
        | .cont => forGo src full t body xs st'
        | .brk => .ok .next st'
        | .ret v => .ok (.ret v) st') else .stuck
noncomputable def sFor (d : DE) (t : Tgt) (body : DS) : DS := fun st => (d st).bindS fun v σ => match Src.of v with
  | none => .stuck
  | some src => (match src.items σ with
    | none => .stuck
    | some full => forGo src full t body full ⟨st.loc, σ⟩)

/-- what holds between the turns of a for -/
inductive ForInv (W : Wd) (lay : List Str) (env : Env) (fs : List Env) (ρ : List Addr) (s : Shared) (I : Addr) (src : Src) (full : List V) (G : List V → St → Prop) : Nat → Shared → Prop
  | mk (h : Heap) (tk : Nat) (ρ' : List Addr) (st' : St) (i : Nat) (xs : List V) (d : full.drop i = xs) (eq : G xs st') (S : StepS W lay env fs ρ s.heap ρ' st' h) (it : ItAt W ρ' h I i src) : ForInv W lay env fs ρ s I src full G xs.length { s with heap := h, toks := tk }
/-- what holds between the turns of a while -/
inductive WhileInv (W : Wd) (lay : List Str) (env : Env) (fs : List Env) (ρ : List Addr) (s : Shared) (G : Nat → St → Prop) : Nat → Shared → Prop
  | mk (m : Nat) (h : Heap) (tk : Nat) (ρ' : List Addr) (st' : St) (eq : G m st') (S : StepS W lay env fs ρ s.heap ρ' st' h) : WhileInv W lay env fs ρ s G m { s with heap := h, toks := tk }
theorem good_for {target iter : PySem.Expr} {body : List Stmt} {pos : Pos} {d : DE} {t : Tgt} {b : DS} (hd : GoodE W lay env n (eval iter env) d) (T : TgtL W lay env target t) (hb : GoodS W lay env n (execs body env) b)
    (hs : ∀ x, foldedSetIterable iter env x = pure x) : GoodS W lay env n (exec (.For target iter body [] pos) env) (sFor d t b) := by
  intro A outer ρ st s Q E hr hf hfr ei hi hns ok ex
  refine wpAny_For (hd A _ ρ st s _ _ hr hf ei hi (R.nsS hns) (fun v σ1 ρ1 w h1 tk1 e1 r1 S1 => ?_) fun e s' eq x => ex e s' (R.ofSX eq) x.toS) hs
  have n1 := R.nsS2 hns e1
  cases hsrc : Src.of v with
  | none => rw [hsrc] at n1; exact absurd rfl n1
  | some src =>
  cases hfull : src.items σ1 with
  | none => rw [hsrc] at n1; dsimp only at n1; rw [hfull] at n1; exact absurd rfl n1
  | some full =>
  have deq : sFor d t b st = forGo src full t b full ⟨st.loc, σ1⟩ := R.ofS e1 (by rw [hsrc]; dsimp only; rw [hfull])
  refine it_start S1.hi r1 hsrc (by rw [hfull]; rfl) fun I h2 tk2 S2 it2 hI => ?_
  have S12 := (S1.trans S2).toS ei hi
  have hIb : W.base.get? I = none := by
    cases hq : W.base.get? I with
    | none => rfl
    | some o => have := S1.hi.stays I o hq; rw [hI] at this; cases this
  have hI0 : s.heap.get? I = none := by
    cases hq : s.heap.get? I with
    | none => rfl
    | some o =>
      have nr : I ∉ ρ := fun z => it2.notIn S2.hi (S1.pre.subset z)
      have := S1.keep I o hq nr
      rw [hI] at this; cases this
  refine codeAny_forLoop_any (ForInv W lay env (env :: outer) ρ s I src full fun xs st' => sFor d t b st = forGo src full t b xs st') ?_ full.length (.mk h2 tk2 ρ1 ⟨st.loc, σ1⟩ 0 full rfl deq S12 it2)
  rintro m s' ⟨h, tk, ρ', st', i, xs, hdrop, eq, S, it⟩
  have ns : forGo src full t b xs st' ≠ .stuck := eq ▸ hns
  have hit : src.items st'.sto = some full := Classical.byContradiction fun hq => by
    cases xs <;> (unfold forGo at ns; rw [if_neg hq] at ns; exact ns rfl)
  cases xs with
  | nil =>
    have hnone : full[i]? = none := by
      rw [List.getElem?_eq_none_iff]
      exact List.drop_eq_nil_iff.mp hdrop
    refine it_end hr.hd S.hi it hit hnone fun h' k => ?_
    have S' := S.ofI it hI0 hIb k
    refine wpAny_execs_nil (ok .next st' ρ' .next h' tk ?_ .next S')
    rw [eq]; unfold forGo; rw [if_pos hit]
  | cons x xs =>
    have hx : full[i]? = some x := by
      have := congrArg (·[0]?) hdrop
      simpa using this
    have hdrop' : full.drop (i + 1) = xs := by
      have := congrArg (List.drop 1) hdrop
      simpa [List.drop_drop] using this
    unfold forGo at ns eq
    rw [if_pos hit] at ns eq
    refine it_item S.hi it hit hx fun v' h' tk' rv it' k => ?_
    have S' := S.ofI it hI0 hIb k
    obtain ⟨oI, hoI, hcI, _⟩ := it'.obj
    refine T.go A _ I v' _ _ ⟨oI, hoI, hcI⟩ ?_
    cases hset : t.set x st'.loc with
    | none => rw [hset] at ns; exact absurd rfl ns
    | some loc' =>
    rw [hset] at ns eq
    dsimp only at ns eq
    refine T.st A outer ρ' st' _ x v' loc' _ _ hr.hd S'.ei S'.hi rv hset fun h3 tk3 S3 => ?_
    have it3 := it'.stepS (st' := ⟨loc', st'.sto⟩) S'.ei S'.hi S3
    have SS := S'.trans S3
    refine hb A outer ρ' ⟨loc', st'.sto⟩ _ _ _ hr hf hfr S3.ei S3.hi (RS.ns ns) (fun fl st4 ρ4 f h4 tk4 e4 r4 S4 => ?_) fun e s' e4 x => ?_
    · have it4 := it3.stepS S3.ei S3.hi S4
      have S5 := SS.trans S4
      have eq' := eq.trans (RS.of e4 rfl)
      cases r4 with
      | next => exact ⟨xs.length, Nat.lt_succ_self _, .mk h4 tk4 ρ4 st4 (i + 1) xs hdrop' eq' S5 it4⟩
      | cont => exact ⟨xs.length, Nat.lt_succ_self _, .mk h4 tk4 ρ4 st4 (i + 1) xs hdrop' eq' S5 it4⟩
      | brk => exact ok .next st4 ρ4 .next h4 tk4 eq' .next S5
      | ret v => exact ok (.ret _) st4 ρ4 (.ret _) h4 tk4 eq' (.ret v) S5
    · exact xp_own hf hfr (x.before (s := s) SS.keep SS.fresh) fun s'' y => ex e s'' (eq.trans (RS.ofX e4)) y

/-! ## while -/
noncomputable def whileGo (test : DB) (body : DS) : Nat → St → RS
  | 0, _ => .stuck
  | n + 1, st => (test st).bindS fun c σ => if c then (body ⟨st.loc, σ⟩).bind fun f st' => match f with
      | .next => whileGo test body n st'
      | .cont => whileGo test body n st'
      | .brk => .ok .next st'
      | .ret v => .ok (.ret v) st' else .ok .next ⟨st.loc, σ⟩
noncomputable def sWhile (N : Nat) (test : DB) (body : DS) : DS := fun st => whileGo test body N st

theorem good_while {test : PySem.Expr} {body : List Stmt} {pos : Pos} {d : DB} {b : DS} (N : Nat) (hd : GoodB W lay env n (isTrue test env (eval test env)) d) (hb : GoodS W lay env n (execs body env) b) :
    GoodS W lay env n (exec (.While test body [] pos) env) (sWhile N d b) := by
  intro A outer ρ st s Q E hr hf hfr ei hi hns ok ex
  refine wpAny_While (codeAny_whileLoop (WhileInv W lay env (env :: outer) ρ s fun m st' => sWhile N d b st = whileGo d b m st') ?_ N (.mk N s.heap s.toks ρ st rfl (.refl ei hi)))
  rintro m s' ⟨h, tk, ρ', st', eq, S⟩
  have ns : whileGo d b m st' ≠ .stuck := eq ▸ hns
  cases m with
  | zero => exact absurd rfl ns
  | succ m =>
  unfold whileGo at ns eq
  refine hd A _ ρ' st' _ _ _ hr hf S.ei S.hi (R.nsS ns) (fun c σ1 ρ1 v h1 tk1 e1 r1 S1 => ?_) fun e s' e1 x => ?_
  · cases r1
    have n1 := R.nsS2 ns e1
    have eq1 := eq.trans (R.ofS e1 rfl)
    have SS := S.trans (S1.toS S.ei S.hi)
    cases c with
    | false => exact wpAny_execs_nil (ok .next _ ρ1 .next h1 tk1 eq1 .next SS)
    | true =>
      refine hb A outer ρ1 ⟨st'.loc, σ1⟩ _ _ _ hr hf hfr SS.ei SS.hi (RS.ns n1) (fun fl st4 ρ4 f h4 tk4 e4 r4 S4 => ?_) fun e s' e4 x => ?_
      · have S5 := SS.trans S4
        have eq' := eq1.trans (RS.of e4 rfl)
        cases r4 with
        | next => exact ⟨m, Nat.lt_succ_self _, .mk m h4 tk4 ρ4 st4 eq' S5⟩
        | cont => exact ⟨m, Nat.lt_succ_self _, .mk m h4 tk4 ρ4 st4 eq' S5⟩
        | brk => exact ok .next st4 ρ4 .next h4 tk4 eq' .next S5
        | ret v => exact ok (.ret _) st4 ρ4 (.ret _) h4 tk4 eq' (.ret v) S5
      · exact xp_own hf hfr (x.before (s := s) SS.keep SS.fresh) fun s'' y => ex e s'' (eq1.trans (RS.ofX e4)) y
  · exact xp_own hf hfr (x.toS.before (s := s) S.keep S.fresh) fun s'' y => ex e s'' (eq.trans (R.ofSX e1)) y
end
end Mine
end
section
set_option tactic.hygienic false
open PySem PySem.W PyProof.Rows PySem.Calls
namespace Mine

/-! # functions -/
structure Fn where
  f : Addr
  qual : Str
  scope : Scope
  cdv : Value
  ps : List Str
  body : List Stmt

noncomputable def Fn.env (F : Fn) (L : Addr) : Env := newEnv F.scope L mainGlobals (cellsFrom (L + 1) F.scope.names []) (F.qual ++ ".<locals>.") (some F.f) F.cdv none builtinsNs

structure Fn.OK (W : Wd) (F : Fn) : Prop where
  look : ∃ name params dV kV doc pm an ct oc od osl, W.K.lookup F.f = some ⟨oc, od, .func (fnOf name F.qual params F.body F.scope dV kV doc pm an F.cdv ct), osl⟩ ∧
    ∀ vals : List Value, vals.length = F.ps.length → bindArgs (fnOf name F.qual params F.body F.scope dV kV doc pm an F.cdv ct) ⟨vals, []⟩ = pure (F.ps.zip vals)
  code : codeIn W.K F.cdv F.qual = true
  kind : F.scope.kind = .function
  co : F.scope.isCoroutine = false
  gen : F.scope.isGenerator = false
  nd : F.ps.Nodup
  bk : ∀ x ∈ F.ps, F.scope.names.lookup x = some .local ∨ F.scope.names.lookup x = some .cell
  cn : ∀ L x c, (x, c) ∈ cellsFrom (L + 1) F.scope.names [] → (cellsFrom (L + 1) F.scope.names []).lookup x = some c

section
variable {W : Wd} {n : Nat}
theorem Wd.Xh {h : Heap} (W : Wd) (k : W.base.StaysIn h) : W.K.In h := fun a o e => k a o (W.X a o e)

theorem bindL_other {kf : Str → Option NameKind} {x : Str} : ∀ (binds : List (Str × Value)) (m : Str → Option Value), (∀ b ∈ binds, b.1 ≠ x) → bindL kf binds m x = m x
  | [], _, _ => rfl
  | (y, v) :: r, m, h => by
    unfold bindL
    rw [bindL_other r _ fun b hb => h b (.tail _ hb)]
    split
    · exact if_neg (Ne.symm (h _ (.head _)))
    · rfl
theorem bindC_other {kf : Str → Option NameKind} {x : Str} : ∀ (binds : List (Str × Value)) (m : Str → Option Value), (∀ b ∈ binds, b.1 ≠ x) → bindC kf binds m x = m x
  | [], _, _ => rfl
  | (y, v) :: r, m, h => by
    unfold bindC
    rw [bindC_other r _ fun b hb => h b (.tail _ hb)]
    split
    · rfl
    · exact if_neg (Ne.symm (h _ (.head _)))
theorem bindL_at {kf : Str → Option NameKind} {x : Str} {v : Value} (hk : kf x = some .local) : ∀ (binds : List (Str × Value)) (m : Str → Option Value), (binds.map (·.1)).Nodup → (x, v) ∈ binds → bindL kf binds m x = some v
  | (y, w) :: r, m, hn, h => by
    rw [List.map_cons, List.nodup_cons] at hn
    unfold bindL
    rcases List.mem_cons.mp h with e | h
    · cases e
      rw [bindL_other r _ fun b hb (q : b.1 = x) => hn.1 (List.mem_map.mpr ⟨b, hb, q⟩), if_pos hk, if_pos rfl]
    · exact bindL_at hk r _ hn.2 h
theorem bindC_at {kf : Str → Option NameKind} {x : Str} {v : Value} (hk : kf x = some .cell) : ∀ (binds : List (Str × Value)) (m : Str → Option Value), (binds.map (·.1)).Nodup → (x, v) ∈ binds → bindC kf binds m x = some v
  | (y, w) :: r, m, hn, h => by
    rw [List.map_cons, List.nodup_cons] at hn
    unfold bindC
    rcases List.mem_cons.mp h with e | h
    · cases e
      rw [bindC_other r _ fun b hb (q : b.1 = x) => hn.1 (List.mem_map.mpr ⟨b, hb, q⟩), if_neg (by rw [hk]; decide), if_pos rfl]
    · exact bindC_at hk r _ hn.2 h

noncomputable def runFn (k : Nat) (D : DS) (xs : List V) (σ : Sto) : R V := if xs.length = k then (match D ⟨fun i => xs[i]?, σ⟩ with
  | .ok (.ret v) st => .ok v st.sto
  | .ok .next st => .ok .none st.sto
  | .ok _ _ => .stuck
  | .exc => .exc
  | .stuck => .stuck) else .stuck

theorem Room.deeper {A : Around} {env : Env} (h : Room (n + 1) A) : Room n (A.deeper env) := ⟨h.hd, by have := h.dp; show A.depth + 1 + 4 * n + 16 < _; (first | lia | omega), by have := h.un; show A.units + 3 + 16 * n + 64 < _; (first | lia | omega)⟩
theorem Room.le {A : Around} {m : Nat} (h : Room n A) (e : m ≤ n) : Room m A := ⟨h.hd, by have := h.dp; (first | lia | omega), by have := h.un; (first | lia | omega)⟩

/-- the frame of a call stands -/
theorem enter {F : Fn} (H : F.OK W) {lay : List Str} {fs : List Env} {ρ : List Addr} {σ : Sto} {s : Shared} {h₁ : Heap} {xs : List V} {vs : List Value} {tk : Nat} (hl : F.ps <+: lay) (hc : callsN ∉ lay) (hi : HI W fs ρ σ s.heap) (hv : VRs W ρ s.heap xs vs) (hlen : xs.length = F.ps.length)
    (x : InCallC s (F.env s.heap.objs.size).locals (bindL (F.env s.heap.objs.size).kindOf (F.ps.zip vs) fun _ => none) (F.env s.heap.objs.size).cells (bindC (F.env s.heap.objs.size).kindOf (F.ps.zip vs) fun _ => none) { s with heap := h₁, toks := tk }) :
    EI W lay (F.env s.heap.objs.size) ρ (fun i => xs[i]?) h₁ ∧ HI W (F.env s.heap.objs.size :: fs) ρ σ h₁ ∧ (∀ a ∈ own (F.env s.heap.objs.size), s.heap.get? a = none) := by
  have hlv : vs.length = F.ps.length := hv.length.trans hlen
  have keep : ∀ b o, s.heap.get? b = some o → h₁.get? b = some o := x.toInCall.keep
  have hbase : ∀ a, s.heap.objs.size ≤ a → W.base.get? a = none := fun a h => by
    cases q : W.base.get? a with
    | none => rfl
    | some o => exact absurd (Heap.lt_size (hi.stays a o q)) (Nat.not_lt.mpr h)
  have hzip : (F.ps.zip vs).map (·.1) = F.ps := by rw [List.map_fst_zip]; (first | lia | omega)
  have cellv : ∀ y c, (y, c) ∈ (F.env s.heap.objs.size).cells → ∃ v, h₁.IsCell c v := fun y c hm => ⟨_, x.cell y c (H.cn _ y c hm)⟩
  have Hi1 := hi.grow keep
  obtain ⟨oL, es, ep, hL, hLd, r⟩ := x.toInCall.ns
  refine ⟨⟨H.kind, rfl, rfl, hbase _ (Nat.le_refl _), ⟨_, x.toInCall.ns, ?_, fun i v e => ?_⟩, fun y c hm => ⟨hbase c (Nat.le_of_lt (x.above y c hm)), cellv y c hm⟩, x.apart⟩,
    ⟨Hi1.stays, ⟨by show F.scope.kind ≠ _; rw [H.kind]; decide, ⟨_, oL, rfl, hbase _ (Nat.le_refl _), hL, fun vs q => by rw [hLd] at q; cases q⟩, Hi1.ff⟩, hi.nd, hi.len, hi.nb, Hi1.hr⟩, fun a q => Heap.get?_none_of_le ?_⟩
  · rw [bindL_other _ _ fun b hb q => hc (hl.subset (by rw [← hzip, ← q]; exact List.mem_map_of_mem hb))]
  · have e : xs[i]? = some v := e
    have hi' : i < F.ps.length := by rw [← hlen]; exact (List.getElem?_eq_some_iff.mp e).1
    obtain ⟨w, hw, rw'⟩ := hv.get e
    have hp : F.ps[i]? = some F.ps[i] := List.getElem?_eq_getElem hi'
    have hmem : (F.ps[i], w) ∈ F.ps.zip vs := by
      have : (F.ps.zip vs)[i]? = some (F.ps[i], w) := by rw [List.getElem?_zip_eq_some]; exact ⟨hp, hw⟩
      exact List.mem_of_getElem? this
    obtain ⟨t, ht⟩ := hl
    refine ⟨F.ps[i], w, by rw [← ht, List.getElem?_append_left hi']; exact hp, rw'.mono (l := []) (.all keep) (fun _ q => nomatch q) (List.prefix_refl _), ?_⟩
    rcases H.bk F.ps[i] (List.getElem_mem hi') with hk | hk
    · exact .inl ⟨hk, bindL_at hk _ _ (by rw [hzip]; exact H.nd) hmem⟩
    · obtain ⟨c, hcl⟩ := Option.isSome_iff_exists.mp (cellsFrom_some F.scope.names (s.heap.objs.size + 1) [] (.inl hk))
      refine .inr ⟨hk, c, hcl, ?_⟩
      have := x.cell F.ps[i] c hcl
      rwa [bindC_at hk _ _ (by rw [hzip]; exact H.nd) hmem] at this
  · rcases List.mem_cons.mp q with rfl | q
    · exact Nat.le_refl _
    · obtain ⟨⟨y, c⟩, hm, rfl⟩ := List.mem_map.mp q
      exact Nat.le_of_lt (x.above y c hm)

theorem good_fun {F : Fn} {lay : List Str} {D : DS} (H : F.OK W) (hl : F.ps <+: lay) (hc : callsN ∉ lay) (hb : ∀ L, GoodS W lay (F.env L) n (execs F.body (F.env L)) D) :
    PL W (n + 1) (VR W) (fun vs => call (.ref F.f) vs) (runFn F.ps.length D) := by
  intro A fs ρ σ s xs vs Q E hr hf hi hv hns ok ex
  have hlen : xs.length = F.ps.length := Classical.byContradiction fun q => hns (if_neg q)
  have hD : runFn F.ps.length D xs σ = (match D ⟨fun i => xs[i]?, σ⟩ with
    | .ok (.ret v) st => .ok v st.sto
    | .ok .next st => .ok .none st.sto
    | .ok _ _ => .stuck
    | .exc => .exc
    | .stuck => .stuck) := if_pos hlen
  have hlv : vs.length = F.ps.length := hv.length.trans hlen
  obtain ⟨name, params, dV, kV, doc, pm, an, ct, oc, od, osl, hlook, hbind⟩ := H.look
  have X := W.Xh hi.stays
  refine wpAny_call (codeAny_call_cells (fd := fnOf name F.qual params F.body F.scope dV kV doc pm an F.cdv ct) (body := F.body) (binds := F.ps.zip vs) (by have := hr.dp; (first | lia | omega)) (X _ _ hlook) rfl (W.T.nolimit.keeps hi.stays) (codeRec_of X H.code) rfl (hbind vs hlv) rfl (fun y hy => ?_) (fun s₁ x => ?_) H.co H.gen H.kind)
  · have hm : y.1 ∈ F.ps := (List.of_mem_zip hy).1
    exact (H.bk y.1 hm).imp id fun e => ⟨e, cellsFrom_some F.scope.names _ [] (.inl e)⟩
  · obtain ⟨h₁, tk, rfl, _⟩ := x.done
    obtain ⟨EI₁, HI₁, hown⟩ := enter (W := W) H hl hc hi hv hlen x
    have keep : ∀ b o, s.heap.get? b = some o → h₁.get? b = some o := x.toInCall.keep
    have hf' : (A.deeper (F.env s.heap.objs.size)).frames = some (F.env s.heap.objs.size :: fs) := by show A.frames.map _ = _; rw [hf]; rfl
    have notOwn : ∀ a o, s.heap.get? a = some o → a ∉ own (F.env s.heap.objs.size) := fun a o e q => by rw [hown a q] at e; cases e
    refine hb s.heap.objs.size (A.deeper (F.env s.heap.objs.size)) fs ρ ⟨_, σ⟩ _ _ _ hr.deeper hf' rfl EI₁ HI₁ ?_ (fun fl st' ρ' f h' tk' e r S => ?_) fun e s' eq x => ?_
    · intro q; rw [hD, q] at hns; exact hns rfl
    · have fr : Fresh ρ ρ' s.heap := fun a q z => by
        have := S.fresh a q z
        cases hq : s.heap.get? a with
        | none => rfl
        | some o => rw [keep a o hq] at this; cases this
      have kp : Keep ρ s.heap h' := fun a o e z => S.keep a o (keep a o e) fun q => by
        rcases List.mem_append.mp q with q | q
        · exact z q
        · exact notOwn a o e q
      have S' : Step W fs ρ s.heap ρ' st'.sto h' := ⟨kp, S.pre, fr, ⟨S.hi.stays, S.hi.ff.2.2, S.hi.nd, S.hi.len, S.hi.nb, S.hi.hr⟩⟩
      rw [e] at hD
      cases r with
      | next => exact ok .none _ ρ' .none h' tk' hD .none S'
      | cont => exact absurd hD hns
      | brk => exact absurd hD hns
      | ret v => exact ok _ _ ρ' _ h' tk' hD v S'
    · rw [eq] at hD
      refine xp_leave hf' rfl x fun s'' y => ex e s'' hD ?_
      obtain ⟨ea, h', tk', rfl, rfl, a, b, c, d⟩ := y.ex
      refine ⟨ea, h', tk', rfl, rfl, a, b, fun a o e n z => c a o (keep a o e) (fun q => ?_) z, d⟩
      rcases List.mem_append.mp q with q | q
      · exact n q
      · exact notOwn a o e q

theorem PL.up {α β : Type} {m : Nat} {rel : List Addr → Heap → β → α → Prop} {t : List Value → Sem α} {p : List V → Sto → R β} (h : PL W m rel t p) (e : m ≤ n) : PL W n rel t p :=
  fun A fs ρ σ s xs vs Q E hr => h A fs ρ σ s xs vs Q E (hr.le e)
end

section
variable {W : Wd} {lay : List Str} {env : Env} {n : Nat}

/-- an own function called by its name -/
theorem good_call {x : Str} {p pos : Pos} {args : List PySem.Expr} {f : Addr} {da : DL} {k : List V → Sto → R V} (hx : env.kindOf x = some .globalImplicit) (e : nsIn W.K mainGlobals x = some (some (.ref f))) (hd : (x == ("__debug__" : Str)) = false) (hk : keepIn W.K (.ref f) = true)
    (hs : NoStar env args) (ha : GoodL W lay env n (spliced (backTo pos (starEach args env))) da) (hp : PL W n (VR W) (fun vs => call (.ref f) vs) k) :
    GoodE W lay env n (eval (.Call (.Name x p) args [] pos) env) (dThen da k) := by
  intro A fs ρ st s Q E h1 h2 h3 h4 h5 ok ex
  refine wpAny_Call_NameR (name_glob h3 h4.stays hx e hd ?_)
  refine callWith_of (P := fun h => W.K.In h) (by rw [hs.plain]; rfl) (keeps_K hk) (evalArgs_ns hs ?_)
  refine ha A fs ρ st s _ _ h1 h2 h3 h4 (R.ns h5) (fun xs σ1 ρ1 vs hp1 tk1 e1 q1 S1 => ⟨W.Xh S1.hi.stays, ?_⟩) fun e' s' eq x => ex e' s' (R.ofX eq) x
  exact hp A fs ρ1 σ1 _ xs vs _ _ h1 h2 S1.hi q1 (R.ns2 h5 e1) (fun z σ2 ρ2 w hp2 tk2 e2 q2 S2 => ok _ _ _ _ _ _ (R.of e1 e2) q2 (S1.trans S2)) fun e' s' eq x => ex e' s' (R.of e1 eq) (x.back S1)
end
end Mine
end
section
set_option tactic.hygienic false
set_option maxRecDepth 100000
open PySem PySem.W PyProof.Rows PySem.Calls
open PySem.Builtin PySem.Builtin.ObjectAttr
namespace Mine

section
variable {prog : Program} {w : World} {A : Around} {E : Value → Shared → Prop} {h : Heap} {g : Array GenState} {d : Drawn} {t : Nat} {os : OsState} {K : Frag}
variable {nm q : Str} {C N x : Addr} {bs bm : List Value} {sn : List Str} {sub : List Value} {ab : Bool} {col : Option Bool} {dd : Option Addr} {k0 k1 k2 k3 k5 : Option Value} {newId : String} {mA : Str → Option Value} {name : Str} {v : Value}

set_option tactic.hygienic true in
theorem store_entryX {tk : Tok} {Q : Fin → Shared → Prop} {ns : List Str} (hC : h.get? C = some (excClassObj nm q C N bs bm true sn sub ab col dd k0 k1 k2 k3 k5 newId)) (TL : Looks (model prog w) h (typeLookup (.ref C) name) none)
    (hpass : refuseLoop (.ref x) "__setattr__" bm = pure ()) (hxC : x ≠ C) (I : h.Inst x C mA)
    (hq : ∀ h' tk', h'.Inst x C (fun y => if y = name then some v else mA y) →
      (∀ b o, b ≠ x → (∀ o₀ dx, h.get? x = some o₀ → o₀.dict = some dx → b ≠ dx) → h.get? b = some o → h'.get? b = some o) →
      (∀ o₀, h.get? x = some o₀ → ∃ o₁, h'.get? x = some o₁ ∧ o₁.cls = o₀.cls ∧ o₁.data = o₀.data ∧ o₁.slots = o₀.slots ∧ (∀ dx, o₀.dict = some dx → o₁.dict = some dx) ∧ (o₀.dict = none → ∃ dx, o₁.dict = some dx ∧ h.get? dx = none)) → Q (.done (.ret .none)) ⟨h', g, d, tk', os⟩) (hw : Within mA ns := by within_ways) (hsz : ns.length ≤ sizeLine := by size_fits) :
    wpAny (model prog w) A (Builtin.«object.__setattr__» ⟨[.ref x, .str name tk, v], []⟩) Q E ⟨h, g, d, t, os⟩ := by
  obtain ⟨o, hx, hc, hnc, hd⟩ := I
  unfold Builtin.«object.__setattr__»
  repeat (first | rw [refuse_eq] | (rw [refuseLoop_ref, hpass]) | (with_reducible refine wpAny_loadPart_at hx ?_; rw [hc]) | with_reducible refine wpAny_mroOf_exc hC ?_ | with_reducible refine TL.at ?_ | wp_step)
  rcases hd with ⟨hdn, hmA⟩ | ⟨dx, hdx, hne, hns⟩
  ·
    rw [hdn, if_neg (by simp [typeHasDict])]
    split
    · rename_i hcd
      cases hcd
    split
    · rename_i c hcd
      exact absurd hcd (hnc c)
    · have hx₁ : (h.push { cls := .type "dict", data := .dict #[] }).get? x = some o := Heap.get?_push_of_some _ hx
      have hxs : x ≠ h.objs.size := Nat.ne_of_lt (Heap.lt_size hx)
      refine wpAny_bind (wpAny_alloc' ?_)
      refine wpAny_bind (wpAny_update' hx₁ ?_)
      refine wpAny_pure ?_
      have hgd : ((h.push { cls := .type "dict", data := .dict #[] }).update x fun o => { cls := o.cls, dict := some h.objs.size, data := o.data, slots := o.slots }).get? h.objs.size
          = some { cls := .type "dict", data := .dict #[] } :=
        (Heap.get?_update_ne _ _ _ _ hxs.symm).trans (Heap.get?_push_at rfl rfl)
      have hnd : ((h.push { cls := .type "dict", data := .dict #[] }).update x fun o => { cls := o.cls, dict := some h.objs.size, data := o.data, slots := o.slots }).Ns h.objs.size (fun _ => none) :=
        ⟨_, #[], _, hgd, rfl, fun e he => absurd he (by simp), fun _ => rfl⟩
      show wpAny _ _ (storeInDict h.objs.size (.str name tk) name v) _ _ _
      unfold storeInDict newKeyGuard
      refine wpAny_bind (wpAny_pure (wpAny_bind (wpAny_nsSet1 (Heap.Ns1.of_empty hnd) fun h' hn' hs => ?_)))
      obtain ⟨oD, esD, epD, hoD, hdD, hcD⟩ := hn'.count (Within.cons name v Within.nil)
      refine wpAny_bind (wpAny_lookBehind hoD (by rw [hdD]; exact pastItsLine_dict (Nat.le_trans hcD (by rw [List.length_cons, List.length_nil, sizeLine_eq]; (first | lia | omega)))) ?_)
      wp_walk
      have hx' : h'.get? x = some { cls := o.cls, dict := some h.objs.size, data := o.data, slots := o.slots } := ?_
      refine hq h' _ ⟨{ cls := o.cls, dict := some h.objs.size, data := o.data, slots := o.slots }, hx', hc, hnc, .inr ⟨h.objs.size, rfl, hxs.symm, ?_⟩⟩ (fun b ob hbx _ hb => ?_)
        (fun o₀ h₀ => by obtain rfl : o = o₀ := Option.some.inj (hx.symm.trans h₀); exact ⟨_, hx', rfl, rfl, rfl, (fun dx e => by rw [hdn] at e; cases e), fun _ => ⟨_, rfl, Heap.get?_none_of_le (Nat.le_refl _)⟩⟩)
      · obtain ⟨o', es, ep, e1, e2, e3, eu, e4⟩ := hn'
        exact ⟨o', es, ep, e1, e2, e3, eu, fun y => by rw [e4 y]; by_cases hy : y = name <;> simp [hy, hmA]⟩
      · exact (hs.2 b (Nat.ne_of_lt (Heap.lt_size hb))).trans ((Heap.get?_update_ne _ _ _ _ hbx).trans (Heap.get?_push_of_some _ hb))
      · refine (hs.2 x hxs).trans (Heap.get?_update_self _ hx₁ ?_)
        have hfr := (Heap.get?_some_iff.mp hx).2
        obtain ⟨oc, od, odt, osl⟩ := o
        cases odt <;> first | rfl | exact hfr
  ·
    rw [hdx]
    refine wpAny_pure ?_
    show wpAny _ _ (storeInDict dx (.str name tk) name v) _ _ _
    unfold storeInDict newKeyGuard
    refine wpAny_bind (wpAny_pure (wpAny_bind (wpAny_nsSet1 hns fun h' hn' hs => ?_)))
    obtain ⟨oD, esD, epD, hoD, hdD, hcD⟩ := hn'.count (Within.cons name v hw)
    refine wpAny_bind (wpAny_lookBehind hoD (by rw [hdD]; exact pastItsLine_dict (Nat.le_trans hcD (by rw [List.length_cons]; (first | lia | omega)))) ?_)
    wp_walk
    refine hq h' _ ⟨o, (hs.2 x hne.symm).trans hx, hc, hnc, .inr ⟨dx, hdx, hne, hn'⟩⟩ (fun b ob _ hbd hb => ?_)
      (fun o₀ h₀ => ⟨o₀, (hs.2 x hne.symm).trans h₀, rfl, rfl, rfl, fun _ e => e, fun e => by obtain rfl : o = o₀ := Option.some.inj (hx.symm.trans h₀); rw [hdx] at e; cases e⟩)
    exact (hs.2 b (hbd o dx hx hdx)).trans hb

theorem setAttrX {Q : Unit → Shared → Prop} {ns : List Str} (X : K.In h) (hC : h.get? C = some (excClassObj nm q C N bs bm true sn sub ab col dd k0 k1 k2 k3 k5 newId)) (hsub : mroIn K C (.type "object") = some true)
    (hs : findIn K (.ref C) "__setattr__" = some (some (.builtin "object.__setattr__"))) (hna : findIn K (.ref C) name = some none)
    (hpass : refuseLoop (.ref x) "__setattr__" bm = pure ()) (hxC : x ≠ C) (I : h.Inst x C mA)
    (hq : ∀ h' tk', h'.Inst x C (fun y => if y = name then some v else mA y) →
      (∀ b o, b ≠ x → (∀ o₀ dx, h.get? x = some o₀ → o₀.dict = some dx → b ≠ dx) → h.get? b = some o → h'.get? b = some o) →
      (∀ o₀, h.get? x = some o₀ → ∃ o₁, h'.get? x = some o₁ ∧ o₁.cls = o₀.cls ∧ o₁.data = o₀.data ∧ o₁.slots = o₀.slots ∧ (∀ dx, o₀.dict = some dx → o₁.dict = some dx) ∧ (o₀.dict = none → ∃ dx, o₁.dict = some dx ∧ h.get? dx = none)) → Q () ⟨h', g, d, tk', os⟩) (hw : Within mA ns := by within_ways) (hsz : ns.length ≤ sizeLine := by size_fits) :
    wpAny (model prog w) A (setAttr (.ref x) name v) Q E ⟨h, g, d, t, os⟩ := by
  obtain ⟨o, hx, hc, hnc, hd⟩ := id I
  have tl : Looks (model prog w) h (typeOf (.ref x)) (.ref C) := hc ▸ (Looks.ld hx).andThen .now
  have sub : Looks (model prog w) h (isInstance (.ref x) (.type "object")) true := tl.andThen (looks_mroIn X hsub)
  have SF := PySem.F.store_object
  unfold setAttr
  refine wpAny_bind (wpAny_mkText (wpAny_bind ?_))
  unfold callSpecial? specialOf
  refine wpAny_bind (wpAny_bind (tl.at ((looks_findIn X hs).at (wpAny_holding ?_))))
  rw [SF.slot.bind]
  refine wpAny_bind (wpAny_pure (wpAny_bind (wpAny_call (codeAny_call_builtin SF.slot.plain SF.entry (@check_slot (model prog w) _ _ _ "object.__setattr__" "object" "__setattr__" (.ref x) [.str name t, v] [] _ SF.kind SF.split sub (SF.args (.ref x) (.str name t) v) ?_)))))
  exact store_entryX hC (looks_findIn X hna) hpass hxC I (fun h' tk' I' hk hsame => wpAny_pure (wpAny_pure (hq h' tk' I' hk hsame))) hw hsz
end
end Mine
end
section
set_option tactic.hygienic false
set_option maxRecDepth 100000
open PySem PySem.W PyProof.Rows PySem.Calls
namespace Mine

noncomputable abbrev bmX (r : Addr) : List Value := [.ref r, .type "Exception", .type "BaseException", .type "object"]
noncomputable def codeN : Str := Str.ofString "code"
noncomputable def atN : Str := Str.ofString "at"
noncomputable def selfN : Str := Str.ofString "self"

structure Bad (W : Wd) (F : Fn) : Prop where
  fn : F.OK W
  ps : F.ps = [selfN, codeN, atN]
  body : ∃ p1 p2 p3 p4 q1 q2 q3 q4, F.body = [.Assign [.Attribute (.Name selfN p1) codeN p2] (.Name codeN p3) p4, .Assign [.Attribute (.Name selfN q1) atN q2] (.Name atN q3) q4]
  nocell : ∀ L, cellsFrom L F.scope.names [] = []
  kinds : F.scope.names.lookup selfN = some .local ∧ F.scope.names.lookup codeN = some .local ∧ F.scope.names.lookup atN = some .local
  cls : ∃ nm q N bs r sn sub ab col dd k0 k1 k2 k3 k5, W.K.lookup W.bad = some (excClassObj nm q W.bad N bs (bmX r) true sn sub ab col dd k0 k1 k2 k3 k5 "Exception.__new__")
  init : findIn W.K (.ref W.bad) "__init__" = some (some (.ref F.f))
  sa : findIn W.K (.ref W.bad) "__setattr__" = some (some (.builtin "object.__setattr__"))
  c : findIn W.K (.ref W.bad) codeN = some none
  a : findIn W.K (.ref W.bad) atN = some none
  sub : mroIn W.K W.bad (.type "object") = some true
  keep : keepIn W.K (.ref W.bad) = true

section
variable {W : Wd} {F : Fn} {A : Around} {s : Shared} {x : Addr} {v1 v2 : Value} {fv : Array Value} {R : Result → Shared → Prop}

theorem swapsAttr (attr : Str) {p1 p2 p3 p4 : Pos} {a b : Str} {env : Env} : swapsWith (.Name b p3) (some (.Attribute (.Name a p1) attr p2)) p4.line env = pure false := by rfl

noncomputable def mI (x : Addr) (v1 v2 : Value) : Str → Option Value := fun y => if y = atN then some v2 else if y = codeN then some v1 else if y = selfN then some (.ref x) else none
theorem mI_self : mI x v1 v2 selfN = some (.ref x) := by unfold mI; rw [if_neg (by decide), if_neg (by decide), if_pos rfl]
theorem mI_code : mI x v1 v2 codeN = some v1 := by unfold mI; rw [if_neg (by decide), if_pos rfl]
theorem mI_at : mI x v1 v2 atN = some v2 := by unfold mI; rw [if_pos rfl]

theorem init_bad (B : Bad W F) (hst : W.base.StaysIn s.heap) (hdp : A.depth < recursionLimit) (hx : s.heap.get? x = some { cls := .ref W.bad, data := .fields fv }) (hxb : W.base.get? x = none)
    (hq : ∀ h' tk, (∀ b o, b ≠ x → s.heap.get? b = some o → h'.get? b = some o) → (∃ od, h'.get? x = some { cls := .ref W.bad, dict := od, data := .fields fv }) → R (.ok (.ret .none)) { s with heap := h', toks := tk }) :
    codeAny W.M A (.call (.ref F.f) ⟨[.ref x, v1, v2], []⟩) R s := by
  obtain ⟨name, params, dV, kV, doc, pm, an, ct, oc, od, osl, hlook, hbind⟩ := B.fn.look
  obtain ⟨nm, q, N, bs, r, sn, sub, ab, col, dd, k0, k1, k2, k3, k5, hcls⟩ := B.cls
  obtain ⟨p1, p2, p3, p4, q1, q2, q3, q4, hbody⟩ := B.body
  have X := W.Xh hst
  have hb : F.ps.zip [.ref x, v1, v2] = [(selfN, .ref x), (codeN, v1), (atN, v2)] := by rw [B.ps]; rfl
  have env_cells : (F.env s.heap.objs.size).cells = [] := B.nocell _
  obtain ⟨ks, kc, ka⟩ := B.kinds
  have kind : (F.env s.heap.objs.size).scope.kind = .function := B.fn.kind
  refine codeAny_call_cells (fd := fnOf name F.qual params F.body F.scope dV kV doc pm an F.cdv ct) (body := F.body) (binds := F.ps.zip [.ref x, v1, v2]) hdp (X _ _ hlook) rfl (W.T.nolimit.keeps hst) (codeRec_of X B.fn.code) rfl (hbind _ (by rw [B.ps]; rfl)) rfl (fun y hy => ?_) (fun s₁ z => ?_) B.fn.co B.fn.gen B.fn.kind
  · rw [hb] at hy
    simp only [List.mem_cons, List.not_mem_nil, or_false] at hy
    rcases hy with rfl | rfl | rfl
    · exact .inl ks
    · exact .inl kc
    · exact .inl ka
  · obtain ⟨h₁, tk, rfl, _⟩ := z.done
    have keep : ∀ b o, s.heap.get? b = some o → h₁.get? b = some o := z.toInCall.keep
    have hns : h₁.Ns (F.env s.heap.objs.size).locals _ := z.toInCall.ns
    have hL : x < s.heap.objs.size := Heap.lt_size hx
    have m0 : bindL (F.env s.heap.objs.size).kindOf (F.ps.zip [.ref x, v1, v2]) (fun _ => none) = mI x v1 v2 := by
      rw [hb]
      simp only [bindL, show (F.env s.heap.objs.size).kindOf selfN = some .local from ks, show (F.env s.heap.objs.size).kindOf codeN = some .local from kc, show (F.env s.heap.objs.size).kindOf atN = some .local from ka, if_true]
      rfl
    have hns' : h₁.Ns (F.env s.heap.objs.size).locals (mI x v1 v2) := m0 ▸ hns
    have hx₁ := keep _ _ hx
    have hCs := X _ _ hcls
    have nxC : x ≠ W.bad := fun e => by rw [e, hCs] at hx; cases hx
    have hpass : refuseLoop (.ref x) "__setattr__" (bmX r) = pure () := by rw [refuseLoop_ref]; exact PySem.F.store_Exception.passes _
    have I₁ : h₁.Inst x W.bad (fun _ => none) := ⟨_, hx₁, rfl, (fun c q => by cases q), .inl ⟨rfl, fun _ => rfl⟩⟩
    have X₁ : W.K.In h₁ := fun a o e => keep a o (X a o e)
    obtain ⟨oL, esL, epL, eL, _⟩ := id hns'
    have hLn : h₁.get? s.heap.objs.size = some oL := eL
    show wpAny W.M _ (execs F.body _) _ _ _
    rw [hbody]
    refine wpAny_execs_cons (plainObj_wpAny_Assign_Attribute (wpAny_Name (wpAny_loadName_local kind kc hns' mI_code (wpAny_Name (wpAny_loadName_local kind ks hns' mI_self ?_) (by decide))) (by decide)) (swapsAttr _))
    refine setAttrX X₁ (keep _ _ hCs) B.sub B.sa B.c hpass nxC I₁ (fun h₂ tk₂ I₂ k₂ same₂ => ?_) Within.nil
    obtain ⟨o₁, hx₂, oc1, od1, os1, _, od2⟩ := same₂ _ hx₁
    obtain ⟨dx, hdx, hdn⟩ := od2 rfl
    have k₂' : ∀ b o, b ≠ x → h₁.get? b = some o → h₂.get? b = some o := fun b o ne e => k₂ b o ne (fun o₀ dx h0 hd => by rw [hx₁] at h0; cases h0; cases hd) e
    have hns₂ : h₂.Ns (F.env s.heap.objs.size).locals (mI x v1 v2) := hns'.at' fun o e => k₂' _ o (Nat.ne_of_gt hL) e
    have nK : ∀ {a o}, W.K.lookup a = some o → a ≠ x := fun e q => by rw [← q, W.X _ _ e] at hxb; cases hxb
    have X₂ : W.K.In h₂ := fun a o e => k₂' a o (nK e) (X₁ a o e)
    refine wpAny_execs_cons (plainObj_wpAny_Assign_Attribute (wpAny_Name (wpAny_loadName_local kind ka hns₂ mI_at (wpAny_Name (wpAny_loadName_local kind ks hns₂ mI_self ?_) (by decide))) (by decide)) (swapsAttr _))
    refine setAttrX X₂ (k₂' _ _ (Ne.symm nxC) (keep _ _ hCs)) B.sub B.sa B.a hpass nxC I₂ (fun h₃ tk₃ I₃ k₃ same₃ => ?_) (Within.cons codeN v1 Within.nil)
    obtain ⟨o₃, hx₃, oc3, od3, os3, _, _⟩ := same₃ _ hx₂
    refine wpAny_execs_nil (hq h₃ tk₃ (fun b o ne e => k₃ b o ne (fun o₀ dy h0 hd => ?_) (k₂' b o ne (keep b o e))) ⟨o₃.dict, ?_⟩)
    · rw [hx₂] at h0; cases h0
      rw [hdx] at hd; cases hd
      intro q
      rw [q] at e
      rw [keep _ _ e] at hdn; cases hdn
    · rw [hx₃]
      obtain ⟨c3, d3, a3, s3⟩ := o₃
      dsimp only at oc3 od3 os3
      rw [oc3, od3, os3, oc1, od1, os1]
end
end Mine
end
section
set_option tactic.hygienic false
set_option maxRecDepth 100000
open PySem PySem.W PyProof.Rows PySem.Calls
namespace Mine

section
variable {M : Model} {prog : Program} {w : World} {A : Around} {E : Value → Shared → Prop} {h : Heap} {g : Array GenState} {d : Drawn} {t : Nat} {os : OsState} {K : Frag}
variable {nm q : Str} {C N x r : Addr} {bs : List Value} {sn : List Str} {sub : List Value} {ab : Bool} {col : Option Bool} {dd : Option Addr} {k0 k1 k2 k3 k5 : Option Value}

theorem bx_E : (Value.ref C :: bmX r).contains (.type "Exception") = true := by simp
theorem bx_B : (Value.ref C :: bmX r).contains (.type "BaseException") = true := by simp
theorem bx_A : (Value.ref C :: bmX r).contains (.type "AttributeError") = false := by
  rw [List.contains_cons, List.contains_cons]
  have : ([.type "Exception", .type "BaseException", .type "object"] : List Value).contains (.type "AttributeError") = false := by decide +kernel
  rw [this]; rfl
theorem bx_N : (Value.ref C :: bmX r).contains (.type "NameError") = false := by
  rw [List.contains_cons, List.contains_cons]
  have : ([.type "Exception", .type "BaseException", .type "object"] : List Value).contains (.type "NameError") = false := by decide +kernel
  rw [this]; rfl

theorem check_newX {rest : List Value} {Q : Unit → Shared → Prop} (hC : h.get? C = some (excClassObj nm q C N bs (bmX r) true sn sub ab col dd k0 k1 k2 k3 k5 "Exception.__new__"))
    (hq : Q () ⟨h, g, d, t, os⟩) : wpAny M A (checkBuiltinCall "Exception.__new__" ⟨.ref C :: rest, []⟩) Q E ⟨h, g, d, t, os⟩ := by
  have Fn := PySem.F.excBase_Exception
  have hcont := bx_E (C := C) (r := r)
  have hstar := Fn.noStar
  simp only [checkBuiltinCall, Fn.newKind, Fn.newSplit, Fn.newRow]
  repeat (first | refine wpAny_loadPart_at hC ?_ | (refine wpAny_isSubtype_exc hC ?_; rw [hcont]) | refine wpAny_staticBase_exc hC ?_ | refine wpAny_madeBy_exc hC ?_ | simp only [bne_self_eq_false, Bool.false_eq_true, if_false] | wp_step)
  exact hq

theorem exc_newX {R : Result → Shared → Prop} {rest : List Value} (hC : h.get? C = some (excClassObj nm q C N bs (bmX r) true sn sub ab col dd k0 k1 k2 k3 k5 "Exception.__new__"))
    (hq : R (.ok (.ret (.ref (h.objs.size + 1)))) ⟨(h.push { cls := .type "tuple", data := .seq rest.toArray }).push
      { cls := .ref C, data := .fields #[.ref h.objs.size, .none, .none, .none, .bool false, .none] }, g, d, t, os⟩) (hrest : rest.length ≤ sizeLine) :
    codeAny (model prog w) A (.builtin "Exception.__new__" ⟨.ref C :: rest, []⟩) R ⟨h, g, d, t, os⟩ := by
  have Fn := PySem.F.excBase_Exception
  have hends := Fn.ends
  have hcB := bx_E (C := C) (r := r)
  have hcA := bx_A (C := C) (r := r)
  have hcN := bx_N (C := C) (r := r)
  refine codeAny_builtinAt Fn.entry ?_
  unfold Builtin.«BaseException.__new__»
  refine PySem.wpAt_bind ?_
  show PySem.wpAt _ _ _ (stack >>= _) _ _ _
  refine PySem.wpAt_bind (PySem.wpAt_stack fun p below => PySem.wpAt_of_wpAny ?_)
  wp_walk
  refine PySem.wpAt_of_wpAny ?_
  rw [Fn.owner]
  repeat (first | with_reducible refine wpAny_madeHere_exc Fn.canon hC ?_ | with_reducible refine wpAny_loadPart_at hC ?_ | (with_reducible refine wpAny_isSubtype_exc hC ?_; first | rw [hcB] | rw [hcA] | rw [hcN]) | wp_step)
  show R _ _
  rw [Heap.size_push]
  exact hq

theorem type_callX {fI : Addr} {rest : List Value} {Q : PySem.Fin → Shared → Prop} (X : K.In h) (hC : h.get? C = some (excClassObj nm q C N bs (bmX r) true sn sub ab col dd k0 k1 k2 k3 k5 "Exception.__new__"))
    (hi : findIn K (.ref C) "__init__" = some (some (.ref fI))) (hf : typeIn K (.ref fI) = some (.type "function"))
    (hq : ∀ h' e, Heap.MadeExcOf h h' e (.ref C) rest →
      wpAny (model prog w) A (call (.ref fI) (.ref e :: rest)) (fun r s' => r = .none ∧ Q (.done (.ret (.ref e))) s') E ⟨h', g, d, t, os⟩) (hrest : rest.length ≤ sizeLine) :
    wpAny (model prog w) A (Builtin.«type.__call__» ⟨.ref C :: rest, []⟩) Q E ⟨h, g, d, t, os⟩ := by
  have Fn := PySem.F.excBase_Exception
  repeat (first | with_reducible refine wpAny_loadPart_at hC ?_ | with_reducible refine wpAny_madeBy_exc hC ?_ | wp_step)
  refine codeAny_call_builtin_code (Code.quiet_builtin _ Fn.quiet) (check_newX hC ?_)
  refine exc_newX hC ?_ hrest
  show wpAny _ _ _ _ _ _
  have hC₁ := Heap.get?_push_of_some { cls := .ref C, data := .fields #[.ref h.objs.size, .none, .none, .none, .bool false, .none] }
    (Heap.get?_push_of_some { cls := .type "tuple", data := .seq rest.toArray } hC)
  have kp : ∀ b o, h.get? b = some o → ((h.push { cls := .type "tuple", data := .seq rest.toArray }).push
      { cls := .ref C, data := .fields #[.ref h.objs.size, .none, .none, .none, .bool false, .none] }).get? b = some o := fun b o e => Heap.get?_push_of_some _ (Heap.get?_push_of_some _ e)
  have X₁ : K.In ((h.push { cls := .type "tuple", data := .seq rest.toArray }).push
      { cls := .ref C, data := .fields #[.ref h.objs.size, .none, .none, .none, .bool false, .none] }) := fun a o e => kp a o (X a o e)
  have hget : ((h.push { cls := .type "tuple", data := .seq rest.toArray }).push
      { cls := .ref C, data := .fields #[.ref h.objs.size, .none, .none, .none, .bool false, .none] }).get? (h.objs.size + 1) = some
      { cls := .ref C, data := .fields #[.ref h.objs.size, .none, .none, .none, .bool false, .none] } := by heap_get
  have hcC : (Value.ref C :: bmX r).contains (.ref C) = true := by simp
  unfold isInstance
  repeat (first | with_reducible refine wpAny_loadPart_at hget ?_ | (with_reducible refine wpAny_isSubtype_exc hC₁ ?_; rw [hcC]) | wp_step)
  show wpAny _ _ (typeLookup (.ref C) _) _ _ _
  refine (looks_findIn X₁ hi).at ?_
  refine wpAny_holding (wpAny_bind ((bind_fn X₁ _ hf).at ?_))
  refine wpAny_bind (wpAny_mono (hq _ (h.objs.size + 1) ⟨kp, Heap.get?_none_of_le (Nat.le_succ _), h.objs.size, hget, Heap.get?_none_of_le (Nat.le_refl _), ?_⟩) (fun r s' hr => ?_) fun _ _ x => x)
  · exact Heap.get?_push_of_some _ (Heap.get?_push_at rfl rfl)
  · obtain ⟨rfl, hQ⟩ := hr
    wp_walk
    exact hQ

theorem call_clsX {fI : Addr} {rest : List Value} {Q : Value → Shared → Prop} (X : K.In h) (hC : h.get? C = some (excClassObj nm q C N bs (bmX r) true sn sub ab col dd k0 k1 k2 k3 k5 "Exception.__new__"))
    (hi : findIn K (.ref C) "__init__" = some (some (.ref fI))) (hf : typeIn K (.ref fI) = some (.type "function"))
    (hq : ∀ h' e, Heap.MadeExcOf h h' e (.ref C) rest →
      wpAny (model prog w) (A.under (.builtin "type.__call__" ⟨.ref C :: rest, []⟩)) (call (.ref fI) (.ref e :: rest)) (fun r s' => r = .none ∧ Q (.ref e) s') E ⟨h', g, d, t, os⟩) (hrest : rest.length ≤ sizeLine) :
    wpAny (model prog w) A (call (.ref C) rest) Q E ⟨h, g, d, t, os⟩ := by
  have f1 := tc_lookup
  have f2 := tc_bind (.ref C)
  have hT : (⟨h, g, d, t, os⟩ : Shared).TypeIs (.ref C) "type" := ⟨_, hC, rfl⟩
  refine wpAny_call (codeAny_of_tree ?_)
  show wpAny _ _ (callAny (.ref C) _) _ _ _
  repeat (any_goals (first | assumption | with_reducible refine wpAny_loadPart_at hC ?_ | wp_step))
  refine ⟨rfl, ?_⟩
  refine codeAny_call_builtin_at (Code.quiet_builtin _ (by decide +kernel)) entry_typeCall (wpAny_check_type_call_sub hC (type_callX X hC hi hf (fun h' e hm => ?_) hrest))
  exact hq h' e hm

theorem raise_madeX {env : Env} {s : Shared} {x : Sem Value} {Q : Flow → Shared → Prop} (hh : A.handled = none)
    (h : wpAny M A x (fun v s₁ => ∃ e t od, v = .ref e ∧ s₁.heap.get? C = some (excClassObj nm q C N bs (bmX r) true sn sub ab col dd k0 k1 k2 k3 k5 "Exception.__new__") ∧
      s₁.heap.get? e = some { cls := .ref C, dict := od, data := .fields #[.ref t, .none, .none, .none, .bool false, .none] } ∧ E (.ref e) s₁) E s) :
    wpAny M A (raiseStmt env (some x) none) Q E s := by
  have hcB := bx_B (C := C) (r := r)
  unfold raiseStmt
  refine wpAny_bind (wpAny_mono h (fun v s₁ h₁ => ?_) fun _ _ x => x)
  obtain ⟨e, t, od, rfl, hC, he, hE⟩ := h₁
  obtain ⟨hp, g, d, tk, os⟩ := s₁
  repeat (first | with_reducible refine wpAny_loadPart_at he ?_ | with_reducible refine wpAny_loadPart_at hC ?_ | (with_reducible refine wpAny_isSubtype_exc hC ?_; rw [hcB]) | wp_step)
  exact wpAny_raiseNew_none hh hE
end
end Mine
end
section
set_option tactic.hygienic false
set_option maxRecDepth 100000
open PySem PySem.W PyProof.Rows PySem.Calls
namespace Mine

section
variable {W : Wd} {F : Fn} {lay : List Str} {env : Env} {n : Nat}

noncomputable def sRaise (d : DE) : DS := fun st => (d st).bindS fun _ _ => .exc

theorem call_bad (B : Bad W F) (hf : typeIn W.K (.ref F.f) = some (.type "function")) {A : Around} {s : Shared} {v1 v2 : Value} {Q : Value → Shared → Prop} {E : Value → Shared → Prop} (hr : Room n A) (hst : W.base.StaysIn s.heap)
    (hq : ∀ h' e tk, (∀ b o, s.heap.get? b = some o → h'.get? b = some o) → s.heap.get? e = none → (∃ od t, h'.get? e = some { cls := .ref W.bad, dict := od, data := .fields #[.ref t, .none, .none, .none, .bool false, .none] }) → Q (.ref e) { s with heap := h', toks := tk }) :
    wpAny W.M A (call (.ref W.bad) [v1, v2]) Q E s := by
  obtain ⟨nm, q, N, bs, r, sn, sub, ab, col, dd, k0, k1, k2, k3, k5, hcls⟩ := B.cls
  have X := W.Xh hst
  obtain ⟨h, g, d, t, os⟩ := s
  refine call_clsX X (X _ _ hcls) B.init hf (fun h' e hm => ?_) (by simp only [List.length_cons, List.length_nil]; rw [sizeLine_eq]; (first | lia | omega))
  obtain ⟨tp, he, _, _⟩ := hm.there
  have hb : W.base.get? e = none := by
    cases q : W.base.get? e with
    | none => rfl
    | some o => have := hst e o q; rw [hm.new] at this; cases this
  refine wpAny_call (init_bad B (fun b o z => hm.keeps b o (hst b o z)) (by have := hr.dp; show A.depth + 1 < _; (first | lia | omega)) he hb fun h2 tk2 k2 hx => ⟨rfl, ?_⟩)
  obtain ⟨od, hx⟩ := hx
  exact hq h2 e tk2 (fun b o z => k2 b o (fun q => by rw [q, hm.new] at z; cases z) (hm.keeps b o z)) hm.new ⟨od, tp, hx⟩

theorem good_raise (B : Bad W F) (hf : typeIn W.K (.ref F.f) = some (.type "function")) {x c : Str} {np cp cpos pos : Pos} {k : Nat} {a : PySem.Expr} {d : DE} (hx : env.kindOf x = some .globalImplicit)
    (e : nsIn W.K mainGlobals x = some (some (.ref W.bad))) (hd : (x == ("__debug__" : Str)) = false) (hs : starEach [a] env = (false, eval a env) :: starEach [] env) (ha : GoodE W lay env n (eval a env) d) :
    GoodS W lay env n (exec (.Raise (some (.Call (.Name x np) [.Constant (.str c) k cp, a] [] cpos)) none pos) env) (sRaise d) := by
  intro A outer ρ st s Q E hr hfm hfr ei hi hns ok ex
  obtain ⟨nm, q, N, bs, r, sn, sub, ab, col, dd, k0, k1, k2, k3, k5, hcls⟩ := B.cls
  rw [arm_exec_Raise]
  refine wpAny_bind (wpAny_standAt (raise_madeX (C := W.bad) (nm := nm) (q := q) (N := N) (bs := bs) (r := r) (sn := sn) (sub := sub) (ab := ab) (col := col) (dd := dd) (k0 := k0) (k1 := k1) (k2 := k2) (k3 := k3) (k5 := k5) hr.hd
    (wpAny_bind (wpAny_mono (wpAny_Call_NameR (name_glob ei hi.stays hx e hd ?_)) (fun v s₃ h₃ => wpAny_bind (wpAny_standAt (wpAny_pure h₃))) fun _ _ x => x))))
  have he : starEach [.Constant (.str c) k cp, a] env = (false, eval (.Constant (.str c) k cp) env) :: starEach [a] env := rfl
  refine callWith_K (h₀ := s.heap) (W.Xh hi.stays) B.keep ?_ he (by rw [hs]; rfl)
  rw [he, hs]
  refine spliced_cons (wpAny_Constant_str (k := k) (pos := cp) (spliced_cons (ha A _ ρ st _ _ _ hr hfm ei hi (R.nsS hns) (fun y σ1 ρ1 v h1 tk1 e1 r1 S1 => spliced_nil ⟨W.Xh S1.hi.stays, ?_⟩) fun e' s' eq x => ex e' s' (R.ofSX eq) ?_)))
  · refine call_bad B hf hr S1.hi.stays fun h' ea tk keep new ho => ?_
    obtain ⟨od, t, ho⟩ := ho
    have hst' : W.base.StaysIn h' := fun b o z => keep b o (S1.hi.stays b o z)
    refine ⟨ea, t, od, rfl, W.Xh hst' _ _ hcls, ho, ex _ _ (R.ofS e1 rfl) ⟨ea, h', tk, rfl, rfl, hst', S1.hi.ff.of_keeps fun b o z _ => ⟨o, keep b o z, rfl⟩, ?_, ?_, _, _, _, ho, rfl, rfl, rfl, .inl rfl⟩⟩
    · exact KeepX.of fun b o z zn => keep b o (S1.keep b o z fun q => zn (List.mem_append_left _ q))
    · cases q : W.base.get? ea with
      | none => rfl
      | some o => have := S1.hi.stays ea o q; rw [new] at this; cases this
  · obtain ⟨ea, h', tk, a1, a2, a3, a4, a5, a6⟩ := x.ex
    exact ⟨ea, h', tk, a1, a2, a3, a4, a5.mono fun _ q => List.mem_append_left _ q, a6⟩
end
end Mine
end
section
set_option tactic.hygienic false
open PySem PySem.W PyProof.Rows PySem.Calls
namespace Mine

section
variable {W : Wd} {lay : List Str} {env : Env} {n : Nat}

/-! ## one object turns -/
theorem ff_ne {base h : Heap} {a : Addr} (ha : h.get? a = none) {l : List Env} : h.FunFrames base l → ∀ e ∈ l, e.frame ≠ some a := by
  induction l with
  | nil => intro _ e he; cases he
  | cons x r ih =>
    intro H e he
    obtain ⟨_, ⟨L, o, hf, _, ho, _⟩, hr⟩ := H
    rcases List.mem_cons.mp he with rfl | he
    · intro q; rw [hf] at q; cases q; rw [ha] at ho; cases ho
    · exact ih hr e he
theorem ff_turn {base h h' : Heap} {a : Addr} (k : Keep [a] h h') : ∀ {l : List Env}, (∀ e ∈ l, e.frame ≠ some a) → h.FunFrames base l → h'.FunFrames base l
  | [], _, _ => trivial
  | env :: r, hf, ⟨hk, ⟨L, o, e1, e2, e3, e4⟩, hr⟩ => ⟨hk, ⟨L, o, e1, e2, k L o e3 fun q => hf env (.head _) (by rw [e1, List.mem_singleton.mp q]), e4⟩, ff_turn k (fun e he => hf e (.tail _ he)) hr⟩
theorem HI.turn1 {fs : List Env} {ρ : List Addr} {σ : Sto} {h h' : Heap} {a : Addr} (H : HI W fs ρ σ h) (k : Keep [a] h h') (m : MutAt h [a]) (hb : W.base.get? a = none) (hn : a ∉ ρ) (hf : ∀ e ∈ fs, e.frame ≠ some a) : HI W fs ρ σ h' := by
  refine ⟨fun b o e => k b o (H.stays b o e) fun q => ?_, ff_turn k hf H.ff, H.nd, H.len, H.nb, fun r b xs e1 e2 => ?_⟩
  · rw [List.mem_singleton.mp q, hb] at e; cases e
  · obtain ⟨vs, ⟨c, ho⟩, z⟩ := H.hr r b xs e1 e2
    exact ⟨vs, ⟨c, k b _ ho fun q => hn (List.mem_singleton.mp q ▸ List.mem_of_getElem? e1)⟩, z.mono k m (List.prefix_refl _)⟩
theorem Step.turn1 {fs : List Env} {ρ ρ' : List Addr} {σ' : Sto} {h₀ h h' : Heap} {a : Addr} (S : Step W fs ρ h₀ ρ' σ' h) (k : Keep [a] h h') (m : MutAt h [a]) (n0 : h₀.get? a = none) (hb : W.base.get? a = none) (hn : a ∉ ρ') (hf : ∀ e ∈ fs, e.frame ≠ some a) : Step W fs ρ h₀ ρ' σ' h' :=
  ⟨fun b o e z => k b o (S.keep b o e z) fun q => (by rw [List.mem_singleton.mp q, n0] at e; cases e), S.pre, S.fresh, S.hi.turn1 k m hb hn hf⟩
theorem ItAt.mono {ρ ρ' : List Addr} {h h' : Heap} {l : List Addr} {I : Addr} {i : Nat} {src : Src} (it : ItAt W ρ h I i src) (k : Keep l h h') (m : MutAt h l) (hI : I ∉ l) (p : ρ <+: ρ') : ItAt W ρ' h' I i src := by
  have kI : ∀ o, h.get? I = some o → h'.get? I = some o := fun o e => k I o e hI
  cases src with
  | lst r =>
    obtain ⟨a, ha, hit⟩ := it
    obtain ⟨t, rfl⟩ := p
    exact ⟨a, by rw [List.getElem?_append_left (List.getElem?_eq_some_iff.mp ha).1]; exact ha, hit.at kI⟩
  | tup ys =>
    obtain ⟨t, vs, c, ho, rr, o, ho2, r⟩ := it
    refine ⟨t, vs, c, k t _ ho (not_mem_of_mut m ho ?_), rr.mono k m p, o, kI o ho2, r⟩
    rintro (q | ⟨c, q⟩ | ⟨es, k, q, _⟩ | ⟨T, hT, q⟩)
    · injection q with q; exact absurd q (by decide)
    · cases q
    · cases q
    · injection q with q; subst q; exact absurd hT (by decide)
  | rng k => exact ⟨kI _ it.1, it.2⟩
theorem it_self {A : Around} {ρ : List Addr} {s : Shared} {I : Addr} {i : Nat} {src : Src} {Q : Value → Shared → Prop} {E : Value → Shared → Prop} (it : ItAt W ρ s.heap I i src) (q : Q (.ref I) s) : wpAny W.M A (pyIter (.ref I)) Q E s := by
  cases src with
  | lst r => obtain ⟨a, _, hit⟩ := it; exact wpAny_pyIter_listiter hit q
  | tup ys => obtain ⟨t, vs, c, _, _, hit⟩ := it; exact wpAny_pyIter_tupleiter hit q
  | rng k => exact wpAny_pyIter_rangeiter it.1 q
theorem ns_mut {h : Heap} {C : Addr} {m : Str → Option Value} (hn : h.Ns C m) (hc : m callsN = none) : MutAt h [C] := fun a q o e => by
  obtain ⟨o', es, ep, ho, hd, _, hf⟩ := hn
  rw [List.mem_singleton.mp q, ho] at e; cases e
  exact .inr (.inr (.inl ⟨es, ep, hd, (hf _).trans hc⟩))

/-! ## comprehensions -/
noncomputable def compLoc (loc : Nat → Option V) (fr : List Nat) (v : V) : Nat → Option V
  | 0 => some v
  | j + 1 => (fr[j]?).bind loc
noncomputable def noX (r : R V) : R V := match r with
  | .exc => .stuck
  | r => r
open Classical in
noncomputable def compGo (src : Src) (full : List V) (loc : Nat → Option V) (fr : List Nat) (dt : DB) (de : DE) (r0 : Nat) : List V → Sto → R V
  | [], σ => if src.items σ = some full then .ok (.lst r0) σ else .stuck
  | x :: xs, σ => if src.items σ = some full then (dt ⟨compLoc loc fr x, σ⟩).bind fun b σ1 => if b then (de ⟨compLoc loc fr x, σ1⟩).bind fun v σ2 => (oAppend [.lst r0, v] σ2).bind fun _ σ3 => compGo src full loc fr dt de r0 xs σ3 else compGo src full loc fr dt de r0 xs σ1 else .stuck
noncomputable def dComp (di : DE) (fr : List Nat) (dt : DB) (de : DE) : DE := fun st => (di st).bind fun v σ => match Src.of v with
  | none => .stuck
  | some src => (match src.items σ with
    | none => .stuck
    | some full => noX (compGo src full st.loc fr dt de σ.length full (σ ++ [[]])))
theorem noX_ns {r : R V} (h : noX r ≠ .stuck) : r ≠ .stuck ∧ r ≠ .exc := ⟨fun e => h (by rw [e]; rfl), fun e => h (by rw [e]; rfl)⟩
theorem noX_ok {r : R V} {v : V} {σ : Sto} (e : r = .ok v σ) : noX r = .ok v σ := by rw [e]; rfl

structure CompOK (lay : List Str) (env : Env) (scope : Scope) (x : Str) (free : List Str) (fr : List Nat) (cl : List (Str × Addr)) : Prop where
  clos : closureFor scope env = pure cl
  kind : scope.kind = .function
  names : ∀ y ∈ scope.names, y.2 = .local → scope.names.lookup y.1 = some .local
  hx : scope.names.lookup x = some .local
  cell : ∀ y ∈ scope.names, y.2 ≠ .cell
  xc : x ≠ callsN
  fr : ∀ (j i : Nat), fr[j]? = some i → ∃ y c, lay[i]? = some y ∧ free[j]? = some y ∧ env.kindOf y = some .cell ∧ (relabel scope env).names.lookup y = some .cell ∧ cl.lookup y = some c ∧ env.cells.lookup y = some c
  sub : ∀ p ∈ cl, p ∈ env.cells
  apart : cl.Pairwise fun x y => x.2 ≠ y.2

noncomputable def testsOf (ifs : List PySem.Expr) (env : Env) : Sem Bool := forIn ifs true fun c r => if r = true then do let ok ← isTrue c env (eval c env); pure (ForInStep.yield ok) else pure (ForInStep.yield r)

/-- the frame of a comprehension -/
theorem comp_ei {scope : Scope} {x : Str} {free : List Str} {fr : List Nat} {cl : List (Str × Addr)} {C : Addr} (O : CompOK lay env scope x free fr cl) {ρ : List Addr} {loc : Nat → Option V} {h : Heap} {m : Str → Option Value} {y : V} {v : Value}
    (ei : EI W lay env ρ loc h) (hC : W.base.get? C = none) (hn : h.Ns C m) (hc : m callsN = none) (hx : m x = some v) (r : VR W ρ h y v) : EI W (x :: free) (compEnvC scope cl C env) ρ (compLoc loc fr y) h := by
  have kindOf_x : (compEnvC scope cl C env).kindOf x = some .local := lookup_relabel_local O.hx
  refine ⟨O.kind, ei.glob, ei.blt, hC, ⟨m, hn, hc, fun i w e => ?_⟩, fun z c e => ei.cells z c (O.sub _ e), O.apart⟩
  cases i with
  | zero => cases e; exact ⟨x, v, rfl, r, .inl ⟨kindOf_x, hx⟩⟩
  | succ j =>
    obtain ⟨i, hi, hl⟩ := Option.bind_eq_some_iff.mp e
    obtain ⟨y', c, e1, e2, e3, e4, e5, e6⟩ := O.fr j i hi
    obtain ⟨m₀, _, _, hall⟩ := ei.ns
    obtain ⟨y'', val, q1, q2, q3⟩ := hall i w hl
    rw [e1] at q1; cases q1
    refine ⟨y', val, e2, q2, .inr ⟨e4, ?_⟩⟩
    rcases q3 with ⟨k, _⟩ | ⟨_, c', k1, k2⟩
    · rw [e3] at k; cases k
    · rw [e6] at k1; cases k1
      exact ⟨c, e5, k2⟩

/-- what holds between the turns of a comprehension -/
inductive CompInv (W : Wd) (lay : List Str) (env : Env) (fs : List Env) (ρ₁ : List Addr) (h₀ : Heap) (s₂ : Shared) (I C D : Addr) (src : Src) (full : List V) (G : List V → Sto → Prop) (loc : Nat → Option V) (r : Nat) : Nat → Shared → Prop
  | mk (h : Heap) (tk : Nat) (ρ' : List Addr) (σ' : Sto) (i : Nat) (xs : List V) (mC : Str → Option Value) (d : full.drop i = xs) (eq : G xs σ') (S : Step W fs ρ₁ h₀ ρ' σ' h) (it : ItAt W ρ' h I i src) (ei : EI W lay env ρ' loc h) (hn : h.Ns C mC) (hc : mC callsN = none) (nC : C ∉ ρ') (hD : ρ'[r]? = some D) :
      CompInv W lay env fs ρ₁ h₀ s₂ I C D src full G loc r xs.length { s₂ with heap := h, toks := tk }
theorem comp_core {elt iter : PySem.Expr} {x : Str} {px : Pos} {ifs : List PySem.Expr} {scope : Scope} {free : List Str} {fr : List Nat} {cl : List (Str × Addr)} {pos : Pos} {A : Around} {fs : List Env} {ρ₁ : List Addr} {loc : Nat → Option V} {σ₁ : Sto} {h₀ : Heap} {s₂ : Shared} {I : Addr} {src : Src} {full : List V} {dt : DB} {de : DE} {RR : Value → Addr → Result → Shared → Prop} {E : Value → Shared → Prop}
    (hr : Room n A) (hfs : A.frames = some fs) (O : CompOK lay env scope x free fr cl) (H₀ : HI W fs ρ₁ σ₁ h₀) (ei : EI W lay env ρ₁ loc s₂.heap) (S₀ : Step W fs ρ₁ h₀ ρ₁ σ₁ s₂.heap) (it : ItAt W ρ₁ s₂.heap I 0 src) (hI0 : h₀.get? I = none)
    (ht : ∀ C, GoodB W (x :: free) (compEnvC scope cl C env) n (testsOf ifs (compEnvC scope cl C env)) dt) (he : ∀ C, GoodE W (x :: free) (compEnvC scope cl C env) n (eval elt (compEnvC scope cl C env)) de)
    (ns : noX (compGo src full loc fr dt de σ₁.length full (σ₁ ++ [[]])) ≠ .stuck)
    (ok : ∀ D C h' tk ρ' σ' m', compGo src full loc fr dt de σ₁.length full (σ₁ ++ [[]]) = .ok (.lst σ₁.length) σ' → Step W fs ρ₁ h₀ ρ' σ' h' → VR W ρ' h' (.lst σ₁.length) (.ref D) → EI W lay env ρ' loc h' → h'.Ns C m' → m' callsN = none → C ∉ ρ' → h₀.get? C = none → C ∉ own env → RR (.ref D) C (.ok .next) { s₂ with heap := h', toks := tk }) :
    wpAny W.M A (newList []) (fun acc s₃ => wpAny W.M A (newFunctionEnv scope env.globals cl [] env.qual none .none (some env)) (fun cenv s₄ =>
      codeAny W.M A (.compStart (.ListComp elt [⟨.Name x px, iter, ifs, 0⟩] scope pos) 0 (.ref I) acc { cenv with scope := relabel scope env }) (RR acc cenv.locals) s₄) E s₃) E s₂ := by
  obtain ⟨nst, nex⟩ := noX_ns ns
  refine wpAny_newObj_type (wpAny_newFunctionEnv O.cell (by intro y hy; simp at hy) (fun h₁ hns₁ hsb₁ => ?_) O.kind)
  dsimp only at hns₁ hsb₁ ⊢
  have S2 : Step W fs ρ₁ s₂.heap (ρ₁ ++ [s₂.heap.objs.size]) (σ₁ ++ [[]]) (s₂.heap.push { cls := .type "list", data := .seq ([] : List Value).toArray }) := S₀.hi.pushL (xs := []) (vs := []) .nil
  generalize hH2 : s₂.heap.push { cls := .type "list", dict := none, data := .seq ([] : List Value).toArray } = H2 at hns₁ hsb₁ S2 ⊢
  have hCs : H2.objs.size = s₂.heap.objs.size + 1 := by rw [← hH2, Heap.size_push]
  have old : ∀ b o, H2.get? b = some o → h₁.get? b = some o := fun b o e => hsb₁.extBut b o (Nat.ne_of_lt (Heap.lt_size e)) (Heap.get?_push_of_some _ e)
  have old2 : ∀ b o, s₂.heap.get? b = some o → H2.get? b = some o := fun b o e => hH2 ▸ Heap.get?_push_of_some _ e
  have S3 := S2.trans (.grow S2.hi old)
  have S03 := S₀.trans S3
  have ei3 := ei.after S₀.hi S3
  have M0 : MutAt s₂.heap ([] : List Addr) := fun _ q => nomatch q
  have it3 : ItAt W (ρ₁ ++ [s₂.heap.objs.size]) h₁ I 0 src := it.mono (l := []) (.all fun b o e => old b o (old2 b o e)) M0 (by simp) S3.pre
  have hC0 : h₀.get? H2.objs.size = none := by
    cases q : h₀.get? H2.objs.size with
    | none => rfl
    | some o =>
      have nr : H2.objs.size ∉ ρ₁ := fun z => by
        obtain ⟨o', ho', _⟩ := S2.hi.isL (List.mem_append_left _ z)
        exact absurd (Heap.lt_size ho') (Nat.lt_irrefl _)
      have := old2 _ _ (S₀.keep _ _ q nr)
      exact absurd (Heap.lt_size this) (Nat.lt_irrefl _)
  have hCb : W.base.get? H2.objs.size = none := S2.hi.stays.fresh
  have hCρ : H2.objs.size ∉ ρ₁ ++ [s₂.heap.objs.size] := fun z => by
    obtain ⟨o', ho', _⟩ := S2.hi.isL z
    exact absurd (Heap.lt_size ho') (Nat.lt_irrefl _)
  have hCf : ∀ e ∈ fs, e.frame ≠ some H2.objs.size := ff_ne hC0 H₀.ff
  have hIf : ∀ e ∈ fs, e.frame ≠ some I := ff_ne hI0 H₀.ff
  have hIb : W.base.get? I = none := by
    cases q : W.base.get? I with
    | none => rfl
    | some o => have := H₀.stays I o q; rw [hI0] at this; cases this
  have hCI : I ≠ H2.objs.size := by
    obtain ⟨o, ho, _⟩ := it.obj
    exact fun q => absurd (Heap.lt_size (old2 _ _ ho)) (by rw [q]; exact Nat.lt_irrefl _)
  have hCo : H2.objs.size ∉ own env := fun q => by
    have : ∃ o, s₂.heap.get? H2.objs.size = some o := by
      rcases List.mem_cons.mp q with q | q
      · obtain ⟨m, ⟨o, _, _, ho, _⟩, _⟩ := ei.ns
        exact ⟨o, q ▸ ho⟩
      · obtain ⟨⟨y, c⟩, hm, hq⟩ := List.mem_map.mp q
        obtain ⟨_, v, o, ho, _⟩ := ei.cells y c hm
        exact ⟨o, hq ▸ ho⟩
    obtain ⟨o, ho⟩ := this
    exact absurd (Heap.lt_size (old2 _ _ ho)) (Nat.lt_irrefl _)
  have hD : (ρ₁ ++ [s₂.heap.objs.size])[σ₁.length]? = some s₂.heap.objs.size := by rw [← S₀.hi.len]; simp
  generalize hC : H2.objs.size = C at *
  generalize hgo : compGo src full loc fr dt de σ₁.length full (σ₁ ++ [[]]) = goal at ok nst nex
  have loop : ∀ s₃ : Shared, s₃ = { s₂ with heap := h₁, toks := s₂.toks + ([] : List (Str × Value)).length } →
      codeAny W.M A (.compLoop (.ListComp elt [⟨.Name x px, iter, ifs, 0⟩] scope pos) 0 (.ref I) (.ref s₂.heap.objs.size) (compEnvC scope cl C env)) (RR (.ref s₂.heap.objs.size) C) s₃ := by
    rintro s₃ rfl
    refine codeAny_compLoop_tests (CompInv W lay env fs ρ₁ h₀ s₂ I C s₂.heap.objs.size src full (fun xs σ' => goal = compGo src full loc fr dt de σ₁.length xs σ') loc σ₁.length) ?_ full.length (.mk h₁ _ _ _ 0 full _ rfl hgo.symm S03 it3 ei3 hns₁ rfl hCρ hD)
    rintro k s' ⟨h, tk, ρ', σ', i, xs, mC, hdrop, eq, S, it', ei', hn, hc, nC, hD'⟩
    have ns' : compGo src full loc fr dt de σ₁.length xs σ' ≠ .stuck := eq ▸ nst
    have nx' : compGo src full loc fr dt de σ₁.length xs σ' ≠ .exc := eq ▸ nex
    have hit : src.items σ' = some full := Classical.byContradiction fun hq => by
      cases xs <;> (unfold compGo at ns'; rw [if_neg hq] at ns'; exact ns' rfl)
    cases xs with
    | nil =>
      have hnone : full[i]? = none := by
        rw [List.getElem?_eq_none_iff]
        exact List.drop_eq_nil_iff.mp hdrop
      refine it_end hr.hd S.hi it' hit hnone fun h' kI => ?_
      have S' := S.turn1 kI it'.mut hI0 hIb (it'.notIn S.hi) hIf
      refine ok _ C h' tk ρ' σ' mC ?_ S' (.lst hD') (ei'.step kI it'.mut (fun a q z => it'.notOwn ei' (List.mem_singleton.mp z ▸ q)) (List.prefix_refl _)) (hn.at' fun o e => kI C o e (by simpa using Ne.symm hCI)) hc nC hC0 hCo
      rw [eq]; unfold compGo; rw [if_pos hit]
    | cons y xs =>
      have hx : full[i]? = some y := by
        have := congrArg (·[0]?) hdrop
        simpa using this
      have hdrop' : full.drop (i + 1) = xs := by
        have := congrArg (List.drop 1) hdrop
        simpa [List.drop_drop] using this
      unfold compGo at ns' nx' eq
      rw [if_pos hit] at ns' nx' eq
      refine it_item S.hi it' hit hx fun v' h' tk' rv it2 kI => ?_
      have S' := S.turn1 kI it'.mut hI0 hIb (it'.notIn S.hi) hIf
      have ei2 := ei'.step kI it'.mut (fun a q z => it'.notOwn ei' (List.mem_singleton.mp z ▸ q)) (List.prefix_refl _)
      have hn2 := hn.at' (h' := h') fun o e => kI C o e (by simpa using Ne.symm hCI)
      refine wpAny_assign_Name (wpAny_storeName_local (env := compEnvC scope cl C env) (lookup_relabel_local O.hx) hn2 (fun h3 hn3 hs3 => ?_) (by simp [compEnvC, relabel, O.kind]))
      have mu2 : MutAt h' [C] := ns_mut hn2 hc
      have kC : Keep [C] h' h3 := fun a o e z => (hs3.2 a fun q => z (by rw [q]; exact .head _)).trans e
      have S3 := S'.turn1 kC mu2 hC0 hCb nC hCf
      have ei3' := ei2.step kC mu2 (fun a q z => hCo (List.mem_singleton.mp z ▸ q)) (List.prefix_refl _)
      have it3' := it2.mono kC mu2 (by simpa using hCI) (List.prefix_refl _)
      have rv3 := rv.mono kC mu2 (List.prefix_refl _)
      have hc3 : (fun z => if z = x then some v' else mC z) callsN = none := by
        show (if callsN = x then _ else mC callsN) = none
        rw [if_neg (Ne.symm O.xc)]; exact hc
      have cei := comp_ei O ei3' hCb hn3 hc3 (if_pos rfl) rv3
      refine ht C A fs ρ' ⟨_, σ'⟩ _ _ _ hr hfs cei S3.hi (R.ns ns') (fun b σ4 ρ4 b' h4 tk4 e4 r4 S4 => ?_) fun e' s' e4 _ => absurd (R.ofX e4) nx'
      cases r4
      have ns4 := R.ns2 ns' e4
      have eq4 := eq.trans (R.of e4 rfl)
      have kC4 : ∀ {ρa ρb : List Addr} {σb : Sto} {ha hb : Heap}, Step W fs ρa ha ρb σb hb → C ∉ ρa → (∃ o, ha.get? C = some o) → C ∉ ρb := fun S nC ⟨o, ho⟩ z => by
        have := S.fresh C z nC
        rw [ho] at this; cases this
      have hCex : ∃ o, h3.get? C = some o := by obtain ⟨o, _, _, ho, _⟩ := hn3; exact ⟨o, ho⟩
      have nC4 := kC4 S4 nC hCex
      have hn4 := hn3.at' (h' := h4) fun o e => S4.keep C o e nC
      have SS4 := S3.trans S4
      have ei4 := ei3'.after S3.hi S4
      have it4 := it3'.mono S4.keep S3.hi.mutAt (it3'.notIn S3.hi) S4.pre
      have hD4 : ρ4[σ₁.length]? = some s₂.heap.objs.size := by
        obtain ⟨t, rfl⟩ := S4.pre
        rw [List.getElem?_append_left (List.getElem?_eq_some_iff.mp hD').1]; exact hD'
      have nx4 := fun q => nx' (R.of e4 q)
      cases b with
      | false => exact ⟨xs.length, Nat.lt_succ_self _, .mk h4 tk4 ρ4 σ4 (i + 1) xs _ hdrop' eq4 SS4 it4 ei4 hn4 hc3 nC4 hD4⟩
      | true =>
        have cei4 := cei.after S3.hi S4
        refine he C A fs ρ4 ⟨_, σ4⟩ _ _ _ hr hfs cei4 SS4.hi (R.ns ns4) (fun v5 σ5 ρ5 w5 h5 tk5 e5 r5 S5 => ?_) fun e' s' e5 _ => absurd (R.ofX e5) nx4
        have ns5 := R.ns2 ns4 e5
        have nx5 := fun q => nx4 (R.of e5 q)
        have eq5 := eq4.trans (R.of e5 rfl)
        have nC5 := kC4 S5 nC4 (by obtain ⟨o, _, _, ho, _⟩ := hn4; exact ⟨o, ho⟩)
        have hD5 : ρ5[σ₁.length]? = some s₂.heap.objs.size := by
          obtain ⟨t, rfl⟩ := S5.pre
          rw [List.getElem?_append_left (List.getElem?_eq_some_iff.mp hD4).1]; exact hD4
        have hn5 := hn4.at' (h' := h5) fun o e => S5.keep C o e nC4
        have SS5 := SS4.trans S5
        have ei5 := ei4.after SS4.hi S5
        have it5 := it4.mono S5.keep SS4.hi.mutAt (it4.notIn SS4.hi) S5.pre
        refine pl_append (n := n) A fs ρ5 σ5 _ [.lst σ₁.length, v5] [.ref s₂.heap.objs.size, w5] _ _ hr hfs SS5.hi (.cons (.lst hD5) (.cons r5 .nil)) (R.ns ns5) (fun v6 σ6 ρ6 w6 h6 tk6 e6 r6 S6 => ?_) fun e' s' e6 _ => absurd (R.ofX e6) nx5
        have nC6 := kC4 S6 nC5 (by obtain ⟨o, _, _, ho, _⟩ := hn5; exact ⟨o, ho⟩)
        have hD6 : ρ6[σ₁.length]? = some s₂.heap.objs.size := by
          obtain ⟨t, rfl⟩ := S6.pre
          rw [List.getElem?_append_left (List.getElem?_eq_some_iff.mp hD5).1]; exact hD5
        exact ⟨xs.length, Nat.lt_succ_self _, .mk h6 tk6 ρ6 σ6 (i + 1) xs _ hdrop' (eq5.trans (R.of e6 rfl)) (SS5.trans S6) (it5.mono S6.keep SS5.hi.mutAt (it5.notIn SS5.hi) S6.pre) (ei5.after SS5.hi S6) (hn5.at' fun o e => S6.keep C o e nC5) hc3 nC6 hD6⟩
  exact codeAny_compStart_list (loop _ rfl) (it_self it3 (loop _ rfl))
end
end Mine
end
section
set_option tactic.hygienic false
open PySem PySem.W PyProof.Rows PySem.Calls
namespace Mine

section
variable {W : Wd} {lay : List Str} {env : Env} {n : Nat}

theorem sb_keep {C : Addr} {h h' : Heap} (hs : Heap.SameBut C h h') : Keep [C] h h' := fun a o e z => (hs.2 a fun q => z (by rw [q]; exact .head _)).trans e

theorem comp_res {src : Src} {full : List V} {loc : Nat → Option V} {fr : List Nat} {dt : DB} {de : DE} {r0 : Nat} : ∀ {xs : List V} {σ : Sto} {v : V} {σ' : Sto}, compGo src full loc fr dt de r0 xs σ = .ok v σ' → v = .lst r0
  | [], σ, v, σ', e => by unfold compGo at e; split at e <;> cases e; rfl
  | x :: xs, σ, v, σ', e => by
    unfold compGo at e
    split at e
    · cases e1 : dt ⟨compLoc loc fr x, σ⟩ with
      | exc => rw [e1] at e; cases e
      | stuck => rw [e1] at e; cases e
      | ok b σ1 =>
        rw [e1, R.bind_ok] at e
        cases b with
        | false => exact comp_res e
        | true =>
          rw [if_pos rfl] at e
          cases e2 : de ⟨compLoc loc fr x, σ1⟩ with
          | exc => rw [e2] at e; cases e
          | stuck => rw [e2] at e; cases e
          | ok v2 σ2 =>
            rw [e2, R.bind_ok] at e
            cases e3 : oAppend [.lst r0, v2] σ2 with
            | exc => rw [e3] at e; cases e
            | stuck => rw [e3] at e; cases e
            | ok v3 σ3 => rw [e3, R.bind_ok] at e; exact comp_res e
    · cases e

theorem good_comp {elt iter : PySem.Expr} {x : Str} {px : Pos} {ifs : List PySem.Expr} {scope : Scope} {free : List Str} {fr : List Nat} {cl : List (Str × Addr)} {pos : Pos} {di : DE} {dt : DB} {de : DE} (O : CompOK lay env scope x free fr cl)
    (hs : ∀ x, foldedSetIterable iter env x = pure x) (hi' : GoodE W lay env n (eval iter env) di) (ht : ∀ C, GoodB W (x :: free) (compEnvC scope cl C env) n (testsOf ifs (compEnvC scope cl C env)) dt) (he : ∀ C, GoodE W (x :: free) (compEnvC scope cl C env) n (eval elt (compEnvC scope cl C env)) de) :
    GoodE W lay env n (eval (.ListComp elt [⟨.Name x px, iter, ifs, 0⟩] scope pos) env) (dComp di fr dt de) := by
  intro A fs ρ st s Q E hr hf ei hi hns ok ex
  rw [eval_ListComp]
  refine wpAny_comprehension_free (use := none) rfl hs O.clos O.kind O.names (hi' A fs ρ st s _ _ hr hf ei hi (R.ns hns) (fun v σ1 ρ1 w h1 tk1 e1 r1 S1 => ?_) fun e' s' eq x => ex e' s' (R.ofX eq) x)
  have n1 := R.ns2 hns e1
  cases hsrc : Src.of v with
  | none => rw [hsrc] at n1; exact absurd rfl n1
  | some src =>
  cases hfull : src.items σ1 with
  | none => rw [hsrc] at n1; dsimp only at n1; rw [hfull] at n1; exact absurd rfl n1
  | some full =>
  rw [hsrc] at n1; dsimp only at n1; rw [hfull] at n1; dsimp only at n1
  have deq : dComp di fr dt de st = noX (compGo src full st.loc fr dt de σ1.length full (σ1 ++ [[]])) := R.of e1 (by rw [hsrc]; dsimp only; rw [hfull])
  refine it_start S1.hi r1 hsrc (by rw [hfull]; rfl) fun I h2 tk2 S2 it2 hI => ?_
  refine comp_core (h₀ := h1) (RR := fun acc C => compPost W.M A E none Q acc C) hr hf O S1.hi ((ei.after hi S1).after S1.hi S2) S2 it2 hI ht he n1 fun D C h' tk ρ' σ' m' e3 S3 r3 ei3 hn hc nC hC0 hCo => ?_
  refine ⟨m', hn, fun h'' hs'' => ?_⟩
  have k := sb_keep hs''
  have mu := ns_mut hn hc
  have hCb : W.base.get? C = none := by
    cases q : W.base.get? C with
    | none => rfl
    | some o => have := S1.hi.stays C o q; rw [hC0] at this; cases this
  exact ok _ σ' ρ' _ h'' tk (deq.trans (noX_ok e3)) (r3.mono k mu (List.prefix_refl _)) (S1.trans (S3.turn1 k mu hC0 hCb nC (ff_ne hC0 S1.hi.ff)))

theorem good_assign_comp {i : Nat} {y : Str} {py : Pos} {elt iter : PySem.Expr} {x : Str} {px : Pos} {ifs : List PySem.Expr} {scope : Scope} {free : List Str} {fr : List Nat} {cl : List (Str × Addr)} {pos spos : Pos} {di : DE} {dt : DB} {de : DE} (L : LayOK lay env) (hy : lay[i]? = some y)
    (hsw : swapsWith (.ListComp elt [⟨.Name x px, iter, ifs, 0⟩] scope pos) (some (.Name y py)) spos.line env = pure true) (O : CompOK lay env scope x free fr cl)
    (hs : ∀ x, foldedSetIterable iter env x = pure x) (hi' : GoodE W lay env n (eval iter env) di) (ht : ∀ C, GoodB W (x :: free) (compEnvC scope cl C env) n (testsOf ifs (compEnvC scope cl C env)) dt) (he : ∀ C, GoodE W (x :: free) (compEnvC scope cl C env) n (eval elt (compEnvC scope cl C env)) de) :
    GoodS W lay env n (exec (.Assign [.Name y py] (.ListComp elt [⟨.Name x px, iter, ifs, 0⟩] scope pos) spos) env) (sAssign i (dComp di fr dt de)) := by
  intro A outer ρ st s Q E hr hf hfr ei hi hns ok ex
  rw [exec_Assign_Name_used _ _ _ _ hsw]
  refine wpAny_bind (wpAny_standAt (wpAny_bind ?_))
  show wpAny _ A (do let _ ← comprehension (.ListComp elt [⟨.Name x px, iter, ifs, 0⟩] scope pos) scope env _ (newList []) false (eval iter env) (some (assign (.Name y py) env))) _ _ s
  have hns' := R.nsS hns
  refine wpAny_bind (wpAny_mono (wpAny_comprehension_free (use := some (assign (.Name y py) env)) (Q := fun _ s' => Q .next s') rfl hs O.clos O.kind O.names
    (hi' A _ ρ st s _ _ hr hf ei hi (R.ns hns') (fun v σ1 ρ1 w h1 tk1 e1 r1 S1 => ?_) fun e' s' eq x => ex e' s' (R.ofSX (R.ofX eq)) x.toS)) (fun _ s' hq => wpAny_pure (wpAny_pure hq)) fun _ _ e => e)
  have n1 := R.ns2 hns' e1
  cases hsrc : Src.of v with
  | none => rw [hsrc] at n1; exact absurd rfl n1
  | some src =>
  cases hfull : src.items σ1 with
  | none => rw [hsrc] at n1; dsimp only at n1; rw [hfull] at n1; exact absurd rfl n1
  | some full =>
  rw [hsrc] at n1; dsimp only at n1; rw [hfull] at n1; dsimp only at n1
  have deq : dComp di fr dt de st = noX (compGo src full st.loc fr dt de σ1.length full (σ1 ++ [[]])) := R.of e1 (by rw [hsrc]; dsimp only; rw [hfull])
  refine it_start S1.hi r1 hsrc (by rw [hfull]; rfl) fun I h2 tk2 S2 it2 hI => ?_
  refine comp_core (h₀ := h1) (RR := fun acc C => compPost W.M A E (some (assign (.Name y py) env)) (fun _ s' => Q .next s') acc C) hr hf O S1.hi ((ei.after hi S1).after S1.hi S2) S2 it2 hI ht he n1 fun D C h' tk ρ' σ' m' e3 S3 r3 ei3 hn hc nC hC0 hCo => ?_
  have hCb : W.base.get? C = none := by
    cases q : W.base.get? C with
    | none => rfl
    | some o => have := S1.hi.stays C o q; rw [hC0] at this; cases this
  have hCs : s.heap.get? C = none := by
    cases q : s.heap.get? C with
    | none => rfl
    | some o =>
      have := S1.keep C o q fun z => nC (S3.pre.subset (S1.pre.subset z))
      rw [hC0] at this; cases this
  have SS := (S1.trans S3).toS ei hi
  show wpAny _ A (assign (.Name y py) env (.ref D)) _ _ _
  refine wpAny_assign_Name (store_slot (st := ⟨st.loc, σ'⟩) L hy ei3 S3.hi r3 fun h4 tk4 S4 => ?_)
  have hn4 : h4.Ns C m' := hn.at' fun o e => S4.keep C o e fun q => by
    rcases List.mem_append.mp q with q | q
    · exact nC q
    · exact hCo q
  refine ⟨m', hn4, fun h'' hs'' => ?_⟩
  have k := sb_keep hs''
  have mu := ns_mut hn4 hc
  have S5 := SS.trans S4
  have S6 : StepS W lay env (env :: outer) ρ s.heap ρ' ⟨upd st.loc i (.lst σ1.length), σ'⟩ h'' := ⟨fun a o e z => k a o (S5.keep a o e z) fun q => (by rw [List.mem_singleton.mp q, hCs] at e; cases e), S5.pre, S5.fresh,
    S5.ei.step k mu (fun a q z => hCo (List.mem_singleton.mp z ▸ q)) (List.prefix_refl _), S5.hi.turn1 k mu hCb nC (ff_ne hCs hi.ff)⟩
  exact ok .next _ ρ' .next h'' tk4 (R.ofS (deq.trans (noX_ok e3)) rfl) .next S6

noncomputable def dT : DB := fun st => .ok true st.sto
theorem good_tests_nil : GoodB W lay env n (testsOf [] env) dT := fun _ _ _ _ _ _ _ _ _ _ hi _ ok _ => wpAny_pure (ok _ _ _ _ _ _ rfl rfl (.refl hi))
theorem good_tests_one {c : PySem.Expr} {d : DB} (h : GoodB W lay env n (isTrue c env (eval c env)) d) : GoodB W lay env n (testsOf [c] env) d :=
  fun A fs ρ st s Q E h1 h2 h3 h4 h5 ok ex => wpAny_tests_one (h A fs ρ st s Q E h1 h2 h3 h4 h5 ok ex)
end
end Mine
end
section
set_option tactic.hygienic false
set_option maxRecDepth 100000
open PySem PySem.W PyProof.Rows PySem.Calls
namespace Mine

noncomputable def ccN : Str := Str.ofString "call_counts"
noncomputable def rcN : Str := Str.ofString "ret_count"

structure Tel (W : Wd) (Fi : Fn) : Prop where
  fn : Fi.OK W
  ps : Fi.ps = [selfN, callsN, retN]
  body : ∃ p1 p2 p3 p4 q1 q2 q3 q4, Fi.body = [.Assign [.Attribute (.Name selfN p1) callsN p2] (.Name callsN p3) p4, .Assign [.Attribute (.Name selfN q1) retN q2] (.Name retN q3) q4]
  nocell : ∀ L, cellsFrom L Fi.scope.names [] = []
  kinds : Fi.scope.names.lookup selfN = some .local ∧ Fi.scope.names.lookup callsN = some .local ∧ Fi.scope.names.lookup retN = some .local
  makes : makesIn W.K W.tel = true
  init : findIn W.K (.ref W.tel) "__init__" = some (some (.ref Fi.f))
  isf : typeIn W.K (.ref Fi.f) = some (.type "function")
  sa : findIn W.K (.ref W.tel) "__setattr__" = some (some (.builtin "object.__setattr__"))
  over : plainOver W.K W.tel = true
  hd : hasDictIn W.K W.tel = true
  tc : takerIn W.K W.tel callsN = some none
  tr : takerIn W.K W.tel retN = some none
  fc : findIn W.K (.ref W.tel) callsN = some none
  fr : findIn W.K (.ref W.tel) retN = some none
  pg : ∀ x, plainGet W.K W.tel x = true
  keep : keepIn W.K (.ref W.tel) = true

noncomputable def mT (x : Addr) (v1 v2 : Value) : Str → Option Value := fun y => if y = retN then some v2 else if y = callsN then some v1 else if y = selfN then some (.ref x) else none
theorem mT_self {x : Addr} {v1 v2 : Value} : mT x v1 v2 selfN = some (.ref x) := by unfold mT; rw [if_neg (by decide), if_neg (by decide), if_pos rfl]
theorem mT_calls {x : Addr} {v1 v2 : Value} : mT x v1 v2 callsN = some v1 := by unfold mT; rw [if_neg (by decide), if_pos rfl]
theorem mT_ret {x : Addr} {v1 v2 : Value} : mT x v1 v2 retN = some v2 := by unfold mT; rw [if_pos rfl]

section
variable {W : Wd} {lay : List Str} {env : Env} {n : Nat} {Fi : Fn}

theorem call_tel (T : Tel W Fi) {A : Around} {s : Shared} {v1 : Value} {r : Int} {t : Tok} {Q : Value → Shared → Prop} {E : Value → Shared → Prop} (hr : Room n A) (hst : W.base.StaysIn s.heap) (hv1 : v1 = .ref (W.tabA 2))
    (hq : ∀ h' x tk, (∀ b o, s.heap.get? b = some o → h'.get? b = some o) → TelAt W h' x r → Q (.ref x) { s with heap := h', toks := tk }) :
    wpAny W.M A (call (.ref W.tel) [v1, .int r t]) Q E s := by
  have X := W.Xh hst
  obtain ⟨h, g, d, tk0, os⟩ := s
  obtain ⟨name, params, dV, kV, doc, pm, an, ct, oc, od, osl, hlook, hbind⟩ := T.fn.look
  obtain ⟨p1, p2, p3, p4, q1, q2, q3, q4, hbody⟩ := T.body
  refine wpAny_call (make_core (makes_of X T.makes) (looks_findIn X T.init) (fun self => bind_fn X self T.isf) (.inl rfl) ?_)
  have kp : ∀ b o, h.get? b = some o → ((h.push emptyDict).push (instObj W.tel h.objs.size)).get? b = some o := fun b o e => Heap.get?_push_of_some _ (Heap.get?_push_of_some _ e)
  have hx : ((h.push emptyDict).push (instObj W.tel h.objs.size)).get? (h.objs.size + 1) = some (instObj W.tel h.objs.size) := by heap_get
  have hd : ((h.push emptyDict).push (instObj W.tel h.objs.size)).get? h.objs.size = some emptyDict := Heap.get?_push_of_some _ (Heap.get?_push_size _ rfl)
  have hsz : ((h.push emptyDict).push (instObj W.tel h.objs.size)).objs.size = h.objs.size + 2 := by simp [Heap.size_push]
  generalize hH : (h.push emptyDict).push (instObj W.tel h.objs.size) = H at *
  have hstH : W.base.StaysIn H := fun b o e => kp b o (hst b o e)
  have XH := W.Xh hstH
  have hb : Fi.ps.zip [.ref (h.objs.size + 1), v1, .int r t] = [(selfN, .ref (h.objs.size + 1)), (callsN, v1), (retN, .int r t)] := by rw [T.ps]; rfl
  obtain ⟨ks, kc, ka⟩ := T.kinds
  have kind : (Fi.env H.objs.size).scope.kind = .function := T.fn.kind
  refine codeAny_call_cells (s := ⟨H, g, d, tk0, os⟩) (fd := fnOf name Fi.qual params Fi.body Fi.scope dV kV doc pm an Fi.cdv ct) (body := Fi.body) (binds := Fi.ps.zip [.ref (h.objs.size + 1), v1, .int r t]) (by have := hr.dp; show A.depth + 1 < _; (first | lia | omega)) (XH _ _ hlook) rfl (W.T.nolimit.keeps hstH) (codeRec_of XH T.fn.code) rfl (hbind _ (by rw [T.ps]; rfl)) rfl (fun y hy => ?_) (fun s₁ z => ?_) T.fn.co T.fn.gen T.fn.kind
  · rw [hb] at hy
    simp only [List.mem_cons, List.not_mem_nil, or_false] at hy
    rcases hy with rfl | rfl | rfl
    · exact .inl ks
    · exact .inl kc
    · exact .inl ka
  · obtain ⟨h₁, tk, rfl, _⟩ := z.done
    have keep : ∀ b o, H.get? b = some o → h₁.get? b = some o := z.toInCall.keep
    have hns : h₁.Ns (Fi.env H.objs.size).locals _ := z.toInCall.ns
    have m0 : bindL (Fi.env H.objs.size).kindOf (Fi.ps.zip [.ref (h.objs.size + 1), v1, .int r t]) (fun _ => none) = mT (h.objs.size + 1) v1 (.int r t) := by
      rw [hb]
      simp only [bindL, show (Fi.env H.objs.size).kindOf selfN = some .local from ks, show (Fi.env H.objs.size).kindOf callsN = some .local from kc, show (Fi.env H.objs.size).kindOf retN = some .local from ka, if_true]
      rfl
    have hns' : h₁.Ns (Fi.env H.objs.size).locals (mT (h.objs.size + 1) v1 (.int r t)) := m0 ▸ hns
    have F1 : Fr h H.objs.size h₁ (mT (h.objs.size + 1) v1 (.int r t)) := ⟨hns', fun b o e => keep b o (kp b o e), by (first | lia | omega)⟩
    have fresh : ∀ a, h.objs.size ≤ a → h.get? a = none := fun a q => Heap.get?_none_of_le q
    have N1 : News h H.objs.size h₁ [(h.objs.size + 1, instObj W.tel h.objs.size), (h.objs.size, emptyDict)] := fun p hp => by
      rcases List.mem_cons.mp hp with rfl | hp
      · exact ⟨keep _ _ hx, by show h.objs.size + 1 ≠ _; (first | lia | omega), fresh _ (Nat.le_succ _)⟩
      · rw [List.mem_singleton.mp hp]
        exact ⟨keep _ _ hd, by show h.objs.size ≠ _; (first | lia | omega), fresh _ (Nat.le_refl _)⟩
    show wpAny W.M _ (execs Fi.body _) _ _ _
    rw [hbody]
    refine wpAny_execs_cons (plainObj_wpAny_Assign_Attribute (wpAny_Name (wpAny_loadName_local kind kc F1.ns mT_calls (wpAny_Name (wpAny_loadName_local kind ks F1.ns mT_self ?_) (by decide))) (by decide)) (swapsAttr _))
    refine set_dict (es := []) (n := 0) F1 X N1 (.of_news N1 (.head _) (.tail _ (.head _))) rfl T.sa T.over T.tc T.hd rfl rfl (.tail (by show h.objs.size + 1 ≠ h.objs.size; (first | lia | omega)) (.head fun _ q => nomatch q)) (by simp [putL]) fun h₂ F2 N2 => ?_
    refine wpAny_execs_cons (plainObj_wpAny_Assign_Attribute (wpAny_Name (wpAny_loadName_local kind ka F2.ns mT_ret (wpAny_Name (wpAny_loadName_local kind ks F2.ns mT_self ?_) (by decide))) (by decide)) (swapsAttr _))
    refine set_dict F2 X N2 (.of_news N2 (.head _) (.tail _ (.head _))) rfl T.sa T.over T.tr T.hd rfl rfl (.tail (by show h.objs.size + 1 ≠ h.objs.size; (first | lia | omega)) (.head fun _ q => nomatch q)) (by simp [putL]; split <;> simp) fun h₃ F3 N3 => ?_
    refine wpAny_execs_nil ?_
    subst hv1
    have e2 := (N3 _ (.tail _ (.head _))).1
    have hne : (Value.str callsN (tk + 1)).isStr retN = false := rfl
    have e3 : h₃.get? h.objs.size = some (telD W r (tk + 1) (tk + 2 + 1) t 2) := by
      refine e2.trans ?_
      simp only [putL, putN, List.any_nil, List.any_cons, hne, Bool.or_false, Bool.false_eq_true, if_false]
      rfl
    exact ⟨rfl, hq h₃ _ _ F3.keep ⟨h.objs.size, tk + 1, tk + 2 + 1, t, 2, (N3 _ (.head _)).1, e3⟩⟩
end
end Mine
end
section
set_option tactic.hygienic false
set_option maxRecDepth 100000
open PySem PySem.W PyProof.Rows PySem.Calls
namespace Mine

section
variable {W : Wd} {lay : List Str} {env : Env} {n : Nat} {Fi : Fn}

/-! ## the teller -/
noncomputable def oTel : List V → Sto → R V
  | [.tab 2, .int r], σ => .ok (.tel r) σ
  | _, _ => .stuck
theorem pl_tel (T : Tel W Fi) : PL W n (VR W) (fun vs => call (.ref W.tel) vs) oTel := by
  refine PL.mk (fun x σ => by unfold oTel; (repeat' split) <;> simp) fun A fs ρ σ s x vs Q E z σ' hr hf hi hx e ok => ?_
  unfold oTel at e
  split at e
  · cases e
    cases hx with
    | cons h1 r =>
    obtain ⟨v, rfl, hv⟩ := r.one
    cases h1
    cases hv
    exact call_tel T hr hi.stays rfl fun h' x tk keep tel => ok ρ _ h' tk (.tel tel) (.grow hi keep)
  · cases e

noncomputable def oCalls : V → Sto → R V
  | .tel _, σ => .ok (.tab 2) σ
  | _, _ => .stuck
noncomputable def oRet : V → Sto → R V
  | .tel r, σ => .ok (.int r) σ
  | _, _ => .stuck

theorem tel_inst {h : Heap} {a : Addr} {r : Int} (t : TelAt W h a r) : ∃ dx t1 t2 t3 n, InstAt h a ⟨.ref W.tel, some dx, .plain, #[]⟩ W.tel (some (telD W r t1 t2 t3 n)) := by
  obtain ⟨dx, t1, t2, t3, n, e1, e2⟩ := t
  exact ⟨dx, t1, t2, t3, n, e1, rfl, rfl, e2⟩

theorem p_calls (T : Tel W Fi) {expr : Bool} : P1 W n (VR W) (fun v => getAttr v callsN expr) oCalls := by
  refine P1.mk (fun x σ => by unfold oCalls; (repeat' split) <;> simp) fun A fs ρ σ s x v Q E z σ' hr hf hi hx e ok => ?_
  unfold oCalls at e
  split at e
  · cases e
    cases hx with
    | tel t =>
    obtain ⟨dx, t1, t2, t3, m, I⟩ := tel_inst t
    exact get_value (W.Xh hi.stays) I (plainGet_of (T.pg callsN)).1 (findObj_own T.hd T.fc rfl (v := .ref (W.tabA 2)) rfl) rfl (ok ρ _ s.heap _ (.tab 2) (.refl hi))
  · cases e
set_option tactic.hygienic true in
theorem p_ret (T : Tel W Fi) {expr : Bool} : P1 W n (VR W) (fun v => getAttr v retN expr) oRet := by
  refine P1.mk (fun x σ => by unfold oRet; (repeat' split) <;> simp) fun A fs ρ σ s x v Q E z σ' hr hf hi hx e ok => ?_
  unfold oRet at e
  split at e
  · rename_i r
    cases e
    cases hx with
    | tel t =>
    obtain ⟨dx, t1, t2, t3, m, I⟩ := tel_inst t
    exact get_value (W.Xh hi.stays) I (plainGet_of (T.pg retN)).1 (findObj_own T.hd T.fr rfl (v := .int r t3) rfl) rfl (ok ρ _ s.heap _ (.int r t3) (.refl hi))
  · cases e

theorem good_attr {o : PySem.Expr} {name : Str} {pos : Pos} {d : DE} {k : V → Sto → R V} (ho : GoodE W lay env n (eval o env) d) (p : P1 W n (VR W) (fun v => getAttr v name true) k) (hb : attributeBase o name env (eval o env) = eval o env) :
    GoodE W lay env n (eval (.Attribute o name pos) env) (dThen d k) := by
  intro A fs ρ st s Q E h1 h2 h3 h4 h5 ok ex
  rw [arm_eval_Attribute, hb]
  refine wpAny_bind (wpAny_mono (use1 (f := fun v => getAttr v name true) (Q := Q) (E := E) ho p h1 h2 h3 h4 h5 ok ex) (fun v s₁ h => wpAny_bind (wpAny_standAt (wpAny_bind (wpAny_holding (wpAny_mono h (fun r s₂ q => wpAny_bind (wpAny_letTemporaryGo (wpAny_pure q))) fun _ _ x => x))))) fun _ _ x => x)

noncomputable def dTelM (d : DE) (da : DL) (k : List V → Sto → R V) : DE := fun st => (d st).bind fun o σ => match o with
  | .tel r => (da ⟨st.loc, σ⟩).bind fun xs σ => k (.tel r :: xs) σ
  | _ => .stuck

set_option tactic.hygienic true in
theorem good_telM (T : Tel W Fi) {o : PySem.Expr} {name : Str} {apos pos : Pos} {args : List PySem.Expr} {d : DE} {da : DL} {f : Addr} {k : List V → Sto → R V}
    (ho : GoodE W lay env n (eval o env) d) (hs : NoStar env args) (ha : GoodL W lay env n (spliced (backTo pos (starEach args env))) da) (hp : PL W n (VR W) (fun vs => call (.ref f) vs) k)
    (hf : findIn W.K (.ref W.tel) name = some (some (.ref f))) (ht : isFn W.K (.ref f) = true) (hk : keepIn W.K (.ref f) = true) (hn1 : name ≠ callsN) (hn2 : name ≠ retN) {pl : Sem Bool}
    (he : eval (.Call (.Attribute o name apos) args [] pos) env = (do
      let ov ← eval o env
      standAt apos.atName
      let (f, first) ← holding [ov] (getMethod ov name pl)
      callWith pos f first (backTo pos (starEach args env)) (backToKw pos (keywordEach [] env)))) : GoodE W lay env n (eval (.Call (.Attribute o name apos) args [] pos) env) (dTelM d da k) := by
  intro A fs ρ st s Q E h1 h2 h3 h4 h5 ok ex
  refine methodCall_KW (ho A fs ρ st s _ _ h1 h2 h3 h4 (R.ns h5) (fun x σ1 ρ1 v hp1 tk1 e1 q1 S1 => ?_) fun e' s' eq x => ex e' s' (R.ofX eq) x) he
  have n1 := R.ns2 h5 e1
  cases x <;> first | exact absurd rfl n1 | skip
  rename_i r
  have q1' := q1
  cases q1 with
  | tel t =>
  rename_i a
  obtain ⟨dx, t1, t2, t3, m, I⟩ := tel_inst t
  have hshadow : shadowIn (some (telD W r t1 t2 t3 m)) name = some false := by
    show (lookIn name (telD W r t1 t2 t3 m)).map _ = _
    have : lookIn name (telD W r t1 t2 t3 m) = some none := by
      show getL name _ = _
      have e1 : (Value.str callsN t1).isStr name = false := by
        show (callsN == name) = false
        exact beq_eq_false_iff_ne.mpr (Ne.symm hn1)
      have e2 : (Value.str retN t2).isStr name = false := by
        show (retN == name) = false
        exact beq_eq_false_iff_ne.mpr (Ne.symm hn2)
      simp [getL, e1, e2, DictEntry.refKey]
    rw [this]; rfl
  refine method_fn (W.Xh S1.hi.stays) I (plainGet_of (T.pg name)).1 (plainGet_of (T.pg name)).2 hf (beq_iff_eq.mp ht) hshadow ?_
  refine callWith_of (P := fun h => W.K.In h) (by rw [hs.plain]; rfl) (keeps_K hk) (evalArgs_ns hs ?_)
  refine ha A fs ρ1 ⟨st.loc, σ1⟩ _ _ _ h1 h2 (h3.after h4 S1) S1.hi (R.ns n1) (fun xs σ2 ρ2 vs hp2 tk2 e2 q2 S2 => ⟨W.Xh S2.hi.stays, ?_⟩) fun e' s' eq x => ex e' s' (R.of e1 (R.ofX eq)) (x.back S1)
  exact hp A fs ρ2 σ2 _ (.tel r :: xs) (.ref a :: vs) _ _ h1 h2 S2.hi (.cons (q1'.after S1.hi S2) q2) (R.ns2 (k := fun xs σ => k (.tel r :: xs) σ) n1 e2) (fun z σ3 ρ3 w hp3 tk3 e3 q3 S3 => ok _ _ _ _ _ _ (R.of e1 (R.of (k := fun xs σ => k (V.tel r :: xs) σ) e2 e3)) q3 (S1.trans (S2.trans S3)))
    fun e' s' eq x => ex e' s' (R.of e1 (R.of (k := fun xs σ => k (V.tel r :: xs) σ) e2 eq)) (x.back (S1.trans S2))

/-! ## or, as a value -/
noncomputable def dOrV (d e : DE) : DE := fun st => (d st).bind fun v σ => (oTruth v σ).bind fun b σ => if b then .ok v σ else e ⟨st.loc, σ⟩
theorem good_orV_one {x : PySem.Expr} {pos : Pos} {d : DE} (h : GoodE W lay env n (eval x env) d) : GoodE W lay env n (eval (.BoolOp .Or [x] pos) env) d := fun A fs ρ st s Q E h1 h2 h3 h4 h5 ok ex => BoolOp_one (h A fs ρ st s Q E h1 h2 h3 h4 h5 ok ex)
theorem good_orV {x y : PySem.Expr} {rest : List PySem.Expr} {pos : Pos} {d e : DE} (h : GoodE W lay env n (eval x env) d) (hr : GoodE W lay env n (eval (.BoolOp .Or (y :: rest) pos) env) e) : GoodE W lay env n (eval (.BoolOp .Or (x :: y :: rest) pos) env) (dOrV d e) := by
  intro A fs ρ st s Q E h1 h2 h3 h4 h5 ok ex
  refine BoolOp_or (h A fs ρ st s _ _ h1 h2 h3 h4 (R.ns h5) (fun v σ1 ρ1 w hp1 tk1 e1 r1 S1 => ?_) fun e' s' eq x => ex e' s' (R.ofX eq) x)
  have n1 := R.ns2 h5 e1
  refine p_truth (n := n) A fs ρ1 σ1 _ v w _ _ h1 h2 S1.hi r1 (R.ns n1) (fun b σ2 ρ2 b' hp2 tk2 e2 r2 S2 => ?_) fun e' s' eq x => ex e' s' (R.of e1 (R.ofX eq)) (x.back S1)
  cases r2
  have n2 := R.ns2 n1 e2
  have S12 := S1.trans S2
  cases b with
  | true => exact ok _ _ _ _ _ _ (R.of e1 (R.of e2 rfl)) (r1.after S1.hi S2) S12
  | false => exact hr A fs ρ2 ⟨st.loc, σ2⟩ _ _ _ h1 h2 (h3.after h4 S12) S2.hi n2 (fun x σ3 ρ3 v3 hp3 tk3 e3 r3 S3 => ok _ _ _ _ _ _ (R.of e1 (R.of e2 e3)) r3 (S12.trans S3)) fun e' s' eq x => ex e' s' (R.of e1 (R.of e2 eq)) (x.back S12)

/-! ## a slice of the script -/
noncomputable def oSlice (a b : Int) : V → Sto → R V
  | .cl ns, σ => if ns.length ≤ limN then .ok (.lst σ.length) (σ ++ [(pickNums ns (some a) (some b) none).map V.int]) else .stuck
  | _, _ => .stuck
set_option tactic.hygienic true in
theorem good_slice {value : PySem.Expr} {a b : Int} {ka kb : Nat} {pa pb p pos : Pos} {d : DE} (h : GoodE W lay env n (eval value env) d) (ht : ∀ o r, letTemporaryGo value o r = pure ()) :
    GoodE W lay env n (eval (.Subscript value (.Slice (some (.Constant (.int a) ka pa)) (some (.Constant (.int b) kb pb)) none p) pos) env) (dThen d (oSlice a b)) := by
  intro A fs ρ st s Q E h1 h2 h3 h4 h5 ok ex
  refine wpAny_Subscript_list_slice (h A fs ρ st s _ _ h1 h2 h3 h4 (R.ns h5) (fun v σ1 ρ1 w hp1 tk1 e1 r1 S1 => ?_) fun e' s' eq x => ex e' s' (R.ofX eq) x) ht
  have n1 := R.ns2 h5 e1
  refine evalPart_some_step (wpAny_Constant_int (evalPart_some_step (wpAny_Constant_int ?_)))
  cases v <;> first | exact absurd rfl n1 | skip
  rename_i ns
  by_cases hl : ns.length ≤ limN
  · have e2 : oSlice a b (.cl ns) σ1 = .ok (.lst σ1.length) (σ1 ++ [(pickNums ns (some a) (some b) none).map V.int]) := if_pos hl
    cases r1 with
    | cl hL hI =>
    rename_i vs c
    obtain ⟨o, ho, hc, m, hd⟩ := hL
    have hlen : vs.length = ns.length := hI.length
    refine ⟨c, vs.toArray, some a, some b, rfl, ⟨o, S1.hi.stays _ _ ho, hc, m, hd⟩, by rw [List.size_toArray, hlen]; exact le_size hl, .int a _, .int b _, ?_⟩
    have pick := IntsAre.pick hI (some a) (some b) none
    have k1 : ∀ b' o, hp1.get? b' = some o → (hp1.push { cls := .type "slice", data := .fields #[.int a tk1, .int b (tk1 + 1), .none] }).get? b' = some o := fun b' o e => Heap.get?_push_of_some _ e
    have S2 := Step.grow S1.hi k1
    have S3 := S2.hi.pushL (xs := (pickNums ns (some a) (some b) none).map V.int) (vs := (slicePick vs.toArray (some a) (some b) none).toList) (VRs.ints pick)
    have S123 := S1.trans (S2.trans S3)
    refine ok (.lst σ1.length) _ _ _ _ (tk1 + 1 + 1) (R.of e1 e2) (.lst ?_) S123
    rw [← S1.hi.len]
    simp [Heap.size_push]
  · exact absurd (if_neg hl) n1
end
end Mine
end
section
set_option tactic.hygienic false
set_option maxRecDepth 100000
open PySem PySem.W PyProof.Rows PySem.Calls
namespace Mine

section
variable {W : Wd} {lay : List Str} {env : Env} {n : Nat}

theorem ns_slots {h h' : Heap} {L : Addr} {m : Str → Option Value} {l : List Addr} (hn : h.Ns L m) (k : KeepX l h h') (nl : L ∉ l) : h'.Ns L m := by
  obtain ⟨o, es, ep, ho, hd, r⟩ := hn
  obtain ⟨sl, e⟩ := k L o ho nl fun vs q => by rw [hd] at q; cases q
  exact ⟨_, es, ep, e, hd, r⟩

noncomputable def tailB (d : DE) (iw : Nat) (st : St) : Option Bool := match d st, st.loc iw with
  | .ok (.int g) _, some (.int w) => some (g == w)
  | .exc, some (.int w) => some (-1 == w)
  | _, _ => none

set_option tactic.hygienic true in
theorem try_tail {got want bad : Str} {ig iw : Nat} {e : PySem.Expr} {p1 p2 p3 p4 p5 p6 p7 p8 p9 p10 p11 p12 p13 : Pos} {k1 : Nat} {d : DE} (L : LayOK lay env) (hg : lay[ig]? = some got) (hw : lay[iw]? = some want) (hne : ig ≠ iw) (hgl : env.kindOf got = some .local) (hwl : env.kindOf want = some .local) (hcells : env.cells = [])
    (hsw : swapsWith e (some (.Name got p1)) p2.line env = pure false) (hbad : env.kindOf bad = some .globalImplicit) (hbe : nsIn W.K mainGlobals bad = some (some (.ref W.bad))) (hbd : (bad == ("__debug__" : Str)) = false) (hgd : (got == ("__debug__" : Str)) = false) (hwd : (want == ("__debug__" : Str)) = false)
    (hmatch : exmOne W.K (.ref W.bad) (.ref W.bad) = some true) (hd : GoodE W lay env n (eval e env) d)
    {A : Around} {outer : List Env} {ρ : List Addr} {st : St} {s : Shared} {Q : Flow → Shared → Prop} {E : Value → Shared → Prop} {b : Bool}
    (hr : Room n A) (hf : A.frames = some (env :: outer)) (hfr : env.frame = some env.locals) (ei : EI W lay env ρ st.loc s.heap) (hi : HI W (env :: outer) ρ st.sto s.heap) (ht : tailB d iw st = some b)
    (ok : ∀ h' tk, W.base.StaysIn h' → Q (.ret (.bool b)) { s with heap := h', toks := tk }) :
    wpAny W.M A (execs [.Try [.Assign [.Name got p1] e p2] [.ExceptHandler (some (.Name bad p3)) none [.Assign [.Name got p4] (.UnaryOp .USub (.Constant (.int 1) k1 p5) p6) p7] p8] [] [] p9, .Return (some (.Compare (.Name got p10) [.Eq] [.Name want p11] p13)) p12] env) Q E s := by
  have retG : GoodS W lay env n (exec (.Return (some (.Compare (.Name got p10) [.Eq] [.Name want p11] p13)) p12) env) (sReturn (dThen2 (dLoc ig) (dLoc iw) oEq)) :=
    good_return (good_cmp (good_loc hg hgd) (good_loc hw hwd) p_eq rfl)
  have fin : ∀ (ρ' : List Addr) (st' : St) (h' : Heap) (tk : Nat) (g w : Int), EI W lay env ρ' st'.loc h' → HI W (env :: outer) ρ' st'.sto h' → st'.loc ig = some (.int g) → st'.loc iw = some (.int w) → b = (g == w) →
      wpAny W.M A (execs [.Return (some (.Compare (.Name got p10) [.Eq] [.Name want p11] p13)) p12] env) Q E { s with heap := h', toks := tk } := by
    intro ρ' st' h' tk g w ei' hi' eg ew hb
    have e1 : dThen2 (dLoc ig) (dLoc iw) oEq st' = .ok (.bool (g == w)) st'.sto := by simp [dThen2, dLoc, eg, ew, oEq]
    have e2 : sReturn (dThen2 (dLoc ig) (dLoc iw) oEq) st' = .ok (.ret (.bool (g == w))) ⟨st'.loc, st'.sto⟩ := R.ofS e1 rfl
    refine wpAny_execs_cons (retG A outer ρ' st' _ _ _ hr hf hfr ei' hi' (by rw [e2]; exact fun q => by cases q) (fun fl st2 ρ2 f h2 tk2 e3 r3 S3 => ?_) fun _ _ e3 _ => by rw [e2] at e3; cases e3)
    rw [e2] at e3
    cases e3
    cases r3 with
    | ret v =>
    cases v
    subst hb
    exact ok h2 tk2 S3.hi.stays
  refine wpAny_execs_cons (wpAny_Try_except ?_)
  refine wpAny_execs_cons (wpAny_Assign_Name (hd A _ ρ st s _ _ hr hf ei hi (fun q => by unfold tailB at ht; rw [q] at ht; cases ht) (fun v σ' ρ' w' h' tk e1 r S => ?_) fun x s' e1 X => ?_) hsw)
  · unfold tailB at ht
    rw [e1] at ht
    cases v <;> first | (exact absurd (show none = some b from ht) (by simp)) | skip
    rename_i g
    cases hw' : st.loc iw with
    | none => rw [hw'] at ht; cases ht
    | some wv =>
    rw [hw'] at ht
    cases wv <;> first | (exact absurd (show none = some b from ht) (by simp)) | skip
    rename_i w
    have S1 := S.toS ei hi
    refine store_slot (st := ⟨st.loc, σ'⟩) L hg S1.ei S1.hi r fun h2 tk2 S2 => ?_
    refine wpAny_execs_nil (wpAny_execs_nil ?_)
    exact fin ρ' _ h2 tk2 g w S2.ei S2.hi (by simp [upd]) (by simp [upd, Ne.symm hne, hw']) (by have := Option.some.inj ht; exact this.symm)
  · unfold tailB at ht
    rw [e1] at ht
    cases hw' : st.loc iw with
    | none => rw [hw'] at ht; cases ht
    | some wv =>
    rw [hw'] at ht
    cases wv <;> first | (exact absurd (show none = some b from ht) (by simp)) | skip
    rename_i w
    have hnL : env.locals ∉ ρ := fun z => ei.notL hi _ (.head _) z
    refine xp_note hf hfr X fun s2 X2 => xp_flight X2 fun s3 X3 => ?_
    obtain ⟨ea, h3, tk3, rfl, rfl, a3, a4, a5, x3⟩ := X3.ex
    obtain ⟨xb, oe, evs, a0, xe, xc, xr⟩ := id x3
    have X3W := W.Xh a3
    refine wpAny_handleBy_cons (codeAny_handlers_test ?_) (by intro q; cases q)
    refine name_glob ei a3 hbad hbe hbd ?_
    have lt : Looks W.M h3 (typeOf (.ref ea)) (.ref W.bad) := xc ▸ (Looks.ld xe).andThen .now
    refine (exm_one X3W lt hmatch).here ?_
    refine codeAny_handlers_suite (xp_flight (s := s) (l := ρ) ⟨ea, h3, tk3, rfl, rfl, a3, a4, a5, x3⟩ fun s4 X4 => ?_)
    obtain ⟨ea', h4, tk4, hea, rfl, b3, b4, b5, x4⟩ := X4.ex
    have hmap := ei.ns
    obtain ⟨m, hn, hc, hl⟩ := hmap
    obtain ⟨x', val, q1, q2, q3⟩ := hl iw _ hw'
    rw [hw] at q1; cases q1
    have hm : ∃ tw, m want = some (.int w tw) := by
      rcases q3 with ⟨_, z⟩ | ⟨z, _⟩
      · cases q2; exact ⟨_, z⟩
      · rw [hwl] at z; cases z
    obtain ⟨tw, hm⟩ := hm
    have hn4 : h4.Ns env.locals m := ns_slots hn b5 hnL
    have ei4 : EI W lay env [] (fun i => if i = iw then some (.int w) else none) h4 := by
      refine ⟨ei.kind, ei.glob, ei.blt, ei.nb, ⟨m, hn4, hc, fun i v e => ?_⟩, (by rw [hcells]; intro x c e; cases e), ei.apart⟩
      by_cases hi' : i = iw
      · subst hi'
        rw [if_pos rfl] at e; cases e
        exact ⟨want, .int w tw, hw, .int w tw, .inl ⟨hwl, hm⟩⟩
      · rw [if_neg hi'] at e; cases e
    have hi4 : HI W (env :: outer) [] [] h4 := ⟨b3, b4, List.nodup_nil, rfl, (fun _ q => nomatch q), (fun r a xs e _ => by simp at e)⟩
    refine wpAny_execs_cons (wpAny_Assign_Name (wpAny_UnaryOp (wpAny_Constant_int ?_)) rfl)
    refine neg_int ?_

    refine store_slot (outer := outer) (st := ⟨fun i => if i = iw then some (.int w) else none, []⟩) (s := { s with heap := h4, toks := _ }) L hg ei4 hi4 (.int _ _) fun h5 tk5 S5 => ?_
    refine wpAny_execs_nil ?_
    exact fin [] _ h5 tk5 (-1) w S5.ei S5.hi (by simp [upd]) (by simp [upd, Ne.symm hne]) (by have := Option.some.inj ht; exact this.symm)
end
end Mine
end
section
set_option tactic.hygienic false
set_option maxRecDepth 100000
open PySem PySem.W PyProof.Rows PySem.Calls
namespace Mine

/-! # functions out of a fragment -/
noncomputable def fdOf (K : Frag) (f : Addr) : FuncData := match K.lookup f with
  | some ⟨_, _, .func fd, _⟩ => fd
  | _ => default
noncomputable def bodyOf (K : Frag) (f : Addr) : List Stmt := match (fdOf K f).body with
  | .stmts b => b
  | _ => []
noncomputable def fnAt (K : Frag) (f : Addr) (ps : List Str) : Fn := ⟨f, (fdOf K f).qualname, (fdOf K f).scope, (fdOf K f).code, ps, bodyOf K f⟩
noncomputable def fnChk (K : Frag) (f : Addr) (ps : List Str) : Bool := match K.lookup f with
  | some ⟨_, _, .func fd, _⟩ => fd.globals == mainGlobals && fd.builtins == builtinsNs && fd.closure.isEmpty && (match fd.body with | .stmts _ => true | _ => false) && codeIn K fd.code fd.qualname &&
      decide (fd.scope.kind = .function) && !fd.scope.isCoroutine && !fd.scope.isGenerator && decide ps.Nodup && ps.all (fun x => fd.scope.names.lookup x == some .local || fd.scope.names.lookup x == some .cell) &&
      decide ((fd.scope.names.filter fun x => x.2 == .cell).map (·.1)).Nodup
  | _ => false

theorem cellsFrom_keys : ∀ (names : List (Str × NameKind)) (n : Nat) (acc : List (Str × Addr)), (cellsFrom n names acc).map (·.1) = ((names.filter fun x => x.2 == .cell).map (·.1)).reverse ++ acc.map (·.1)
  | [], _, _ => by simp [cellsFrom]
  | (x, k) :: r, n, acc => by
    unfold cellsFrom
    by_cases hk : (k == NameKind.cell) = true
    · rw [if_pos hk, cellsFrom_keys r]
      simp [hk]
    · rw [if_neg hk, cellsFrom_keys r]
      simp [hk]
theorem lookup_of_mem {l : List (Str × Addr)} (h : (l.map (·.1)).Nodup) {x : Str} {c : Addr} (m : (x, c) ∈ l) : l.lookup x = some c := by
  induction l with
  | nil => cases m
  | cons p r ih =>
    obtain ⟨y, d⟩ := p
    rw [List.map_cons, List.nodup_cons] at h
    rcases List.mem_cons.mp m with e | m
    · cases e; simp
    · have : (x == y) = false := by
        rw [beq_eq_false_iff_ne]
        intro q
        exact h.1 (by rw [← q]; exact List.mem_map.mpr ⟨(x, c), m, rfl⟩)
      rw [List.lookup_cons, this]
      exact ih h.2 m

set_option tactic.hygienic true in
theorem fnOK_of {W : Wd} {K : Frag} {f : Addr} {ps : List Str} (hK : W.K = K) (h : fnChk K f ps = true) (hb : ∀ vals : List Value, vals.length = ps.length → bindArgs (fdOf K f) ⟨vals, []⟩ = pure (ps.zip vals)) : (fnAt K f ps).OK W := by
  subst hK
  unfold fnChk at h
  split at h
  · rename_i oc od fd sl hl
    have hfd : fdOf W.K f = fd := by unfold fdOf; rw [hl]
    simp only [Bool.and_eq_true, decide_eq_true_eq, beq_iff_eq, Bool.not_eq_true', List.isEmpty_iff, List.all_eq_true, Bool.or_eq_true] at h
    obtain ⟨⟨⟨⟨⟨⟨⟨⟨⟨⟨h1, h2⟩, h3⟩, h4⟩, h5⟩, h6⟩, h7⟩, h8⟩, h9⟩, h10⟩, h11⟩ := h
    have hbody : fd.body = .stmts (bodyOf W.K f) := by
      unfold bodyOf
      rw [hfd]
      split at h4
      · rename_i b e; rw [e]
      · cases h4
    have e : fd = fnOf fd.name (fnAt W.K f ps).qual fd.params (fnAt W.K f ps).body (fnAt W.K f ps).scope fd.defaults fd.kwdefaults fd.doc fd.pyModule fd.annotations (fnAt W.K f ps).cdv fd.closureTuple := by
      show fd = fnOf fd.name (fdOf W.K f).qualname fd.params (bodyOf W.K f) (fdOf W.K f).scope fd.defaults fd.kwdefaults fd.doc fd.pyModule fd.annotations (fdOf W.K f).code fd.closureTuple
      rw [hfd]
      obtain ⟨a1, a2, a3, a4, a5, a6, a7, a8, a9, a10, a11, a12, a13, a14, a15⟩ := fd
      dsimp only at *
      subst h1 h2 h3
      unfold fnOf
      rw [hbody]
    have es : (fnAt W.K f ps).scope = fd.scope := by show (fdOf W.K f).scope = _; rw [hfd]
    refine ⟨⟨fd.name, fd.params, fd.defaults, fd.kwdefaults, fd.doc, fd.pyModule, fd.annotations, fd.closureTuple, oc, od, sl, by rw [← e]; exact hl, fun vals hv => by rw [← e, ← hfd]; exact hb vals hv⟩, ?_, by rw [es]; exact h6, by rw [es]; exact h7, by rw [es]; exact h8, h9, fun x hx => by rw [es]; exact h10 x hx, fun L x c hm => lookup_of_mem ?_ hm⟩
    · show codeIn W.K (fdOf W.K f).code (fdOf W.K f).qualname = true
      rw [hfd]; exact h5
    · rw [cellsFrom_keys, es]
      simp only [List.map_nil, List.append_nil]
      exact (List.reverse_perm _).nodup_iff.mpr h11
  · cases h

/-! # tables out of a fragment -/
inductive TV where
  | i (a : Int)
  | p (a b : Int)
  deriving DecidableEq
noncomputable def TV.toV : TV → V
  | .i a => .int a
  | .p a b => .tup [.int a, .int b]
noncomputable def tvFind : List (Int × TV) → Int → Option V
  | [], _ => none
  | (k, v) :: r, i => if k = i then some v.toV else tvFind r i
noncomputable def tvMatch (K : Frag) : Value → TV → Bool
  | .int a _, .i b => a == b
  | .ref c, .p a b => (match K.lookup c with
    | some ⟨.type "tuple", none, .seq xs 0, sl⟩ => sl.isEmpty && (match xs.toList with | [.int x _, .int y _] => x == a && y == b | _ => false)
    | _ => false)
  | _, _ => false
noncomputable def tabChk (K : Frag) : List DictEntry → List (Int × TV) → Bool
  | [], [] => true
  | e :: es, (k, v) :: r => (match e.key with | .int a _ => a == k && e.hash == hashInt a | _ => false) && tvMatch K e.val v && tabChk K es r
  | _, _ => false
noncomputable def tabIn (K : Frag) (a : Addr) (l : List (Int × TV)) : Bool := match K.lookup a with
  | some ⟨.type "dict", none, .dict es _, sl⟩ => sl.isEmpty && tabChk K es.toList l
  | _ => false

section
variable {W : Wd}
set_option tactic.hygienic true in
theorem tvMatch_vr {v : Value} {x : TV} (h : tvMatch W.K v x = true) : ∀ ρ hp, W.base.StaysIn hp → VR W ρ hp x.toV v := by
  intro ρ hp st
  unfold tvMatch at h
  split at h
  · cases beq_iff_eq.mp h; exact .int _ _
  · rename_i c a b
    split at h
    · rename_i xs sl hl
      split at h
      · rename_i x1 t1 y1 t2 hxs
        simp only [Bool.and_eq_true, beq_iff_eq, Array.isEmpty_iff] at h
        obtain ⟨rfl, rfl, rfl⟩ := h
        have : xs = (List.toArray [.int x1 t1, .int y1 t2]) := by rw [← hxs]
        subst this
        exact .tup (n := 0) (st _ _ (W.X _ _ hl)) (.cons (.int _ _) (.cons (.int _ _) .nil))
      · simp at h
    · cases h
  · cases h

set_option tactic.hygienic true in
theorem tab_map {a : Addr} {l : List (Int × TV)} (h : tabIn W.K a l = true) : ∃ f, W.base.MapOf (intKind W.prog W.w) a f ∧ ∀ i, (f i = none ∧ tvFind l i = none) ∨ ∃ v x, f i = some v ∧ tvFind l i = some x ∧ ∀ ρ h, W.base.StaysIn h → VR W ρ h x v := by
  unfold tabIn at h
  split at h
  · rename_i es n sl hl
    simp only [Bool.and_eq_true, Array.isEmpty_iff] at h
    obtain ⟨rfl, h⟩ := h
    obtain ⟨es⟩ := es
    dsimp only at h
    refine ⟨fun k => (es.find? fun e => Value.isInt k e.key).map (·.val), ⟨_, ⟨es⟩, n, W.X _ _ hl, ⟨rfl, rfl, rfl⟩, rfl, fun e he => ?_, fun k => by unfold findBy; rw [List.find?_toArray]; rfl⟩, fun i => ?_⟩
    · have he' : e ∈ es := by simpa using he
      clear hl he
      induction es generalizing l with
      | nil => cases he'
      | cons e0 es ih =>
        cases l with
        | nil => cases h
        | cons kv r =>
          obtain ⟨k, v⟩ := kv
          unfold tabChk at h
          simp only [Bool.and_eq_true] at h
          rcases List.mem_cons.mp he' with rfl | he'
          · obtain ⟨⟨h1, _⟩, _⟩ := h
            split at h1
            · rename_i a' t hk
              simp only [Bool.and_eq_true, beq_iff_eq] at h1
              exact ⟨a', by rw [hk]; exact intKind_is W.prog W.w a' t, h1.2⟩
            · cases h1
          · exact ih h.2 he'
    · clear hl
      induction es generalizing l with
      | nil => cases l with
        | nil => exact .inl ⟨rfl, rfl⟩
        | cons _ _ => cases h
      | cons e0 es ih =>
        cases l with
        | nil => cases h
        | cons kv r =>
          obtain ⟨k, v⟩ := kv
          unfold tabChk at h
          simp only [Bool.and_eq_true] at h
          obtain ⟨⟨h1, h2⟩, h3⟩ := h
          split at h1
          · rename_i a' t hk
            simp only [Bool.and_eq_true, beq_iff_eq] at h1
            obtain ⟨rfl, _⟩ := h1
            have e1 : Value.isInt i e0.key = decide (a' = i) := by
              rw [hk]
              show (_ == _ : Bool) = _
              by_cases q : a' = i
              · subst q; simp
              · simp [q]
            unfold tvFind
            simp only [List.find?_cons, e1]
            by_cases q : a' = i
            · simp only [q, decide_true, if_true]
              exact .inr ⟨_, _, rfl, rfl, tvMatch_vr h2⟩
            · simp only [q, decide_false, if_false]
              exact ih h3
          · cases h1
  · cases h
end
end Mine
end
section
set_option tactic.hygienic false
set_option maxRecDepth 100000
open PySem PySem.W PyProof.Rows PySem.Calls
namespace Mine

noncomputable abbrev K0 (P : Params) : Frag := kz P

structure Setup (W : Wd) : Prop where
  hK : W.K = K0 W.w.params
  t0 : W.tabA 0 = 47
  t1 : W.tabA 1 = 55
  t2 : W.tabA 2 = 353
  sys : ∀ k, (W.tabA k == sysModules) = false
  tel : W.tel = 215
  bad : W.bad = 44

section
variable {W : Wd}
theorem Setup.ns (U : Setup W) {x : Str} {v : Option Value} (e : nsIn (K0 W.w.params) mainGlobals x = some v) : nsIn W.K mainGlobals x = some v := by rw [U.hK]; exact e
theorem Setup.keep (U : Setup W) {v : Value} (e : keepIn (K0 W.w.params) v = true) : keepIn W.K v = true := by rw [U.hK]; exact e
end

theorem LayOK.of {lay : List Str} {F : Fn} (L : Addr) (h1 : lay.Nodup) (h2 : callsN ∉ lay) (h3 : (lay.all fun x => F.scope.names.lookup x == some .local || F.scope.names.lookup x == some .cell) = true) : LayOK lay (F.env L) := by
  refine ⟨h1, h2, fun x hx => ?_⟩
  have := List.all_eq_true.mp h3 x hx
  simp only [Bool.or_eq_true, beq_iff_eq] at this
  rcases this with e | e
  · exact .inl e
  · exact .inr ⟨e, cellsFrom_some F.scope.names _ [] (.inl e)⟩

theorem chk_28 (P : Params) : fnChk (K0 P) 28 [selfN, codeN, atN] = true := by kernel_rfl
theorem bnd_28 (P : Params) : ∀ a b c, bindArgs (fdOf (K0 P) 28) ⟨[a, b, c], []⟩ = pure [(selfN, a), (codeN, b), (atN, c)] := by intro a b c; kernel_rfl
theorem chk_198 (P : Params) : fnChk (K0 P) 198 [selfN, callsN, retN] = true := by kernel_rfl
theorem bnd_198 (P : Params) : ∀ a b c, bindArgs (fdOf (K0 P) 198) ⟨[a, b, c], []⟩ = pure [(selfN, a), (callsN, b), (retN, c)] := by intro a b c; kernel_rfl

theorem b3 {fd : FuncData} {p q r : Str} (h : ∀ a b c, bindArgs fd ⟨[a, b, c], []⟩ = pure [(p, a), (q, b), (r, c)]) : ∀ vals : List Value, vals.length = [p, q, r].length → bindArgs fd ⟨vals, []⟩ = pure ([p, q, r].zip vals) :=
  fun vals hl => by
    obtain ⟨a, l, rfl⟩ := List.exists_cons_of_length_eq_add_one hl
    obtain ⟨b, l, rfl⟩ := List.exists_cons_of_length_eq_add_one (Nat.succ.inj hl)
    obtain ⟨c, rfl⟩ := List.length_eq_one_iff.mp (Nat.succ.inj (Nat.succ.inj hl))
    exact h a b c
theorem b1 {fd : FuncData} {p : Str} (h : ∀ a, bindArgs fd ⟨[a], []⟩ = pure [(p, a)]) : ∀ vals : List Value, vals.length = [p].length → bindArgs fd ⟨vals, []⟩ = pure ([p].zip vals) :=
  fun vals hl => by obtain ⟨a, rfl⟩ := List.length_eq_one_iff.mp hl; exact h a
theorem b2 {fd : FuncData} {p q : Str} (h : ∀ a b, bindArgs fd ⟨[a, b], []⟩ = pure [(p, a), (q, b)]) : ∀ vals : List Value, vals.length = [p, q].length → bindArgs fd ⟨vals, []⟩ = pure ([p, q].zip vals) :=
  fun vals hl => by
    obtain ⟨a, l, rfl⟩ := List.exists_cons_of_length_eq_add_one hl
    obtain ⟨b, rfl⟩ := List.length_eq_one_iff.mp (Nat.succ.inj hl)
    exact h a b
theorem b4 {fd : FuncData} {p q r t : Str} (h : ∀ a b c d, bindArgs fd ⟨[a, b, c, d], []⟩ = pure [(p, a), (q, b), (r, c), (t, d)]) : ∀ vals : List Value, vals.length = [p, q, r, t].length → bindArgs fd ⟨vals, []⟩ = pure ([p, q, r, t].zip vals) :=
  fun vals hl => by
    obtain ⟨a, l, rfl⟩ := List.exists_cons_of_length_eq_add_one hl
    obtain ⟨b, l, rfl⟩ := List.exists_cons_of_length_eq_add_one (Nat.succ.inj hl)
    obtain ⟨c, l, rfl⟩ := List.exists_cons_of_length_eq_add_one (Nat.succ.inj (Nat.succ.inj hl))
    obtain ⟨d, rfl⟩ := List.length_eq_one_iff.mp (Nat.succ.inj (Nat.succ.inj (Nat.succ.inj hl)))
    exact h a b c d

noncomputable abbrev fBad (P : Params) : Fn := fnAt (K0 P) 28 [selfN, codeN, atN]
noncomputable abbrev fTel (P : Params) : Fn := fnAt (K0 P) 198 [selfN, callsN, retN]

theorem noCells_of {names : List (Str × NameKind)} (h : (names.all fun x => !(x.2 == .cell)) = true) : ∀ L, cellsFrom L names [] = [] := by
  intro L
  have := cellsFrom_keys names L []
  have e : names.filter (fun x => x.2 == .cell) = [] := by
    rw [List.filter_eq_nil_iff]
    intro a ha
    have := List.all_eq_true.mp h a ha
    simpa using this
  rw [e] at this
  simpa using this

section
variable {W : Wd}
theorem bad_ok (U : Setup W) : Bad W (fBad W.w.params) where
  fn := fnOK_of U.hK (chk_28 _) (b3 (bnd_28 _))
  ps := rfl
  body := ⟨_, _, _, _, _, _, _, _, rfl⟩
  nocell := noCells_of (by kernel_rfl)
  kinds := ⟨by kernel_rfl, by kernel_rfl, by kernel_rfl⟩
  cls := by
    rw [U.hK, U.bad]
    exact ⟨_, _, _, _, 31, _, _, _, _, _, _, _, _, _, _, rfl⟩
  init := by rw [U.hK, U.bad]; kernel_rfl
  sa := by rw [U.hK, U.bad]; kernel_rfl
  c := by rw [U.hK, U.bad]; kernel_rfl
  a := by rw [U.hK, U.bad]; kernel_rfl
  sub := by rw [U.hK, U.bad]; kernel_rfl
  keep := by rw [U.hK, U.bad]; kernel_rfl
theorem bad_isf (U : Setup W) : typeIn W.K (.ref (fBad W.w.params).f) = some (.type "function") := by rw [U.hK]; kernel_rfl
theorem bad_match (U : Setup W) : exmOne W.K (.ref W.bad) (.ref W.bad) = some true := by rw [U.hK, U.bad]; kernel_rfl

theorem tel_ok (U : Setup W) : Tel W (fTel W.w.params) where
  fn := fnOK_of U.hK (chk_198 _) (b3 (bnd_198 _))
  ps := rfl
  body := ⟨_, _, _, _, _, _, _, _, rfl⟩
  nocell := noCells_of (by kernel_rfl)
  kinds := ⟨by kernel_rfl, by kernel_rfl, by kernel_rfl⟩
  makes := by rw [U.hK, U.tel]; kernel_rfl
  init := by rw [U.hK, U.tel]; kernel_rfl
  isf := by rw [U.hK]; kernel_rfl
  sa := by rw [U.hK, U.tel]; kernel_rfl
  over := by rw [U.hK, U.tel]; kernel_rfl
  hd := by rw [U.hK, U.tel]; kernel_rfl
  tc := by rw [U.hK, U.tel]; kernel_rfl
  tr := by rw [U.hK, U.tel]; kernel_rfl
  fc := by rw [U.hK, U.tel]; kernel_rfl
  fr := by rw [U.hK, U.tel]; kernel_rfl
  pg := fun x => by rw [U.hK, U.tel]; kernel_rfl
  keep := by rw [U.hK, U.tel]; kernel_rfl
end
end Mine
end
section
set_option tactic.hygienic false
open PySem PySem.W PyProof.Rows PySem.Calls
namespace Mine
/-! printed by gentab.py -/
noncomputable def sortL : List (Int × TV) := [(0, .i 0), (20, .i 0), (32, .i 1), (33, .i 2), (37, .i 0), (38, .i 0), (40, .i 9), (42, .i 0), (56, .i 5), (57, .i 5), (58, .i 5), (59, .i 5), (60, .i 5), (61, .i 5), (62, .i 5), (63, .i 5), (64, .i 5), (65, .i 5), (66, .i 5), (67, .i 5), (68, .i 5), (69, .i 6), (70, .i 0), (71, .i 0), (72, .i 0), (73, .i 0), (74, .i 0), (75, .i 0), (76, .i 0), (77, .i 0), (80, .i 0), (81, .i 0), (82, .i 0), (83, .i 0), (84, .i 0), (85, .i 0), (88, .i 0), (89, .i 0), (90, .i 0), (91, .i 0), (92, .i 0), (93, .i 0), (94, .i 0), (95, .i 0), (96, .i 0), (97, .i 0), (98, .i 0), (99, .i 0), (100, .i 0), (101, .i 0), (102, .i 0), (103, .i 0), (104, .i 0), (105, .i 0), (106, .i 0), (109, .i 0), (110, .i 0), (111, .i 9), (113, .i 7), (114, .i 10), (115, .i 9), (116, .i 7), (117, .i 7), (121, .i 7), (122, .i 0), (123, .i 8), (124, .i 8), (125, .i 8), (126, .i 8), (127, .i 8), (128, .i 8), (129, .i 7), (130, .i 0), (131, .i 0), (132, .i 0), (133, .i 0), (134, .i 0), (135, .i 0), (136, .i 0), (137, .i 0), (140, .i 7), (141, .i 7), (142, .i 0), (143, .i 7), (163, .i 7), (164, .i 7), (165, .i 7), (179, .i 0), (180, .i 0), (181, .i 0), (182, .i 0), (183, .i 0), (184, .i 0), (185, .i 0), (186, .i 0), (208, .i 11), (209, .i 0), (210, .i 0), (211, .i 0), (214, .i 0), (215, .i 0), (216, .i 0), (217, .i 0), (218, .i 0), (219, .i 0), (220, .i 0), (221, .i 5), (223, .i 0), (65025, .i 0), (65026, .i 0), (65027, .i 0), (65028, .i 0), (65029, .i 0), (65030, .i 9), (65031, .i 9), (65033, .i 3), (65034, .i 3), (65035, .i 3), (65036, .i 4), (65037, .i 4), (65038, .i 4), (65041, .i 0), (65045, .i 7), (65046, .i 7), (65050, .i 0), (65054, .i 0)]
noncomputable def stackL : List (Int × TV) := [(0, .p 0 0), (20, .p 0 1), (32, .p 0 1), (33, .p 0 1), (37, .p 1 2), (38, .p 1 0), (56, .p 0 0), (57, .p 1 0), (58, .p 1 0), (59, .p 2 0), (60, .p 2 0), (61, .p 2 0), (62, .p 2 0), (63, .p 2 0), (64, .p 2 0), (65, .p 2 0), (66, .p 2 0), (67, .p 2 0), (68, .p 2 0), (69, .p 1 0), (70, .p 1 1), (71, .p 1 1), (72, .p 1 1), (73, .p 1 1), (74, .p 1 1), (75, .p 1 1), (76, .p 1 1), (77, .p 1 1), (80, .p 1 1), (81, .p 2 0), (82, .p 2 0), (83, .p 2 0), (84, .p 2 0), (85, .p 2 0), (88, .p 2 1), (89, .p 2 1), (90, .p 2 1), (91, .p 2 1), (92, .p 2 1), (93, .p 2 1), (94, .p 2 1), (95, .p 2 1), (96, .p 2 1), (97, .p 2 1), (98, .p 2 1), (99, .p 2 1), (100, .p 2 1), (101, .p 1 1), (102, .p 1 1), (103, .p 1 1), (104, .p 1 1), (105, .p 1 1), (106, .p 1 1), (109, .p 1 1), (110, .p 1 1), (113, .p 1 1), (114, .p 0 1), (116, .p 1 1), (117, .p 1 1), (121, .p 1 1), (122, .p 1 0), (123, .p 1 1), (124, .p 1 1), (125, .p 2 0), (126, .p 0 1), (127, .p 0 1), (128, .p 1 0), (129, .p 2 0), (130, .p 1 1), (131, .p 1 1), (132, .p 1 1), (133, .p 1 1), (134, .p 1 1), (135, .p 1 1), (136, .p 1 1), (137, .p 1 1), (140, .p 1 1), (141, .p 1 1), (142, .p 1 1), (143, .p 2 1), (163, .p 2 1), (164, .p 3 0), (165, .p 1 1), (179, .p 1 1), (180, .p 1 1), (181, .p 1 1), (182, .p 1 1), (183, .p 1 1), (184, .p 1 1), (185, .p 1 1), (186, .p 1 1), (208, .p 0 1), (209, .p 1 1), (210, .p 1 1), (211, .p 1 1), (214, .p 2 1), (215, .p 2 1), (216, .p 2 1), (217, .p 2 1), (218, .p 2 1), (219, .p 2 1), (220, .p 0 0), (221, .p 0 0), (223, .p 2 0), (65025, .p 2 1), (65026, .p 2 1), (65027, .p 2 1), (65028, .p 2 1), (65029, .p 2 1), (65030, .p 0 1), (65031, .p 1 1), (65033, .p 0 1), (65034, .p 0 1), (65035, .p 1 0), (65036, .p 0 1), (65037, .p 0 1), (65038, .p 1 0), (65041, .p 1 0), (65045, .p 1 0), (65046, .p 0 0), (65050, .p 0 0), (65054, .p 0 0)]
noncomputable def callsL : List (Int × TV) := [(1, .p 0 0), (2, .p 1 1), (3, .p 2 1), (4, .p 1 0), (5, .p 3 0), (6, .p 0 1)]
noncomputable def tv : Nat → Int → Option V
  | 0 => tvFind sortL
  | 1 => tvFind stackL
  | _ => tvFind callsL
noncomputable def rowsL : List (Int × Int × Int × Int) := [(0, 1, 0, 0), (20, 1, 0, 1), (32, 2, 0, 1), (37, 1, 1, 2), (38, 1, 1, 0), (70, 8, 1, 1), (80, 1, 1, 1), (81, 5, 2, 0), (88, 13, 2, 1), (101, 6, 1, 1), (109, 2, 1, 1), (113, 1, 1, 1), (114, 1, 0, 1), (116, 2, 1, 1), (121, 1, 1, 1), (123, 2, 1, 1), (125, 1, 2, 0), (126, 2, 0, 1), (128, 1, 1, 0), (129, 1, 2, 0), (130, 8, 1, 1), (140, 3, 1, 1), (143, 1, 2, 1), (163, 1, 2, 1), (164, 1, 3, 0), (165, 1, 1, 1), (179, 8, 1, 1), (208, 1, 0, 1), (209, 3, 1, 1), (214, 6, 2, 1), (223, 1, 2, 0), (65025, 5, 2, 1), (65030, 1, 0, 1), (65031, 1, 1, 1), (65033, 2, 0, 1), (65035, 1, 1, 0), (65036, 2, 0, 1), (65038, 1, 1, 0), (65045, 1, 1, 0), (65046, 1, 0, 0), (65054, 1, 0, 0)]
noncomputable def vSTACK : V := .tup (rowsL.map fun r => .tup [.int r.1, .int r.2.1, .int r.2.2.1, .int r.2.2.2])
noncomputable def endsL : List Int := [42, 122, 220, 65041, 65050, 221, 56]
noncomputable def vENDS : V := .tup (endsL.map V.int)
noncomputable def tSeq (a : DS) (d : St → Option Bool) : St → Option Bool := fun st => match a st with
  | .ok .next st' => d st'
  | _ => none
end Mine
end
section
set_option tactic.hygienic false
set_option maxRecDepth 100000
open PySem PySem.W PyProof.Rows PySem.Calls
namespace Mine
/-! printed by gen.py -/

/-- PlainTeller.call_counts: 0 self, 1 mref -/
noncomputable def D_tel_call_counts : DS :=
  sSeq (sIf (dThen (dThen2 (dThen2 (dLoc 1) (dInt 1) (oItem tv)) (dThen (dLoc 0) oCalls) (oNotIn tv)) oBoolV)
    (sSeq (sRaise (dThen2 (dLoc 1) (dInt 1) (oItem tv))) <|
    sNil)
    (sNil)) <|
  sSeq (sReturn (dThen2 (dThen (dLoc 0) oCalls) (dThen2 (dLoc 1) (dInt 1) (oItem tv)) (oItem tv))) <|
  sNil
noncomputable def R_tel_call_counts : List V → Sto → R V := runFn 2 D_tel_call_counts

/-- PlainTeller.ret_count: 0 self -/
noncomputable def D_tel_ret_count : DS :=
  sSeq (sReturn (dThen (dLoc 0) oRet)) <|
  sNil
noncomputable def R_tel_ret_count : List V → Sto → R V := runFn 1 D_tel_ret_count

/-- op_sort: 0 op -/
noncomputable def D_op_sort : DS :=
  sSeq (sReturn (dThen (dCons (dLoc 0) (dCons (dThen (dInt 1) oNeg) dNil)) fun xs σ => oGet tv (.tab 0 :: xs) σ)) <|
  sNil
noncomputable def R_op_sort : List V → Sto → R V := runFn 1 D_op_sort

/-- ends_flow: 0 op -/
noncomputable def D_ends_flow : DS :=
  sSeq (sIf (dOr (dThen (dThen2 (dLoc 0) (dVal (.int 56)) oEq) oBoolV) (dOr (dThen (dThen2 (dLoc 0) (dVal (.int 42)) oEq) oBoolV) (dOr (dThen (dThen2 (dLoc 0) (dVal (.int 122)) oEq) oBoolV) (dOr (dThen (dThen2 (dLoc 0) (dVal (.int 221)) oEq) oBoolV) dFalse))))
    (sSeq (sReturn (dBool true)) <|
    sNil)
    (sNil)) <|
  sSeq (sReturn (dOrV (dThen2 (dLoc 0) (dVal (.int 65050)) oEq) (dOrV (dThen2 (dLoc 0) (dVal (.int 220)) oEq) (dThen2 (dLoc 0) (dVal (.int 65041)) oEq)))) <|
  sNil
noncomputable def R_ends_flow : List V → Sto → R V := runFn 1 D_ends_flow

/-- is_branch: 0 op -/
noncomputable def D_is_branch : DS :=
  sSeq (sReturn (dThen2 (dThen (dCons (dLoc 0) (dCons (dThen (dInt 1) oNeg) dNil)) fun xs σ => oGet tv (.tab 0 :: xs) σ) (dVal (.int 5)) oEq)) <|
  sNil
noncomputable def R_is_branch : List V → Sto → R V := runFn 1 D_is_branch

/-- targets: 0 ins -/
noncomputable def D_targets : DS :=
  sSeq (sIf (dThen (dThen2 (dThen2 (dLoc 0) (dInt 0) (oItem tv)) (dVal (.int 69)) oEq) oBoolV)
    (sSeq (sReturn (dThen2 (dLoc 0) (dInt 1) (oItem tv))) <|
    sNil)
    (sNil)) <|
  sSeq (sIf (dThen (dThen (dCons (dThen2 (dLoc 0) (dInt 0) (oItem tv)) dNil) R_is_branch) oTruth)
    (sSeq (sReturn (dThen (dCons (dThen2 (dLoc 0) (dInt 1) (oItem tv)) dNil) oTup)) <|
    sNil)
    (sNil)) <|
  sSeq (sReturn (dThen dNil oTup)) <|
  sNil
noncomputable def R_targets : List V → Sto → R V := runFn 1 D_targets

/-- prefix_goal: 0 op -/
noncomputable def D_prefix_goal : DS :=
  sSeq (sIf (dThen (dThen2 (dLoc 0) (dVal (.int 65046)) oEq) oBoolV)
    (sSeq (sReturn (dVal (.int 111))) <|
    sNil)
    (sNil)) <|
  sSeq (sIf (dThen (dThen2 (dLoc 0) (dVal (.int 65054)) oEq) oBoolV)
    (sSeq (sReturn (dVal (.int 143))) <|
    sNil)
    (sNil)) <|
  sSeq (sReturn (dThen (dInt 1) oNeg)) <|
  sNil
noncomputable def R_prefix_goal : List V → Sto → R V := runFn 1 D_prefix_goal

/-- pops_pushes: 0 ins, 1 teller, 2 op, 3 taken -/
noncomputable def D_pops_pushes : DS :=
  sSeq (sAssign 2 (dThen2 (dLoc 0) (dInt 0) (oItem tv))) <|
  sSeq (sIf (dThen (dThen2 (dLoc 2) (dVal (.tab 1)) (oIn tv)) oBoolV)
    (sSeq (sReturn (dThen2 (dVal (.tab 1)) (dLoc 2) (oItem tv))) <|
    sNil)
    (sNil)) <|
  sSeq (sIf (dThen (dThen2 (dLoc 2) (dVal (.int 42)) oEq) oBoolV)
    (sSeq (sReturn (dThen (dCons (dTelM (dLoc 1) dNil R_tel_ret_count) (dCons (dInt 0) dNil)) oTup)) <|
    sNil)
    (sNil)) <|
  sSeq (sIf (dOr (dThen (dThen2 (dLoc 2) (dVal (.int 40)) oEq) oBoolV) (dOr (dThen (dThen2 (dLoc 2) (dVal (.int 111)) oEq) oBoolV) dFalse))
    (sSeq (sIf (dThen (dThen2 (dThen2 (dThen2 (dLoc 0) (dInt 1) (oItem tv)) (dInt 1) (oItem tv)) (dInt 0) oEq) oBoolV)
      (sSeq (sRaise (dInt 0)) <|
      sNil)
      (sNil)) <|
    sSeq (sReturn (dTelM (dLoc 1) (dCons (dThen2 (dLoc 0) (dInt 1) (oItem tv)) dNil) R_tel_call_counts)) <|
    sNil)
    (sNil)) <|
  sSeq (sIf (dThen (dThen2 (dLoc 2) (dVal (.int 115)) oEq) oBoolV)
    (sSeq (sIf (dThen (dThen2 (dThen2 (dThen2 (dLoc 0) (dInt 1) (oItem tv)) (dInt 1) (oItem tv)) (dInt 0) oEq) oBoolV)
      (sSeq (sReturn (dThen (dCons (dInt 0) (dCons (dInt 1) dNil)) oTup)) <|
      sNil)
      (sNil)) <|
    sSeq (sAssign 3 (dThen2 (dTelM (dLoc 1) (dCons (dThen2 (dLoc 0) (dInt 1) (oItem tv)) dNil) R_tel_call_counts) (dInt 0) (oItem tv))) <|
    sSeq (sIf (dThen (dThen2 (dLoc 3) (dInt 1) (oIntCmp fun a b => decide (a < b))) oBoolV)
      (sSeq (sRaise (dThen2 (dThen2 (dLoc 0) (dInt 1) (oItem tv)) (dInt 1) (oItem tv))) <|
      sNil)
      (sNil)) <|
    sSeq (sReturn (dThen (dCons (dThen2 (dLoc 3) (dInt 1) oSub) (dCons (dInt 1) dNil)) oTup)) <|
    sNil)
    (sNil)) <|
  sSeq (sRaise (dLoc 2)) <|
  sNil
noncomputable def R_pops_pushes : List V → Sto → R V := runFn 2 D_pops_pushes

/-- clause_edges: 0 clause -/
noncomputable def D_clause_edges : DS :=
  sSeq (sIf (dThen (dThen2 (dThen2 (dLoc 0) (dInt 0) (oItem tv)) (dVal (.int 1)) oEq) oBoolV)
    (sSeq (sReturn (dThen (dCons (dThen2 (dLoc 0) (dInt 1) (oItem tv)) (dCons (dThen2 (dLoc 0) (dInt 2) (oItem tv)) (dCons (dThen2 (dLoc 0) (dInt 3) (oItem tv)) (dCons (dThen2 (dLoc 0) (dInt 4) (oItem tv)) (dCons (dThen2 (dLoc 0) (dInt 5) (oItem tv)) dNil))))) oTup)) <|
    sNil)
    (sNil)) <|
  sSeq (sReturn (dThen (dCons (dThen2 (dLoc 0) (dInt 1) (oItem tv)) (dCons (dThen2 (dLoc 0) (dInt 2) (oItem tv)) (dCons (dThen2 (dLoc 0) (dInt 3) (oItem tv)) (dCons (dThen2 (dLoc 0) (dInt 4) (oItem tv)) dNil)))) oTup)) <|
  sNil
noncomputable def R_clause_edges : List V → Sto → R V := runFn 1 D_clause_edges

/-- check_edges: 0 code, 1 clauses, 2 count, 3 at, 4 clause, 5 edge -/
noncomputable def D_check_edges : DS :=
  sSeq (sAssign 2 (dThen (dCons (dLoc 0) dNil) oLen)) <|
  sSeq (sFor (dThen (dCons (dThen (dCons (dLoc 1) dNil) oLen) dNil) oRange) (.one 3)
    (sSeq (sAssign 4 (dThen2 (dLoc 1) (dLoc 3) (oItem tv))) <|
    sSeq (sIf (dOr (dThen (dThen2 (dThen2 (dLoc 4) (dInt 1) (oItem tv)) (dLoc 2) (oIntCmp fun a b => decide (b ≤ a))) oBoolV) (dOr (dThen (dThen2 (dThen2 (dLoc 4) (dInt 3) (oItem tv)) (dLoc 2) (oIntCmp fun a b => decide (b ≤ a))) oBoolV) (dOr (dAnd (dThen (dThen2 (dThen2 (dLoc 4) (dInt 0) (oItem tv)) (dVal (.int 1)) oEq) oBoolV) (dAnd (dThen (dThen2 (dThen2 (dLoc 4) (dInt 5) (oItem tv)) (dLoc 2) (oIntCmp fun a b => decide (b ≤ a))) oBoolV) dTrue)) dFalse)))
      (sSeq (sRaise (dLoc 3)) <|
      sNil)
      (sNil)) <|
    sSeq (sFor (dThen (dCons (dLoc 4) dNil) R_clause_edges) (.one 5)
      (sSeq (sIf (dOr (dThen (dThen2 (dLoc 5) (dInt 0) (oIntCmp fun a b => decide (a < b))) oBoolV) (dOr (dThen (dThen2 (dLoc 5) (dLoc 2) (oIntCmp fun a b => decide (b < a))) oBoolV) (dOr (dAnd (dThen (dThen2 (dLoc 5) (dInt 0) (oIntCmp fun a b => decide (b < a))) oBoolV) (dAnd (dThen (dThen2 (dThen (dCons (dThen2 (dThen2 (dLoc 0) (dThen2 (dLoc 5) (dInt 1) oSub) (oItem tv)) (dInt 0) (oItem tv)) dNil) R_prefix_goal) (dInt 0) (oIntCmp fun a b => decide (b ≤ a))) oBoolV) dTrue)) dFalse)))
        (sSeq (sRaise (dLoc 3)) <|
        sNil)
        (sNil)) <|
      sNil)) <|
    sNil)) <|
  sNil
noncomputable def R_check_edges : List V → Sto → R V := runFn 2 D_check_edges

/-- successors: 0 code, 1 i, 2 count, 3 out, 4 goal -/
noncomputable def D_successors : DS :=
  sSeq (sAssign 2 (dThen (dCons (dLoc 0) dNil) oLen)) <|
  sSeq (sAssign 3 (dThen dNil oLst)) <|
  sSeq (sIf (dAnd (dNot (dThen (dThen (dCons (dThen2 (dThen2 (dLoc 0) (dLoc 1) (oItem tv)) (dInt 0) (oItem tv)) dNil) R_ends_flow) oTruth)) (dAnd (dThen (dThen2 (dThen2 (dLoc 1) (dInt 1) oAdd) (dLoc 2) (oIntCmp fun a b => decide (a < b))) oBoolV) dTrue))
    (sSeq (sExpr (dMeth (dLoc 3) (dCons (dThen2 (dLoc 1) (dInt 1) oAdd) dNil) oAppend)) <|
    sNil)
    (sNil)) <|
  sSeq (sFor (dThen (dCons (dThen2 (dLoc 0) (dLoc 1) (oItem tv)) dNil) R_targets) (.one 4)
    (sSeq (sIf (dOr (dThen (dThen2 (dLoc 4) (dInt 0) (oIntCmp fun a b => decide (a < b))) oBoolV) (dOr (dThen (dThen2 (dLoc 4) (dLoc 2) (oIntCmp fun a b => decide (b ≤ a))) oBoolV) dFalse))
      (sSeq (sRaise (dLoc 1)) <|
      sNil)
      (sNil)) <|
    sSeq (sIf (dThen (dThen2 (dLoc 4) (dLoc 3) (oNotIn tv)) oBoolV)
      (sSeq (sExpr (dMeth (dLoc 3) (dCons (dLoc 4) dNil) oAppend)) <|
      sNil)
      (sNil)) <|
    sNil)) <|
  sSeq (sReturn (dThen (dCons (dLoc 3) dNil) oTuple)) <|
  sNil
noncomputable def R_successors : List V → Sto → R V := runFn 2 D_successors

/-- enter_depth: 0 depths, 1 work, 2 i, 3 depth -/
noncomputable def D_enter_depth : DS :=
  sSeq (sIf (dOr (dThen (dThen2 (dLoc 2) (dInt 0) (oIntCmp fun a b => decide (a < b))) oBoolV) (dOr (dThen (dThen2 (dLoc 2) (dThen (dCons (dLoc 0) dNil) oLen) (oIntCmp fun a b => decide (b ≤ a))) oBoolV) dFalse))
    (sSeq (sRaise (dLoc 2)) <|
    sNil)
    (sNil)) <|
  sSeq (sIf (dThen (dThen2 (dThen2 (dLoc 0) (dLoc 2) (oItem tv)) (dInt 0) (oIntCmp fun a b => decide (a < b))) oBoolV)
    (sSeq (sSetItem (dLoc 3) (dLoc 0) (dLoc 2)) <|
    sSeq (sExpr (dMeth (dLoc 1) (dCons (dLoc 2) dNil) oAppend)) <|
    sNil)
    (sSeq (sIf (dThen (dThen2 (dThen2 (dLoc 0) (dLoc 2) (oItem tv)) (dLoc 3) (oIntCmp (· != ·))) oBoolV)
      (sSeq (sRaise (dLoc 2)) <|
      sNil)
      (sNil)) <|
    sNil)) <|
  sNil
noncomputable def R_enter_depth : List V → Sto → R V := runFn 4 D_enter_depth

/-- start_depths: 0 code, 1 clauses, 2 depths, 3 work, 4 clause, 5 depth -/
noncomputable def D_start_depths : DS :=
  sSeq (sIf (dThen (dThen2 (dThen (dCons (dLoc 0) dNil) oLen) (dInt 0) (oIntCmp fun a b => decide (b < a))) oBoolV)
    (sSeq (sExpr (dThen (dCons (dLoc 2) (dCons (dLoc 3) (dCons (dInt 0) (dCons (dInt 0) dNil)))) R_enter_depth)) <|
    sNil)
    (sNil)) <|
  sSeq (sFor (dLoc 1) (.one 4)
    (sSeq (sAssign 5 (dInt 0)) <|
    sSeq (sIf (dOr (dThen (dThen2 (dThen2 (dLoc 4) (dInt 0) (oItem tv)) (dVal (.int 0)) oEq) oBoolV) (dOr (dThen (dThen2 (dThen2 (dLoc 4) (dInt 0) (oItem tv)) (dVal (.int 1)) oEq) oBoolV) dFalse))
      (sSeq (sAssign 5 (dInt 1)) <|
      sNil)
      (sNil)) <|
    sSeq (sExpr (dThen (dCons (dLoc 2) (dCons (dLoc 3) (dCons (dThen2 (dLoc 4) (dInt 3) (oItem tv)) (dCons (dLoc 5) dNil)))) R_enter_depth)) <|
    sSeq (sIf (dThen (dThen2 (dThen2 (dLoc 4) (dInt 0) (oItem tv)) (dVal (.int 1)) oEq) oBoolV)
      (sSeq (sExpr (dThen (dCons (dLoc 2) (dCons (dLoc 3) (dCons (dThen2 (dLoc 4) (dInt 5) (oItem tv)) (dCons (dInt 1) dNil)))) R_enter_depth)) <|
      sNil)
      (sNil)) <|
    sNil)) <|
  sNil
noncomputable def R_start_depths : List V → Sto → R V := runFn 4 D_start_depths

/-- depth_after: 0 code, 1 i, 2 depth, 3 teller, 4 taken, 5 given -/
noncomputable def D_depth_after : DS :=
  sSeq (sIf (dThen (dThen2 (dThen (dCons (dThen2 (dThen2 (dLoc 0) (dLoc 1) (oItem tv)) (dInt 0) (oItem tv)) dNil) R_op_sort) (dInt 0) (oIntCmp fun a b => decide (a < b))) oBoolV)
    (sSeq (sRaise (dLoc 1)) <|
    sNil)
    (sNil)) <|
  sSeq (sUnpack [4, 5] (dThen (dCons (dThen2 (dLoc 0) (dLoc 1) (oItem tv)) (dCons (dLoc 3) dNil)) R_pops_pushes)) <|
  sSeq (sIf (dThen (dThen2 (dLoc 4) (dLoc 2) (oIntCmp fun a b => decide (b < a))) oBoolV)
    (sSeq (sRaise (dLoc 1)) <|
    sNil)
    (sNil)) <|
  sSeq (sIf (dThen (dThen2 (dThen2 (dThen2 (dLoc 0) (dLoc 1) (oItem tv)) (dInt 0) (oItem tv)) (dVal (.int 221)) oEq) oBoolV)
    (sSeq (sReturn (dInt 0)) <|
    sNil)
    (sNil)) <|
  sSeq (sReturn (dThen2 (dThen2 (dLoc 2) (dLoc 4) oSub) (dLoc 5) oAdd)) <|
  sNil
noncomputable def R_depth_after : List V → Sto → R V := runFn 4 D_depth_after

/-- max_stack: 0 code, 1 clauses, 2 teller, 3 depths, 4 work, 5 most, 6 i, 7 after, 8 goal -/
noncomputable def D_max_stack : DS :=
  sSeq (sExpr (dThen (dCons (dLoc 0) (dCons (dLoc 1) dNil)) R_check_edges)) <|
  sSeq (sAssign 3 (dThen2 (dThen (dCons (dThen (dInt 1) oNeg) dNil) oLst) (dThen (dCons (dLoc 0) dNil) oLen) oMul)) <|
  sSeq (sAssign 4 (dThen dNil oLst)) <|
  sSeq (sExpr (dThen (dCons (dLoc 0) (dCons (dLoc 1) (dCons (dLoc 3) (dCons (dLoc 4) dNil)))) R_start_depths)) <|
  sSeq (sAssign 5 (dInt 0)) <|
  sSeq (sWhile 100 (dThen (dThen2 (dThen (dCons (dLoc 4) dNil) oLen) (dInt 0) (oIntCmp fun a b => decide (b < a))) oBoolV)
    (sSeq (sAssign 6 (dMeth (dLoc 4) dNil oPop)) <|
    sSeq (sAssign 7 (dThen (dCons (dLoc 0) (dCons (dLoc 6) (dCons (dThen2 (dLoc 3) (dLoc 6) (oItem tv)) (dCons (dLoc 2) dNil)))) R_depth_after)) <|
    sSeq (sIf (dThen (dThen2 (dThen2 (dLoc 3) (dLoc 6) (oItem tv)) (dLoc 5) (oIntCmp fun a b => decide (b < a))) oBoolV)
      (sSeq (sAssign 5 (dThen2 (dLoc 3) (dLoc 6) (oItem tv))) <|
      sNil)
      (sNil)) <|
    sSeq (sIf (dThen (dThen2 (dLoc 7) (dLoc 5) (oIntCmp fun a b => decide (b < a))) oBoolV)
      (sSeq (sAssign 5 (dLoc 7)) <|
      sNil)
      (sNil)) <|
    sSeq (sFor (dThen (dCons (dLoc 0) (dCons (dLoc 6) dNil)) R_successors) (.one 8)
      (sSeq (sExpr (dThen (dCons (dLoc 3) (dCons (dLoc 4) (dCons (dLoc 8) (dCons (dLoc 7) dNil)))) R_enter_depth)) <|
      sNil)) <|
    sNil)) <|
  sSeq (sReturn (dLoc 5)) <|
  sNil
noncomputable def R_max_stack : List V → Sto → R V := runFn 3 D_max_stack

/-- _law_call: 0 op, 1 mid, 2 taken, 3 given -/
noncomputable def D__law_call : DS :=
  sSeq (sIf (dAnd (dThen (dThen2 (dLoc 0) (dInt 115) oEq) oBoolV) (dAnd (dThen (dThen2 (dLoc 1) (dInt 0) oEq) oBoolV) dTrue))
    (sSeq (sReturn (dThen (dCons (dInt 0) (dCons (dInt 1) dNil)) oTup)) <|
    sNil)
    (sNil)) <|
  sSeq (sIf (dThen (dThen2 (dLoc 1) (dVal (.tab 2)) (oNotIn tv)) oBoolV)
    (sSeq (sReturn dNone) <|
    sNil)
    (sNil)) <|
  sSeq (sUnpack [2, 3] (dThen2 (dVal (.tab 2)) (dLoc 1) (oItem tv))) <|
  sSeq (sIf (dThen (dThen2 (dLoc 0) (dInt 115) (oIntCmp (· != ·))) oBoolV)
    (sSeq (sReturn (dThen (dCons (dLoc 2) (dCons (dLoc 3) dNil)) oTup)) <|
    sNil)
    (sNil)) <|
  sSeq (sReturn (dIf (dThen (dLoc 2) oTruth) (dThen (dCons (dThen2 (dLoc 2) (dInt 1) oSub) (dCons (dInt 1) dNil)) oTup) dNone)) <|
  sNil
noncomputable def R__law_call : List V → Sto → R V := runFn 2 D__law_call

/-- _law_row: 0 v, 1 ret, 2 k, 3 t, 4 first, 5 count, 6 taken, 7 given, 8 op -/
noncomputable def D__law_row : DS :=
  sSeq (sAssign 2 (dThen2 (dLoc 0) (dInt 8) oMod)) <|
  sSeq (sAssign 3 (dThen2 (dLoc 0) (dInt 8) oDiv)) <|
  sSeq (sIf (dThen (dThen2 (dLoc 2) (dInt 3) (oIntCmp fun a b => decide (a < b))) oBoolV)
    (sSeq (sUnpack [4, 5, 6, 7] (dThen2 (dVal vSTACK) (dThen2 (dLoc 3) (dInt 41) oMod) (oItem tv))) <|
    sSeq (sReturn (dThen (dCons (dThen (dCons (dThen2 (dLoc 4) (dThen2 (dThen2 (dLoc 3) (dInt 41) oDiv) (dLoc 5) oMod) oAdd) (dCons (dInt 0) dNil)) oTup) (dCons (dThen (dCons (dLoc 6) (dCons (dLoc 7) dNil)) oTup) dNil)) oTup)) <|
    sNil)
    (sNil)) <|
  sSeq (sIf (dThen (dThen2 (dLoc 2) (dInt 3) oEq) oBoolV)
    (sSeq (sReturn (dThen (dCons (dThen (dCons (dInt 32) (dCons (dThen2 (dLoc 3) (dInt 9) oMod) dNil)) oTup) (dCons (dThen (dCons (dInt 0) (dCons (dInt 1) dNil)) oTup) dNil)) oTup)) <|
    sNil)
    (sNil)) <|
  sSeq (sIf (dThen (dThen2 (dLoc 2) (dInt 4) oEq) oBoolV)
    (sSeq (sAssign 8 (dThen2 (dInt 56) (dThen2 (dLoc 3) (dInt 14) oMod) oAdd)) <|
    sSeq (sIf (dThen (dThen2 (dLoc 8) (dInt 69) oEq) oBoolV)
      (sSeq (sReturn (dThen (dCons (dThen (dCons (dInt 221) (dCons (dThen2 (dLoc 3) (dInt 14) oDiv) dNil)) oTup) (dCons (dThen (dCons (dInt 0) (dCons (dInt 0) dNil)) oTup) dNil)) oTup)) <|
      sNil)
      (sNil)) <|
    sSeq (sReturn (dThen (dCons (dThen (dCons (dLoc 8) (dCons (dThen2 (dLoc 3) (dInt 14) oDiv) dNil)) oTup) (dCons (dThen (dCons (dIf (dThen (dThen2 (dLoc 8) (dInt 56) oEq) oBoolV) (dInt 0) (dIf (dThen (dThen2 (dLoc 8) (dInt 59) (oIntCmp fun a b => decide (a < b))) oBoolV) (dInt 1) (dInt 2))) (dCons (dInt 0) dNil)) oTup) dNil)) oTup)) <|
    sNil)
    (sNil)) <|
  sSeq (sIf (dThen (dThen2 (dLoc 2) (dInt 5) oEq) oBoolV)
    (sSeq (sReturn (dThen (dCons (dThen (dCons (dInt 69) (dCons (dThen (dCons (dComp (dThen (dCons (dThen2 (dLoc 3) (dInt 4) oMod) dNil) oRange) [3] dT (dThen2 (dThen2 (dLoc 1) (dInt 4) oDiv) (dLoc 0) oAdd)) dNil) oTuple) dNil)) oTup) (dCons (dThen (dCons (dInt 1) (dCons (dInt 0) dNil)) oTup) dNil)) oTup)) <|
    sNil)
    (sNil)) <|
  sSeq (sIf (dThen (dThen2 (dLoc 2) (dInt 6) oEq) oBoolV)
    (sSeq (sAssign 8 (dThen2 (dThen (dCons (dInt 40) (dCons (dInt 111) (dCons (dInt 115) dNil))) oTup) (dThen2 (dLoc 3) (dInt 3) oMod) (oItem tv))) <|
    sSeq (sReturn (dThen (dCons (dThen (dCons (dLoc 8) (dCons (dThen (dCons (dInt 7) (dCons (dThen2 (dThen2 (dLoc 3) (dInt 3) oDiv) (dInt 8) oMod) (dCons (dThen dNil oTup) dNil))) oTup) dNil)) oTup) (dCons (dThen (dCons (dLoc 8) (dCons (dThen2 (dThen2 (dLoc 3) (dInt 3) oDiv) (dInt 8) oMod) dNil)) R__law_call) dNil)) oTup)) <|
    sNil)
    (sNil)) <|
  sSeq (sIf (dThen (dThen2 (dThen2 (dLoc 3) (dInt 7) oMod) (dInt 0) oEq) oBoolV)
    (sSeq (sReturn (dThen (dCons (dThen (dCons (dInt 42) (dCons (dInt 0) dNil)) oTup) (dCons (dThen (dCons (dLoc 1) (dCons (dInt 0) dNil)) oTup) dNil)) oTup)) <|
    sNil)
    (sNil)) <|
  sSeq (sIf (dThen (dThen2 (dThen2 (dLoc 3) (dInt 7) oMod) (dInt 6) oEq) oBoolV)
    (sSeq (sReturn (dThen (dCons (dThen (dCons (dInt 36) (dCons (dInt 0) dNil)) oTup) (dCons dNone dNil)) oTup)) <|
    sNil)
    (sNil)) <|
  sSeq (sReturn (dThen (dCons (dThen (dCons (dThen2 (dThen (dCons (dInt 122) (dCons (dInt 220) (dCons (dInt 65041) (dCons (dInt 65050) (dCons (dInt 42) dNil))))) oTup) (dThen2 (dThen2 (dLoc 3) (dInt 7) oMod) (dInt 1) oSub) (oItem tv)) (dCons (dInt 0) dNil)) oTup) (dCons (dThen2 (dThen (dCons (dThen (dCons (dInt 1) (dCons (dInt 0) dNil)) oTup) (dCons (dThen (dCons (dInt 0) (dCons (dInt 0) dNil)) oTup) (dCons (dThen (dCons (dInt 1) (dCons (dInt 0) dNil)) oTup) (dCons (dThen (dCons (dInt 0) (dCons (dInt 0) dNil)) oTup) (dCons (dThen (dCons (dLoc 1) (dCons (dInt 0) dNil)) oTup) dNil))))) oTup) (dThen2 (dThen2 (dLoc 3) (dInt 7) oMod) (dInt 1) oSub) (oItem tv)) dNil)) oTup)) <|
  sNil
noncomputable def R__law_row : List V → Sto → R V := runFn 2 D__law_row

/-- _law_behind: 0 op, 1 effect, 2 depth -/
noncomputable def D__law_behind : DS :=
  sSeq (sIf (dOr (dThen (dThen2 (dLoc 0) (dInt 221) oEq) oBoolV) (dOr (dThen (dThen2 (dLoc 1) dNone oIs) oBoolV) dFalse))
    (sSeq (sReturn (dInt 0)) <|
    sNil)
    (sNil)) <|
  sSeq (sReturn (dThen2 (dThen2 (dLoc 2) (dThen2 (dLoc 1) (dInt 0) (oItem tv)) oSub) (dThen2 (dLoc 1) (dInt 1) (oItem tv)) oAdd)) <|
  sNil
noncomputable def R__law_behind : List V → Sto → R V := runFn 3 D__law_behind

/-- _law_drawn: 0 numbers, 1 ret, 2 rows, 3 depth, 4 v, 5 row, 6 effect, 7 behind -/
noncomputable def D__law_drawn : DS :=
  sSeq (sAssign 2 (dThen dNil oLst)) <|
  sSeq (sAssign 3 (dInt 0)) <|
  sSeq (sFor (dLoc 0) (.one 4)
    (sSeq (sUnpack [5, 6] (dThen (dCons (dLoc 4) (dCons (dLoc 1) dNil)) R__law_row)) <|
    sSeq (sIf (dAnd (dThen (dThen2 (dLoc 6) dNone oIsNot) oBoolV) (dAnd (dThen (dThen2 (dThen2 (dLoc 6) (dInt 0) (oItem tv)) (dLoc 3) (oIntCmp fun a b => decide (b < a))) oBoolV) (dAnd (dThen (dThen2 (dThen2 (dThen2 (dLoc 4) (dInt 1000) oDiv) (dInt 7) oMod) (dInt 6) (oIntCmp (· != ·))) oBoolV) dTrue)))
      (sSeq (sUnpack [5, 6] (dThen (dCons (dThen (dCons (dInt 32) (dCons (dInt 1) dNil)) oTup) (dCons (dThen (dCons (dInt 0) (dCons (dInt 1) dNil)) oTup) dNil)) oTup)) <|
      sNil)
      (sNil)) <|
    sSeq (sAssign 7 (dThen (dCons (dThen2 (dLoc 5) (dInt 0) (oItem tv)) (dCons (dLoc 6) (dCons (dLoc 3) dNil))) R__law_behind)) <|
    sSeq (sExpr (dMeth (dLoc 2) (dCons (dThen (dCons (dLoc 5) (dCons (dLoc 6) (dCons (dLoc 3) (dCons (dLoc 7) dNil)))) oTup) dNil) oAppend)) <|
    sSeq (sAssign 3 (dThen (dCons (dLoc 7) (dCons (dInt 0) dNil)) oMax)) <|
    sNil)) <|
  sSeq (sReturn (dLoc 2)) <|
  sNil
noncomputable def R__law_drawn : List V → Sto → R V := runFn 2 D__law_drawn

/-- _law_pick: 0 rows, 1 depth, 2 t, 3 fit -/
noncomputable def D__law_pick : DS :=
  sSeq (sIf (dThen (dThen2 (dThen2 (dThen2 (dLoc 2) (dInt 64) oDiv) (dInt 16) oMod) (dInt 15) oEq) oBoolV)
    (sSeq (sReturn (dThen2 (dThen2 (dLoc 2) (dThen2 (dThen (dCons (dLoc 0) dNil) oLen) (dInt 1) oAdd) oMod) (dThen2 (dThen2 (dLoc 2) (dInt 7) oDiv) (dInt 2) oMod) oSub)) <|
    sNil)
    (sNil)) <|
  sSeq (sAssign 3 (dComp (dThen (dCons (dThen (dCons (dLoc 0) dNil) oLen) dNil) oRange) [1, 0] (dThen (dThen2 (dThen2 (dThen2 (dLoc 2) (dLoc 0) (oItem tv)) (dInt 2) (oItem tv)) (dLoc 1) oEq) oBoolV) (dLoc 0))) <|
  sSeq (sIf (dThen (dThen2 (dLoc 3) (dThen dNil oLst) oEq) oBoolV)
    (sSeq (sReturn (dThen2 (dLoc 2) (dThen (dCons (dLoc 0) dNil) oLen) oMod)) <|
    sNil)
    (sNil)) <|
  sSeq (sReturn (dThen2 (dLoc 3) (dThen2 (dLoc 2) (dThen (dCons (dLoc 3) dNil) oLen) oMod) (oItem tv))) <|
  sNil
noncomputable def R__law_pick : List V → Sto → R V := runFn 3 D__law_pick

/-- _law_aimed: 0 rows, 1 code, 2 row, 3 effect, 4 depth, 5 behind -/
noncomputable def D__law_aimed : DS :=
  sSeq (sAssign 1 (dThen dNil oLst)) <|
  sSeq (sFor (dLoc 0) (.many [2, 3, 4, 5])
    (sSeq (sIf (dThen (dThen2 (dThen2 (dLoc 2) (dInt 0) (oItem tv)) (dInt 69) oEq) oBoolV)
      (sSeq (sExpr (dMeth (dLoc 1) (dCons (dThen (dCons (dInt 69) (dCons (dThen (dCons (dComp (dThen2 (dLoc 2) (dInt 1) (oItem tv)) [0, 5] dT (dThen (dCons (dLoc 1) (dCons (dLoc 2) (dCons (dLoc 0) dNil))) R__law_pick)) dNil) oTuple) dNil)) oTup) dNil) oAppend)) <|
      sNil)
      (sSeq (sIf (dOr (dChain (dInt 56) (dThen2 (dLoc 2) (dInt 0) (oItem tv)) (dInt 69) (oIntCmp fun a b => decide (a ≤ b)) (oIntCmp fun a b => decide (a < b))) (dOr (dThen (dThen2 (dThen2 (dLoc 2) (dInt 0) (oItem tv)) (dInt 221) oEq) oBoolV) dFalse))
        (sSeq (sExpr (dMeth (dLoc 1) (dCons (dThen (dCons (dThen2 (dLoc 2) (dInt 0) (oItem tv)) (dCons (dThen (dCons (dLoc 0) (dCons (dLoc 5) (dCons (dThen2 (dLoc 2) (dInt 1) (oItem tv)) dNil))) R__law_pick) dNil)) oTup) dNil) oAppend)) <|
        sNil)
        (sSeq (sExpr (dMeth (dLoc 1) (dCons (dLoc 2) dNil) oAppend)) <|
        sNil)) <|
      sNil)) <|
    sNil)) <|
  sSeq (sReturn (dLoc 1)) <|
  sNil
noncomputable def R__law_aimed : List V → Sto → R V := runFn 1 D__law_aimed

/-- _law_clauses: 0 rows, 1 q, 2 out, 3 size, 4 j, 5 w, 6 sort, 7 begin, 8 place, 9 row, 10 k -/
noncomputable def D__law_clauses : DS :=
  sSeq (sAssign 2 (dThen dNil oLst)) <|
  sSeq (sAssign 3 (dThen2 (dThen (dCons (dLoc 0) dNil) oLen) (dInt 1) oAdd)) <|
  sSeq (sFor (dThen (dCons (dThen2 (dLoc 1) (dInt 3) oMod) dNil) oRange) (.one 4)
    (sSeq (sAssign 5 (dThen2 (dThen2 (dLoc 1) (dInt 3) oDiv) (dThen2 (dInt 1001) (dLoc 4) oMul) oAdd)) <|
    sSeq (sAssign 6 (dThen2 (dThen (dCons (dInt 0) (dCons (dInt 1) (dCons (dInt 2) (dCons (dInt 4) dNil)))) oTup) (dThen2 (dLoc 5) (dInt 4) oMod) (oItem tv))) <|
    sSeq (sAssign 7 (dIf (dThen (dThen2 (dLoc 6) (dInt 2) (oIntCmp fun a b => decide (a < b))) oBoolV) (dInt 1) (dInt 0))) <|
    sSeq (sIf (dThen (dThen2 (dLoc 0) (dThen dNil oLst) oEq) oBoolV)
      (sSeq (sExpr (dMeth (dLoc 2) (dCons (dThen (dCons (dLoc 6) (dCons (dInt 0) (dCons (dInt 0) (dCons (dInt 0) (dCons (dInt 0) (dCons (dInt 0) dNil)))))) oTup) dNil) oAppend)) <|
      sNil)
      (sSeq (sAssign 8 (dIf (dThen (dThen2 (dLoc 6) (dInt 1) oEq) oBoolV) (dThen (dCons (dLoc 0) (dCons (dInt 1) (dCons (dThen2 (dLoc 5) (dInt 6) oDiv) dNil))) R__law_pick) (dInt 0))) <|
      sSeq (sAssign 9 (dThen (dCons (dLoc 6) (dCons (dThen2 (dThen2 (dLoc 5) (dInt 4) oDiv) (dThen2 (dLoc 3) (dInt 1) oSub) oMod) (dCons (dThen2 (dThen2 (dLoc 5) (dInt 16) oDiv) (dLoc 3) oMod) (dCons (dThen (dCons (dLoc 0) (dCons (dLoc 7) (dCons (dThen2 (dLoc 5) (dInt 5) oDiv) dNil))) R__law_pick) (dCons (dThen2 (dThen2 (dLoc 5) (dInt 32) oDiv) (dLoc 3) oMod) (dCons (dLoc 8) dNil)))))) oLst)) <|
      sSeq (sIf (dThen (dThen2 (dThen2 (dThen2 (dLoc 5) (dInt 640) oDiv) (dInt 8) oMod) (dInt 7) oEq) oBoolV)
        (sSeq (sAssign 10 (dThen2 (dThen2 (dLoc 5) (dInt 5120) oDiv) (dInt 5) oMod)) <|
        sSeq (sSetItem (dThen2 (dThen (dCons (dThen2 (dLoc 3) (dInt 1) oSub) (dCons (dLoc 3) (dCons (dLoc 3) (dCons (dThen (dInt 1) oNeg) (dCons (dThen (dInt 1) oNeg) dNil))))) oTup) (dLoc 10) (oItem tv)) (dLoc 9) (dThen2 (dThen (dCons (dInt 1) (dCons (dInt 2) (dCons (dInt 4) (dCons (dInt 2) (dCons (dInt 4) dNil))))) oTup) (dLoc 10) (oItem tv))) <|
        sNil)
        (sNil)) <|
      sSeq (sExpr (dMeth (dLoc 2) (dCons (dThen (dCons (dLoc 9) dNil) oTuple) dNil) oAppend)) <|
      sNil)) <|
    sNil)) <|
  sSeq (sReturn (dLoc 2)) <|
  sNil
noncomputable def R__law_clauses : List V → Sto → R V := runFn 2 D__law_clauses

/-- _law_edges_good: 0 code, 1 clauses, 2 sort, 3 t0, 4 t1, 5 h0, 6 h1, 7 extra, 8 edges, 9 n -/
noncomputable def D__law_edges_good : DS :=
  sSeq (sFor (dLoc 1) (.many [2, 3, 4, 5, 6, 7])
    (sSeq (sAssign 8 (dThen2 (dThen (dCons (dLoc 3) (dCons (dLoc 4) (dCons (dLoc 5) (dCons (dLoc 6) dNil)))) oLst) (dIf (dThen (dThen2 (dLoc 2) (dInt 1) oEq) oBoolV) (dThen (dCons (dLoc 7) dNil) oLst) (dThen dNil oLst)) oAdd)) <|
    sSeq (sFor (dThen (dCons (dLoc 3) (dCons (dLoc 5) (dCons (dLoc 7) dNil))) oTup) (.one 9)
      (sSeq (sIf (dThen (dThen2 (dLoc 9) (dThen (dCons (dLoc 0) dNil) oLen) (oIntCmp fun a b => decide (b ≤ a))) oBoolV)
        (sSeq (sReturn (dBool false)) <|
        sNil)
        (sNil)) <|
      sNil)) <|
    sSeq (sFor (dLoc 8) (.one 9)
      (sSeq (sIf (dOr (dThen (dThen2 (dLoc 9) (dInt 0) (oIntCmp fun a b => decide (a < b))) oBoolV) (dOr (dThen (dThen2 (dLoc 9) (dThen (dCons (dLoc 0) dNil) oLen) (oIntCmp fun a b => decide (b < a))) oBoolV) (dOr (dAnd (dThen (dThen2 (dLoc 9) (dInt 0) (oIntCmp fun a b => decide (b < a))) oBoolV) (dAnd (dThen (dThen2 (dThen2 (dThen2 (dLoc 0) (dThen2 (dLoc 9) (dInt 1) oSub) (oItem tv)) (dInt 0) (oItem tv)) (dThen (dCons (dInt 65046) (dCons (dInt 65054) dNil)) oTup) (oIn tv)) oBoolV) dTrue)) dFalse)))
        (sSeq (sReturn (dBool false)) <|
        sNil)
        (sNil)) <|
      sNil)) <|
    sNil)) <|
  sSeq (sReturn (dBool true)) <|
  sNil
noncomputable def R__law_edges_good : List V → Sto → R V := runFn 2 D__law_edges_good

/-- _law_goals: 0 code, 1 i, 2 op, 3 goal, 4 out -/
noncomputable def D__law_goals : DS :=
  sSeq (sUnpack [2, 3] (dThen2 (dLoc 0) (dLoc 1) (oItem tv))) <|
  sSeq (sAssign 4 (dThen dNil oLst)) <|
  sSeq (sIf (dAnd (dThen (dThen2 (dLoc 2) (dVal vENDS) (oNotIn tv)) oBoolV) (dAnd (dThen (dThen2 (dThen2 (dLoc 1) (dInt 1) oAdd) (dThen (dCons (dLoc 0) dNil) oLen) (oIntCmp fun a b => decide (a < b))) oBoolV) dTrue))
    (sSeq (sExpr (dMeth (dLoc 4) (dCons (dThen2 (dLoc 1) (dInt 1) oAdd) dNil) oAppend)) <|
    sNil)
    (sNil)) <|
  sSeq (sIf (dThen (dThen2 (dLoc 2) (dInt 69) oEq) oBoolV)
    (sSeq (sReturn (dThen2 (dLoc 4) (dThen (dCons (dLoc 3) dNil) oList) oAdd)) <|
    sNil)
    (sNil)) <|
  sSeq (sIf (dOr (dChain (dInt 56) (dLoc 2) (dInt 69) (oIntCmp fun a b => decide (a ≤ b)) (oIntCmp fun a b => decide (a < b))) (dOr (dThen (dThen2 (dLoc 2) (dInt 221) oEq) oBoolV) dFalse))
    (sSeq (sExpr (dMeth (dLoc 4) (dCons (dLoc 3) dNil) oAppend)) <|
    sNil)
    (sNil)) <|
  sSeq (sReturn (dLoc 4)) <|
  sNil
noncomputable def R__law_goals : List V → Sto → R V := runFn 2 D__law_goals

/-- _law_most: 0 code, 1 effects, 2 clauses, 3 depths, 4 clause, 5 most, 6 turned, 7 i, 8 depth, 9 behind, 10 goal -/
noncomputable def D__law_most : DS :=
  sSeq (sIf (dNot (dThen (dThen (dCons (dLoc 0) (dCons (dLoc 2) dNil)) R__law_edges_good) oTruth))
    (sSeq (sReturn (dThen (dInt 1) oNeg)) <|
    sNil)
    (sNil)) <|
  sSeq (sAssign 3 (dComp (dLoc 0) [] dT (dThen dNil oLst))) <|
  sSeq (sIf (dThen (dLoc 0) oTruth)
    (sSeq (sExpr (dMeth (dThen2 (dLoc 3) (dInt 0) (oItem tv)) (dCons (dInt 0) dNil) oAppend)) <|
    sNil)
    (sNil)) <|
  sSeq (sFor (dLoc 2) (.one 4)
    (sSeq (sExpr (dMeth (dThen2 (dLoc 3) (dThen2 (dLoc 4) (dInt 3) (oItem tv)) (oItem tv)) (dCons (dIf (dThen (dThen2 (dThen2 (dLoc 4) (dInt 0) (oItem tv)) (dInt 2) (oIntCmp fun a b => decide (a < b))) oBoolV) (dInt 1) (dInt 0)) dNil) oAppend)) <|
    sSeq (sIf (dThen (dThen2 (dThen2 (dLoc 4) (dInt 0) (oItem tv)) (dInt 1) oEq) oBoolV)
      (sSeq (sExpr (dMeth (dThen2 (dLoc 3) (dThen2 (dLoc 4) (dInt 5) (oItem tv)) (oItem tv)) (dCons (dInt 1) dNil) oAppend)) <|
      sNil)
      (sNil)) <|
    sNil)) <|
  sSeq (sAssign 5 (dInt 0)) <|
  sSeq (sAssign 6 (dBool true)) <|
  sSeq (sWhile 100 (dThen (dLoc 6) oTruth)
    (sSeq (sAssign 6 (dBool false)) <|
    sSeq (sFor (dThen (dCons (dThen (dCons (dLoc 0) dNil) oLen) dNil) oRange) (.one 7)
      (sSeq (sIf (dThen (dThen2 (dThen2 (dLoc 3) (dLoc 7) (oItem tv)) (dThen dNil oLst) oEq) oBoolV)
        (sSeq (sCont) <|
        sNil)
        (sNil)) <|
      sSeq (sAssign 8 (dThen (dCons (dThen2 (dLoc 3) (dLoc 7) (oItem tv)) dNil) oMin)) <|
      sSeq (sIf (dOr (dThen (dThen2 (dLoc 8) (dThen (dCons (dThen2 (dLoc 3) (dLoc 7) (oItem tv)) dNil) oMax) (oIntCmp (· != ·))) oBoolV) (dOr (dThen (dThen2 (dThen2 (dLoc 1) (dLoc 7) (oItem tv)) dNone oIs) oBoolV) (dOr (dThen (dThen2 (dThen2 (dThen2 (dLoc 1) (dLoc 7) (oItem tv)) (dInt 0) (oItem tv)) (dLoc 8) (oIntCmp fun a b => decide (b < a))) oBoolV) dFalse)))
        (sSeq (sReturn (dThen (dInt 1) oNeg)) <|
        sNil)
        (sNil)) <|
      sSeq (sAssign 9 (dThen (dCons (dThen2 (dThen2 (dLoc 0) (dLoc 7) (oItem tv)) (dInt 0) (oItem tv)) (dCons (dThen2 (dLoc 1) (dLoc 7) (oItem tv)) (dCons (dLoc 8) dNil))) R__law_behind)) <|
      sSeq (sAssign 5 (dThen (dCons (dLoc 5) (dCons (dLoc 8) (dCons (dLoc 9) dNil))) oMax)) <|
      sSeq (sFor (dThen (dCons (dLoc 0) (dCons (dLoc 7) dNil)) R__law_goals) (.one 10)
        (sSeq (sIf (dOr (dThen (dThen2 (dLoc 10) (dInt 0) (oIntCmp fun a b => decide (a < b))) oBoolV) (dOr (dThen (dThen2 (dLoc 10) (dThen (dCons (dLoc 0) dNil) oLen) (oIntCmp fun a b => decide (b ≤ a))) oBoolV) dFalse))
          (sSeq (sReturn (dThen (dInt 1) oNeg)) <|
          sNil)
          (sNil)) <|
        sSeq (sIf (dThen (dThen2 (dLoc 9) (dThen2 (dLoc 3) (dLoc 10) (oItem tv)) (oNotIn tv)) oBoolV)
          (sSeq (sExpr (dMeth (dThen2 (dLoc 3) (dLoc 10) (oItem tv)) (dCons (dLoc 9) dNil) oAppend)) <|
          sSeq (sAssign 6 (dBool true)) <|
          sNil)
          (sNil)) <|
        sNil)) <|
      sNil)) <|
    sNil)) <|
  sSeq (sReturn (dLoc 5)) <|
  sNil
noncomputable def R__law_most : List V → Sto → R V := runFn 3 D__law_most

/-- law: 0 script, 1 ret, 2 q, 3 numbers, 4 rows, 5 code, 6 clauses, 7 want, 8 got -/
noncomputable def D_law : St → Option Bool :=
  tSeq (sAssign 1 (dIf (dThen (dLoc 0) oTruth) (dThen2 (dThen2 (dLoc 0) (dInt 0) (oItem tv)) (dInt 2) oMod) (dInt 0))) <|
  tSeq (sAssign 2 (dIf (dThen (dThen2 (dThen (dCons (dLoc 0) dNil) oLen) (dInt 1) (oIntCmp fun a b => decide (b < a))) oBoolV) (dThen2 (dLoc 0) (dInt 1) (oItem tv)) (dInt 0))) <|
  tSeq (sAssign 3 (dIf (dThen (dThen2 (dThen (dCons (dLoc 0) dNil) oLen) (dInt 2) (oIntCmp fun a b => decide (b < a))) oBoolV) (dThen (dLoc 0) (oSlice 2 20)) (dThen (dCons (dInt 3) (dCons (dThen2 (dInt 8) (dInt 3) oMul) (dCons (dInt 12) (dCons (dThen2 (dInt 8) (dInt 8) oMul) (dCons (dInt 7) dNil))))) oLst))) <|
  tSeq (sIf (dAnd (dThen (dThen2 (dThen (dCons (dLoc 0) dNil) oLen) (dInt 2) (oIntCmp fun a b => decide (b < a))) oBoolV) (dAnd (dThen (dThen2 (dThen2 (dThen2 (dLoc 0) (dInt 2) (oItem tv)) (dInt 50) oMod) (dInt 49) oEq) oBoolV) dTrue))
    (sSeq (sAssign 3 (dThen dNil oLst)) <|
    sNil)
    (sNil)) <|
  tSeq (sAssign 4 (dThen (dCons (dLoc 3) (dCons (dLoc 1) dNil)) R__law_drawn)) <|
  tSeq (sAssign 5 (dThen (dCons (dLoc 4) dNil) R__law_aimed)) <|
  tSeq (sAssign 6 (dThen (dCons (dLoc 4) (dCons (dLoc 2) dNil)) R__law_clauses)) <|
  tSeq (sAssign 7 (dThen (dCons (dLoc 5) (dCons (dComp (dLoc 4) [] dT (dThen2 (dLoc 0) (dInt 1) (oItem tv))) (dCons (dLoc 6) dNil))) R__law_most)) <|
  tailB (dThen (dCons (dLoc 5) (dCons (dLoc 6) (dCons (dThen (dCons (dVal (.tab 2)) (dCons (dLoc 1) dNil)) oTel) dNil))) R_max_stack) 7

end Mine
end
section
set_option tactic.hygienic false
set_option maxRecDepth 100000
open PySem PySem.W PyProof.Rows PySem.Calls
namespace Mine

section
variable {W : Wd}

theorem tabF (U : Setup W) : TabF W tv := by
  refine ⟨fun k hk => ?_, U.sys⟩
  match k, hk with
  | 0, _ => exact tab_map (l := sortL) (by rw [U.hK, U.t0]; kernel_rfl)
  | 1, _ => exact tab_map (l := stackL) (by rw [U.hK, U.t1]; kernel_rfl)
  | 2, _ => exact tab_map (l := callsL) (by rw [U.hK, U.t2]; kernel_rfl)

/-! tuples of the start-up, told -/
noncomputable def kv (K : Frag) : Nat → Value → Option V
  | 0, _ => none
  | _ + 1, .int i _ => some (.int i)
  | n + 1, .ref c => (match K.lookup c with
    | some ⟨.type "tuple", none, .seq xs _, sl⟩ => if sl.isEmpty then (xs.toList.mapM (kv K n)).map .tup else none
    | _ => none)
  | _, _ => none
theorem mapM_vrs {K : Frag} {n : Nat} {ρ : List Addr} {h : Heap} (ih : ∀ v x, kv K n v = some x → VR W ρ h x v) : ∀ (vs : List Value) (xs : List V), vs.mapM (kv K n) = some xs → VRs W ρ h xs vs
  | [], xs, e => by cases e; exact .nil
  | v :: vs, xs, e => by
    rw [List.mapM_cons] at e
    cases e1 : kv K n v with
    | none => rw [e1] at e; cases e
    | some x =>
      rw [e1] at e
      cases e2 : vs.mapM (kv K n) with
      | none => rw [e2] at e; cases e
      | some ys =>
        rw [e2] at e
        cases e
        exact .cons (ih _ _ e1) (mapM_vrs ih _ _ e2)
set_option tactic.hygienic true in
theorem kv_vr {ρ : List Addr} {h : Heap} (st : W.base.StaysIn h) : ∀ (n : Nat) (v : Value) (x : V), kv W.K n v = some x → VR W ρ h x v
  | 0, _, _, e => by cases e
  | n + 1, v, x, e => by
    cases v <;> first | (exact absurd (show none = some x from e) (by simp)) | skip
    · cases e; exact .int _ _
    · rename_i c
      unfold kv at e
      split at e
      · rename_i xs m sl hl
        split at e
        · rename_i hs
          rw [Array.isEmpty_iff] at hs
          subst hs
          obtain ⟨ys, e1, rfl⟩ := Option.map_eq_some_iff.mp e
          exact .tup (vs := xs.toList) (st _ _ (W.X _ _ hl)) (mapM_vrs (kv_vr st n) _ _ e1)
        · cases e
      · cases e
theorem kvSTACK (U : Setup W) : ∀ ρ h, W.base.StaysIn h → VR W ρ h vSTACK (.ref 352) := fun _ _ st => kv_vr st 3 _ _ (by rw [U.hK]; kernel_rfl)
theorem kvENDS (U : Setup W) : ∀ ρ h, W.base.StaysIn h → VR W ρ h vENDS (.ref 360) := fun _ _ st => kv_vr st 3 _ _ (by rw [U.hK]; kernel_rfl)
end

/-! comprehensions -/
section
variable {lay : List Str} {env : Env} {scope : Scope} {x : Str} {free : List Str} {fr : List Nat}
theorem fr0 {p : Nat → Nat → Prop} : ∀ j i : Nat, ([] : List Nat)[j]? = some i → p j i := fun j i e => by simp at e
theorem fr1 {a : Nat} {p : Nat → Nat → Prop} (h : p 0 a) : ∀ j i : Nat, [a][j]? = some i → p j i := fun j i e => by
  match j, e with
  | 0, e => cases e; exact h
  | j + 1, e => simp at e
theorem fr2 {a b : Nat} {p : Nat → Nat → Prop} (h : p 0 a) (h' : p 1 b) : ∀ j i : Nat, [a, b][j]? = some i → p j i := fun j i e => by
  match j, e with
  | 0, e => cases e; exact h
  | 1, e => cases e; exact h'
  | j + 2, e => simp at e
noncomputable def FrP (lay : List Str) (env : Env) (scope : Scope) (free : List Str) (cl : List (Str × Addr)) (j i : Nat) : Prop :=
  ∃ y c, lay[i]? = some y ∧ free[j]? = some y ∧ env.kindOf y = some .cell ∧ (relabel scope env).names.lookup y = some .cell ∧ cl.lookup y = some c ∧ env.cells.lookup y = some c
theorem compok0 (clos : closureFor scope env = pure []) (kind : scope.kind = .function) (names : ∀ y ∈ scope.names, y.2 = .local → scope.names.lookup y.1 = some .local) (hx : scope.names.lookup x = some .local) (cell : ∀ y ∈ scope.names, y.2 ≠ .cell) (xc : x ≠ callsN)
    (h : ∀ j i : Nat, fr[j]? = some i → FrP lay env scope free [] j i) : CompOK lay env scope x free fr [] := ⟨clos, kind, names, hx, cell, xc, h, (fun _ q => nomatch q), .nil⟩
theorem compok1 {y : Str} {c : Addr} (clos : closureFor scope env = pure [(y, c)]) (kind : scope.kind = .function) (names : ∀ y ∈ scope.names, y.2 = .local → scope.names.lookup y.1 = some .local) (hx : scope.names.lookup x = some .local) (cell : ∀ y ∈ scope.names, y.2 ≠ .cell) (xc : x ≠ callsN)
    (h : ∀ j i : Nat, fr[j]? = some i → FrP lay env scope free [(y, c)] j i) (s : env.cells.lookup y = some c) : CompOK lay env scope x free fr [(y, c)] :=
  ⟨clos, kind, names, hx, cell, xc, h, fun p q => by rw [List.mem_singleton.mp q]; exact mem_lookup s, List.pairwise_singleton _ _⟩
theorem compok2 {y z : Str} {c d : Addr} (clos : closureFor scope env = pure [(y, c), (z, d)]) (kind : scope.kind = .function) (names : ∀ y ∈ scope.names, y.2 = .local → scope.names.lookup y.1 = some .local) (hx : scope.names.lookup x = some .local) (cell : ∀ y ∈ scope.names, y.2 ≠ .cell) (xc : x ≠ callsN)
    (h : ∀ j i : Nat, fr[j]? = some i → FrP lay env scope free [(y, c), (z, d)] j i) (s : env.cells.lookup y = some c) (s' : env.cells.lookup z = some d) (ne : c ≠ d) : CompOK lay env scope x free fr [(y, c), (z, d)] :=
  ⟨clos, kind, names, hx, cell, xc, h, fun p q => by
    rcases List.mem_cons.mp q with rfl | q
    · exact mem_lookup s
    · rw [List.mem_singleton.mp q]; exact mem_lookup s', by simp [ne]⟩
end

/-! the law's own end -/
noncomputable def GoodT (W : Wd) (lay : List Str) (env : Env) (n : Nat) (t : Sem Flow) (d : St → Option Bool) : Prop :=
  ∀ (A : Around) (outer : List Env) (ρ : List Addr) (st : St) (s : Shared) (Q : Flow → Shared → Prop) (E : Value → Shared → Prop) (b : Bool),
    Room n A → A.frames = some (env :: outer) → env.frame = some env.locals → EI W lay env ρ st.loc s.heap → HI W (env :: outer) ρ st.sto s.heap → d st = some b →
    (∀ h' tk, W.base.StaysIn h' → Q (.ret (.bool b)) { s with heap := h', toks := tk }) → wpAny W.M A t Q E s
section
variable {W : Wd} {lay : List Str} {env : Env} {n : Nat}
theorem goodT_seq {st : Stmt} {rest : List Stmt} {a : DS} {d : St → Option Bool} (ha : GoodS W lay env n (exec st env) a) (hb : GoodT W lay env n (execs rest env) d) : GoodT W lay env n (execs (st :: rest) env) (tSeq a d) := by
  intro A outer ρ s₀ s Q E b hr hf hfr ei hi hd ok
  unfold tSeq at hd
  refine wpAny_execs_cons (ha A outer ρ s₀ s _ _ hr hf hfr ei hi (fun q => by rw [q] at hd; cases hd) (fun fl st' ρ' f h' tk e r S => ?_) fun e s' eq x => by rw [eq] at hd; cases hd)
  rw [e] at hd
  cases r with
  | next => exact hb A outer ρ' st' { s with heap := h', toks := tk } Q E b hr hf hfr S.ei S.hi hd fun h2 tk2 k => ok h2 tk2 k
  | cont => cases hd
  | brk => cases hd
  | ret v => cases hd
theorem goodT_try {got want bad : Str} {ig iw : Nat} {e : PySem.Expr} {p1 p2 p3 p4 p5 p6 p7 p8 p9 p10 p11 p12 p13 : Pos} {k1 : Nat} {d : DE} (L : LayOK lay env) (hg : lay[ig]? = some got) (hw : lay[iw]? = some want) (hne : ig ≠ iw) (hgl : env.kindOf got = some .local) (hwl : env.kindOf want = some .local) (hcells : env.cells = [])
    (hsw : swapsWith e (some (.Name got p1)) p2.line env = pure false) (hbad : env.kindOf bad = some .globalImplicit) (hbe : nsIn W.K mainGlobals bad = some (some (.ref W.bad))) (hbd : (bad == ("__debug__" : Str)) = false) (hgd : (got == ("__debug__" : Str)) = false) (hwd : (want == ("__debug__" : Str)) = false)
    (hmatch : exmOne W.K (.ref W.bad) (.ref W.bad) = some true) (hd : GoodE W lay env n (eval e env) d) :
    GoodT W lay env n (execs [.Try [.Assign [.Name got p1] e p2] [.ExceptHandler (some (.Name bad p3)) none [.Assign [.Name got p4] (.UnaryOp .USub (.Constant (.int 1) k1 p5) p6) p7] p8] [] [] p9, .Return (some (.Compare (.Name got p10) [.Eq] [.Name want p11] p13)) p12] env) (tailB d iw) :=
  fun _ _ _ _ _ _ _ _ hr hf hfr ei hi ht ok => try_tail L hg hw hne hgl hwl hcells hsw hbad hbe hbd hgd hwd hmatch hd hr hf hfr ei hi ht ok
end
end Mine
end
section
set_option tactic.hygienic false
set_option maxRecDepth 100000
open PySem PySem.W PyProof.Rows PySem.Calls
namespace Mine
/-! printed by wrapq.py: the same rules, told of names that the elaborator never opens -/
@[irreducible] noncomputable def QE (W : Wd) (lay : List Str) (env : Env) (n : Nat) (t : Sem Value) (d : DE) : Prop := GoodE W lay env n t d
theorem QE.mk {W : Wd} {lay : List Str} {env : Env} {n : Nat} {t : Sem Value} {d : DE} (h : GoodE W lay env n t d) : QE W lay env n t d := by unfold QE; exact h
theorem QE.out {W : Wd} {lay : List Str} {env : Env} {n : Nat} {t : Sem Value} {d : DE} (h : QE W lay env n t d) : GoodE W lay env n t d := by unfold QE at h; exact h
@[irreducible] noncomputable def QB (W : Wd) (lay : List Str) (env : Env) (n : Nat) (t : Sem Bool) (d : DB) : Prop := GoodB W lay env n t d
theorem QB.mk {W : Wd} {lay : List Str} {env : Env} {n : Nat} {t : Sem Bool} {d : DB} (h : GoodB W lay env n t d) : QB W lay env n t d := by unfold QB; exact h
theorem QB.out {W : Wd} {lay : List Str} {env : Env} {n : Nat} {t : Sem Bool} {d : DB} (h : QB W lay env n t d) : GoodB W lay env n t d := by unfold QB at h; exact h
@[irreducible] noncomputable def QL (W : Wd) (lay : List Str) (env : Env) (n : Nat) (t : Sem (List Value)) (d : DL) : Prop := GoodL W lay env n t d
theorem QL.mk {W : Wd} {lay : List Str} {env : Env} {n : Nat} {t : Sem (List Value)} {d : DL} (h : GoodL W lay env n t d) : QL W lay env n t d := by unfold QL; exact h
theorem QL.out {W : Wd} {lay : List Str} {env : Env} {n : Nat} {t : Sem (List Value)} {d : DL} (h : QL W lay env n t d) : GoodL W lay env n t d := by unfold QL at h; exact h
@[irreducible] noncomputable def QS (W : Wd) (lay : List Str) (env : Env) (n : Nat) (t : Sem Flow) (d : DS) : Prop := GoodS W lay env n t d
theorem QS.mk {W : Wd} {lay : List Str} {env : Env} {n : Nat} {t : Sem Flow} {d : DS} (h : GoodS W lay env n t d) : QS W lay env n t d := by unfold QS; exact h
theorem QS.out {W : Wd} {lay : List Str} {env : Env} {n : Nat} {t : Sem Flow} {d : DS} (h : QS W lay env n t d) : GoodS W lay env n t d := by unfold QS at h; exact h
@[irreducible] noncomputable def QT (W : Wd) (lay : List Str) (env : Env) (n : Nat) (t : Sem Flow) (d : St → Option Bool) : Prop := GoodT W lay env n t d
theorem QT.mk {W : Wd} {lay : List Str} {env : Env} {n : Nat} {t : Sem Flow} {d : St → Option Bool} (h : GoodT W lay env n t d) : QT W lay env n t d := by unfold QT; exact h
theorem QT.out {W : Wd} {lay : List Str} {env : Env} {n : Nat} {t : Sem Flow} {d : St → Option Bool} (h : QT W lay env n t d) : GoodT W lay env n t d := by unfold QT at h; exact h
@[irreducible] noncomputable def QPL (W : Wd) (n : Nat) (t : List Value → Sem Value) (k : List V → Sto → R V) : Prop := PL W n (VR W) t k
theorem QPL.mk {W : Wd} {n : Nat} {t : List Value → Sem Value} {k : List V → Sto → R V} (h : PL W n (VR W) t k) : QPL W n t k := by unfold QPL; exact h
theorem QPL.out {W : Wd} {n : Nat} {t : List Value → Sem Value} {k : List V → Sto → R V} (h : QPL W n t k) : PL W n (VR W) t k := by unfold QPL at h; exact h
theorem QPL.up {W : Wd} {n m : Nat} {t : List Value → Sem Value} {k : List V → Sto → R V} (h : QPL W n t k) (l : n ≤ m) : QPL W m t k := .mk (h.out.up l)
section
variable {W : Wd} {lay : List Str} {env : Env} {n : Nat}

theorem q_none {k : Nat} {pos : Pos} : QE W lay env n (eval (.Constant .none k pos) env) dNone :=
  QE.mk (good_none )
theorem q_bool {b : Bool} {k : Nat} {pos : Pos} : QE W lay env n (eval (.Constant (.bool b) k pos) env) (dBool b) :=
  QE.mk (good_bool )
theorem q_int {i : Int} {k : Nat} {pos : Pos} : QE W lay env n (eval (.Constant (.int i) k pos) env) (dInt i) :=
  QE.mk (good_int )
theorem q_loc {i : Nat} {x : Str} {pos : Pos} (hx : lay[i]? = some x) (hd : (x == ("__debug__" : Str)) = false) : QE W lay env n (eval (.Name x pos) env) (dLoc i) :=
  QE.mk (good_loc hx hd)
theorem q_glob {x : Str} {pos : Pos} {v : Value} {X : V} (hx : env.kindOf x = some .globalImplicit) (e : nsIn W.K mainGlobals x = some (some v)) (hd : (x == ("__debug__" : Str)) = false) (r : ∀ ρ h, W.base.StaysIn h → VR W ρ h X v) : QE W lay env n (eval (.Name x pos) env) (dVal X) :=
  QE.mk (good_glob hx e hd r)
theorem q_neg {x : PySem.Expr} {pos : Pos} {d : DE} (hx : QE W lay env n (eval x env) d) : QE W lay env n (eval (.UnaryOp .USub x pos) env) (dThen d oNeg) :=
  QE.mk (good_neg hx.out)
theorem q_bin {l r : PySem.Expr} {op : Operator} {pos : Pos} {dl dr : DE} {k : V → V → Sto → R V} (hl : QE W lay env n (eval l env) dl) (hr : QE W lay env n (eval r env) dr) (p : P2 W n (VR W) (binaryOp op) k) : QE W lay env n (eval (.BinOp l op r pos) env) (dThen2 dl dr k) :=
  QE.mk (good_bin hl.out hr.out p)
theorem q_cmp {l r : PySem.Expr} {op : CmpOp} {pos : Pos} {dl dr : DE} {k : V → V → Sto → R V} (hl : QE W lay env n (eval l env) dl) (hr : QE W lay env n (eval r env) dr) (p : P2 W n (VR W) (compareOp op) k) (hm : behindInMarks op r = false) : QE W lay env n (eval (.Compare l [op] [r] pos) env) (dThen2 dl dr k) :=
  QE.mk (good_cmp hl.out hr.out p hm)
theorem q_ifexp {test body orelse : PySem.Expr} {pos : Pos} {t : DB} {a b : DE} (ht : QB W lay env n (isTrue test env (eval test env)) t) (ha : QE W lay env n (eval body env) a) (hb : QE W lay env n (eval orelse env) b) : QE W lay env n (eval (.IfExp test body orelse pos) env) (dIf t a b) :=
  QE.mk (good_ifexp ht.out ha.out hb.out)
theorem q_tuple {elts : List PySem.Expr} {x1 : Nat} {pos : Pos} {d : DL} (h : QL W lay env n (spliced (backTo pos (starEach elts env))) d) : QE W lay env n (eval (.Tuple elts x1 pos) env) (dThen d oTup) :=
  QE.mk (good_tuple h.out)
theorem q_list {elts : List PySem.Expr} {pos : Pos} {d : DL} (h : QL W lay env n (spliced (backTo pos (starEach elts env))) d) : QE W lay env n (eval (.List elts pos) env) (dThen d oLst) :=
  QE.mk (good_list h.out)
theorem q_sub {tv : Nat → Int → Option V} (T : TabF W tv) {value slice : PySem.Expr} {pos : Pos} {dv ds : DE} (hv : QE W lay env n (eval value env) dv) (hs : QE W lay env n (eval slice env) ds) (hsl : ∀ o i, subscripted slice false o i = operate [o, i] (getItem o i)) : QE W lay env n (eval (.Subscript value slice pos) env) (dThen2 dv ds (oItem tv)) :=
  QE.mk (good_sub T hv.out hs.out hsl)
theorem q_boolop {op : BoolOp} {values : List PySem.Expr} {pos : Pos} {whole : Sem Value} {d : DB} (h : QB W lay env n (allTrue op values env) d) : QB W lay env n (isTrue (.BoolOp op values pos) env whole) d :=
  QB.mk (good_boolop h.out)
theorem q_and_nil  : QB W lay env n (allTrue .And [] env) dTrue :=
  QB.mk (good_and_nil )
theorem q_and_cons {x : PySem.Expr} {rest : List PySem.Expr} {d e : DB} (hx : QB W lay env n (isTrue x env (eval x env)) d) (hr : QB W lay env n (allTrue .And rest env) e) : QB W lay env n (allTrue .And (x :: rest) env) (dAnd d e) :=
  QB.mk (good_and_cons hx.out hr.out)
theorem q_or_nil  : QB W lay env n (allTrue .Or [] env) dFalse :=
  QB.mk (good_or_nil )
theorem q_or_cons {x : PySem.Expr} {rest : List PySem.Expr} {d e : DB} (hx : QB W lay env n (isTrue x env (eval x env)) d) (hr : QB W lay env n (allTrue .Or rest env) e) : QB W lay env n (allTrue .Or (x :: rest) env) (dOr d e) :=
  QB.mk (good_or_cons hx.out hr.out)
theorem q_not {x : PySem.Expr} {pos : Pos} {whole : Sem Value} {d : DB} (hx : QB W lay env n (isTrue x env (eval x env)) d) : QB W lay env n (isTrue (.UnaryOp .Not x pos) env whole) (dNot d) :=
  QB.mk (good_not hx.out)
theorem q_testC {l r : PySem.Expr} {op : CmpOp} {pos : Pos} {dl dr : DE} {k : V → V → Sto → R V} (hl : QE W lay env n (eval l env) dl) (hr : QE W lay env n (eval r env) dr) (p : P2 W n (VR W) (compareOp op) k) (hm : behindInMarks op r = false) : QB W lay env n (isTrue (.Compare l [op] [r] pos) env (eval (.Compare l [op] [r] pos) env)) (dThen (dThen2 dl dr k) oBoolV) :=
  QB.mk (good_testC hl.out hr.out p hm)
theorem q_testV {x : PySem.Expr} {d : DE} (hx : QE W lay env n (eval x env) d) (he : isTrue x env (eval x env) = (do let v ← eval x env; standAt x.pos; holding [v] (truthy v))) : QB W lay env n (isTrue x env (eval x env)) (dThen d oTruth) :=
  QB.mk (good_testV hx.out he)
theorem q_chain {l r1 r2 : PySem.Expr} {op1 op2 : CmpOp} {pos : Pos} {whole : Sem Value} {dl d1 d2 : DE} {k1 k2 : V → V → Sto → R V} (hl : QE W lay env n (eval l env) dl) (hr1 : QE W lay env n (eval r1 env) d1) (hr2 : QE W lay env n (eval r2 env) d2) (p1 : P2 W n (VR W) (compareOp op1) k1) (p2 : P2 W n (VR W) (compareOp op2) k2) (hm : lastMarks [op1, op2] [r1, r2] = false) : QB W lay env n (isTrue (.Compare l [op1, op2] [r1, r2] pos) env whole) (dChain dl d1 d2 k1 k2) :=
  QB.mk (good_chain hl.out hr1.out hr2.out p1 p2 hm)
theorem q_args_nil {pos : Pos} : QL W lay env n (spliced (backTo pos (starEach [] env))) dNil :=
  QL.mk (good_args_nil )
theorem q_args_cons {pos : Pos} {e : PySem.Expr} {r : List PySem.Expr} {d : DE} {dr : DL} (he : starEach (e :: r) env = (false, eval e env) :: starEach r env) (h : QE W lay env n (eval e env) d) (hr : QL W lay env n (spliced (backTo pos (starEach r env))) dr) : QL W lay env n (spliced (backTo pos (starEach (e :: r) env))) (dCons d dr) :=
  QL.mk (good_args_cons he h.out hr.out)
theorem q_blt {x : Str} {p pos : Pos} {args : List PySem.Expr} {fv : Value} {da : DL} {k : List V → Sto → R V} (hx : env.kindOf x = some .globalImplicit) (e : nsIn W.K mainGlobals x = some none) (hv : bootBuiltins x = some fv) (hn : x ≠ "__name__") (hd : (x == ("__debug__" : Str)) = false) (hfv : (∃ id, fv = .builtin id) ∨ ∃ T, fv = .type T) (hs : NoStar env args) (ha : QL W lay env n (spliced (backTo pos (starEach args env))) da) (hp : PL W n (VR W) (fun vs => call fv vs) k) : QE W lay env n (eval (.Call (.Name x p) args [] pos) env) (dThen da k) :=
  QE.mk (good_blt hx e hv hn hd hfv hs ha.out hp)
theorem q_methL {o : PySem.Expr} {name : Str} {id : String} {apos pos : Pos} {args : List PySem.Expr} {d : DE} {da : DL} {k : List V → Sto → R V} (ho : QE W lay env n (eval o env) d) (hs : NoStar env args) (ha : QL W lay env n (spliced (backTo pos (starEach args env))) da) (hp : PL W n (VR W) (fun vs => call (.builtin id) vs) k) (slot : Slot "list" name id) (hty : typeOf (.builtin id) = pure (.type "method_descriptor")) (hbase : attributeBase o name env (eval o env) = eval o env) (hfew : ((backTo pos (starEach args env)).all (fun x => !x.1) && (backToKw pos (keywordEach [] env)).all (fun x => x.1.isSome) && decide (args.length + ([] : List Keyword).length + (if ([] : List Keyword).isEmpty then 0 else 1) < 30)) = true) (hline : (apos.endLine == pos.line) = true) : QE W lay env n (eval (.Call (.Attribute o name apos) args [] pos) env) (dMeth d da k) :=
  QE.mk (good_methL ho.out hs ha.out hp slot hty hbase hfew hline)
theorem q_get {tv : Nat → Int → Option V} (T : TabF W tv) {x : Str} {xp apos pos : Pos} {args : List PySem.Expr} {t : Nat} {da : DL} (ht : t < 3) (hx : env.kindOf x = some .globalImplicit) (e : nsIn W.K mainGlobals x = some (some (.ref (W.tabA t)))) (hd : (x == ("__debug__" : Str)) = false) (hs : NoStar env args) (ha : QL W lay env n (spliced (backTo pos (starEach args env))) da) (hbase : attributeBase (.Name x xp) "get" env (eval (.Name x xp) env) = eval (.Name x xp) env) (hfew : ((backTo pos (starEach args env)).all (fun x => !x.1) && (backToKw pos (keywordEach [] env)).all (fun x => x.1.isSome) && decide (args.length + ([] : List Keyword).length + (if ([] : List Keyword).isEmpty then 0 else 1) < 30)) = true) (hline : (apos.endLine == pos.line) = true) : QE W lay env n (eval (.Call (.Attribute (.Name x xp) "get" apos) args [] pos) env) (dThen da fun xs σ => oGet tv (.tab t :: xs) σ) :=
  QE.mk (good_get T ht hx e hd hs ha.out hbase hfew hline)
theorem q_nil  : QS W lay env n (execs [] env) sNil :=
  QS.mk (good_nil )
theorem q_seq {st : Stmt} {rest : List Stmt} {a b : DS} (ha : QS W lay env n (exec st env) a) (hb : QS W lay env n (execs rest env) b) : QS W lay env n (execs (st :: rest) env) (sSeq a b) :=
  QS.mk (good_seq ha.out hb.out)
theorem q_assign {i : Nat} {x : Str} {p pos : Pos} {value : PySem.Expr} {d : DE} (L : LayOK lay env) (hx : lay[i]? = some x) (hs : swapsWith value (some (.Name x p)) pos.line env = pure false) (hd : QE W lay env n (eval value env) d) : QS W lay env n (exec (.Assign [.Name x p] value pos) env) (sAssign i d) :=
  QS.mk (good_assign L hx hs hd.out)
theorem q_return {value : PySem.Expr} {pos : Pos} {d : DE} (hd : QE W lay env n (eval value env) d) : QS W lay env n (exec (.Return (some value) pos) env) (sReturn d) :=
  QS.mk (good_return hd.out)
theorem q_expr {value : PySem.Expr} {pos : Pos} {d : DE} (hd : QE W lay env n (eval value env) d) (hi' : interactive env = false) (hsw : swapsWith value none pos.line env = pure false) : QS W lay env n (exec (.Expr value pos) env) (sExpr d) :=
  QS.mk (good_expr hd.out hi' hsw)
theorem q_if {test : PySem.Expr} {body orelse : List Stmt} {pos : Pos} {t : DB} {a b : DS} (ht : QB W lay env n (isTrue test env (eval test env)) t) (ha : QS W lay env n (execs body env) a) (hb : QS W lay env n (execs orelse env) b) : QS W lay env n (exec (.If test body orelse pos) env) (sIf t a b) :=
  QS.mk (good_if ht.out ha.out hb.out)
theorem q_continue {pos : Pos} : QS W lay env n (exec (.Continue pos) env) sCont :=
  QS.mk (good_continue )
theorem q_unpack {es : List PySem.Expr} {is : List Nat} {k : Nat} {p pos : Pos} {value : PySem.Expr} {d : DE} (L : LayOK lay env) (N : NamesOf lay env es is) (hd : QE W lay env n (eval value env) d) (hs : swapsWithSole [.Tuple es k p] value pos.line env = pure false) (hw : swappedStores [.Tuple es k p] value env = pure none) : QS W lay env n (exec (.Assign [.Tuple es k p] value pos) env) (sUnpack is d) :=
  QS.mk (good_unpack L N hd.out hs hw)
theorem q_setItem {o i value : PySem.Expr} {p pos : Pos} {dv dl di : DE} (hv : QE W lay env n (eval value env) dv) (ho : QE W lay env n (eval o env) dl) (hi' : QE W lay env n (eval i env) di) (hsw : swapsWith value (some (.Subscript o i p)) pos.line env = pure false) : QS W lay env n (exec (.Assign [.Subscript o i p] value pos) env) (sSetItem dv dl di) :=
  QS.mk (good_setItem hv.out ho.out hi'.out hsw)
theorem q_for {target iter : PySem.Expr} {body : List Stmt} {pos : Pos} {d : DE} {t : Tgt} {b : DS} (hd : QE W lay env n (eval iter env) d) (T : TgtL W lay env target t) (hb : QS W lay env n (execs body env) b) (hs : ∀ x, foldedSetIterable iter env x = pure x) : QS W lay env n (exec (.For target iter body [] pos) env) (sFor d t b) :=
  QS.mk (good_for hd.out T hb.out hs)
theorem q_while {test : PySem.Expr} {body : List Stmt} {pos : Pos} {d : DB} {b : DS} (N : Nat) (hd : QB W lay env n (isTrue test env (eval test env)) d) (hb : QS W lay env n (execs body env) b) : QS W lay env n (exec (.While test body [] pos) env) (sWhile N d b) :=
  QS.mk (good_while N hd.out hb.out)
theorem q_call {x : Str} {p pos : Pos} {args : List PySem.Expr} {f : Addr} {da : DL} {k : List V → Sto → R V} (hx : env.kindOf x = some .globalImplicit) (e : nsIn W.K mainGlobals x = some (some (.ref f))) (hd : (x == ("__debug__" : Str)) = false) (hk : keepIn W.K (.ref f) = true) (hs : NoStar env args) (ha : QL W lay env n (spliced (backTo pos (starEach args env))) da) (hp : QPL W n (fun vs => call (.ref f) vs) k) : QE W lay env n (eval (.Call (.Name x p) args [] pos) env) (dThen da k) :=
  QE.mk (good_call hx e hd hk hs ha.out hp.out)
theorem q_fun {F : Fn} {lay : List Str} {D : DS} (H : F.OK W) (hl : F.ps <+: lay) (hc : callsN ∉ lay) (hb : ∀ L, QS W lay (F.env L) n (execs F.body (F.env L)) D) : QPL W (n + 1) (fun vs => call (.ref F.f) vs) (runFn F.ps.length D) :=
  QPL.mk (good_fun H hl hc (fun L => (hb L).out))
theorem q_raise {F : Fn} (B : Bad W F) (hf : typeIn W.K (.ref F.f) = some (.type "function")) {x c : Str} {np cp cpos pos : Pos} {k : Nat} {a : PySem.Expr} {d : DE} (hx : env.kindOf x = some .globalImplicit) (e : nsIn W.K mainGlobals x = some (some (.ref W.bad))) (hd : (x == ("__debug__" : Str)) = false) (hs : starEach [a] env = (false, eval a env) :: starEach [] env) (ha : QE W lay env n (eval a env) d) : QS W lay env n (exec (.Raise (some (.Call (.Name x np) [.Constant (.str c) k cp, a] [] cpos)) none pos) env) (sRaise d) :=
  QS.mk (good_raise B hf hx e hd hs ha.out)
theorem q_comp {elt iter : PySem.Expr} {x : Str} {px : Pos} {ifs : List PySem.Expr} {scope : Scope} {free : List Str} {fr : List Nat} {cl : List (Str × Addr)} {pos : Pos} {di : DE} {dt : DB} {de : DE} (O : CompOK lay env scope x free fr cl) (hs : ∀ x, foldedSetIterable iter env x = pure x) (hi' : QE W lay env n (eval iter env) di) (ht : ∀ C, QB W (x :: free) (compEnvC scope cl C env) n (testsOf ifs (compEnvC scope cl C env)) dt) (he : ∀ C, QE W (x :: free) (compEnvC scope cl C env) n (eval elt (compEnvC scope cl C env)) de) : QE W lay env n (eval (.ListComp elt [⟨.Name x px, iter, ifs, 0⟩] scope pos) env) (dComp di fr dt de) :=
  QE.mk (good_comp O hs hi'.out (fun L => (ht L).out) (fun L => (he L).out))
theorem q_assign_comp {i : Nat} {y : Str} {py : Pos} {elt iter : PySem.Expr} {x : Str} {px : Pos} {ifs : List PySem.Expr} {scope : Scope} {free : List Str} {fr : List Nat} {cl : List (Str × Addr)} {pos spos : Pos} {di : DE} {dt : DB} {de : DE} (L : LayOK lay env) (hy : lay[i]? = some y) (hsw : swapsWith (.ListComp elt [⟨.Name x px, iter, ifs, 0⟩] scope pos) (some (.Name y py)) spos.line env = pure true) (O : CompOK lay env scope x free fr cl) (hs : ∀ x, foldedSetIterable iter env x = pure x) (hi' : QE W lay env n (eval iter env) di) (ht : ∀ C, QB W (x :: free) (compEnvC scope cl C env) n (testsOf ifs (compEnvC scope cl C env)) dt) (he : ∀ C, QE W (x :: free) (compEnvC scope cl C env) n (eval elt (compEnvC scope cl C env)) de) : QS W lay env n (exec (.Assign [.Name y py] (.ListComp elt [⟨.Name x px, iter, ifs, 0⟩] scope pos) spos) env) (sAssign i (dComp di fr dt de)) :=
  QS.mk (good_assign_comp L hy hsw O hs hi'.out (fun L => (ht L).out) (fun L => (he L).out))
theorem q_tests_nil  : QB W lay env n (testsOf [] env) dT :=
  QB.mk (good_tests_nil )
theorem q_tests_one {c : PySem.Expr} {d : DB} (h : QB W lay env n (isTrue c env (eval c env)) d) : QB W lay env n (testsOf [c] env) d :=
  QB.mk (good_tests_one h.out)
theorem q_orV {x y : PySem.Expr} {rest : List PySem.Expr} {pos : Pos} {d e : DE} (h : QE W lay env n (eval x env) d) (hr : QE W lay env n (eval (.BoolOp .Or (y :: rest) pos) env) e) : QE W lay env n (eval (.BoolOp .Or (x :: y :: rest) pos) env) (dOrV d e) :=
  QE.mk (good_orV h.out hr.out)
theorem q_orV_one {x : PySem.Expr} {pos : Pos} {d : DE} (h : QE W lay env n (eval x env) d) : QE W lay env n (eval (.BoolOp .Or [x] pos) env) d :=
  QE.mk (good_orV_one h.out)
theorem q_slice {value : PySem.Expr} {a b : Int} {ka kb : Nat} {pa pb p pos : Pos} {d : DE} (h : QE W lay env n (eval value env) d) (ht : ∀ o r, letTemporaryGo value o r = pure ()) : QE W lay env n (eval (.Subscript value (.Slice (some (.Constant (.int a) ka pa)) (some (.Constant (.int b) kb pb)) none p) pos) env) (dThen d (oSlice a b)) :=
  QE.mk (good_slice h.out ht)
theorem q_attr {o : PySem.Expr} {name : Str} {pos : Pos} {d : DE} {k : V → Sto → R V} (ho : QE W lay env n (eval o env) d) (p : P1 W n (VR W) (fun v => getAttr v name true) k) (hb : attributeBase o name env (eval o env) = eval o env) : QE W lay env n (eval (.Attribute o name pos) env) (dThen d k) :=
  QE.mk (good_attr ho.out p hb)
theorem q_telM {Fi : Fn} (T : Tel W Fi) {o : PySem.Expr} {name : Str} {apos pos : Pos} {args : List PySem.Expr} {d : DE} {da : DL} {f : Addr} {k : List V → Sto → R V} (ho : QE W lay env n (eval o env) d) (hs : NoStar env args) (ha : QL W lay env n (spliced (backTo pos (starEach args env))) da) (hp : QPL W n (fun vs => call (.ref f) vs) k) (hf : findIn W.K (.ref W.tel) name = some (some (.ref f))) (ht : isFn W.K (.ref f) = true) (hk : keepIn W.K (.ref f) = true) (hn1 : name ≠ callsN) (hn2 : name ≠ retN) {pl : Sem Bool} (he : eval (.Call (.Attribute o name apos) args [] pos) env = (do
      let ov ← eval o env
      standAt apos.atName
      let (f, first) ← holding [ov] (getMethod ov name pl)
      callWith pos f first (backTo pos (starEach args env)) (backToKw pos (keywordEach [] env)))) : QE W lay env n (eval (.Call (.Attribute o name apos) args [] pos) env) (dTelM d da k) :=
  QE.mk (good_telM T ho.out hs ha.out hp.out hf ht hk hn1 hn2 he)
theorem qT_seq {st : Stmt} {rest : List Stmt} {a : DS} {d : St → Option Bool} (ha : QS W lay env n (exec st env) a) (hb : QT W lay env n (execs rest env) d) : QT W lay env n (execs (st :: rest) env) (tSeq a d) :=
  QT.mk (goodT_seq ha.out hb.out)
theorem qT_try {got want bad : Str} {ig iw : Nat} {e : PySem.Expr} {p1 p2 p3 p4 p5 p6 p7 p8 p9 p10 p11 p12 p13 : Pos} {k1 : Nat} {d : DE} (L : LayOK lay env) (hg : lay[ig]? = some got) (hw : lay[iw]? = some want) (hne : ig ≠ iw) (hgl : env.kindOf got = some .local) (hwl : env.kindOf want = some .local) (hcells : env.cells = []) (hsw : swapsWith e (some (.Name got p1)) p2.line env = pure false) (hbad : env.kindOf bad = some .globalImplicit) (hbe : nsIn W.K mainGlobals bad = some (some (.ref W.bad))) (hbd : (bad == ("__debug__" : Str)) = false) (hgd : (got == ("__debug__" : Str)) = false) (hwd : (want == ("__debug__" : Str)) = false) (hmatch : exmOne W.K (.ref W.bad) (.ref W.bad) = some true) (hd : QE W lay env n (eval e env) d) : QT W lay env n (execs [.Try [.Assign [.Name got p1] e p2] [.ExceptHandler (some (.Name bad p3)) none [.Assign [.Name got p4] (.UnaryOp .USub (.Constant (.int 1) k1 p5) p6) p7] p8] [] [] p9, .Return (some (.Compare (.Name got p10) [.Eq] [.Name want p11] p13)) p12] env) (tailB d iw) :=
  QT.mk (goodT_try L hg hw hne hgl hwl hcells hsw hbad hbe hbd hgd hwd hmatch hd.out)
end
end Mine
end
section
set_option tactic.hygienic false
set_option maxRecDepth 100000
set_option maxHeartbeats 0
open PySem PySem.W PyProof.Rows PySem.Calls
namespace Mine
/-! printed by gen.py -/
section
variable {W : Wd}

noncomputable def l_205 : List Str := [("self" : Str), ("mref" : Str)]
theorem chk_205 (P : Params) : fnChk (K0 P) 205 [("self" : Str), ("mref" : Str)] = true := by kernel_rfl
theorem bnd_205 (P : Params) : ∀ a0 a1, bindArgs (fdOf (K0 P) 205) ⟨[a0, a1], []⟩ = pure [(("self" : Str), a0), (("mref" : Str), a1)] := by intros; kernel_rfl
noncomputable abbrev f_205 (P : Params) : Fn := fnAt (K0 P) 205 [("self" : Str), ("mref" : Str)]
theorem lay_205 (P : Params) (L : Addr) : LayOK l_205 ((f_205 P).env L) := .of L (by decide) (by decide) (by kernel_rfl)
theorem body_205 (U : Setup W) (L : Addr) : QS W l_205 ((f_205 W.w.params).env L) 0 (execs (bodyOf (K0 W.w.params) 205) ((f_205 W.w.params).env L)) D_tel_call_counts :=
(q_seq (q_if (q_testC (q_sub (tabF U) (q_loc rfl (by kernel_rfl)) q_int fun _ _ => rfl) (q_attr (q_loc rfl (by kernel_rfl)) (p_calls (tel_ok U)) rfl) (p_notIn (tabF U)) rfl)
(q_seq (q_raise (bad_ok U) (bad_isf U) (by kernel_rfl) (by rw [U.bad]; exact U.ns (by kernel_rfl)) (by kernel_rfl) rfl (q_sub (tabF U) (q_loc rfl (by kernel_rfl)) q_int fun _ _ => rfl))
q_nil)
q_nil)
(q_seq (q_return (q_sub (tabF U) (q_attr (q_loc rfl (by kernel_rfl)) (p_calls (tel_ok U)) rfl) (q_sub (tabF U) (q_loc rfl (by kernel_rfl)) q_int fun _ _ => rfl) fun _ _ => rfl))
q_nil))
theorem pl_205 (U : Setup W) : QPL W 1 (fun vs => call (.ref 205) vs) R_tel_call_counts := q_fun (F := f_205 W.w.params) (lay := l_205) (fnOK_of U.hK (chk_205 _) (b2 (bnd_205 _))) ⟨_, rfl⟩ (by decide) fun L => body_205 U L

noncomputable def l_212 : List Str := [("self" : Str)]
theorem chk_212 (P : Params) : fnChk (K0 P) 212 [("self" : Str)] = true := by kernel_rfl
theorem bnd_212 (P : Params) : ∀ a0, bindArgs (fdOf (K0 P) 212) ⟨[a0], []⟩ = pure [(("self" : Str), a0)] := by intros; kernel_rfl
noncomputable abbrev f_212 (P : Params) : Fn := fnAt (K0 P) 212 [("self" : Str)]
theorem lay_212 (P : Params) (L : Addr) : LayOK l_212 ((f_212 P).env L) := .of L (by decide) (by decide) (by kernel_rfl)
theorem body_212 (U : Setup W) (L : Addr) : QS W l_212 ((f_212 W.w.params).env L) 0 (execs (bodyOf (K0 W.w.params) 212) ((f_212 W.w.params).env L)) D_tel_ret_count :=
(q_seq (q_return (q_attr (q_loc rfl (by kernel_rfl)) (p_ret (tel_ok U)) rfl))
q_nil)
theorem pl_212 (U : Setup W) : QPL W 1 (fun vs => call (.ref 212) vs) R_tel_ret_count := q_fun (F := f_212 W.w.params) (lay := l_212) (fnOK_of U.hK (chk_212 _) (b1 (bnd_212 _))) ⟨_, rfl⟩ (by decide) fun L => body_212 U L

noncomputable def l_226 : List Str := [("op" : Str)]
theorem chk_226 (P : Params) : fnChk (K0 P) 226 [("op" : Str)] = true := by kernel_rfl
theorem bnd_226 (P : Params) : ∀ a0, bindArgs (fdOf (K0 P) 226) ⟨[a0], []⟩ = pure [(("op" : Str), a0)] := by intros; kernel_rfl
noncomputable abbrev f_226 (P : Params) : Fn := fnAt (K0 P) 226 [("op" : Str)]
theorem lay_226 (P : Params) (L : Addr) : LayOK l_226 ((f_226 P).env L) := .of L (by decide) (by decide) (by kernel_rfl)
theorem body_226 (U : Setup W) (L : Addr) : QS W l_226 ((f_226 W.w.params).env L) 0 (execs (bodyOf (K0 W.w.params) 226) ((f_226 W.w.params).env L)) D_op_sort :=
(q_seq (q_return (q_get (tabF U) (t := 0) (by decide) (by kernel_rfl) (by rw [U.t0]; exact U.ns (by kernel_rfl)) (by kernel_rfl) (.cons rfl (.cons rfl .nil)) (q_args_cons rfl (q_loc rfl (by kernel_rfl)) (q_args_cons rfl (q_neg q_int) q_args_nil)) rfl rfl rfl))
q_nil)
theorem pl_226 (U : Setup W) : QPL W 1 (fun vs => call (.ref 226) vs) R_op_sort := q_fun (F := f_226 W.w.params) (lay := l_226) (fnOK_of U.hK (chk_226 _) (b1 (bnd_226 _))) ⟨_, rfl⟩ (by decide) fun L => body_226 U L

noncomputable def l_233 : List Str := [("op" : Str)]
theorem chk_233 (P : Params) : fnChk (K0 P) 233 [("op" : Str)] = true := by kernel_rfl
theorem bnd_233 (P : Params) : ∀ a0, bindArgs (fdOf (K0 P) 233) ⟨[a0], []⟩ = pure [(("op" : Str), a0)] := by intros; kernel_rfl
noncomputable abbrev f_233 (P : Params) : Fn := fnAt (K0 P) 233 [("op" : Str)]
theorem lay_233 (P : Params) (L : Addr) : LayOK l_233 ((f_233 P).env L) := .of L (by decide) (by decide) (by kernel_rfl)
theorem body_233 (U : Setup W) (L : Addr) : QS W l_233 ((f_233 W.w.params).env L) 0 (execs (bodyOf (K0 W.w.params) 233) ((f_233 W.w.params).env L)) D_ends_flow :=
(q_seq (q_if (q_boolop (q_or_cons (q_testC (q_loc rfl (by kernel_rfl)) (q_glob (v := .int 56 191) (by kernel_rfl) (U.ns (by kernel_rfl)) (by kernel_rfl) fun _ _ _ => .int _ _) p_eq rfl) (q_or_cons (q_testC (q_loc rfl (by kernel_rfl)) (q_glob (v := .int 42 189) (by kernel_rfl) (U.ns (by kernel_rfl)) (by kernel_rfl) fun _ _ _ => .int _ _) p_eq rfl) (q_or_cons (q_testC (q_loc rfl (by kernel_rfl)) (q_glob (v := .int 122 199) (by kernel_rfl) (U.ns (by kernel_rfl)) (by kernel_rfl) fun _ _ _ => .int _ _) p_eq rfl) (q_or_cons (q_testC (q_loc rfl (by kernel_rfl)) (q_glob (v := .int 221 205) (by kernel_rfl) (U.ns (by kernel_rfl)) (by kernel_rfl) fun _ _ _ => .int _ _) p_eq rfl) q_or_nil)))))
(q_seq (q_return q_bool)
q_nil)
q_nil)
(q_seq (q_return (q_orV (q_cmp (q_loc rfl (by kernel_rfl)) (q_glob (v := .int 65050 211) (by kernel_rfl) (U.ns (by kernel_rfl)) (by kernel_rfl) fun _ _ _ => .int _ _) p_eq rfl) (q_orV (q_cmp (q_loc rfl (by kernel_rfl)) (q_glob (v := .int 220 203) (by kernel_rfl) (U.ns (by kernel_rfl)) (by kernel_rfl) fun _ _ _ => .int _ _) p_eq rfl) (q_orV_one (q_cmp (q_loc rfl (by kernel_rfl)) (q_glob (v := .int 65041 207) (by kernel_rfl) (U.ns (by kernel_rfl)) (by kernel_rfl) fun _ _ _ => .int _ _) p_eq rfl)))))
q_nil))
theorem pl_233 (U : Setup W) : QPL W 1 (fun vs => call (.ref 233) vs) R_ends_flow := q_fun (F := f_233 W.w.params) (lay := l_233) (fnOK_of U.hK (chk_233 _) (b1 (bnd_233 _))) ⟨_, rfl⟩ (by decide) fun L => body_233 U L

noncomputable def l_240 : List Str := [("op" : Str)]
theorem chk_240 (P : Params) : fnChk (K0 P) 240 [("op" : Str)] = true := by kernel_rfl
theorem bnd_240 (P : Params) : ∀ a0, bindArgs (fdOf (K0 P) 240) ⟨[a0], []⟩ = pure [(("op" : Str), a0)] := by intros; kernel_rfl
noncomputable abbrev f_240 (P : Params) : Fn := fnAt (K0 P) 240 [("op" : Str)]
theorem lay_240 (P : Params) (L : Addr) : LayOK l_240 ((f_240 P).env L) := .of L (by decide) (by decide) (by kernel_rfl)
theorem body_240 (U : Setup W) (L : Addr) : QS W l_240 ((f_240 W.w.params).env L) 0 (execs (bodyOf (K0 W.w.params) 240) ((f_240 W.w.params).env L)) D_is_branch :=
(q_seq (q_return (q_cmp (q_get (tabF U) (t := 0) (by decide) (by kernel_rfl) (by rw [U.t0]; exact U.ns (by kernel_rfl)) (by kernel_rfl) (.cons rfl (.cons rfl .nil)) (q_args_cons rfl (q_loc rfl (by kernel_rfl)) (q_args_cons rfl (q_neg q_int) q_args_nil)) rfl rfl rfl) (q_glob (v := .int 5 280) (by kernel_rfl) (U.ns (by kernel_rfl)) (by kernel_rfl) fun _ _ _ => .int _ _) p_eq rfl))
q_nil)
theorem pl_240 (U : Setup W) : QPL W 1 (fun vs => call (.ref 240) vs) R_is_branch := q_fun (F := f_240 W.w.params) (lay := l_240) (fnOK_of U.hK (chk_240 _) (b1 (bnd_240 _))) ⟨_, rfl⟩ (by decide) fun L => body_240 U L

noncomputable def l_247 : List Str := [("ins" : Str)]
theorem chk_247 (P : Params) : fnChk (K0 P) 247 [("ins" : Str)] = true := by kernel_rfl
theorem bnd_247 (P : Params) : ∀ a0, bindArgs (fdOf (K0 P) 247) ⟨[a0], []⟩ = pure [(("ins" : Str), a0)] := by intros; kernel_rfl
noncomputable abbrev f_247 (P : Params) : Fn := fnAt (K0 P) 247 [("ins" : Str)]
theorem lay_247 (P : Params) (L : Addr) : LayOK l_247 ((f_247 P).env L) := .of L (by decide) (by decide) (by kernel_rfl)
theorem body_247 (U : Setup W) (L : Addr) : QS W l_247 ((f_247 W.w.params).env L) 1 (execs (bodyOf (K0 W.w.params) 247) ((f_247 W.w.params).env L)) D_targets :=
(q_seq (q_if (q_testC (q_sub (tabF U) (q_loc rfl (by kernel_rfl)) q_int fun _ _ => rfl) (q_glob (v := .int 69 193) (by kernel_rfl) (U.ns (by kernel_rfl)) (by kernel_rfl) fun _ _ _ => .int _ _) p_eq rfl)
(q_seq (q_return (q_sub (tabF U) (q_loc rfl (by kernel_rfl)) q_int fun _ _ => rfl))
q_nil)
q_nil)
(q_seq (q_if (q_testV (q_call (by kernel_rfl) (U.ns (by kernel_rfl)) (by kernel_rfl) (U.keep (by kernel_rfl)) (.cons rfl .nil) (q_args_cons rfl (q_sub (tabF U) (q_loc rfl (by kernel_rfl)) q_int fun _ _ => rfl) q_args_nil) ((pl_240 U).up (by decide))) rfl)
(q_seq (q_return (q_tuple (q_args_cons rfl (q_sub (tabF U) (q_loc rfl (by kernel_rfl)) q_int fun _ _ => rfl) q_args_nil)))
q_nil)
q_nil)
(q_seq (q_return (q_tuple q_args_nil))
q_nil)))
theorem pl_247 (U : Setup W) : QPL W 2 (fun vs => call (.ref 247) vs) R_targets := q_fun (F := f_247 W.w.params) (lay := l_247) (fnOK_of U.hK (chk_247 _) (b1 (bnd_247 _))) ⟨_, rfl⟩ (by decide) fun L => body_247 U L

noncomputable def l_254 : List Str := [("op" : Str)]
theorem chk_254 (P : Params) : fnChk (K0 P) 254 [("op" : Str)] = true := by kernel_rfl
theorem bnd_254 (P : Params) : ∀ a0, bindArgs (fdOf (K0 P) 254) ⟨[a0], []⟩ = pure [(("op" : Str), a0)] := by intros; kernel_rfl
noncomputable abbrev f_254 (P : Params) : Fn := fnAt (K0 P) 254 [("op" : Str)]
theorem lay_254 (P : Params) (L : Addr) : LayOK l_254 ((f_254 P).env L) := .of L (by decide) (by decide) (by kernel_rfl)
theorem body_254 (U : Setup W) (L : Addr) : QS W l_254 ((f_254 W.w.params).env L) 0 (execs (bodyOf (K0 W.w.params) 254) ((f_254 W.w.params).env L)) D_prefix_goal :=
(q_seq (q_if (q_testC (q_loc rfl (by kernel_rfl)) (q_glob (v := .int 65046 209) (by kernel_rfl) (U.ns (by kernel_rfl)) (by kernel_rfl) fun _ _ _ => .int _ _) p_eq rfl)
(q_seq (q_return (q_glob (v := .int 111 195) (by kernel_rfl) (U.ns (by kernel_rfl)) (by kernel_rfl) fun _ _ _ => .int _ _))
q_nil)
q_nil)
(q_seq (q_if (q_testC (q_loc rfl (by kernel_rfl)) (q_glob (v := .int 65054 213) (by kernel_rfl) (U.ns (by kernel_rfl)) (by kernel_rfl) fun _ _ _ => .int _ _) p_eq rfl)
(q_seq (q_return (q_glob (v := .int 143 201) (by kernel_rfl) (U.ns (by kernel_rfl)) (by kernel_rfl) fun _ _ _ => .int _ _))
q_nil)
q_nil)
(q_seq (q_return (q_neg q_int))
q_nil)))
theorem pl_254 (U : Setup W) : QPL W 1 (fun vs => call (.ref 254) vs) R_prefix_goal := q_fun (F := f_254 W.w.params) (lay := l_254) (fnOK_of U.hK (chk_254 _) (b1 (bnd_254 _))) ⟨_, rfl⟩ (by decide) fun L => body_254 U L

noncomputable def l_261 : List Str := [("ins" : Str), ("teller" : Str), ("op" : Str), ("taken" : Str)]
theorem chk_261 (P : Params) : fnChk (K0 P) 261 [("ins" : Str), ("teller" : Str)] = true := by kernel_rfl
theorem bnd_261 (P : Params) : ∀ a0 a1, bindArgs (fdOf (K0 P) 261) ⟨[a0, a1], []⟩ = pure [(("ins" : Str), a0), (("teller" : Str), a1)] := by intros; kernel_rfl
noncomputable abbrev f_261 (P : Params) : Fn := fnAt (K0 P) 261 [("ins" : Str), ("teller" : Str)]
theorem lay_261 (P : Params) (L : Addr) : LayOK l_261 ((f_261 P).env L) := .of L (by decide) (by decide) (by kernel_rfl)
theorem body_261 (U : Setup W) (L : Addr) : QS W l_261 ((f_261 W.w.params).env L) 1 (execs (bodyOf (K0 W.w.params) 261) ((f_261 W.w.params).env L)) D_pops_pushes :=
(q_seq (q_assign (lay_261 _ L) rfl rfl (q_sub (tabF U) (q_loc rfl (by kernel_rfl)) q_int fun _ _ => rfl))
(q_seq (q_if (q_testC (q_loc rfl (by kernel_rfl)) (q_glob (v := .ref (W.tabA 1)) (by kernel_rfl) (by rw [U.t1]; exact U.ns (by kernel_rfl)) (by kernel_rfl) fun _ _ _ => .tab _) (p_in (tabF U)) rfl)
(q_seq (q_return (q_sub (tabF U) (q_glob (v := .ref (W.tabA 1)) (by kernel_rfl) (by rw [U.t1]; exact U.ns (by kernel_rfl)) (by kernel_rfl) fun _ _ _ => .tab _) (q_loc rfl (by kernel_rfl)) fun _ _ => rfl))
q_nil)
q_nil)
(q_seq (q_if (q_testC (q_loc rfl (by kernel_rfl)) (q_glob (v := .int 42 189) (by kernel_rfl) (U.ns (by kernel_rfl)) (by kernel_rfl) fun _ _ _ => .int _ _) p_eq rfl)
(q_seq (q_return (q_tuple (q_args_cons rfl (q_telM (tel_ok U) (q_loc rfl (by kernel_rfl)) .nil q_args_nil ((pl_212 U).up (by decide)) (by rw [U.hK, U.tel]; kernel_rfl) (by rw [U.hK]; kernel_rfl) (U.keep (by kernel_rfl)) (by decide) (by decide) rfl) (q_args_cons rfl q_int q_args_nil))))
q_nil)
q_nil)
(q_seq (q_if (q_boolop (q_or_cons (q_testC (q_loc rfl (by kernel_rfl)) (q_glob (v := .int 40 187) (by kernel_rfl) (U.ns (by kernel_rfl)) (by kernel_rfl) fun _ _ _ => .int _ _) p_eq rfl) (q_or_cons (q_testC (q_loc rfl (by kernel_rfl)) (q_glob (v := .int 111 195) (by kernel_rfl) (U.ns (by kernel_rfl)) (by kernel_rfl) fun _ _ _ => .int _ _) p_eq rfl) q_or_nil)))
(q_seq (q_if (q_testC (q_sub (tabF U) (q_sub (tabF U) (q_loc rfl (by kernel_rfl)) q_int fun _ _ => rfl) q_int fun _ _ => rfl) q_int p_eq rfl)
(q_seq (q_raise (bad_ok U) (bad_isf U) (by kernel_rfl) (by rw [U.bad]; exact U.ns (by kernel_rfl)) (by kernel_rfl) rfl q_int)
q_nil)
q_nil)
(q_seq (q_return (q_telM (tel_ok U) (q_loc rfl (by kernel_rfl)) (.cons rfl .nil) (q_args_cons rfl (q_sub (tabF U) (q_loc rfl (by kernel_rfl)) q_int fun _ _ => rfl) q_args_nil) ((pl_205 U).up (by decide)) (by rw [U.hK, U.tel]; kernel_rfl) (by rw [U.hK]; kernel_rfl) (U.keep (by kernel_rfl)) (by decide) (by decide) rfl))
q_nil))
q_nil)
(q_seq (q_if (q_testC (q_loc rfl (by kernel_rfl)) (q_glob (v := .int 115 197) (by kernel_rfl) (U.ns (by kernel_rfl)) (by kernel_rfl) fun _ _ _ => .int _ _) p_eq rfl)
(q_seq (q_if (q_testC (q_sub (tabF U) (q_sub (tabF U) (q_loc rfl (by kernel_rfl)) q_int fun _ _ => rfl) q_int fun _ _ => rfl) q_int p_eq rfl)
(q_seq (q_return (q_tuple (q_args_cons rfl q_int (q_args_cons rfl q_int q_args_nil))))
q_nil)
q_nil)
(q_seq (q_assign (lay_261 _ L) rfl rfl (q_sub (tabF U) (q_telM (tel_ok U) (q_loc rfl (by kernel_rfl)) (.cons rfl .nil) (q_args_cons rfl (q_sub (tabF U) (q_loc rfl (by kernel_rfl)) q_int fun _ _ => rfl) q_args_nil) ((pl_205 U).up (by decide)) (by rw [U.hK, U.tel]; kernel_rfl) (by rw [U.hK]; kernel_rfl) (U.keep (by kernel_rfl)) (by decide) (by decide) rfl) q_int fun _ _ => rfl))
(q_seq (q_if (q_testC (q_loc rfl (by kernel_rfl)) q_int p_lt rfl)
(q_seq (q_raise (bad_ok U) (bad_isf U) (by kernel_rfl) (by rw [U.bad]; exact U.ns (by kernel_rfl)) (by kernel_rfl) rfl (q_sub (tabF U) (q_sub (tabF U) (q_loc rfl (by kernel_rfl)) q_int fun _ _ => rfl) q_int fun _ _ => rfl))
q_nil)
q_nil)
(q_seq (q_return (q_tuple (q_args_cons rfl (q_bin (q_loc rfl (by kernel_rfl)) q_int p_sub) (q_args_cons rfl q_int q_args_nil))))
q_nil))))
q_nil)
(q_seq (q_raise (bad_ok U) (bad_isf U) (by kernel_rfl) (by rw [U.bad]; exact U.ns (by kernel_rfl)) (by kernel_rfl) rfl (q_loc rfl (by kernel_rfl)))
q_nil))))))
theorem pl_261 (U : Setup W) : QPL W 2 (fun vs => call (.ref 261) vs) R_pops_pushes := q_fun (F := f_261 W.w.params) (lay := l_261) (fnOK_of U.hK (chk_261 _) (b2 (bnd_261 _))) ⟨_, rfl⟩ (by decide) fun L => body_261 U L

noncomputable def l_268 : List Str := [("clause" : Str)]
theorem chk_268 (P : Params) : fnChk (K0 P) 268 [("clause" : Str)] = true := by kernel_rfl
theorem bnd_268 (P : Params) : ∀ a0, bindArgs (fdOf (K0 P) 268) ⟨[a0], []⟩ = pure [(("clause" : Str), a0)] := by intros; kernel_rfl
noncomputable abbrev f_268 (P : Params) : Fn := fnAt (K0 P) 268 [("clause" : Str)]
theorem lay_268 (P : Params) (L : Addr) : LayOK l_268 ((f_268 P).env L) := .of L (by decide) (by decide) (by kernel_rfl)
theorem body_268 (U : Setup W) (L : Addr) : QS W l_268 ((f_268 W.w.params).env L) 0 (execs (bodyOf (K0 W.w.params) 268) ((f_268 W.w.params).env L)) D_clause_edges :=
(q_seq (q_if (q_testC (q_sub (tabF U) (q_loc rfl (by kernel_rfl)) q_int fun _ _ => rfl) (q_glob (v := .int 1 217) (by kernel_rfl) (U.ns (by kernel_rfl)) (by kernel_rfl) fun _ _ _ => .int _ _) p_eq rfl)
(q_seq (q_return (q_tuple (q_args_cons rfl (q_sub (tabF U) (q_loc rfl (by kernel_rfl)) q_int fun _ _ => rfl) (q_args_cons rfl (q_sub (tabF U) (q_loc rfl (by kernel_rfl)) q_int fun _ _ => rfl) (q_args_cons rfl (q_sub (tabF U) (q_loc rfl (by kernel_rfl)) q_int fun _ _ => rfl) (q_args_cons rfl (q_sub (tabF U) (q_loc rfl (by kernel_rfl)) q_int fun _ _ => rfl) (q_args_cons rfl (q_sub (tabF U) (q_loc rfl (by kernel_rfl)) q_int fun _ _ => rfl) q_args_nil)))))))
q_nil)
q_nil)
(q_seq (q_return (q_tuple (q_args_cons rfl (q_sub (tabF U) (q_loc rfl (by kernel_rfl)) q_int fun _ _ => rfl) (q_args_cons rfl (q_sub (tabF U) (q_loc rfl (by kernel_rfl)) q_int fun _ _ => rfl) (q_args_cons rfl (q_sub (tabF U) (q_loc rfl (by kernel_rfl)) q_int fun _ _ => rfl) (q_args_cons rfl (q_sub (tabF U) (q_loc rfl (by kernel_rfl)) q_int fun _ _ => rfl) q_args_nil))))))
q_nil))
theorem pl_268 (U : Setup W) : QPL W 1 (fun vs => call (.ref 268) vs) R_clause_edges := q_fun (F := f_268 W.w.params) (lay := l_268) (fnOK_of U.hK (chk_268 _) (b1 (bnd_268 _))) ⟨_, rfl⟩ (by decide) fun L => body_268 U L

noncomputable def l_275 : List Str := [("code" : Str), ("clauses" : Str), ("count" : Str), ("at" : Str), ("clause" : Str), ("edge" : Str)]
theorem chk_275 (P : Params) : fnChk (K0 P) 275 [("code" : Str), ("clauses" : Str)] = true := by kernel_rfl
theorem bnd_275 (P : Params) : ∀ a0 a1, bindArgs (fdOf (K0 P) 275) ⟨[a0, a1], []⟩ = pure [(("code" : Str), a0), (("clauses" : Str), a1)] := by intros; kernel_rfl
noncomputable abbrev f_275 (P : Params) : Fn := fnAt (K0 P) 275 [("code" : Str), ("clauses" : Str)]
theorem lay_275 (P : Params) (L : Addr) : LayOK l_275 ((f_275 P).env L) := .of L (by decide) (by decide) (by kernel_rfl)
theorem body_275 (U : Setup W) (L : Addr) : QS W l_275 ((f_275 W.w.params).env L) 1 (execs (bodyOf (K0 W.w.params) 275) ((f_275 W.w.params).env L)) D_check_edges :=
(q_seq (q_assign (lay_275 _ L) rfl rfl (q_blt (by kernel_rfl) (U.ns (by kernel_rfl)) (by kernel_rfl) (by decide) (by kernel_rfl) (.inl ⟨_, rfl⟩) (.cons rfl .nil) (q_args_cons rfl (q_loc rfl (by kernel_rfl)) q_args_nil) pl_len))
(q_seq (q_for (q_blt (by kernel_rfl) (U.ns (by kernel_rfl)) (by kernel_rfl) (by decide) (by kernel_rfl) (.inr ⟨_, rfl⟩) (.cons rfl .nil) (q_args_cons rfl (q_blt (by kernel_rfl) (U.ns (by kernel_rfl)) (by kernel_rfl) (by decide) (by kernel_rfl) (.inl ⟨_, rfl⟩) (.cons rfl .nil) (q_args_cons rfl (q_loc rfl (by kernel_rfl)) q_args_nil) pl_len) q_args_nil) pl_range) (tgl_one (lay_275 _ L) rfl)
(q_seq (q_assign (lay_275 _ L) rfl rfl (q_sub (tabF U) (q_loc rfl (by kernel_rfl)) (q_loc rfl (by kernel_rfl)) fun _ _ => rfl))
(q_seq (q_if (q_boolop (q_or_cons (q_testC (q_sub (tabF U) (q_loc rfl (by kernel_rfl)) q_int fun _ _ => rfl) (q_loc rfl (by kernel_rfl)) p_ge rfl) (q_or_cons (q_testC (q_sub (tabF U) (q_loc rfl (by kernel_rfl)) q_int fun _ _ => rfl) (q_loc rfl (by kernel_rfl)) p_ge rfl) (q_or_cons (q_boolop (q_and_cons (q_testC (q_sub (tabF U) (q_loc rfl (by kernel_rfl)) q_int fun _ _ => rfl) (q_glob (v := .int 1 217) (by kernel_rfl) (U.ns (by kernel_rfl)) (by kernel_rfl) fun _ _ _ => .int _ _) p_eq rfl) (q_and_cons (q_testC (q_sub (tabF U) (q_loc rfl (by kernel_rfl)) q_int fun _ _ => rfl) (q_loc rfl (by kernel_rfl)) p_ge rfl) q_and_nil))) q_or_nil))))
(q_seq (q_raise (bad_ok U) (bad_isf U) (by kernel_rfl) (by rw [U.bad]; exact U.ns (by kernel_rfl)) (by kernel_rfl) rfl (q_loc rfl (by kernel_rfl)))
q_nil)
q_nil)
(q_seq (q_for (q_call (by kernel_rfl) (U.ns (by kernel_rfl)) (by kernel_rfl) (U.keep (by kernel_rfl)) (.cons rfl .nil) (q_args_cons rfl (q_loc rfl (by kernel_rfl)) q_args_nil) ((pl_268 U).up (by decide))) (tgl_one (lay_275 _ L) rfl)
(q_seq (q_if (q_boolop (q_or_cons (q_testC (q_loc rfl (by kernel_rfl)) q_int p_lt rfl) (q_or_cons (q_testC (q_loc rfl (by kernel_rfl)) (q_loc rfl (by kernel_rfl)) p_gt rfl) (q_or_cons (q_boolop (q_and_cons (q_testC (q_loc rfl (by kernel_rfl)) q_int p_gt rfl) (q_and_cons (q_testC (q_call (by kernel_rfl) (U.ns (by kernel_rfl)) (by kernel_rfl) (U.keep (by kernel_rfl)) (.cons rfl .nil) (q_args_cons rfl (q_sub (tabF U) (q_sub (tabF U) (q_loc rfl (by kernel_rfl)) (q_bin (q_loc rfl (by kernel_rfl)) q_int p_sub) fun _ _ => rfl) q_int fun _ _ => rfl) q_args_nil) ((pl_254 U).up (by decide))) q_int p_ge rfl) q_and_nil))) q_or_nil))))
(q_seq (q_raise (bad_ok U) (bad_isf U) (by kernel_rfl) (by rw [U.bad]; exact U.ns (by kernel_rfl)) (by kernel_rfl) rfl (q_loc rfl (by kernel_rfl)))
q_nil)
q_nil)
q_nil) fun _ => rfl)
q_nil))) fun _ => rfl)
q_nil))
theorem pl_275 (U : Setup W) : QPL W 2 (fun vs => call (.ref 275) vs) R_check_edges := q_fun (F := f_275 W.w.params) (lay := l_275) (fnOK_of U.hK (chk_275 _) (b2 (bnd_275 _))) ⟨_, rfl⟩ (by decide) fun L => body_275 U L

noncomputable def l_282 : List Str := [("code" : Str), ("i" : Str), ("count" : Str), ("out" : Str), ("goal" : Str)]
theorem chk_282 (P : Params) : fnChk (K0 P) 282 [("code" : Str), ("i" : Str)] = true := by kernel_rfl
theorem bnd_282 (P : Params) : ∀ a0 a1, bindArgs (fdOf (K0 P) 282) ⟨[a0, a1], []⟩ = pure [(("code" : Str), a0), (("i" : Str), a1)] := by intros; kernel_rfl
noncomputable abbrev f_282 (P : Params) : Fn := fnAt (K0 P) 282 [("code" : Str), ("i" : Str)]
theorem lay_282 (P : Params) (L : Addr) : LayOK l_282 ((f_282 P).env L) := .of L (by decide) (by decide) (by kernel_rfl)
theorem body_282 (U : Setup W) (L : Addr) : QS W l_282 ((f_282 W.w.params).env L) 2 (execs (bodyOf (K0 W.w.params) 282) ((f_282 W.w.params).env L)) D_successors :=
(q_seq (q_assign (lay_282 _ L) rfl rfl (q_blt (by kernel_rfl) (U.ns (by kernel_rfl)) (by kernel_rfl) (by decide) (by kernel_rfl) (.inl ⟨_, rfl⟩) (.cons rfl .nil) (q_args_cons rfl (q_loc rfl (by kernel_rfl)) q_args_nil) pl_len))
(q_seq (q_assign (lay_282 _ L) rfl rfl (q_list q_args_nil))
(q_seq (q_if (q_boolop (q_and_cons (q_not (q_testV (q_call (by kernel_rfl) (U.ns (by kernel_rfl)) (by kernel_rfl) (U.keep (by kernel_rfl)) (.cons rfl .nil) (q_args_cons rfl (q_sub (tabF U) (q_sub (tabF U) (q_loc rfl (by kernel_rfl)) (q_loc rfl (by kernel_rfl)) fun _ _ => rfl) q_int fun _ _ => rfl) q_args_nil) ((pl_233 U).up (by decide))) rfl)) (q_and_cons (q_testC (q_bin (q_loc rfl (by kernel_rfl)) q_int p_add) (q_loc rfl (by kernel_rfl)) p_lt rfl) q_and_nil)))
(q_seq (q_expr (q_methL (q_loc rfl (by kernel_rfl)) (.cons rfl .nil) (q_args_cons rfl (q_bin (q_loc rfl (by kernel_rfl)) q_int p_add) q_args_nil) pl_append PySem.F.slot_list_append PySem.F.type_list_append rfl rfl rfl) rfl rfl)
q_nil)
q_nil)
(q_seq (q_for (q_call (by kernel_rfl) (U.ns (by kernel_rfl)) (by kernel_rfl) (U.keep (by kernel_rfl)) (.cons rfl .nil) (q_args_cons rfl (q_sub (tabF U) (q_loc rfl (by kernel_rfl)) (q_loc rfl (by kernel_rfl)) fun _ _ => rfl) q_args_nil) ((pl_247 U).up (by decide))) (tgl_one (lay_282 _ L) rfl)
(q_seq (q_if (q_boolop (q_or_cons (q_testC (q_loc rfl (by kernel_rfl)) q_int p_lt rfl) (q_or_cons (q_testC (q_loc rfl (by kernel_rfl)) (q_loc rfl (by kernel_rfl)) p_ge rfl) q_or_nil)))
(q_seq (q_raise (bad_ok U) (bad_isf U) (by kernel_rfl) (by rw [U.bad]; exact U.ns (by kernel_rfl)) (by kernel_rfl) rfl (q_loc rfl (by kernel_rfl)))
q_nil)
q_nil)
(q_seq (q_if (q_testC (q_loc rfl (by kernel_rfl)) (q_loc rfl (by kernel_rfl)) (p_notIn (tabF U)) rfl)
(q_seq (q_expr (q_methL (q_loc rfl (by kernel_rfl)) (.cons rfl .nil) (q_args_cons rfl (q_loc rfl (by kernel_rfl)) q_args_nil) pl_append PySem.F.slot_list_append PySem.F.type_list_append rfl rfl rfl) rfl rfl)
q_nil)
q_nil)
q_nil)) fun _ => rfl)
(q_seq (q_return (q_blt (by kernel_rfl) (U.ns (by kernel_rfl)) (by kernel_rfl) (by decide) (by kernel_rfl) (.inr ⟨_, rfl⟩) (.cons rfl .nil) (q_args_cons rfl (q_loc rfl (by kernel_rfl)) q_args_nil) pl_tuple))
q_nil)))))
theorem pl_282 (U : Setup W) : QPL W 3 (fun vs => call (.ref 282) vs) R_successors := q_fun (F := f_282 W.w.params) (lay := l_282) (fnOK_of U.hK (chk_282 _) (b2 (bnd_282 _))) ⟨_, rfl⟩ (by decide) fun L => body_282 U L

noncomputable def l_289 : List Str := [("depths" : Str), ("work" : Str), ("i" : Str), ("depth" : Str)]
theorem chk_289 (P : Params) : fnChk (K0 P) 289 [("depths" : Str), ("work" : Str), ("i" : Str), ("depth" : Str)] = true := by kernel_rfl
theorem bnd_289 (P : Params) : ∀ a0 a1 a2 a3, bindArgs (fdOf (K0 P) 289) ⟨[a0, a1, a2, a3], []⟩ = pure [(("depths" : Str), a0), (("work" : Str), a1), (("i" : Str), a2), (("depth" : Str), a3)] := by intros; kernel_rfl
noncomputable abbrev f_289 (P : Params) : Fn := fnAt (K0 P) 289 [("depths" : Str), ("work" : Str), ("i" : Str), ("depth" : Str)]
theorem lay_289 (P : Params) (L : Addr) : LayOK l_289 ((f_289 P).env L) := .of L (by decide) (by decide) (by kernel_rfl)
theorem body_289 (U : Setup W) (L : Addr) : QS W l_289 ((f_289 W.w.params).env L) 0 (execs (bodyOf (K0 W.w.params) 289) ((f_289 W.w.params).env L)) D_enter_depth :=
(q_seq (q_if (q_boolop (q_or_cons (q_testC (q_loc rfl (by kernel_rfl)) q_int p_lt rfl) (q_or_cons (q_testC (q_loc rfl (by kernel_rfl)) (q_blt (by kernel_rfl) (U.ns (by kernel_rfl)) (by kernel_rfl) (by decide) (by kernel_rfl) (.inl ⟨_, rfl⟩) (.cons rfl .nil) (q_args_cons rfl (q_loc rfl (by kernel_rfl)) q_args_nil) pl_len) p_ge rfl) q_or_nil)))
(q_seq (q_raise (bad_ok U) (bad_isf U) (by kernel_rfl) (by rw [U.bad]; exact U.ns (by kernel_rfl)) (by kernel_rfl) rfl (q_loc rfl (by kernel_rfl)))
q_nil)
q_nil)
(q_seq (q_if (q_testC (q_sub (tabF U) (q_loc rfl (by kernel_rfl)) (q_loc rfl (by kernel_rfl)) fun _ _ => rfl) q_int p_lt rfl)
(q_seq (q_setItem (q_loc rfl (by kernel_rfl)) (q_loc rfl (by kernel_rfl)) (q_loc rfl (by kernel_rfl)) rfl)
(q_seq (q_expr (q_methL (q_loc rfl (by kernel_rfl)) (.cons rfl .nil) (q_args_cons rfl (q_loc rfl (by kernel_rfl)) q_args_nil) pl_append PySem.F.slot_list_append PySem.F.type_list_append rfl rfl rfl) rfl rfl)
q_nil))
(q_seq (q_if (q_testC (q_sub (tabF U) (q_loc rfl (by kernel_rfl)) (q_loc rfl (by kernel_rfl)) fun _ _ => rfl) (q_loc rfl (by kernel_rfl)) p_ne rfl)
(q_seq (q_raise (bad_ok U) (bad_isf U) (by kernel_rfl) (by rw [U.bad]; exact U.ns (by kernel_rfl)) (by kernel_rfl) rfl (q_loc rfl (by kernel_rfl)))
q_nil)
q_nil)
q_nil))
q_nil))
theorem pl_289 (U : Setup W) : QPL W 1 (fun vs => call (.ref 289) vs) R_enter_depth := q_fun (F := f_289 W.w.params) (lay := l_289) (fnOK_of U.hK (chk_289 _) (b4 (bnd_289 _))) ⟨_, rfl⟩ (by decide) fun L => body_289 U L

noncomputable def l_296 : List Str := [("code" : Str), ("clauses" : Str), ("depths" : Str), ("work" : Str), ("clause" : Str), ("depth" : Str)]
theorem chk_296 (P : Params) : fnChk (K0 P) 296 [("code" : Str), ("clauses" : Str), ("depths" : Str), ("work" : Str)] = true := by kernel_rfl
theorem bnd_296 (P : Params) : ∀ a0 a1 a2 a3, bindArgs (fdOf (K0 P) 296) ⟨[a0, a1, a2, a3], []⟩ = pure [(("code" : Str), a0), (("clauses" : Str), a1), (("depths" : Str), a2), (("work" : Str), a3)] := by intros; kernel_rfl
noncomputable abbrev f_296 (P : Params) : Fn := fnAt (K0 P) 296 [("code" : Str), ("clauses" : Str), ("depths" : Str), ("work" : Str)]
theorem lay_296 (P : Params) (L : Addr) : LayOK l_296 ((f_296 P).env L) := .of L (by decide) (by decide) (by kernel_rfl)
theorem body_296 (U : Setup W) (L : Addr) : QS W l_296 ((f_296 W.w.params).env L) 1 (execs (bodyOf (K0 W.w.params) 296) ((f_296 W.w.params).env L)) D_start_depths :=
(q_seq (q_if (q_testC (q_blt (by kernel_rfl) (U.ns (by kernel_rfl)) (by kernel_rfl) (by decide) (by kernel_rfl) (.inl ⟨_, rfl⟩) (.cons rfl .nil) (q_args_cons rfl (q_loc rfl (by kernel_rfl)) q_args_nil) pl_len) q_int p_gt rfl)
(q_seq (q_expr (q_call (by kernel_rfl) (U.ns (by kernel_rfl)) (by kernel_rfl) (U.keep (by kernel_rfl)) (.cons rfl (.cons rfl (.cons rfl (.cons rfl .nil)))) (q_args_cons rfl (q_loc rfl (by kernel_rfl)) (q_args_cons rfl (q_loc rfl (by kernel_rfl)) (q_args_cons rfl q_int (q_args_cons rfl q_int q_args_nil)))) ((pl_289 U).up (by decide))) rfl rfl)
q_nil)
q_nil)
(q_seq (q_for (q_loc rfl (by kernel_rfl)) (tgl_one (lay_296 _ L) rfl)
(q_seq (q_assign (lay_296 _ L) rfl rfl q_int)
(q_seq (q_if (q_boolop (q_or_cons (q_testC (q_sub (tabF U) (q_loc rfl (by kernel_rfl)) q_int fun _ _ => rfl) (q_glob (v := .int 0 215) (by kernel_rfl) (U.ns (by kernel_rfl)) (by kernel_rfl) fun _ _ _ => .int _ _) p_eq rfl) (q_or_cons (q_testC (q_sub (tabF U) (q_loc rfl (by kernel_rfl)) q_int fun _ _ => rfl) (q_glob (v := .int 1 217) (by kernel_rfl) (U.ns (by kernel_rfl)) (by kernel_rfl) fun _ _ _ => .int _ _) p_eq rfl) q_or_nil)))
(q_seq (q_assign (lay_296 _ L) rfl rfl q_int)
q_nil)
q_nil)
(q_seq (q_expr (q_call (by kernel_rfl) (U.ns (by kernel_rfl)) (by kernel_rfl) (U.keep (by kernel_rfl)) (.cons rfl (.cons rfl (.cons rfl (.cons rfl .nil)))) (q_args_cons rfl (q_loc rfl (by kernel_rfl)) (q_args_cons rfl (q_loc rfl (by kernel_rfl)) (q_args_cons rfl (q_sub (tabF U) (q_loc rfl (by kernel_rfl)) q_int fun _ _ => rfl) (q_args_cons rfl (q_loc rfl (by kernel_rfl)) q_args_nil)))) ((pl_289 U).up (by decide))) rfl rfl)
(q_seq (q_if (q_testC (q_sub (tabF U) (q_loc rfl (by kernel_rfl)) q_int fun _ _ => rfl) (q_glob (v := .int 1 217) (by kernel_rfl) (U.ns (by kernel_rfl)) (by kernel_rfl) fun _ _ _ => .int _ _) p_eq rfl)
(q_seq (q_expr (q_call (by kernel_rfl) (U.ns (by kernel_rfl)) (by kernel_rfl) (U.keep (by kernel_rfl)) (.cons rfl (.cons rfl (.cons rfl (.cons rfl .nil)))) (q_args_cons rfl (q_loc rfl (by kernel_rfl)) (q_args_cons rfl (q_loc rfl (by kernel_rfl)) (q_args_cons rfl (q_sub (tabF U) (q_loc rfl (by kernel_rfl)) q_int fun _ _ => rfl) (q_args_cons rfl q_int q_args_nil)))) ((pl_289 U).up (by decide))) rfl rfl)
q_nil)
q_nil)
q_nil)))) fun _ => rfl)
q_nil))
theorem pl_296 (U : Setup W) : QPL W 2 (fun vs => call (.ref 296) vs) R_start_depths := q_fun (F := f_296 W.w.params) (lay := l_296) (fnOK_of U.hK (chk_296 _) (b4 (bnd_296 _))) ⟨_, rfl⟩ (by decide) fun L => body_296 U L

noncomputable def l_303 : List Str := [("code" : Str), ("i" : Str), ("depth" : Str), ("teller" : Str), ("taken" : Str), ("given" : Str)]
theorem chk_303 (P : Params) : fnChk (K0 P) 303 [("code" : Str), ("i" : Str), ("depth" : Str), ("teller" : Str)] = true := by kernel_rfl
theorem bnd_303 (P : Params) : ∀ a0 a1 a2 a3, bindArgs (fdOf (K0 P) 303) ⟨[a0, a1, a2, a3], []⟩ = pure [(("code" : Str), a0), (("i" : Str), a1), (("depth" : Str), a2), (("teller" : Str), a3)] := by intros; kernel_rfl
noncomputable abbrev f_303 (P : Params) : Fn := fnAt (K0 P) 303 [("code" : Str), ("i" : Str), ("depth" : Str), ("teller" : Str)]
theorem lay_303 (P : Params) (L : Addr) : LayOK l_303 ((f_303 P).env L) := .of L (by decide) (by decide) (by kernel_rfl)
theorem body_303 (U : Setup W) (L : Addr) : QS W l_303 ((f_303 W.w.params).env L) 2 (execs (bodyOf (K0 W.w.params) 303) ((f_303 W.w.params).env L)) D_depth_after :=
(q_seq (q_if (q_testC (q_call (by kernel_rfl) (U.ns (by kernel_rfl)) (by kernel_rfl) (U.keep (by kernel_rfl)) (.cons rfl .nil) (q_args_cons rfl (q_sub (tabF U) (q_sub (tabF U) (q_loc rfl (by kernel_rfl)) (q_loc rfl (by kernel_rfl)) fun _ _ => rfl) q_int fun _ _ => rfl) q_args_nil) ((pl_226 U).up (by decide))) q_int p_lt rfl)
(q_seq (q_raise (bad_ok U) (bad_isf U) (by kernel_rfl) (by rw [U.bad]; exact U.ns (by kernel_rfl)) (by kernel_rfl) rfl (q_loc rfl (by kernel_rfl)))
q_nil)
q_nil)
(q_seq (q_unpack (lay_303 _ L) (.cons rfl (.cons rfl .nil)) (q_call (by kernel_rfl) (U.ns (by kernel_rfl)) (by kernel_rfl) (U.keep (by kernel_rfl)) (.cons rfl (.cons rfl .nil)) (q_args_cons rfl (q_sub (tabF U) (q_loc rfl (by kernel_rfl)) (q_loc rfl (by kernel_rfl)) fun _ _ => rfl) (q_args_cons rfl (q_loc rfl (by kernel_rfl)) q_args_nil)) ((pl_261 U).up (by decide))) rfl rfl)
(q_seq (q_if (q_testC (q_loc rfl (by kernel_rfl)) (q_loc rfl (by kernel_rfl)) p_gt rfl)
(q_seq (q_raise (bad_ok U) (bad_isf U) (by kernel_rfl) (by rw [U.bad]; exact U.ns (by kernel_rfl)) (by kernel_rfl) rfl (q_loc rfl (by kernel_rfl)))
q_nil)
q_nil)
(q_seq (q_if (q_testC (q_sub (tabF U) (q_sub (tabF U) (q_loc rfl (by kernel_rfl)) (q_loc rfl (by kernel_rfl)) fun _ _ => rfl) q_int fun _ _ => rfl) (q_glob (v := .int 221 205) (by kernel_rfl) (U.ns (by kernel_rfl)) (by kernel_rfl) fun _ _ _ => .int _ _) p_eq rfl)
(q_seq (q_return q_int)
q_nil)
q_nil)
(q_seq (q_return (q_bin (q_bin (q_loc rfl (by kernel_rfl)) (q_loc rfl (by kernel_rfl)) p_sub) (q_loc rfl (by kernel_rfl)) p_add))
q_nil)))))
theorem pl_303 (U : Setup W) : QPL W 3 (fun vs => call (.ref 303) vs) R_depth_after := q_fun (F := f_303 W.w.params) (lay := l_303) (fnOK_of U.hK (chk_303 _) (b4 (bnd_303 _))) ⟨_, rfl⟩ (by decide) fun L => body_303 U L

noncomputable def l_310 : List Str := [("code" : Str), ("clauses" : Str), ("teller" : Str), ("depths" : Str), ("work" : Str), ("most" : Str), ("i" : Str), ("after" : Str), ("goal" : Str)]
theorem chk_310 (P : Params) : fnChk (K0 P) 310 [("code" : Str), ("clauses" : Str), ("teller" : Str)] = true := by kernel_rfl
theorem bnd_310 (P : Params) : ∀ a0 a1 a2, bindArgs (fdOf (K0 P) 310) ⟨[a0, a1, a2], []⟩ = pure [(("code" : Str), a0), (("clauses" : Str), a1), (("teller" : Str), a2)] := by intros; kernel_rfl
noncomputable abbrev f_310 (P : Params) : Fn := fnAt (K0 P) 310 [("code" : Str), ("clauses" : Str), ("teller" : Str)]
theorem lay_310 (P : Params) (L : Addr) : LayOK l_310 ((f_310 P).env L) := .of L (by decide) (by decide) (by kernel_rfl)
theorem body_310 (U : Setup W) (L : Addr) : QS W l_310 ((f_310 W.w.params).env L) 3 (execs (bodyOf (K0 W.w.params) 310) ((f_310 W.w.params).env L)) D_max_stack :=
(q_seq (q_expr (q_call (by kernel_rfl) (U.ns (by kernel_rfl)) (by kernel_rfl) (U.keep (by kernel_rfl)) (.cons rfl (.cons rfl .nil)) (q_args_cons rfl (q_loc rfl (by kernel_rfl)) (q_args_cons rfl (q_loc rfl (by kernel_rfl)) q_args_nil)) ((pl_275 U).up (by decide))) rfl rfl)
(q_seq (q_assign (lay_310 _ L) rfl rfl (q_bin (q_list (q_args_cons rfl (q_neg q_int) q_args_nil)) (q_blt (by kernel_rfl) (U.ns (by kernel_rfl)) (by kernel_rfl) (by decide) (by kernel_rfl) (.inl ⟨_, rfl⟩) (.cons rfl .nil) (q_args_cons rfl (q_loc rfl (by kernel_rfl)) q_args_nil) pl_len) p_mul))
(q_seq (q_assign (lay_310 _ L) rfl rfl (q_list q_args_nil))
(q_seq (q_expr (q_call (by kernel_rfl) (U.ns (by kernel_rfl)) (by kernel_rfl) (U.keep (by kernel_rfl)) (.cons rfl (.cons rfl (.cons rfl (.cons rfl .nil)))) (q_args_cons rfl (q_loc rfl (by kernel_rfl)) (q_args_cons rfl (q_loc rfl (by kernel_rfl)) (q_args_cons rfl (q_loc rfl (by kernel_rfl)) (q_args_cons rfl (q_loc rfl (by kernel_rfl)) q_args_nil)))) ((pl_296 U).up (by decide))) rfl rfl)
(q_seq (q_assign (lay_310 _ L) rfl rfl q_int)
(q_seq (q_while 100 (q_testC (q_blt (by kernel_rfl) (U.ns (by kernel_rfl)) (by kernel_rfl) (by decide) (by kernel_rfl) (.inl ⟨_, rfl⟩) (.cons rfl .nil) (q_args_cons rfl (q_loc rfl (by kernel_rfl)) q_args_nil) pl_len) q_int p_gt rfl)
(q_seq (q_assign (lay_310 _ L) rfl rfl (q_methL (q_loc rfl (by kernel_rfl)) .nil q_args_nil pl_pop PySem.F.slot_list_pop PySem.F.type_list_pop rfl rfl rfl))
(q_seq (q_assign (lay_310 _ L) rfl rfl (q_call (by kernel_rfl) (U.ns (by kernel_rfl)) (by kernel_rfl) (U.keep (by kernel_rfl)) (.cons rfl (.cons rfl (.cons rfl (.cons rfl .nil)))) (q_args_cons rfl (q_loc rfl (by kernel_rfl)) (q_args_cons rfl (q_loc rfl (by kernel_rfl)) (q_args_cons rfl (q_sub (tabF U) (q_loc rfl (by kernel_rfl)) (q_loc rfl (by kernel_rfl)) fun _ _ => rfl) (q_args_cons rfl (q_loc rfl (by kernel_rfl)) q_args_nil)))) ((pl_303 U).up (by decide))))
(q_seq (q_if (q_testC (q_sub (tabF U) (q_loc rfl (by kernel_rfl)) (q_loc rfl (by kernel_rfl)) fun _ _ => rfl) (q_loc rfl (by kernel_rfl)) p_gt rfl)
(q_seq (q_assign (lay_310 _ L) rfl rfl (q_sub (tabF U) (q_loc rfl (by kernel_rfl)) (q_loc rfl (by kernel_rfl)) fun _ _ => rfl))
q_nil)
q_nil)
(q_seq (q_if (q_testC (q_loc rfl (by kernel_rfl)) (q_loc rfl (by kernel_rfl)) p_gt rfl)
(q_seq (q_assign (lay_310 _ L) rfl rfl (q_loc rfl (by kernel_rfl)))
q_nil)
q_nil)
(q_seq (q_for (q_call (by kernel_rfl) (U.ns (by kernel_rfl)) (by kernel_rfl) (U.keep (by kernel_rfl)) (.cons rfl (.cons rfl .nil)) (q_args_cons rfl (q_loc rfl (by kernel_rfl)) (q_args_cons rfl (q_loc rfl (by kernel_rfl)) q_args_nil)) ((pl_282 U).up (by decide))) (tgl_one (lay_310 _ L) rfl)
(q_seq (q_expr (q_call (by kernel_rfl) (U.ns (by kernel_rfl)) (by kernel_rfl) (U.keep (by kernel_rfl)) (.cons rfl (.cons rfl (.cons rfl (.cons rfl .nil)))) (q_args_cons rfl (q_loc rfl (by kernel_rfl)) (q_args_cons rfl (q_loc rfl (by kernel_rfl)) (q_args_cons rfl (q_loc rfl (by kernel_rfl)) (q_args_cons rfl (q_loc rfl (by kernel_rfl)) q_args_nil)))) ((pl_289 U).up (by decide))) rfl rfl)
q_nil) fun _ => rfl)
q_nil))))))
(q_seq (q_return (q_loc rfl (by kernel_rfl)))
q_nil)))))))
theorem pl_310 (U : Setup W) : QPL W 4 (fun vs => call (.ref 310) vs) R_max_stack := q_fun (F := f_310 W.w.params) (lay := l_310) (fnOK_of U.hK (chk_310 _) (b3 (bnd_310 _))) ⟨_, rfl⟩ (by decide) fun L => body_310 U L

noncomputable def l_367 : List Str := [("op" : Str), ("mid" : Str), ("taken" : Str), ("given" : Str)]
theorem chk_367 (P : Params) : fnChk (K0 P) 367 [("op" : Str), ("mid" : Str)] = true := by kernel_rfl
theorem bnd_367 (P : Params) : ∀ a0 a1, bindArgs (fdOf (K0 P) 367) ⟨[a0, a1], []⟩ = pure [(("op" : Str), a0), (("mid" : Str), a1)] := by intros; kernel_rfl
noncomputable abbrev f_367 (P : Params) : Fn := fnAt (K0 P) 367 [("op" : Str), ("mid" : Str)]
theorem lay_367 (P : Params) (L : Addr) : LayOK l_367 ((f_367 P).env L) := .of L (by decide) (by decide) (by kernel_rfl)
theorem body_367 (U : Setup W) (L : Addr) : QS W l_367 ((f_367 W.w.params).env L) 0 (execs (bodyOf (K0 W.w.params) 367) ((f_367 W.w.params).env L)) D__law_call :=
(q_seq (q_if (q_boolop (q_and_cons (q_testC (q_loc rfl (by kernel_rfl)) q_int p_eq rfl) (q_and_cons (q_testC (q_loc rfl (by kernel_rfl)) q_int p_eq rfl) q_and_nil)))
(q_seq (q_return (q_tuple (q_args_cons rfl q_int (q_args_cons rfl q_int q_args_nil))))
q_nil)
q_nil)
(q_seq (q_if (q_testC (q_loc rfl (by kernel_rfl)) (q_glob (v := .ref (W.tabA 2)) (by kernel_rfl) (by rw [U.t2]; exact U.ns (by kernel_rfl)) (by kernel_rfl) fun _ _ _ => .tab _) (p_notIn (tabF U)) rfl)
(q_seq (q_return q_none)
q_nil)
q_nil)
(q_seq (q_unpack (lay_367 _ L) (.cons rfl (.cons rfl .nil)) (q_sub (tabF U) (q_glob (v := .ref (W.tabA 2)) (by kernel_rfl) (by rw [U.t2]; exact U.ns (by kernel_rfl)) (by kernel_rfl) fun _ _ _ => .tab _) (q_loc rfl (by kernel_rfl)) fun _ _ => rfl) rfl rfl)
(q_seq (q_if (q_testC (q_loc rfl (by kernel_rfl)) q_int p_ne rfl)
(q_seq (q_return (q_tuple (q_args_cons rfl (q_loc rfl (by kernel_rfl)) (q_args_cons rfl (q_loc rfl (by kernel_rfl)) q_args_nil))))
q_nil)
q_nil)
(q_seq (q_return (q_ifexp (q_testV (q_loc rfl (by kernel_rfl)) rfl) (q_tuple (q_args_cons rfl (q_bin (q_loc rfl (by kernel_rfl)) q_int p_sub) (q_args_cons rfl q_int q_args_nil))) q_none))
q_nil)))))
theorem pl_367 (U : Setup W) : QPL W 1 (fun vs => call (.ref 367) vs) R__law_call := q_fun (F := f_367 W.w.params) (lay := l_367) (fnOK_of U.hK (chk_367 _) (b2 (bnd_367 _))) ⟨_, rfl⟩ (by decide) fun L => body_367 U L

noncomputable def l_372 : List Str := [("v" : Str), ("ret" : Str), ("k" : Str), ("t" : Str), ("first" : Str), ("count" : Str), ("taken" : Str), ("given" : Str), ("op" : Str)]
theorem chk_372 (P : Params) : fnChk (K0 P) 372 [("v" : Str), ("ret" : Str)] = true := by kernel_rfl
theorem bnd_372 (P : Params) : ∀ a0 a1, bindArgs (fdOf (K0 P) 372) ⟨[a0, a1], []⟩ = pure [(("v" : Str), a0), (("ret" : Str), a1)] := by intros; kernel_rfl
noncomputable abbrev f_372 (P : Params) : Fn := fnAt (K0 P) 372 [("v" : Str), ("ret" : Str)]
theorem lay_372 (P : Params) (L : Addr) : LayOK l_372 ((f_372 P).env L) := .of L (by decide) (by decide) (by kernel_rfl)
theorem body_372 (U : Setup W) (L : Addr) : QS W l_372 ((f_372 W.w.params).env L) 1 (execs (bodyOf (K0 W.w.params) 372) ((f_372 W.w.params).env L)) D__law_row :=
(q_seq (q_assign (lay_372 _ L) rfl rfl (q_bin (q_loc rfl (by kernel_rfl)) q_int p_mod))
(q_seq (q_assign (lay_372 _ L) rfl rfl (q_bin (q_loc rfl (by kernel_rfl)) q_int p_div))
(q_seq (q_if (q_testC (q_loc rfl (by kernel_rfl)) q_int p_lt rfl)
(q_seq (q_unpack (lay_372 _ L) (.cons rfl (.cons rfl (.cons rfl (.cons rfl .nil)))) (q_sub (tabF U) (q_glob (v := .ref 352) (by kernel_rfl) (U.ns (by kernel_rfl)) (by kernel_rfl) (kvSTACK U)) (q_bin (q_loc rfl (by kernel_rfl)) q_int p_mod) fun _ _ => rfl) rfl rfl)
(q_seq (q_return (q_tuple (q_args_cons rfl (q_tuple (q_args_cons rfl (q_bin (q_loc rfl (by kernel_rfl)) (q_bin (q_bin (q_loc rfl (by kernel_rfl)) q_int p_div) (q_loc rfl (by kernel_rfl)) p_mod) p_add) (q_args_cons rfl q_int q_args_nil))) (q_args_cons rfl (q_tuple (q_args_cons rfl (q_loc rfl (by kernel_rfl)) (q_args_cons rfl (q_loc rfl (by kernel_rfl)) q_args_nil))) q_args_nil))))
q_nil))
q_nil)
(q_seq (q_if (q_testC (q_loc rfl (by kernel_rfl)) q_int p_eq rfl)
(q_seq (q_return (q_tuple (q_args_cons rfl (q_tuple (q_args_cons rfl q_int (q_args_cons rfl (q_bin (q_loc rfl (by kernel_rfl)) q_int p_mod) q_args_nil))) (q_args_cons rfl (q_tuple (q_args_cons rfl q_int (q_args_cons rfl q_int q_args_nil))) q_args_nil))))
q_nil)
q_nil)
(q_seq (q_if (q_testC (q_loc rfl (by kernel_rfl)) q_int p_eq rfl)
(q_seq (q_assign (lay_372 _ L) rfl rfl (q_bin q_int (q_bin (q_loc rfl (by kernel_rfl)) q_int p_mod) p_add))
(q_seq (q_if (q_testC (q_loc rfl (by kernel_rfl)) q_int p_eq rfl)
(q_seq (q_return (q_tuple (q_args_cons rfl (q_tuple (q_args_cons rfl q_int (q_args_cons rfl (q_bin (q_loc rfl (by kernel_rfl)) q_int p_div) q_args_nil))) (q_args_cons rfl (q_tuple (q_args_cons rfl q_int (q_args_cons rfl q_int q_args_nil))) q_args_nil))))
q_nil)
q_nil)
(q_seq (q_return (q_tuple (q_args_cons rfl (q_tuple (q_args_cons rfl (q_loc rfl (by kernel_rfl)) (q_args_cons rfl (q_bin (q_loc rfl (by kernel_rfl)) q_int p_div) q_args_nil))) (q_args_cons rfl (q_tuple (q_args_cons rfl (q_ifexp (q_testC (q_loc rfl (by kernel_rfl)) q_int p_eq rfl) q_int (q_ifexp (q_testC (q_loc rfl (by kernel_rfl)) q_int p_lt rfl) q_int q_int)) (q_args_cons rfl q_int q_args_nil))) q_args_nil))))
q_nil)))
q_nil)
(q_seq (q_if (q_testC (q_loc rfl (by kernel_rfl)) q_int p_eq rfl)
(q_seq (q_return (q_tuple (q_args_cons rfl (q_tuple (q_args_cons rfl q_int (q_args_cons rfl (q_blt (by kernel_rfl) (U.ns (by kernel_rfl)) (by kernel_rfl) (by decide) (by kernel_rfl) (.inr ⟨_, rfl⟩) (.cons rfl .nil) (q_args_cons rfl (q_comp (free := [("t" : Str)]) (fr := [3]) (cl := [(("t" : Str), L + 1)]) (compok1 (by kernel_rfl) rfl (by decide +kernel) (by kernel_rfl) (by decide +kernel) (by decide +kernel) (fr1 ⟨("t" : Str), L + 1, rfl, rfl, (by kernel_rfl), (by kernel_rfl), (by kernel_rfl), (by kernel_rfl)⟩) (by kernel_rfl)) (fun _ => rfl) (q_blt (by kernel_rfl) (U.ns (by kernel_rfl)) (by kernel_rfl) (by decide) (by kernel_rfl) (.inr ⟨_, rfl⟩) (.cons rfl .nil) (q_args_cons rfl (q_bin (q_loc rfl (by kernel_rfl)) q_int p_mod) q_args_nil) pl_range) (fun C => q_tests_nil) (fun C => (q_bin (q_bin (q_loc rfl (by kernel_rfl)) q_int p_div) (q_loc rfl (by kernel_rfl)) p_add))) q_args_nil) pl_tuple) q_args_nil))) (q_args_cons rfl (q_tuple (q_args_cons rfl q_int (q_args_cons rfl q_int q_args_nil))) q_args_nil))))
q_nil)
q_nil)
(q_seq (q_if (q_testC (q_loc rfl (by kernel_rfl)) q_int p_eq rfl)
(q_seq (q_assign (lay_372 _ L) rfl rfl (q_sub (tabF U) (q_tuple (q_args_cons rfl q_int (q_args_cons rfl q_int (q_args_cons rfl q_int q_args_nil)))) (q_bin (q_loc rfl (by kernel_rfl)) q_int p_mod) fun _ _ => rfl))
(q_seq (q_return (q_tuple (q_args_cons rfl (q_tuple (q_args_cons rfl (q_loc rfl (by kernel_rfl)) (q_args_cons rfl (q_tuple (q_args_cons rfl q_int (q_args_cons rfl (q_bin (q_bin (q_loc rfl (by kernel_rfl)) q_int p_div) q_int p_mod) (q_args_cons rfl (q_tuple q_args_nil) q_args_nil)))) q_args_nil))) (q_args_cons rfl (q_call (by kernel_rfl) (U.ns (by kernel_rfl)) (by kernel_rfl) (U.keep (by kernel_rfl)) (.cons rfl (.cons rfl .nil)) (q_args_cons rfl (q_loc rfl (by kernel_rfl)) (q_args_cons rfl (q_bin (q_bin (q_loc rfl (by kernel_rfl)) q_int p_div) q_int p_mod) q_args_nil)) ((pl_367 U).up (by decide))) q_args_nil))))
q_nil))
q_nil)
(q_seq (q_if (q_testC (q_bin (q_loc rfl (by kernel_rfl)) q_int p_mod) q_int p_eq rfl)
(q_seq (q_return (q_tuple (q_args_cons rfl (q_tuple (q_args_cons rfl q_int (q_args_cons rfl q_int q_args_nil))) (q_args_cons rfl (q_tuple (q_args_cons rfl (q_loc rfl (by kernel_rfl)) (q_args_cons rfl q_int q_args_nil))) q_args_nil))))
q_nil)
q_nil)
(q_seq (q_if (q_testC (q_bin (q_loc rfl (by kernel_rfl)) q_int p_mod) q_int p_eq rfl)
(q_seq (q_return (q_tuple (q_args_cons rfl (q_tuple (q_args_cons rfl q_int (q_args_cons rfl q_int q_args_nil))) (q_args_cons rfl q_none q_args_nil))))
q_nil)
q_nil)
(q_seq (q_return (q_tuple (q_args_cons rfl (q_tuple (q_args_cons rfl (q_sub (tabF U) (q_tuple (q_args_cons rfl q_int (q_args_cons rfl q_int (q_args_cons rfl q_int (q_args_cons rfl q_int (q_args_cons rfl q_int q_args_nil)))))) (q_bin (q_bin (q_loc rfl (by kernel_rfl)) q_int p_mod) q_int p_sub) fun _ _ => rfl) (q_args_cons rfl q_int q_args_nil))) (q_args_cons rfl (q_sub (tabF U) (q_tuple (q_args_cons rfl (q_tuple (q_args_cons rfl q_int (q_args_cons rfl q_int q_args_nil))) (q_args_cons rfl (q_tuple (q_args_cons rfl q_int (q_args_cons rfl q_int q_args_nil))) (q_args_cons rfl (q_tuple (q_args_cons rfl q_int (q_args_cons rfl q_int q_args_nil))) (q_args_cons rfl (q_tuple (q_args_cons rfl q_int (q_args_cons rfl q_int q_args_nil))) (q_args_cons rfl (q_tuple (q_args_cons rfl (q_loc rfl (by kernel_rfl)) (q_args_cons rfl q_int q_args_nil))) q_args_nil)))))) (q_bin (q_bin (q_loc rfl (by kernel_rfl)) q_int p_mod) q_int p_sub) fun _ _ => rfl) q_args_nil))))
q_nil))))))))))
theorem pl_372 (U : Setup W) : QPL W 2 (fun vs => call (.ref 372) vs) R__law_row := q_fun (F := f_372 W.w.params) (lay := l_372) (fnOK_of U.hK (chk_372 _) (b2 (bnd_372 _))) ⟨_, rfl⟩ (by decide) fun L => body_372 U L

noncomputable def l_379 : List Str := [("op" : Str), ("effect" : Str), ("depth" : Str)]
theorem chk_379 (P : Params) : fnChk (K0 P) 379 [("op" : Str), ("effect" : Str), ("depth" : Str)] = true := by kernel_rfl
theorem bnd_379 (P : Params) : ∀ a0 a1 a2, bindArgs (fdOf (K0 P) 379) ⟨[a0, a1, a2], []⟩ = pure [(("op" : Str), a0), (("effect" : Str), a1), (("depth" : Str), a2)] := by intros; kernel_rfl
noncomputable abbrev f_379 (P : Params) : Fn := fnAt (K0 P) 379 [("op" : Str), ("effect" : Str), ("depth" : Str)]
theorem lay_379 (P : Params) (L : Addr) : LayOK l_379 ((f_379 P).env L) := .of L (by decide) (by decide) (by kernel_rfl)
theorem body_379 (U : Setup W) (L : Addr) : QS W l_379 ((f_379 W.w.params).env L) 0 (execs (bodyOf (K0 W.w.params) 379) ((f_379 W.w.params).env L)) D__law_behind :=
(q_seq (q_if (q_boolop (q_or_cons (q_testC (q_loc rfl (by kernel_rfl)) q_int p_eq rfl) (q_or_cons (q_testC (q_loc rfl (by kernel_rfl)) q_none p_is rfl) q_or_nil)))
(q_seq (q_return q_int)
q_nil)
q_nil)
(q_seq (q_return (q_bin (q_bin (q_loc rfl (by kernel_rfl)) (q_sub (tabF U) (q_loc rfl (by kernel_rfl)) q_int fun _ _ => rfl) p_sub) (q_sub (tabF U) (q_loc rfl (by kernel_rfl)) q_int fun _ _ => rfl) p_add))
q_nil))
theorem pl_379 (U : Setup W) : QPL W 1 (fun vs => call (.ref 379) vs) R__law_behind := q_fun (F := f_379 W.w.params) (lay := l_379) (fnOK_of U.hK (chk_379 _) (b3 (bnd_379 _))) ⟨_, rfl⟩ (by decide) fun L => body_379 U L

noncomputable def l_386 : List Str := [("numbers" : Str), ("ret" : Str), ("rows" : Str), ("depth" : Str), ("v" : Str), ("row" : Str), ("effect" : Str), ("behind" : Str)]
theorem chk_386 (P : Params) : fnChk (K0 P) 386 [("numbers" : Str), ("ret" : Str)] = true := by kernel_rfl
theorem bnd_386 (P : Params) : ∀ a0 a1, bindArgs (fdOf (K0 P) 386) ⟨[a0, a1], []⟩ = pure [(("numbers" : Str), a0), (("ret" : Str), a1)] := by intros; kernel_rfl
noncomputable abbrev f_386 (P : Params) : Fn := fnAt (K0 P) 386 [("numbers" : Str), ("ret" : Str)]
theorem lay_386 (P : Params) (L : Addr) : LayOK l_386 ((f_386 P).env L) := .of L (by decide) (by decide) (by kernel_rfl)
theorem body_386 (U : Setup W) (L : Addr) : QS W l_386 ((f_386 W.w.params).env L) 2 (execs (bodyOf (K0 W.w.params) 386) ((f_386 W.w.params).env L)) D__law_drawn :=
(q_seq (q_assign (lay_386 _ L) rfl rfl (q_list q_args_nil))
(q_seq (q_assign (lay_386 _ L) rfl rfl q_int)
(q_seq (q_for (q_loc rfl (by kernel_rfl)) (tgl_one (lay_386 _ L) rfl)
(q_seq (q_unpack (lay_386 _ L) (.cons rfl (.cons rfl .nil)) (q_call (by kernel_rfl) (U.ns (by kernel_rfl)) (by kernel_rfl) (U.keep (by kernel_rfl)) (.cons rfl (.cons rfl .nil)) (q_args_cons rfl (q_loc rfl (by kernel_rfl)) (q_args_cons rfl (q_loc rfl (by kernel_rfl)) q_args_nil)) ((pl_372 U).up (by decide))) rfl rfl)
(q_seq (q_if (q_boolop (q_and_cons (q_testC (q_loc rfl (by kernel_rfl)) q_none p_isNot rfl) (q_and_cons (q_testC (q_sub (tabF U) (q_loc rfl (by kernel_rfl)) q_int fun _ _ => rfl) (q_loc rfl (by kernel_rfl)) p_gt rfl) (q_and_cons (q_testC (q_bin (q_bin (q_loc rfl (by kernel_rfl)) q_int p_div) q_int p_mod) q_int p_ne rfl) q_and_nil))))
(q_seq (q_unpack (lay_386 _ L) (.cons rfl (.cons rfl .nil)) (q_tuple (q_args_cons rfl (q_tuple (q_args_cons rfl q_int (q_args_cons rfl q_int q_args_nil))) (q_args_cons rfl (q_tuple (q_args_cons rfl q_int (q_args_cons rfl q_int q_args_nil))) q_args_nil))) rfl rfl)
q_nil)
q_nil)
(q_seq (q_assign (lay_386 _ L) rfl rfl (q_call (by kernel_rfl) (U.ns (by kernel_rfl)) (by kernel_rfl) (U.keep (by kernel_rfl)) (.cons rfl (.cons rfl (.cons rfl .nil))) (q_args_cons rfl (q_sub (tabF U) (q_loc rfl (by kernel_rfl)) q_int fun _ _ => rfl) (q_args_cons rfl (q_loc rfl (by kernel_rfl)) (q_args_cons rfl (q_loc rfl (by kernel_rfl)) q_args_nil))) ((pl_379 U).up (by decide))))
(q_seq (q_expr (q_methL (q_loc rfl (by kernel_rfl)) (.cons rfl .nil) (q_args_cons rfl (q_tuple (q_args_cons rfl (q_loc rfl (by kernel_rfl)) (q_args_cons rfl (q_loc rfl (by kernel_rfl)) (q_args_cons rfl (q_loc rfl (by kernel_rfl)) (q_args_cons rfl (q_loc rfl (by kernel_rfl)) q_args_nil))))) q_args_nil) pl_append PySem.F.slot_list_append PySem.F.type_list_append rfl rfl rfl) rfl rfl)
(q_seq (q_assign (lay_386 _ L) rfl rfl (q_blt (by kernel_rfl) (U.ns (by kernel_rfl)) (by kernel_rfl) (by decide) (by kernel_rfl) (.inl ⟨_, rfl⟩) (.cons rfl (.cons rfl .nil)) (q_args_cons rfl (q_loc rfl (by kernel_rfl)) (q_args_cons rfl q_int q_args_nil)) pl_max))
q_nil))))) fun _ => rfl)
(q_seq (q_return (q_loc rfl (by kernel_rfl)))
q_nil))))
theorem pl_386 (U : Setup W) : QPL W 3 (fun vs => call (.ref 386) vs) R__law_drawn := q_fun (F := f_386 W.w.params) (lay := l_386) (fnOK_of U.hK (chk_386 _) (b2 (bnd_386 _))) ⟨_, rfl⟩ (by decide) fun L => body_386 U L

noncomputable def l_391 : List Str := [("rows" : Str), ("depth" : Str), ("t" : Str), ("fit" : Str)]
theorem chk_391 (P : Params) : fnChk (K0 P) 391 [("rows" : Str), ("depth" : Str), ("t" : Str)] = true := by kernel_rfl
theorem bnd_391 (P : Params) : ∀ a0 a1 a2, bindArgs (fdOf (K0 P) 391) ⟨[a0, a1, a2], []⟩ = pure [(("rows" : Str), a0), (("depth" : Str), a1), (("t" : Str), a2)] := by intros; kernel_rfl
noncomputable abbrev f_391 (P : Params) : Fn := fnAt (K0 P) 391 [("rows" : Str), ("depth" : Str), ("t" : Str)]
theorem lay_391 (P : Params) (L : Addr) : LayOK l_391 ((f_391 P).env L) := .of L (by decide) (by decide) (by kernel_rfl)
theorem body_391 (U : Setup W) (L : Addr) : QS W l_391 ((f_391 W.w.params).env L) 0 (execs (bodyOf (K0 W.w.params) 391) ((f_391 W.w.params).env L)) D__law_pick :=
(q_seq (q_if (q_testC (q_bin (q_bin (q_loc rfl (by kernel_rfl)) q_int p_div) q_int p_mod) q_int p_eq rfl)
(q_seq (q_return (q_bin (q_bin (q_loc rfl (by kernel_rfl)) (q_bin (q_blt (by kernel_rfl) (U.ns (by kernel_rfl)) (by kernel_rfl) (by decide) (by kernel_rfl) (.inl ⟨_, rfl⟩) (.cons rfl .nil) (q_args_cons rfl (q_loc rfl (by kernel_rfl)) q_args_nil) pl_len) q_int p_add) p_mod) (q_bin (q_bin (q_loc rfl (by kernel_rfl)) q_int p_div) q_int p_mod) p_sub))
q_nil)
q_nil)
(q_seq (q_assign_comp (lay_391 _ L) rfl rfl (free := [("depth" : Str), ("rows" : Str)]) (fr := [1, 0]) (cl := [(("rows" : Str), L + 1), (("depth" : Str), L + 1 + 1)]) (compok2 (by kernel_rfl) rfl (by decide +kernel) (by kernel_rfl) (by decide +kernel) (by decide +kernel) (fr2 ⟨("depth" : Str), L + 1 + 1, rfl, rfl, (by kernel_rfl), (by kernel_rfl), (by kernel_rfl), (by kernel_rfl)⟩ ⟨("rows" : Str), L + 1, rfl, rfl, (by kernel_rfl), (by kernel_rfl), (by kernel_rfl), (by kernel_rfl)⟩) (by kernel_rfl) (by kernel_rfl) (Nat.ne_of_lt (Nat.lt_succ_self _))) (fun _ => rfl) (q_blt (by kernel_rfl) (U.ns (by kernel_rfl)) (by kernel_rfl) (by decide) (by kernel_rfl) (.inr ⟨_, rfl⟩) (.cons rfl .nil) (q_args_cons rfl (q_blt (by kernel_rfl) (U.ns (by kernel_rfl)) (by kernel_rfl) (by decide) (by kernel_rfl) (.inl ⟨_, rfl⟩) (.cons rfl .nil) (q_args_cons rfl (q_loc rfl (by kernel_rfl)) q_args_nil) pl_len) q_args_nil) pl_range) (fun C => (q_tests_one (q_testC (q_sub (tabF U) (q_sub (tabF U) (q_loc rfl (by kernel_rfl)) (q_loc rfl (by kernel_rfl)) fun _ _ => rfl) q_int fun _ _ => rfl) (q_loc rfl (by kernel_rfl)) p_eq rfl))) (fun C => (q_loc rfl (by kernel_rfl))))
(q_seq (q_if (q_testC (q_loc rfl (by kernel_rfl)) (q_list q_args_nil) p_eq rfl)
(q_seq (q_return (q_bin (q_loc rfl (by kernel_rfl)) (q_blt (by kernel_rfl) (U.ns (by kernel_rfl)) (by kernel_rfl) (by decide) (by kernel_rfl) (.inl ⟨_, rfl⟩) (.cons rfl .nil) (q_args_cons rfl (q_loc rfl (by kernel_rfl)) q_args_nil) pl_len) p_mod))
q_nil)
q_nil)
(q_seq (q_return (q_sub (tabF U) (q_loc rfl (by kernel_rfl)) (q_bin (q_loc rfl (by kernel_rfl)) (q_blt (by kernel_rfl) (U.ns (by kernel_rfl)) (by kernel_rfl) (by decide) (by kernel_rfl) (.inl ⟨_, rfl⟩) (.cons rfl .nil) (q_args_cons rfl (q_loc rfl (by kernel_rfl)) q_args_nil) pl_len) p_mod) fun _ _ => rfl))
q_nil))))
theorem pl_391 (U : Setup W) : QPL W 1 (fun vs => call (.ref 391) vs) R__law_pick := q_fun (F := f_391 W.w.params) (lay := l_391) (fnOK_of U.hK (chk_391 _) (b3 (bnd_391 _))) ⟨_, rfl⟩ (by decide) fun L => body_391 U L

noncomputable def l_396 : List Str := [("rows" : Str), ("code" : Str), ("row" : Str), ("effect" : Str), ("depth" : Str), ("behind" : Str)]
theorem chk_396 (P : Params) : fnChk (K0 P) 396 [("rows" : Str)] = true := by kernel_rfl
theorem bnd_396 (P : Params) : ∀ a0, bindArgs (fdOf (K0 P) 396) ⟨[a0], []⟩ = pure [(("rows" : Str), a0)] := by intros; kernel_rfl
noncomputable abbrev f_396 (P : Params) : Fn := fnAt (K0 P) 396 [("rows" : Str)]
theorem lay_396 (P : Params) (L : Addr) : LayOK l_396 ((f_396 P).env L) := .of L (by decide) (by decide) (by kernel_rfl)
theorem body_396 (U : Setup W) (L : Addr) : QS W l_396 ((f_396 W.w.params).env L) 1 (execs (bodyOf (K0 W.w.params) 396) ((f_396 W.w.params).env L)) D__law_aimed :=
(q_seq (q_assign (lay_396 _ L) rfl rfl (q_list q_args_nil))
(q_seq (q_for (q_loc rfl (by kernel_rfl)) (tgl_many (lay_396 _ L) (.cons rfl (.cons rfl (.cons rfl (.cons rfl .nil)))))
(q_seq (q_if (q_testC (q_sub (tabF U) (q_loc rfl (by kernel_rfl)) q_int fun _ _ => rfl) q_int p_eq rfl)
(q_seq (q_expr (q_methL (q_loc rfl (by kernel_rfl)) (.cons rfl .nil) (q_args_cons rfl (q_tuple (q_args_cons rfl q_int (q_args_cons rfl (q_blt (by kernel_rfl) (U.ns (by kernel_rfl)) (by kernel_rfl) (by decide) (by kernel_rfl) (.inr ⟨_, rfl⟩) (.cons rfl .nil) (q_args_cons rfl (q_comp (free := [("rows" : Str), ("behind" : Str)]) (fr := [0, 5]) (cl := [(("rows" : Str), L + 1), (("behind" : Str), L + 1 + 1)]) (compok2 (by kernel_rfl) rfl (by decide +kernel) (by kernel_rfl) (by decide +kernel) (by decide +kernel) (fr2 ⟨("rows" : Str), L + 1, rfl, rfl, (by kernel_rfl), (by kernel_rfl), (by kernel_rfl), (by kernel_rfl)⟩ ⟨("behind" : Str), L + 1 + 1, rfl, rfl, (by kernel_rfl), (by kernel_rfl), (by kernel_rfl), (by kernel_rfl)⟩) (by kernel_rfl) (by kernel_rfl) (Nat.ne_of_lt (Nat.lt_succ_self _))) (fun _ => rfl) (q_sub (tabF U) (q_loc rfl (by kernel_rfl)) q_int fun _ _ => rfl) (fun C => q_tests_nil) (fun C => (q_call (by kernel_rfl) (U.ns (by kernel_rfl)) (by kernel_rfl) (U.keep (by kernel_rfl)) (.cons rfl (.cons rfl (.cons rfl .nil))) (q_args_cons rfl (q_loc rfl (by kernel_rfl)) (q_args_cons rfl (q_loc rfl (by kernel_rfl)) (q_args_cons rfl (q_loc rfl (by kernel_rfl)) q_args_nil))) ((pl_391 U).up (by decide))))) q_args_nil) pl_tuple) q_args_nil))) q_args_nil) pl_append PySem.F.slot_list_append PySem.F.type_list_append rfl rfl rfl) rfl rfl)
q_nil)
(q_seq (q_if (q_boolop (q_or_cons (q_chain q_int (q_sub (tabF U) (q_loc rfl (by kernel_rfl)) q_int fun _ _ => rfl) q_int p_le p_lt rfl) (q_or_cons (q_testC (q_sub (tabF U) (q_loc rfl (by kernel_rfl)) q_int fun _ _ => rfl) q_int p_eq rfl) q_or_nil)))
(q_seq (q_expr (q_methL (q_loc rfl (by kernel_rfl)) (.cons rfl .nil) (q_args_cons rfl (q_tuple (q_args_cons rfl (q_sub (tabF U) (q_loc rfl (by kernel_rfl)) q_int fun _ _ => rfl) (q_args_cons rfl (q_call (by kernel_rfl) (U.ns (by kernel_rfl)) (by kernel_rfl) (U.keep (by kernel_rfl)) (.cons rfl (.cons rfl (.cons rfl .nil))) (q_args_cons rfl (q_loc rfl (by kernel_rfl)) (q_args_cons rfl (q_loc rfl (by kernel_rfl)) (q_args_cons rfl (q_sub (tabF U) (q_loc rfl (by kernel_rfl)) q_int fun _ _ => rfl) q_args_nil))) ((pl_391 U).up (by decide))) q_args_nil))) q_args_nil) pl_append PySem.F.slot_list_append PySem.F.type_list_append rfl rfl rfl) rfl rfl)
q_nil)
(q_seq (q_expr (q_methL (q_loc rfl (by kernel_rfl)) (.cons rfl .nil) (q_args_cons rfl (q_loc rfl (by kernel_rfl)) q_args_nil) pl_append PySem.F.slot_list_append PySem.F.type_list_append rfl rfl rfl) rfl rfl)
q_nil))
q_nil))
q_nil) fun _ => rfl)
(q_seq (q_return (q_loc rfl (by kernel_rfl)))
q_nil)))
theorem pl_396 (U : Setup W) : QPL W 2 (fun vs => call (.ref 396) vs) R__law_aimed := q_fun (F := f_396 W.w.params) (lay := l_396) (fnOK_of U.hK (chk_396 _) (b1 (bnd_396 _))) ⟨_, rfl⟩ (by decide) fun L => body_396 U L

noncomputable def l_403 : List Str := [("rows" : Str), ("q" : Str), ("out" : Str), ("size" : Str), ("j" : Str), ("w" : Str), ("sort" : Str), ("begin" : Str), ("place" : Str), ("row" : Str), ("k" : Str)]
theorem chk_403 (P : Params) : fnChk (K0 P) 403 [("rows" : Str), ("q" : Str)] = true := by kernel_rfl
theorem bnd_403 (P : Params) : ∀ a0 a1, bindArgs (fdOf (K0 P) 403) ⟨[a0, a1], []⟩ = pure [(("rows" : Str), a0), (("q" : Str), a1)] := by intros; kernel_rfl
noncomputable abbrev f_403 (P : Params) : Fn := fnAt (K0 P) 403 [("rows" : Str), ("q" : Str)]
theorem lay_403 (P : Params) (L : Addr) : LayOK l_403 ((f_403 P).env L) := .of L (by decide) (by decide) (by kernel_rfl)
theorem body_403 (U : Setup W) (L : Addr) : QS W l_403 ((f_403 W.w.params).env L) 1 (execs (bodyOf (K0 W.w.params) 403) ((f_403 W.w.params).env L)) D__law_clauses :=
(q_seq (q_assign (lay_403 _ L) rfl rfl (q_list q_args_nil))
(q_seq (q_assign (lay_403 _ L) rfl rfl (q_bin (q_blt (by kernel_rfl) (U.ns (by kernel_rfl)) (by kernel_rfl) (by decide) (by kernel_rfl) (.inl ⟨_, rfl⟩) (.cons rfl .nil) (q_args_cons rfl (q_loc rfl (by kernel_rfl)) q_args_nil) pl_len) q_int p_add))
(q_seq (q_for (q_blt (by kernel_rfl) (U.ns (by kernel_rfl)) (by kernel_rfl) (by decide) (by kernel_rfl) (.inr ⟨_, rfl⟩) (.cons rfl .nil) (q_args_cons rfl (q_bin (q_loc rfl (by kernel_rfl)) q_int p_mod) q_args_nil) pl_range) (tgl_one (lay_403 _ L) rfl)
(q_seq (q_assign (lay_403 _ L) rfl rfl (q_bin (q_bin (q_loc rfl (by kernel_rfl)) q_int p_div) (q_bin q_int (q_loc rfl (by kernel_rfl)) p_mul) p_add))
(q_seq (q_assign (lay_403 _ L) rfl rfl (q_sub (tabF U) (q_tuple (q_args_cons rfl q_int (q_args_cons rfl q_int (q_args_cons rfl q_int (q_args_cons rfl q_int q_args_nil))))) (q_bin (q_loc rfl (by kernel_rfl)) q_int p_mod) fun _ _ => rfl))
(q_seq (q_assign (lay_403 _ L) rfl rfl (q_ifexp (q_testC (q_loc rfl (by kernel_rfl)) q_int p_lt rfl) q_int q_int))
(q_seq (q_if (q_testC (q_loc rfl (by kernel_rfl)) (q_list q_args_nil) p_eq rfl)
(q_seq (q_expr (q_methL (q_loc rfl (by kernel_rfl)) (.cons rfl .nil) (q_args_cons rfl (q_tuple (q_args_cons rfl (q_loc rfl (by kernel_rfl)) (q_args_cons rfl q_int (q_args_cons rfl q_int (q_args_cons rfl q_int (q_args_cons rfl q_int (q_args_cons rfl q_int q_args_nil))))))) q_args_nil) pl_append PySem.F.slot_list_append PySem.F.type_list_append rfl rfl rfl) rfl rfl)
q_nil)
(q_seq (q_assign (lay_403 _ L) rfl rfl (q_ifexp (q_testC (q_loc rfl (by kernel_rfl)) q_int p_eq rfl) (q_call (by kernel_rfl) (U.ns (by kernel_rfl)) (by kernel_rfl) (U.keep (by kernel_rfl)) (.cons rfl (.cons rfl (.cons rfl .nil))) (q_args_cons rfl (q_loc rfl (by kernel_rfl)) (q_args_cons rfl q_int (q_args_cons rfl (q_bin (q_loc rfl (by kernel_rfl)) q_int p_div) q_args_nil))) ((pl_391 U).up (by decide))) q_int))
(q_seq (q_assign (lay_403 _ L) rfl rfl (q_list (q_args_cons rfl (q_loc rfl (by kernel_rfl)) (q_args_cons rfl (q_bin (q_bin (q_loc rfl (by kernel_rfl)) q_int p_div) (q_bin (q_loc rfl (by kernel_rfl)) q_int p_sub) p_mod) (q_args_cons rfl (q_bin (q_bin (q_loc rfl (by kernel_rfl)) q_int p_div) (q_loc rfl (by kernel_rfl)) p_mod) (q_args_cons rfl (q_call (by kernel_rfl) (U.ns (by kernel_rfl)) (by kernel_rfl) (U.keep (by kernel_rfl)) (.cons rfl (.cons rfl (.cons rfl .nil))) (q_args_cons rfl (q_loc rfl (by kernel_rfl)) (q_args_cons rfl (q_loc rfl (by kernel_rfl)) (q_args_cons rfl (q_bin (q_loc rfl (by kernel_rfl)) q_int p_div) q_args_nil))) ((pl_391 U).up (by decide))) (q_args_cons rfl (q_bin (q_bin (q_loc rfl (by kernel_rfl)) q_int p_div) (q_loc rfl (by kernel_rfl)) p_mod) (q_args_cons rfl (q_loc rfl (by kernel_rfl)) q_args_nil))))))))
(q_seq (q_if (q_testC (q_bin (q_bin (q_loc rfl (by kernel_rfl)) q_int p_div) q_int p_mod) q_int p_eq rfl)
(q_seq (q_assign (lay_403 _ L) rfl rfl (q_bin (q_bin (q_loc rfl (by kernel_rfl)) q_int p_div) q_int p_mod))
(q_seq (q_setItem (q_sub (tabF U) (q_tuple (q_args_cons rfl (q_bin (q_loc rfl (by kernel_rfl)) q_int p_sub) (q_args_cons rfl (q_loc rfl (by kernel_rfl)) (q_args_cons rfl (q_loc rfl (by kernel_rfl)) (q_args_cons rfl (q_neg q_int) (q_args_cons rfl (q_neg q_int) q_args_nil)))))) (q_loc rfl (by kernel_rfl)) fun _ _ => rfl) (q_loc rfl (by kernel_rfl)) (q_sub (tabF U) (q_tuple (q_args_cons rfl q_int (q_args_cons rfl q_int (q_args_cons rfl q_int (q_args_cons rfl q_int (q_args_cons rfl q_int q_args_nil)))))) (q_loc rfl (by kernel_rfl)) fun _ _ => rfl) rfl)
q_nil))
q_nil)
(q_seq (q_expr (q_methL (q_loc rfl (by kernel_rfl)) (.cons rfl .nil) (q_args_cons rfl (q_blt (by kernel_rfl) (U.ns (by kernel_rfl)) (by kernel_rfl) (by decide) (by kernel_rfl) (.inr ⟨_, rfl⟩) (.cons rfl .nil) (q_args_cons rfl (q_loc rfl (by kernel_rfl)) q_args_nil) pl_tuple) q_args_nil) pl_append PySem.F.slot_list_append PySem.F.type_list_append rfl rfl rfl) rfl rfl)
q_nil)))))
q_nil)))) fun _ => rfl)
(q_seq (q_return (q_loc rfl (by kernel_rfl)))
q_nil))))
theorem pl_403 (U : Setup W) : QPL W 2 (fun vs => call (.ref 403) vs) R__law_clauses := q_fun (F := f_403 W.w.params) (lay := l_403) (fnOK_of U.hK (chk_403 _) (b2 (bnd_403 _))) ⟨_, rfl⟩ (by decide) fun L => body_403 U L

noncomputable def l_410 : List Str := [("code" : Str), ("clauses" : Str), ("sort" : Str), ("t0" : Str), ("t1" : Str), ("h0" : Str), ("h1" : Str), ("extra" : Str), ("edges" : Str), ("n" : Str)]
theorem chk_410 (P : Params) : fnChk (K0 P) 410 [("code" : Str), ("clauses" : Str)] = true := by kernel_rfl
theorem bnd_410 (P : Params) : ∀ a0 a1, bindArgs (fdOf (K0 P) 410) ⟨[a0, a1], []⟩ = pure [(("code" : Str), a0), (("clauses" : Str), a1)] := by intros; kernel_rfl
noncomputable abbrev f_410 (P : Params) : Fn := fnAt (K0 P) 410 [("code" : Str), ("clauses" : Str)]
theorem lay_410 (P : Params) (L : Addr) : LayOK l_410 ((f_410 P).env L) := .of L (by decide) (by decide) (by kernel_rfl)
theorem body_410 (U : Setup W) (L : Addr) : QS W l_410 ((f_410 W.w.params).env L) 0 (execs (bodyOf (K0 W.w.params) 410) ((f_410 W.w.params).env L)) D__law_edges_good :=
(q_seq (q_for (q_loc rfl (by kernel_rfl)) (tgl_many (lay_410 _ L) (.cons rfl (.cons rfl (.cons rfl (.cons rfl (.cons rfl (.cons rfl .nil)))))))
(q_seq (q_assign (lay_410 _ L) rfl rfl (q_bin (q_list (q_args_cons rfl (q_loc rfl (by kernel_rfl)) (q_args_cons rfl (q_loc rfl (by kernel_rfl)) (q_args_cons rfl (q_loc rfl (by kernel_rfl)) (q_args_cons rfl (q_loc rfl (by kernel_rfl)) q_args_nil))))) (q_ifexp (q_testC (q_loc rfl (by kernel_rfl)) q_int p_eq rfl) (q_list (q_args_cons rfl (q_loc rfl (by kernel_rfl)) q_args_nil)) (q_list q_args_nil)) p_add))
(q_seq (q_for (q_tuple (q_args_cons rfl (q_loc rfl (by kernel_rfl)) (q_args_cons rfl (q_loc rfl (by kernel_rfl)) (q_args_cons rfl (q_loc rfl (by kernel_rfl)) q_args_nil)))) (tgl_one (lay_410 _ L) rfl)
(q_seq (q_if (q_testC (q_loc rfl (by kernel_rfl)) (q_blt (by kernel_rfl) (U.ns (by kernel_rfl)) (by kernel_rfl) (by decide) (by kernel_rfl) (.inl ⟨_, rfl⟩) (.cons rfl .nil) (q_args_cons rfl (q_loc rfl (by kernel_rfl)) q_args_nil) pl_len) p_ge rfl)
(q_seq (q_return q_bool)
q_nil)
q_nil)
q_nil) fun _ => rfl)
(q_seq (q_for (q_loc rfl (by kernel_rfl)) (tgl_one (lay_410 _ L) rfl)
(q_seq (q_if (q_boolop (q_or_cons (q_testC (q_loc rfl (by kernel_rfl)) q_int p_lt rfl) (q_or_cons (q_testC (q_loc rfl (by kernel_rfl)) (q_blt (by kernel_rfl) (U.ns (by kernel_rfl)) (by kernel_rfl) (by decide) (by kernel_rfl) (.inl ⟨_, rfl⟩) (.cons rfl .nil) (q_args_cons rfl (q_loc rfl (by kernel_rfl)) q_args_nil) pl_len) p_gt rfl) (q_or_cons (q_boolop (q_and_cons (q_testC (q_loc rfl (by kernel_rfl)) q_int p_gt rfl) (q_and_cons (q_testC (q_sub (tabF U) (q_sub (tabF U) (q_loc rfl (by kernel_rfl)) (q_bin (q_loc rfl (by kernel_rfl)) q_int p_sub) fun _ _ => rfl) q_int fun _ _ => rfl) (q_tuple (q_args_cons rfl q_int (q_args_cons rfl q_int q_args_nil))) (p_in (tabF U)) rfl) q_and_nil))) q_or_nil))))
(q_seq (q_return q_bool)
q_nil)
q_nil)
q_nil) fun _ => rfl)
q_nil))) fun _ => rfl)
(q_seq (q_return q_bool)
q_nil))
theorem pl_410 (U : Setup W) : QPL W 1 (fun vs => call (.ref 410) vs) R__law_edges_good := q_fun (F := f_410 W.w.params) (lay := l_410) (fnOK_of U.hK (chk_410 _) (b2 (bnd_410 _))) ⟨_, rfl⟩ (by decide) fun L => body_410 U L

noncomputable def l_417 : List Str := [("code" : Str), ("i" : Str), ("op" : Str), ("goal" : Str), ("out" : Str)]
theorem chk_417 (P : Params) : fnChk (K0 P) 417 [("code" : Str), ("i" : Str)] = true := by kernel_rfl
theorem bnd_417 (P : Params) : ∀ a0 a1, bindArgs (fdOf (K0 P) 417) ⟨[a0, a1], []⟩ = pure [(("code" : Str), a0), (("i" : Str), a1)] := by intros; kernel_rfl
noncomputable abbrev f_417 (P : Params) : Fn := fnAt (K0 P) 417 [("code" : Str), ("i" : Str)]
theorem lay_417 (P : Params) (L : Addr) : LayOK l_417 ((f_417 P).env L) := .of L (by decide) (by decide) (by kernel_rfl)
theorem body_417 (U : Setup W) (L : Addr) : QS W l_417 ((f_417 W.w.params).env L) 0 (execs (bodyOf (K0 W.w.params) 417) ((f_417 W.w.params).env L)) D__law_goals :=
(q_seq (q_unpack (lay_417 _ L) (.cons rfl (.cons rfl .nil)) (q_sub (tabF U) (q_loc rfl (by kernel_rfl)) (q_loc rfl (by kernel_rfl)) fun _ _ => rfl) rfl rfl)
(q_seq (q_assign (lay_417 _ L) rfl rfl (q_list q_args_nil))
(q_seq (q_if (q_boolop (q_and_cons (q_testC (q_loc rfl (by kernel_rfl)) (q_glob (v := .ref 360) (by kernel_rfl) (U.ns (by kernel_rfl)) (by kernel_rfl) (kvENDS U)) (p_notIn (tabF U)) rfl) (q_and_cons (q_testC (q_bin (q_loc rfl (by kernel_rfl)) q_int p_add) (q_blt (by kernel_rfl) (U.ns (by kernel_rfl)) (by kernel_rfl) (by decide) (by kernel_rfl) (.inl ⟨_, rfl⟩) (.cons rfl .nil) (q_args_cons rfl (q_loc rfl (by kernel_rfl)) q_args_nil) pl_len) p_lt rfl) q_and_nil)))
(q_seq (q_expr (q_methL (q_loc rfl (by kernel_rfl)) (.cons rfl .nil) (q_args_cons rfl (q_bin (q_loc rfl (by kernel_rfl)) q_int p_add) q_args_nil) pl_append PySem.F.slot_list_append PySem.F.type_list_append rfl rfl rfl) rfl rfl)
q_nil)
q_nil)
(q_seq (q_if (q_testC (q_loc rfl (by kernel_rfl)) q_int p_eq rfl)
(q_seq (q_return (q_bin (q_loc rfl (by kernel_rfl)) (q_blt (by kernel_rfl) (U.ns (by kernel_rfl)) (by kernel_rfl) (by decide) (by kernel_rfl) (.inr ⟨_, rfl⟩) (.cons rfl .nil) (q_args_cons rfl (q_loc rfl (by kernel_rfl)) q_args_nil) pl_list) p_add))
q_nil)
q_nil)
(q_seq (q_if (q_boolop (q_or_cons (q_chain q_int (q_loc rfl (by kernel_rfl)) q_int p_le p_lt rfl) (q_or_cons (q_testC (q_loc rfl (by kernel_rfl)) q_int p_eq rfl) q_or_nil)))
(q_seq (q_expr (q_methL (q_loc rfl (by kernel_rfl)) (.cons rfl .nil) (q_args_cons rfl (q_loc rfl (by kernel_rfl)) q_args_nil) pl_append PySem.F.slot_list_append PySem.F.type_list_append rfl rfl rfl) rfl rfl)
q_nil)
q_nil)
(q_seq (q_return (q_loc rfl (by kernel_rfl)))
q_nil))))))
theorem pl_417 (U : Setup W) : QPL W 1 (fun vs => call (.ref 417) vs) R__law_goals := q_fun (F := f_417 W.w.params) (lay := l_417) (fnOK_of U.hK (chk_417 _) (b2 (bnd_417 _))) ⟨_, rfl⟩ (by decide) fun L => body_417 U L

noncomputable def l_422 : List Str := [("code" : Str), ("effects" : Str), ("clauses" : Str), ("depths" : Str), ("clause" : Str), ("most" : Str), ("turned" : Str), ("i" : Str), ("depth" : Str), ("behind" : Str), ("goal" : Str)]
theorem chk_422 (P : Params) : fnChk (K0 P) 422 [("code" : Str), ("effects" : Str), ("clauses" : Str)] = true := by kernel_rfl
theorem bnd_422 (P : Params) : ∀ a0 a1 a2, bindArgs (fdOf (K0 P) 422) ⟨[a0, a1, a2], []⟩ = pure [(("code" : Str), a0), (("effects" : Str), a1), (("clauses" : Str), a2)] := by intros; kernel_rfl
noncomputable abbrev f_422 (P : Params) : Fn := fnAt (K0 P) 422 [("code" : Str), ("effects" : Str), ("clauses" : Str)]
theorem lay_422 (P : Params) (L : Addr) : LayOK l_422 ((f_422 P).env L) := .of L (by decide) (by decide) (by kernel_rfl)
theorem body_422 (U : Setup W) (L : Addr) : QS W l_422 ((f_422 W.w.params).env L) 1 (execs (bodyOf (K0 W.w.params) 422) ((f_422 W.w.params).env L)) D__law_most :=
(q_seq (q_if (q_not (q_testV (q_call (by kernel_rfl) (U.ns (by kernel_rfl)) (by kernel_rfl) (U.keep (by kernel_rfl)) (.cons rfl (.cons rfl .nil)) (q_args_cons rfl (q_loc rfl (by kernel_rfl)) (q_args_cons rfl (q_loc rfl (by kernel_rfl)) q_args_nil)) ((pl_410 U).up (by decide))) rfl))
(q_seq (q_return (q_neg q_int))
q_nil)
q_nil)
(q_seq (q_assign_comp (lay_422 _ L) rfl rfl (free := []) (fr := []) (cl := []) (compok0 (by kernel_rfl) rfl (by decide +kernel) (by kernel_rfl) (by decide +kernel) (by decide +kernel) fr0) (fun _ => rfl) (q_loc rfl (by kernel_rfl)) (fun C => q_tests_nil) (fun C => (q_list q_args_nil)))
(q_seq (q_if (q_testV (q_loc rfl (by kernel_rfl)) rfl)
(q_seq (q_expr (q_methL (q_sub (tabF U) (q_loc rfl (by kernel_rfl)) q_int fun _ _ => rfl) (.cons rfl .nil) (q_args_cons rfl q_int q_args_nil) pl_append PySem.F.slot_list_append PySem.F.type_list_append rfl rfl rfl) rfl rfl)
q_nil)
q_nil)
(q_seq (q_for (q_loc rfl (by kernel_rfl)) (tgl_one (lay_422 _ L) rfl)
(q_seq (q_expr (q_methL (q_sub (tabF U) (q_loc rfl (by kernel_rfl)) (q_sub (tabF U) (q_loc rfl (by kernel_rfl)) q_int fun _ _ => rfl) fun _ _ => rfl) (.cons rfl .nil) (q_args_cons rfl (q_ifexp (q_testC (q_sub (tabF U) (q_loc rfl (by kernel_rfl)) q_int fun _ _ => rfl) q_int p_lt rfl) q_int q_int) q_args_nil) pl_append PySem.F.slot_list_append PySem.F.type_list_append rfl rfl rfl) rfl rfl)
(q_seq (q_if (q_testC (q_sub (tabF U) (q_loc rfl (by kernel_rfl)) q_int fun _ _ => rfl) q_int p_eq rfl)
(q_seq (q_expr (q_methL (q_sub (tabF U) (q_loc rfl (by kernel_rfl)) (q_sub (tabF U) (q_loc rfl (by kernel_rfl)) q_int fun _ _ => rfl) fun _ _ => rfl) (.cons rfl .nil) (q_args_cons rfl q_int q_args_nil) pl_append PySem.F.slot_list_append PySem.F.type_list_append rfl rfl rfl) rfl rfl)
q_nil)
q_nil)
q_nil)) fun _ => rfl)
(q_seq (q_assign (lay_422 _ L) rfl rfl q_int)
(q_seq (q_assign (lay_422 _ L) rfl rfl q_bool)
(q_seq (q_while 100 (q_testV (q_loc rfl (by kernel_rfl)) rfl)
(q_seq (q_assign (lay_422 _ L) rfl rfl q_bool)
(q_seq (q_for (q_blt (by kernel_rfl) (U.ns (by kernel_rfl)) (by kernel_rfl) (by decide) (by kernel_rfl) (.inr ⟨_, rfl⟩) (.cons rfl .nil) (q_args_cons rfl (q_blt (by kernel_rfl) (U.ns (by kernel_rfl)) (by kernel_rfl) (by decide) (by kernel_rfl) (.inl ⟨_, rfl⟩) (.cons rfl .nil) (q_args_cons rfl (q_loc rfl (by kernel_rfl)) q_args_nil) pl_len) q_args_nil) pl_range) (tgl_one (lay_422 _ L) rfl)
(q_seq (q_if (q_testC (q_sub (tabF U) (q_loc rfl (by kernel_rfl)) (q_loc rfl (by kernel_rfl)) fun _ _ => rfl) (q_list q_args_nil) p_eq rfl)
(q_seq q_continue
q_nil)
q_nil)
(q_seq (q_assign (lay_422 _ L) rfl rfl (q_blt (by kernel_rfl) (U.ns (by kernel_rfl)) (by kernel_rfl) (by decide) (by kernel_rfl) (.inl ⟨_, rfl⟩) (.cons rfl .nil) (q_args_cons rfl (q_sub (tabF U) (q_loc rfl (by kernel_rfl)) (q_loc rfl (by kernel_rfl)) fun _ _ => rfl) q_args_nil) pl_min))
(q_seq (q_if (q_boolop (q_or_cons (q_testC (q_loc rfl (by kernel_rfl)) (q_blt (by kernel_rfl) (U.ns (by kernel_rfl)) (by kernel_rfl) (by decide) (by kernel_rfl) (.inl ⟨_, rfl⟩) (.cons rfl .nil) (q_args_cons rfl (q_sub (tabF U) (q_loc rfl (by kernel_rfl)) (q_loc rfl (by kernel_rfl)) fun _ _ => rfl) q_args_nil) pl_max) p_ne rfl) (q_or_cons (q_testC (q_sub (tabF U) (q_loc rfl (by kernel_rfl)) (q_loc rfl (by kernel_rfl)) fun _ _ => rfl) q_none p_is rfl) (q_or_cons (q_testC (q_sub (tabF U) (q_sub (tabF U) (q_loc rfl (by kernel_rfl)) (q_loc rfl (by kernel_rfl)) fun _ _ => rfl) q_int fun _ _ => rfl) (q_loc rfl (by kernel_rfl)) p_gt rfl) q_or_nil))))
(q_seq (q_return (q_neg q_int))
q_nil)
q_nil)
(q_seq (q_assign (lay_422 _ L) rfl rfl (q_call (by kernel_rfl) (U.ns (by kernel_rfl)) (by kernel_rfl) (U.keep (by kernel_rfl)) (.cons rfl (.cons rfl (.cons rfl .nil))) (q_args_cons rfl (q_sub (tabF U) (q_sub (tabF U) (q_loc rfl (by kernel_rfl)) (q_loc rfl (by kernel_rfl)) fun _ _ => rfl) q_int fun _ _ => rfl) (q_args_cons rfl (q_sub (tabF U) (q_loc rfl (by kernel_rfl)) (q_loc rfl (by kernel_rfl)) fun _ _ => rfl) (q_args_cons rfl (q_loc rfl (by kernel_rfl)) q_args_nil))) ((pl_379 U).up (by decide))))
(q_seq (q_assign (lay_422 _ L) rfl rfl (q_blt (by kernel_rfl) (U.ns (by kernel_rfl)) (by kernel_rfl) (by decide) (by kernel_rfl) (.inl ⟨_, rfl⟩) (.cons rfl (.cons rfl (.cons rfl .nil))) (q_args_cons rfl (q_loc rfl (by kernel_rfl)) (q_args_cons rfl (q_loc rfl (by kernel_rfl)) (q_args_cons rfl (q_loc rfl (by kernel_rfl)) q_args_nil))) pl_max))
(q_seq (q_for (q_call (by kernel_rfl) (U.ns (by kernel_rfl)) (by kernel_rfl) (U.keep (by kernel_rfl)) (.cons rfl (.cons rfl .nil)) (q_args_cons rfl (q_loc rfl (by kernel_rfl)) (q_args_cons rfl (q_loc rfl (by kernel_rfl)) q_args_nil)) ((pl_417 U).up (by decide))) (tgl_one (lay_422 _ L) rfl)
(q_seq (q_if (q_boolop (q_or_cons (q_testC (q_loc rfl (by kernel_rfl)) q_int p_lt rfl) (q_or_cons (q_testC (q_loc rfl (by kernel_rfl)) (q_blt (by kernel_rfl) (U.ns (by kernel_rfl)) (by kernel_rfl) (by decide) (by kernel_rfl) (.inl ⟨_, rfl⟩) (.cons rfl .nil) (q_args_cons rfl (q_loc rfl (by kernel_rfl)) q_args_nil) pl_len) p_ge rfl) q_or_nil)))
(q_seq (q_return (q_neg q_int))
q_nil)
q_nil)
(q_seq (q_if (q_testC (q_loc rfl (by kernel_rfl)) (q_sub (tabF U) (q_loc rfl (by kernel_rfl)) (q_loc rfl (by kernel_rfl)) fun _ _ => rfl) (p_notIn (tabF U)) rfl)
(q_seq (q_expr (q_methL (q_sub (tabF U) (q_loc rfl (by kernel_rfl)) (q_loc rfl (by kernel_rfl)) fun _ _ => rfl) (.cons rfl .nil) (q_args_cons rfl (q_loc rfl (by kernel_rfl)) q_args_nil) pl_append PySem.F.slot_list_append PySem.F.type_list_append rfl rfl rfl) rfl rfl)
(q_seq (q_assign (lay_422 _ L) rfl rfl q_bool)
q_nil))
q_nil)
q_nil)) fun _ => rfl)
q_nil)))))) fun _ => rfl)
q_nil)))
(q_seq (q_return (q_loc rfl (by kernel_rfl)))
q_nil))))))))
theorem pl_422 (U : Setup W) : QPL W 2 (fun vs => call (.ref 422) vs) R__law_most := q_fun (F := f_422 W.w.params) (lay := l_422) (fnOK_of U.hK (chk_422 _) (b3 (bnd_422 _))) ⟨_, rfl⟩ (by decide) fun L => body_422 U L

noncomputable def l_427 : List Str := [("script" : Str), ("ret" : Str), ("q" : Str), ("numbers" : Str), ("rows" : Str), ("code" : Str), ("clauses" : Str), ("want" : Str), ("got" : Str)]
theorem chk_427 (P : Params) : fnChk (K0 P) 427 [("script" : Str)] = true := by kernel_rfl
theorem bnd_427 (P : Params) : ∀ a0, bindArgs (fdOf (K0 P) 427) ⟨[a0], []⟩ = pure [(("script" : Str), a0)] := by intros; kernel_rfl
noncomputable abbrev f_427 (P : Params) : Fn := fnAt (K0 P) 427 [("script" : Str)]
theorem lay_427 (P : Params) (L : Addr) : LayOK l_427 ((f_427 P).env L) := .of L (by decide) (by decide) (by kernel_rfl)
theorem body_427 (U : Setup W) (L : Addr) : QT W l_427 ((f_427 W.w.params).env L) 4 (execs (bodyOf (K0 W.w.params) 427) ((f_427 W.w.params).env L)) D_law :=
(qT_seq (q_assign (lay_427 _ L) rfl rfl (q_ifexp (q_testV (q_loc rfl (by kernel_rfl)) rfl) (q_bin (q_sub (tabF U) (q_loc rfl (by kernel_rfl)) q_int fun _ _ => rfl) q_int p_mod) q_int))
(qT_seq (q_assign (lay_427 _ L) rfl rfl (q_ifexp (q_testC (q_blt (by kernel_rfl) (U.ns (by kernel_rfl)) (by kernel_rfl) (by decide) (by kernel_rfl) (.inl ⟨_, rfl⟩) (.cons rfl .nil) (q_args_cons rfl (q_loc rfl (by kernel_rfl)) q_args_nil) pl_len) q_int p_gt rfl) (q_sub (tabF U) (q_loc rfl (by kernel_rfl)) q_int fun _ _ => rfl) q_int))
(qT_seq (q_assign (lay_427 _ L) rfl rfl (q_ifexp (q_testC (q_blt (by kernel_rfl) (U.ns (by kernel_rfl)) (by kernel_rfl) (by decide) (by kernel_rfl) (.inl ⟨_, rfl⟩) (.cons rfl .nil) (q_args_cons rfl (q_loc rfl (by kernel_rfl)) q_args_nil) pl_len) q_int p_gt rfl) (q_slice (q_loc rfl (by kernel_rfl)) fun _ _ => rfl) (q_list (q_args_cons rfl q_int (q_args_cons rfl (q_bin q_int q_int p_mul) (q_args_cons rfl q_int (q_args_cons rfl (q_bin q_int q_int p_mul) (q_args_cons rfl q_int q_args_nil))))))))
(qT_seq (q_if (q_boolop (q_and_cons (q_testC (q_blt (by kernel_rfl) (U.ns (by kernel_rfl)) (by kernel_rfl) (by decide) (by kernel_rfl) (.inl ⟨_, rfl⟩) (.cons rfl .nil) (q_args_cons rfl (q_loc rfl (by kernel_rfl)) q_args_nil) pl_len) q_int p_gt rfl) (q_and_cons (q_testC (q_bin (q_sub (tabF U) (q_loc rfl (by kernel_rfl)) q_int fun _ _ => rfl) q_int p_mod) q_int p_eq rfl) q_and_nil)))
(q_seq (q_assign (lay_427 _ L) rfl rfl (q_list q_args_nil))
q_nil)
q_nil)
(qT_seq (q_assign (lay_427 _ L) rfl rfl (q_call (by kernel_rfl) (U.ns (by kernel_rfl)) (by kernel_rfl) (U.keep (by kernel_rfl)) (.cons rfl (.cons rfl .nil)) (q_args_cons rfl (q_loc rfl (by kernel_rfl)) (q_args_cons rfl (q_loc rfl (by kernel_rfl)) q_args_nil)) ((pl_386 U).up (by decide))))
(qT_seq (q_assign (lay_427 _ L) rfl rfl (q_call (by kernel_rfl) (U.ns (by kernel_rfl)) (by kernel_rfl) (U.keep (by kernel_rfl)) (.cons rfl .nil) (q_args_cons rfl (q_loc rfl (by kernel_rfl)) q_args_nil) ((pl_396 U).up (by decide))))
(qT_seq (q_assign (lay_427 _ L) rfl rfl (q_call (by kernel_rfl) (U.ns (by kernel_rfl)) (by kernel_rfl) (U.keep (by kernel_rfl)) (.cons rfl (.cons rfl .nil)) (q_args_cons rfl (q_loc rfl (by kernel_rfl)) (q_args_cons rfl (q_loc rfl (by kernel_rfl)) q_args_nil)) ((pl_403 U).up (by decide))))
(qT_seq (q_assign (lay_427 _ L) rfl rfl (q_call (by kernel_rfl) (U.ns (by kernel_rfl)) (by kernel_rfl) (U.keep (by kernel_rfl)) (.cons rfl (.cons rfl (.cons rfl .nil))) (q_args_cons rfl (q_loc rfl (by kernel_rfl)) (q_args_cons rfl (q_comp (free := []) (fr := []) (cl := []) (compok0 (by kernel_rfl) rfl (by decide +kernel) (by kernel_rfl) (by decide +kernel) (by decide +kernel) fr0) (fun _ => rfl) (q_loc rfl (by kernel_rfl)) (fun C => q_tests_nil) (fun C => (q_sub (tabF U) (q_loc rfl (by kernel_rfl)) q_int fun _ _ => rfl))) (q_args_cons rfl (q_loc rfl (by kernel_rfl)) q_args_nil))) ((pl_422 U).up (by decide))))
(qT_try (ig := 8) (iw := 7) (lay_427 _ L) rfl rfl (by decide) (by kernel_rfl) (by kernel_rfl) (by kernel_rfl) rfl (by kernel_rfl) (by rw [U.bad]; exact U.ns (by kernel_rfl)) (by kernel_rfl) (by kernel_rfl) (by kernel_rfl) (bad_match U) (q_call (by kernel_rfl) (U.ns (by kernel_rfl)) (by kernel_rfl) (U.keep (by kernel_rfl)) (.cons rfl (.cons rfl (.cons rfl .nil))) (q_args_cons rfl (q_loc rfl (by kernel_rfl)) (q_args_cons rfl (q_loc rfl (by kernel_rfl)) (q_args_cons rfl (q_call (f := W.tel) (by kernel_rfl) (by rw [U.tel]; exact U.ns (by kernel_rfl)) (by kernel_rfl) (tel_ok U).keep (.cons rfl (.cons rfl .nil)) (q_args_cons rfl (q_glob (v := .ref (W.tabA 2)) (by kernel_rfl) (by rw [U.t2]; exact U.ns (by kernel_rfl)) (by kernel_rfl) fun _ _ _ => .tab _) (q_args_cons rfl (q_loc rfl (by kernel_rfl)) q_args_nil)) (.mk (pl_tel (tel_ok U)))) q_args_nil))) ((pl_310 U).up (by decide))))))))))))
end
end Mine
end
section
set_option tactic.hygienic false
set_option backward.defeqAttrib.useBackward true
set_option maxRecDepth 100000
open PySem PySem.W PyProof.Rows PySem.Calls
namespace Mine

/-! # the denotations, step by step -/
@[simp] theorem R.bind_ite {α β : Type} {c : Prop} [Decidable c] (x y : R α) (k : α → Sto → R β) : (if c then x else y).bind k = if c then x.bind k else y.bind k := by split <;> rfl
@[simp] theorem R.bindS_ite {α : Type} {c : Prop} [Decidable c] (x y : R α) (k : α → Sto → RS) : (if c then x else y).bindS k = if c then x.bindS k else y.bindS k := by split <;> rfl
@[simp] theorem RS.bind_ite {c : Prop} [Decidable c] (x y : RS) (k : Fl → St → RS) : (if c then x else y).bind k = if c then x.bind k else y.bind k := by split <;> rfl
noncomputable def RS.fin : RS → R V
  | .ok (.ret v) st => .ok v st.sto
  | .ok .next st => .ok .none st.sto
  | .ok _ _ => .stuck
  | .exc => .exc
  | .stuck => .stuck
@[simp] theorem RS.fin_ite {c : Prop} [Decidable c] (x y : RS) : (if c then x else y).fin = if c then x.fin else y.fin := by split <;> rfl
@[simp] theorem fin_ret (v : V) (st : St) : (RS.ok (.ret v) st).fin = .ok v st.sto := rfl
@[simp] theorem fin_next (st : St) : (RS.ok .next st).fin = .ok .none st.sto := rfl
@[simp] theorem fin_exc : RS.exc.fin = .exc := rfl
@[simp] theorem fin_stuck : RS.stuck.fin = .stuck := rfl
noncomputable def argL (xs : List V) : Nat → Option V := fun i => xs[i]?
@[simp] theorem argL_0 (x : V) (xs : List V) : argL (x :: xs) 0 = some x := rfl
@[simp] theorem argL_s (x : V) (xs : List V) (i : Nat) : argL (x :: xs) (i + 1) = argL xs i := rfl
@[simp] theorem argL_1 (x y : V) (xs : List V) : argL (x :: y :: xs) 1 = some y := rfl
@[simp] theorem argL_2 (x y z : V) (xs : List V) : argL (x :: y :: z :: xs) 2 = some z := rfl
@[simp] theorem argL_3 (x y z w : V) (xs : List V) : argL (x :: y :: z :: w :: xs) 3 = some w := rfl
theorem run_eq (k : Nat) (D : DS) (xs : List V) (σ : Sto) (h : xs.length = k) : runFn k D xs σ = (D ⟨argL xs, σ⟩).fin := by
  unfold runFn
  rw [if_pos h]
  show (match D ⟨argL xs, σ⟩ with
    | .ok (.ret v) st => R.ok v st.sto
    | .ok .next st => .ok .none st.sto
    | .ok _ _ => .stuck
    | .exc => .exc
    | .stuck => .stuck) = _
  generalize D ⟨argL xs, σ⟩ = r
  rcases r with ⟨f, st⟩ | _ | _
  · cases f <;> rfl
  · rfl
  · rfl
@[simp] theorem upd_self (l : Nat → Option V) (i : Nat) (v : V) : upd l i v i = some v := if_pos rfl
theorem upd_ne (l : Nat → Option V) {i j : Nat} (v : V) (h : j ≠ i) : upd l i v j = l j := if_neg h

noncomputable def seqK (b : DS) (f : Fl) (st : St) : RS := match f with
  | .next => b st
  | f => .ok f st
@[simp] theorem seqK_next (b : DS) (st : St) : seqK b .next st = b st := rfl
@[simp] theorem seqK_cont (b : DS) (st : St) : seqK b .cont st = .ok .cont st := rfl
@[simp] theorem seqK_ret (b : DS) (v : V) (st : St) : seqK b (.ret v) st = .ok (.ret v) st := rfl
@[simp] theorem seq_ap (a b : DS) (st : St) : sSeq a b st = (a st).bind (seqK b) := rfl
@[simp] theorem nil_ap (st : St) : sNil st = .ok .next st := rfl
@[simp] theorem cont_ap (st : St) : sCont st = .ok .cont st := rfl
noncomputable def ifK (a b : DS) (loc : Nat → Option V) (c : Bool) (σ : Sto) : RS := if c then a ⟨loc, σ⟩ else b ⟨loc, σ⟩
@[simp] theorem if_ap (t : DB) (a b : DS) (st : St) : sIf t a b st = (t st).bindS (ifK a b st.loc) := rfl
@[simp] theorem ifK_ap (a b : DS) (loc : Nat → Option V) (c : Bool) (σ : Sto) : ifK a b loc c σ = if c then a ⟨loc, σ⟩ else b ⟨loc, σ⟩ := rfl
noncomputable def asgK (i : Nat) (loc : Nat → Option V) (v : V) (σ : Sto) : RS := .ok .next ⟨upd loc i v, σ⟩
@[simp] theorem asg_ap (i : Nat) (d : DE) (st : St) : sAssign i d st = (d st).bindS (asgK i st.loc) := rfl
@[simp] theorem asgK_ap (i : Nat) (loc : Nat → Option V) (v : V) (σ : Sto) : asgK i loc v σ = .ok .next ⟨upd loc i v, σ⟩ := rfl
noncomputable def retK (loc : Nat → Option V) (v : V) (σ : Sto) : RS := .ok (.ret v) ⟨loc, σ⟩
@[simp] theorem ret_ap (d : DE) (st : St) : sReturn d st = (d st).bindS (retK st.loc) := rfl
@[simp] theorem retK_ap (loc : Nat → Option V) (v : V) (σ : Sto) : retK loc v σ = .ok (.ret v) ⟨loc, σ⟩ := rfl
noncomputable def exprK (loc : Nat → Option V) (_ : V) (σ : Sto) : RS := .ok .next ⟨loc, σ⟩
@[simp] theorem expr_ap (d : DE) (st : St) : sExpr d st = (d st).bindS (exprK st.loc) := rfl
@[simp] theorem exprK_ap (loc : Nat → Option V) (v : V) (σ : Sto) : exprK loc v σ = .ok .next ⟨loc, σ⟩ := rfl
noncomputable def raiseK (_ : V) (_ : Sto) : RS := .exc
@[simp] theorem raise_ap (d : DE) (st : St) : sRaise d st = (d st).bindS raiseK := rfl
@[simp] theorem raiseK_ap (v : V) (σ : Sto) : raiseK v σ = .exc := rfl
noncomputable def unpK (is : List Nat) (loc : Nat → Option V) (v : V) (σ : Sto) : RS := match (Tgt.many is).set v loc with
  | some loc' => .ok .next ⟨loc', σ⟩
  | none => .stuck
@[simp] theorem unp_ap (is : List Nat) (d : DE) (st : St) : sUnpack is d st = (d st).bindS (unpK is st.loc) := rfl
@[simp] theorem unpK_2 (i j : Nat) (loc : Nat → Option V) (x y : V) (σ : Sto) : unpK [i, j] loc (.tup [x, y]) σ = .ok .next ⟨upd (upd loc i x) j y, σ⟩ := rfl
@[simp] theorem unpK_4 (i j k l : Nat) (loc : Nat → Option V) (x y z w : V) (σ : Sto) : unpK [i, j, k, l] loc (.tup [x, y, z, w]) σ = .ok .next ⟨upd (upd (upd (upd loc i x) j y) k z) l w, σ⟩ := rfl

@[simp] theorem int_ap (i : Int) (st : St) : dInt i st = .ok (.int i) st.sto := rfl
@[simp] theorem none_ap (st : St) : dNone st = .ok .none st.sto := rfl
@[simp] theorem bool_ap (b : Bool) (st : St) : dBool b st = .ok (.bool b) st.sto := rfl
@[simp] theorem val_ap (v : V) (st : St) : dVal v st = .ok v st.sto := rfl
noncomputable def locK (σ : Sto) : Option V → R V
  | some v => .ok v σ
  | none => .stuck
@[simp] theorem loc_ap (i : Nat) (st : St) : dLoc i st = locK st.sto (st.loc i) := rfl
@[simp] theorem locK_some (σ : Sto) (v : V) : locK σ (some v) = .ok v σ := rfl
@[simp] theorem then_ap {α β : Type} (d : St → R α) (k : α → Sto → R β) (st : St) : dThen d k st = (d st).bind k := rfl
noncomputable def k2 {α β γ : Type} (e : St → R β) (k : α → β → Sto → R γ) (loc : Nat → Option V) (a : α) (σ : Sto) : R γ := (e ⟨loc, σ⟩).bind (k a)
@[simp] theorem then2_ap {α β γ : Type} (d : St → R α) (e : St → R β) (k : α → β → Sto → R γ) (st : St) : dThen2 d e k st = (d st).bind (k2 e k st.loc) := rfl
@[simp] theorem k2_ap {α β γ : Type} (e : St → R β) (k : α → β → Sto → R γ) (loc : Nat → Option V) (a : α) (σ : Sto) : k2 e k loc a σ = (e ⟨loc, σ⟩).bind (k a) := rfl
@[simp] theorem lnil_ap (st : St) : dNil st = .ok [] st.sto := rfl
noncomputable def consK2 (x : V) (xs : List V) (σ : Sto) : R (List V) := .ok (x :: xs) σ
noncomputable def consK (r : DL) (loc : Nat → Option V) (x : V) (σ : Sto) : R (List V) := (r ⟨loc, σ⟩).bind (consK2 x)
@[simp] theorem lcons_ap (d : DE) (r : DL) (st : St) : dCons d r st = (d st).bind (consK r st.loc) := rfl
@[simp] theorem consK_ap (r : DL) (loc : Nat → Option V) (x : V) (σ : Sto) : consK r loc x σ = (r ⟨loc, σ⟩).bind (consK2 x) := rfl
@[simp] theorem consK2_ap (x : V) (xs : List V) (σ : Sto) : consK2 x xs σ = .ok (x :: xs) σ := rfl
noncomputable def dIfK {α : Type} (a b : St → R α) (loc : Nat → Option V) (c : Bool) (σ : Sto) : R α := if c then a ⟨loc, σ⟩ else b ⟨loc, σ⟩
@[simp] theorem dif_ap {α : Type} (t : DB) (a b : St → R α) (st : St) : dIf t a b st = (t st).bind (dIfK a b st.loc) := rfl
@[simp] theorem difK_ap {α : Type} (a b : St → R α) (loc : Nat → Option V) (c : Bool) (σ : Sto) : dIfK a b loc c σ = if c then a ⟨loc, σ⟩ else b ⟨loc, σ⟩ := rfl
noncomputable def notK (b : Bool) (σ : Sto) : R Bool := .ok (!b) σ
@[simp] theorem not_ap (d : DB) (st : St) : dNot d st = (d st).bind notK := rfl
@[simp] theorem notK_ap (b : Bool) (σ : Sto) : notK b σ = .ok (!b) σ := rfl
noncomputable def andK (e : DB) (loc : Nat → Option V) (b : Bool) (σ : Sto) : R Bool := if b then e ⟨loc, σ⟩ else .ok false σ
@[simp] theorem and_ap (d e : DB) (st : St) : dAnd d e st = (d st).bind (andK e st.loc) := rfl
@[simp] theorem andK_ap (e : DB) (loc : Nat → Option V) (b : Bool) (σ : Sto) : andK e loc b σ = if b then e ⟨loc, σ⟩ else .ok false σ := rfl
noncomputable def orK (e : DB) (loc : Nat → Option V) (b : Bool) (σ : Sto) : R Bool := if b then .ok true σ else e ⟨loc, σ⟩
@[simp] theorem or_ap (d e : DB) (st : St) : dOr d e st = (d st).bind (orK e st.loc) := rfl
@[simp] theorem orK_ap (e : DB) (loc : Nat → Option V) (b : Bool) (σ : Sto) : orK e loc b σ = if b then .ok true σ else e ⟨loc, σ⟩ := rfl
@[simp] theorem true_ap (st : St) : dTrue st = .ok true st.sto := rfl
@[simp] theorem false_ap (st : St) : dFalse st = .ok false st.sto := rfl
@[simp] theorem dT_ap (st : St) : dT st = .ok true st.sto := rfl
noncomputable def orVK2 (e : DE) (loc : Nat → Option V) (v : V) (b : Bool) (σ : Sto) : R V := if b then .ok v σ else e ⟨loc, σ⟩
noncomputable def orVK (e : DE) (loc : Nat → Option V) (v : V) (σ : Sto) : R V := (oTruth v σ).bind (orVK2 e loc v)
@[simp] theorem orV_ap (d e : DE) (st : St) : dOrV d e st = (d st).bind (orVK e st.loc) := rfl
@[simp] theorem orVK_ap (e : DE) (loc : Nat → Option V) (v : V) (σ : Sto) : orVK e loc v σ = (oTruth v σ).bind (orVK2 e loc v) := rfl
@[simp] theorem orVK2_ap (e : DE) (loc : Nat → Option V) (v : V) (b : Bool) (σ : Sto) : orVK2 e loc v b σ = if b then .ok v σ else e ⟨loc, σ⟩ := rfl
noncomputable def methK2 (k : List V → Sto → R V) (o : V) (xs : List V) (σ : Sto) : R V := k (o :: xs) σ
noncomputable def methK (da : DL) (k : List V → Sto → R V) (loc : Nat → Option V) (o : V) (σ : Sto) : R V := if isLst σ o then (da ⟨loc, σ⟩).bind (methK2 k o) else .stuck
@[simp] theorem meth_ap (d : DE) (da : DL) (k : List V → Sto → R V) (st : St) : dMeth d da k st = (d st).bind (methK da k st.loc) := rfl
theorem methK_ap (da : DL) (k : List V → Sto → R V) (loc : Nat → Option V) (r : Nat) (σ : Sto) (xs : List V) (h : σ[r]? = some xs) : methK da k loc (.lst r) σ = (da ⟨loc, σ⟩).bind (methK2 k (.lst r)) := if_pos (by show (σ[r]?).isSome = true; rw [h]; rfl)
@[simp] theorem methK2_ap (k : List V → Sto → R V) (o : V) (xs : List V) (σ : Sto) : methK2 k o xs σ = k (o :: xs) σ := rfl
noncomputable def telK2 (k : List V → Sto → R V) (r : Int) (xs : List V) (σ : Sto) : R V := k (.tel r :: xs) σ
noncomputable def telK (da : DL) (k : List V → Sto → R V) (loc : Nat → Option V) (o : V) (σ : Sto) : R V := match o with
  | .tel r => (da ⟨loc, σ⟩).bind (telK2 k r)
  | _ => .stuck
@[simp] theorem tel_ap (d : DE) (da : DL) (k : List V → Sto → R V) (st : St) : dTelM d da k st = (d st).bind (telK da k st.loc) := rfl
@[simp] theorem telK_ap (da : DL) (k : List V → Sto → R V) (loc : Nat → Option V) (r : Int) (σ : Sto) : telK da k loc (.tel r) σ = (da ⟨loc, σ⟩).bind (telK2 k r) := rfl
@[simp] theorem telK2_ap (k : List V → Sto → R V) (r : Int) (xs : List V) (σ : Sto) : telK2 k r xs σ = k (.tel r :: xs) σ := rfl
noncomputable def chK (k : V → Sto → R Bool) (d2 : DE) (k2' : V → V → Sto → R V) (b : V) (loc : Nat → Option V) (t : Bool) (σ : Sto) : R Bool := if t then ((d2 ⟨loc, σ⟩).bind (k2' b)).bind k else .ok false σ
noncomputable def chK1 (d2 : DE) (k1 k2' : V → V → Sto → R V) (loc : Nat → Option V) (a b : V) (σ : Sto) : R Bool := (k1 a b σ).bind fun c σ => (oBoolV c σ).bind (chK oBoolV d2 k2' b loc)
noncomputable def chK0 (d1 d2 : DE) (k1 k2' : V → V → Sto → R V) (loc : Nat → Option V) (a : V) (σ : Sto) : R Bool := (d1 ⟨loc, σ⟩).bind (chK1 d2 k1 k2' loc a)
theorem bind_assoc' {α β γ : Type} (r : R α) (f : α → Sto → R β) (g : β → Sto → R γ) : (r.bind f).bind g = r.bind fun a σ => (f a σ).bind g := by cases r <;> rfl
@[simp] theorem chain_ap (dl d1 d2 : DE) (k1 k2' : V → V → Sto → R V) (st : St) : dChain dl d1 d2 k1 k2' st = (dl st).bind (chK0 d1 d2 k1 k2' st.loc) := by
  unfold dChain chK0 chK1 chK
  simp only [bind_assoc']
@[simp] theorem chK0_ap (d1 d2 : DE) (k1 k2' : V → V → Sto → R V) (loc : Nat → Option V) (a : V) (σ : Sto) : chK0 d1 d2 k1 k2' loc a σ = (d1 ⟨loc, σ⟩).bind (chK1 d2 k1 k2' loc a) := rfl
theorem chK1_ap (d2 : DE) (k1 k2' : V → V → Sto → R V) (loc : Nat → Option V) (a b : V) (σ : Sto) {t : Bool} (h : k1 a b σ = .ok (.bool t) σ) : chK1 d2 k1 k2' loc a b σ = if t then ((d2 ⟨loc, σ⟩).bind (k2' b)).bind oBoolV else .ok false σ := by
  unfold chK1; rw [h]; rfl

@[simp] theorem add_ii (a b : Int) (σ : Sto) : oAdd (.int a) (.int b) σ = .ok (.int (a + b)) σ := rfl
@[simp] theorem sub_ii (a b : Int) (σ : Sto) : oSub (.int a) (.int b) σ = .ok (.int (a - b)) σ := rfl
@[simp] theorem neg_i (a : Int) (σ : Sto) : oNeg (.int a) σ = .ok (.int (-a)) σ := rfl
@[simp] theorem eq_ii (a b : Int) (σ : Sto) : oEq (.int a) (.int b) σ = .ok (.bool (a == b)) σ := rfl
@[simp] theorem cmp_ii (f : Int → Int → Bool) (a b : Int) (σ : Sto) : oIntCmp f (.int a) (.int b) σ = .ok (.bool (f a b)) σ := rfl
theorem mod_ii (a b : Int) (σ : Sto) (h : b ≠ 0) : oMod (.int a) (.int b) σ = .ok (.int (a.fmod b)) σ := if_pos h
theorem div_ii (a b : Int) (σ : Sto) (h : b ≠ 0) (h' : b.natAbs < 1000000) : oDiv (.int a) (.int b) σ = .ok (.int (a.fdiv b)) σ := if_pos ⟨h, h'⟩
@[simp] theorem boolV_b (b : Bool) (σ : Sto) : oBoolV (.bool b) σ = .ok b σ := rfl
@[simp] theorem truth_b (b : Bool) (σ : Sto) : oTruth (.bool b) σ = .ok b σ := rfl
@[simp] theorem truth_i (a : Int) (σ : Sto) : oTruth (.int a) σ = .ok (a != 0) σ := rfl
theorem tup_ap (xs : List V) (σ : Sto) (h : xs.length ≤ limN) : oTup xs σ = .ok (.tup xs) σ := if_pos h
theorem lst_ap (xs : List V) (σ : Sto) (h : xs.length ≤ limN) : oLst xs σ = .ok (.lst σ.length) (σ ++ [xs]) := if_pos h
@[simp] theorem item_t0 (x : V) (xs : List V) (σ : Sto) : oItem tv (.tup (x :: xs)) (.int 0) σ = .ok x σ := rfl
@[simp] theorem item_t1 (x y : V) (xs : List V) (σ : Sto) : oItem tv (.tup (x :: y :: xs)) (.int 1) σ = .ok y σ := rfl
theorem item_t (xs : List V) (k : Nat) (x : V) (σ : Sto) (h : k < 1000) (e : xs[k]? = some x) : oItem tv (.tup xs) (.int k) σ = .ok x σ := by
  show (if (0 : Int) ≤ k ∧ (k : Int) < 1000 then (match xs[(k : Int).toNat]? with | some x => R.ok x σ | none => .stuck) else .stuck) = _
  rw [if_pos ⟨by (first | lia | omega), by (first | lia | omega)⟩, Int.toNat_natCast, e]
theorem item_l (r : Nat) (k : Nat) (xs : List V) (x : V) (σ : Sto) (hk : k < 1000) (h : σ[r]? = some xs) (e : xs[k]? = some x) : oItem tv (.lst r) (.int k) σ = .ok x σ := by
  show (if (0 : Int) ≤ k ∧ (k : Int) < 1000 then (match σ[r]?.bind (·[(k : Int).toNat]?) with | some x => R.ok x σ | none => .stuck) else .stuck) = _
  rw [if_pos ⟨by (first | lia | omega), by (first | lia | omega)⟩, Int.toNat_natCast, h, Option.bind_some, e]
theorem item_tab (t : Nat) (k : Int) (x : V) (σ : Sto) (h : t < 3) (e : tv t k = some x) : oItem tv (.tab t) (.int k) σ = .ok x σ := by
  show (if t < 3 then (match tv t k with | some x => R.ok x σ | none => .stuck) else .stuck) = _
  rw [if_pos h, e]
theorem in_tab (t : Nat) (k : Int) (σ : Sto) (h : t < 3) : oIn tv (.int k) (.tab t) σ = .ok (.bool (tv t k).isSome) σ := if_pos h
theorem notIn_tab (t : Nat) (k : Int) (σ : Sto) (h : t < 3) : oNotIn tv (.int k) (.tab t) σ = .ok (.bool (!(tv t k).isSome)) σ := if_pos h
@[simp] theorem in_ints (k : Int) (ns : List Int) (σ : Sto) : oIn tv (.int k) (.tup (ns.map V.int)) σ = .ok (.bool (ns.contains k)) σ := by
  show (match intsOf (ns.map V.int) with | some ns => R.ok (V.bool (ns.contains k)) σ | none => .stuck) = _
  rw [intsOf_map]
@[simp] theorem notIn_ints (k : Int) (ns : List Int) (σ : Sto) : oNotIn tv (.int k) (.tup (ns.map V.int)) σ = .ok (.bool (!ns.contains k)) σ := by
  show (match intsOf (ns.map V.int) with | some ns => R.ok (V.bool (!ns.contains k)) σ | none => .stuck) = _
  rw [intsOf_map]
theorem notIn_lst (k : Int) (r : Nat) (ns : List Int) (σ : Sto) (h : σ[r]? = some (ns.map V.int)) : oNotIn tv (.int k) (.lst r) σ = .ok (.bool (!ns.contains k)) σ := by
  show (match σ[r]?.bind intsOf with | some ns => R.ok (V.bool (!ns.contains k)) σ | none => .stuck) = _
  rw [h, Option.bind_some, intsOf_map]
theorem len_l (r : Nat) (xs : List V) (σ : Sto) (h : σ[r]? = some xs) (hl : xs.length ≤ limN) : oLen [.lst r] σ = .ok (.int xs.length) σ := by
  show (match σ[r]? with | some xs => if xs.length ≤ limN then R.ok (V.int xs.length) σ else .stuck | none => .stuck) = _
  rw [h]; exact if_pos hl
@[simp] theorem range_i (k : Int) (σ : Sto) : oRange [.int k] σ = .ok (.rng k) σ := rfl
theorem append_l (r : Nat) (xs : List V) (x : V) (σ : Sto) (h : σ[r]? = some xs) (hl : xs.length ≤ limN) : oAppend [.lst r, x] σ = .ok .none (σ.set r (xs ++ [x])) := by
  show (match σ[r]? with | some xs => if xs.length ≤ limN then R.ok V.none (σ.set r (xs ++ [x])) else .stuck | none => .stuck) = _
  rw [h]; exact if_pos hl
theorem pop_l (r : Nat) (xs : List V) (x : V) (σ : Sto) (h : σ[r]? = some (xs ++ [x])) (hl : xs.length < limN) : oPop [.lst r] σ = .ok x (σ.set r xs) := by
  show (match σ[r]? with | some xs => if xs.length ≤ limN then (match xs.getLast? with | some x => R.ok x (σ.set r xs.dropLast) | none => .stuck) else .stuck | none => .stuck) = _
  rw [h]
  dsimp only
  rw [if_pos (by rw [List.length_append, List.length_singleton]; (first | lia | omega))]
  simp
theorem tuple_l (r : Nat) (xs : List V) (σ : Sto) (h : σ[r]? = some xs) (hl : xs.length ≤ limN) : oTuple [.lst r] σ = .ok (.tup xs) σ := by
  show (match σ[r]? with | some xs => if xs.length ≤ limN then R.ok (V.tup xs) σ else .stuck | none => .stuck) = _
  rw [h]; exact if_pos hl

@[simp] theorem run1 (D : DS) (a : V) (σ : Sto) : runFn 1 D [a] σ = (D ⟨argL [a], σ⟩).fin := run_eq _ _ _ _ rfl
@[simp] theorem run2 (D : DS) (a b : V) (σ : Sto) : runFn 2 D [a, b] σ = (D ⟨argL [a, b], σ⟩).fin := run_eq _ _ _ _ rfl
@[simp] theorem run3 (D : DS) (a b c : V) (σ : Sto) : runFn 3 D [a, b, c] σ = (D ⟨argL [a, b, c], σ⟩).fin := run_eq _ _ _ _ rfl
@[simp] theorem run4 (D : DS) (a b c d : V) (σ : Sto) : runFn 4 D [a, b, c, d] σ = (D ⟨argL [a, b, c, d], σ⟩).fin := run_eq _ _ _ _ rfl


theorem get_ap (t : Nat) (k : Int) (d : V) (σ : Sto) (h : t < 3) : oGet tv [.tab t, .int k, d] σ = .ok ((tv t k).getD d) σ := if_pos h
theorem r_op_sort {op : Int} {σ : Sto} : R_op_sort [.int op] σ = .ok ((tv 0 op).getD (.int (-1))) σ := by
  simp [R_op_sort, D_op_sort, get_ap]
theorem r_is_branch {op s : Int} {σ : Sto} (h : (tv 0 op).getD (.int (-1)) = .int s) : R_is_branch [.int op] σ = .ok (.bool (s == 5)) σ := by
  simp [R_is_branch, D_is_branch, get_ap, h]
theorem r_ends_flow {op : Int} {σ : Sto} : R_ends_flow [.int op] σ = .ok (.bool (endsL.contains op)) σ := by
  simp [R_ends_flow, D_ends_flow, endsL]
  repeat' split
  all_goals simp_all
  rfl
theorem r_prefix {op : Int} {σ : Sto} : R_prefix_goal [.int op] σ = .ok (.int (if op = 65046 then 111 else if op = 65054 then 143 else -1)) σ := by
  simp [R_prefix_goal, D_prefix_goal]
  repeat' split
  all_goals simp_all
end Mine
end
section
set_option tactic.hygienic false
set_option backward.defeqAttrib.useBackward true
set_option maxRecDepth 100000
set_option linter.unusedSimpArgs false
open PySem PySem.W PyProof.Rows PySem.Calls
namespace Mine

/-! # instructions -/
inductive Arg where
  | n (g : Int)
  | sw (gs : List Int)
  | m (mid : Int)
noncomputable def Arg.v : Arg → V
  | .n g => .int g
  | .sw gs => .tup (gs.map V.int)
  | .m mid => .tup [.int 7, .int mid, .tup []]
noncomputable abbrev Ins := Int × Arg
noncomputable def insV (p : Ins) : V := .tup [.int p.1, p.2.v]
noncomputable abbrev Eff := Option (Int × Int)
noncomputable def effV : Eff → V
  | none => .none
  | some (t, g) => .tup [.int t, .int g]

noncomputable def tvT : List (Int × TV) → Int → Option TV
  | [], _ => none
  | (k, v) :: r, i => if k = i then some v else tvT r i
theorem tvFind_eq : ∀ (l : List (Int × TV)) (i : Int), tvFind l i = (tvT l i).map TV.toV
  | [], _ => rfl
  | (k, v) :: r, i => by
    unfold tvFind tvT
    split
    · rfl
    · exact tvFind_eq r i

noncomputable def plainL : List (Int × Int × Int) := (rowsL.map fun r => (List.range r.2.1.toNat).map fun (k : Nat) => (r.1 + (k : Int), r.2.2.1, r.2.2.2)).flatten ++ [(122, 1, 0), (220, 0, 0), (65041, 1, 0), (65050, 0, 0)]
noncomputable def brL : List (Int × Int × Int) := [(56, 0, 0), (57, 1, 0), (58, 1, 0), (59, 2, 0), (60, 2, 0), (61, 2, 0), (62, 2, 0), (63, 2, 0), (64, 2, 0), (65, 2, 0), (66, 2, 0), (67, 2, 0), (68, 2, 0), (221, 0, 0)]
noncomputable def sortNot5 (o : Option TV) : Bool := match o with
  | some (.i s) => decide (0 ≤ s) && decide (s ≠ 5)
  | _ => false
theorem plain_ok : ∀ x ∈ plainL, tvT stackL x.1 = some (.p x.2.1 x.2.2) ∧ sortNot5 (tvT sortL x.1) = true ∧ x.1 ≠ 69 ∧ ¬ (56 ≤ x.1 ∧ x.1 < 69) ∧ x.1 ≠ 221 ∧ 0 ≤ x.2.1 ∧ 0 ≤ x.2.2 := by decide +kernel
theorem br_ok : ∀ x ∈ brL, tvT stackL x.1 = some (.p x.2.1 x.2.2) ∧ tvT sortL x.1 = some (.i 5) ∧ x.1 ≠ 69 ∧ ((56 ≤ x.1 ∧ x.1 < 69) ∨ x.1 = 221) ∧ 0 ≤ x.2.1 ∧ 0 ≤ x.2.2 := by decide +kernel

noncomputable def callT (mid : Int) : Option (Int × Int) := match tvT callsL mid with
  | some (.p t g) => some (t, g)
  | _ => none
noncomputable def callEff (op mid : Int) : Eff := if op = 115 ∧ mid = 0 then some (0, 1) else match callT mid with
  | none => none
  | some (t, g) => if op ≠ 115 then some (t, g) else if t ≠ 0 then some (t - 1, 1) else none

inductive WF (ret : Int) : Int → Arg → Eff → Prop
  | plain {op t g x : Int} : (op, t, g) ∈ plainL → WF ret op (.n x) (some (t, g))
  | br {op t g x : Int} : (op, t, g) ∈ brL → WF ret op (.n x) (some (t, g))
  | sw {gs : List Int} : WF ret 69 (.sw gs) (some (1, 0))
  | call {op mid : Int} : op = 40 ∨ op = 111 ∨ op = 115 → 0 ≤ mid → mid < 8 → WF ret op (.m mid) (callEff op mid)
  | ret : WF ret 42 (.n 0) (some (ret, 0))
  | bad : WF ret 36 (.n 0) none

theorem sort_plain {op t g : Int} (h : (op, t, g) ∈ plainL) : ∃ s, tv 0 op = some (.int s) ∧ 0 ≤ s ∧ s ≠ 5 := by
  have := (plain_ok _ h).2.1
  show ∃ s, tvFind sortL op = _ ∧ _
  rw [tvFind_eq]
  dsimp only at this
  cases e : tvT sortL op with
  | none => rw [e] at this; cases this
  | some v =>
    rw [e] at this
    cases v with
    | i s =>
      simp only [sortNot5, Bool.and_eq_true, decide_eq_true_eq] at this
      exact ⟨s, rfl, this⟩
    | p a b => cases this
theorem stack_of {op t g : Int} (h : tvT stackL op = some (.p t g)) : tv 1 op = some (.tup [.int t, .int g]) := by
  show tvFind stackL op = _
  rw [tvFind_eq, h]; rfl

/-- what pops_pushes gives -/
theorem r_calls {mid ret : Int} {σ : Sto} {rest : List V} : R_tel_call_counts [.tel ret, .tup (.int 7 :: .int mid :: rest)] σ = match callT mid with
    | some (t, g) => .ok (.tup [.int t, .int g]) σ
    | none => .exc := by
  have e2 : tv 2 mid = (tvT callsL mid).map TV.toV := tvFind_eq _ _
  have hc : ∀ σ, oCalls (.tel ret) σ = .ok (.tab 2) σ := fun _ => rfl
  have cases2 : (∃ t g, tvT callsL mid = some (.p t g)) ∨ tvT callsL mid = none := by
    by_cases h : mid ∈ callsL.map (·.1)
    · left
      have : ∀ m ∈ callsL.map (·.1), ∃ t g, tvT callsL m = some (.p t g) := by
        intro m hm
        simp only [callsL, List.map_cons, List.map_nil, List.mem_cons, List.not_mem_nil, or_false] at hm
        rcases hm with rfl | rfl | rfl | rfl | rfl | rfl <;> exact ⟨_, _, rfl⟩
      exact this _ h
    · right
      simp only [callsL, List.map_cons, List.map_nil, List.mem_cons, List.not_mem_nil, or_false, not_or] at h
      simp [callsL, tvT, Ne.symm h.1, Ne.symm h.2.1, Ne.symm h.2.2.1, Ne.symm h.2.2.2.1, Ne.symm h.2.2.2.2.1, Ne.symm h.2.2.2.2.2]
  rcases cases2 with ⟨t, g, h⟩ | h
  · have h2 : tv 2 mid = some (.tup [.int t, .int g]) := by rw [e2, h]; rfl
    simp [R_tel_call_counts, D_tel_call_counts, hc, notIn_tab, h2, callT, h, item_tab 2 mid _ _ (by decide) h2]
  · have h2 : tv 2 mid = none := by rw [e2, h]; rfl
    simp [R_tel_call_counts, D_tel_call_counts, hc, notIn_tab, h2, callT, h]
theorem r_ret {ret : Int} {σ : Sto} : R_tel_ret_count [.tel ret] σ = .ok (.int ret) σ := by
  have hc : oRet (.tel ret) σ = .ok (.int ret) σ := rfl
  simp [R_tel_ret_count, D_tel_ret_count, hc]

theorem stack_none {op : Int} (h : op = 42 ∨ op = 40 ∨ op = 111 ∨ op = 115) : tv 1 op = none := by
  show tvFind stackL op = _
  rw [tvFind_eq]
  rcases h with rfl | rfl | rfl | rfl <;> decide +kernel

noncomputable def effR (e : Eff) (σ : Sto) : R V := match e with
  | some (t, g) => .ok (.tup [.int t, .int g]) σ
  | none => .exc
theorem effR_some (t g : Int) (σ : Sto) : effR (some (t, g)) σ = .ok (.tup [.int t, .int g]) σ := rfl
theorem effR_none (σ : Sto) : effR none σ = .exc := rfl
set_option tactic.hygienic true in
theorem r_pops {ret op : Int} {a : Arg} {e : Eff} (w : WF ret op a e) (hop : op ≠ 36) {σ : Sto} : R_pops_pushes [insV (op, a), .tel ret] σ = effR e σ := by
  cases w with
  | plain h =>
    have h2 := stack_of (plain_ok _ h).1
    simp [R_pops_pushes, D_pops_pushes, effR_some, effR_none, insV, upd_ne, in_tab, h2, item_tab 1 op _ _ (by decide) h2]
  | br h =>
    have h2 := stack_of (br_ok _ h).1
    simp [R_pops_pushes, D_pops_pushes, effR_some, effR_none, insV, upd_ne, in_tab, h2, item_tab 1 op _ _ (by decide) h2]
  | sw =>
    have h2 : tv 1 69 = some (.tup [.int 1, .int 0]) := stack_of rfl
    simp [R_pops_pushes, D_pops_pushes, effR_some, effR_none, insV, upd_ne, in_tab, h2, item_tab 1 69 _ _ (by decide) h2]
  | call ho h0 h8 =>
    rename_i mid
    have h2 : tv 1 op = none := stack_none (.inr ho)
    have n42 : ¬ op = 42 := by (first | lia | omega)
    have hl : ([.int 0, .int 1] : List V).length ≤ limN := by simp [limN]
    have hl2 : ∀ t : Int, ([.int (t - 1), .int 1] : List V).length ≤ limN := fun _ => by simp [limN]
    by_cases h115 : op = 115
    · subst h115
      by_cases hm : mid = 0
      · subst hm
        simp [R_pops_pushes, D_pops_pushes, effR_some, effR_none, insV, Arg.v, upd_ne, in_tab, h2, callEff, tup_ap _ _ hl]
      · cases hc : callT mid with
        | none => simp [R_pops_pushes, D_pops_pushes, effR_some, effR_none, insV, Arg.v, upd_ne, in_tab, h2, callEff, hm, r_calls, hc]
        | some p =>
          obtain ⟨t, g⟩ := p
          have ht : 0 ≤ t := by
            unfold callT at hc
            have : ∀ m ∈ callsL.map (·.1), ∀ t g, tvT callsL m = some (.p t g) → 0 ≤ t := by
              intro m hm t g
              simp only [callsL, List.map_cons, List.map_nil, List.mem_cons, List.not_mem_nil, or_false] at hm
              rcases hm with rfl | rfl | rfl | rfl | rfl | rfl <;> (intro e; cases e; decide)
            by_cases hk : mid ∈ callsL.map (·.1)
            · cases e : tvT callsL mid with
              | none => rw [e] at hc; cases hc
              | some v => cases v with
                | i _ => rw [e] at hc; cases hc
                | p a b => rw [e] at hc; cases hc; exact this mid hk _ _ e
            · simp only [callsL, List.map_cons, List.map_nil, List.mem_cons, List.not_mem_nil, or_false, not_or] at hk
              simp [callsL, tvT, Ne.symm hk.1, Ne.symm hk.2.1, Ne.symm hk.2.2.1, Ne.symm hk.2.2.2.1, Ne.symm hk.2.2.2.2.1, Ne.symm hk.2.2.2.2.2] at hc
          by_cases h1 : t < 1
          · have t0 : t = 0 := by (first | lia | omega)
            subst t0
            simp [R_pops_pushes, D_pops_pushes, effR_some, effR_none, insV, Arg.v, upd_ne, in_tab, h2, callEff, hm, r_calls, hc]
          · have t0 : t ≠ 0 := by (first | lia | omega)
            simp [R_pops_pushes, D_pops_pushes, effR_some, effR_none, insV, Arg.v, upd_ne, in_tab, h2, callEff, hm, r_calls, hc, h1, t0, tup_ap _ _ (hl2 t)]
    · have h40 : op = 40 ∨ op = 111 := by (first | lia | omega)
      have ce : callEff op mid = callT mid := by
        unfold callEff
        rw [if_neg (by (first | lia | omega))]
        cases callT mid with
        | none => rfl
        | some p => exact if_pos h115
      rw [ce]
      by_cases hm : mid = 0
      · subst hm
        have : callT 0 = none := rfl
        rcases h40 with rfl | rfl <;> simp [R_pops_pushes, D_pops_pushes, effR_some, effR_none, insV, Arg.v, upd_ne, in_tab, h2, this]
      · rcases h40 with rfl | rfl <;> simp [R_pops_pushes, D_pops_pushes, effR_some, effR_none, insV, Arg.v, upd_ne, in_tab, h2, hm, r_calls] <;> (cases hc : callT mid <;> simp [effR])
  | ret =>
    have h2 : tv 1 42 = none := stack_none (.inl rfl)
    have hl : ([.int ret, .int 0] : List V).length ≤ limN := by simp [limN]
    simp [R_pops_pushes, D_pops_pushes, effR_some, effR_none, insV, Arg.v, upd_ne, in_tab, h2, r_ret, tup_ap _ _ hl]
  | bad => exact absurd rfl hop
end Mine
end
section
set_option tactic.hygienic false
set_option backward.defeqAttrib.useBackward true
set_option maxRecDepth 100000
set_option linter.unusedSimpArgs false
open PySem PySem.W PyProof.Rows PySem.Calls
namespace Mine

/-! # loops, step by step -/
noncomputable def forK (src : Src) (full : List V) (t : Tgt) (body : DS) (xs : List V) (f : Fl) (st : St) : RS := match f with
  | .next => forGo src full t body xs st
  | .cont => forGo src full t body xs st
  | .brk => .ok .next st
  | .ret v => .ok (.ret v) st
theorem forGo_nil {src : Src} {full : List V} {t : Tgt} {body : DS} {st : St} (h : src.items st.sto = some full) : forGo src full t body [] st = .ok .next st := by unfold forGo; rw [if_pos h]
theorem forGo_one {src : Src} {full : List V} {i : Nat} {body : DS} {x : V} {xs : List V} {st : St} (h : src.items st.sto = some full) : forGo src full (.one i) body (x :: xs) st = (body ⟨upd st.loc i x, st.sto⟩).bind (forK src full (.one i) body xs) := by
  conv => lhs; unfold forGo
  rw [if_pos h]
  rfl
theorem forGo_many {src : Src} {full : List V} {is : List Nat} {body : DS} {ys : List V} {xs : List V} {st : St} {loc' : Nat → Option V} (h : src.items st.sto = some full) (e : updAll st.loc is ys = some loc') : forGo src full (.many is) body (.tup ys :: xs) st = (body ⟨loc', st.sto⟩).bind (forK src full (.many is) body xs) := by
  conv => lhs; unfold forGo
  rw [if_pos h]
  show (match (Tgt.many is).set (.tup ys) st.loc with | none => RS.stuck | some loc' => _) = _
  have : (Tgt.many is).set (.tup ys) st.loc = some loc' := e
  rw [this]
  rfl
@[simp] theorem forK_next {src : Src} {full : List V} {t : Tgt} {body : DS} {xs : List V} {st : St} : forK src full t body xs .next st = forGo src full t body xs st := rfl
@[simp] theorem forK_cont {src : Src} {full : List V} {t : Tgt} {body : DS} {xs : List V} {st : St} : forK src full t body xs .cont st = forGo src full t body xs st := rfl
@[simp] theorem forK_ret {src : Src} {full : List V} {t : Tgt} {body : DS} {xs : List V} {v : V} {st : St} : forK src full t body xs (.ret v) st = .ok (.ret v) st := rfl
noncomputable def forS (t : Tgt) (body : DS) (loc : Nat → Option V) (v : V) (σ : Sto) : RS := match Src.of v with
  | none => .stuck
  | some src => (match src.items σ with
    | none => .stuck
    | some full => forGo src full t body full ⟨loc, σ⟩)
@[simp] theorem for_ap (d : DE) (t : Tgt) (body : DS) (st : St) : sFor d t body st = (d st).bindS (forS t body st.loc) := rfl
@[simp] theorem forS_tup (t : Tgt) (body : DS) (loc : Nat → Option V) (xs : List V) (σ : Sto) : forS t body loc (.tup xs) σ = forGo (.tup xs) xs t body xs ⟨loc, σ⟩ := rfl
theorem forS_lst (t : Tgt) (body : DS) (loc : Nat → Option V) (r : Nat) (xs : List V) (σ : Sto) (h : σ[r]? = some xs) : forS t body loc (.lst r) σ = forGo (.lst r) xs t body xs ⟨loc, σ⟩ := by
  show (match σ[r]? with | none => RS.stuck | some full => forGo (.lst r) full t body full ⟨loc, σ⟩) = _
  rw [h]
noncomputable def rngV (k : Int) : List V := (List.range k.toNat).map fun (i : Nat) => V.int (i : Int)
theorem forS_rng (t : Tgt) (body : DS) (loc : Nat → Option V) (k : Int) (σ : Sto) (h : -1000 ≤ k ∧ k ≤ 1000) : forS t body loc (.rng k) σ = forGo (.rng k) (rngV k) t body (rngV k) ⟨loc, σ⟩ := by
  have : Src.of (.rng k) = some (.rng k) := if_pos h
  unfold forS
  rw [this]; rfl
noncomputable def whK (test : DB) (body : DS) (n : Nat) (f : Fl) (st : St) : RS := match f with
  | .next => whileGo test body n st
  | .cont => whileGo test body n st
  | .brk => .ok .next st
  | .ret v => .ok (.ret v) st
theorem wh_true {test : DB} {body : DS} {n : Nat} {st : St} {σ : Sto} (h : test st = .ok true σ) : whileGo test body (n + 1) st = (body ⟨st.loc, σ⟩).bind (whK test body n) := by
  conv => lhs; unfold whileGo
  rw [h]
  rfl
theorem wh_false {test : DB} {body : DS} {n : Nat} {st : St} {σ : Sto} (h : test st = .ok false σ) : whileGo test body (n + 1) st = .ok .next ⟨st.loc, σ⟩ := by
  conv => lhs; unfold whileGo
  rw [h]; rfl
@[simp] theorem whK_next {test : DB} {body : DS} {n : Nat} {st : St} : whK test body n .next st = whileGo test body n st := rfl
@[simp] theorem whK_ret {test : DB} {body : DS} {n : Nat} {v : V} {st : St} : whK test body n (.ret v) st = .ok (.ret v) st := rfl

theorem get_map {α β : Type} {l : List α} {f : α → β} {i : Nat} {x : α} (h : l[i]? = some x) : (l.map f)[i]? = some (f x) := by simp [h]
theorem set_last {α : Type} (l : List α) (x y : α) : (l ++ [x]).set l.length y = l ++ [y] := by simp
theorem get_last {α : Type} (l : List α) (x : α) : (l ++ [x])[l.length]? = some x := by simp
theorem get_pre {α : Type} {l : List α} {x : α} {i : Nat} (m : List α) (h : l[i]? = some x) : (l ++ m)[i]? = some x := by
  rw [List.getElem?_append_left (List.getElem?_eq_some_iff.mp h).1]; exact h

/-! # the depth behind a row -/
theorem sort_of {ret op : Int} {a : Arg} {e : Eff} (w : WF ret op a e) (h : op ≠ 36) : ∃ s, tv 0 op = some (.int s) ∧ 0 ≤ s ∧ (s = 5 ↔ ((56 ≤ op ∧ op < 69) ∨ op = 221)) := by
  have mk : ∀ {o : Int} {s : Int}, tvT sortL o = some (.i s) → tv 0 o = some (.int s) := fun {o s} e => by
    show tvFind sortL o = _
    rw [tvFind_eq, e]; rfl
  cases w with
  | plain hp =>
    obtain ⟨s, a, b, c⟩ := sort_plain hp
    obtain ⟨_, _, _, n2, n3, _⟩ := plain_ok _ hp
    exact ⟨s, a, b, fun q => absurd q c, fun q => q.elim (fun q => absurd q n2) fun q => absurd q n3⟩
  | br hp =>
    obtain ⟨_, h2, _, h4, _⟩ := br_ok _ hp
    exact ⟨5, mk h2, by decide, fun _ => h4, fun _ => rfl⟩
  | sw => exact ⟨6, mk rfl, by decide, fun q => absurd q (by decide), fun q => absurd q (by decide)⟩
  | call ho _ _ =>
    rcases ho with rfl | rfl | rfl
    · exact ⟨9, mk rfl, by decide, fun q => absurd q (by decide), fun q => absurd q (by decide)⟩
    · exact ⟨9, mk rfl, by decide, fun q => absurd q (by decide), fun q => absurd q (by decide)⟩
    · exact ⟨9, mk rfl, by decide, fun q => absurd q (by decide), fun q => absurd q (by decide)⟩
  | ret => exact ⟨0, mk rfl, by decide, fun q => absurd q (by decide), fun q => absurd q (by decide)⟩
  | bad => exact absurd rfl h
theorem eff_36 {ret : Int} {a : Arg} {e : Eff} (w : WF ret 36 a e) : e = none ∧ a = .n 0 := by
  have h1 : ∀ t g, (36, t, g) ∉ plainL := fun t g q => absurd (plain_ok _ q).1 (by
    have : tvT stackL 36 = none := by decide +kernel
    rw [this]; exact fun q => by cases q)
  have h2 : ∀ t g, (36, t, g) ∉ brL := fun t g q => absurd (br_ok _ q).1 (by
    have : tvT stackL 36 = none := by decide +kernel
    rw [this]; exact fun q => by cases q)
  generalize hop : (36 : Int) = op at w
  cases w with
  | plain h => subst hop; exact absurd h (h1 _ _)
  | br h => subst hop; exact absurd h (h2 _ _)
  | sw => cases hop
  | call h => (first | lia | omega)
  | ret => cases hop
  | bad => exact ⟨rfl, rfl⟩

noncomputable def depR (e : Eff) (op d : Int) (σ : Sto) : R V := match e with
  | some (t, g) => if t > d then .exc else .ok (.int (if op = 221 then 0 else d - t + g)) σ
  | none => .exc
theorem r_depth {code : List Ins} {rc : Nat} {σ : Sto} {i : Nat} {op : Int} {a : Arg} {e : Eff} {d ret : Int} (hc : σ[rc]? = some (code.map insV)) (hi : code[i]? = some (op, a)) (hi' : i < 1000) (w : WF ret op a e) :
    R_depth_after [.lst rc, .int i, .int d, .tel ret] σ = depR e op d σ := by
  have it := item_l rc i _ _ σ hi' hc (get_map hi)
  have i0 : ∀ σ, oItem tv (insV (op, a)) (.int 0) σ = .ok (.int op) σ := fun _ => rfl
  by_cases h36 : op = 36
  · subst h36
    obtain ⟨rfl, rfl⟩ := eff_36 w
    have hs : tv 0 36 = none := by show tvFind sortL 36 = _; rw [tvFind_eq]; decide +kernel
    simp [R_depth_after, D_depth_after, it, i0, r_op_sort, hs, depR]
  · obtain ⟨s, hs, h0, _⟩ := sort_of w h36
    have hs' : ¬ s < 0 := by (first | lia | omega)
    have rp := r_pops w h36 (σ := σ)
    cases e with
    | none => simp [R_depth_after, D_depth_after, it, i0, r_op_sort, hs, hs', rp, effR, depR]
    | some p =>
      obtain ⟨t, g⟩ := p
      by_cases ht : d < t
      · simp [R_depth_after, D_depth_after, it, i0, r_op_sort, hs, hs', rp, effR, depR, ht, upd_ne]
      · by_cases h2 : op = 221
        · subst h2
          simp [R_depth_after, D_depth_after, it, i0, r_op_sort, hs, hs', rp, effR, depR, ht, upd_ne]
        · simp [R_depth_after, D_depth_after, it, i0, r_op_sort, hs, hs', rp, effR, depR, ht, upd_ne, h2]

/-! # where a row goes -/
@[reducible] noncomputable def isBr (op : Int) : Prop := (56 ≤ op ∧ op < 69) ∨ op = 221
noncomputable def tgt (p : Ins) : List Int := match p.2 with
  | .sw gs => gs
  | .n g => if isBr p.1 then [g] else []
  | .m _ => []
theorem op69 {ret op : Int} {a : Arg} {e : Eff} (w : WF ret op a e) : (op = 69 ↔ ∃ gs, a = .sw gs) := by
  cases w with
  | plain h => exact ⟨fun q => absurd q (plain_ok _ h).2.2.1, fun ⟨_, q⟩ => (by cases q)⟩
  | br h => exact ⟨fun q => absurd q (br_ok _ h).2.2.1, fun ⟨_, q⟩ => (by cases q)⟩
  | sw => exact ⟨fun _ => ⟨_, rfl⟩, fun _ => rfl⟩
  | call h => exact ⟨fun q => (by (first | lia | omega)), fun ⟨_, q⟩ => (by cases q)⟩
  | ret => exact ⟨fun q => (by cases q), fun ⟨_, q⟩ => (by cases q)⟩
  | bad => exact ⟨fun q => (by cases q), fun ⟨_, q⟩ => (by cases q)⟩
theorem notBr_m {ret op mid : Int} {e : Eff} (w : WF ret op (.m mid) e) : ¬ isBr op := by
  generalize ha : Arg.m mid = a at w
  cases w with
  | plain => cases ha
  | br => cases ha
  | sw => cases ha
  | call h => unfold isBr; (first | lia | omega)
  | ret => cases ha
  | bad => cases ha
theorem r_targets {ret op : Int} {a : Arg} {e : Eff} (w : WF ret op a e) {σ : Sto} : R_targets [insV (op, a)] σ = .ok (.tup ((tgt (op, a)).map V.int)) σ := by
  have i0 : ∀ σ, oItem tv (insV (op, a)) (.int 0) σ = .ok (.int op) σ := fun _ => rfl
  have i1 : ∀ σ, oItem tv (insV (op, a)) (.int 1) σ = .ok a.v σ := fun _ => rfl
  have t0 : oTup [] σ = .ok (.tup []) σ := tup_ap _ _ (by simp [limN])
  have t1 : ∀ x, oTup [x] σ = .ok (.tup [x]) σ := fun x => tup_ap _ _ (by simp [limN])
  have hbr : ∃ s, (tv 0 op).getD (.int (-1)) = .int s ∧ (s = 5 ↔ isBr op) := by
    by_cases h36 : op = 36
    · subst h36
      have hs : tv 0 36 = none := by show tvFind sortL 36 = _; rw [tvFind_eq]; decide +kernel
      exact ⟨-1, by rw [hs]; rfl, by decide⟩
    · obtain ⟨s, hs, _, h5⟩ := sort_of w h36
      exact ⟨s, by rw [hs]; rfl, h5⟩
  obtain ⟨s, hs, h5⟩ := hbr
  have rb := r_is_branch (σ := σ) hs
  have h69 := op69 w
  cases a with
  | sw gs =>
    have : op = 69 := h69.mpr ⟨gs, rfl⟩
    subst this
    simp [R_targets, D_targets, i0, i1, Arg.v, tgt]
  | n g =>
    have n69 : ¬ op = 69 := fun q => by obtain ⟨_, q⟩ := h69.mp q; cases q
    by_cases hb : isBr op
    · have hs5 : s = 5 := h5.mpr hb
      simp [R_targets, D_targets, i0, i1, Arg.v, tgt, n69, rb, hb, hs5, t1]
    · have hs5 : ¬ s = 5 := fun q => hb (h5.mp q)
      simp [R_targets, D_targets, i0, i1, Arg.v, tgt, n69, rb, hb, hs5, t0]
  | m mid =>
    have n69 : ¬ op = 69 := fun q => by obtain ⟨_, q⟩ := h69.mp q; cases q
    have hs5 : ¬ s = 5 := fun q => notBr_m w (h5.mp q)
    simp [R_targets, D_targets, i0, i1, Arg.v, tgt, n69, rb, hs5, t0]
end Mine
end
section
set_option tactic.hygienic false
set_option backward.defeqAttrib.useBackward true
set_option maxRecDepth 100000
set_option linter.unusedSimpArgs false
open PySem PySem.W PyProof.Rows PySem.Calls
namespace Mine

/-! # successors -/
noncomputable def succGo (n : Nat) : List Int → List Int → Option (List Int)
  | out, [] => some out
  | out, g :: gs => if g < 0 ∨ (n : Int) ≤ g then none else succGo n (if out.contains g then out else out ++ [g]) gs
noncomputable def out0 (n i : Nat) (op : Int) : List Int := if ¬ endsL.contains op = true ∧ i + 1 < n then [((i + 1 : Nat) : Int)] else []

theorem succ_loop {n i ro : Nat} {full : List V} {body : DS} (hb : body = (sSeq (sIf (dOr (dThen (dThen2 (dLoc 4) (dInt 0) (oIntCmp fun a b => decide (a < b))) oBoolV) (dOr (dThen (dThen2 (dLoc 4) (dLoc 2) (oIntCmp fun a b => decide (b ≤ a))) oBoolV) dFalse))
      (sSeq (sRaise (dLoc 1)) <|
      sNil)
      (sNil)) <|
    sSeq (sIf (dThen (dThen2 (dLoc 4) (dLoc 3) (oNotIn tv)) oBoolV)
      (sSeq (sExpr (dMeth (dLoc 3) (dCons (dLoc 4) dNil) oAppend)) <|
      sNil)
      (sNil)) <|
    sNil)) {σ₀ : Sto} (hro : ro = σ₀.length) : ∀ (gs out : List Int) (loc : Nat → Option V), loc 1 = some (.int i) → loc 2 = some (.int n) → loc 3 = some (.lst ro) → out.length + gs.length ≤ limN →
    (∀ o, succGo n out gs = some o → ∃ loc', loc' 3 = some (.lst ro) ∧ forGo (.tup full) full (.one 4) body (gs.map V.int) ⟨loc, σ₀ ++ [out.map V.int]⟩ = .ok .next ⟨loc', σ₀ ++ [o.map V.int]⟩) ∧
    (succGo n out gs = none → forGo (.tup full) full (.one 4) body (gs.map V.int) ⟨loc, σ₀ ++ [out.map V.int]⟩ = .exc)
  | [], out, loc, h1, h2, h3, hl => ⟨fun o e => by cases e; exact ⟨loc, h3, forGo_nil rfl⟩, fun e => by cases e⟩
  | g :: gs, out, loc, h1, h2, h3, hl => by
    subst hro
    have hlen : out.length + gs.length + 1 ≤ limN := by simpa [Nat.add_assoc] using hl
    have ap : oAppend [.lst σ₀.length, .int g] (σ₀ ++ [out.map V.int]) = .ok .none (σ₀ ++ [(out ++ [g]).map V.int]) := by
      rw [append_l _ _ _ _ (get_last _ _) (by rw [List.length_map]; (first | lia | omega)), set_last]
      simp
    have ni : oNotIn tv (.int g) (.lst σ₀.length) (σ₀ ++ [out.map V.int]) = .ok (.bool (!out.contains g)) (σ₀ ++ [out.map V.int]) := notIn_lst _ _ _ _ (get_last _ _)
    have mk : ∀ loc da k, methK da k loc (.lst σ₀.length) (σ₀ ++ [out.map V.int]) = (da ⟨loc, σ₀ ++ [out.map V.int]⟩).bind (methK2 k (.lst σ₀.length)) := fun loc da k => methK_ap _ _ _ _ _ _ (get_last _ _)
    rw [List.map_cons, forGo_one rfl]
    unfold succGo
    by_cases hbad : g < 0 ∨ (n : Int) ≤ g
    · rw [if_pos hbad]
      refine ⟨fun o e => (by cases e), fun _ => ?_⟩
      rw [hb]
      rcases hbad with h | h
      · simp [upd_ne, h1, h2, h3, h]
      · by_cases h0 : g < 0 <;> simp [upd_ne, h1, h2, h3, h, h0]
    · rw [if_neg hbad]
      have hg0 : ¬ g < 0 := fun q => hbad (.inl q)
      have hgn : ¬ (n : Int) ≤ g := fun q => hbad (.inr q)
      by_cases hin : out.contains g = true
      · rw [if_pos hin]
        have step : body ⟨upd loc 4 (.int g), σ₀ ++ [out.map V.int]⟩ = .ok .next ⟨upd loc 4 (.int g), σ₀ ++ [out.map V.int]⟩ := by
          rw [hb]
          have hin' : g ∈ out := by simpa using hin
          simp [upd_ne, h1, h2, h3, hg0, hgn, ni, hin']
        rw [step, RS.bind_ok, forK_next]
        exact succ_loop (i := i) hb rfl gs out (upd loc 4 (.int g)) (by simp [upd_ne, h1]) (by simp [upd_ne, h2]) (by simp [upd_ne, h3]) (by (first | lia | omega))
      · rw [if_neg hin]
        have step : body ⟨upd loc 4 (.int g), σ₀ ++ [out.map V.int]⟩ = .ok .next ⟨upd loc 4 (.int g), σ₀ ++ [(out ++ [g]).map V.int]⟩ := by
          rw [hb]
          have hin' : g ∉ out := by simpa using hin
          simp [upd_ne, h1, h2, h3, hg0, hgn, ni, hin', mk, ap]
        rw [step, RS.bind_ok, forK_next]
        exact succ_loop (i := i) hb rfl gs (out ++ [g]) (upd loc 4 (.int g)) (by simp [upd_ne, h1]) (by simp [upd_ne, h2]) (by simp [upd_ne, h3]) (by simp; (first | lia | omega))

noncomputable def succs (code : List Ins) (i : Nat) (p : Ins) : Option (List Int) := succGo code.length (out0 code.length i p.1) (tgt p)
theorem r_succ {code : List Ins} {rc : Nat} {σ : Sto} {i : Nat} {op : Int} {a : Arg} {e : Eff} {ret : Int} (hc : σ[rc]? = some (code.map insV)) (hi : code[i]? = some (op, a)) (hn : code.length ≤ 100) (w : WF ret op a e) (ht : (tgt (op, a)).length ≤ 100) :
    R_successors [.lst rc, .int i] σ = match succs code i (op, a) with
      | some o => .ok (.tup (o.map V.int)) (σ ++ [o.map V.int])
      | none => .exc := by
  have hil : i < code.length := (List.getElem?_eq_some_iff.mp hi).1
  have lim : limN = 1000 := rfl
  have ln : ∀ σ', σ'[rc]? = some (code.map insV) → oLen [.lst rc] σ' = .ok (.int code.length) σ' := fun σ' h => by
    rw [len_l rc _ σ' h (by rw [List.length_map]; (first | lia | omega)), List.length_map]
  have hc' : (σ ++ [[]])[rc]? = some (code.map insV) := get_pre _ hc
  have it : ∀ σ', σ'[rc]? = some (code.map insV) → oItem tv (.lst rc) (.int i) σ' = .ok (insV (op, a)) σ' := fun σ' h => item_l rc i _ _ σ' (by (first | lia | omega)) h (get_map hi)
  have i0 : ∀ σ, oItem tv (insV (op, a)) (.int 0) σ = .ok (.int op) σ := fun _ => rfl
  have nl : oLst [] σ = .ok (.lst σ.length) (σ ++ [[]]) := lst_ap _ _ (by simp [limN])
  have ap : oAppend [.lst σ.length, .int ((i : Int) + 1)] (σ ++ [[]]) = .ok .none (σ ++ [[.int ((i : Int) + 1)]]) := by
    rw [append_l _ _ _ _ (get_last _ _) (by simp), set_last]; rfl
  have mk : ∀ loc da k, methK da k loc (.lst σ.length) (σ ++ [[]]) = (da ⟨loc, σ ++ [[]]⟩).bind (methK2 k (.lst σ.length)) := fun loc da k => methK_ap _ _ _ _ _ _ (get_last _ _)
  -- up to the loop
  obtain ⟨loc, l1, l2, l3, pre⟩ : ∃ loc, loc 1 = some (.int i) ∧ loc 2 = some (.int code.length) ∧ loc 3 = some (.lst σ.length) ∧
      R_successors [.lst rc, .int i] σ = ((forGo (.tup ((tgt (op, a)).map V.int)) ((tgt (op, a)).map V.int) (.one 4) (sSeq (sIf (dOr (dThen (dThen2 (dLoc 4) (dInt 0) (oIntCmp fun a b => decide (a < b))) oBoolV) (dOr (dThen (dThen2 (dLoc 4) (dLoc 2) (oIntCmp fun a b => decide (b ≤ a))) oBoolV) dFalse))
      (sSeq (sRaise (dLoc 1)) <|
      sNil)
      (sNil)) <|
    sSeq (sIf (dThen (dThen2 (dLoc 4) (dLoc 3) (oNotIn tv)) oBoolV)
      (sSeq (sExpr (dMeth (dLoc 3) (dCons (dLoc 4) dNil) oAppend)) <|
      sNil)
      (sNil)) <|
    sNil) ((tgt (op, a)).map V.int) ⟨loc, σ ++ [(out0 code.length i op).map V.int]⟩).bind (seqK (sSeq (sReturn (dThen (dCons (dLoc 3) dNil) oTuple)) <| sNil))).fin := by
    unfold out0
    by_cases hcond : ¬ endsL.contains op = true ∧ i + 1 < code.length
    · obtain ⟨he, hlt⟩ := hcond
      have he' : endsL.contains op = false := by simpa using he
      have hlt' : (i : Int) + 1 < (code.length : Int) := by (first | lia | omega)
      refine ⟨upd (upd (argL [.lst rc, .int i]) 2 (.int code.length)) 3 (.lst σ.length), by simp [upd_ne], by simp [upd_ne], by simp, ?_⟩
      have c2 : (σ ++ [[V.int ((i : Int) + 1)]])[rc]? = some (code.map insV) := get_pre _ hc
      rw [if_pos ⟨he, hlt⟩]
      simp [R_successors, D_successors, ln _ hc, nl, upd_ne, it _ hc', i0, r_ends_flow, he', hlt', mk, ap, it _ c2, r_targets w, -List.contains_eq_mem]
    · rw [if_neg hcond]
      refine ⟨upd (upd (argL [.lst rc, .int i]) 2 (.int code.length)) 3 (.lst σ.length), by simp [upd_ne], by simp [upd_ne], by simp, ?_⟩
      by_cases he : endsL.contains op = true
      · simp [R_successors, D_successors, ln _ hc, nl, upd_ne, it _ hc', i0, r_ends_flow, he, r_targets w, -List.contains_eq_mem]
      · have he' : endsL.contains op = false := by simpa using he
        have hlt' : ¬ (i : Int) + 1 < (code.length : Int) := fun q => hcond ⟨he, by (first | lia | omega)⟩
        simp [R_successors, D_successors, ln _ hc, nl, upd_ne, it _ hc', i0, r_ends_flow, he', hlt', r_targets w, -List.contains_eq_mem]
  rw [pre]
  have hol : (out0 code.length i op).length ≤ 1 := by unfold out0; split <;> simp
  have L := succ_loop (n := code.length) (i := i) (full := (tgt (op, a)).map V.int) rfl (σ₀ := σ) rfl (tgt (op, a)) (out0 code.length i op) loc l1 l2 l3 (by (first | lia | omega))
  cases hs : succs code i (op, a) with
  | none => rw [L.2 hs]; rfl
  | some o =>
    obtain ⟨loc', h3, e⟩ := L.1 o hs
    rw [e]
    have hlen : o.length ≤ 1000 := by
      have : ∀ (n : Nat) (gs out o : List Int), succGo n out gs = some o → o.length ≤ out.length + gs.length := by
        intro n gs
        induction gs with
        | nil => intro out o e; cases e; simp
        | cons g gs ih =>
          intro out o e
          unfold succGo at e
          split at e
          · cases e
          · have := ih _ _ e
            split at this <;> simp at this ⊢ <;> (first | lia | omega)
      have h1 : o.length ≤ (out0 code.length i op).length + (tgt (op, a)).length := this _ _ _ _ hs
      (first | lia | omega)
    have tl : oTuple [.lst σ.length] (σ ++ [o.map V.int]) = .ok (.tup (o.map V.int)) (σ ++ [o.map V.int]) := tuple_l _ _ _ (get_last _ _) (by rw [List.length_map]; (first | lia | omega))
    simp [h3, tl]
end Mine
end
section
set_option tactic.hygienic false
set_option backward.defeqAttrib.useBackward true
set_option maxRecDepth 100000
set_option linter.unusedSimpArgs false
open PySem PySem.W PyProof.Rows PySem.Calls
namespace Mine

/-! # enter_depth -/
noncomputable def entr (D w : List Int) (i d : Int) : Option (List Int × List Int) :=
  if i < 0 ∨ (D.length : Int) ≤ i then none else (match D[i.toNat]? with
    | none => none
    | some x => if x < 0 then some (D.set i.toNat d, w ++ [i]) else if x ≠ d then none else some (D, w))
noncomputable def upd2 (σ : Sto) (rd rw : Nat) (D w : List Int) : Sto := (σ.set rd (D.map V.int)).set rw (w.map V.int)
theorem upd2_d {σ : Sto} {rd rw : Nat} (hd : rd < σ.length) (hne : rd ≠ rw) (D w : List Int) : (upd2 σ rd rw D w)[rd]? = some (D.map V.int) := by
  unfold upd2
  rw [List.getElem?_set_ne (Ne.symm hne), List.getElem?_set_self hd]
theorem upd2_w {σ : Sto} {rd rw : Nat} (hw : rw < σ.length) (D w : List Int) : (upd2 σ rd rw D w)[rw]? = some (w.map V.int) := by
  unfold upd2
  rw [List.getElem?_set_self (by simpa using hw)]
theorem upd2_o {σ : Sto} {rd rw r : Nat} (h1 : r ≠ rd) (h2 : r ≠ rw) (D w : List Int) : (upd2 σ rd rw D w)[r]? = σ[r]? := by
  unfold upd2
  rw [List.getElem?_set_ne (Ne.symm h2), List.getElem?_set_ne (Ne.symm h1)]
theorem upd2_len {σ : Sto} {rd rw : Nat} (D w : List Int) : (upd2 σ rd rw D w).length = σ.length := by simp [upd2]
theorem set_same {α : Type} {l : List α} {i : Nat} {x : α} (h : l[i]? = some x) : l.set i x = l := by
  obtain ⟨hi, rfl⟩ := List.getElem?_eq_some_iff.mp h
  exact List.set_getElem_self hi
theorem upd2_same {σ : Sto} {rd rw : Nat} {D w : List Int} (hd : σ[rd]? = some (D.map V.int)) (hw : σ[rw]? = some (w.map V.int)) : upd2 σ rd rw D w = σ := by
  unfold upd2
  rw [set_same hd, set_same hw]
theorem upd2_upd2 {σ : Sto} {rd rw : Nat} (hne : rd ≠ rw) (D w D' w' : List Int) : upd2 (upd2 σ rd rw D w) rd rw D' w' = upd2 σ rd rw D' w' := by
  unfold upd2
  rw [List.set_comm _ _ (Ne.symm hne), List.set_set, List.set_set]

theorem r_enter {D w : List Int} {rd rw : Nat} {σ : Sto} {i d : Int} (hd : σ[rd]? = some (D.map V.int)) (hw : σ[rw]? = some (w.map V.int)) (hne : rd ≠ rw) (hD : D.length ≤ 100) (hwl : w.length ≤ 100) :
    R_enter_depth [.lst rd, .lst rw, .int i, .int d] σ = match entr D w i d with
      | some (D', w') => .ok .none (upd2 σ rd rw D' w')
      | none => .exc := by
  have lim : limN = 1000 := rfl
  have ln : oLen [.lst rd] σ = .ok (.int D.length) σ := by rw [len_l rd _ σ hd (by rw [List.length_map]; (first | lia | omega)), List.length_map]
  unfold entr
  by_cases hbad : i < 0 ∨ (D.length : Int) ≤ i
  · rw [if_pos hbad]
    rcases hbad with h | h
    · simp [R_enter_depth, D_enter_depth, h]
    · by_cases h0 : i < 0 <;> simp [R_enter_depth, D_enter_depth, ln, h, h0]
  · rw [if_neg hbad]
    have h0 : ¬ i < 0 := fun q => hbad (.inl q)
    have hn : ¬ (D.length : Int) ≤ i := fun q => hbad (.inr q)
    obtain ⟨k, rfl⟩ := Int.eq_ofNat_of_zero_le (Int.not_lt.mp h0)
    have hk : k < D.length := by (first | lia | omega)
    rw [Int.toNat_natCast]
    have hx : D[k]? = some D[k] := List.getElem?_eq_getElem hk
    rw [hx]
    dsimp only
    have it : oItem tv (.lst rd) (.int k) σ = .ok (.int D[k]) σ := item_l rd k _ _ σ (by (first | lia | omega)) hd (get_map hx)
    by_cases hx0 : D[k] < 0
    · rw [if_pos hx0]
      have hset : ∀ loc : Nat → Option V, loc 3 = some (.int d) → loc 0 = some (.lst rd) → loc 2 = some (.int k) → sSetItem (dLoc 3) (dLoc 0) (dLoc 2) ⟨loc, σ⟩ = .ok .next ⟨loc, σ.set rd ((D.set k d).map V.int)⟩ := by
        intro loc l3 l0 l2
        simp only [sSetItem, loc_ap, l3, l0, l2, locK_some, R.bindS_ok, hd]
        rw [if_pos ⟨by (first | lia | omega), by rw [List.length_map]; (first | lia | omega), by rw [List.length_map]; (first | lia | omega)⟩, Int.toNat_natCast, List.map_set]
      have hw' : (σ.set rd ((D.set k d).map V.int))[rw]? = some (w.map V.int) := by rw [List.getElem?_set_ne hne]; exact hw
      have ap : oAppend [.lst rw, .int k] (σ.set rd ((D.set k d).map V.int)) = .ok .none (upd2 σ rd rw (D.set k d) (w ++ [(k : Int)])) := by
        rw [append_l _ _ _ _ hw' (by rw [List.length_map]; (first | lia | omega))]
        simp [upd2]
      have mk : ∀ loc da k', methK da k' loc (.lst rw) (σ.set rd ((D.set k d).map V.int)) = (da ⟨loc, σ.set rd ((D.set k d).map V.int)⟩).bind (methK2 k' (.lst rw)) := fun loc da k' => methK_ap _ _ _ _ _ _ hw'
      have hs := hset (argL [.lst rd, .lst rw, .int k, .int d]) rfl rfl rfl
      simp only [R_enter_depth, D_enter_depth]
      simp [h0, ln, hn, it, hx0]
      rw [hs]
      simp [-List.map_set, mk, ap]
    · rw [if_neg hx0]
      by_cases hxd : D[k] = d
      · rw [if_neg (by simpa using hxd)]
        dsimp only
        rw [upd2_same hd hw]
        simp [R_enter_depth, D_enter_depth, h0, ln, hn, it, hx0, hxd]
        have : ¬ d < 0 := hxd ▸ hx0
        simp [this]
      · rw [if_pos hxd]
        simp [R_enter_depth, D_enter_depth, h0, ln, hn, it, hx0, hxd]

noncomputable def entrs : List Int → List Int → List (Int × Int) → Option (List Int × List Int)
  | D, w, [] => some (D, w)
  | D, w, (i, d) :: r => match entr D w i d with
    | some (D', w') => entrs D' w' r
    | none => none

/-! invariants of the work -/
noncomputable def neg (D : List Int) : Nat := D.countP (fun x => decide (x < 0))
structure WInv (n : Nat) (D w : List Int) : Prop where
  len : D.length = n
  sum : w.length + neg D ≤ n
  rng : ∀ i ∈ w, ∃ k : Nat, i = k ∧ k < n ∧ ∃ x, D[k]? = some x ∧ 0 ≤ x
theorem neg_set {D : List Int} {k : Nat} {x d : Int} (h : D[k]? = some x) (hx : x < 0) (hd : 0 ≤ d) : neg (D.set k d) + 1 = neg D := by
  unfold neg
  obtain ⟨hk, e⟩ := List.getElem?_eq_some_iff.mp h
  have h1 := List.countP_set (p := fun x => decide (x < 0)) (l := D) (i := k) (a := d) hk
  rw [h1, e]
  have : 0 < D.countP (fun x => decide (x < 0)) := List.countP_pos_iff.mpr ⟨x, List.mem_of_getElem? h, by simpa using hx⟩
  simp [hx, Int.not_lt.mpr hd]
  (first | lia | omega)
set_option tactic.hygienic true in
theorem enter_inv {n : Nat} {D w D' w' : List Int} {i d : Int} (I : WInv n D w) (hd : 0 ≤ d) (e : entr D w i d = some (D', w')) : WInv n D' w' ∧ (∃ k : Nat, i = k ∧ D'[k]? = some d) ∧ (∀ (k : Nat) (x : Int), D[k]? = some x → 0 ≤ x → D'[k]? = some x) ∧
    (∀ (k : Nat) (x : Int), D'[k]? = some x → 0 ≤ x → D[k]? = some x ∨ ((k : Int) = i ∧ x = d)) ∧ w'.length + neg D' = w.length + neg D ∧
    ((D' = D ∧ w' = w) ∨ (w' = w ++ [i] ∧ ∃ k : Nat, i = k ∧ ∃ x, D[k]? = some x ∧ x < 0)) := by
  unfold entr at e
  split at e
  · cases e
  · rename_i hbad
    have h0 : 0 ≤ i := by (first | lia | omega)
    obtain ⟨k, rfl⟩ := Int.eq_ofNat_of_zero_le h0
    rw [Int.toNat_natCast] at e
    split at e
    · cases e
    · rename_i x hx
      split at e
      · rename_i hx0
        cases e
        have hk : k < D.length := (List.getElem?_eq_some_iff.mp hx).1
        have ns := neg_set hx hx0 hd
        have keep : ∀ (j : Nat) (y : Int), D[j]? = some y → 0 ≤ y → (D.set k d)[j]? = some y := fun j y hy h => by
          by_cases hj : k = j
          · subst hj; rw [hx] at hy; cases hy; (first | lia | omega)
          · rw [List.getElem?_set_ne hj]; exact hy
        refine ⟨⟨by simp [I.len], by simp; have := I.sum; (first | lia | omega), fun j hj => ?_⟩, ⟨k, rfl, List.getElem?_set_self hk⟩, keep, fun j y hy h => ?_, by simp; (first | lia | omega), .inr ⟨rfl, k, rfl, x, hx, hx0⟩⟩
        · rcases List.mem_append.mp hj with hj | hj
          · obtain ⟨m, e1, e2, y, e3, e4⟩ := I.rng j hj
            exact ⟨m, e1, e2, y, keep m y e3 e4, e4⟩
          · rw [List.mem_singleton] at hj
            exact ⟨k, hj, I.len ▸ hk, d, List.getElem?_set_self hk, hd⟩
        · by_cases hj : k = j
          · subst hj; rw [List.getElem?_set_self hk] at hy; cases hy; exact .inr ⟨rfl, rfl⟩
          · rw [List.getElem?_set_ne hj] at hy; exact .inl hy
      · rename_i hx0
        split at e
        · cases e
        · rename_i hxd
          cases e
          have : x = d := by simpa using hxd
          subst this
          exact ⟨I, ⟨k, rfl, hx⟩, fun _ _ e _ => e, fun _ _ e _ => .inl e, rfl, .inl ⟨rfl, rfl⟩⟩
end Mine
end
section
set_option tactic.hygienic false
set_option backward.defeqAttrib.useBackward true
set_option maxRecDepth 100000
set_option linter.unusedSimpArgs false
open PySem PySem.W PyProof.Rows PySem.Calls
namespace Mine

structure Cl where
  s : Int
  t0 : Int
  t1 : Int
  h0 : Int
  h1 : Int
  ex : Int
noncomputable def clV (c : Cl) : V := .tup [.int c.s, .int c.t0, .int c.t1, .int c.h0, .int c.h1, .int c.ex]
@[simp] theorem cl0 (c : Cl) (σ : Sto) : oItem tv (clV c) (.int 0) σ = .ok (.int c.s) σ := rfl
@[simp] theorem cl1 (c : Cl) (σ : Sto) : oItem tv (clV c) (.int 1) σ = .ok (.int c.t0) σ := rfl
@[simp] theorem cl2 (c : Cl) (σ : Sto) : oItem tv (clV c) (.int 2) σ = .ok (.int c.t1) σ := rfl
@[simp] theorem cl3 (c : Cl) (σ : Sto) : oItem tv (clV c) (.int 3) σ = .ok (.int c.h0) σ := rfl
@[simp] theorem cl4 (c : Cl) (σ : Sto) : oItem tv (clV c) (.int 4) σ = .ok (.int c.h1) σ := rfl
@[simp] theorem cl5 (c : Cl) (σ : Sto) : oItem tv (clV c) (.int 5) σ = .ok (.int c.ex) σ := rfl

noncomputable def clStart (c : Cl) : List (Int × Int) := (c.h0, if c.s = 0 ∨ c.s = 1 then 1 else 0) :: if c.s = 1 then [(c.ex, 1)] else []
noncomputable def clStarts (cs : List Cl) : List (Int × Int) := (cs.map clStart).flatten
noncomputable def startsOf (n : Nat) (cs : List Cl) : List (Int × Int) := (if 0 < n then [(0, 0)] else []) ++ clStarts cs

theorem entrs_one (D w : List Int) (i d : Int) : entrs D w [(i, d)] = entr D w i d := by
  unfold entrs
  cases entr D w i d <;> rfl
theorem entrs_append : ∀ (a b : List (Int × Int)) (D w : List Int), entrs D w (a ++ b) = match entrs D w a with
    | some (D', w') => entrs D' w' b
    | none => none
  | [], b, D, w => rfl
  | (i, d) :: a, b, D, w => by
    simp only [List.cons_append, entrs]
    cases entr D w i d with
    | none => rfl
    | some p => exact entrs_append a b p.1 p.2
theorem entrs_inv {n : Nat} : ∀ (l : List (Int × Int)) {D w D' w' : List Int}, WInv n D w → (∀ p ∈ l, 0 ≤ p.2) → entrs D w l = some (D', w') → WInv n D' w'
  | [], _, _, _, _, I, _, e => by cases e; exact I
  | (i, d) :: l, D, w, D', w', I, h, e => by
    unfold entrs at e
    cases e1 : entr D w i d with
    | none => rw [e1] at e; cases e
    | some p =>
      rw [e1] at e
      exact entrs_inv l (enter_inv I (h _ (.head _)) e1).1 (fun p q => h p (.tail _ q)) e
theorem clStart_pos {c : Cl} : ∀ p ∈ clStart c, 0 ≤ p.2 := by
  intro p hp
  unfold clStart at hp
  rcases List.mem_cons.mp hp with rfl | hp
  · dsimp only; split <;> (first | lia | omega)
  · split at hp
    · rw [List.mem_singleton] at hp; subst hp; show (0 : Int) ≤ 1; decide
    · cases hp
theorem clStarts_pos {cs : List Cl} : ∀ p ∈ clStarts cs, 0 ≤ p.2 := by
  intro p hp
  obtain ⟨l, hl, hp⟩ := List.mem_flatten.mp hp
  obtain ⟨c, _, rfl⟩ := List.mem_map.mp hl
  exact clStart_pos p hp
theorem WInv.l1 {n : Nat} {D w : List Int} (I : WInv n D w) (hn : n ≤ 100) : D.length ≤ 100 := I.len ▸ hn
theorem WInv.l2 {n : Nat} {D w : List Int} (I : WInv n D w) (hn : n ≤ 100) : w.length ≤ 100 := by have := I.sum; (first | lia | omega)

noncomputable def startBody : DS := (sSeq (sAssign 5 (dInt 0)) <|
    sSeq (sIf (dOr (dThen (dThen2 (dThen2 (dLoc 4) (dInt 0) (oItem tv)) (dVal (.int 0)) oEq) oBoolV) (dOr (dThen (dThen2 (dThen2 (dLoc 4) (dInt 0) (oItem tv)) (dVal (.int 1)) oEq) oBoolV) dFalse))
      (sSeq (sAssign 5 (dInt 1)) <|
      sNil)
      (sNil)) <|
    sSeq (sExpr (dThen (dCons (dLoc 2) (dCons (dLoc 3) (dCons (dThen2 (dLoc 4) (dInt 3) (oItem tv)) (dCons (dLoc 5) dNil)))) R_enter_depth)) <|
    sSeq (sIf (dThen (dThen2 (dThen2 (dLoc 4) (dInt 0) (oItem tv)) (dVal (.int 1)) oEq) oBoolV)
      (sSeq (sExpr (dThen (dCons (dLoc 2) (dCons (dLoc 3) (dCons (dThen2 (dLoc 4) (dInt 5) (oItem tv)) (dCons (dInt 1) dNil)))) R_enter_depth)) <|
      sNil)
      (sNil)) <|
    sNil)
theorem start_body {n : Nat} {D w : List Int} {rd rw : Nat} {σ : Sto} {c : Cl} {loc : Nat → Option V} (I : WInv n D w) (hn : n ≤ 100) (hd : σ[rd]? = some (D.map V.int)) (hw : σ[rw]? = some (w.map V.int)) (hne : rd ≠ rw) (l2 : loc 2 = some (.lst rd)) (l3 : loc 3 = some (.lst rw)) :
    ∃ loc', loc' 2 = loc 2 ∧ loc' 3 = loc 3 ∧ startBody ⟨upd loc 4 (clV c), σ⟩ = match entrs D w (clStart c) with
      | some (D', w') => .ok .next ⟨loc', upd2 σ rd rw D' w'⟩
      | none => .exc := by
  have dl : rd < σ.length := (List.getElem?_eq_some_iff.mp hd).1
  have wl : rw < σ.length := (List.getElem?_eq_some_iff.mp hw).1
  have e1 : ∀ d, R_enter_depth [.lst rd, .lst rw, .int c.h0, .int d] σ = _ := fun d => r_enter hd hw hne (I.l1 hn) (I.l2 hn)
  unfold clStart
  by_cases h1 : c.s = 1
  · rw [if_pos (.inr h1), if_pos h1]
    refine ⟨upd (upd (upd loc 4 (clV c)) 5 (.int 0)) 5 (.int 1), by simp [upd_ne], by simp [upd_ne], ?_⟩
    unfold entrs
    cases q : entr D w c.h0 1 with
    | none =>
      have e1' := e1 1
      rw [q] at e1'
      simp [startBody, upd_ne, l2, l3, h1, e1']
    | some p =>
      obtain ⟨D1, w1⟩ := p
      have I1 := (enter_inv I (by decide) q).1
      have e1' := e1 1
      rw [q] at e1'
      have e2 : R_enter_depth [.lst rd, .lst rw, .int c.ex, .int 1] (upd2 σ rd rw D1 w1) = _ := r_enter (upd2_d dl hne D1 w1) (upd2_w wl D1 w1) hne (I1.l1 hn) (I1.l2 hn)
      dsimp only
      unfold entrs
      cases q2 : entr D1 w1 c.ex 1 with
      | none =>
        rw [q2] at e2
        simp [startBody, upd_ne, l2, l3, h1, e1', e2]
      | some p2 =>
        obtain ⟨D2, w2⟩ := p2
        rw [q2] at e2
        dsimp only at e2 ⊢
        rw [upd2_upd2 hne] at e2
        simp [startBody, upd_ne, l2, l3, h1, e1', e2, entrs]
  · rw [if_neg h1]
    by_cases h0 : c.s = 0
    · rw [if_pos (.inl h0)]
      refine ⟨upd (upd (upd loc 4 (clV c)) 5 (.int 0)) 5 (.int 1), by simp [upd_ne], by simp [upd_ne], ?_⟩
      unfold entrs
      have e1' := e1 1
      cases q : entr D w c.h0 1 with
      | none => rw [q] at e1'; simp [startBody, upd_ne, l2, l3, h0, e1']
      | some p => rw [q] at e1'; simp [startBody, upd_ne, l2, l3, h0, e1', entrs]
    · rw [if_neg (by (first | lia | omega))]
      refine ⟨upd (upd loc 4 (clV c)) 5 (.int 0), by simp [upd_ne], by simp [upd_ne], ?_⟩
      unfold entrs
      have e1' := e1 0
      cases q : entr D w c.h0 0 with
      | none => rw [q] at e1'; simp [startBody, upd_ne, l2, l3, h0, h1, e1']
      | some p => rw [q] at e1'; simp [startBody, upd_ne, l2, l3, h0, h1, e1', entrs]

theorem start_loop {n : Nat} {rd rw rk : Nat} {full : List V} (hn : n ≤ 100) (hne : rd ≠ rw) (hkd : rk ≠ rd) (hkw : rk ≠ rw) : ∀ (cs : List Cl) (D w : List Int) (loc : Nat → Option V) (σ : Sto), WInv n D w → loc 2 = some (.lst rd) → loc 3 = some (.lst rw) →
    σ[rd]? = some (D.map V.int) → σ[rw]? = some (w.map V.int) → σ[rk]? = some full →
    ∃ loc', forGo (.lst rk) full (.one 4) startBody (cs.map clV) ⟨loc, σ⟩ = match entrs D w (clStarts cs) with
      | some (D', w') => .ok .next ⟨loc', upd2 σ rd rw D' w'⟩
      | none => .exc
  | [], D, w, loc, σ, I, l2, l3, hd, hw, hk => ⟨loc, by
    rw [List.map_nil, forGo_nil (src := .lst rk) (st := ⟨loc, σ⟩) hk]
    show _ = RS.ok Fl.next ⟨loc, upd2 σ rd rw D w⟩
    rw [upd2_same hd hw]⟩
  | c :: cs, D, w, loc, σ, I, l2, l3, hd, hw, hk => by
    have dl : rd < σ.length := (List.getElem?_eq_some_iff.mp hd).1
    have wl : rw < σ.length := (List.getElem?_eq_some_iff.mp hw).1
    obtain ⟨loc1, a2, a3, e⟩ := start_body (c := c) I hn hd hw hne l2 l3
    have es : clStarts (c :: cs) = clStart c ++ clStarts cs := rfl
    rw [es, entrs_append, List.map_cons, forGo_one (src := .lst rk) (st := ⟨loc, σ⟩) hk, e]
    cases q : entrs D w (clStart c) with
    | none => exact ⟨loc, rfl⟩
    | some p =>
      obtain ⟨D1, w1⟩ := p
      have I1 := entrs_inv _ I clStart_pos q
      dsimp only
      rw [RS.bind_ok, forK_next]
      obtain ⟨loc', e'⟩ := start_loop hn hne hkd hkw cs D1 w1 loc1 (upd2 σ rd rw D1 w1) I1 (a2.trans l2) (a3.trans l3) (upd2_d dl hne D1 w1) (upd2_w wl D1 w1) ((upd2_o hkd hkw D1 w1).trans hk)
      refine ⟨loc', ?_⟩
      rw [e']
      cases entrs D1 w1 (clStarts cs) with
      | none => rfl
      | some p => dsimp only; rw [upd2_upd2 hne]

theorem r_start {code : List Ins} {cs : List Cl} {rc rk rd rw : Nat} {D w : List Int} {σ : Sto} {n : Nat} (hcn : code.length = n) (hn : n ≤ 100) (hc : σ[rc]? = some (code.map insV)) (hk : σ[rk]? = some (cs.map clV)) (hd : σ[rd]? = some (D.map V.int)) (hw : σ[rw]? = some (w.map V.int)) (hne : rd ≠ rw) (hkd : rk ≠ rd) (hkw : rk ≠ rw) (I : WInv n D w) :
    R_start_depths [.lst rc, .lst rk, .lst rd, .lst rw] σ = match entrs D w (startsOf n cs) with
      | some (D', w') => .ok .none (upd2 σ rd rw D' w')
      | none => .exc := by
  have lim : limN = 1000 := rfl
  have dl : rd < σ.length := (List.getElem?_eq_some_iff.mp hd).1
  have wl : rw < σ.length := (List.getElem?_eq_some_iff.mp hw).1
  have ln : oLen [.lst rc] σ = .ok (.int n) σ := by rw [len_l rc _ σ hc (by rw [List.length_map]; (first | lia | omega)), List.length_map, hcn]
  have fs : ∀ loc σ', σ'[rk]? = some (cs.map clV) → forS (.one 4) startBody loc (.lst rk) σ' = forGo (.lst rk) (cs.map clV) (.one 4) startBody (cs.map clV) ⟨loc, σ'⟩ := fun loc σ' h => forS_lst _ _ _ _ _ _ h
  unfold startsOf
  rw [entrs_append]
  have D1 : R_start_depths = runFn 4 (sSeq (sIf (dThen (dThen2 (dThen (dCons (dLoc 0) dNil) oLen) (dInt 0) (oIntCmp fun a b => decide (b < a))) oBoolV)
    (sSeq (sExpr (dThen (dCons (dLoc 2) (dCons (dLoc 3) (dCons (dInt 0) (dCons (dInt 0) dNil)))) R_enter_depth)) <|
    sNil)
    (sNil)) <| sSeq (sFor (dLoc 1) (.one 4) startBody) sNil) := rfl
  rw [D1]
  by_cases h0 : 0 < n
  · rw [if_pos h0]
    have e1 : R_enter_depth [.lst rd, .lst rw, .int 0, .int 0] σ = _ := r_enter hd hw hne (I.l1 hn) (I.l2 hn)
    rw [entrs_one]
    cases q : entr D w 0 0 with
    | none => rw [q] at e1; simp [ln, h0, e1]
    | some p =>
      obtain ⟨D1, w1⟩ := p
      rw [q] at e1
      have I1 := (enter_inv I (by decide) q).1
      have hk1 : (upd2 σ rd rw D1 w1)[rk]? = some (cs.map clV) := (upd2_o hkd hkw D1 w1).trans hk
      obtain ⟨loc', e'⟩ := start_loop (full := cs.map clV) hn hne hkd hkw cs D1 w1 (argL [.lst rc, .lst rk, .lst rd, .lst rw]) (upd2 σ rd rw D1 w1) I1 rfl rfl (upd2_d dl hne D1 w1) (upd2_w wl D1 w1) hk1
      dsimp only at e1 ⊢
      cases q2 : entrs D1 w1 (clStarts cs) with
      | none => rw [q2] at e'; simp [ln, h0, e1, fs _ _ hk1, e']
      | some p2 => rw [q2] at e'; simp [ln, h0, e1, fs _ _ hk1, e', upd2_upd2 hne]
  · rw [if_neg h0]
    obtain ⟨loc', e'⟩ := start_loop (full := cs.map clV) hn hne hkd hkw cs D w (argL [.lst rc, .lst rk, .lst rd, .lst rw]) σ I rfl rfl hd hw hk
    show _ = (match entrs D w (clStarts cs) with
      | some (D', w') => R.ok V.none (upd2 σ rd rw D' w')
      | none => R.exc)
    cases q2 : entrs D w (clStarts cs) with
    | none => rw [q2] at e'; simp [ln, h0, fs _ _ hk, e']
    | some p2 => rw [q2] at e'; simp [ln, h0, fs _ _ hk, e']
end Mine
end
section
set_option tactic.hygienic false
set_option backward.defeqAttrib.useBackward true
set_option maxRecDepth 100000
set_option linter.unusedSimpArgs false
open PySem PySem.W PyProof.Rows PySem.Calls
namespace Mine

noncomputable def edges (c : Cl) : List Int := if c.s = 1 then [c.t0, c.t1, c.h0, c.h1, c.ex] else [c.t0, c.t1, c.h0, c.h1]
noncomputable def edgeBad (code : List Ins) (e : Int) : Prop := e < 0 ∨ (code.length : Int) < e ∨ (0 < e ∧ ∃ p, code[(e - 1).toNat]? = some p ∧ (p.1 = 65046 ∨ p.1 = 65054))
noncomputable def clBad (code : List Ins) (c : Cl) : Prop := (code.length : Int) ≤ c.t0 ∨ (code.length : Int) ≤ c.h0 ∨ (c.s = 1 ∧ (code.length : Int) ≤ c.ex) ∨ ∃ e ∈ edges c, edgeBad code e

theorem r_edges {c : Cl} {σ : Sto} : R_clause_edges [clV c] σ = .ok (.tup ((edges c).map V.int)) σ := by
  have t5 : ∀ a b c d e : V, oTup [a, b, c, d, e] σ = .ok (.tup [a, b, c, d, e]) σ := fun _ _ _ _ _ => tup_ap _ _ (by simp [limN])
  have t4 : ∀ a b c d : V, oTup [a, b, c, d] σ = .ok (.tup [a, b, c, d]) σ := fun _ _ _ _ => tup_ap _ _ (by simp [limN])
  by_cases h : c.s = 1 <;> simp [R_clause_edges, D_clause_edges, edges, h, t4, t5]

/-- the test upon an edge -/
theorem edge_test {code : List Ins} {rc : Nat} {σ : Sto} {e : Int} {loc : Nat → Option V} (hc : σ[rc]? = some (code.map insV)) (hn : code.length ≤ 100) (l0 : loc 0 = some (.lst rc)) (l2 : loc 2 = some (.int code.length)) (l5 : loc 5 = some (.int e)) :
    ∃ b, dOr (dThen (dThen2 (dLoc 5) (dInt 0) (oIntCmp fun a b => decide (a < b))) oBoolV) (dOr (dThen (dThen2 (dLoc 5) (dLoc 2) (oIntCmp fun a b => decide (b < a))) oBoolV) (dOr (dAnd (dThen (dThen2 (dLoc 5) (dInt 0) (oIntCmp fun a b => decide (b < a))) oBoolV) (dAnd (dThen (dThen2 (dThen (dCons (dThen2 (dThen2 (dLoc 0) (dThen2 (dLoc 5) (dInt 1) oSub) (oItem tv)) (dInt 0) (oItem tv)) dNil) R_prefix_goal) (dInt 0) (oIntCmp fun a b => decide (b ≤ a))) oBoolV) dTrue)) dFalse)) ⟨loc, σ⟩ = .ok b σ ∧ (b = true ↔ edgeBad code e) := by
  unfold edgeBad
  by_cases h0 : e < 0
  · exact ⟨true, by simp [l5, h0], by simp [h0]⟩
  by_cases hl : (code.length : Int) < e
  · exact ⟨true, by simp [l5, h0, l2, hl], by simp [hl]⟩
  by_cases hp : 0 < e
  · obtain ⟨k, hk⟩ : ∃ k : Nat, e - 1 = k := ⟨(e - 1).toNat, by (first | lia | omega)⟩
    have hkl : k < code.length := by (first | lia | omega)
    have hg : code[k]? = some code[k] := List.getElem?_eq_getElem hkl
    have it : oItem tv (.lst rc) (.int k) σ = .ok (insV code[k]) σ := item_l rc k _ _ σ (by (first | lia | omega)) hc (get_map hg)
    have i0 : oItem tv (insV code[k]) (.int 0) σ = .ok (.int code[k].1) σ := rfl
    refine ⟨decide (code[k].1 = 65046 ∨ code[k].1 = 65054), ?_, ?_⟩
    · by_cases a : code[k].1 = 65046
      · simp [l5, h0, l2, hl, hp, l0, hk, it, i0, r_prefix, a]
      · by_cases b : code[k].1 = 65054
        · simp [l5, h0, l2, hl, hp, l0, hk, it, i0, r_prefix, a, b]
        · simp [l5, h0, l2, hl, hp, l0, hk, it, i0, r_prefix, a, b]
    · rw [hk, Int.toNat_natCast, hg]
      simp [h0, hl, hp]
  · exact ⟨false, by simp [l5, h0, l2, hl, hp], by simp [h0, hl, hp]⟩

noncomputable def edgeBody : DS := (sSeq (sIf (dOr (dThen (dThen2 (dLoc 5) (dInt 0) (oIntCmp fun a b => decide (a < b))) oBoolV) (dOr (dThen (dThen2 (dLoc 5) (dLoc 2) (oIntCmp fun a b => decide (b < a))) oBoolV) (dOr (dAnd (dThen (dThen2 (dLoc 5) (dInt 0) (oIntCmp fun a b => decide (b < a))) oBoolV) (dAnd (dThen (dThen2 (dThen (dCons (dThen2 (dThen2 (dLoc 0) (dThen2 (dLoc 5) (dInt 1) oSub) (oItem tv)) (dInt 0) (oItem tv)) dNil) R_prefix_goal) (dInt 0) (oIntCmp fun a b => decide (b ≤ a))) oBoolV) dTrue)) dFalse)))
        (sSeq (sRaise (dLoc 3)) <|
        sNil)
        (sNil)) <|
      sNil)
theorem edge_loop {code : List Ins} {rc : Nat} {σ : Sto} {full : List V} {at_ : Int} (hc : σ[rc]? = some (code.map insV)) (hn : code.length ≤ 100) : ∀ (es : List Int) (loc : Nat → Option V), loc 0 = some (.lst rc) → loc 2 = some (.int code.length) → loc 3 = some (.int at_) →
    ((∃ e ∈ es, edgeBad code e) → forGo (.tup full) full (.one 5) edgeBody (es.map V.int) ⟨loc, σ⟩ = .exc) ∧
    ((¬ ∃ e ∈ es, edgeBad code e) → ∃ loc', (∀ j, j ≠ 5 → loc' j = loc j) ∧ forGo (.tup full) full (.one 5) edgeBody (es.map V.int) ⟨loc, σ⟩ = .ok .next ⟨loc', σ⟩)
  | [], loc, l0, l2, l3 => ⟨fun ⟨_, h, _⟩ => (nomatch h), fun _ => ⟨loc, fun _ _ => rfl, forGo_nil rfl⟩⟩
  | e :: es, loc, l0, l2, l3 => by
    obtain ⟨b, hb, hiff⟩ := edge_test (code := code) (e := e) (loc := upd loc 5 (.int e)) hc hn (by simp [upd_ne, l0]) (by simp [upd_ne, l2]) (by simp)
    rw [List.map_cons, forGo_one rfl]
    cases b with
    | true =>
      have bad := hiff.mp rfl
      have st : edgeBody ⟨upd loc 5 (.int e), σ⟩ = .exc := by
        unfold edgeBody
        rw [seq_ap, if_ap, hb]
        simp [upd_ne, l3]
      refine ⟨fun _ => by rw [st]; rfl, fun h => absurd ⟨e, .head _, bad⟩ h⟩
    | false =>
      have nbad : ¬ edgeBad code e := fun q => by have := hiff.mpr q; cases this
      have st : edgeBody ⟨upd loc 5 (.int e), σ⟩ = .ok .next ⟨upd loc 5 (.int e), σ⟩ := by
        unfold edgeBody
        rw [seq_ap, if_ap, hb]
        simp
      obtain ⟨A, B⟩ := edge_loop (full := full) (at_ := at_) hc hn es (upd loc 5 (.int e)) (by simp [upd_ne, l0]) (by simp [upd_ne, l2]) (by simp [upd_ne, l3])
      rw [st, RS.bind_ok, forK_next]
      refine ⟨fun ⟨x, hx, hbx⟩ => ?_, fun h => ?_⟩
      · rcases List.mem_cons.mp hx with rfl | hx
        · exact absurd hbx nbad
        · exact A ⟨x, hx, hbx⟩
      · obtain ⟨loc', h1, h2⟩ := B fun ⟨x, hx, hbx⟩ => h ⟨x, .tail _ hx, hbx⟩
        exact ⟨loc', fun j hj => (h1 j hj).trans (upd_ne _ _ hj), h2⟩

noncomputable def checkBody : DS := (sSeq (sAssign 4 (dThen2 (dLoc 1) (dLoc 3) (oItem tv))) <|
    sSeq (sIf (dOr (dThen (dThen2 (dThen2 (dLoc 4) (dInt 1) (oItem tv)) (dLoc 2) (oIntCmp fun a b => decide (b ≤ a))) oBoolV) (dOr (dThen (dThen2 (dThen2 (dLoc 4) (dInt 3) (oItem tv)) (dLoc 2) (oIntCmp fun a b => decide (b ≤ a))) oBoolV) (dOr (dAnd (dThen (dThen2 (dThen2 (dLoc 4) (dInt 0) (oItem tv)) (dVal (.int 1)) oEq) oBoolV) (dAnd (dThen (dThen2 (dThen2 (dLoc 4) (dInt 5) (oItem tv)) (dLoc 2) (oIntCmp fun a b => decide (b ≤ a))) oBoolV) dTrue)) dFalse)))
      (sSeq (sRaise (dLoc 3)) <|
      sNil)
      (sNil)) <|
    sSeq (sFor (dThen (dCons (dLoc 4) dNil) R_clause_edges) (.one 5) edgeBody) <|
    sNil)
theorem check_body {code : List Ins} {cs : List Cl} {rc rk : Nat} {σ : Sto} {k : Nat} {c : Cl} {loc : Nat → Option V} (hc : σ[rc]? = some (code.map insV)) (hn : code.length ≤ 100) (hk : σ[rk]? = some (cs.map clV)) (hkl : k < 1000) (hck : cs[k]? = some c)
    (l0 : loc 0 = some (.lst rc)) (l1 : loc 1 = some (.lst rk)) (l2 : loc 2 = some (.int code.length)) :
    (clBad code c → checkBody ⟨upd loc 3 (.int k), σ⟩ = .exc) ∧ (¬ clBad code c → ∃ loc', (∀ j, j < 3 → loc' j = loc j) ∧ checkBody ⟨upd loc 3 (.int k), σ⟩ = .ok .next ⟨loc', σ⟩) := by
  have it : oItem tv (.lst rk) (.int k) σ = .ok (clV c) σ := item_l rk k _ _ σ hkl hk (get_map hck)
  unfold clBad
  by_cases h1 : (code.length : Int) ≤ c.t0
  · exact ⟨fun _ => by simp [checkBody, upd_ne, l1, it, l2, h1], fun q => absurd (.inl h1) q⟩
  by_cases h2 : (code.length : Int) ≤ c.h0
  · exact ⟨fun _ => by simp [checkBody, upd_ne, l1, it, l2, h1, h2], fun q => absurd (.inr (.inl h2)) q⟩
  by_cases h3 : c.s = 1 ∧ (code.length : Int) ≤ c.ex
  · exact ⟨fun _ => by simp [checkBody, upd_ne, l1, it, l2, h1, h2, h3.1, h3.2], fun q => absurd (.inr (.inr (.inl h3))) q⟩
  have pre : checkBody ⟨upd loc 3 (.int k), σ⟩ = (forGo (.tup ((edges c).map V.int)) ((edges c).map V.int) (.one 5) edgeBody ((edges c).map V.int) ⟨upd (upd loc 3 (.int k)) 4 (clV c), σ⟩).bind (seqK sNil) := by
    by_cases hs : c.s = 1
    · have hx : ¬ (code.length : Int) ≤ c.ex := fun q => h3 ⟨hs, q⟩
      simp [checkBody, upd_ne, l1, it, l2, h1, h2, hs, hx, r_edges]
    · simp [checkBody, upd_ne, l1, it, l2, h1, h2, hs, r_edges]
  obtain ⟨A, B⟩ := edge_loop (full := (edges c).map V.int) (at_ := k) hc hn (edges c) (upd (upd loc 3 (.int k)) 4 (clV c)) (by simp [upd_ne, l0]) (by simp [upd_ne, l2]) (by simp [upd_ne])
  rw [pre]
  refine ⟨fun q => ?_, fun q => ?_⟩
  · rcases q with q | q | q | q
    · exact absurd q h1
    · exact absurd q h2
    · exact absurd q h3
    · rw [A q]; rfl
  · obtain ⟨loc', a, e⟩ := B fun z => q (.inr (.inr (.inr z)))
    refine ⟨loc', fun j hj => ?_, by rw [e]; rfl⟩
    rw [a j (by (first | lia | omega)), upd_ne _ _ (by (first | lia | omega)), upd_ne _ _ (by (first | lia | omega))]

theorem check_loop {code : List Ins} {cs : List Cl} {rc rk : Nat} {σ : Sto} {full : List V} {kk : Int} (hf : full = rngV kk) (hc : σ[rc]? = some (code.map insV)) (hn : code.length ≤ 100) (hk : σ[rk]? = some (cs.map clV)) (hcl : cs.length ≤ 100) : ∀ (ks : List Nat) (loc : Nat → Option V), (∀ k ∈ ks, k < cs.length) → loc 0 = some (.lst rc) → loc 1 = some (.lst rk) → loc 2 = some (.int code.length) →
    ((∃ k ∈ ks, ∃ c, cs[k]? = some c ∧ clBad code c) → forGo (.rng kk) full (.one 3) checkBody (ks.map fun (k : Nat) => V.int (k : Int)) ⟨loc, σ⟩ = .exc) ∧
    ((¬ ∃ k ∈ ks, ∃ c, cs[k]? = some c ∧ clBad code c) → ∃ loc', forGo (.rng kk) full (.one 3) checkBody (ks.map fun (k : Nat) => V.int (k : Int)) ⟨loc, σ⟩ = .ok .next ⟨loc', σ⟩)
  | [], loc, _, l0, l1, l2 => ⟨fun ⟨_, h, _⟩ => (nomatch h), fun _ => ⟨loc, forGo_nil (src := .rng kk) (st := ⟨loc, σ⟩) (by rw [hf]; rfl)⟩⟩
  | k :: ks, loc, hks, l0, l1, l2 => by
    have hkc : k < cs.length := hks k (.head _)
    have hg : cs[k]? = some cs[k] := List.getElem?_eq_getElem hkc
    obtain ⟨A, B⟩ := check_body (code := code) (c := cs[k]) (loc := loc) hc hn hk (by (first | lia | omega)) hg l0 l1 l2
    rw [List.map_cons, forGo_one (src := .rng kk) (st := ⟨loc, σ⟩) (by rw [hf]; rfl)]
    by_cases hb : clBad code cs[k]
    · refine ⟨fun _ => by rw [A hb]; rfl, fun h => absurd ⟨k, .head _, _, hg, hb⟩ h⟩
    · obtain ⟨loc1, a, e⟩ := B hb
      obtain ⟨A', B'⟩ := check_loop hf hc hn hk hcl ks loc1 (fun k h => hks k (.tail _ h)) ((a 0 (by decide)).trans l0) ((a 1 (by decide)).trans l1) ((a 2 (by decide)).trans l2)
      rw [e, RS.bind_ok, forK_next]
      refine ⟨fun ⟨x, hx, c, h1, h2⟩ => ?_, fun h => B' fun ⟨x, hx, z⟩ => h ⟨x, .tail _ hx, z⟩⟩
      rcases List.mem_cons.mp hx with rfl | hx
      · rw [hg] at h1; cases h1; exact absurd h2 hb
      · exact A' ⟨x, hx, c, h1, h2⟩

theorem r_check {code : List Ins} {cs : List Cl} {rc rk : Nat} {σ : Sto} (hc : σ[rc]? = some (code.map insV)) (hn : code.length ≤ 100) (hk : σ[rk]? = some (cs.map clV)) (hcl : cs.length ≤ 100) :
    ((∃ c ∈ cs, clBad code c) → R_check_edges [.lst rc, .lst rk] σ = .exc) ∧ ((¬ ∃ c ∈ cs, clBad code c) → R_check_edges [.lst rc, .lst rk] σ = .ok .none σ) := by
  have lim : limN = 1000 := rfl
  have l1 : oLen [.lst rc] σ = .ok (.int code.length) σ := by rw [len_l rc _ σ hc (by rw [List.length_map]; (first | lia | omega)), List.length_map]
  have l2 : oLen [.lst rk] σ = .ok (.int cs.length) σ := by rw [len_l rk _ σ hk (by rw [List.length_map]; (first | lia | omega)), List.length_map]
  have fs : ∀ loc, forS (.one 3) checkBody loc (.rng cs.length) σ = forGo (.rng cs.length) (rngV cs.length) (.one 3) checkBody (rngV cs.length) ⟨loc, σ⟩ := fun loc => forS_rng _ _ _ _ _ ⟨by (first | lia | omega), by (first | lia | omega)⟩
  have D1 : R_check_edges = runFn 2 (sSeq (sAssign 2 (dThen (dCons (dLoc 0) dNil) oLen)) <| sSeq (sFor (dThen (dCons (dThen (dCons (dLoc 1) dNil) oLen) dNil) oRange) (.one 3) checkBody) <| sNil) := rfl
  have hr : rngV cs.length = (List.range cs.length).map fun (k : Nat) => V.int (k : Int) := by unfold rngV; rw [Int.toNat_natCast]
  obtain ⟨A, B⟩ := check_loop (kk := cs.length) rfl hc hn hk hcl (List.range cs.length) (upd (argL [.lst rc, .lst rk]) 2 (.int code.length)) (fun k h => List.mem_range.mp h) (by simp [upd_ne]) (by simp [upd_ne]) (by simp)
  rw [← hr] at A B
  have pre : R_check_edges [.lst rc, .lst rk] σ = ((forGo (.rng cs.length) (rngV cs.length) (.one 3) checkBody (rngV cs.length) ⟨upd (argL [.lst rc, .lst rk]) 2 (.int code.length), σ⟩).bind (seqK sNil)).fin := by
    rw [D1]
    simp [l1, l2, upd_ne, fs]
  rw [pre]
  have iff : (∃ c ∈ cs, clBad code c) ↔ ∃ k ∈ List.range cs.length, ∃ c, cs[k]? = some c ∧ clBad code c := by
    constructor
    · rintro ⟨c, hc, hb⟩
      obtain ⟨k, hk, rfl⟩ := List.getElem_of_mem hc
      exact ⟨k, List.mem_range.mpr hk, _, List.getElem?_eq_getElem hk, hb⟩
    · rintro ⟨k, _, c, h1, h2⟩
      exact ⟨c, List.mem_of_getElem? h1, h2⟩
  rw [iff]
  refine ⟨fun h => by rw [A h]; rfl, fun h => ?_⟩
  obtain ⟨loc', e⟩ := B h
  rw [e]; rfl
end Mine
end
section
set_option tactic.hygienic false
set_option backward.defeqAttrib.useBackward true
set_option maxRecDepth 100000
set_option linter.unusedSimpArgs false
open PySem PySem.W PyProof.Rows PySem.Calls
namespace Mine

/-! # max_stack -/
structure WFs (ret : Int) (code : List Ins) (effs : List Eff) : Prop where
  len : effs.length = code.length
  wf : ∀ (i : Nat) (op : Int) (a : Arg), code[i]? = some (op, a) → ∃ e, effs[i]? = some e ∧ WF ret op a e
  tl : ∀ (i : Nat) (p : Ins), code[i]? = some p → (tgt p).length ≤ 100
  n : code.length ≤ 50
set_option tactic.hygienic true in
theorem eff_pos {ret op : Int} {a : Arg} {t g : Int} (w : WF ret op a (some (t, g))) : 0 ≤ g := by
  generalize he : some (t, g) = e at w
  cases w with
  | plain h => cases he; exact (plain_ok _ h).2.2.2.2.2.2
  | br h => cases he; exact (br_ok _ h).2.2.2.2.2
  | sw => cases he; decide
  | call ho h0 h8 =>
    rename_i mid
    unfold callEff at he
    split at he
    · cases he; decide
    · have : ∀ m t g, callT m = some (t, g) → 0 ≤ g := by
        intro m t g hm
        unfold callT at hm
        have key : ∀ m ∈ callsL.map (·.1), ∀ t g, tvT callsL m = some (.p t g) → 0 ≤ g := by
          intro m hm t g
          simp only [callsL, List.map_cons, List.map_nil, List.mem_cons, List.not_mem_nil, or_false] at hm
          rcases hm with rfl | rfl | rfl | rfl | rfl | rfl <;> (intro e; cases e; decide)
        by_cases hk : m ∈ callsL.map (·.1)
        · cases e : tvT callsL m with
          | none => rw [e] at hm; cases hm
          | some v => cases v with
            | i _ => rw [e] at hm; cases hm
            | p a b => rw [e] at hm; cases hm; exact key m hk _ _ e
        · simp only [callsL, List.map_cons, List.map_nil, List.mem_cons, List.not_mem_nil, or_false, not_or] at hk
          simp [callsL, tvT, Ne.symm hk.1, Ne.symm hk.2.1, Ne.symm hk.2.2.1, Ne.symm hk.2.2.2.1, Ne.symm hk.2.2.2.2.1, Ne.symm hk.2.2.2.2.2] at hm
      split at he
      · cases he
      · rename_i t' g' hc
        split at he
        · cases he; exact this _ _ _ hc
        · split at he
          · cases he; decide
          · cases he
  | ret => cases he; decide
  | bad => cases he

noncomputable def stepE (op : Int) (e : Eff) (d : Int) : Option Int := match e with
  | some (t, g) => if t > d then none else some (if op = 221 then 0 else d - t + g)
  | none => none
theorem depR_eq (e : Eff) (op d : Int) (σ : Sto) : depR e op d σ = match stepE op e d with
    | some b => .ok (.int b) σ
    | none => .exc := by
  cases e with
  | none => rfl
  | some p =>
    obtain ⟨t, g⟩ := p
    show (if t > d then R.exc else .ok (V.int (if op = 221 then 0 else d - t + g)) σ) = match (if t > d then none else some (if op = 221 then 0 else d - t + g)) with
      | some b => R.ok (V.int b) σ
      | none => .exc
    by_cases h : t > d
    · rw [if_pos h, if_pos h]
    · rw [if_neg h, if_neg h]
noncomputable def stepD (code : List Ins) (effs : List Eff) (i : Nat) (d : Int) : Option Int := match code[i]?, effs[i]? with
  | some p, some e => stepE p.1 e d
  | _, _ => none
theorem last_split {w : List Int} {i : Int} (h : w.getLast? = some i) : w = w.dropLast ++ [i] := by
  obtain ⟨ys, rfl⟩ := List.getLast?_eq_some_iff.mp h
  simp
noncomputable def succD (code : List Ins) (i : Nat) : Option (List Int) := match code[i]? with
  | some p => succs code i p
  | none => none
noncomputable def wloop (code : List Ins) (effs : List Eff) : Nat → List Int → List Int → Int → Option (Option Int)
  | 0, _, _, _ => none
  | k + 1, D, w, m => match w.getLast? with
    | none => some (some m)
    | some i => (match D[i.toNat]? with
      | none => some none
      | some d => (match stepD code effs i.toNat d with
        | none => some none
        | some b => (match succD code i.toNat with
          | none => some none
          | some gs => (match entrs D w.dropLast (gs.map fun g => (g, b)) with
            | none => some none
            | some (D', w') => wloop code effs k D' w' (max (max m d) b)))))
set_option tactic.hygienic true in
theorem stepD_pos {ret : Int} {code : List Ins} {effs : List Eff} (W : WFs ret code effs) {i : Nat} {d b : Int} (e : stepD code effs i d = some b) : 0 ≤ b := by
  unfold stepD at e
  split at e
  · rename_i p ef h1 h2
    obtain ⟨e', h3, h4⟩ := W.wf i p.1 p.2 h1
    rw [h2] at h3; cases h3
    unfold stepE at e
    split at e
    · rename_i t g
      split at e
      · cases e
      · cases e
        have := eff_pos h4
        split <;> (first | lia | omega)
    · cases e
  · cases e

noncomputable def entBody : DS := (sSeq (sExpr (dThen (dCons (dLoc 3) (dCons (dLoc 4) (dCons (dLoc 8) (dCons (dLoc 7) dNil)))) R_enter_depth)) <|
      sNil)
theorem ent_loop {n rd rw : Nat} {full : List V} {b : Int} (hn : n ≤ 100) (hne : rd ≠ rw) (hb : 0 ≤ b) : ∀ (gs : List Int) (D w : List Int) (loc : Nat → Option V) (σ : Sto), WInv n D w → loc 3 = some (.lst rd) → loc 4 = some (.lst rw) → loc 7 = some (.int b) →
    σ[rd]? = some (D.map V.int) → σ[rw]? = some (w.map V.int) →
    ∃ loc', (∀ j, j ≠ 8 → loc' j = loc j) ∧ forGo (.tup full) full (.one 8) entBody (gs.map V.int) ⟨loc, σ⟩ = match entrs D w (gs.map fun g => (g, b)) with
      | some (D', w') => .ok .next ⟨loc', upd2 σ rd rw D' w'⟩
      | none => .exc
  | [], D, w, loc, σ, I, l3, l4, l7, hd, hw => ⟨loc, fun _ _ => rfl, by
    rw [List.map_nil, forGo_nil rfl]
    show _ = RS.ok Fl.next ⟨loc, upd2 σ rd rw D w⟩
    rw [upd2_same hd hw]⟩
  | g :: gs, D, w, loc, σ, I, l3, l4, l7, hd, hw => by
    have dl : rd < σ.length := (List.getElem?_eq_some_iff.mp hd).1
    have wl : rw < σ.length := (List.getElem?_eq_some_iff.mp hw).1
    have e1 : R_enter_depth [.lst rd, .lst rw, .int g, .int b] σ = _ := r_enter hd hw hne (I.l1 hn) (I.l2 hn)
    rw [List.map_cons, forGo_one rfl, List.map_cons]
    unfold entrs
    cases q : entr D w g b with
    | none =>
      rw [q] at e1
      refine ⟨loc, fun _ _ => rfl, ?_⟩
      simp [entBody, upd_ne, l3, l4, l7, e1]
    | some p =>
      obtain ⟨D1, w1⟩ := p
      rw [q] at e1
      have I1 := (enter_inv I hb q).1
      obtain ⟨loc', a, e'⟩ := ent_loop hn hne hb gs D1 w1 (upd loc 8 (.int g)) (upd2 σ rd rw D1 w1) I1 (by simp [upd_ne, l3]) (by simp [upd_ne, l4]) (by simp [upd_ne, l7]) (upd2_d dl hne D1 w1) (upd2_w wl D1 w1)
      have st : entBody ⟨upd loc 8 (.int g), σ⟩ = .ok .next ⟨upd loc 8 (.int g), upd2 σ rd rw D1 w1⟩ := by simp [entBody, upd_ne, l3, l4, l7, e1]
      refine ⟨loc', fun j hj => (a j hj).trans (upd_ne _ _ hj), ?_⟩
      rw [st, RS.bind_ok, forK_next, e']
      dsimp only
      cases entrs D1 w1 (gs.map fun g => (g, b)) with
      | none => rfl
      | some p => dsimp only; rw [upd2_upd2 hne]

noncomputable def msTest : DB := (dThen (dThen2 (dThen (dCons (dLoc 4) dNil) oLen) (dInt 0) (oIntCmp fun a b => decide (b < a))) oBoolV)
noncomputable def msBody : DS := (sSeq (sAssign 6 (dMeth (dLoc 4) dNil oPop)) <|
    sSeq (sAssign 7 (dThen (dCons (dLoc 0) (dCons (dLoc 6) (dCons (dThen2 (dLoc 3) (dLoc 6) (oItem tv)) (dCons (dLoc 2) dNil)))) R_depth_after)) <|
    sSeq (sIf (dThen (dThen2 (dThen2 (dLoc 3) (dLoc 6) (oItem tv)) (dLoc 5) (oIntCmp fun a b => decide (b < a))) oBoolV)
      (sSeq (sAssign 5 (dThen2 (dLoc 3) (dLoc 6) (oItem tv))) <|
      sNil)
      (sNil)) <|
    sSeq (sIf (dThen (dThen2 (dLoc 7) (dLoc 5) (oIntCmp fun a b => decide (b < a))) oBoolV)
      (sSeq (sAssign 5 (dLoc 7)) <|
      sNil)
      (sNil)) <|
    sSeq (sFor (dThen (dCons (dLoc 0) (dCons (dLoc 6) dNil)) R_successors) (.one 8) entBody) <|
    sNil)

theorem ms_loop {ret : Int} {code : List Ins} {effs : List Eff} (W : WFs ret code effs) {rc rd rw : Nat} (hcd : rc ≠ rd) (hcw : rc ≠ rw) (hne : rd ≠ rw) : ∀ (k : Nat) (D w : List Int) (m : Int) (loc : Nat → Option V) (σ : Sto) (r : Option Int), wloop code effs k D w m = some r → WInv code.length D w →
    loc 0 = some (.lst rc) → loc 2 = some (.tel ret) → loc 3 = some (.lst rd) → loc 4 = some (.lst rw) → loc 5 = some (.int m) → σ[rc]? = some (code.map insV) → σ[rd]? = some (D.map V.int) → σ[rw]? = some (w.map V.int) →
    (r = none → whileGo msTest msBody k ⟨loc, σ⟩ = .exc) ∧ (∀ m', r = some m' → ∃ loc' σ', whileGo msTest msBody k ⟨loc, σ⟩ = .ok .next ⟨loc', σ'⟩ ∧ loc' 5 = some (.int m'))
  | 0, D, w, m, loc, σ, r, e, _, _, _, _, _, _, _, _, _ => by cases e
  | k + 1, D, w, m, loc, σ, r, e, I, l0, l2, l3, l4, l5, hc, hd, hw => by
    have lim : limN = 1000 := rfl
    have hn : code.length ≤ 100 := by have := W.n; (first | lia | omega)
    have dl : rd < σ.length := (List.getElem?_eq_some_iff.mp hd).1
    have wl : rw < σ.length := (List.getElem?_eq_some_iff.mp hw).1
    have ln : oLen [.lst rw] σ = .ok (.int w.length) σ := by rw [len_l rw _ σ hw (by rw [List.length_map]; have := I.l2 hn; (first | lia | omega)), List.length_map]
    unfold wloop at e
    cases hl : w.getLast? with
    | none =>
      rw [hl] at e
      have hw0 : w = [] := List.getLast?_eq_none_iff.mp hl
      cases e
      have tf : msTest ⟨loc, σ⟩ = .ok false σ := by simp [msTest, l4, ln, hw0]
      rw [wh_false tf]
      exact ⟨fun q => (by cases q), fun m' q => (by cases q; exact ⟨loc, σ, rfl, l5⟩)⟩
    | some i =>
      rw [hl] at e
      have hne0 : w ≠ [] := fun q => by rw [q] at hl; cases hl
      have hwe : w = w.dropLast ++ [i] := last_split hl
      obtain ⟨v, rfl, hvn, d, hdv, hd0⟩ := I.rng i (by rw [hwe]; simp)
      dsimp only at e
      rw [Int.toNat_natCast, hdv] at e
      dsimp only at e
      have hlen : w.length = w.dropLast.length + 1 := by have := congrArg List.length hwe; rw [List.length_append, List.length_singleton] at this; exact this
      have tt : msTest ⟨loc, σ⟩ = .ok true σ := by
        have : (0 : Nat) < w.length := by (first | lia | omega)
        simp [msTest, l4, ln, this]
      rw [wh_true tt]
      -- the pop
      have hwm : w.map V.int = w.dropLast.map V.int ++ [.int v] := by
        have := congrArg (List.map V.int) hwe
        rw [List.map_append] at this
        exact this
      have hw' : σ[rw]? = some ((w.dropLast.map V.int) ++ [.int v]) := by rw [hw, hwm]
      have hpop : oPop [.lst rw] σ = .ok (.int v) (σ.set rw (w.dropLast.map V.int)) := pop_l _ _ _ _ hw' (by rw [List.length_map]; have := I.l2 hn; (first | lia | omega))
      have mk : ∀ loc da k, methK da k loc (.lst rw) σ = (da ⟨loc, σ⟩).bind (methK2 k (.lst rw)) := fun loc da k => methK_ap _ _ _ _ _ _ hw
      generalize hσ : σ.set rw (w.dropLast.map V.int) = σ1 at hpop
      have hc1 : σ1[rc]? = some (code.map insV) := by rw [← hσ, List.getElem?_set_ne (Ne.symm hcw)]; exact hc
      have hd1 : σ1[rd]? = some (D.map V.int) := by rw [← hσ, List.getElem?_set_ne (Ne.symm hne)]; exact hd
      have hw1 : σ1[rw]? = some (w.dropLast.map V.int) := by rw [← hσ, List.getElem?_set_self wl]
      have I1 : WInv code.length D w.dropLast := ⟨I.len, by have := I.sum; (first | lia | omega), fun j hj => I.rng j (by rw [hwe]; exact List.mem_append_left _ hj)⟩
      have hcode : code[v]? = some code[v] := List.getElem?_eq_getElem hvn
      obtain ⟨ef, hef, wf⟩ := W.wf v code[v].1 code[v].2 hcode
      have itd : ∀ σ', σ'[rd]? = some (D.map V.int) → oItem tv (.lst rd) (.int v) σ' = .ok (.int d) σ' := fun σ' h => item_l rd v _ _ σ' (by (first | lia | omega)) h (get_map hdv)
      have dep := r_depth (d := d) hc1 hcode (by (first | lia | omega)) wf
      have suc : R_successors [.lst rc, .int v] σ1 = (match succs code v code[v] with
        | some o => R.ok (V.tup (o.map V.int)) (σ1 ++ [o.map V.int])
        | none => .exc) := r_succ hc1 hcode hn wf (W.tl v _ hcode)
      have hsd : stepD code effs v d = stepE code[v].1 ef d := by unfold stepD; rw [hcode, hef]
      rw [depR_eq] at dep
      rw [show (code.get ⟨v, hvn⟩).1 = code[v].1 from rfl] at dep
      have hsu : succD code v = succs code v code[v] := by unfold succD; rw [hcode]
      cases hst : stepD code effs v d with
      | none =>
        rw [hst] at e
        cases e
        have dx : R_depth_after [.lst rc, .int v, .int d, .tel ret] σ1 = .exc := by
          rw [dep, ← hsd, hst]
        refine ⟨fun _ => ?_, fun _ q => (by cases q)⟩
        simp [msBody, l4, mk, hpop, upd_ne, l0, l3, itd _ hd1, l2, dx]
      | some b =>
        rw [hst] at e
        dsimp only at e
        have dx : R_depth_after [.lst rc, .int v, .int d, .tel ret] σ1 = .ok (.int b) σ1 := by
          rw [dep, ← hsd, hst]
        have hb := stepD_pos W hst
        -- up to the loop over the goals
        obtain ⟨loc2, m0, m2, m3, m4, m5, m7, pre⟩ : ∃ loc2 : Nat → Option V, loc2 0 = some (.lst rc) ∧ loc2 2 = some (.tel ret) ∧ loc2 3 = some (.lst rd) ∧ loc2 4 = some (.lst rw) ∧ loc2 5 = some (.int (max (max m d) b)) ∧ loc2 7 = some (.int b) ∧
            msBody ⟨loc, σ⟩ = ((R_successors [.lst rc, .int v] σ1).bindS (forS (.one 8) entBody loc2)).bind (seqK sNil) := by
          by_cases c1 : m < d
          · by_cases c2 : d < b
            · refine ⟨upd (upd (upd (upd loc 6 (.int v)) 7 (.int b)) 5 (.int d)) 5 (.int b), by simp [upd_ne, l0], by simp [upd_ne, l2], by simp [upd_ne, l3], by simp [upd_ne, l4], by simp; (first | lia | omega), by simp [upd_ne], ?_⟩
              simp [msBody, l4, mk, hpop, upd_ne, l0, l3, itd _ hd1, l2, dx, l5, c1, c2]
            · refine ⟨upd (upd (upd loc 6 (.int v)) 7 (.int b)) 5 (.int d), by simp [upd_ne, l0], by simp [upd_ne, l2], by simp [upd_ne, l3], by simp [upd_ne, l4], by simp; (first | lia | omega), by simp [upd_ne], ?_⟩
              simp [msBody, l4, mk, hpop, upd_ne, l0, l3, itd _ hd1, l2, dx, l5, c1, c2]
          · by_cases c2 : m < b
            · refine ⟨upd (upd (upd loc 6 (.int v)) 7 (.int b)) 5 (.int b), by simp [upd_ne, l0], by simp [upd_ne, l2], by simp [upd_ne, l3], by simp [upd_ne, l4], by simp; (first | lia | omega), by simp [upd_ne], ?_⟩
              simp [msBody, l4, mk, hpop, upd_ne, l0, l3, itd _ hd1, l2, dx, l5, c1, c2]
            · refine ⟨upd (upd loc 6 (.int v)) 7 (.int b), by simp [upd_ne, l0], by simp [upd_ne, l2], by simp [upd_ne, l3], by simp [upd_ne, l4], by simp [upd_ne, l5]; (first | lia | omega), by simp [upd_ne], ?_⟩
              simp [msBody, l4, mk, hpop, upd_ne, l0, l3, itd _ hd1, l2, dx, l5, c1, c2]
        rw [pre]
        rw [hsu] at e
        cases hs : succs code v code[v] with
        | none =>
          rw [hs] at e
          cases e
          have suc' : R_successors [.lst rc, .int v] σ1 = .exc := by rw [suc, hs]
          exact ⟨fun _ => by rw [suc']; rfl, fun _ q => (by cases q)⟩
        | some gs =>
          rw [hs] at e
          dsimp only at e
          have suc' : R_successors [.lst rc, .int v] σ1 = .ok (.tup (gs.map V.int)) (σ1 ++ [gs.map V.int]) := by rw [suc, hs]
          obtain ⟨loc3, agree, lp⟩ := ent_loop (full := gs.map V.int) hn hne hb gs D w.dropLast loc2 (σ1 ++ [gs.map V.int]) I1 m3 m4 m7 (get_pre _ hd1) (get_pre _ hw1)
          rw [suc', R.bindS_ok, forS_tup, lp]
          cases he : entrs D w.dropLast (gs.map fun g => (g, b)) with
          | none =>
            rw [he] at e
            cases e
            exact ⟨fun _ => rfl, fun _ q => (by cases q)⟩
          | some p =>
            obtain ⟨D', w'⟩ := p
            rw [he] at e
            dsimp only at e ⊢
            have I2 := entrs_inv _ I1 (fun p hp => by obtain ⟨g, _, rfl⟩ := List.mem_map.mp hp; exact hb) he
            have dl2 : rd < (σ1 ++ [gs.map V.int]).length := (List.getElem?_eq_some_iff.mp (get_pre [gs.map V.int] hd1)).1
            have wl2 : rw < (σ1 ++ [gs.map V.int]).length := (List.getElem?_eq_some_iff.mp (get_pre [gs.map V.int] hw1)).1
            rw [RS.bind_ok, seqK_next, nil_ap, RS.bind_ok, whK_next]
            exact ms_loop W hcd hcw hne k D' w' _ loc3 _ r e I2 ((agree 0 (by decide)).trans m0) ((agree 2 (by decide)).trans m2) ((agree 3 (by decide)).trans m3) ((agree 4 (by decide)).trans m4) ((agree 5 (by decide)).trans m5)
              ((upd2_o hcd hcw D' w').trans (get_pre _ hc1)) (upd2_d dl2 hne D' w') (upd2_w wl2 D' w')
end Mine
end
section
set_option tactic.hygienic false
set_option backward.defeqAttrib.useBackward true
set_option maxRecDepth 100000
set_option linter.unusedSimpArgs false
open PySem PySem.W PyProof.Rows PySem.Calls
namespace Mine

noncomputable def msRun (code : List Ins) (effs : List Eff) (cs : List Cl) : Option (Option Int) := match entrs (List.replicate code.length (-1)) [] (startsOf code.length cs) with
  | none => some none
  | some (D, w) => wloop code effs 100 D w 0
theorem flat_rep (n : Nat) (x : V) : (List.replicate n [x]).flatten = List.replicate n x := by
  induction n with
  | zero => rfl
  | succ n ih => rw [List.replicate_succ, List.flatten_cons, ih, List.replicate_succ]; rfl
theorem mul_l (r n : Nat) (x : V) (σ : Sto) (h : σ[r]? = some [x]) (hn : n ≤ 1000) : oMul (.lst r) (.int n) σ = .ok (.lst σ.length) (σ ++ [List.replicate n x]) := by
  show (match σ[r]? with
    | some xs => if 0 ≤ (n : Int) ∧ (n : Int) ≤ 1000 ∧ xs.length = 1 then R.ok (V.lst σ.length) (σ ++ [(List.replicate (n : Int).toNat xs).flatten]) else .stuck
    | _ => .stuck) = _
  rw [h]
  dsimp only
  rw [if_pos ⟨by (first | lia | omega), by (first | lia | omega), rfl⟩, Int.toNat_natCast, flat_rep]
theorem winv0 (n : Nat) : WInv n (List.replicate n (-1)) [] := by
  refine ⟨by simp, ?_, fun i h => nomatch h⟩
  unfold neg
  rw [List.countP_replicate]
  simp

theorem r_max {ret : Int} {code : List Ins} {effs : List Eff} {cs : List Cl} {rc rk : Nat} {σ : Sto} (W : WFs ret code effs) (hc : σ[rc]? = some (code.map insV)) (hk : σ[rk]? = some (cs.map clV)) (hcl : cs.length ≤ 100) :
    ((∃ c ∈ cs, clBad code c) → R_max_stack [.lst rc, .lst rk, .tel ret] σ = .exc) ∧
    ((¬ ∃ c ∈ cs, clBad code c) → ∀ r, msRun code effs cs = some r → (r = none → R_max_stack [.lst rc, .lst rk, .tel ret] σ = .exc) ∧ (∀ m, r = some m → ∃ σ', R_max_stack [.lst rc, .lst rk, .tel ret] σ = .ok (.int m) σ')) := by
  have lim : limN = 1000 := rfl
  have hn : code.length ≤ 100 := by have := W.n; (first | lia | omega)
  obtain ⟨A, B⟩ := r_check hc hn hk hcl
  have D1 : R_max_stack = runFn 3 (sSeq (sExpr (dThen (dCons (dLoc 0) (dCons (dLoc 1) dNil)) R_check_edges)) <|
    sSeq (sAssign 3 (dThen2 (dThen (dCons (dThen (dInt 1) oNeg) dNil) oLst) (dThen (dCons (dLoc 0) dNil) oLen) oMul)) <|
    sSeq (sAssign 4 (dThen dNil oLst)) <|
    sSeq (sExpr (dThen (dCons (dLoc 0) (dCons (dLoc 1) (dCons (dLoc 3) (dCons (dLoc 4) dNil)))) R_start_depths)) <|
    sSeq (sAssign 5 (dInt 0)) <|
    sSeq (sWhile 100 msTest msBody) <|
    sSeq (sReturn (dLoc 5)) <|
    sNil) := rfl
  rw [D1]
  refine ⟨fun h => by simp [A h], fun h r hr => ?_⟩
  have chk := B h
  have rcl : rc < σ.length := (List.getElem?_eq_some_iff.mp hc).1
  have rkl : rk < σ.length := (List.getElem?_eq_some_iff.mp hk).1
  have s1 : oLst [.int (-1)] σ = .ok (.lst σ.length) (σ ++ [[.int (-1)]]) := lst_ap _ _ (by simp [limN])
  have ln : oLen [.lst rc] (σ ++ [[.int (-1)]]) = .ok (.int code.length) (σ ++ [[.int (-1)]]) := by rw [len_l rc _ _ (get_pre _ hc) (by rw [List.length_map]; (first | lia | omega)), List.length_map]
  have mu : oMul (.lst σ.length) (.int code.length) (σ ++ [[.int (-1)]]) = .ok (.lst (σ.length + 1)) (σ ++ [[.int (-1)]] ++ [List.replicate code.length (.int (-1))]) := by
    rw [mul_l _ _ _ _ (get_last _ _) (by (first | lia | omega))]; simp
  have s2 : oLst [] (σ ++ [[.int (-1)]] ++ [List.replicate code.length (.int (-1))]) = .ok (.lst (σ.length + 2)) (σ ++ [[.int (-1)]] ++ [List.replicate code.length (.int (-1))] ++ [[]]) := by
    rw [lst_ap _ _ (by simp [limN])]; simp
  generalize hσ : σ ++ [[.int (-1)]] ++ [List.replicate code.length (.int (-1))] ++ [[]] = σ2 at s2
  generalize σ ++ [[.int (-1)]] ++ [List.replicate code.length (.int (-1))] = σb at mu s2
  have hc2 : σ2[rc]? = some (code.map insV) := by rw [← hσ]; exact get_pre _ (get_pre _ (get_pre _ hc))
  have hk2 : σ2[rk]? = some (cs.map clV) := by rw [← hσ]; exact get_pre _ (get_pre _ (get_pre _ hk))
  have hd2 : σ2[σ.length + 1]? = some ((List.replicate code.length (-1 : Int)).map V.int) := by
    rw [← hσ]
    refine get_pre _ ?_
    have := get_last (σ ++ [[V.int (-1)]]) (List.replicate code.length (V.int (-1)))
    simpa using this
  have hw2 : σ2[σ.length + 2]? = some (([] : List Int).map V.int) := by
    rw [← hσ]
    have := get_last (σ ++ [[V.int (-1)]] ++ [List.replicate code.length (V.int (-1))]) ([] : List V)
    simpa using this
  have hl2 : σ2.length = σ.length + 3 := by rw [← hσ]; simp
  have st := r_start rfl hn hc2 hk2 hd2 hw2 (by (first | lia | omega)) (by (first | lia | omega)) (by (first | lia | omega)) (winv0 code.length)
  unfold msRun at hr
  cases he : entrs (List.replicate code.length (-1)) [] (startsOf code.length cs) with
  | none =>
    rw [he] at hr st
    cases hr
    refine ⟨fun _ => ?_, fun _ q => by cases q⟩
    simp [chk, s1, upd_ne, ln, mu, s2, st]
  | some p =>
    obtain ⟨D, w⟩ := p
    rw [he] at hr st
    dsimp only at hr st
    have I := entrs_inv _ (winv0 code.length) (fun p hp => by
      unfold startsOf at hp
      rcases List.mem_append.mp hp with hp | hp
      · split at hp
        · rw [List.mem_singleton] at hp; subst hp; exact Int.le_refl 0
        · cases hp
      · exact clStarts_pos p hp) he
    have dl : σ.length + 1 < σ2.length := by (first | lia | omega)
    have wl : σ.length + 2 < σ2.length := by (first | lia | omega)
    have hwhile : ∀ loc, sWhile 100 msTest msBody loc = whileGo msTest msBody 100 loc := fun _ => rfl
    obtain ⟨X, Y⟩ := ms_loop W (rc := rc) (rd := σ.length + 1) (rw := σ.length + 2) (by (first | lia | omega)) (by (first | lia | omega)) (by (first | lia | omega)) 100 D w 0 (upd (upd (upd (argL [.lst rc, .lst rk, .tel ret]) 3 (.lst (σ.length + 1))) 4 (.lst (σ.length + 2))) 5 (.int 0)) (upd2 σ2 (σ.length + 1) (σ.length + 2) D w) r hr I
      (by simp [upd_ne]) (by simp [upd_ne]) (by simp [upd_ne]) (by simp [upd_ne]) (by simp) ((upd2_o (by (first | lia | omega)) (by (first | lia | omega)) D w).trans hc2) (upd2_d dl (by (first | lia | omega)) D w) (upd2_w wl D w)
    refine ⟨fun q => ?_, fun m q => ?_⟩
    · simp [chk, s1, upd_ne, ln, mu, s2, st, hwhile, X q]
    · obtain ⟨loc', σ', e, l5⟩ := Y m q
      refine ⟨σ', ?_⟩
      simp [chk, s1, upd_ne, ln, mu, s2, st, hwhile, e, l5]
end Mine
end
section
set_option tactic.hygienic false
set_option backward.defeqAttrib.useBackward true
set_option maxRecDepth 100000
set_option linter.unusedSimpArgs false
open PySem PySem.W PyProof.Rows PySem.Calls
namespace Mine

noncomputable def behindOf (op : Int) (e : Eff) (d : Int) : Int := match e with
  | some (t, g) => if op = 221 then 0 else d - t + g
  | none => 0
theorem is_eff (e : Eff) (σ : Sto) : oIs (effV e) .none σ = .ok (.bool e.isNone) σ := by
  rcases e with _ | ⟨t, g⟩ <;> rfl
theorem isNot_eff (e : Eff) (σ : Sto) : oIsNot (effV e) .none σ = .ok (.bool e.isSome) σ := by
  rcases e with _ | ⟨t, g⟩ <;> rfl
theorem eff0 (t g : Int) (σ : Sto) : oItem tv (effV (some (t, g))) (.int 0) σ = .ok (.int t) σ := rfl
theorem eff1 (t g : Int) (σ : Sto) : oItem tv (effV (some (t, g))) (.int 1) σ = .ok (.int g) σ := rfl
theorem r_behind {op d : Int} {e : Eff} {σ : Sto} : R__law_behind [.int op, effV e, .int d] σ = .ok (.int (behindOf op e d)) σ := by
  by_cases h : op = 221
  · subst h
    rcases e with _ | ⟨t, g⟩ <;> simp [R__law_behind, D__law_behind, behindOf]
  · rcases e with _ | ⟨t, g⟩
    · simp [R__law_behind, D__law_behind, behindOf, h, is_eff]
    · simp [R__law_behind, D__law_behind, behindOf, h, is_eff, eff0, eff1]

noncomputable def goalsL (code : List Ins) (i : Nat) (p : Ins) : List Int := out0 code.length i p.1 ++ tgt p
theorem isBr_iff {op : Int} : isBr op ↔ (56 ≤ op ∧ op < 69) ∨ op = 221 := Iff.rfl

theorem chainT {σ : Sto} {loc : Nat → Option V} {j : Nat} {op : Int} (h : loc j = some (.int op)) : dOr (dChain (dInt 56) (dLoc j) (dInt 69) (oIntCmp fun a b => decide (a ≤ b)) (oIntCmp fun a b => decide (a < b))) (dOr (dThen (dThen2 (dLoc j) (dInt 221) oEq) oBoolV) dFalse) ⟨loc, σ⟩ = .ok (decide (isBr op)) σ := by
  have c1 : ∀ loc, chK1 (dInt 69) (oIntCmp fun a b => decide (a ≤ b)) (oIntCmp fun a b => decide (a < b)) loc (.int 56) (.int op) σ = _ := fun loc => chK1_ap (t := decide (56 ≤ op)) _ _ _ _ _ _ _ rfl
  unfold isBr
  by_cases a : 56 ≤ op
  · by_cases b : op < 69
    · simp [h, c1, a, b]
    · by_cases c : op = 221
      · subst c
        simp [h, c1]
      · simp [h, c1, a, b, c]
  · by_cases c : op = 221
    · (first | lia | omega)
    · simp [h, c1, a, c]
theorem list_t (xs : List V) (σ : Sto) (h : xs.length ≤ limN) : oList [.tup xs] σ = .ok (.lst σ.length) (σ ++ [xs]) := if_pos h
theorem add_ll (r q : Nat) (xs ys : List V) (σ : Sto) (h1 : σ[r]? = some xs) (h2 : σ[q]? = some ys) (h : xs.length + ys.length ≤ limN) : oAdd (.lst r) (.lst q) σ = .ok (.lst σ.length) (σ ++ [xs ++ ys]) := by
  show (match σ[r]?, σ[q]? with
    | some xs, some ys => if xs.length + ys.length ≤ limN then R.ok (V.lst σ.length) (σ ++ [xs ++ ys]) else .stuck
    | _, _ => .stuck) = _
  rw [h1, h2]; exact if_pos h

theorem r_goals {ret : Int} {code : List Ins} {rc : Nat} {σ : Sto} {i : Nat} {op : Int} {a : Arg} {e : Eff} (hc : σ[rc]? = some (code.map insV)) (hi : code[i]? = some (op, a)) (hn : code.length ≤ 100) (w : WF ret op a e) (ht : (tgt (op, a)).length ≤ 100) :
    ∃ r ex, R__law_goals [.lst rc, .int i] σ = .ok (.lst r) (σ ++ ex) ∧ σ.length ≤ r ∧ (σ ++ ex)[r]? = some ((goalsL code i (op, a)).map V.int) := by
  have hil : i < code.length := (List.getElem?_eq_some_iff.mp hi).1
  have lim : limN = 1000 := rfl
  have ln : ∀ σ', σ'[rc]? = some (code.map insV) → oLen [.lst rc] σ' = .ok (.int code.length) σ' := fun σ' h => by
    rw [len_l rc _ σ' h (by rw [List.length_map]; (first | lia | omega)), List.length_map]
  have it : oItem tv (.lst rc) (.int i) σ = .ok (.tup [.int op, a.v]) σ := item_l rc i _ _ σ (by (first | lia | omega)) hc (get_map hi)
  have nl : oLst [] σ = .ok (.lst σ.length) (σ ++ [[]]) := lst_ap _ _ (by simp [limN])
  have hc' : (σ ++ [[]])[rc]? = some (code.map insV) := get_pre _ hc
  have mk : ∀ (xs : List V) loc da k, methK da k loc (.lst σ.length) (σ ++ [xs]) = (da ⟨loc, σ ++ [xs]⟩).bind (methK2 k (.lst σ.length)) := fun xs loc da k => methK_ap _ _ _ _ _ _ (get_last _ _)
  have ap : ∀ (xs : List V) (x : V), xs.length ≤ 2 → oAppend [.lst σ.length, x] (σ ++ [xs]) = .ok .none (σ ++ [xs ++ [x]]) := fun xs x h => by
    rw [append_l _ _ _ _ (get_last _ _) (by (first | lia | omega)), set_last]
  have h69 := op69 w
  have ve : ∀ σ, oNotIn tv (.int op) vENDS σ = .ok (.bool (!endsL.contains op)) σ := fun _ => notIn_ints _ _ _
  -- up to the choice
  let X := (out0 code.length i op).map V.int
  have hX : X.length ≤ 1 := by show ((out0 code.length i op).map V.int).length ≤ 1; rw [List.length_map]; unfold out0; split <;> simp
  obtain ⟨loc, l2, l3, l4, pre⟩ : ∃ loc : Nat → Option V, loc 2 = some (.int op) ∧ loc 3 = some a.v ∧ loc 4 = some (.lst σ.length) ∧
      R__law_goals [.lst rc, .int i] σ = (sSeq (sIf (dThen (dThen2 (dLoc 2) (dInt 69) oEq) oBoolV)
    (sSeq (sReturn (dThen2 (dLoc 4) (dThen (dCons (dLoc 3) dNil) oList) oAdd)) <|
    sNil)
    (sNil)) (
  sSeq (sIf (dOr (dChain (dInt 56) (dLoc 2) (dInt 69) (oIntCmp fun a b => decide (a ≤ b)) (oIntCmp fun a b => decide (a < b))) (dOr (dThen (dThen2 (dLoc 2) (dInt 221) oEq) oBoolV) dFalse))
    (sSeq (sExpr (dMeth (dLoc 4) (dCons (dLoc 3) dNil) oAppend)) <|
    sNil)
    (sNil)) <|
  sSeq (sReturn (dLoc 4)) <|
  sNil) ⟨loc, σ ++ [X]⟩).fin := by
    refine ⟨upd (upd (upd (argL [.lst rc, .int i]) 2 (.int op)) 3 a.v) 4 (.lst σ.length), by simp [upd_ne], by simp [upd_ne], by simp, ?_⟩
    show _ = (sSeq _ _ ⟨_, σ ++ [(out0 code.length i op).map V.int]⟩).fin
    unfold out0
    by_cases he : endsL.contains op = true
    · rw [if_neg (fun q => q.1 he)]
      simp [R__law_goals, D__law_goals, it, nl, upd_ne, ve, he, -List.contains_eq_mem]
    · have he' : endsL.contains op = false := by simpa using he
      by_cases hlt : i + 1 < code.length
      · rw [if_pos ⟨(fun q => by rw [he'] at q; cases q), hlt⟩]
        have hlt' : (i : Int) + 1 < (code.length : Int) := by (first | lia | omega)
        have ap' := ap [] (.int ((i : Int) + 1)) (by simp)
        simp only [List.nil_append] at ap'
        simp [R__law_goals, D__law_goals, it, nl, upd_ne, ve, he', ln _ hc', hlt', mk, ap', -List.contains_eq_mem]
      · rw [if_neg (fun q => hlt q.2)]
        have hlt' : ¬ (i : Int) + 1 < (code.length : Int) := by (first | lia | omega)
        simp [R__law_goals, D__law_goals, it, nl, upd_ne, ve, he', ln _ hc', hlt', -List.contains_eq_mem]
  rw [pre]
  cases a with
  | sw gs =>
    have hop : op = 69 := h69.mpr ⟨gs, rfl⟩
    subst hop
    have hgl : gs.length ≤ 100 := ht
    have hli : oList [(Arg.sw gs).v] (σ ++ [X]) = .ok (.lst (σ ++ [X]).length) (σ ++ [X] ++ [gs.map V.int]) := list_t _ _ (by rw [List.length_map]; (first | lia | omega))
    have had : oAdd (.lst σ.length) (.lst (σ ++ [X]).length) (σ ++ [X] ++ [gs.map V.int]) = .ok (.lst (σ ++ [X] ++ [gs.map V.int]).length) (σ ++ [X] ++ [gs.map V.int] ++ [X ++ gs.map V.int]) :=
      add_ll _ _ _ _ _ (get_pre _ (get_last _ _)) (get_last _ _) (by have hg : (gs.map V.int).length = gs.length := List.length_map _; rw [hg]; (first | lia | omega))
    refine ⟨(σ ++ [X] ++ [gs.map V.int]).length, [X, gs.map V.int, X ++ gs.map V.int], ?_, by simp, ?_⟩
    · generalize hz : σ ++ [X] = z at hli had
      generalize hy : z ++ [gs.map V.int] = y at hli had
      have : σ ++ [X, gs.map V.int, X ++ gs.map V.int] = y ++ [X ++ gs.map V.int] := by rw [← hy, ← hz]; simp
      rw [this]
      simp [l2, l3, l4, hli, had]
    · have : σ ++ [X, gs.map V.int, X ++ gs.map V.int] = (σ ++ [X] ++ [gs.map V.int]) ++ [X ++ gs.map V.int] := by simp
      rw [this, get_last]
      simp [goalsL, tgt, X]
  | n g =>
    have n69 : ¬ op = 69 := fun q => by obtain ⟨_, q⟩ := h69.mp q; cases q
    have cT := chainT (σ := σ ++ [X]) l2
    by_cases hb : isBr op
    · refine ⟨σ.length, [X ++ [.int g]], ?_, Nat.le_refl _, ?_⟩
      · have apX := ap X (.int g) (by (first | lia | omega))
        have l3' : loc 3 = some (.int g) := l3
        rw [seq_ap, if_ap]
        simp only [then_ap, then2_ap, loc_ap, l2, locK_some, R.bind_ok, k2_ap, int_ap, eq_ii, boolV_b, R.bindS_ok, ifK_ap]
        rw [if_neg (by simpa using n69), nil_ap, RS.bind_ok, seqK_next, seq_ap, if_ap, cT]
        simp [hb, l4, l3', mk, apX]
      · rw [get_last]
        simp [goalsL, tgt, X, hb]
    · refine ⟨σ.length, [X], ?_, Nat.le_refl _, ?_⟩
      · rw [seq_ap, if_ap]
        simp only [then_ap, then2_ap, loc_ap, l2, locK_some, R.bind_ok, k2_ap, int_ap, eq_ii, boolV_b, R.bindS_ok, ifK_ap]
        rw [if_neg (by simpa using n69), nil_ap, RS.bind_ok, seqK_next, seq_ap, if_ap, cT]
        simp [hb, l4]
      · rw [get_last]
        simp [goalsL, tgt, X, hb]
  | m mid =>
    have n69 : ¬ op = 69 := fun q => by obtain ⟨_, q⟩ := h69.mp q; cases q
    have hb := notBr_m w
    have cT := chainT (σ := σ ++ [X]) l2
    refine ⟨σ.length, [X], ?_, Nat.le_refl _, ?_⟩
    · rw [seq_ap, if_ap]
      simp only [then_ap, then2_ap, loc_ap, l2, locK_some, R.bind_ok, k2_ap, int_ap, eq_ii, boolV_b, R.bindS_ok, ifK_ap]
      rw [if_neg (by simpa using n69), nil_ap, RS.bind_ok, seqK_next, seq_ap, if_ap, cT]
      simp [hb, l4]
    · rw [get_last]
      simp [goalsL, tgt, X]
end Mine
end
section
set_option tactic.hygienic false
set_option backward.defeqAttrib.useBackward true
set_option maxRecDepth 100000
set_option linter.unusedSimpArgs false
open PySem PySem.W PyProof.Rows PySem.Calls
namespace Mine

noncomputable def Ext (σ σ' : Sto) : Prop := ∃ ex, σ' = σ ++ ex
theorem Ext.refl (σ : Sto) : Ext σ σ := ⟨[], by simp⟩
theorem Ext.trans {a b c : Sto} (x : Ext a b) (y : Ext b c) : Ext a c := by
  obtain ⟨e, rfl⟩ := x
  obtain ⟨f, rfl⟩ := y
  exact ⟨e ++ f, by simp⟩
theorem Ext.add (σ : Sto) (x : List (List V)) : Ext σ (σ ++ x) := ⟨x, rfl⟩
theorem Ext.get {σ σ' : Sto} (x : Ext σ σ') {r : Nat} {xs : List V} (h : σ[r]? = some xs) : σ'[r]? = some xs := by
  obtain ⟨e, rfl⟩ := x
  exact get_pre _ h
theorem Ext.len {σ σ' : Sto} (x : Ext σ σ') : σ.length ≤ σ'.length := by
  obtain ⟨e, rfl⟩ := x
  simp

noncomputable def clBadL (code : List Ins) (c : Cl) : Prop := (code.length : Int) ≤ c.t0 ∨ (code.length : Int) ≤ c.h0 ∨ (code.length : Int) ≤ c.ex ∨ ∃ e ∈ edges c, edgeBad code e
structure ClWF (c : Cl) : Prop where
  ex : c.s ≠ 1 → c.ex = 0
  t0 : 0 ≤ c.t0
theorem clBad_iff {code : List Ins} {c : Cl} (w : ClWF c) : clBadL code c ↔ clBad code c := by
  unfold clBadL clBad
  by_cases h : c.s = 1
  · simp [h]
  · have := w.ex h
    have := w.t0
    constructor
    · rintro (q | q | q | q)
      · exact .inl q
      · exact .inr (.inl q)
      · exact .inl (by (first | lia | omega))
      · exact .inr (.inr (.inr q))
    · rintro (q | q | q | q)
      · exact .inl q
      · exact .inr (.inl q)
      · exact absurd q.1 h
      · exact .inr (.inr (.inr q))

noncomputable def eg1 : DS := (sSeq (sIf (dThen (dThen2 (dLoc 9) (dThen (dCons (dLoc 0) dNil) oLen) (oIntCmp fun a b => decide (b ≤ a))) oBoolV)
        (sSeq (sReturn (dBool false)) <|
        sNil)
        (sNil)) <|
      sNil)
noncomputable def eg2T : DB := dOr (dThen (dThen2 (dLoc 9) (dInt 0) (oIntCmp fun a b => decide (a < b))) oBoolV) (dOr (dThen (dThen2 (dLoc 9) (dThen (dCons (dLoc 0) dNil) oLen) (oIntCmp fun a b => decide (b < a))) oBoolV) (dOr (dAnd (dThen (dThen2 (dLoc 9) (dInt 0) (oIntCmp fun a b => decide (b < a))) oBoolV) (dAnd (dThen (dThen2 (dThen2 (dThen2 (dLoc 0) (dThen2 (dLoc 9) (dInt 1) oSub) (oItem tv)) (dInt 0) (oItem tv)) (dThen (dCons (dInt 65046) (dCons (dInt 65054) dNil)) oTup) (oIn tv)) oBoolV) dTrue)) dFalse))
noncomputable def eg2 : DS := (sSeq (sIf eg2T
        (sSeq (sReturn (dBool false)) <|
        sNil)
        (sNil)) <|
      sNil)
noncomputable def egBody : DS := (sSeq (sAssign 8 (dThen2 (dThen (dCons (dLoc 3) (dCons (dLoc 4) (dCons (dLoc 5) (dCons (dLoc 6) dNil)))) oLst) (dIf (dThen (dThen2 (dLoc 2) (dInt 1) oEq) oBoolV) (dThen (dCons (dLoc 7) dNil) oLst) (dThen dNil oLst)) oAdd)) <|
    sSeq (sFor (dThen (dCons (dLoc 3) (dCons (dLoc 5) (dCons (dLoc 7) dNil))) oTup) (.one 9) eg1) <|
    sSeq (sFor (dLoc 8) (.one 9) eg2) <|
    sNil)
theorem eg_len {code : List Ins} {rc : Nat} {σ : Sto} (hc : σ[rc]? = some (code.map insV)) (hn : code.length ≤ 100) : oLen [.lst rc] σ = .ok (.int code.length) σ := by
  have lim : limN = 1000 := rfl
  rw [len_l rc _ σ hc (by rw [List.length_map]; (first | lia | omega)), List.length_map]
theorem eg1_loop {code : List Ins} {rc : Nat} {σ : Sto} {full : List V} (hc : σ[rc]? = some (code.map insV)) (hn : code.length ≤ 100) : ∀ (es : List Int) (loc : Nat → Option V), loc 0 = some (.lst rc) →
    ((∃ e ∈ es, (code.length : Int) ≤ e) → ∃ loc', forGo (.tup full) full (.one 9) eg1 (es.map V.int) ⟨loc, σ⟩ = .ok (.ret (.bool false)) ⟨loc', σ⟩) ∧
    ((¬ ∃ e ∈ es, (code.length : Int) ≤ e) → ∃ loc', (∀ j, j ≠ 9 → loc' j = loc j) ∧ forGo (.tup full) full (.one 9) eg1 (es.map V.int) ⟨loc, σ⟩ = .ok .next ⟨loc', σ⟩)
  | [], loc, l0 => ⟨fun ⟨_, h, _⟩ => (nomatch h), fun _ => ⟨loc, fun _ _ => rfl, forGo_nil rfl⟩⟩
  | e :: es, loc, l0 => by
    have ln := eg_len hc hn
    rw [List.map_cons, forGo_one rfl]
    by_cases h : (code.length : Int) ≤ e
    · refine ⟨fun _ => ⟨upd loc 9 (.int e), by simp [eg1, upd_ne, l0, ln, h]⟩, fun q => absurd ⟨e, .head _, h⟩ q⟩
    · have st : eg1 ⟨upd loc 9 (.int e), σ⟩ = .ok .next ⟨upd loc 9 (.int e), σ⟩ := by simp [eg1, upd_ne, l0, ln, h]
      obtain ⟨A, B⟩ := eg1_loop (full := full) hc hn es (upd loc 9 (.int e)) (by simp [upd_ne, l0])
      rw [st, RS.bind_ok, forK_next]
      refine ⟨fun ⟨x, hx, hbx⟩ => ?_, fun q => ?_⟩
      · rcases List.mem_cons.mp hx with rfl | hx
        · exact absurd hbx h
        · exact A ⟨x, hx, hbx⟩
      · obtain ⟨loc', h1, h2⟩ := B fun ⟨x, hx, hbx⟩ => q ⟨x, .tail _ hx, hbx⟩
        exact ⟨loc', fun j hj => (h1 j hj).trans (upd_ne _ _ hj), h2⟩
theorem eg2_test {code : List Ins} {rc : Nat} {σ : Sto} {e : Int} {loc : Nat → Option V} (hc : σ[rc]? = some (code.map insV)) (hn : code.length ≤ 100) (l0 : loc 0 = some (.lst rc)) (l9 : loc 9 = some (.int e)) :
    ∃ b, eg2T ⟨loc, σ⟩ = .ok b σ ∧ (b = true ↔ edgeBad code e) := by
  have ln := eg_len hc hn
  unfold edgeBad
  by_cases h0 : e < 0
  · exact ⟨true, by simp [eg2T, l9, h0], by simp [h0]⟩
  by_cases hl : (code.length : Int) < e
  · exact ⟨true, by simp [eg2T, l9, h0, l0, ln, hl], by simp [hl]⟩
  by_cases hp : 0 < e
  · obtain ⟨k, hk⟩ : ∃ k : Nat, e - 1 = k := ⟨(e - 1).toNat, by (first | lia | omega)⟩
    have hkl : k < code.length := by (first | lia | omega)
    have hg : code[k]? = some code[k] := List.getElem?_eq_getElem hkl
    have it : oItem tv (.lst rc) (.int k) σ = .ok (insV code[k]) σ := item_l rc k _ _ σ (by (first | lia | omega)) hc (get_map hg)
    have i0 : oItem tv (insV code[k]) (.int 0) σ = .ok (.int code[k].1) σ := rfl
    have t2 : oTup [.int 65046, .int 65054] σ = .ok (.tup [.int 65046, .int 65054]) σ := tup_ap _ _ (by simp [limN])
    have oi : oIn tv (.int code[k].1) (.tup [.int 65046, .int 65054]) σ = .ok (.bool (([65046, 65054] : List Int).contains code[k].1)) σ := in_ints _ [65046, 65054] _
    refine ⟨decide (code[k].1 = 65046 ∨ code[k].1 = 65054), ?_, ?_⟩
    · by_cases a : code[k].1 = 65046
      · rw [a] at oi
        simp [eg2T, l9, h0, l0, ln, hl, hp, hk, it, i0, t2, oi, a]
      · by_cases b : code[k].1 = 65054
        · rw [b] at oi
          simp [eg2T, l9, h0, l0, ln, hl, hp, hk, it, i0, t2, oi, b]
        · simp [eg2T, l9, h0, l0, ln, hl, hp, hk, it, i0, t2, oi, a, b]
    · rw [hk, Int.toNat_natCast, hg]
      simp [h0, hl, hp]
  · exact ⟨false, by simp [eg2T, l9, h0, l0, ln, hl, hp], by simp [h0, hl, hp]⟩
theorem eg2_loop {code : List Ins} {rc r : Nat} {σ : Sto} {full : List V} (hf : σ[r]? = some full) (hc : σ[rc]? = some (code.map insV)) (hn : code.length ≤ 100) : ∀ (es : List Int) (loc : Nat → Option V), loc 0 = some (.lst rc) →
    ((∃ e ∈ es, edgeBad code e) → ∃ loc', forGo (.lst r) full (.one 9) eg2 (es.map V.int) ⟨loc, σ⟩ = .ok (.ret (.bool false)) ⟨loc', σ⟩) ∧
    ((¬ ∃ e ∈ es, edgeBad code e) → ∃ loc', (∀ j, j ≠ 9 → loc' j = loc j) ∧ forGo (.lst r) full (.one 9) eg2 (es.map V.int) ⟨loc, σ⟩ = .ok .next ⟨loc', σ⟩)
  | [], loc, l0 => ⟨fun ⟨_, h, _⟩ => (nomatch h), fun _ => ⟨loc, fun _ _ => rfl, forGo_nil (src := .lst r) (st := ⟨loc, σ⟩) hf⟩⟩
  | e :: es, loc, l0 => by
    obtain ⟨b, hb, hiff⟩ := eg2_test (code := code) (e := e) (loc := upd loc 9 (.int e)) hc hn (by simp [upd_ne, l0]) (by simp)
    rw [List.map_cons, forGo_one (src := .lst r) (st := ⟨loc, σ⟩) hf]
    cases b with
    | true =>
      have bad := hiff.mp rfl
      have st : eg2 ⟨upd loc 9 (.int e), σ⟩ = .ok (.ret (.bool false)) ⟨upd loc 9 (.int e), σ⟩ := by
        unfold eg2
        rw [seq_ap, if_ap, hb]
        simp
      exact ⟨fun _ => ⟨_, by rw [st]; rfl⟩, fun h => absurd ⟨e, .head _, bad⟩ h⟩
    | false =>
      have nbad : ¬ edgeBad code e := fun q => by have := hiff.mpr q; cases this
      have st : eg2 ⟨upd loc 9 (.int e), σ⟩ = .ok .next ⟨upd loc 9 (.int e), σ⟩ := by
        unfold eg2
        rw [seq_ap, if_ap, hb]
        simp
      obtain ⟨A, B⟩ := eg2_loop (full := full) hf hc hn es (upd loc 9 (.int e)) (by simp [upd_ne, l0])
      rw [st, RS.bind_ok, forK_next]
      refine ⟨fun ⟨x, hx, hbx⟩ => ?_, fun q => ?_⟩
      · rcases List.mem_cons.mp hx with rfl | hx
        · exact absurd hbx nbad
        · exact A ⟨x, hx, hbx⟩
      · obtain ⟨loc', h1, h2⟩ := B fun ⟨x, hx, hbx⟩ => q ⟨x, .tail _ hx, hbx⟩
        exact ⟨loc', fun j hj => (h1 j hj).trans (upd_ne _ _ hj), h2⟩

theorem three (σ : Sto) (xs ys : List V) (hx : xs.length ≤ 10) (hy : ys.length ≤ 10) : ∃ z1 z2 z3 r1 r2 r3, oLst xs σ = .ok (.lst r1) z1 ∧ oLst ys z1 = .ok (.lst r2) z2 ∧ oAdd (.lst r1) (.lst r2) z2 = .ok (.lst r3) z3 ∧ Ext σ z3 ∧ z3[r3]? = some (xs ++ ys) := by
  have lim : limN = 1000 := rfl
  exact ⟨_, _, _, _, _, _, lst_ap xs σ (by (first | lia | omega)), lst_ap ys _ (by (first | lia | omega)), add_ll _ _ _ _ _ (get_pre _ (get_last _ _)) (get_last _ _) (by (first | lia | omega)), (Ext.add _ _).trans ((Ext.add _ _).trans (Ext.add _ _)), get_last _ _⟩
noncomputable def clLoc (loc : Nat → Option V) (c : Cl) : Nat → Option V := upd (upd (upd (upd (upd (upd loc 2 (.int c.s)) 3 (.int c.t0)) 4 (.int c.t1)) 5 (.int c.h0)) 6 (.int c.h1)) 7 (.int c.ex)
theorem eg_body {code : List Ins} {c : Cl} {rc : Nat} {σ : Sto} {loc : Nat → Option V} (hc : σ[rc]? = some (code.map insV)) (hn : code.length ≤ 100) (l0 : loc 0 = some (.lst rc)) :
    ∃ σ', Ext σ σ' ∧ (clBadL code c → ∃ loc', egBody ⟨clLoc loc c, σ⟩ = .ok (.ret (.bool false)) ⟨loc', σ'⟩) ∧ (¬ clBadL code c → ∃ loc', loc' 0 = loc 0 ∧ egBody ⟨clLoc loc c, σ⟩ = .ok .next ⟨loc', σ'⟩) := by
  have L : ∀ j, clLoc loc c j = if j = 7 then some (.int c.ex) else if j = 6 then some (.int c.h1) else if j = 5 then some (.int c.h0) else if j = 4 then some (.int c.t1) else if j = 3 then some (.int c.t0) else if j = 2 then some (.int c.s) else loc j := fun _ => rfl
  have m0 : clLoc loc c 0 = some (.lst rc) := by rw [L]; simp [l0]
  have m2 : clLoc loc c 2 = some (.int c.s) := by rw [L]; simp
  have m3 : clLoc loc c 3 = some (.int c.t0) := by rw [L]; simp
  have m4 : clLoc loc c 4 = some (.int c.t1) := by rw [L]; simp
  have m5 : clLoc loc c 5 = some (.int c.h0) := by rw [L]; simp
  have m6 : clLoc loc c 6 = some (.int c.h1) := by rw [L]; simp
  have m7 : clLoc loc c 7 = some (.int c.ex) := by rw [L]; simp
  generalize clLoc loc c = lc at m0 m2 m3 m4 m5 m6 m7
  have tup3 : ∀ σ, oTup [.int c.t0, .int c.h0, .int c.ex] σ = .ok (.tup [.int c.t0, .int c.h0, .int c.ex]) σ := fun σ => tup_ap _ _ (by simp [limN])
  obtain ⟨r, σ', e, hr, pre⟩ : ∃ r σ', Ext σ σ' ∧ σ'[r]? = some ((edges c).map V.int) ∧ egBody ⟨lc, σ⟩ = (sSeq (sFor (dThen (dCons (dLoc 3) (dCons (dLoc 5) (dCons (dLoc 7) dNil))) oTup) (.one 9) eg1) (sSeq (sFor (dLoc 8) (.one 9) eg2) sNil)) ⟨upd lc 8 (.lst r), σ'⟩ := by
    by_cases h : c.s = 1
    · obtain ⟨z1, z2, z3, r1, r2, r3, e1, e2, e3, E, g⟩ := three σ [.int c.t0, .int c.t1, .int c.h0, .int c.h1] [.int c.ex] (by simp) (by simp)
      refine ⟨r3, z3, E, by rw [g]; simp [edges, h], ?_⟩
      rw [egBody, seq_ap, asg_ap]
      simp [m3, m4, m5, m6, e1, m2, h, m7, e2, e3]
    · obtain ⟨z1, z2, z3, r1, r2, r3, e1, e2, e3, E, g⟩ := three σ [.int c.t0, .int c.t1, .int c.h0, .int c.h1] [] (by simp) (by simp)
      refine ⟨r3, z3, E, by rw [g]; simp [edges, h], ?_⟩
      rw [egBody, seq_ap, asg_ap]
      simp [m3, m4, m5, m6, e1, m2, h, m7, e2, e3]
  refine ⟨σ', e, ?_⟩
  have hc' := e.get hc
  obtain ⟨A, B⟩ := eg1_loop (full := [.int c.t0, .int c.h0, .int c.ex]) hc' hn [c.t0, c.h0, c.ex] (upd lc 8 (.lst r)) (by simp [upd_ne, m0])
  have p1 : (sFor (dThen (dCons (dLoc 3) (dCons (dLoc 5) (dCons (dLoc 7) dNil))) oTup) (.one 9) eg1) ⟨upd lc 8 (.lst r), σ'⟩ = forGo (.tup [.int c.t0, .int c.h0, .int c.ex]) [.int c.t0, .int c.h0, .int c.ex] (.one 9) eg1 ([c.t0, c.h0, c.ex].map V.int) ⟨upd lc 8 (.lst r), σ'⟩ := by
    simp [upd_ne, m3, m5, m7, tup3]
  rw [pre, seq_ap, p1]
  by_cases h1 : ∃ x ∈ [c.t0, c.h0, c.ex], (code.length : Int) ≤ x
  · obtain ⟨loc', e1⟩ := A h1
    have bad : clBadL code c := by
      obtain ⟨x, hx, hb⟩ := h1
      simp only [List.mem_cons, List.not_mem_nil, or_false] at hx
      rcases hx with rfl | rfl | rfl
      · exact .inl hb
      · exact .inr (.inl hb)
      · exact .inr (.inr (.inl hb))
    exact ⟨fun _ => ⟨loc', by rw [e1]; rfl⟩, fun q => absurd bad q⟩
  · obtain ⟨loc1, a1, e1⟩ := B h1
    rw [e1, RS.bind_ok, seqK_next, seq_ap]
    have p2 : sFor (dLoc 8) (.one 9) eg2 ⟨loc1, σ'⟩ = forGo (.lst r) ((edges c).map V.int) (.one 9) eg2 ((edges c).map V.int) ⟨loc1, σ'⟩ := by
      have : loc1 8 = some (.lst r) := (a1 8 (by decide)).trans (by simp)
      rw [for_ap, loc_ap]
      dsimp only
      rw [this, locK_some, R.bindS_ok]
      exact forS_lst _ _ _ _ _ _ hr
    rw [p2]
    obtain ⟨A2, B2⟩ := eg2_loop hr hc' hn (edges c) loc1 ((a1 0 (by decide)).trans (by simp [upd_ne, m0]))
    refine ⟨fun q => ?_, fun q => ?_⟩
    · have hb : ∃ x ∈ edges c, edgeBad code x := by
        rcases q with q | q | q | q
        · exact absurd ⟨_, by simp, q⟩ h1
        · exact absurd ⟨c.h0, by simp, q⟩ h1
        · exact absurd ⟨c.ex, by simp, q⟩ h1
        · exact q
      obtain ⟨loc', e2⟩ := A2 hb
      exact ⟨loc', by rw [e2]; rfl⟩
    · obtain ⟨loc', a2, e2⟩ := B2 fun z => q (.inr (.inr (.inr z)))
      refine ⟨loc', ?_, by rw [e2]; rfl⟩
      rw [a2 0 (by decide), a1 0 (by decide), upd_ne _ _ (by decide), m0, l0]

theorem eg_loop {code : List Ins} {rc rk : Nat} {full : List V} (hn : code.length ≤ 100) : ∀ (cs : List Cl) (loc : Nat → Option V) (σ : Sto), loc 0 = some (.lst rc) → σ[rc]? = some (code.map insV) → σ[rk]? = some full →
    ∃ σ', Ext σ σ' ∧ ((∃ c ∈ cs, clBadL code c) → ∃ loc', forGo (.lst rk) full (.many [2, 3, 4, 5, 6, 7]) egBody (cs.map clV) ⟨loc, σ⟩ = .ok (.ret (.bool false)) ⟨loc', σ'⟩) ∧
      ((¬ ∃ c ∈ cs, clBadL code c) → ∃ loc', forGo (.lst rk) full (.many [2, 3, 4, 5, 6, 7]) egBody (cs.map clV) ⟨loc, σ⟩ = .ok .next ⟨loc', σ'⟩)
  | [], loc, σ, l0, hc, hk => ⟨σ, .refl σ, fun ⟨_, h, _⟩ => (nomatch h), fun _ => ⟨loc, forGo_nil (src := .lst rk) (st := ⟨loc, σ⟩) hk⟩⟩
  | c :: cs, loc, σ, l0, hc, hk => by
    have hu : updAll loc [2, 3, 4, 5, 6, 7] [.int c.s, .int c.t0, .int c.t1, .int c.h0, .int c.h1, .int c.ex] = some (clLoc loc c) := rfl
    have hcl : clV c = .tup [.int c.s, .int c.t0, .int c.t1, .int c.h0, .int c.h1, .int c.ex] := rfl
    rw [List.map_cons, hcl, forGo_many (src := .lst rk) (st := ⟨loc, σ⟩) hk hu]
    obtain ⟨σ1, e1, A, B⟩ := eg_body (c := c) (loc := loc) hc hn l0
    by_cases h : clBadL code c
    · obtain ⟨loc', q⟩ := A h
      exact ⟨σ1, e1, fun _ => ⟨loc', by rw [q]; rfl⟩, fun z => absurd ⟨c, .head _, h⟩ z⟩
    · obtain ⟨loc1, a0, q⟩ := B h
      obtain ⟨σ2, e2, A2, B2⟩ := eg_loop (full := full) hn cs loc1 σ1 (a0.trans l0) (e1.get hc) (e1.get hk)
      rw [q, RS.bind_ok, forK_next]
      refine ⟨σ2, e1.trans e2, fun ⟨x, hx, hb⟩ => ?_, fun z => B2 fun ⟨x, hx, hb⟩ => z ⟨x, .tail _ hx, hb⟩⟩
      rcases List.mem_cons.mp hx with rfl | hx
      · exact absurd hb h
      · exact A2 ⟨x, hx, hb⟩

theorem r_edges_good {code : List Ins} {cs : List Cl} {rc rk : Nat} {σ : Sto} (hn : code.length ≤ 100) (hc : σ[rc]? = some (code.map insV)) (hk : σ[rk]? = some (cs.map clV)) :
    ∃ σ', Ext σ σ' ∧ ((∃ c ∈ cs, clBadL code c) → R__law_edges_good [.lst rc, .lst rk] σ = .ok (.bool false) σ') ∧ ((¬ ∃ c ∈ cs, clBadL code c) → R__law_edges_good [.lst rc, .lst rk] σ = .ok (.bool true) σ') := by
  obtain ⟨σ', e, A, B⟩ := eg_loop (full := cs.map clV) hn cs (argL [.lst rc, .lst rk]) σ rfl hc hk
  have D1 : R__law_edges_good = runFn 2 (sSeq (sFor (dLoc 1) (.many [2, 3, 4, 5, 6, 7]) egBody) <| sSeq (sReturn (dBool true)) <| sNil) := rfl
  have fs : ∀ loc, forS (.many [2, 3, 4, 5, 6, 7]) egBody loc (.lst rk) σ = forGo (.lst rk) (cs.map clV) (.many [2, 3, 4, 5, 6, 7]) egBody (cs.map clV) ⟨loc, σ⟩ := fun loc => forS_lst _ _ _ _ _ _ hk
  refine ⟨σ', e, fun h => ?_, fun h => ?_⟩
  · obtain ⟨loc', q⟩ := A h
    rw [D1]; simp [fs, q]
  · obtain ⟨loc', q⟩ := B h
    rw [D1]; simp [fs, q]
end Mine
end
section
set_option tactic.hygienic false
set_option backward.defeqAttrib.useBackward true
set_option maxRecDepth 100000
set_option linter.unusedSimpArgs false
open PySem PySem.W PyProof.Rows PySem.Calls
namespace Mine

/-! # the sweep -/
noncomputable def goalsGo (n : Nat) (b : Int) : List Int → List (List Int) → Bool → Option (List (List Int) × Bool)
  | [], L, t => some (L, t)
  | g :: gs, L, t => if g < 0 ∨ (n : Int) ≤ g then none else (match L[g.toNat]? with
    | none => none
    | some xs => if xs.contains b then goalsGo n b gs L t else goalsGo n b gs (L.set g.toNat (xs ++ [b])) true)
noncomputable def rowGo (code : List Ins) (effs : List Eff) (i : Nat) (L : List (List Int)) (m : Int) (t : Bool) : Option (List (List Int) × Int × Bool) := match L[i]? with
  | none => none
  | some [] => some (L, m, t)
  | some (a :: r) => if minL (a :: r) ≠ maxL (a :: r) then none else (match stepD code effs i (minL (a :: r)) with
    | none => none
    | some b => (match code[i]? with
      | none => none
      | some p => (match goalsGo code.length b (goalsL code i p) L t with
        | none => none
        | some (L', t') => some (L', max (max m (minL (a :: r))) b, t'))))
noncomputable def sweepGo (code : List Ins) (effs : List Eff) : List Nat → List (List Int) → Int → Bool → Option (List (List Int) × Int × Bool)
  | [], L, m, t => some (L, m, t)
  | i :: is, L, m, t => match rowGo code effs i L m t with
    | none => none
    | some (L', m', t') => sweepGo code effs is L' m' t'
noncomputable def sloop (code : List Ins) (effs : List Eff) : Nat → List (List Int) → Int → Option (Option Int)
  | 0, _, _ => none
  | k + 1, L, m => match sweepGo code effs (List.range code.length) L m false with
    | none => some none
    | some (L', m', t) => if t then sloop code effs k L' m' else some (some m')

structure SR (σ : Sto) (rd b n : Nat) (L : List (List Int)) : Prop where
  d : σ[rd]? = some ((List.range n).map fun k => V.lst (b + k))
  len : L.length = n
  at_ : ∀ (k : Nat) (xs : List Int), L[k]? = some xs → σ[b + k]? = some (xs.map V.int)
  lt : rd < b
theorem SR.ext {σ σ' : Sto} {rd b n : Nat} {L : List (List Int)} (S : SR σ rd b n L) (e : Ext σ σ') : SR σ' rd b n L := ⟨e.get S.d, S.len, fun k xs h => e.get (S.at_ k xs h), S.lt⟩
theorem SR.set {σ : Sto} {rd b n : Nat} {L : List (List Int)} (S : SR σ rd b n L) {k : Nat} {xs : List Int} (h : L[k]? = some xs) (ys : List Int) : SR (σ.set (b + k) (ys.map V.int)) rd b n (L.set k ys) := by
  have hk : k < L.length := (List.getElem?_eq_some_iff.mp h).1
  refine ⟨?_, by rw [List.length_set]; exact S.len, fun j zs hz => ?_, S.lt⟩
  · rw [List.getElem?_set_ne (by have := S.lt; (first | lia | omega))]; exact S.d
  · by_cases hj : k = j
    · subst hj
      rw [List.getElem?_set_self hk] at hz; cases hz
      exact List.getElem?_set_self (List.getElem?_eq_some_iff.mp (S.at_ k xs h)).1
    · rw [List.getElem?_set_ne hj] at hz
      rw [List.getElem?_set_ne (by (first | lia | omega))]
      exact S.at_ j zs hz
theorem SR.item {σ : Sto} {rd b n : Nat} {L : List (List Int)} (S : SR σ rd b n L) {k : Nat} (hk : k < n) (hn : n ≤ 100) : oItem tv (.lst rd) (.int k) σ = .ok (.lst (b + k)) σ :=
  item_l rd k _ _ σ (by (first | lia | omega)) S.d (by simp [hk])
theorem SR.some {σ : Sto} {rd b n : Nat} {L : List (List Int)} (S : SR σ rd b n L) {k : Nat} (hk : k < n) : ∃ xs, L[k]? = some xs ∧ σ[b + k]? = some (xs.map V.int) := by
  have : k < L.length := S.len ▸ hk
  exact ⟨L[k], List.getElem?_eq_getElem this, S.at_ k _ (List.getElem?_eq_getElem this)⟩

noncomputable def goBody : DS := (sSeq (sIf (dOr (dThen (dThen2 (dLoc 10) (dInt 0) (oIntCmp fun a b => decide (a < b))) oBoolV) (dOr (dThen (dThen2 (dLoc 10) (dThen (dCons (dLoc 0) dNil) oLen) (oIntCmp fun a b => decide (b ≤ a))) oBoolV) dFalse))
          (sSeq (sReturn (dThen (dInt 1) oNeg)) <|
          sNil)
          (sNil)) <|
        sSeq (sIf (dThen (dThen2 (dLoc 9) (dThen2 (dLoc 3) (dLoc 10) (oItem tv)) (oNotIn tv)) oBoolV)
          (sSeq (sExpr (dMeth (dThen2 (dLoc 3) (dLoc 10) (oItem tv)) (dCons (dLoc 9) dNil) oAppend)) <|
          sSeq (sAssign 6 (dBool true)) <|
          sNil)
          (sNil)) <|
        sNil)

noncomputable def Same (σ σ' : Sto) (b n : Nat) : Prop := σ'.length = σ.length ∧ ∀ r, r < b ∨ b + n ≤ r → σ'[r]? = σ[r]?

theorem go_loop {code : List Ins} {rc rd b0 r : Nat} {full : List V} {b : Int} (hn : code.length ≤ 100) (hrc : rc < b0) (hr : b0 + code.length ≤ r) : ∀ (gs : List Int) (L : List (List Int)) (t : Bool) (loc : Nat → Option V) (σ : Sto), SR σ rd b0 code.length L → (∀ xs ∈ L, xs.length + gs.length ≤ 900) →
    loc 0 = some (.lst rc) → loc 3 = some (.lst rd) → loc 6 = some (.bool t) → loc 9 = some (.int b) → σ[rc]? = some (code.map insV) → σ[r]? = some full →
    (goalsGo code.length b gs L t = none → ∃ st', forGo (.lst r) full (.one 10) goBody (gs.map V.int) ⟨loc, σ⟩ = .ok (.ret (.int (-1))) st' ∧ ∀ q, q < b0 → st'.sto[q]? = σ[q]?) ∧
    (∀ L' t', goalsGo code.length b gs L t = some (L', t') → ∃ loc' σ', forGo (.lst r) full (.one 10) goBody (gs.map V.int) ⟨loc, σ⟩ = .ok .next ⟨loc', σ'⟩ ∧ SR σ' rd b0 code.length L' ∧ loc' 6 = some (.bool t') ∧ (∀ j, j ≠ 6 → j ≠ 10 → loc' j = loc j) ∧ Same σ σ' b0 code.length)
  | [], L, t, loc, σ, S, hB, l0, l3, l6, l9, hc, hf => ⟨fun e => (by cases e), fun L' t' e => by
    cases e
    exact ⟨loc, σ, forGo_nil (src := .lst r) (st := ⟨loc, σ⟩) hf, S, l6, fun _ _ _ => rfl, rfl, fun _ _ => rfl⟩⟩
  | g :: gs, L, t, loc, σ, S, hB, l0, l3, l6, l9, hc, hf => by
    have lim : limN = 1000 := rfl
    have ln := eg_len hc hn
    rw [List.map_cons, forGo_one (src := .lst r) (st := ⟨loc, σ⟩) hf]
    unfold goalsGo
    by_cases hbad : g < 0 ∨ (code.length : Int) ≤ g
    · rw [if_pos hbad]
      refine ⟨fun _ => ?_, fun _ _ e => (by cases e)⟩
      rcases hbad with h | h
      · exact ⟨⟨upd loc 10 (.int g), σ⟩, by simp [goBody, upd_ne, h], fun _ _ => rfl⟩
      · by_cases h0 : g < 0
        · exact ⟨⟨upd loc 10 (.int g), σ⟩, by simp [goBody, upd_ne, h0], fun _ _ => rfl⟩
        · exact ⟨⟨upd loc 10 (.int g), σ⟩, by simp [goBody, upd_ne, h0, l0, ln, h], fun _ _ => rfl⟩
    · rw [if_neg hbad]
      have h0 : ¬ g < 0 := fun q => hbad (.inl q)
      have hl : ¬ (code.length : Int) ≤ g := fun q => hbad (.inr q)
      obtain ⟨k, rfl⟩ := Int.eq_ofNat_of_zero_le (Int.not_lt.mp h0)
      have hk : k < code.length := by (first | lia | omega)
      rw [Int.toNat_natCast]
      obtain ⟨xs, hx, hσ⟩ := S.some hk
      rw [hx]
      dsimp only
      have it := S.item hk hn
      have ni : oNotIn tv (.int b) (.lst (b0 + k)) σ = .ok (.bool (!xs.contains b)) σ := notIn_lst _ _ _ _ hσ
      by_cases hin : xs.contains b = true
      · rw [if_pos hin]
        have st : goBody ⟨upd loc 10 (.int k), σ⟩ = .ok .next ⟨upd loc 10 (.int k), σ⟩ := by
          simp [goBody, upd_ne, h0, l0, ln, hl, l9, l3, it, ni, hin, -List.contains_eq_mem]
        rw [st, RS.bind_ok, forK_next]
        obtain ⟨A, B⟩ := go_loop (b := b) hn hrc hr gs L t (upd loc 10 (.int k)) σ S (fun xs h => by have := hB xs h; rw [List.length_cons] at this; (first | lia | omega)) (by simp [upd_ne, l0]) (by simp [upd_ne, l3]) (by simp [upd_ne, l6]) (by simp [upd_ne, l9]) hc hf
        refine ⟨A, fun L' t' e => ?_⟩
        obtain ⟨loc', σ', e1, e2, e3, e4, e5⟩ := B L' t' e
        exact ⟨loc', σ', e1, e2, e3, fun j h6 h10 => (e4 j h6 h10).trans (upd_ne _ _ h10), e5⟩
      · rw [if_neg hin]
        have hin' : xs.contains b = false := by simpa using hin
        have hxl : xs.length ≤ 900 := by have := hB xs (List.mem_of_getElem? hx); (first | lia | omega)
        have ap : oAppend [.lst (b0 + k), .int b] σ = .ok .none (σ.set (b0 + k) ((xs ++ [b]).map V.int)) := by
          rw [append_l _ _ _ _ hσ (by rw [List.length_map]; (first | lia | omega))]; simp
        have mk : ∀ loc da k', methK da k' loc (.lst (b0 + k)) σ = (da ⟨loc, σ⟩).bind (methK2 k' (.lst (b0 + k))) := fun loc da k' => methK_ap _ _ _ _ _ _ hσ
        generalize hz : σ.set (b0 + k) ((xs ++ [b]).map V.int) = σ1 at ap
        have S1 : SR σ1 rd b0 code.length (L.set k (xs ++ [b])) := hz ▸ S.set hx (xs ++ [b])
        have sm : Same σ σ1 b0 code.length := by
          rw [← hz]
          exact ⟨by simp, fun r' h => List.getElem?_set_ne (by (first | lia | omega))⟩
        have st : goBody ⟨upd loc 10 (.int k), σ⟩ = .ok .next ⟨upd (upd loc 10 (.int k)) 6 (.bool true), σ1⟩ := by
          simp [goBody, upd_ne, h0, l0, ln, hl, l9, l3, it, ni, hin', mk, ap, -List.contains_eq_mem]
        rw [st, RS.bind_ok, forK_next]
        obtain ⟨A, B⟩ := go_loop (b := b) hn hrc hr gs (L.set k (xs ++ [b])) true (upd (upd loc 10 (.int k)) 6 (.bool true)) σ1 S1 (fun ys h => by
          rcases List.mem_or_eq_of_mem_set h with h | rfl
          · have := hB ys h; rw [List.length_cons] at this; (first | lia | omega)
          · have := hB xs (List.mem_of_getElem? hx); rw [List.length_cons] at this; simp; (first | lia | omega)) (by simp [upd_ne, l0]) (by simp [upd_ne, l3]) (by simp) (by simp [upd_ne, l9])
          ((sm.2 rc (.inl hrc)).trans hc) ((sm.2 r (.inr hr)).trans hf)
        refine ⟨fun e => (by obtain ⟨st', q, p⟩ := A e; exact ⟨st', q, fun r' h => (p r' h).trans (sm.2 r' (.inl h))⟩), fun L' t' e => ?_⟩
        obtain ⟨loc', σ', e1, e2, e3, e4, e5⟩ := B L' t' e
        exact ⟨loc', σ', e1, e2, e3, fun j h6 h10 => (e4 j h6 h10).trans ((upd_ne _ _ h6).trans (upd_ne _ _ h10)), e5.1.trans sm.1, fun r' h => (e5.2 r' h).trans (sm.2 r' h)⟩
end Mine
end
section
set_option tactic.hygienic false
set_option backward.defeqAttrib.useBackward true
set_option maxRecDepth 100000
set_option linter.unusedSimpArgs false
open PySem PySem.W PyProof.Rows PySem.Calls
namespace Mine

set_option tactic.hygienic true in
/-- what a row's goals do to the lists -/
theorem goalsGo_spec {n : Nat} {b : Int} : ∀ (gs : List Int) (L : List (List Int)) (t : Bool) (L' : List (List Int)) (t' : Bool), goalsGo n b gs L t = some (L', t') →
    L'.length = L.length ∧ (∀ (k : Nat) (xs : List Int), L[k]? = some xs → L'[k]? = some xs ∨ (b ∉ xs ∧ L'[k]? = some (xs ++ [b]) ∧ (k : Int) ∈ gs ∧ t' = true)) ∧
      (∀ g ∈ gs, ∃ k : Nat, g = k ∧ k < n ∧ ∃ ys, L'[k]? = some ys ∧ b ∈ ys) ∧ (t' = true → t = true ∨ ∃ (k : Nat) (xs : List Int), L[k]? = some xs ∧ b ∉ xs ∧ L'[k]? = some (xs ++ [b])) ∧ (t = true → t' = true)
  | [], L, t, L', t', e => by
    cases e
    exact ⟨rfl, fun k xs h => .inl h, fun g h => (nomatch h), fun h => .inl h, id⟩
  | g :: gs, L, t, L', t', e => by
    unfold goalsGo at e
    split at e
    · cases e
    · rename_i hbad
      obtain ⟨k, rfl⟩ := Int.eq_ofNat_of_zero_le (show 0 ≤ g by (first | lia | omega))
      rw [Int.toNat_natCast] at e
      split at e
      · cases e
      · rename_i xs hx
        split at e
        · rename_i hin
          have hin' : b ∈ xs := by simpa using hin
          obtain ⟨a1, a2, a3, a4, a5⟩ := goalsGo_spec gs L t L' t' e
          refine ⟨a1, fun j ys h => (a2 j ys h).imp id fun ⟨p, q, r, s⟩ => ⟨p, q, .tail _ r, s⟩, fun g' h => ?_, a4, a5⟩
          rcases List.mem_cons.mp h with rfl | h
          · refine ⟨k, rfl, by (first | lia | omega), ?_⟩
            rcases a2 k xs hx with q | ⟨p, q, _⟩
            · exact ⟨xs, q, hin'⟩
            · exact absurd hin' p
          · exact a3 g' h
        · rename_i hin
          have hin' : b ∉ xs := by simpa using hin
          have hk : k < L.length := (List.getElem?_eq_some_iff.mp hx).1
          obtain ⟨a1, a2, a3, a4, a5⟩ := goalsGo_spec gs (L.set k (xs ++ [b])) true L' t' e
          have ht' : t' = true := a5 rfl
          have atk : L'[k]? = some (xs ++ [b]) := by
            rcases a2 k (xs ++ [b]) (List.getElem?_set_self hk) with q | ⟨p, _⟩
            · exact q
            · exact absurd (by simp) p
          refine ⟨by rw [a1, List.length_set], fun j ys h => ?_, fun g' h => ?_, fun _ => .inr ⟨k, xs, hx, hin', atk⟩, fun _ => ht'⟩
          · by_cases hj : k = j
            · subst hj
              rw [hx] at h; cases h
              exact .inr ⟨hin', atk, .head _, ht'⟩
            · rcases a2 j ys (by rw [List.getElem?_set_ne hj]; exact h) with q | ⟨p, q, r, s⟩
              · exact .inl q
              · exact .inr ⟨p, q, .tail _ r, s⟩
          · rcases List.mem_cons.mp h with rfl | h
            · exact ⟨k, rfl, by (first | lia | omega), _, atk, by simp⟩
            · exact a3 g' h

theorem goalsGo_len {n : Nat} {b : Int} {gs : List Int} {L L' : List (List Int)} {t t' : Bool} (e : goalsGo n b gs L t = some (L', t')) {B : Nat} (h : ∀ xs ∈ L, xs.length ≤ B) : ∀ xs ∈ L', xs.length ≤ B + 1 := fun ys hy => by
  obtain ⟨a1, a2, _⟩ := goalsGo_spec gs L t L' t' e
  obtain ⟨k, hk, rfl⟩ := List.getElem_of_mem hy
  have hk' : k < L.length := a1 ▸ hk
  have hx : L[k]? = some L[k] := List.getElem?_eq_getElem hk'
  have hb := h L[k] (List.getElem_mem hk')
  have hy' : L'[k]? = some L'[k] := List.getElem?_eq_getElem hk
  rcases a2 k L[k] hx with q | ⟨_, q, _⟩
  · rw [hy'] at q; rw [Option.some.inj q]; (first | lia | omega)
  · rw [hy'] at q; rw [Option.some.inj q]; simp; (first | lia | omega)

/-! the row -/
theorem min_l (r : Nat) (a : Int) (ns : List Int) (σ : Sto) (h : σ[r]? = some ((a :: ns).map V.int)) : oMin [.lst r] σ = .ok (.int (minL (a :: ns))) σ := by
  show (match σ[r]?.bind intsOf with | some (a :: ns) => R.ok (V.int (minL (a :: ns))) σ | _ => .stuck) = _
  rw [h, Option.bind_some, intsOf_map]
theorem max_l (r : Nat) (a : Int) (ns : List Int) (σ : Sto) (h : σ[r]? = some ((a :: ns).map V.int)) : oMax [.lst r] σ = .ok (.int (maxL (a :: ns))) σ := by
  show (match σ[r]?.bind intsOf with | some (a :: ns) => R.ok (V.int (maxL (a :: ns))) σ | _ => .stuck) = _
  rw [h, Option.bind_some, intsOf_map]
theorem max3 (a b c : Int) (σ : Sto) : oMax [.int a, .int b, .int c] σ = .ok (.int (max (max a b) c)) σ := rfl
theorem eq_lnil (r q : Nat) (xs : List V) (σ : Sto) (h : σ[r]? = some xs) (h' : σ[q]? = some []) (hl : xs.length ≤ limN) : oEq (.lst r) (.lst q) σ = .ok (.bool xs.isEmpty) σ := by
  show (match σ[r]?, σ[q]? with | some xs, some [] => if xs.length ≤ limN then R.ok (V.bool xs.isEmpty) σ else .stuck | _, _ => .stuck) = _
  rw [h, h']; exact if_pos hl

noncomputable def rowBody : DS := (sSeq (sIf (dThen (dThen2 (dThen2 (dLoc 3) (dLoc 7) (oItem tv)) (dThen dNil oLst) oEq) oBoolV)
        (sSeq (sCont) <|
        sNil)
        (sNil)) <|
      sSeq (sAssign 8 (dThen (dCons (dThen2 (dLoc 3) (dLoc 7) (oItem tv)) dNil) oMin)) <|
      sSeq (sIf (dOr (dThen (dThen2 (dLoc 8) (dThen (dCons (dThen2 (dLoc 3) (dLoc 7) (oItem tv)) dNil) oMax) (oIntCmp (· != ·))) oBoolV) (dOr (dThen (dThen2 (dThen2 (dLoc 1) (dLoc 7) (oItem tv)) dNone oIs) oBoolV) (dOr (dThen (dThen2 (dThen2 (dThen2 (dLoc 1) (dLoc 7) (oItem tv)) (dInt 0) (oItem tv)) (dLoc 8) (oIntCmp fun a b => decide (b < a))) oBoolV) dFalse)))
        (sSeq (sReturn (dThen (dInt 1) oNeg)) <|
        sNil)
        (sNil)) <|
      sSeq (sAssign 9 (dThen (dCons (dThen2 (dThen2 (dLoc 0) (dLoc 7) (oItem tv)) (dInt 0) (oItem tv)) (dCons (dThen2 (dLoc 1) (dLoc 7) (oItem tv)) (dCons (dLoc 8) dNil))) R__law_behind)) <|
      sSeq (sAssign 5 (dThen (dCons (dLoc 5) (dCons (dLoc 8) (dCons (dLoc 9) dNil))) oMax)) <|
      sSeq (sFor (dThen (dCons (dLoc 0) (dCons (dLoc 7) dNil)) R__law_goals) (.one 10) goBody) <|
      sNil)

/-- what a turn of the sweep's body does -/
inductive RowR (loc : Nat → Option V) (σ : Sto) (rd b0 n i : Nat) : Option (List (List Int) × Int × Bool) → Prop
  | no (st' : St) (h : rowBody ⟨upd loc 7 (.int i), σ⟩ = .ok (.ret (.int (-1))) st') (k : ∀ q, q < b0 → st'.sto[q]? = σ[q]?) : RowR loc σ rd b0 n i none
  | yes (L' : List (List Int)) (m' : Int) (t' : Bool) (f : Fl) (loc' : Nat → Option V) (σ' : Sto) (hf : f = .next ∨ f = .cont) (h : rowBody ⟨upd loc 7 (.int i), σ⟩ = .ok f ⟨loc', σ'⟩) (S : SR σ' rd b0 n L') (h5 : loc' 5 = some (.int m')) (h6 : loc' 6 = some (.bool t'))
      (hl : ∀ j, j < 5 → loc' j = loc j) (hr : ∀ r, r < b0 → σ'[r]? = σ[r]?) : RowR loc σ rd b0 n i (some (L', m', t'))
theorem row_bodyR {ret : Int} {code : List Ins} {effs : List Eff} (W : WFs ret code effs) {rc re rd b0 : Nat} {i : Nat} (hi : i < code.length) (hrc : rc < b0) (hre : re < b0) {L : List (List Int)} {m : Int} {t : Bool} {loc : Nat → Option V} {σ : Sto} (S : SR σ rd b0 code.length L) (hB : ∀ xs ∈ L, xs.length ≤ 600)
    (l0 : loc 0 = some (.lst rc)) (l1 : loc 1 = some (.lst re)) (l3 : loc 3 = some (.lst rd)) (l5 : loc 5 = some (.int m)) (l6 : loc 6 = some (.bool t)) (hc : σ[rc]? = some (code.map insV)) (he : σ[re]? = some (effs.map effV))
    {r : Option (List (List Int) × Int × Bool)} (e : rowGo code effs i L m t = r) : RowR loc σ rd b0 code.length i r := by
  have lim : limN = 1000 := rfl
  have hn : code.length ≤ 100 := by have := W.n; (first | lia | omega)
  obtain ⟨xs, hx, hσ⟩ := S.some hi
  have it := fun {σ'} (S' : SR σ' rd b0 code.length L) => S'.item hi hn
  have nl : oLst [] σ = .ok (.lst σ.length) (σ ++ [[]]) := lst_ap _ _ (by simp [limN])
  have S1 : SR (σ ++ [[]]) rd b0 code.length L := S.ext (.add _ _)
  have hσ1 := S1.at_ i xs hx
  have eq : oEq (.lst (b0 + i)) (.lst σ.length) (σ ++ [[]]) = .ok (.bool (xs.map V.int).isEmpty) (σ ++ [[]]) := eq_lnil _ _ _ _ hσ1 (get_last _ _) (by rw [List.length_map]; have := hB xs (List.mem_of_getElem? hx); (first | lia | omega))
  have hcode : code[i]? = some code[i] := List.getElem?_eq_getElem hi
  obtain ⟨ef, hef, wf⟩ := W.wf i code[i].1 code[i].2 hcode
  have hc1 : (σ ++ [[]])[rc]? = some (code.map insV) := get_pre _ hc
  have he1 : (σ ++ [[]])[re]? = some (effs.map effV) := get_pre _ he
  unfold rowGo at e
  rw [hx] at e
  cases xs with
  | nil =>
    cases e
    refine .yes _ _ _ .cont (upd loc 7 (.int i)) (σ ++ [[]]) (.inr rfl) ?_ S1 (by simp [upd_ne, l5]) (by simp [upd_ne, l6]) (fun j hj => upd_ne _ _ (by (first | lia | omega))) (fun r hr => ?_)
    · simp [rowBody, upd_ne, l3, it S, nl, eq]
    · rw [List.getElem?_append_left]
      have := (List.getElem?_eq_some_iff.mp hσ).1
      (first | lia | omega)
  | cons a r =>
    dsimp only at e
    have mn := min_l (b0 + i) a r (σ ++ [[]]) hσ1
    have mx := max_l (b0 + i) a r (σ ++ [[]]) hσ1
    have ite : oItem tv (.lst re) (.int i) (σ ++ [[]]) = .ok (effV ef) (σ ++ [[]]) := item_l re i _ _ _ (by (first | lia | omega)) he1 (get_map hef)
    have itc : oItem tv (.lst rc) (.int i) (σ ++ [[]]) = .ok (insV code[i]) (σ ++ [[]]) := item_l rc i _ _ _ (by (first | lia | omega)) hc1 (get_map hcode)
    have i0 : ∀ σ, oItem tv (insV code[i]) (.int 0) σ = .ok (.int code[i].1) σ := fun _ => rfl
    have hsd : stepD code effs i (minL (a :: r)) = stepE code[i].1 ef (minL (a :: r)) := by unfold stepD; rw [hcode, hef]
    generalize minL (a :: r) = d at *
    have hzz : ∀ q, q < b0 → (σ ++ [[]])[q]? = σ[q]? := fun q hq => by
      rw [List.getElem?_append_left]
      have := (List.getElem?_eq_some_iff.mp hσ).1
      (first | lia | omega)
    generalize hz : σ ++ [[]] = z at *
    by_cases hmm' : d ≠ maxL (a :: r)
    · have hmm : ¬ d = maxL (a :: r) := hmm'
      rw [if_pos hmm'] at e
      cases e
      refine .no ⟨upd (upd loc 7 (.int i)) 8 (.int d), z⟩ ?_ hzz
      simp [rowBody, upd_ne, l3, it S, nl, eq, it S1, mn, mx, hmm]
    · have hmm : d = maxL (a :: r) := Classical.not_not.mp hmm'
      rw [if_neg hmm', hsd] at e
      cases ef with
      | none =>
        cases e
        refine .no ⟨upd (upd loc 7 (.int i)) 8 (.int d), z⟩ ?_ hzz
        simp [rowBody, upd_ne, l3, it S, nl, eq, it S1, mn, mx, hmm, l1, ite, is_eff]
      | some p =>
        obtain ⟨tk, gv⟩ := p
        by_cases htk : tk > d
        · have : stepE code[i].1 (some (tk, gv)) d = none := if_pos htk
          rw [this] at e
          have htk' : d < tk := htk
          cases e
          refine .no ⟨upd (upd loc 7 (.int i)) 8 (.int d), z⟩ ?_ hzz
          rw [hmm] at htk' mn
          simp [rowBody, upd_ne, l3, it S, nl, eq, it S1, mn, mx, hmm, l1, ite, is_eff, eff0, htk']
        · have hst : stepE code[i].1 (some (tk, gv)) d = some (behindOf code[i].1 (some (tk, gv)) d) := if_neg htk
          rw [hst, hcode] at e
          dsimp only at e
          have htk' : ¬ d < tk := htk
          have bh := r_behind (op := code[i].1) (d := d) (e := some (tk, gv)) (σ := z)
          generalize hb : behindOf code[i].1 (some (tk, gv)) d = b at *
          obtain ⟨rg, ex, gl, glen, gat⟩ := r_goals hc1 hcode hn wf (W.tl i _ hcode)
          have gat' : (z ++ ex)[rg]? = some ((goalsL code i code[i]).map V.int) := gat
          have S2 : SR (z ++ ex) rd b0 code.length L := S1.ext (.add _ _)
          have zl : b0 + i < z.length := (List.getElem?_eq_some_iff.mp hσ1).1
          have zl' : b0 + code.length ≤ z.length := by
            have hlast : code.length - 1 < code.length := by (first | lia | omega)
            obtain ⟨ys, _, h2⟩ := S1.some hlast
            have := (List.getElem?_eq_some_iff.mp h2).1
            (first | lia | omega)
          have glB : (goalsL code i code[i]).length ≤ 101 := by
            unfold goalsL
            rw [List.length_append]
            have h1 : (out0 code.length i code[i].1).length ≤ 1 := by unfold out0; split <;> simp
            have h2 := W.tl i _ hcode
            (first | lia | omega)
          have fs : ∀ loc, forS (.one 10) goBody loc (.lst rg) (z ++ ex) = forGo (.lst rg) ((goalsL code i code[i]).map V.int) (.one 10) goBody ((goalsL code i code[i]).map V.int) ⟨loc, z ++ ex⟩ := fun loc => forS_lst _ _ _ _ _ _ gat'
          let loc2 := upd (upd (upd (upd loc 7 (.int i)) 8 (.int d)) 9 (.int b)) 5 (.int (max (max m d) b))
          have pre : rowBody ⟨upd loc 7 (.int i), σ⟩ = (forGo (.lst rg) ((goalsL code i code[i]).map V.int) (.one 10) goBody ((goalsL code i code[i]).map V.int) ⟨loc2, z ++ ex⟩).bind (seqK sNil) := by
            rw [hmm] at htk' mn bh
            show _ = (forGo (.lst rg) ((goalsL code i code[i]).map V.int) (.one 10) goBody ((goalsL code i code[i]).map V.int) ⟨upd (upd (upd (upd loc 7 (.int i)) 8 (.int d)) 9 (.int b)) 5 (.int (max (max m d) b)), z ++ ex⟩).bind (seqK sNil)
            rw [hmm]
            simp [rowBody, upd_ne, l3, it S, nl, eq, it S1, mn, mx, l1, ite, is_eff, eff0, htk', l0, itc, i0, bh, l5, max3, gl, fs]
          obtain ⟨A, B⟩ := go_loop (b := b) (full := (goalsL code i code[i]).map V.int) hn hrc (show b0 + code.length ≤ rg by (first | lia | omega)) (goalsL code i code[i]) L t loc2 (z ++ ex) S2 (fun xs h => by have := hB xs h; (first | lia | omega))
            (by simp [loc2, upd_ne, l0]) (by simp [loc2, upd_ne, l3]) (by simp [loc2, upd_ne, l6]) (by simp [loc2, upd_ne]) (get_pre _ hc1) gat'
          cases hg : goalsGo code.length b (goalsL code i code[i]) L t with
          | none =>
            obtain ⟨st', q, p⟩ := A hg
            rw [hg] at e
            cases e
            exact .no st' (by rw [pre, q]; rfl) fun r' h => ((p r' h).trans (List.getElem?_append_left (by (first | lia | omega)))).trans (hzz r' h)
          | some p =>
            obtain ⟨L2, t2⟩ := p
            obtain ⟨loc', σ', q1, q2, q3, q4, q5⟩ := B L2 t2 hg
            rw [hg] at e
            cases e
            refine .yes _ _ _ .next loc' σ' (.inl rfl) (by rw [pre, q1]; rfl) q2 ((q4 5 (by decide) (by decide)).trans (by simp [loc2])) q3 (fun j hj => ?_) (fun r' hr' => ?_)
            · rw [q4 j (by (first | lia | omega)) (by (first | lia | omega))]
              simp only [loc2]
              rw [upd_ne _ _ (by (first | lia | omega)), upd_ne _ _ (by (first | lia | omega)), upd_ne _ _ (by (first | lia | omega)), upd_ne _ _ (by (first | lia | omega))]
            · rw [q5.2 r' (.inl hr'), List.getElem?_append_left (by (first | lia | omega)), ← hz, List.getElem?_append_left]
              have := (List.getElem?_eq_some_iff.mp hσ).1
              (first | lia | omega)
theorem row_body {ret : Int} {code : List Ins} {effs : List Eff} (W : WFs ret code effs) {rc re rd b0 : Nat} {i : Nat} (hi : i < code.length) (hrc : rc < b0) (hre : re < b0) {L : List (List Int)} {m : Int} {t : Bool} {loc : Nat → Option V} {σ : Sto} (S : SR σ rd b0 code.length L) (hB : ∀ xs ∈ L, xs.length ≤ 600)
    (l0 : loc 0 = some (.lst rc)) (l1 : loc 1 = some (.lst re)) (l3 : loc 3 = some (.lst rd)) (l5 : loc 5 = some (.int m)) (l6 : loc 6 = some (.bool t)) (hc : σ[rc]? = some (code.map insV)) (he : σ[re]? = some (effs.map effV)) :
    (rowGo code effs i L m t = none → ∃ st', rowBody ⟨upd loc 7 (.int i), σ⟩ = .ok (.ret (.int (-1))) st' ∧ ∀ q, q < b0 → st'.sto[q]? = σ[q]?) ∧
    (∀ L' m' t', rowGo code effs i L m t = some (L', m', t') → ∃ f loc' σ', (f = .next ∨ f = .cont) ∧ rowBody ⟨upd loc 7 (.int i), σ⟩ = .ok f ⟨loc', σ'⟩ ∧ SR σ' rd b0 code.length L' ∧ loc' 5 = some (.int m') ∧ loc' 6 = some (.bool t') ∧ (∀ j, j < 5 → loc' j = loc j) ∧ (∀ r, r < b0 → σ'[r]? = σ[r]?)) := by
  refine ⟨fun e => ?_, fun L' m' t' e => ?_⟩
  · cases row_bodyR W hi hrc hre S hB l0 l1 l3 l5 l6 hc he e with
    | no st' h k => exact ⟨st', h, k⟩
  · cases row_bodyR W hi hrc hre S hB l0 l1 l3 l5 l6 hc he e with
    | yes _ _ _ f loc' σ' hf h S h5 h6 hl hr => exact ⟨f, loc', σ', hf, h, S, h5, h6, hl, hr⟩

end Mine
end
section
set_option tactic.hygienic false
set_option backward.defeqAttrib.useBackward true
set_option maxRecDepth 100000
set_option linter.unusedSimpArgs false
open PySem PySem.W PyProof.Rows PySem.Calls
namespace Mine

set_option tactic.hygienic true in
theorem rowGo_len {code : List Ins} {effs : List Eff} {i : Nat} {L L' : List (List Int)} {m m' : Int} {t t' : Bool} (e : rowGo code effs i L m t = some (L', m', t')) {B : Nat} (h : ∀ xs ∈ L, xs.length ≤ B) : ∀ xs ∈ L', xs.length ≤ B + 1 := by
  unfold rowGo at e
  split at e
  · cases e
  · cases e; exact fun xs hx => Nat.le_succ_of_le (h xs hx)
  · split at e
    · cases e
    · split at e
      · cases e
      · split at e
        · cases e
        · split at e
          · cases e
          · rename_i hg
            cases e
            exact goalsGo_len hg h

theorem sweep_loop {ret : Int} {code : List Ins} {effs : List Eff} (W : WFs ret code effs) {rc re rd b0 : Nat} (hrc : rc < b0) (hre : re < b0) : ∀ (is : List Nat) (L : List (List Int)) (m : Int) (t : Bool) (loc : Nat → Option V) (σ : Sto), (∀ i ∈ is, i < code.length) → SR σ rd b0 code.length L → (∀ xs ∈ L, xs.length + is.length ≤ 600) →
    loc 0 = some (.lst rc) → loc 1 = some (.lst re) → loc 3 = some (.lst rd) → loc 5 = some (.int m) → loc 6 = some (.bool t) → σ[rc]? = some (code.map insV) → σ[re]? = some (effs.map effV) →
    (sweepGo code effs is L m t = none → ∃ st', forGo (.rng code.length) (rngV code.length) (.one 7) rowBody (is.map fun (k : Nat) => V.int (k : Int)) ⟨loc, σ⟩ = .ok (.ret (.int (-1))) st' ∧ ∀ q, q < b0 → st'.sto[q]? = σ[q]?) ∧
    (∀ L' m' t', sweepGo code effs is L m t = some (L', m', t') → ∃ loc' σ', forGo (.rng code.length) (rngV code.length) (.one 7) rowBody (is.map fun (k : Nat) => V.int (k : Int)) ⟨loc, σ⟩ = .ok .next ⟨loc', σ'⟩ ∧ SR σ' rd b0 code.length L' ∧ loc' 5 = some (.int m') ∧ loc' 6 = some (.bool t') ∧ (∀ j, j < 5 → loc' j = loc j) ∧ (∀ r, r < b0 → σ'[r]? = σ[r]?) ∧ ∀ B, (∀ xs ∈ L, xs.length ≤ B) → ∀ xs ∈ L', xs.length ≤ B + is.length)
  | [], L, m, t, loc, σ, _, S, _, l0, l1, l3, l5, l6, hc, he => ⟨fun e => (by cases e), fun L' m' t' e => by
    cases e
    exact ⟨loc, σ, forGo_nil (src := .rng code.length) (st := ⟨loc, σ⟩) rfl, S, l5, l6, fun _ _ => rfl, fun _ _ => rfl, fun B h => h⟩⟩
  | i :: is, L, m, t, loc, σ, his, S, hB, l0, l1, l3, l5, l6, hc, he => by
    rw [List.map_cons, forGo_one (src := .rng code.length) (full := rngV code.length) (st := ⟨loc, σ⟩) rfl]
    obtain ⟨A, B⟩ := row_body W (his i (.head _)) hrc hre S (fun xs h => by have := hB xs h; (first | lia | omega)) l0 l1 l3 l5 l6 hc he
    unfold sweepGo
    cases hr : rowGo code effs i L m t with
    | none =>
      obtain ⟨st', q, p⟩ := A hr
      exact ⟨fun _ => ⟨st', by rw [q]; rfl, p⟩, fun _ _ _ e => (by cases e)⟩
    | some p =>
      obtain ⟨L1, m1, t1⟩ := p
      obtain ⟨f, loc1, σ1, hf, q, S1, a5, a6, aj, ar⟩ := B L1 m1 t1 hr
      have go : (RS.ok f ⟨loc1, σ1⟩).bind (forK (.rng code.length) (rngV code.length) (.one 7) rowBody (is.map fun (k : Nat) => V.int (k : Int))) = forGo (.rng code.length) (rngV code.length) (.one 7) rowBody (is.map fun (k : Nat) => V.int (k : Int)) ⟨loc1, σ1⟩ := by
        rcases hf with rfl | rfl <;> rfl
      rw [q, go]
      obtain ⟨A2, B2⟩ := sweep_loop W hrc hre is L1 m1 t1 loc1 σ1 (fun j h => his j (.tail _ h)) S1 (fun xs h => by
          have hb : ∀ ys ∈ L, ys.length ≤ 600 - is.length - 1 := fun ys h => by have := hB ys h; rw [List.length_cons] at this; (first | lia | omega)
          have h600 : is.length + 1 ≤ 600 ∨ L = [] := by
            cases L with
            | nil => exact .inr rfl
            | cons y ys => have := hB y (.head _); rw [List.length_cons] at this; exact .inl (by (first | lia | omega))
          have := rowGo_len hr hb xs h
          rcases h600 with h6 | rfl
          · (first | lia | omega)
          · unfold rowGo at hr; simp at hr) ((aj 0 (by decide)).trans l0) ((aj 1 (by decide)).trans l1) ((aj 3 (by decide)).trans l3) a5 a6 ((ar rc hrc).trans hc) ((ar re hre).trans he)
      refine ⟨fun e => (by obtain ⟨st', q, p⟩ := A2 e; exact ⟨st', q, fun r' h => (p r' h).trans (ar r' h)⟩), fun L' m' t' e => ?_⟩
      obtain ⟨loc', σ', b1, b2, b3, b4, b5, b6, b7⟩ := B2 L' m' t' e
      refine ⟨loc', σ', b1, b2, b3, b4, fun j hj => (b5 j hj).trans (aj j hj), fun r hr' => (b6 r hr').trans (ar r hr'), fun Bd h xs hx => ?_⟩
      have := b7 (Bd + 1) (rowGo_len hr h) xs hx
      rw [List.length_cons]
      (first | lia | omega)

noncomputable def lwTest : DB := (dThen (dLoc 6) oTruth)
noncomputable def lwBody : DS := (sSeq (sAssign 6 (dBool false)) <|
    sSeq (sFor (dThen (dCons (dThen (dCons (dLoc 0) dNil) oLen) dNil) oRange) (.one 7) rowBody) <|
    sNil)
theorem lw_loop {ret : Int} {code : List Ins} {effs : List Eff} (W : WFs ret code effs) {rc re rd b0 : Nat} (hrc : rc < b0) (hre : re < b0) : ∀ (k fuel : Nat) (L : List (List Int)) (m : Int) (loc : Nat → Option V) (σ : Sto) (r : Option Int), k + 1 ≤ fuel → sloop code effs k L m = some r → SR σ rd b0 code.length L → (∀ xs ∈ L, xs.length + code.length * k ≤ 600) →
    loc 0 = some (.lst rc) → loc 1 = some (.lst re) → loc 3 = some (.lst rd) → loc 5 = some (.int m) → loc 6 = some (.bool true) → σ[rc]? = some (code.map insV) → σ[re]? = some (effs.map effV) →
    (r = none → ∃ st', whileGo lwTest lwBody fuel ⟨loc, σ⟩ = .ok (.ret (.int (-1))) st' ∧ ∀ q, q < b0 → st'.sto[q]? = σ[q]?) ∧ (∀ m', r = some m' → ∃ loc' σ', whileGo lwTest lwBody fuel ⟨loc, σ⟩ = .ok .next ⟨loc', σ'⟩ ∧ loc' 5 = some (.int m') ∧ ∀ q, q < b0 → σ'[q]? = σ[q]?)
  | 0, _, _, _, _, _, _, _, e, _, _, _, _, _, _, _, _, _ => by cases e
  | k + 1, fuel, L, m, loc, σ, r, hfu, e, S, hB, l0, l1, l3, l5, l6, hc, he => by
    have hn : code.length ≤ 100 := by have := W.n; (first | lia | omega)
    obtain ⟨f, rfl⟩ : ∃ f, fuel = f + 1 := ⟨fuel - 1, by (first | lia | omega)⟩
    have tt : lwTest ⟨loc, σ⟩ = .ok true σ := by simp [lwTest, l6]
    rw [wh_true tt]
    have ln := eg_len hc hn
    have fs : ∀ loc, forS (.one 7) rowBody loc (.rng code.length) σ = forGo (.rng code.length) (rngV code.length) (.one 7) rowBody (rngV code.length) ⟨loc, σ⟩ := fun loc => forS_rng _ _ _ _ _ ⟨by (first | lia | omega), by (first | lia | omega)⟩
    have hr : rngV code.length = (List.range code.length).map fun (k : Nat) => V.int (k : Int) := by unfold rngV; rw [Int.toNat_natCast]
    have pre : lwBody ⟨loc, σ⟩ = (forGo (.rng code.length) (rngV code.length) (.one 7) rowBody (rngV code.length) ⟨upd loc 6 (.bool false), σ⟩).bind (seqK sNil) := by
      simp [lwBody, upd_ne, l0, ln, fs]
    obtain ⟨A, B⟩ := sweep_loop W hrc hre (List.range code.length) L m false (upd loc 6 (.bool false)) σ (fun i h => List.mem_range.mp h) S (fun xs h => by
        have := hB xs h
        rw [List.length_range]
        have : code.length * (k + 1) = code.length * k + code.length := Nat.mul_succ _ _
        (first | lia | omega)) (by simp [upd_ne, l0]) (by simp [upd_ne, l1]) (by simp [upd_ne, l3]) (by simp [upd_ne, l5]) (by simp) hc he
    rw [← hr] at A B
    rw [pre]
    unfold sloop at e
    cases hs : sweepGo code effs (List.range code.length) L m false with
    | none =>
      rw [hs] at e
      cases e
      obtain ⟨st', q, p⟩ := A hs
      exact ⟨fun _ => ⟨st', by rw [q]; rfl, p⟩, fun _ q => (by cases q)⟩
    | some p =>
      obtain ⟨L', m', t'⟩ := p
      rw [hs] at e
      dsimp only at e
      obtain ⟨loc', σ', q, S', a5, a6, aj, ar, aB⟩ := B L' m' t' hs
      rw [q, RS.bind_ok, seqK_next, nil_ap, RS.bind_ok, whK_next]
      cases t' with
      | true =>
        rw [if_pos rfl] at e
        have hB' : ∀ xs ∈ L', xs.length + code.length * k ≤ 600 := fun xs h => by
          have hm : code.length * (k + 1) = code.length * k + code.length := Nat.mul_succ _ _
          have hx : ∀ ys ∈ L, ys.length ≤ 600 - code.length * (k + 1) := fun ys hy => by have := hB ys hy; (first | lia | omega)
          have := aB _ hx xs h
          rw [List.length_range] at this
          have h600 : code.length * (k + 1) ≤ 600 ∨ L = [] := by
            cases L with
            | nil => exact .inr rfl
            | cons y ys => have := hB y (.head _); exact .inl (by (first | lia | omega))
          rcases h600 with h6 | rfl
          · (first | lia | omega)
          · have h0 := S.len
            have h1 := S'.len
            simp at h0
            rw [← h0] at h1
            have : L' = [] := List.length_eq_zero_iff.mp h1
            rw [this] at h; cases h
        have key := lw_loop W hrc hre k f L' m' loc' σ' r (by (first | lia | omega)) e S' hB' ((aj 0 (by decide)).trans (by simp [upd_ne, l0])) ((aj 1 (by decide)).trans (by simp [upd_ne, l1])) ((aj 3 (by decide)).trans (by simp [upd_ne, l3])) a5 a6 ((ar rc hrc).trans hc) ((ar re hre).trans he)
        exact ⟨fun q => (by obtain ⟨st', a, p⟩ := key.1 q; exact ⟨st', a, fun r' h => (p r' h).trans (ar r' h)⟩), fun m2 q => (by obtain ⟨l', s', a, b, p⟩ := key.2 m2 q; exact ⟨l', s', a, b, fun r' h => (p r' h).trans (ar r' h)⟩)⟩
      | false =>
        rw [if_neg (by decide)] at e
        cases e
        obtain ⟨f', rfl⟩ : ∃ f', f = f' + 1 := ⟨f - 1, by (first | lia | omega)⟩
        have tf : lwTest ⟨loc', σ'⟩ = .ok false σ' := by simp [lwTest, a6]
        rw [wh_false tf]
        exact ⟨fun q => (by cases q), fun m2 q => (by cases q; exact ⟨loc', σ', rfl, a5, ar⟩)⟩
end Mine
end
section
set_option tactic.hygienic false
set_option backward.defeqAttrib.useBackward true
set_option maxRecDepth 100000
set_option linter.unusedSimpArgs false
open PySem PySem.W PyProof.Rows PySem.Calls
namespace Mine

theorem clStart_len (c : Cl) : (clStart c).length ≤ 2 := by unfold clStart; by_cases h : c.s = 1 <;> simp [h]
theorem clStarts_len : ∀ cs : List Cl, (clStarts cs).length ≤ 2 * cs.length
  | [] => by simp [clStarts]
  | c :: cs => by
    have e : clStarts (c :: cs) = clStart c ++ clStarts cs := rfl
    have := clStarts_len cs
    have := clStart_len c
    rw [e, List.length_append, List.length_cons]
    (first | lia | omega)
noncomputable def appL (L : List (List Int)) (p : Int × Int) : List (List Int) := match L[p.1.toNat]? with
  | some xs => L.set p.1.toNat (xs ++ [p.2])
  | none => L
noncomputable def appsL (L : List (List Int)) (l : List (Int × Int)) : List (List Int) := l.foldl appL L
theorem appL_len (L : List (List Int)) (p : Int × Int) : (appL L p).length = L.length := by unfold appL; split <;> simp
set_option tactic.hygienic true in
theorem appL_bound {L : List (List Int)} {p : Int × Int} {B : Nat} (h : ∀ xs ∈ L, xs.length ≤ B) : ∀ xs ∈ appL L p, xs.length ≤ B + 1 := by
  intro xs hx
  unfold appL at hx
  split at hx
  · rename_i ys hy
    rcases List.mem_or_eq_of_mem_set hx with hx | rfl
    · exact Nat.le_succ_of_le (h xs hx)
    · have := h ys (List.mem_of_getElem? hy); simp; (first | lia | omega)
  · exact Nat.le_succ_of_le (h xs hx)
theorem appsL_bound : ∀ {l : List (Int × Int)} {L : List (List Int)} {B : Nat}, (∀ xs ∈ L, xs.length ≤ B) → ∀ xs ∈ appsL L l, xs.length ≤ B + l.length
  | [], L, B, h => h
  | p :: l, L, B, h => fun xs hx => by
    have := appsL_bound (l := l) (appL_bound (p := p) h) xs hx
    rw [List.length_cons]; (first | lia | omega)

theorem app_step {σ : Sto} {rd b n : Nat} {L : List (List Int)} (S : SR σ rd b n L) (hB : ∀ xs ∈ L, xs.length ≤ 900) {k : Nat} (hk : k < n) (d : Int) : ∃ σ', oAppend [.lst (b + k), .int d] σ = .ok .none σ' ∧ SR σ' rd b n (appL L (k, d)) ∧ Same σ σ' b n := by
  have lim : limN = 1000 := rfl
  obtain ⟨xs, hx, hσ⟩ := S.some hk
  have hl := hB xs (List.mem_of_getElem? hx)
  have e : appL L (k, d) = L.set k (xs ++ [d]) := by unfold appL; simp [hx]
  refine ⟨σ.set (b + k) ((xs ++ [d]).map V.int), ?_, e ▸ S.set hx _, by simp, fun r h => List.getElem?_set_ne (by (first | lia | omega))⟩
  rw [append_l _ _ _ _ hσ (by rw [List.length_map]; (first | lia | omega))]; simp

noncomputable def dl (r0 k : Nat) : List V := (List.range k).map fun j => V.lst (r0 + 1 + j)
theorem dl_succ (r0 k : Nat) : dl r0 (k + 1) = dl r0 k ++ [V.lst (r0 + 1 + k)] := by unfold dl; rw [List.range_succ, List.map_append]; rfl
theorem comp_loop {rc : Nat} {full : List V} {loc : Nat → Option V} {σ₀ : Sto} {r0 : Nat} (hr : r0 = σ₀.length) (hc : σ₀[rc]? = some full) : ∀ (xs : List V) (k : Nat), k + xs.length ≤ 900 →
    compGo (.lst rc) full loc [] dT (dThen dNil oLst) r0 xs (σ₀ ++ [dl r0 k] ++ List.replicate k []) = .ok (.lst r0) (σ₀ ++ [dl r0 (k + xs.length)] ++ List.replicate (k + xs.length) [])
  | [], k, _ => by
    have hit : (Src.lst rc).items (σ₀ ++ [dl r0 k] ++ List.replicate k []) = some full := get_pre _ (get_pre _ hc)
    unfold compGo
    rw [if_pos hit]
    rfl
  | x :: xs, k, hk => by
    have lim : limN = 1000 := rfl
    rw [List.length_cons] at hk
    have hit : (Src.lst rc).items (σ₀ ++ [dl r0 k] ++ List.replicate k []) = some full := get_pre _ (get_pre _ hc)
    unfold compGo
    rw [if_pos hit, dT_ap, R.bind_ok, if_pos rfl, then_ap, lnil_ap, R.bind_ok, lst_ap _ _ (by simp [limN]), R.bind_ok]
    have hlen : (σ₀ ++ [dl r0 k] ++ List.replicate k ([] : List V)).length = r0 + 1 + k := by simp [hr]; (first | lia | omega)
    dsimp only
    rw [hlen]
    have g : (σ₀ ++ [dl r0 k] ++ List.replicate k ([] : List V) ++ [[]])[r0]? = some (dl r0 k) := get_pre _ (get_pre _ (hr ▸ get_last _ _))
    rw [append_l r0 (dl r0 k) _ _ g (by simp [dl]; (first | lia | omega)), R.bind_ok]
    have e : (σ₀ ++ [dl r0 k] ++ List.replicate k ([] : List V) ++ [[]]).set r0 (dl r0 k ++ [V.lst (r0 + 1 + k)]) = σ₀ ++ [dl r0 (k + 1)] ++ List.replicate (k + 1) [] := by
      rw [← dl_succ, hr]
      rw [List.set_append_left _ _ (by simp), List.set_append_left _ _ (by simp), List.set_append_right _ _ (Nat.le_refl _), Nat.sub_self, List.replicate_succ']
      simp
    rw [e]
    have := comp_loop (loc := loc) hr hc xs (k + 1) (by (first | lia | omega))
    rw [this]
    have h2 : k + 1 + xs.length = k + (xs.length + 1) := by (first | lia | omega)
    rw [h2, List.length_cons]

noncomputable def clBody : DS := (sSeq (sExpr (dMeth (dThen2 (dLoc 3) (dThen2 (dLoc 4) (dInt 3) (oItem tv)) (oItem tv)) (dCons (dIf (dThen (dThen2 (dThen2 (dLoc 4) (dInt 0) (oItem tv)) (dInt 2) (oIntCmp fun a b => decide (a < b))) oBoolV) (dInt 1) (dInt 0)) dNil) oAppend)) <|
    sSeq (sIf (dThen (dThen2 (dThen2 (dLoc 4) (dInt 0) (oItem tv)) (dInt 1) oEq) oBoolV)
      (sSeq (sExpr (dMeth (dThen2 (dLoc 3) (dThen2 (dLoc 4) (dInt 5) (oItem tv)) (oItem tv)) (dCons (dInt 1) dNil) oAppend)) <|
      sNil)
      (sNil)) <|
    sNil)
structure ClAt (n : Nat) (c : Cl) : Prop where
  s : 0 ≤ c.s
  h0 : ∃ k : Nat, c.h0 = k ∧ k < n
  ex : c.s = 1 → ∃ k : Nat, c.ex = k ∧ k < n
theorem cl_body {n rd b : Nat} {L : List (List Int)} {c : Cl} {loc : Nat → Option V} {σ : Sto} (C : ClAt n c) (hn : n ≤ 100) (S : SR σ rd b n L) (hB : ∀ xs ∈ L, xs.length ≤ 800) (l3 : loc 3 = some (.lst rd)) :
    ∃ σ', clBody ⟨upd loc 4 (clV c), σ⟩ = .ok .next ⟨upd loc 4 (clV c), σ'⟩ ∧ SR σ' rd b n (appsL L (clStart c)) ∧ Same σ σ' b n := by
  obtain ⟨k, hk, hkn⟩ := C.h0
  obtain ⟨xs, hx, hσ⟩ := S.some hkn
  have it := S.item hkn hn
  have mk : ∀ loc da k', methK da k' loc (.lst (b + k)) σ = (da ⟨loc, σ⟩).bind (methK2 k' (.lst (b + k))) := fun loc da k' => methK_ap _ _ _ _ _ _ hσ
  have hs := C.s
  obtain ⟨σ1, a1, S1, m1⟩ := app_step S (fun xs h => Nat.le_trans (hB xs h) (by decide)) hkn (if c.s = 0 ∨ c.s = 1 then 1 else 0)
  by_cases h1 : c.s = 1
  · obtain ⟨j, hj, hjn⟩ := C.ex h1
    have hB1 := appL_bound (p := ((k : Int), if c.s = 0 ∨ c.s = 1 then 1 else 0)) hB
    obtain ⟨ys, hy, hσ1⟩ := S1.some hjn
    have it1 := S1.item hjn hn
    have mk1 : ∀ loc da k', methK da k' loc (.lst (b + j)) σ1 = (da ⟨loc, σ1⟩).bind (methK2 k' (.lst (b + j))) := fun loc da k' => methK_ap _ _ _ _ _ _ hσ1
    obtain ⟨σ2, a2, S2, m2⟩ := app_step S1 (fun xs h => Nat.le_trans (hB1 xs h) (by decide)) hjn 1
    refine ⟨σ2, ?_, ?_, m2.1.trans m1.1, fun r h => (m2.2 r h).trans (m1.2 r h)⟩
    · rw [if_pos (.inr h1)] at a1
      have : c.s < 2 := by (first | lia | omega)
      simp [clBody, upd_ne, l3, hk, it, mk, h1, a1, hj, it1, mk1, a2]
    · unfold clStart
      rw [if_pos h1, hk, hj]
      exact S2
  · refine ⟨σ1, ?_, ?_, m1⟩
    · by_cases h0 : c.s = 0
      · rw [if_pos (.inl h0)] at a1
        simp [clBody, upd_ne, l3, hk, it, mk, h0, a1]
      · rw [if_neg (by (first | lia | omega))] at a1
        have : ¬ c.s < 2 := by (first | lia | omega)
        simp [clBody, upd_ne, l3, hk, it, mk, h1, this, a1]
    · unfold clStart
      rw [if_neg h1, hk]
      exact S1
theorem appsL_append (L : List (List Int)) (a b : List (Int × Int)) : appsL L (a ++ b) = appsL (appsL L a) b := List.foldl_append ..
theorem cl_loop {n rd b rk : Nat} {full : List V} (hn : n ≤ 100) (hrk : rk < b) : ∀ (cs : List Cl) (L : List (List Int)) (loc : Nat → Option V) (σ : Sto), (∀ c ∈ cs, ClAt n c) → SR σ rd b n L → (∀ xs ∈ L, xs.length + 2 * cs.length ≤ 800) → loc 3 = some (.lst rd) → σ[rk]? = some full →
    ∃ loc' σ', forGo (.lst rk) full (.one 4) clBody (cs.map clV) ⟨loc, σ⟩ = .ok .next ⟨loc', σ'⟩ ∧ (∀ j, j < 4 → loc' j = loc j) ∧ SR σ' rd b n (appsL L (clStarts cs)) ∧ Same σ σ' b n
  | [], L, loc, σ, _, S, _, l3, hk => ⟨loc, σ, forGo_nil (src := .lst rk) (st := ⟨loc, σ⟩) hk, fun _ _ => rfl, S, rfl, fun _ _ => rfl⟩
  | c :: cs, L, loc, σ, hC, S, hB, l3, hk => by
    obtain ⟨σ1, q, S1, m1⟩ := cl_body (hC c (.head _)) hn S (fun xs h => by have := hB xs h; (first | lia | omega)) l3
    have hl := clStart_len c
    obtain ⟨loc', σ', e, aj, S2, m2⟩ := cl_loop hn hrk cs (appsL L (clStart c)) (upd loc 4 (clV c)) σ1 (fun c h => hC c (.tail _ h)) S1 (fun xs h => by
        have hx : ∀ ys ∈ L, ys.length ≤ 800 - 2 * cs.length - 2 := fun ys hy => by have := hB ys hy; rw [List.length_cons] at this; (first | lia | omega)
        have := appsL_bound hx xs h
        have h8 : 2 * cs.length + 2 ≤ 800 ∨ L = [] := by
          cases L with
          | nil => exact .inr rfl
          | cons y ys => have := hB y (.head _); rw [List.length_cons] at this; exact .inl (by (first | lia | omega))
        rcases h8 with h8 | rfl
        · (first | lia | omega)
        · have := S.len
          have h2 := S1.len
          simp at this
          rw [← this] at h2
          rw [List.length_eq_zero_iff.mp h2] at h; cases h) (by simp [upd_ne, l3]) ((m1.2 rk (.inl hrk)).trans hk)
    rw [List.map_cons, forGo_one (src := .lst rk) (full := full) (st := ⟨loc, σ⟩) hk, q, RS.bind_ok, forK_next]
    refine ⟨loc', σ', e, fun j hj => (aj j hj).trans (upd_ne _ _ (by (first | lia | omega))), ?_, m2.1.trans m1.1, fun r h => (m2.2 r h).trans (m1.2 r h)⟩
    show SR σ' rd b n (appsL L (clStart c ++ clStarts cs))
    rw [appsL_append]
    exact S2

theorem r_most {ret : Int} {code : List Ins} {effs : List Eff} {cs : List Cl} {rc re rk : Nat} {σ : Sto} (W : WFs ret code effs) (hc : σ[rc]? = some (code.map insV)) (he : σ[re]? = some (effs.map effV)) (hk : σ[rk]? = some (cs.map clV)) (hcl : cs.length ≤ 10) (hpos : ∀ c ∈ cs, 0 ≤ c.s) :
    ((∃ c ∈ cs, clBadL code c) → ∃ σ', R__law_most [.lst rc, .lst re, .lst rk] σ = .ok (.int (-1)) σ' ∧ ∀ q, q < σ.length → σ'[q]? = σ[q]?) ∧
    ((¬ ∃ c ∈ cs, clBadL code c) → ∀ k r, k + 1 ≤ 100 → code.length * k ≤ 500 → sloop code effs k (appsL (List.replicate code.length []) (startsOf code.length cs)) 0 = some r → ∃ σ', R__law_most [.lst rc, .lst re, .lst rk] σ = .ok (.int (r.getD (-1))) σ' ∧ ∀ q, q < σ.length → σ'[q]? = σ[q]?) := by
  have lim : limN = 1000 := rfl
  have hn : code.length ≤ 100 := by have := W.n; (first | lia | omega)
  obtain ⟨σ0, e0, A, B⟩ := r_edges_good hn hc hk
  have D1 : R__law_most = runFn 3 (sSeq (sIf (dNot (dThen (dThen (dCons (dLoc 0) (dCons (dLoc 2) dNil)) R__law_edges_good) oTruth))
    (sSeq (sReturn (dThen (dInt 1) oNeg)) <|
    sNil)
    (sNil)) <|
  sSeq (sAssign 3 (dComp (dLoc 0) [] dT (dThen dNil oLst))) <|
  sSeq (sIf (dThen (dLoc 0) oTruth)
    (sSeq (sExpr (dMeth (dThen2 (dLoc 3) (dInt 0) (oItem tv)) (dCons (dInt 0) dNil) oAppend)) <|
    sNil)
    (sNil)) <|
  sSeq (sFor (dLoc 2) (.one 4) clBody) <|
  sSeq (sAssign 5 (dInt 0)) <|
  sSeq (sAssign 6 (dBool true)) <|
  sSeq (sWhile 100 lwTest lwBody) <|
  sSeq (sReturn (dLoc 5)) <|
  sNil) := rfl
  rw [D1]
  have e0q : ∀ q, q < σ.length → σ0[q]? = σ[q]? := fun q hq => by
    have hs : σ[q]? = some σ[q] := List.getElem?_eq_getElem hq
    rw [hs]; exact e0.get hs
  refine ⟨fun h => ⟨σ0, by simp [A h], e0q⟩, fun h k r hk1 hk2 hs => ?_⟩
  have eg := B h
  have hc0 := e0.get hc
  have he0 := e0.get he
  have hk0 := e0.get hk
  -- the comprehension
  have cmp : ∀ loc : Nat → Option V, loc 0 = some (.lst rc) → dComp (dLoc 0) [] dT (dThen dNil oLst) ⟨loc, σ0⟩ = .ok (.lst σ0.length) (σ0 ++ [dl σ0.length code.length] ++ List.replicate code.length []) := by
    intro loc l0
    have := comp_loop (loc := loc) rfl hc0 (code.map insV) 0 (by simp; (first | lia | omega))
    unfold dComp
    rw [loc_ap]
    dsimp only
    rw [l0, locK_some, R.bind_ok]
    show (match σ0[rc]? with | none => R.stuck | some full => noX (compGo (.lst rc) full loc [] dT (dThen dNil oLst) σ0.length full (σ0 ++ [[]]))) = _
    rw [hc0]
    dsimp only
    have e00 : σ0 ++ [dl σ0.length 0] ++ List.replicate 0 ([] : List V) = σ0 ++ [[]] := by simp [dl]
    rw [e00] at this
    rw [this]
    simp [noX]
  generalize hz : σ0 ++ [dl σ0.length code.length] ++ List.replicate code.length ([] : List V) = z at cmp
  have hcz : z[rc]? = some (code.map insV) := by rw [← hz]; exact get_pre _ (get_pre _ hc0)
  have hez : z[re]? = some (effs.map effV) := by rw [← hz]; exact get_pre _ (get_pre _ he0)
  have hkz : z[rk]? = some (cs.map clV) := by rw [← hz]; exact get_pre _ (get_pre _ hk0)
  have rcl : rc < σ0.length := (List.getElem?_eq_some_iff.mp hc0).1
  have rel : re < σ0.length := (List.getElem?_eq_some_iff.mp he0).1
  have rkl : rk < σ0.length := (List.getElem?_eq_some_iff.mp hk0).1
  have S0 : SR z σ0.length (σ0.length + 1) code.length (List.replicate code.length []) := by
    refine ⟨by rw [← hz]; exact get_pre _ (get_last _ _), by simp, fun j xs hx => ?_, Nat.lt_succ_self _⟩
    obtain ⟨hj, rfl⟩ := List.getElem?_eq_some_iff.mp hx
    have hj' : j < code.length := by simpa using hj
    have ei : σ0.length + 1 + j - (σ0 ++ [dl σ0.length code.length]).length = j := by rw [List.length_append, List.length_singleton]; (first | lia | omega)
    rw [← hz, List.getElem?_append_right (by simp), ei, List.getElem?_replicate, if_pos hj']
    simp
  have tr : oTruth (.lst rc) z = .ok (!code.isEmpty) z := by
    show (match z[rc]? with | some xs => if xs.length ≤ limN then R.ok (!xs.isEmpty) z else .stuck | none => .stuck) = _
    rw [hcz]
    dsimp only
    rw [if_pos (by rw [List.length_map]; (first | lia | omega))]
    cases code <;> rfl
  have hC : ∀ c ∈ cs, ClAt code.length c := fun c hcm => by
    have nb : ¬ clBadL code c := fun q => h ⟨c, hcm, q⟩
    unfold clBadL at nb
    have n1 : ¬ (code.length : Int) ≤ c.h0 := fun q => nb (.inr (.inl q))
    have n2 : ¬ (code.length : Int) ≤ c.ex := fun q => nb (.inr (.inr (.inl q)))
    have n3 : ∀ e ∈ edges c, ¬ edgeBad code e := fun e he q => nb (.inr (.inr (.inr ⟨e, he, q⟩)))
    have h0 : 0 ≤ c.h0 := by
      have := n3 c.h0 (by unfold edges; split <;> simp)
      unfold edgeBad at this
      (first | lia | omega)
    refine ⟨hpos c hcm, ⟨c.h0.toNat, by (first | lia | omega), by (first | lia | omega)⟩, fun hs1 => ?_⟩
    have : 0 ≤ c.ex := by
      have := n3 c.ex (by unfold edges; rw [if_pos hs1]; simp)
      unfold edgeBad at this
      (first | lia | omega)
    exact ⟨c.ex.toNat, by (first | lia | omega), by (first | lia | omega)⟩
  have fs : ∀ loc z', z'[rk]? = some (cs.map clV) → forS (.one 4) clBody loc (.lst rk) z' = forGo (.lst rk) (cs.map clV) (.one 4) clBody (cs.map clV) ⟨loc, z'⟩ := fun loc z' h => forS_lst _ _ _ _ _ _ h
  have hwhile : ∀ st, sWhile 100 lwTest lwBody st = whileGo lwTest lwBody 100 st := fun _ => rfl
  have b0 : ∀ xs ∈ List.replicate code.length ([] : List Int), xs.length ≤ 0 := fun xs hx => by rw [(List.mem_replicate.mp hx).2]; simp
  -- the start
  obtain ⟨z1, S1, m1, st1⟩ : ∃ z1, SR z1 σ0.length (σ0.length + 1) code.length (appsL (List.replicate code.length []) (if 0 < code.length then [(0, 0)] else [])) ∧ Same z z1 (σ0.length + 1) code.length ∧
      ∀ loc : Nat → Option V, loc 0 = some (.lst rc) → loc 3 = some (.lst σ0.length) → sIf (dThen (dLoc 0) oTruth) (sSeq (sExpr (dMeth (dThen2 (dLoc 3) (dInt 0) (oItem tv)) (dCons (dInt 0) dNil) oAppend)) sNil) sNil ⟨loc, z⟩ = .ok .next ⟨loc, z1⟩ := by
    by_cases hp : 0 < code.length
    · rw [if_pos hp]
      obtain ⟨xs, hx, hσ⟩ := S0.some hp
      have it := S0.item hp hn
      obtain ⟨z1, a1, S1, m1⟩ := app_step S0 (fun xs h => Nat.le_trans (b0 xs h) (by decide)) hp 0
      have mk : ∀ loc da k', methK da k' loc (.lst (σ0.length + 1 + 0)) z = (da ⟨loc, z⟩).bind (methK2 k' (.lst (σ0.length + 1 + 0))) := fun loc da k' => methK_ap _ _ _ _ _ _ hσ
      refine ⟨z1, S1, m1, fun loc l0 l3 => ?_⟩
      have hne : code ≠ [] := fun q => by rw [q] at hp; cases hp
      have it' : oItem tv (.lst σ0.length) (.int 0) z = .ok (.lst (σ0.length + 1 + 0)) z := it
      rw [if_ap, then_ap, loc_ap]
      dsimp only
      rw [l0, locK_some, R.bind_ok, tr]
      have : code.isEmpty = false := by cases code with | nil => exact absurd rfl hne | cons _ _ => rfl
      rw [this]
      simp only [R.bindS_ok, ifK_ap, Bool.not_false, if_true, seq_ap, expr_ap, meth_ap, then2_ap, loc_ap, l3, locK_some, R.bind_ok, k2_ap, int_ap, it', mk, lcons_ap, consK_ap, lnil_ap, consK2_ap, methK2_ap, a1, exprK_ap, RS.bind_ok, seqK_next, nil_ap]
    · rw [if_neg hp]
      have hc0 : code = [] := List.length_eq_zero_iff.mp (by (first | lia | omega))
      refine ⟨z, S0, ⟨rfl, fun _ _ => rfl⟩, fun loc l0 l3 => ?_⟩
      rw [if_ap, then_ap, loc_ap]
      dsimp only
      rw [l0, locK_some, R.bind_ok, tr, hc0]
      rfl
  have hb1 : ∀ xs ∈ appsL (List.replicate code.length []) (if 0 < code.length then [(0, 0)] else []), xs.length ≤ 1 := fun xs hx => by
    have := appsL_bound b0 xs hx
    have h1 : (if 0 < code.length then [((0 : Int), (0 : Int))] else []).length ≤ 1 := by split <;> simp
    (first | lia | omega)
  obtain ⟨loc2, z2, q2, aj, S2, m2⟩ := cl_loop (full := cs.map clV) hn (show rk < σ0.length + 1 by (first | lia | omega)) cs _ (upd (argL [.lst rc, .lst re, .lst rk]) 3 (.lst σ0.length)) z1 hC S1 (fun xs hx => by have := hb1 xs hx; (first | lia | omega)) (by simp) ((m1.2 rk (.inl (by (first | lia | omega)))).trans hkz)
  rw [← appsL_append] at S2
  have S2' : SR z2 σ0.length (σ0.length + 1) code.length (appsL (List.replicate code.length []) (startsOf code.length cs)) := S2
  have hb2 : ∀ xs ∈ appsL (List.replicate code.length []) (startsOf code.length cs), xs.length + code.length * k ≤ 600 := fun xs hx => by
    have hl : (startsOf code.length cs).length ≤ 1 + 2 * cs.length := by
      unfold startsOf
      rw [List.length_append]
      have h1 : (if 0 < code.length then [((0 : Int), (0 : Int))] else []).length ≤ 1 := by split <;> simp
      have h2 := clStarts_len cs
      (first | lia | omega)
    have := appsL_bound b0 xs hx
    (first | lia | omega)
  have hcz2 : z2[rc]? = some (code.map insV) := (m2.2 rc (.inl (by (first | lia | omega)))).trans ((m1.2 rc (.inl (by (first | lia | omega)))).trans hcz)
  have hez2 : z2[re]? = some (effs.map effV) := (m2.2 re (.inl (by (first | lia | omega)))).trans ((m1.2 re (.inl (by (first | lia | omega)))).trans hez)
  obtain ⟨X, Y⟩ := lw_loop W (rc := rc) (re := re) (rd := σ0.length) (b0 := σ0.length + 1) (by (first | lia | omega)) (by (first | lia | omega)) k 100 _ 0 (upd (upd loc2 5 (.int 0)) 6 (.bool true)) z2 r hk1 hs S2' hb2
    (by simp [upd_ne, aj]) (by simp [upd_ne, aj]) (by simp [upd_ne, aj]) (by simp [upd_ne]) (by simp) hcz2 hez2
  have hkz1 : z1[rk]? = some (cs.map clV) := (m1.2 rk (.inl (by (first | lia | omega)))).trans hkz
  have el := e0.len
  have fr : ∀ r', r' < σ.length → z2[r']? = σ[r']? := fun r' h => by
    rw [m2.2 r' (.inl (by (first | lia | omega))), m1.2 r' (.inl (by (first | lia | omega))), ← hz, List.append_assoc, List.getElem?_append_left (by (first | lia | omega))]
    exact e0q r' h
  have cmp' := cmp (argL [.lst rc, .lst re, .lst rk]) rfl
  have st1' := st1 (upd (argL [.lst rc, .lst re, .lst rk]) 3 (.lst σ0.length)) (by simp [upd_ne]) (by simp)
  rw [run3]
  rw [seq_ap, if_ap, not_ap]
  simp only [then_ap, lcons_ap, loc_ap, argL_0, argL_2, locK_some, R.bind_ok, consK_ap, lnil_ap, consK2_ap, eg, truth_b, notK_ap, R.bindS_ok, ifK_ap, Bool.not_true, Bool.false_eq_true, if_false, nil_ap, RS.bind_ok, seqK_next]
  rw [seq_ap, asg_ap, cmp', R.bindS_ok, asgK_ap, RS.bind_ok, seqK_next, seq_ap, st1', RS.bind_ok, seqK_next, seq_ap, for_ap, loc_ap]
  simp only [upd_ne _ _ (show (2 : Nat) ≠ 3 by decide), argL_2, locK_some, R.bindS_ok, fs _ _ hkz1, q2, RS.bind_ok, seqK_next, seq_ap, asg_ap, int_ap, bool_ap, asgK_ap, hwhile]
  cases r with
  | none =>
    obtain ⟨st', q, p⟩ := X rfl
    exact ⟨st'.sto, by rw [q]; rfl, fun r' h => (p r' (by (first | lia | omega))).trans (fr r' h)⟩
  | some m =>
    obtain ⟨loc', σ', q, l5, p⟩ := Y m rfl
    exact ⟨σ', by rw [q]; simp [l5], fun r' h => (p r' (by (first | lia | omega))).trans (fr r' h)⟩
end Mine
end
section
set_option tactic.hygienic false
set_option backward.defeqAttrib.useBackward true
set_option maxRecDepth 100000
set_option linter.unusedSimpArgs false
open PySem PySem.W PyProof.Rows PySem.Calls
namespace Mine

/-! # what both sides say -/
inductive Reach (code : List Ins) (effs : List Eff) (st : List (Int × Int)) : Nat → Int → Prop
  | start {k : Nat} {d : Int} : ((k : Int), d) ∈ st → Reach code effs st k d
  | step {i k : Nat} {d b : Int} {p : Ins} : Reach code effs st i d → stepD code effs i d = some b → code[i]? = some p → (k : Int) ∈ goalsL code i p → Reach code effs st k b
noncomputable def Valid (code : List Ins) (i : Nat) : Prop := ∀ p, code[i]? = some p → ∀ g ∈ goalsL code i p, 0 ≤ g ∧ g < (code.length : Int)
noncomputable def Fault (code : List Ins) (effs : List Eff) (st : List (Int × Int)) : Prop :=
  (∃ i d, Reach code effs st i d ∧ (stepD code effs i d = none ∨ ¬ Valid code i)) ∨ ∃ i d d', Reach code effs st i d ∧ Reach code effs st i d' ∧ d ≠ d'
noncomputable def Att (code : List Ins) (effs : List Eff) (st : List (Int × Int)) (m : Int) : Prop := 0 ≤ m ∧ (m = 0 ∨ ∃ i d b, Reach code effs st i d ∧ stepD code effs i d = some b ∧ (m = d ∨ m = b))
noncomputable def Spec (code : List Ins) (effs : List Eff) (st : List (Int × Int)) : Option Int → Prop
  | none => Fault code effs st
  | some m => ¬ Fault code effs st ∧ Att code effs st m ∧ ∀ i d b, Reach code effs st i d → stepD code effs i d = some b → d ≤ m ∧ b ≤ m

section
variable {code : List Ins} {effs : List Eff} {st : List (Int × Int)}

theorem Spec.le {m m' : Int} (a : Att code effs st m) (h : ∀ i d b, Reach code effs st i d → stepD code effs i d = some b → d ≤ m' ∧ b ≤ m') (h0 : 0 ≤ m') : m ≤ m' := by
  rcases a.2 with rfl | ⟨i, d, b, r, s, q⟩
  · exact h0
  · have := h i d b r s
    rcases q with rfl | rfl
    · exact this.1
    · exact this.2
theorem Spec.eq : ∀ {r r' : Option Int}, Spec code effs st r → Spec code effs st r' → r = r'
  | none, none, _, _ => rfl
  | none, some _, a, b => absurd a b.1
  | some _, none, a, b => absurd b a.1
  | some m, some m', a, b => by
    have h1 := Spec.le a.2.1 b.2.2 b.2.1.1
    have h2 := Spec.le b.2.1 a.2.2 a.2.1.1
    rw [Int.le_antisymm h1 h2]

theorem spec_closed {P : Nat → Int → Prop} {m : Int} (hs : ∀ (k : Nat) (d : Int), ((k : Int), d) ∈ st → P k d)
    (hc : ∀ i d, P i d → ∃ b p, stepD code effs i d = some b ∧ code[i]? = some p ∧ d ≤ m ∧ b ≤ m ∧ ∀ g ∈ goalsL code i p, ∃ j : Nat, g = j ∧ j < code.length ∧ P j b)
    (hf : ∀ i d d', P i d → P i d' → d = d') (hm : Att code effs st m) : Spec code effs st (some m) := by
  have sub : ∀ i d, Reach code effs st i d → P i d := by
    intro i d r
    induction r with
    | start h => exact hs _ _ h
    | step r s cp g ih =>
      obtain ⟨b', p', h1, h2, _, _, h3⟩ := hc _ _ ih
      rw [s] at h1; cases h1
      rw [cp] at h2; cases h2
      obtain ⟨j, hj, _, hP⟩ := h3 _ g
      have : _ = j := Int.ofNat.inj hj
      subst this
      exact hP
  refine ⟨fun F => ?_, hm, fun i d b r s => ?_⟩
  · rcases F with ⟨i, d, r, q⟩ | ⟨i, d, d', r, r', ne⟩
    · obtain ⟨b, p, h1, h2, _, _, h3⟩ := hc i d (sub i d r)
      rcases q with q | q
      · rw [h1] at q; cases q
      · refine q fun p' hp' g hg => ?_
        rw [h2] at hp'; cases hp'
        obtain ⟨j, rfl, hj, _⟩ := h3 g hg
        (first | lia | omega)
    · exact ne (hf i d d' (sub i d r) (sub i d' r'))
  · obtain ⟨b', p, h1, _, h3, h4, _⟩ := hc i d (sub i d r)
    rw [s] at h1; cases h1
    exact ⟨h3, h4⟩
theorem att_max {m d b : Int} {i : Nat} (a : Att code effs st m) (r : Reach code effs st i d) (s : stepD code effs i d = some b) (h0 : 0 ≤ m) : Att code effs st (max (max m d) b) := by
  refine ⟨by (first | lia | omega), ?_⟩
  by_cases h1 : max m d ≤ b
  · exact .inr ⟨i, d, b, r, s, .inr (by (first | lia | omega))⟩
  · by_cases h2 : m ≤ d
    · exact .inr ⟨i, d, b, r, s, .inl (by (first | lia | omega))⟩
    · have : max (max m d) b = m := by (first | lia | omega)
      rw [this]; exact a.2

/-! ## the worklist -/
theorem succGo_spec {n : Nat} : ∀ (gs out : List Int), (∀ o, succGo n out gs = some o → (∀ g, g ∈ o ↔ g ∈ out ∨ g ∈ gs) ∧ ∀ g ∈ gs, 0 ≤ g ∧ g < (n : Int)) ∧ (succGo n out gs = none → ∃ g ∈ gs, ¬ (0 ≤ g ∧ g < (n : Int)))
  | [], out => ⟨(fun o e => by cases e; exact ⟨(fun g => by simp), (fun g h => by cases h)⟩), (fun e => by cases e)⟩
  | g :: gs, out => by
    unfold succGo
    by_cases h : g < 0 ∨ (n : Int) ≤ g
    · rw [if_pos h]
      exact ⟨(fun o e => by cases e), (fun _ => ⟨g, .head _, by (first | lia | omega)⟩)⟩
    · rw [if_neg h]
      obtain ⟨A, B⟩ := succGo_spec gs (if out.contains g then out else out ++ [g])
      refine ⟨fun o e => ?_, fun e => ?_⟩
      · obtain ⟨a1, a2⟩ := A o e
        refine ⟨fun x => ?_, fun x hx => ?_⟩
        · rw [a1]
          by_cases hg : out.contains g = true
          · rw [if_pos hg]
            have : g ∈ out := by simpa using hg
            constructor
            · rintro (q | q)
              · exact .inl q
              · exact .inr (.tail _ q)
            · rintro (q | q)
              · exact .inl q
              · rcases List.mem_cons.mp q with rfl | q
                · exact .inl this
                · exact .inr q
          · rw [if_neg hg]
            simp only [List.mem_append, List.mem_cons, List.not_mem_nil, or_false]
            constructor
            · rintro ((q | q) | q)
              · exact .inl q
              · exact .inr (.inl q)
              · exact .inr (.inr q)
            · rintro (q | q | q)
              · exact .inl (.inl q)
              · exact .inl (.inr q)
              · exact .inr q
        · rcases List.mem_cons.mp hx with rfl | hx
          · (first | lia | omega)
          · exact a2 x hx
      · obtain ⟨x, hx, hb⟩ := B e
        exact ⟨x, .tail _ hx, hb⟩
theorem out0_valid {n i : Nat} {op : Int} : ∀ g ∈ out0 n i op, 0 ≤ g ∧ g < (n : Int) := by
  intro g hg
  unfold out0 at hg
  split at hg
  · rw [List.mem_singleton] at hg
    (first | lia | omega)
  · cases hg
set_option tactic.hygienic true in
theorem succD_some {i : Nat} {gs : List Int} (e : succD code i = some gs) : ∃ p, code[i]? = some p ∧ (∀ g, g ∈ gs ↔ g ∈ goalsL code i p) ∧ ∀ g ∈ gs, 0 ≤ g ∧ g < (code.length : Int) := by
  unfold succD at e
  split at e
  · rename_i p hp
    obtain ⟨a1, a2⟩ := (succGo_spec (n := code.length) (tgt p) (out0 code.length i p.1)).1 gs e
    refine ⟨p, hp, fun g => by rw [a1]; unfold goalsL; rw [List.mem_append], fun g hg => ?_⟩
    rcases (a1 g).mp hg with q | q
    · exact out0_valid g q
    · exact a2 g q
  · cases e
theorem succD_none {i : Nat} (hi : i < code.length) (e : succD code i = none) : ¬ Valid code i := by
  have hp : code[i]? = some code[i] := List.getElem?_eq_getElem hi
  unfold succD at e
  rw [hp] at e
  obtain ⟨g, hg, hb⟩ := (succGo_spec (n := code.length) (tgt code[i]) (out0 code.length i code[i].1)).2 e
  exact fun V => hb (V _ hp g (List.mem_append_right _ hg))

theorem entrs_spec {n : Nat} : ∀ (l : List (Int × Int)) {D w D' w' : List Int}, WInv n D w → (∀ p ∈ l, 0 ≤ p.2) → entrs D w l = some (D', w') →
    WInv n D' w' ∧ (∀ (k : Nat) (x : Int), D[k]? = some x → 0 ≤ x → D'[k]? = some x) ∧ (∀ (k : Nat) (x : Int), D'[k]? = some x → 0 ≤ x → D[k]? = some x ∨ ((k : Int) ∈ w' ∧ ((k : Int), x) ∈ l)) ∧
      (∀ p ∈ l, ∃ k : Nat, p.1 = k ∧ D'[k]? = some p.2) ∧ (∀ i ∈ w, i ∈ w') ∧ w'.length + neg D' = w.length + neg D
  | [], D, w, D', w', I, _, e => by cases e; exact ⟨I, (fun _ _ h _ => h), (fun _ _ h _ => .inl h), (fun p h => by cases h), (fun _ h => h), rfl⟩
  | (i, d) :: l, D, w, D', w', I, h, e => by
    unfold entrs at e
    cases e1 : entr D w i d with
    | none => rw [e1] at e; cases e
    | some p =>
      obtain ⟨D1, w1⟩ := p
      rw [e1] at e
      dsimp only at e
      have hd : 0 ≤ d := h _ (.head _)
      obtain ⟨I1, ⟨k, hk, hkd⟩, keep, new, sum, cs⟩ := enter_inv I hd e1
      obtain ⟨I2, keep2, new2, all2, sub2, sum2⟩ := entrs_spec l I1 (fun p q => h p (.tail _ q)) e
      have sub1 : ∀ j ∈ w, j ∈ w1 := fun j hj => by
        rcases cs with ⟨_, rfl⟩ | ⟨rfl, _⟩
        · exact hj
        · exact List.mem_append_left _ hj
      refine ⟨I2, fun j x hx h0 => keep2 j x (keep j x hx h0) h0, fun j x hx h0 => ?_, fun p hp => ?_, fun j hj => sub2 j (sub1 j hj), sum2.trans sum⟩
      · rcases new2 j x hx h0 with q | ⟨q, q'⟩
        · rcases new j x q h0 with q1 | ⟨q1, rfl⟩
          · exact .inl q1
          · rcases cs with ⟨rfl, _⟩ | ⟨rfl, _⟩
            · exact .inl q
            · exact .inr ⟨sub2 _ (by rw [q1]; simp), by rw [q1]; exact .head _⟩
        · exact .inr ⟨q, .tail _ q'⟩
      · rcases List.mem_cons.mp hp with rfl | hp
        · exact ⟨k, hk, keep2 k d hkd hd⟩
        · exact all2 p hp
set_option tactic.hygienic true in
theorem entrs_none {n : Nat} : ∀ (l : List (Int × Int)) {D w : List Int}, WInv n D w → (∀ p ∈ l, 0 ≤ p.2) → entrs D w l = none →
    ∃ p ∈ l, ¬ (0 ≤ p.1 ∧ p.1 < (n : Int)) ∨ ∃ (k : Nat) (x : Int), p.1 = k ∧ x ≠ p.2 ∧ ((D[k]? = some x ∧ 0 ≤ x) ∨ ((k : Int), x) ∈ l)
  | [], D, w, I, _, e => by cases e
  | (i, d) :: l, D, w, I, h, e => by
    unfold entrs at e
    have hd : 0 ≤ d := h _ (.head _)
    cases e1 : entr D w i d with
    | none =>
      refine ⟨(i, d), .head _, ?_⟩
      unfold entr at e1
      split at e1
      · rename_i hb
        rw [I.len] at hb
        exact .inl (by dsimp only; (first | lia | omega))
      · rename_i hb
        obtain ⟨k, rfl⟩ := Int.eq_ofNat_of_zero_le (show 0 ≤ i by (first | lia | omega))
        rw [Int.toNat_natCast] at e1
        split at e1
        · rename_i hx
          have := List.getElem?_eq_none_iff.mp hx
          (first | lia | omega)
        · rename_i x hx
          split at e1
          · cases e1
          · rename_i hx0
            split at e1
            · rename_i hxd
              exact .inr ⟨k, x, rfl, hxd, .inl ⟨hx, by (first | lia | omega)⟩⟩
            · cases e1
    | some p =>
      obtain ⟨D1, w1⟩ := p
      rw [e1] at e
      dsimp only at e
      obtain ⟨I1, _, _, new, _, cs⟩ := enter_inv I hd e1
      obtain ⟨p, hp, q⟩ := entrs_none l I1 (fun p q => h p (.tail _ q)) e
      refine ⟨p, .tail _ hp, q.imp id ?_⟩
      rintro ⟨k, x, a, b, c⟩
      refine ⟨k, x, a, b, ?_⟩
      rcases c with ⟨c, c0⟩ | c
      · rcases new k x c c0 with q1 | ⟨q1, rfl⟩
        · exact .inl ⟨q1, c0⟩
        · exact .inr (by rw [q1]; exact .head _)
      · exact .inr (.tail _ c)

structure WI (code : List Ins) (effs : List Eff) (st : List (Int × Int)) (D w : List Int) (m : Int) : Prop where
  inv : WInv code.length D w
  r : ∀ (k : Nat) (x : Int), D[k]? = some x → 0 ≤ x → Reach code effs st k x
  sts : ∀ p ∈ st, ∃ k : Nat, p.1 = k ∧ D[k]? = some p.2
  done : ∀ (k : Nat) (x : Int), D[k]? = some x → 0 ≤ x → (k : Int) ∉ w → ∃ b p, stepD code effs k x = some b ∧ code[k]? = some p ∧ x ≤ m ∧ b ≤ m ∧ ∀ g ∈ goalsL code k p, ∃ j : Nat, g = j ∧ D[j]? = some b
  m : Att code effs st m

theorem w_spec {ret : Int} (W : WFs ret code effs) (hst : ∀ p ∈ st, 0 ≤ p.2) : ∀ (k : Nat) (D w : List Int) (m : Int), WI code effs st D w m → w.length + neg D < k → ∃ r, wloop code effs k D w m = some r ∧ Spec code effs st r
  | 0, _, _, _, _, h => by (first | lia | omega)
  | k + 1, D, w, m, I, hk => by
    unfold wloop
    cases hl : w.getLast? with
    | none =>
      have hw : w = [] := List.getLast?_eq_none_iff.mp hl
      subst hw
      refine ⟨some m, rfl, spec_closed (P := fun k x => D[k]? = some x ∧ 0 ≤ x) (fun k d h => ?_) (fun i d ⟨h1, h2⟩ => ?_) (fun i d d' h h' => ?_) I.m⟩
      · obtain ⟨j, hj, e⟩ := I.sts _ h
        have : k = j := Int.ofNat.inj hj
        subst this
        exact ⟨e, hst _ h⟩
      · obtain ⟨b, p, a1, a2, a3, a4, a5⟩ := I.done i d h1 h2 (by simp)
        refine ⟨b, p, a1, a2, a3, a4, fun g hg => ?_⟩
        obtain ⟨j, rfl, e⟩ := a5 g hg
        exact ⟨j, rfl, I.inv.len ▸ (List.getElem?_eq_some_iff.mp e).1, e, stepD_pos W a1⟩
      · rw [h.1] at h'; exact Option.some.inj h'.1
    | some i =>
      have hwe := last_split hl
      obtain ⟨v, rfl, hvn, d, hdv, hd0⟩ := I.inv.rng i (by rw [hwe]; simp)
      have rd := I.r v d hdv hd0
      dsimp only
      rw [Int.toNat_natCast, hdv]
      dsimp only
      cases hs : stepD code effs v d with
      | none => exact ⟨none, rfl, .inl ⟨v, d, rd, .inl hs⟩⟩
      | some b =>
        dsimp only
        have hb := stepD_pos W hs
        cases hg : succD code v with
        | none => exact ⟨none, rfl, .inl ⟨v, d, rd, .inr (succD_none hvn hg)⟩⟩
        | some gs =>
          dsimp only
          obtain ⟨p, hp, gi, gv⟩ := succD_some hg
          have hlen : w.length = w.dropLast.length + 1 := by have := congrArg List.length hwe; rw [List.length_append, List.length_singleton] at this; exact this
          have I1 : WInv code.length D w.dropLast := ⟨I.inv.len, by have := I.inv.sum; (first | lia | omega), fun j hj => I.inv.rng j (by rw [hwe]; exact List.mem_append_left _ hj)⟩
          have hpos : ∀ q ∈ gs.map (fun g => (g, b)), 0 ≤ q.2 := fun q hq => by obtain ⟨g, _, rfl⟩ := List.mem_map.mp hq; exact hb
          have rg : ∀ (j : Nat) (x : Int), ((j : Int), x) ∈ gs.map (fun g => (g, b)) → Reach code effs st j x := fun j x hj => by
            obtain ⟨g, hgm, e⟩ := List.mem_map.mp hj
            cases e
            exact .step rd hs hp ((gi _).mp hgm)
          cases he : entrs D w.dropLast (gs.map fun g => (g, b)) with
          | none =>
            refine ⟨none, rfl, ?_⟩
            obtain ⟨q, hq, c⟩ := entrs_none _ I1 hpos he
            obtain ⟨g, hgm, rfl⟩ := List.mem_map.mp hq
            rcases c with c | ⟨j, x, e1, e2, e3⟩
            · exact absurd (gv g hgm) c
            · have e1 : g = j := e1
              subst e1
              have r2 := rg j b hq
              rcases e3 with ⟨e3, e4⟩ | e3
              · exact .inr ⟨j, x, b, I.r j x e3 e4, r2, e2⟩
              · exact .inr ⟨j, x, b, rg j x e3, r2, e2⟩
          | some q =>
            obtain ⟨D', w'⟩ := q
            dsimp only
            obtain ⟨I2, keep, new, all, sub, sum⟩ := entrs_spec _ I1 hpos he
            refine w_spec W hst k D' w' _ ⟨I2, fun j x hx h0 => ?_, fun q hq => ?_, fun j x hx h0 hj => ?_, att_max I.m rd hs I.m.1⟩ (by (first | lia | omega))
            · rcases new j x hx h0 with q | ⟨_, q⟩
              · exact I.r j x q h0
              · exact rg j x q
            · obtain ⟨j, e1, e2⟩ := I.sts q hq
              exact ⟨j, e1, keep j _ e2 (hst q hq)⟩
            · rcases new j x hx h0 with q | ⟨q, _⟩
              · by_cases hjv : j = v
                · subst hjv
                  rw [hdv] at q; cases q
                  refine ⟨b, p, hs, hp, by (first | lia | omega), by (first | lia | omega), fun g hg' => ?_⟩
                  obtain ⟨j', e1, e2⟩ := all (g, b) (List.mem_map.mpr ⟨g, (gi g).mpr hg', rfl⟩)
                  exact ⟨j', e1, e2⟩
                · obtain ⟨b', p', a1, a2, a3, a4, a5⟩ := I.done j x q h0 fun z => by
                    rw [hwe] at z
                    rcases List.mem_append.mp z with z | z
                    · exact hj (sub _ z)
                    · rw [List.mem_singleton] at z
                      exact hjv (Int.ofNat.inj z)
                  refine ⟨b', p', a1, a2, by (first | lia | omega), by (first | lia | omega), fun g hg' => ?_⟩
                  obtain ⟨j', e1, e2⟩ := a5 g hg'
                  exact ⟨j', e1, keep j' b' e2 (stepD_pos W a1)⟩
              · exact absurd q hj
theorem ms_spec {ret : Int} {cs : List Cl} (W : WFs ret code effs) (hpos : ∀ p ∈ startsOf code.length cs, 0 ≤ p.2 ∧ 0 ≤ p.1 ∧ p.1 < (code.length : Int)) : ∃ r, msRun code effs cs = some r ∧ Spec code effs (startsOf code.length cs) r := by
  unfold msRun
  have I0 := winv0 code.length
  have hp : ∀ p ∈ startsOf code.length cs, 0 ≤ p.2 := fun p h => (hpos p h).1
  cases he : entrs (List.replicate code.length (-1)) [] (startsOf code.length cs) with
  | none =>
    refine ⟨none, rfl, ?_⟩
    obtain ⟨p, hpm, c⟩ := entrs_none _ I0 hp he
    obtain ⟨i, d⟩ := p
    rcases c with c | ⟨k, x, e1, e2, e3⟩
    · exact absurd (hpos _ hpm).2 c
    · have e1 : i = k := e1
      subst e1
      rcases e3 with ⟨e3, e4⟩ | e3
      · have := List.mem_of_getElem? e3
        rw [List.mem_replicate] at this
        (first | lia | omega)
      · exact .inr ⟨k, x, d, .start e3, .start hpm, e2⟩
  | some p =>
    obtain ⟨D, w⟩ := p
    dsimp only
    obtain ⟨I, keep, new, all, sub, sum⟩ := entrs_spec _ I0 hp he
    have isN : ∀ (k : Nat) (x : Int), (List.replicate code.length (-1 : Int))[k]? = some x → ¬ 0 ≤ x := fun k x e h => by
      have := List.mem_of_getElem? e
      rw [List.mem_replicate] at this
      (first | lia | omega)
    refine w_spec W hp 100 D w 0 ⟨I, fun k x hx h0 => ?_, all, fun k x hx h0 hk => ?_, ⟨Int.le_refl 0, .inl rfl⟩⟩ (by have := I.sum; have := W.n; (first | lia | omega))
    · rcases new k x hx h0 with q | ⟨_, q⟩
      · exact absurd h0 (isN k x q)
      · exact .start q
    · rcases new k x hx h0 with q | ⟨q, _⟩
      · exact absurd h0 (isN k x q)
      · exact absurd q hk
end
end Mine
end
section
set_option tactic.hygienic false
set_option backward.defeqAttrib.useBackward true
set_option maxRecDepth 100000
set_option linter.unusedSimpArgs false
open PySem PySem.W PyProof.Rows PySem.Calls
namespace Mine

noncomputable def ConfAt (L : List (List Int)) (i : Nat) : Prop := ∃ xs d d', L[i]? = some xs ∧ d ∈ xs ∧ d' ∈ xs ∧ d ≠ d'
noncomputable def Gr (L L' : List (List Int)) : Prop := L'.length = L.length ∧ ∀ (k : Nat) (xs : List Int), L[k]? = some xs → ∃ ys, L'[k]? = some (xs ++ ys)
noncomputable def emp : List (List Int) → Nat
  | [] => 0
  | [] :: L => emp L + 1
  | (_ :: _) :: L => emp L
theorem Gr.refl (L : List (List Int)) : Gr L L := ⟨rfl, fun k xs h => ⟨[], by rw [List.append_nil]; exact h⟩⟩
theorem Gr.trans {A B C : List (List Int)} (h : Gr A B) (h' : Gr B C) : Gr A C := ⟨h'.1.trans h.1, fun k xs e => by
  obtain ⟨ys, e1⟩ := h.2 k xs e
  obtain ⟨zs, e2⟩ := h'.2 k _ e1
  exact ⟨ys ++ zs, by rw [e2, List.append_assoc]⟩⟩
theorem Gr.conf {A B : List (List Int)} (h : Gr A B) {i : Nat} (c : ConfAt A i) : ConfAt B i := by
  obtain ⟨xs, d, d', e, a, b, ne⟩ := c
  obtain ⟨ys, e1⟩ := h.2 i xs e
  exact ⟨_, d, d', e1, List.mem_append_left _ a, List.mem_append_left _ b, ne⟩
theorem Gr.cons {a b : List Int} {A B : List (List Int)} (h : Gr (a :: A) (b :: B)) : (∃ ys, b = a ++ ys) ∧ Gr A B := by
  refine ⟨?_, by have := h.1; simp only [List.length_cons] at this; (first | lia | omega), fun k xs e => h.2 (k + 1) xs e⟩
  obtain ⟨ys, e⟩ := h.2 0 a rfl
  exact ⟨ys, Option.some.inj e⟩
theorem emp_le : ∀ {A B : List (List Int)}, Gr A B → emp B ≤ emp A
  | [], [], _ => Nat.le_refl _
  | [], _ :: _, h => by have := h.1; simp at this
  | _ :: _, [], h => by have := h.1; simp at this
  | a :: A, b :: B, h => by
    obtain ⟨⟨ys, rfl⟩, g⟩ := h.cons
    have := emp_le g
    cases a with
    | nil => cases ys with
      | nil => simp only [List.append_nil, emp]; (first | lia | omega)
      | cons _ _ => simp only [List.nil_append, emp]; (first | lia | omega)
    | cons _ _ => simp only [List.cons_append, emp]; (first | lia | omega)
theorem emp_lt : ∀ {A B : List (List Int)} {k : Nat} {y : Int} {ys : List Int}, Gr A B → A[k]? = some [] → B[k]? = some (y :: ys) → emp B < emp A
  | [], [], k, _, _, _, e, _ => by simp at e
  | [], _ :: _, _, _, _, h, _, _ => by have := h.1; simp at this
  | _ :: _, [], _, _, _, h, _, _ => by have := h.1; simp at this
  | a :: A, b :: B, 0, y, ys, h, e, e' => by
    cases e; cases e'
    have := emp_le h.cons.2
    simp only [emp]; (first | lia | omega)
  | a :: A, b :: B, k + 1, y, ys, h, e, e' => by
    obtain ⟨⟨zs, rfl⟩, g⟩ := h.cons
    have := emp_lt (k := k) g e e'
    cases a with
    | nil => cases zs with
      | nil => simp only [List.append_nil, emp]; (first | lia | omega)
      | cons _ _ => simp only [List.nil_append, emp]; (first | lia | omega)
    | cons _ _ => simp only [List.cons_append, emp]; (first | lia | omega)

theorem minL_mem (a : Int) (r : List Int) : minL (a :: r) ∈ a :: r := by
  rcases (foldl_min_spec r a).1 with h | h
  · show r.foldl min a ∈ _
    rw [h]; exact .head _
  · exact .tail _ h
theorem maxL_mem (a : Int) (r : List Int) : maxL (a :: r) ∈ a :: r := by
  rcases (foldl_max_spec r a).1 with h | h
  · show r.foldl max a ∈ _
    rw [h]; exact .head _
  · exact .tail _ h
theorem minL_le (a : Int) (r : List Int) {d : Int} (h : d ∈ a :: r) : minL (a :: r) ≤ d := by
  obtain ⟨_, h1, h2⟩ := foldl_min_spec r a
  rcases List.mem_cons.mp h with rfl | h
  · exact h1
  · exact h2 d h
theorem le_maxL (a : Int) (r : List Int) {d : Int} (h : d ∈ a :: r) : d ≤ maxL (a :: r) := by
  obtain ⟨_, h1, h2⟩ := foldl_max_spec r a
  rcases List.mem_cons.mp h with rfl | h
  · exact h1
  · exact h2 d h

set_option tactic.hygienic true in
theorem goalsGo_none {n : Nat} {b : Int} : ∀ (gs : List Int) (L : List (List Int)) (t : Bool), L.length = n → goalsGo n b gs L t = none → ∃ g ∈ gs, ¬ (0 ≤ g ∧ g < (n : Int))
  | [], L, t, _, e => by cases e
  | g :: gs, L, t, hl, e => by
    unfold goalsGo at e
    split at e
    · exact ⟨g, .head _, by (first | lia | omega)⟩
    · rename_i hb
      split at e
      · rename_i hx
        have := List.getElem?_eq_none_iff.mp hx
        (first | lia | omega)
      · split at e
        · obtain ⟨x, hx, h⟩ := goalsGo_none gs L t hl e
          exact ⟨x, .tail _ hx, h⟩
        · obtain ⟨x, hx, h⟩ := goalsGo_none gs _ true (by rw [List.length_set]; exact hl) e
          exact ⟨x, .tail _ hx, h⟩
theorem goalsGo_same {n : Nat} {b : Int} : ∀ (gs : List Int) (L : List (List Int)) (L' : List (List Int)), goalsGo n b gs L false = some (L', false) → L' = L
  | [], L, L', e => by cases e; rfl
  | g :: gs, L, L', e => by
    unfold goalsGo at e
    split at e
    · cases e
    · split at e
      · cases e
      · split at e
        · exact goalsGo_same gs L L' e
        · have := (goalsGo_spec gs _ true L' false e).2.2.2.2 rfl
          cases this

section
variable {code : List Ins} {effs : List Eff} {st : List (Int × Int)}
structure SI (code : List Ins) (effs : List Eff) (st : List (Int × Int)) (L : List (List Int)) (m : Int) : Prop where
  len : L.length = code.length
  r : ∀ (k : Nat) (xs : List Int) (d : Int), L[k]? = some xs → d ∈ xs → Reach code effs st k d
  sts : ∀ p ∈ st, ∃ k : Nat, p.1 = k ∧ ∃ xs, L[k]? = some xs ∧ p.2 ∈ xs
  m : Att code effs st m
noncomputable def RowOK (code : List Ins) (effs : List Eff) (i : Nat) (L : List (List Int)) (m : Int) : Prop := ∀ xs d, L[i]? = some xs → d ∈ xs → (∀ d' ∈ xs, d = d') ∧ ∃ b p, stepD code effs i d = some b ∧ code[i]? = some p ∧ d ≤ m ∧ b ≤ m ∧ ∀ g ∈ goalsL code i p, ∃ k : Nat, g = k ∧ k < code.length ∧ ∃ ys, L[k]? = some ys ∧ b ∈ ys

theorem row_spec {i : Nat} (hi : i < code.length) {L : List (List Int)} {m : Int} {t : Bool} (I : SI code effs st L m) :
    (rowGo code effs i L m t = none → Fault code effs st) ∧ (∀ L' m' t', rowGo code effs i L m t = some (L', m', t') → SI code effs st L' m' ∧ Gr L L' ∧ m ≤ m' ∧ ¬ ConfAt L i ∧ (t = true → t' = true) ∧ (t' = false → L' = L ∧ RowOK code effs i L m') ∧ (t' = true → t = true ∨ (∃ j, ConfAt L' j) ∨ emp L' < emp L)) := by
  have hi' : i < L.length := I.len ▸ hi
  have hL : L[i]? = some L[i] := List.getElem?_eq_getElem hi'
  have hp : code[i]? = some code[i] := List.getElem?_eq_getElem hi
  unfold rowGo
  rw [hL]
  generalize L[i] = xs at hL
  cases xs with
  | nil =>
    refine ⟨fun e => (by cases e), fun L' m' t' e => ?_⟩
    cases e
    refine ⟨I, .refl _, Int.le_refl _, ?_, id, fun _ => ⟨rfl, ?_⟩, fun h => .inl h⟩
    · rintro ⟨xs, d, d', e, a, _⟩
      rw [hL] at e; cases e; cases a
    · intro xs d e a
      rw [hL] at e; cases e; cases a
  | cons a r =>
    dsimp only
    by_cases hmm : minL (a :: r) ≠ maxL (a :: r)
    · rw [if_pos hmm]
      exact ⟨fun _ => .inr ⟨i, _, _, I.r i _ _ hL (minL_mem a r), I.r i _ _ hL (maxL_mem a r), hmm⟩, fun _ _ _ e => (by cases e)⟩
    · rw [if_neg hmm]
      have hmm : minL (a :: r) = maxL (a :: r) := Classical.not_not.mp hmm
      have all : ∀ d ∈ a :: r, d = minL (a :: r) := fun d h => Int.le_antisymm (hmm ▸ le_maxL a r h) (minL_le a r h)
      have rd := I.r i _ _ hL (minL_mem a r)
      have nc : ¬ ConfAt L i := by
        rintro ⟨xs, d, d', e, h1, h2, ne⟩
        rw [hL] at e; cases e
        exact ne ((all d h1).trans (all d' h2).symm)
      generalize minL (a :: r) = d at *
      cases hs : stepD code effs i d with
      | none => exact ⟨fun _ => .inl ⟨i, d, rd, .inl hs⟩, fun _ _ _ e => (by cases e)⟩
      | some b =>
        rw [hp]
        dsimp only
        cases hg : goalsGo code.length b (goalsL code i code[i]) L t with
        | none =>
          refine ⟨fun _ => .inl ⟨i, d, rd, .inr fun V => ?_⟩, fun _ _ _ e => (by cases e)⟩
          obtain ⟨g, hgm, hb⟩ := goalsGo_none _ L t I.len hg
          exact hb (V _ hp g hgm)
        | some q =>
          obtain ⟨L2, t2⟩ := q
          refine ⟨fun e => (by cases e), fun L' m' t' e => ?_⟩
          have e := Option.some.inj e
          obtain ⟨rfl, e2⟩ := Prod.mk.inj e
          obtain ⟨rfl, rfl⟩ := Prod.mk.inj e2
          obtain ⟨a1, a2, a3, a4, a5⟩ := goalsGo_spec _ L t L2 t2 hg
          have gr : Gr L L2 := ⟨a1, fun k xs h => by
            rcases a2 k xs h with q | ⟨_, q, _⟩
            · exact ⟨[], by rw [List.append_nil]; exact q⟩
            · exact ⟨_, q⟩⟩
          refine ⟨⟨a1.trans I.len, fun k ys x hy hx => ?_, fun p hpm => ?_, att_max I.m rd hs I.m.1⟩, gr, by (first | lia | omega), nc, a5, fun ht => ?_, fun ht => ?_⟩
          · have hk : k < L.length := a1 ▸ (List.getElem?_eq_some_iff.mp hy).1
            have hk' : L[k]? = some L[k] := List.getElem?_eq_getElem hk
            rcases a2 k _ hk' with q | ⟨_, q, gm, _⟩
            · rw [hy] at q; cases q
              exact I.r k _ x hk' hx
            · rw [hy] at q; cases q
              rcases List.mem_append.mp hx with hx | hx
              · exact I.r k _ x hk' hx
              · rw [List.mem_singleton] at hx
                subst hx
                exact .step rd hs hp gm
          · obtain ⟨k, e1, xs, e2, e3⟩ := I.sts p hpm
            obtain ⟨ys, e4⟩ := gr.2 k xs e2
            exact ⟨k, e1, _, e4, List.mem_append_left _ e3⟩
          · subst ht
            have tf : t = false := by
              cases t with
              | false => rfl
              | true => exact absurd (a5 rfl) (by decide)
            subst tf
            have := goalsGo_same _ L L2 hg
            subst this
            refine ⟨rfl, fun xs x hx hxm => ?_⟩
            rw [hL] at hx; cases hx
            have := all x hxm
            subst this
            exact ⟨fun d' h' => (all d' h').symm, b, _, hs, hp, by (first | lia | omega), by (first | lia | omega), a3⟩
          · rcases a4 ht with q | ⟨k, xs, e1, e2, e3⟩
            · exact .inl q
            · refine .inr ?_
              cases xs with
              | nil => exact .inr (emp_lt gr e1 e3)
              | cons x xs =>
                refine .inl ⟨k, _, x, b, e3, by simp, by simp, fun q => e2 ?_⟩
                rw [← q]; exact .head _

theorem sweep_spec : ∀ (is : List Nat) (L : List (List Int)) (m : Int) (t : Bool), (∀ i ∈ is, i < code.length) → SI code effs st L m →
    (sweepGo code effs is L m t = none → Fault code effs st) ∧ (∀ L' m' t', sweepGo code effs is L m t = some (L', m', t') → SI code effs st L' m' ∧ Gr L L' ∧ m ≤ m' ∧ (∀ i ∈ is, ¬ ConfAt L i) ∧ (t = true → t' = true) ∧ (t' = false → L' = L ∧ ∀ i ∈ is, RowOK code effs i L m') ∧ (t' = true → t = true ∨ (∃ j, ConfAt L' j) ∨ emp L' < emp L))
  | [], L, m, t, _, I => ⟨fun e => (by cases e), fun L' m' t' e => by
    cases e
    exact ⟨I, .refl _, Int.le_refl _, (fun i h => by cases h), id, (fun _ => ⟨rfl, (fun i h => by cases h)⟩), fun h => .inl h⟩⟩
  | i :: is, L, m, t, hi, I => by
    unfold sweepGo
    obtain ⟨A, B⟩ := row_spec (t := t) (hi i (.head _)) I
    cases h : rowGo code effs i L m t with
    | none => exact ⟨fun _ => A h, fun _ _ _ e => (by cases e)⟩
    | some p =>
      obtain ⟨L1, m1, t1⟩ := p
      dsimp only
      obtain ⟨I1, g1, le1, nc1, tt1, f1, s1⟩ := B _ _ _ h
      obtain ⟨A2, B2⟩ := sweep_spec is L1 m1 t1 (fun j h => hi j (.tail _ h)) I1
      refine ⟨A2, fun L' m' t' e => ?_⟩
      obtain ⟨I2, g2, le2, nc2, tt2, f2, s2⟩ := B2 _ _ _ e
      refine ⟨I2, g1.trans g2, Int.le_trans le1 le2, fun j hj => ?_, fun h => tt2 (tt1 h), fun ht => ?_, fun ht => ?_⟩
      · rcases List.mem_cons.mp hj with rfl | hj
        · exact nc1
        · exact fun c => nc2 j hj (g1.conf c)
      · obtain ⟨e2, r2⟩ := f2 ht
        have h1 : t1 = false := by
          cases t1 with
          | false => rfl
          | true => rw [tt2 rfl] at ht; cases ht
        obtain ⟨e1, r1⟩ := f1 h1
        subst e1
        refine ⟨e2, fun j hj => ?_⟩
        rcases List.mem_cons.mp hj with rfl | hj
        · intro xs d hx hd
          obtain ⟨q, b, p, q1, q2, q3, q4, q5⟩ := r1 xs d hx hd
          exact ⟨q, b, p, q1, q2, Int.le_trans q3 le2, Int.le_trans q4 le2, q5⟩
        · exact r2 j hj
      · rcases s2 ht with q | ⟨j, q⟩ | q
        · rcases s1 q with q | ⟨j, q⟩ | q
          · exact .inl q
          · exact .inr (.inl ⟨j, g2.conf q⟩)
          · exact .inr (.inr (Nat.lt_of_le_of_lt (emp_le g2) q))
        · exact .inr (.inl ⟨j, q⟩)
        · exact .inr (.inr (Nat.lt_of_lt_of_le q (emp_le g1)))

theorem sloop_spec : ∀ (k : Nat) (L : List (List Int)) (m : Int), SI code effs st L m → ((∃ j, ConfAt L j) ∧ 1 ≤ k ∨ emp L + 2 ≤ k) → ∃ r, sloop code effs k L m = some r ∧ Spec code effs st r
  | 0, _, _, _, h => by (first | lia | omega)
  | k + 1, L, m, I, hk => by
    unfold sloop
    obtain ⟨A, B⟩ := sweep_spec (t := false) (List.range code.length) L m (fun i h => List.mem_range.mp h) I
    cases h : sweepGo code effs (List.range code.length) L m false with
    | none => exact ⟨none, rfl, A h⟩
    | some p =>
      obtain ⟨L', m', t⟩ := p
      obtain ⟨I1, g1, le1, nc, _, f1, s1⟩ := B _ _ _ h
      have ncf : ¬ ∃ j, ConfAt L j := fun ⟨j, c⟩ => by
        obtain ⟨xs, d, d', e, _⟩ := c
        have := (List.getElem?_eq_some_iff.mp e).1
        exact nc j (List.mem_range.mpr (I.len ▸ this)) ⟨xs, d, d', e, ‹_›⟩
      have hk' : emp L + 2 ≤ k + 1 := hk.resolve_left fun q => ncf q.1
      dsimp only
      cases t with
      | true =>
        rw [if_pos rfl]
        refine sloop_spec k L' m' I1 ?_
        rcases s1 rfl with q | q | q
        · cases q
        · exact .inl ⟨q, by (first | lia | omega)⟩
        · exact .inr (by (first | lia | omega))
      | false =>
        obtain ⟨e, ok⟩ := f1 rfl
        subst e
        refine ⟨some m', rfl, spec_closed (P := fun k d => ∃ xs, L'[k]? = some xs ∧ d ∈ xs) (fun k d hs => ?_) (fun i d ⟨xs, h1, h2⟩ => ?_) (fun i d d' ⟨xs, h1, h2⟩ ⟨ys, h3, h4⟩ => ?_) I1.m⟩
        · obtain ⟨j, e1, e2⟩ := I.sts _ hs
          have : k = j := Int.ofNat.inj e1
          subst this
          exact e2
        · have hi : i < code.length := I.len ▸ (List.getElem?_eq_some_iff.mp h1).1
          exact (ok i (List.mem_range.mpr hi) xs d h1 h2).2
        · rw [h1] at h3; cases h3
          have hi : i < code.length := I.len ▸ (List.getElem?_eq_some_iff.mp h1).1
          exact (ok i (List.mem_range.mpr hi) xs d h1 h2).1 d' h4

/-! the start -/
theorem appL_spec {L : List (List Int)} {k : Nat} {d : Int} (hk : k < L.length) : (appL L (k, d)).length = L.length ∧ (∃ xs, (appL L (k, d))[k]? = some xs ∧ d ∈ xs) ∧ Gr L (appL L (k, d)) ∧ ∀ (j : Nat) (xs : List Int) (x : Int), (appL L (k, d))[j]? = some xs → x ∈ xs → (j = k ∧ x = d) ∨ ∃ ys, L[j]? = some ys ∧ x ∈ ys := by
  have hx : L[k]? = some L[k] := List.getElem?_eq_getElem hk
  have e : appL L (k, d) = L.set k (L[k] ++ [d]) := by unfold appL; simp [hx]
  rw [e]
  refine ⟨List.length_set, ⟨_, List.getElem?_set_self hk, by simp⟩, ⟨List.length_set, fun j xs h => ?_⟩, fun j xs x h hm => ?_⟩
  · by_cases hj : k = j
    · subst hj
      rw [hx] at h; cases h
      exact ⟨[d], List.getElem?_set_self hk⟩
    · exact ⟨[], by rw [List.getElem?_set_ne hj, List.append_nil]; exact h⟩
  · by_cases hj : k = j
    · subst hj
      rw [List.getElem?_set_self hk] at h; cases h
      rcases List.mem_append.mp hm with hm | hm
      · exact .inr ⟨_, hx, hm⟩
      · exact .inl ⟨rfl, List.mem_singleton.mp hm⟩
    · rw [List.getElem?_set_ne hj] at h
      exact .inr ⟨xs, h, hm⟩
theorem appsL_spec : ∀ (l : List (Int × Int)) (L : List (List Int)), (∀ p ∈ l, 0 ≤ p.1 ∧ p.1 < (L.length : Int)) → (appsL L l).length = L.length ∧ Gr L (appsL L l) ∧ (∀ p ∈ l, ∃ k : Nat, p.1 = k ∧ ∃ xs, (appsL L l)[k]? = some xs ∧ p.2 ∈ xs) ∧ ∀ (j : Nat) (xs : List Int) (x : Int), (appsL L l)[j]? = some xs → x ∈ xs → ((j : Int), x) ∈ l ∨ ∃ ys, L[j]? = some ys ∧ x ∈ ys
  | [], L, _ => ⟨rfl, .refl _, (fun p h => by cases h), fun j xs x h hm => .inr ⟨xs, h, hm⟩⟩
  | (i, d) :: l, L, h => by
    obtain ⟨h1, h2⟩ := h _ (.head _)
    dsimp only at h1 h2
    obtain ⟨k, rfl⟩ := Int.eq_ofNat_of_zero_le h1
    obtain ⟨a1, ⟨xs, a2, a3⟩, a4, a5⟩ := appL_spec (L := L) (k := k) (d := d) (by (first | lia | omega))
    obtain ⟨b1, b2, b3, b4⟩ := appsL_spec l (appL L (k, d)) (fun p hp => by rw [a1]; exact h p (.tail _ hp))
    refine ⟨b1.trans a1, a4.trans b2, fun p hp => ?_, fun j ys x hy hm => ?_⟩
    · rcases List.mem_cons.mp hp with rfl | hp
      · obtain ⟨zs, e⟩ := b2.2 k xs a2
        exact ⟨k, rfl, _, e, List.mem_append_left _ a3⟩
      · exact b3 p hp
    · rcases b4 j ys x hy hm with q | ⟨zs, q1, q2⟩
      · exact .inl (.tail _ q)
      · rcases a5 j zs x q1 q2 with ⟨rfl, rfl⟩ | q
        · exact .inl (.head _)
        · exact .inr q
theorem emp_rep (L : List (List Int)) : emp L ≤ L.length := by
  induction L with
  | nil => exact Nat.le_refl _
  | cons a L ih => cases a <;> simp only [emp, List.length_cons] <;> (first | lia | omega)

theorem most_spec {cs : List Cl} {ret : Int} (W : WFs ret code effs) (hpos : ∀ p ∈ startsOf code.length cs, 0 ≤ p.2 ∧ 0 ≤ p.1 ∧ p.1 < (code.length : Int)) :
    ∃ r, msRun code effs cs = some r ∧ sloop code effs (code.length + 2) (appsL (List.replicate code.length []) (startsOf code.length cs)) 0 = some r := by
  obtain ⟨r, e, S⟩ := ms_spec W hpos
  obtain ⟨a1, a2, a3, a4⟩ := appsL_spec (startsOf code.length cs) (List.replicate code.length []) (fun p h => by rw [List.length_replicate]; exact (hpos p h).2)
  have I : SI code effs (startsOf code.length cs) (appsL (List.replicate code.length []) (startsOf code.length cs)) 0 := by
    refine ⟨by rw [a1, List.length_replicate], fun k xs d h hm => ?_, a3, ⟨Int.le_refl 0, .inl rfl⟩⟩
    rcases a4 k xs d h hm with q | ⟨ys, q1, q2⟩
    · exact .start q
    · have := List.mem_of_getElem? q1
      rw [List.mem_replicate] at this
      rw [this.2] at q2; cases q2
  have hE : emp (appsL (List.replicate code.length []) (startsOf code.length cs)) ≤ code.length := by
    have := emp_rep (appsL (List.replicate code.length []) (startsOf code.length cs))
    rw [a1, List.length_replicate] at this; exact this
  obtain ⟨r', e', S'⟩ := sloop_spec (code.length + 2) _ 0 I (.inr (by (first | lia | omega)))
  exact ⟨r, e, (Spec.eq S S') ▸ e'⟩
end
end Mine
end
section
set_option tactic.hygienic false
set_option backward.defeqAttrib.useBackward true
set_option maxRecDepth 100000
set_option linter.unusedSimpArgs false
open PySem PySem.W PyProof.Rows PySem.Calls
namespace Mine

/-! # the drawing side: comprehensions -/
theorem Ext.set {σ₀ σ : Sto} (x : Ext σ₀ σ) {r : Nat} (h : σ₀.length ≤ r) (v : List V) : Ext σ₀ (σ.set r v) := by
  obtain ⟨e, rfl⟩ := x
  exact ⟨e.set (r - σ₀.length) v, by rw [List.set_append_right _ _ h]⟩
theorem compGo_any {src : Src} {full : List V} {loc : Nat → Option V} {fr : List Nat} {dt : DB} {de : DE} {σ₀ : Sto} {r0 : Nat} (hr : σ₀.length ≤ r0) (hs : ∀ σ, Ext σ₀ σ → src.items σ = some full) : ∀ (xs : List V),
    (∀ x ∈ xs, ∀ σ, Ext σ₀ σ → ∃ b, dt ⟨compLoc loc fr x, σ⟩ = .ok b σ ∧ (b = true → ∃ k σ', de ⟨compLoc loc fr x, σ⟩ = .ok (.int k) σ' ∧ Ext σ σ')) →
    ∀ (acc : List Int) (σ : Sto), acc.length + xs.length ≤ 900 → Ext σ₀ σ → σ[r0]? = some (acc.map V.int) → ∃ (ns : List Int) (σ' : Sto), compGo src full loc fr dt de r0 xs σ = .ok (.lst r0) σ' ∧ Ext σ₀ σ' ∧ σ'[r0]? = some (ns.map V.int) ∧ ns.length ≤ acc.length + xs.length
  | [], _, acc, σ, _, x, g => ⟨acc, σ, by unfold compGo; rw [if_pos (hs σ x)], x, g, Nat.le_refl _⟩
  | v :: xs, hb, acc, σ, hl, x, g => by
    have lim : limN = 1000 := rfl
    rw [List.length_cons] at hl ⊢
    obtain ⟨b, e1, e2⟩ := hb v (.head _) σ x
    unfold compGo
    rw [if_pos (hs σ x), e1, R.bind_ok]
    cases b with
    | false =>
      obtain ⟨ns, σ', q1, q2, q3, q4⟩ := compGo_any hr hs xs (fun y hy => hb y (.tail _ hy)) acc σ (by (first | lia | omega)) x g
      exact ⟨ns, σ', by rw [if_neg (by decide), q1], q2, q3, by (first | lia | omega)⟩
    | true =>
      obtain ⟨k, σ1, e3, x1⟩ := e2 rfl
      have g1 := x1.get g
      rw [if_pos rfl, e3, R.bind_ok, append_l _ _ _ _ g1 (by rw [List.length_map]; (first | lia | omega)), R.bind_ok]
      have hr1 : r0 < σ1.length := (List.getElem?_eq_some_iff.mp g1).1
      obtain ⟨ns, σ', q1, q2, q3, q4⟩ := compGo_any hr hs xs (fun y hy => hb y (.tail _ hy)) (acc ++ [k]) (σ1.set r0 (acc.map V.int ++ [V.int k])) (by simp; (first | lia | omega)) ((x.trans x1).set hr _) (by rw [List.getElem?_set_self hr1]; simp)
      exact ⟨ns, σ', q1, q2, q3, by simp at q4; (first | lia | omega)⟩
theorem comp_any {di : DE} {v : V} {src : Src} {full : List V} {loc : Nat → Option V} {fr : List Nat} {dt : DB} {de : DE} {σ : Sto} (h1 : di ⟨loc, σ⟩ = .ok v σ) (h2 : Src.of v = some src) (hs : ∀ σ', Ext σ σ' → src.items σ' = some full) (hl : full.length ≤ 900)
    (hb : ∀ x ∈ full, ∀ σ', Ext σ σ' → ∃ b, dt ⟨compLoc loc fr x, σ'⟩ = .ok b σ' ∧ (b = true → ∃ k σ'', de ⟨compLoc loc fr x, σ'⟩ = .ok (.int k) σ'' ∧ Ext σ' σ'')) :
    ∃ (ns : List Int) (σ' : Sto), dComp di fr dt de ⟨loc, σ⟩ = .ok (.lst σ.length) σ' ∧ Ext σ σ' ∧ σ'[σ.length]? = some (ns.map V.int) ∧ ns.length ≤ full.length := by
  obtain ⟨ns, σ', q1, q2, q3, q4⟩ := compGo_any (loc := loc) (fr := fr) (dt := dt) (de := de) (Nat.le_refl _) hs full hb [] (σ ++ [[]]) (by simpa using hl) (.add _ _) (get_last _ _)
  refine ⟨ns, σ', ?_, q2, q3, by simpa using q4⟩
  unfold dComp
  rw [h1, R.bind_ok, h2]
  dsimp only
  rw [hs σ (.refl _)]
  dsimp only
  rw [q1]; rfl
theorem compGo_map {src : Src} {full : List V} {loc : Nat → Option V} {fr : List Nat} {de : DE} {f : V → V} {σ₀ : Sto} {r0 : Nat} (hr : σ₀.length ≤ r0) (hs : ∀ σ, Ext σ₀ σ → src.items σ = some full) : ∀ (xs : List V),
    (∀ x ∈ xs, ∀ σ, Ext σ₀ σ → de ⟨compLoc loc fr x, σ⟩ = .ok (f x) σ) →
    ∀ (acc : List V) (σ : Sto), acc.length + xs.length ≤ 900 → Ext σ₀ σ → σ[r0]? = some acc → ∃ σ', compGo src full loc fr dT de r0 xs σ = .ok (.lst r0) σ' ∧ Ext σ₀ σ' ∧ σ'[r0]? = some (acc ++ xs.map f)
  | [], _, acc, σ, _, x, g => ⟨σ, by unfold compGo; rw [if_pos (hs σ x)], x, by simpa using g⟩
  | v :: xs, hb, acc, σ, hl, x, g => by
    have lim : limN = 1000 := rfl
    rw [List.length_cons] at hl
    unfold compGo
    rw [if_pos (hs σ x), dT_ap, R.bind_ok, if_pos rfl, hb v (.head _) σ x, R.bind_ok, append_l _ _ _ _ g (by (first | lia | omega)), R.bind_ok]
    have hr1 : r0 < σ.length := (List.getElem?_eq_some_iff.mp g).1
    obtain ⟨σ', q1, q2, q3⟩ := compGo_map hr hs xs (fun y hy => hb y (.tail _ hy)) (acc ++ [f v]) (σ.set r0 (acc ++ [f v])) (by simp; (first | lia | omega)) (x.set hr _) (by rw [List.getElem?_set_self hr1])
    exact ⟨σ', q1, q2, by rw [q3]; simp⟩
theorem comp_map {di : DE} {v : V} {src : Src} {full : List V} {loc : Nat → Option V} {fr : List Nat} {de : DE} {f : V → V} {σ : Sto} (h1 : di ⟨loc, σ⟩ = .ok v σ) (h2 : Src.of v = some src) (hs : ∀ σ', Ext σ σ' → src.items σ' = some full) (hl : full.length ≤ 900)
    (hb : ∀ x ∈ full, ∀ σ', Ext σ σ' → de ⟨compLoc loc fr x, σ'⟩ = .ok (f x) σ') :
    ∃ σ', dComp di fr dT de ⟨loc, σ⟩ = .ok (.lst σ.length) σ' ∧ Ext σ σ' ∧ σ'[σ.length]? = some (full.map f) := by
  obtain ⟨σ', q1, q2, q3⟩ := compGo_map (loc := loc) (fr := fr) (Nat.le_refl _) hs full hb [] (σ ++ [[]]) (by simpa using hl) (.add _ _) (get_last _ _)
  refine ⟨σ', ?_, q2, by simpa using q3⟩
  unfold dComp
  rw [h1, R.bind_ok, h2]
  dsimp only
  rw [hs σ (.refl _)]
  dsimp only
  rw [q1]; rfl
theorem rng_of {k : Int} (h : -1000 ≤ k ∧ k ≤ 1000) : Src.of (.rng k) = some (.rng k) := if_pos h
theorem rngV_mem {k : Int} {x : V} (h : x ∈ rngV k) : ∃ i : Nat, x = .int i ∧ (i : Int) < k := by
  unfold rngV at h
  obtain ⟨i, hi, rfl⟩ := List.mem_map.mp h
  rw [List.mem_range] at hi
  exact ⟨i, rfl, by (first | lia | omega)⟩
theorem rngV_len (k : Int) : (rngV k).length = k.toNat := by unfold rngV; simp
theorem fmod_rng (a : Int) {b : Int} (h : 0 < b) : 0 ≤ a.fmod b ∧ a.fmod b < b := ⟨Int.fmod_nonneg_of_pos a h, Int.fmod_lt_of_pos a h⟩

theorem r_pick {rr : Nat} {rows : List V} {d t : Int} {σ : Sto} (hr : σ[rr]? = some rows) (hn : rows.length ≤ 100) (h0 : 0 < rows.length) (hrow : ∀ (i : Nat) (x : V), rows[i]? = some x → ∃ e : Int, ∀ σ, oItem tv x (.int 2) σ = .ok (.int e) σ) :
    ∃ k σ', R__law_pick [.lst rr, .int d, .int t] σ = .ok (.int k) σ' ∧ Ext σ σ' := by
  have lim : limN = 1000 := rfl
  have ln : ∀ σ', Ext σ σ' → oLen [.lst rr] σ' = .ok (.int rows.length) σ' := fun σ' e => len_l rr _ σ' (e.get hr) (by (first | lia | omega))
  have lz : (rows.length : Int) ≠ 0 := by (first | lia | omega)
  have lz1 : (rows.length : Int) + 1 ≠ 0 := by (first | lia | omega)
  have m1 : ∀ (a : Int) (σ : Sto), oMod (.int a) (.int (rows.length + 1)) σ = .ok (.int (a.fmod (rows.length + 1))) σ := fun a σ => mod_ii _ _ _ lz1
  have m2 : ∀ (a : Int) (σ : Sto), oMod (.int a) (.int rows.length) σ = .ok (.int (a.fmod rows.length)) σ := fun a σ => mod_ii _ _ _ lz
  by_cases h15 : (t.fdiv 64).fmod 16 = 15
  · refine ⟨t.fmod (rows.length + 1) - (t.fdiv 7).fmod 2, σ, ?_, .refl _⟩
    simp [R__law_pick, D__law_pick, mod_ii, div_ii, h15, ln σ (.refl σ), m1]
  · obtain ⟨ns, σ1, e1, x1, g1, l1⟩ := comp_any (di := dThen (dCons (dThen (dCons (dLoc 0) dNil) oLen) dNil) oRange) (v := .rng rows.length) (src := .rng rows.length) (full := rngV rows.length) (loc := argL [.lst rr, .int d, .int t]) (fr := [1, 0])
      (dt := dThen (dThen2 (dThen2 (dThen2 (dLoc 2) (dLoc 0) (oItem tv)) (dInt 2) (oItem tv)) (dLoc 1) oEq) oBoolV) (de := dLoc 0) (σ := σ)
      (by simp [ln σ (.refl σ)]) (rng_of (by (first | lia | omega))) (fun _ _ => rfl) (by rw [rngV_len]; (first | lia | omega)) (fun x hx σ' e => by
        obtain ⟨i, rfl, hi⟩ := rngV_mem hx
        have hi' : i < rows.length := by (first | lia | omega)
        have hx : rows[i]? = some rows[i] := List.getElem?_eq_getElem hi'
        obtain ⟨f, hf⟩ := hrow i _ hx
        have it : oItem tv (.lst rr) (.int i) σ' = .ok rows[i] σ' := item_l rr i _ _ σ' (by (first | lia | omega)) (e.get hr) hx
        have c0 : compLoc (argL [V.lst rr, .int d, .int t]) [1, 0] (.int i) 0 = some (.int i) := rfl
        have c1 : compLoc (argL [V.lst rr, .int d, .int t]) [1, 0] (.int i) 1 = some (.int d) := rfl
        have c2 : compLoc (argL [V.lst rr, .int d, .int t]) [1, 0] (.int i) 2 = some (.lst rr) := rfl
        exact ⟨f == d, by simp [c0, c1, c2, it, hf], fun _ => ⟨i, σ', by simp [c0], .refl _⟩⟩)
    have nl : oLst [] σ1 = .ok (.lst σ1.length) (σ1 ++ [[]]) := lst_ap _ _ (by simp [limN])
    have x2 : Ext σ (σ1 ++ [[]]) := x1.trans (.add _ _)
    have hl1 : ns.length ≤ 100 := by rw [rngV_len] at l1; (first | lia | omega)
    have eq : oEq (.lst σ.length) (.lst σ1.length) (σ1 ++ [[]]) = .ok (.bool (ns.map V.int).isEmpty) (σ1 ++ [[]]) := eq_lnil _ _ _ _ (get_pre _ g1) (get_last _ _) (by rw [List.length_map]; (first | lia | omega))
    cases ns with
    | nil =>
      refine ⟨t.fmod rows.length, σ1 ++ [[]], ?_, x2⟩
      simp [R__law_pick, D__law_pick, mod_ii, div_ii, h15, e1, nl, eq, upd_ne, ln _ x2, m2]
    | cons a r =>
      have lf : oLen [.lst σ.length] (σ1 ++ [[]]) = .ok (.int ((a :: r).length : Nat)) (σ1 ++ [[]]) := by
        rw [len_l _ _ _ (get_pre _ g1) (by rw [List.length_map]; (first | lia | omega)), List.length_map]
      generalize hL : (a :: r).length = L at lf hl1
      have hLp : 0 < L := by rw [← hL]; simp
      obtain ⟨f1, f2⟩ := fmod_rng t (b := (L : Int)) (by (first | lia | omega))
      obtain ⟨k, hk⟩ := Int.eq_ofNat_of_zero_le f1
      have hkl : k < (a :: r).length := by (first | lia | omega)
      have it : oItem tv (.lst σ.length) (.int (t.fmod L)) (σ1 ++ [[]]) = .ok (.int (a :: r)[k]) (σ1 ++ [[]]) := by
        rw [hk]
        exact item_l _ k _ _ _ (by (first | lia | omega)) (get_pre _ g1) (get_map (List.getElem?_eq_getElem hkl))
      have mL : ∀ σ, oMod (.int t) (.int L) σ = .ok (.int (t.fmod L)) σ := fun σ => mod_ii _ _ _ (by (first | lia | omega))
      refine ⟨(a :: r)[k], σ1 ++ [[]], ?_, x2⟩
      simp only [List.map_cons, List.isEmpty_cons] at eq
      simp [R__law_pick, D__law_pick, mod_ii, div_ii, h15, e1, nl, eq, upd_ne, lf, mL, it]
end Mine
end
section
set_option tactic.hygienic false
set_option backward.defeqAttrib.useBackward true
set_option maxRecDepth 100000
set_option linter.unusedSimpArgs false
open PySem PySem.W PyProof.Rows PySem.Calls
namespace Mine

theorem tv2 (mid : Int) : tv 2 mid = (callT mid).map fun p => V.tup [.int p.1, .int p.2] := by
  have e2 : tv 2 mid = (tvT callsL mid).map TV.toV := tvFind_eq _ _
  rw [e2]
  unfold callT
  by_cases h : mid ∈ callsL.map (·.1)
  · have : ∀ m ∈ callsL.map (·.1), ∃ t g, tvT callsL m = some (.p t g) := by
      intro m hm
      simp only [callsL, List.map_cons, List.map_nil, List.mem_cons, List.not_mem_nil, or_false] at hm
      rcases hm with rfl | rfl | rfl | rfl | rfl | rfl <;> exact ⟨_, _, rfl⟩
    obtain ⟨t, g, e⟩ := this _ h
    rw [e]; rfl
  · simp only [callsL, List.map_cons, List.map_nil, List.mem_cons, List.not_mem_nil, or_false, not_or] at h
    have : tvT callsL mid = none := by simp [callsL, tvT, Ne.symm h.1, Ne.symm h.2.1, Ne.symm h.2.2.1, Ne.symm h.2.2.2.1, Ne.symm h.2.2.2.2.1, Ne.symm h.2.2.2.2.2]
    rw [this]; rfl
theorem tp0 (σ : Sto) : oTup [] σ = .ok (.tup []) σ := tup_ap _ _ (by simp [limN])
theorem tp1 (a : V) (σ : Sto) : oTup [a] σ = .ok (.tup [a]) σ := tup_ap _ _ (by simp [limN])
theorem tp2 (a b : V) (σ : Sto) : oTup [a, b] σ = .ok (.tup [a, b]) σ := tup_ap _ _ (by simp [limN])
theorem tp3 (a b c : V) (σ : Sto) : oTup [a, b, c] σ = .ok (.tup [a, b, c]) σ := tup_ap _ _ (by simp [limN])
theorem tp4 (a b c d : V) (σ : Sto) : oTup [a, b, c, d] σ = .ok (.tup [a, b, c, d]) σ := tup_ap _ _ (by simp [limN])
theorem tp5 (a b c d e : V) (σ : Sto) : oTup [a, b, c, d, e] σ = .ok (.tup [a, b, c, d, e]) σ := tup_ap _ _ (by simp [limN])
theorem tp6 (a b c d e f : V) (σ : Sto) : oTup [a, b, c, d, e, f] σ = .ok (.tup [a, b, c, d, e, f]) σ := tup_ap _ _ (by simp [limN])
theorem r_lcall {op mid : Int} {σ : Sto} : R__law_call [.int op, .int mid] σ = .ok (effV (callEff op mid)) σ := by
  by_cases h1 : op = 115 ∧ mid = 0
  · obtain ⟨rfl, rfl⟩ := h1
    simp [R__law_call, D__law_call, tp0, tp1, tp2, tp3, tp4, tp5, tp6, callEff, effV]
  · unfold callEff
    rw [if_neg h1]
    have h2 := tv2 mid
    cases hc : callT mid with
    | none =>
      rw [hc] at h2
      by_cases ho : op = 115
      · have hm : ¬ mid = 0 := fun q => h1 ⟨ho, q⟩
        simp [R__law_call, D__law_call, notIn_tab, h2, ho, hm, effV]
      · simp [R__law_call, D__law_call, notIn_tab, h2, ho, effV]
    | some p =>
      obtain ⟨t, g⟩ := p
      rw [hc] at h2
      have it : ∀ σ, oItem tv (.tab 2) (.int mid) σ = .ok (.tup [.int t, .int g]) σ := fun σ => item_tab 2 mid _ σ (by decide) h2
      by_cases ho : op = 115
      · have hm : ¬ mid = 0 := fun q => h1 ⟨ho, q⟩
        by_cases ht : t = 0
        · simp [R__law_call, D__law_call, notIn_tab, h2, ho, hm, it, upd_ne, ht, effV]
        · simp [R__law_call, D__law_call, notIn_tab, h2, ho, hm, it, upd_ne, ht, effV, tp0, tp1, tp2, tp3, tp4, tp5, tp6]
      · simp [R__law_call, D__law_call, notIn_tab, h2, ho, it, upd_ne, effV, tp0, tp1, tp2, tp3, tp4, tp5, tp6]

theorem plain_row {r : Int × Int × Int × Int} (h : r ∈ rowsL) {j : Nat} (hj : (j : Int) < r.2.1) : (r.1 + j, r.2.2.1, r.2.2.2) ∈ plainL := by
  unfold plainL
  refine List.mem_append_left _ (List.mem_flatten.mpr ⟨_, List.mem_map.mpr ⟨r, h, rfl⟩, List.mem_map.mpr ⟨j, List.mem_range.mpr (by (first | lia | omega)), rfl⟩⟩)
theorem rows_pos : ∀ r ∈ rowsL, 0 < r.2.1 := by decide
theorem rows_len : rowsL.length = 41 := rfl
theorem item_t2 (x y z : V) (xs : List V) (σ : Sto) : oItem tv (.tup (x :: y :: z :: xs)) (.int 2) σ = .ok z σ := rfl
theorem item_t3 (x y z w : V) (xs : List V) (σ : Sto) : oItem tv (.tup (x :: y :: z :: w :: xs)) (.int 3) σ = .ok w σ := rfl
theorem item_t4 (x y z w u : V) (xs : List V) (σ : Sto) : oItem tv (.tup (x :: y :: z :: w :: u :: xs)) (.int 4) σ = .ok u σ := rfl

/-- what a piece hands back -/
noncomputable def retOf : RS → Option (V × Sto)
  | .ok (.ret v) st => some (v, st.sto)
  | _ => none
theorem run_of {D : DS} {a b x : V} {σ σ' : Sto} (h : retOf (D ⟨argL [a, b], σ⟩) = some (x, σ')) : runFn 2 D [a, b] σ = .ok x σ' := by
  rw [run2]
  generalize D ⟨argL [a, b], σ⟩ = r at h
  cases r with
  | ok f st => cases f <;> simp_all [retOf]
  | exc => simp [retOf] at h
  | stuck => simp [retOf] at h
theorem q_asg {i : Nat} {d : DE} {rest : DS} {loc : Nat → Option V} {σ σ' : Sto} {v : V} {x : Option (V × Sto)} (h : d ⟨loc, σ⟩ = .ok v σ') (k : retOf (rest ⟨upd loc i v, σ'⟩) = x) : retOf (sSeq (sAssign i d) rest ⟨loc, σ⟩) = x := by
  simpa [h] using k
theorem q_if_f {t : DB} {a rest : DS} {loc : Nat → Option V} {σ : Sto} {x : Option (V × Sto)} (h : t ⟨loc, σ⟩ = .ok false σ) (k : retOf (rest ⟨loc, σ⟩) = x) : retOf (sSeq (sIf t a sNil) rest ⟨loc, σ⟩) = x := by
  simpa [h] using k
theorem q_if_t {t : DB} {a rest : DS} {loc : Nat → Option V} {σ : Sto} {x : V × Sto} (h : t ⟨loc, σ⟩ = .ok true σ) (k : retOf (a ⟨loc, σ⟩) = some x) : retOf (sSeq (sIf t a sNil) rest ⟨loc, σ⟩) = some x := by
  have e : sSeq (sIf t a sNil) rest ⟨loc, σ⟩ = (a ⟨loc, σ⟩).bind (seqK rest) := by simp [h]
  rw [e]
  generalize a ⟨loc, σ⟩ = r at k
  cases r with
  | ok f st => cases f <;> simp_all [retOf]
  | exc => simp [retOf] at k
  | stuck => simp [retOf] at k

/-- the last three rows of _law_row -/
noncomputable def rowEnd : DS :=
  sSeq (sIf (dThen (dThen2 (dThen2 (dLoc 3) (dInt 7) oMod) (dInt 0) oEq) oBoolV)
    (sSeq (sReturn (dThen (dCons (dThen (dCons (dInt 42) (dCons (dInt 0) dNil)) oTup) (dCons (dThen (dCons (dLoc 1) (dCons (dInt 0) dNil)) oTup) dNil)) oTup)) <|
    sNil)
    (sNil)) <|
  sSeq (sIf (dThen (dThen2 (dThen2 (dLoc 3) (dInt 7) oMod) (dInt 6) oEq) oBoolV)
    (sSeq (sReturn (dThen (dCons (dThen (dCons (dInt 36) (dCons (dInt 0) dNil)) oTup) (dCons dNone dNil)) oTup)) <|
    sNil)
    (sNil)) <|
  sSeq (sReturn (dThen (dCons (dThen (dCons (dThen2 (dThen (dCons (dInt 122) (dCons (dInt 220) (dCons (dInt 65041) (dCons (dInt 65050) (dCons (dInt 42) dNil))))) oTup) (dThen2 (dThen2 (dLoc 3) (dInt 7) oMod) (dInt 1) oSub) (oItem tv)) (dCons (dInt 0) dNil)) oTup) (dCons (dThen2 (dThen (dCons (dThen (dCons (dInt 1) (dCons (dInt 0) dNil)) oTup) (dCons (dThen (dCons (dInt 0) (dCons (dInt 0) dNil)) oTup) (dCons (dThen (dCons (dInt 1) (dCons (dInt 0) dNil)) oTup) (dCons (dThen (dCons (dInt 0) (dCons (dInt 0) dNil)) oTup) (dCons (dThen (dCons (dLoc 1) (dCons (dInt 0) dNil)) oTup) dNil))))) oTup) (dThen2 (dThen2 (dLoc 3) (dInt 7) oMod) (dInt 1) oSub) (oItem tv)) dNil)) oTup)) <|
  sNil
/-- _law_row behind its two first rows -/
noncomputable def rowRest : DS :=
  sSeq (sIf (dThen (dThen2 (dLoc 2) (dInt 3) (oIntCmp fun a b => decide (a < b))) oBoolV)
    (sSeq (sUnpack [4, 5, 6, 7] (dThen2 (dVal vSTACK) (dThen2 (dLoc 3) (dInt 41) oMod) (oItem tv))) <|
    sSeq (sReturn (dThen (dCons (dThen (dCons (dThen2 (dLoc 4) (dThen2 (dThen2 (dLoc 3) (dInt 41) oDiv) (dLoc 5) oMod) oAdd) (dCons (dInt 0) dNil)) oTup) (dCons (dThen (dCons (dLoc 6) (dCons (dLoc 7) dNil)) oTup) dNil)) oTup)) <|
    sNil)
    (sNil)) <|
  sSeq (sIf (dThen (dThen2 (dLoc 2) (dInt 3) oEq) oBoolV)
    (sSeq (sReturn (dThen (dCons (dThen (dCons (dInt 32) (dCons (dThen2 (dLoc 3) (dInt 9) oMod) dNil)) oTup) (dCons (dThen (dCons (dInt 0) (dCons (dInt 1) dNil)) oTup) dNil)) oTup)) <|
    sNil)
    (sNil)) <|
  sSeq (sIf (dThen (dThen2 (dLoc 2) (dInt 4) oEq) oBoolV)
    (sSeq (sAssign 8 (dThen2 (dInt 56) (dThen2 (dLoc 3) (dInt 14) oMod) oAdd)) <|
    sSeq (sIf (dThen (dThen2 (dLoc 8) (dInt 69) oEq) oBoolV)
      (sSeq (sReturn (dThen (dCons (dThen (dCons (dInt 221) (dCons (dThen2 (dLoc 3) (dInt 14) oDiv) dNil)) oTup) (dCons (dThen (dCons (dInt 0) (dCons (dInt 0) dNil)) oTup) dNil)) oTup)) <|
      sNil)
      (sNil)) <|
    sSeq (sReturn (dThen (dCons (dThen (dCons (dLoc 8) (dCons (dThen2 (dLoc 3) (dInt 14) oDiv) dNil)) oTup) (dCons (dThen (dCons (dIf (dThen (dThen2 (dLoc 8) (dInt 56) oEq) oBoolV) (dInt 0) (dIf (dThen (dThen2 (dLoc 8) (dInt 59) (oIntCmp fun a b => decide (a < b))) oBoolV) (dInt 1) (dInt 2))) (dCons (dInt 0) dNil)) oTup) dNil)) oTup)) <|
    sNil)
    (sNil)) <|
  sSeq (sIf (dThen (dThen2 (dLoc 2) (dInt 5) oEq) oBoolV)
    (sSeq (sReturn (dThen (dCons (dThen (dCons (dInt 69) (dCons (dThen (dCons (dComp (dThen (dCons (dThen2 (dLoc 3) (dInt 4) oMod) dNil) oRange) [3] dT (dThen2 (dThen2 (dLoc 1) (dInt 4) oDiv) (dLoc 0) oAdd)) dNil) oTuple) dNil)) oTup) (dCons (dThen (dCons (dInt 1) (dCons (dInt 0) dNil)) oTup) dNil)) oTup)) <|
    sNil)
    (sNil)) <|
  sSeq (sIf (dThen (dThen2 (dLoc 2) (dInt 6) oEq) oBoolV)
    (sSeq (sAssign 8 (dThen2 (dThen (dCons (dInt 40) (dCons (dInt 111) (dCons (dInt 115) dNil))) oTup) (dThen2 (dLoc 3) (dInt 3) oMod) (oItem tv))) <|
    sSeq (sReturn (dThen (dCons (dThen (dCons (dLoc 8) (dCons (dThen (dCons (dInt 7) (dCons (dThen2 (dThen2 (dLoc 3) (dInt 3) oDiv) (dInt 8) oMod) (dCons (dThen dNil oTup) dNil))) oTup) dNil)) oTup) (dCons (dThen (dCons (dLoc 8) (dCons (dThen2 (dThen2 (dLoc 3) (dInt 3) oDiv) (dInt 8) oMod) dNil)) R__law_call) dNil)) oTup)) <|
    sNil)
    (sNil)) <|
  rowEnd
/-- what a drawn row is -/
inductive RowMk (v ret : Int) (σ : Sto) : Prop
  | mk (op : Int) (a : Arg) (e : Eff) (σ' : Sto) (h : R__law_row [.int v, .int ret] σ = .ok (.tup [insV (op, a), effV e]) σ') (x : Ext σ σ') (w : WF ret op a e) (l : ∀ gs, a = .sw gs → gs.length ≤ 3) : RowMk v ret σ
theorem row_ok {v ret : Int} {σ : Sto} : RowMk v ret σ := by
  have lim : limN = 1000 := rfl
  obtain ⟨k0, k8⟩ := fmod_rng v (b := 8) (by decide)
  generalize ht : v.fdiv 8 = t
  generalize hk : v.fmod 8 = k at k0 k8
  have h0 : (dThen2 (dLoc 0) (dInt 8) oMod) ⟨argL [.int v, .int ret], σ⟩ = .ok (.int k) σ := by simp [mod_ii, hk]
  have h1 : (dThen2 (dLoc 0) (dInt 8) oDiv) ⟨upd (argL [.int v, .int ret]) 2 (.int k), σ⟩ = .ok (.int t) σ := by simp [div_ii, ht, upd_ne]
  have lr1 : upd (upd (argL [.int v, .int ret]) 2 (.int k)) 3 (.int t) 1 = some (.int ret) := rfl
  have lr2 : upd (upd (argL [.int v, .int ret]) 2 (.int k)) 3 (.int t) 2 = some (.int k) := rfl
  have lr3 : upd (upd (argL [.int v, .int ret]) 2 (.int k)) 3 (.int t) 3 = some (.int t) := rfl
  have go : ∀ {x σ'}, retOf (rowRest ⟨upd (upd (argL [.int v, .int ret]) 2 (.int k)) 3 (.int t), σ⟩) = some (x, σ') → R__law_row [.int v, .int ret] σ = .ok x σ' := fun h => run_of (q_asg h0 (q_asg h1 h))
  generalize upd (upd (argL [.int v, .int ret]) 2 (.int k)) 3 (.int t) = L at *
  have cE : ∀ n : Int, (dThen (dThen2 (dLoc 2) (dInt n) oEq) oBoolV) ⟨L, σ⟩ = .ok (decide (k = n)) σ := fun n => by simp [lr2]; rfl
  have cT : ∀ n : Int, k = n → (dThen (dThen2 (dLoc 2) (dInt n) oEq) oBoolV) ⟨L, σ⟩ = .ok true σ := fun n q => by rw [cE, decide_eq_true q]
  have cF : ∀ n : Int, ¬ k = n → (dThen (dThen2 (dLoc 2) (dInt n) oEq) oBoolV) ⟨L, σ⟩ = .ok false σ := fun n q => by rw [cE, decide_eq_false q]
  have c3 : (dThen (dThen2 (dLoc 2) (dInt 3) (oIntCmp fun a b => decide (a < b))) oBoolV) ⟨L, σ⟩ = .ok (decide (k < 3)) σ := by simp [lr2]
  by_cases h3 : k < 3
  · obtain ⟨i0, i1⟩ := fmod_rng t (b := 41) (by decide)
    obtain ⟨i, hi⟩ := Int.eq_ofNat_of_zero_le i0
    have hil : i < rowsL.length := by rw [rows_len]; (first | lia | omega)
    have hr : rowsL[i]? = some rowsL[i] := List.getElem?_eq_getElem hil
    have hm : rowsL[i] ∈ rowsL := List.getElem_mem hil
    generalize rowsL[i] = r at hr hm
    have hp := rows_pos r hm
    have it : ∀ σ, oItem tv vSTACK (.int (t.fmod 41)) σ = .ok (.tup [.int r.1, .int r.2.1, .int r.2.2.1, .int r.2.2.2]) σ := fun σ => by
      rw [hi]; exact item_t _ i _ σ (by (first | lia | omega)) (get_map hr)
    have hc : ¬ r.2.1 = 0 := by (first | lia | omega)
    obtain ⟨j0, j1⟩ := fmod_rng (t.fdiv 41) hp
    obtain ⟨j, hj⟩ := Int.eq_ofNat_of_zero_le j0
    have mr : ∀ a σ, oMod (.int a) (.int r.2.1) σ = .ok (.int (a.fmod r.2.1)) σ := fun a σ => mod_ii _ _ _ hc
    refine ⟨r.1 + j, .n 0, some (r.2.2.1, r.2.2.2), σ, ?_, .refl _, .plain (plain_row hm (by (first | lia | omega))), fun _ q => (by cases q)⟩
    refine go (q_if_t (by rw [c3, decide_eq_true h3]) ?_)
    simp [retOf, lr1, lr3, mod_ii, div_ii, h3, it, upd_ne, mr, hj, tp0, tp1, tp2, tp3, tp4, tp5, tp6, insV, Arg.v, effV]
  by_cases e3 : k = 3
  · refine ⟨32, .n (t.fmod 9), some (0, 1), σ, ?_, .refl _, .plain (by decide), fun _ q => (by cases q)⟩
    refine go (q_if_f (by rw [c3, decide_eq_false h3]) (q_if_t (cT 3 e3) ?_))
    simp [retOf, lr1, lr3, mod_ii, div_ii, upd_ne, tp0, tp1, tp2, tp3, tp4, tp5, tp6, insV, Arg.v, effV]
  by_cases e4 : k = 4
  · obtain ⟨i0, i1⟩ := fmod_rng t (b := 14) (by decide)
    by_cases h13 : t.fmod 14 = 13
    · refine ⟨221, .n (t.fdiv 14), some (0, 0), σ, ?_, .refl _, .br (by decide), fun _ q => (by cases q)⟩
      refine go (q_if_f (by rw [c3, decide_eq_false h3]) (q_if_f (cF 3 e3) (q_if_t (cT 4 e4) ?_)))
      simp [retOf, lr1, lr3, mod_ii, div_ii, upd_ne, tp0, tp1, tp2, tp3, tp4, tp5, tp6, insV, Arg.v, effV, h13]
    · refine ⟨56 + t.fmod 14, .n (t.fdiv 14), some (if 56 + t.fmod 14 = 56 then 0 else if 56 + t.fmod 14 < 59 then 1 else 2, 0), σ, ?_, .refl _, .br ?_, fun _ q => (by cases q)⟩
      · have n69 : ¬ 56 + t.fmod 14 = 69 := by (first | lia | omega)
        generalize hop : 56 + t.fmod 14 = op at n69
        by_cases a : op = 56
        · refine go (q_if_f (by rw [c3, decide_eq_false h3]) (q_if_f (cF 3 e3) (q_if_t (cT 4 e4) ?_)))
          simp [retOf, lr1, lr3, mod_ii, div_ii, upd_ne, tp0, tp1, tp2, tp3, tp4, tp5, tp6, insV, Arg.v, effV, hop, n69, a]
        · by_cases b : op < 59
          · refine go (q_if_f (by rw [c3, decide_eq_false h3]) (q_if_f (cF 3 e3) (q_if_t (cT 4 e4) ?_)))
            simp [retOf, lr1, lr3, mod_ii, div_ii, upd_ne, tp0, tp1, tp2, tp3, tp4, tp5, tp6, insV, Arg.v, effV, hop, n69, a, b]
          · refine go (q_if_f (by rw [c3, decide_eq_false h3]) (q_if_f (cF 3 e3) (q_if_t (cT 4 e4) ?_)))
            simp [retOf, lr1, lr3, mod_ii, div_ii, upd_ne, tp0, tp1, tp2, tp3, tp4, tp5, tp6, insV, Arg.v, effV, hop, n69, a, b]
      · have key : ∀ i : Nat, i < 13 → (56 + (i : Int), (if 56 + (i : Int) = 56 then 0 else if 56 + (i : Int) < 59 then 1 else 2 : Int), (0 : Int)) ∈ brL := by decide
        obtain ⟨i, hi⟩ := Int.eq_ofNat_of_zero_le i0
        rw [hi]
        exact key i (by (first | lia | omega))
  by_cases e5 : k = 5
  · obtain ⟨i0, i1⟩ := fmod_rng t (b := 4) (by decide)
    obtain ⟨ns, σ1, e1, x1, g1, l1⟩ := comp_any (di := dThen (dCons (dThen2 (dLoc 3) (dInt 4) oMod) dNil) oRange) (v := .rng (t.fmod 4)) (src := .rng (t.fmod 4)) (full := rngV (t.fmod 4)) (loc := L) (fr := [3])
      (dt := dT) (de := dThen2 (dThen2 (dLoc 1) (dInt 4) oDiv) (dLoc 0) oAdd) (σ := σ)
      (by simp [mod_ii, lr3]) (rng_of (by (first | lia | omega))) (fun _ _ => rfl) (by rw [rngV_len]; (first | lia | omega)) (fun x hx σ' e => by
        obtain ⟨i, rfl, hi⟩ := rngV_mem hx
        have c0 : compLoc L [3] (.int i) 0 = some (.int i) := rfl
        have c1 : compLoc L [3] (.int i) 1 = some (.int t) := lr3
        exact ⟨true, rfl, fun _ => ⟨t.fdiv 4 + i, σ', by simp [c0, c1, div_ii], .refl _⟩⟩)
    rw [rngV_len] at l1
    have tp : oTuple [.lst σ.length] σ1 = .ok (.tup (ns.map V.int)) σ1 := tuple_l _ _ _ g1 (by rw [List.length_map]; (first | lia | omega))
    refine ⟨69, .sw ns, some (1, 0), σ1, ?_, x1, .sw, fun gs q => by cases q; (first | lia | omega)⟩
    refine go (q_if_f (by rw [c3, decide_eq_false h3]) (q_if_f (cF 3 e3) (q_if_f (cF 4 e4) (q_if_t (cT 5 e5) ?_))))
    simp [retOf, lr1, lr3, mod_ii, div_ii, upd_ne, tp0, tp1, tp2, tp3, tp4, tp5, tp6, insV, Arg.v, effV, e1, tp]
  by_cases e6 : k = 6
  · obtain ⟨i0, i1⟩ := fmod_rng t (b := 3) (by decide)
    obtain ⟨m0, m1⟩ := fmod_rng (t.fdiv 3) (b := 8) (by decide)
    generalize hm : (t.fdiv 3).fmod 8 = mid at m0 m1
    obtain ⟨op, ho, hop⟩ : ∃ op : Int, (∀ σ, oItem tv (.tup [.int 40, .int 111, .int 115]) (.int (t.fmod 3)) σ = .ok (.int op) σ) ∧ (op = 40 ∨ op = 111 ∨ op = 115) := by
      have : t.fmod 3 = 0 ∨ t.fmod 3 = 1 ∨ t.fmod 3 = 2 := by (first | lia | omega)
      rcases this with q | q | q <;> rw [q]
      · exact ⟨40, fun _ => rfl, .inl rfl⟩
      · exact ⟨111, fun _ => rfl, .inr (.inl rfl)⟩
      · exact ⟨115, fun _ => rfl, .inr (.inr rfl)⟩
    refine ⟨op, .m mid, callEff op mid, σ, ?_, .refl _, .call hop m0 m1, fun _ q => (by cases q)⟩
    refine go (q_if_f (by rw [c3, decide_eq_false h3]) (q_if_f (cF 3 e3) (q_if_f (cF 4 e4) (q_if_f (cF 5 e5) (q_if_t (cT 6 e6) ?_)))))
    simp [retOf, lr1, lr3, mod_ii, div_ii, upd_ne, tp0, tp1, tp2, tp3, tp4, tp5, tp6, insV, Arg.v, ho, hm, r_lcall]
  have fin7 : ∀ {x σ'}, retOf (rowEnd ⟨L, σ⟩) = some (x, σ') → R__law_row [.int v, .int ret] σ = .ok x σ' := fun h => go (q_if_f (by rw [c3, decide_eq_false h3]) (q_if_f (cF 3 e3) (q_if_f (cF 4 e4) (q_if_f (cF 5 e5) (q_if_f (cF 6 e6) h)))))
  obtain ⟨i0, i1⟩ := fmod_rng t (b := 7) (by decide)
  generalize hq : t.fmod 7 = q at i0 i1
  have : q = 0 ∨ q = 1 ∨ q = 2 ∨ q = 3 ∨ q = 4 ∨ q = 5 ∨ q = 6 := by (first | lia | omega)
  rcases this with rfl | rfl | rfl | rfl | rfl | rfl | rfl
  · refine ⟨42, .n 0, some (ret, 0), σ, ?_, .refl _, .ret, fun _ q => (by cases q)⟩
    exact fin7 (by simp [retOf, rowEnd, lr1, lr3, mod_ii, div_ii, upd_ne, tp0, tp1, tp2, tp3, tp4, tp5, tp6, insV, Arg.v, effV, hq])
  · refine ⟨122, .n 0, some (1, 0), σ, ?_, .refl _, .plain (by decide), fun _ q => (by cases q)⟩
    exact fin7 (by simp [retOf, rowEnd, lr1, lr3, mod_ii, div_ii, upd_ne, tp0, tp1, tp2, tp3, tp4, tp5, tp6, insV, Arg.v, effV, hq])
  · refine ⟨220, .n 0, some (0, 0), σ, ?_, .refl _, .plain (by decide), fun _ q => (by cases q)⟩
    exact fin7 (by simp [retOf, rowEnd, lr1, lr3, mod_ii, div_ii, upd_ne, tp0, tp1, tp2, tp3, tp4, tp5, tp6, insV, Arg.v, effV, hq])
  · refine ⟨65041, .n 0, some (1, 0), σ, ?_, .refl _, .plain (by decide), fun _ q => (by cases q)⟩
    exact fin7 (by simp [retOf, rowEnd, lr1, lr3, mod_ii, div_ii, upd_ne, tp0, tp1, tp2, tp3, tp4, tp5, tp6, insV, Arg.v, effV, hq, item_t2])
  · refine ⟨65050, .n 0, some (0, 0), σ, ?_, .refl _, .plain (by decide), fun _ q => (by cases q)⟩
    exact fin7 (by simp [retOf, rowEnd, lr1, lr3, mod_ii, div_ii, upd_ne, tp0, tp1, tp2, tp3, tp4, tp5, tp6, insV, Arg.v, effV, hq, item_t3])
  · refine ⟨42, .n 0, some (ret, 0), σ, ?_, .refl _, .ret, fun _ q => (by cases q)⟩
    exact fin7 (by simp [retOf, rowEnd, lr1, lr3, mod_ii, div_ii, upd_ne, tp0, tp1, tp2, tp3, tp4, tp5, tp6, insV, Arg.v, effV, hq, item_t4])
  · refine ⟨36, .n 0, none, σ, ?_, .refl _, .bad, fun _ q => (by cases q)⟩
    exact fin7 (by simp [retOf, rowEnd, lr1, lr3, mod_ii, div_ii, upd_ne, tp0, tp1, tp2, tp3, tp4, tp5, tp6, insV, Arg.v, effV, hq])
theorem r_row {v ret : Int} {σ : Sto} : ∃ op a e σ', R__law_row [.int v, .int ret] σ = .ok (.tup [insV (op, a), effV e]) σ' ∧ Ext σ σ' ∧ WF ret op a e ∧ ∀ gs, a = .sw gs → gs.length ≤ 3 := by
  obtain ⟨op, a, e, σ', h, x, w, l⟩ := row_ok (v := v) (ret := ret) (σ := σ)
  exact ⟨op, a, e, σ', h, x, w, l⟩

end Mine
end
section
set_option tactic.hygienic false
set_option backward.defeqAttrib.useBackward true
set_option maxRecDepth 100000
set_option linter.unusedSimpArgs false
open PySem PySem.W PyProof.Rows PySem.Calls
namespace Mine

structure Row where
  p : Ins
  e : Eff
  d : Int
  b : Int
noncomputable def rowV (r : Row) : V := .tup [insV r.p, effV r.e, .int r.d, .int r.b]
structure RowWF (ret : Int) (r : Row) : Prop where
  w : WF ret r.p.1 r.p.2 r.e
  sw : ∀ gs, r.p.2 = .sw gs → gs.length ≤ 3

noncomputable def drBody : DS := (sSeq (sUnpack [5, 6] (dThen (dCons (dLoc 4) (dCons (dLoc 1) dNil)) R__law_row)) <|
    sSeq (sIf (dAnd (dThen (dThen2 (dLoc 6) dNone oIsNot) oBoolV) (dAnd (dThen (dThen2 (dThen2 (dLoc 6) (dInt 0) (oItem tv)) (dLoc 3) (oIntCmp fun a b => decide (b < a))) oBoolV) (dAnd (dThen (dThen2 (dThen2 (dThen2 (dLoc 4) (dInt 1000) oDiv) (dInt 7) oMod) (dInt 6) (oIntCmp (· != ·))) oBoolV) dTrue)))
      (sSeq (sUnpack [5, 6] (dThen (dCons (dThen (dCons (dInt 32) (dCons (dInt 1) dNil)) oTup) (dCons (dThen (dCons (dInt 0) (dCons (dInt 1) dNil)) oTup) dNil)) oTup)) <|
      sNil)
      (sNil)) <|
    sSeq (sAssign 7 (dThen (dCons (dThen2 (dLoc 5) (dInt 0) (oItem tv)) (dCons (dLoc 6) (dCons (dLoc 3) dNil))) R__law_behind)) <|
    sSeq (sExpr (dMeth (dLoc 2) (dCons (dThen (dCons (dLoc 5) (dCons (dLoc 6) (dCons (dLoc 3) (dCons (dLoc 7) dNil)))) oTup) dNil) oAppend)) <|
    sSeq (sAssign 3 (dThen (dCons (dLoc 7) (dCons (dInt 0) dNil)) oMax)) <|
    sNil)
noncomputable def drTail : DS := (sSeq (sAssign 7 (dThen (dCons (dThen2 (dLoc 5) (dInt 0) (oItem tv)) (dCons (dLoc 6) (dCons (dLoc 3) dNil))) R__law_behind)) <|
    sSeq (sExpr (dMeth (dLoc 2) (dCons (dThen (dCons (dLoc 5) (dCons (dLoc 6) (dCons (dLoc 3) (dCons (dLoc 7) dNil)))) oTup) dNil) oAppend)) <|
    sSeq (sAssign 3 (dThen (dCons (dLoc 7) (dCons (dInt 0) dNil)) oMax)) <|
    sNil)
theorem max2 (a b : Int) (σ : Sto) : oMax [.int a, .int b] σ = .ok (.int (max a b)) σ := rfl
theorem dr_tail {ret d : Int} {p : Ins} {e : Eff} {rr : Nat} {rows : List Row} {loc : Nat → Option V} {σ : Sto} (w : RowWF ret ⟨p, e, d, behindOf p.1 e d⟩) (l2 : loc 2 = some (.lst rr)) (l3 : loc 3 = some (.int d)) (l5 : loc 5 = some (insV p)) (l6 : loc 6 = some (effV e)) (hl : rows.length ≤ 100) (g : σ[rr]? = some (rows.map rowV)) :
    ∃ row : Row, RowWF ret row ∧ drTail ⟨loc, σ⟩ = .ok .next ⟨upd (upd loc 7 (.int row.b)) 3 (.int (max row.b 0)), σ.set rr ((rows ++ [row]).map rowV)⟩ := by
  have lim : limN = 1000 := rfl
  refine ⟨⟨p, e, d, behindOf p.1 e d⟩, w, ?_⟩
  have i0 : ∀ σ, oItem tv (insV p) (.int 0) σ = .ok (.int p.1) σ := fun _ => rfl
  have mk : ∀ loc da k', methK da k' loc (.lst rr) σ = (da ⟨loc, σ⟩).bind (methK2 k' (.lst rr)) := fun loc da k' => methK_ap _ _ _ _ _ _ g
  have ap : ∀ x, oAppend [.lst rr, x] σ = .ok .none (σ.set rr (rows.map rowV ++ [x])) := fun x => append_l _ _ _ _ g (by rw [List.length_map]; (first | lia | omega))
  simp [drTail, l2, l3, l5, l6, i0, r_behind, upd_ne, mk, ap, tp4, max2, rowV]
theorem dr_body {ret v d : Int} {rr : Nat} {rows : List Row} {loc : Nat → Option V} {σ : Sto} (l1 : loc 1 = some (.int ret)) (l2 : loc 2 = some (.lst rr)) (l3 : loc 3 = some (.int d)) (hl : rows.length ≤ 100) (g : σ[rr]? = some (rows.map rowV)) :
    ∃ (row : Row) (loc' : Nat → Option V) (σ1 : Sto) (d' : Int), RowWF ret row ∧ drBody ⟨upd loc 4 (.int v), σ⟩ = .ok .next ⟨loc', σ1.set rr ((rows ++ [row]).map rowV)⟩ ∧ Ext σ σ1 ∧ loc' 1 = some (.int ret) ∧ loc' 2 = some (.lst rr) ∧ loc' 3 = some (.int d') := by
  obtain ⟨op, a, e, σ1, e1, x1, w, hs⟩ := r_row (v := v) (ret := ret) (σ := σ)
  have g1 := x1.get g
  have un : ∀ loc x y (σ : Sto), unpK [5, 6] loc (.tup [x, y]) σ = .ok .next ⟨upd (upd loc 5 x) 6 y, σ⟩ := fun _ _ _ _ => rfl
  have D : drBody = (sSeq (sUnpack [5, 6] (dThen (dCons (dLoc 4) (dCons (dLoc 1) dNil)) R__law_row)) <|
    sSeq (sIf (dAnd (dThen (dThen2 (dLoc 6) dNone oIsNot) oBoolV) (dAnd (dThen (dThen2 (dThen2 (dLoc 6) (dInt 0) (oItem tv)) (dLoc 3) (oIntCmp fun a b => decide (b < a))) oBoolV) (dAnd (dThen (dThen2 (dThen2 (dThen2 (dLoc 4) (dInt 1000) oDiv) (dInt 7) oMod) (dInt 6) (oIntCmp (· != ·))) oBoolV) dTrue)))
      (sSeq (sUnpack [5, 6] (dThen (dCons (dThen (dCons (dInt 32) (dCons (dInt 1) dNil)) oTup) (dCons (dThen (dCons (dInt 0) (dCons (dInt 1) dNil)) oTup) dNil)) oTup)) <|
      sNil)
      (sNil)) drTail) := rfl
  have keep : ∀ (loc : Nat → Option V) x y b d', loc 1 = some (.int ret) → loc 2 = some (.lst rr) → (upd (upd (upd (upd loc 5 x) 6 y) 7 b) 3 (.int d')) 1 = some (V.int ret) ∧ (upd (upd (upd (upd loc 5 x) 6 y) 7 b) 3 (.int d')) 2 = some (V.lst rr) := fun loc x y b d' h1 h2 => by simp [upd_ne, h1, h2]
  -- the row stays
  by_cases hc : ∃ t g', e = some (t, g') ∧ d < t ∧ ¬ (v.fdiv 1000).fmod 7 = 6
  · obtain ⟨t, g', rfl, ht, h6⟩ := hc
    have wn : RowWF ret ⟨(32, .n 1), some (0, 1), d, behindOf 32 (some (0, 1)) d⟩ := ⟨WF.plain (op := 32) (t := 0) (g := 1) (by decide), fun gs q => by cases q⟩
    obtain ⟨row, wr, q⟩ := dr_tail (rows := rows) (loc := upd (upd (upd (upd (upd loc 4 (.int v)) 5 (insV (op, a))) 6 (effV (some (t, g')))) 5 (insV (32, .n 1))) 6 (effV (some (0, 1)))) wn (by simp [upd_ne, l2]) (by simp [upd_ne, l3]) (by simp [upd_ne]) (by simp) hl g1
    refine ⟨row, _, σ1, max row.b 0, wr, Eq.trans ?_ q, x1, by simp [upd_ne, l1], by simp [upd_ne, l2], by simp⟩
    rw [D]
    have i32 : insV (32, .n 1) = .tup [.int 32, .int 1] := rfl
    have e01 : effV (some (0, 1)) = .tup [.int 0, .int 1] := rfl
    rw [i32, e01]
    simp [upd_ne, l1, e1, un, isNot_eff, eff0, l3, ht, div_ii, mod_ii, h6, tp2]
  · obtain ⟨row, wr, q⟩ := dr_tail (rows := rows) (loc := upd (upd (upd loc 4 (.int v)) 5 (insV (op, a))) 6 (effV e)) (d := d) (p := (op, a)) ⟨w, hs⟩ (by simp [upd_ne, l2]) (by simp [upd_ne, l3]) (by simp [upd_ne]) (by simp) hl g1
    refine ⟨row, _, σ1, max row.b 0, wr, Eq.trans ?_ q, x1, by simp [upd_ne, l1], by simp [upd_ne, l2], by simp⟩
    rw [D]
    cases e with
    | none => simp [upd_ne, l1, e1, un, isNot_eff, l3, div_ii, mod_ii]
    | some p =>
      obtain ⟨t, g'⟩ := p
      by_cases ht : d < t
      · have h6 : (v.fdiv 1000).fmod 7 = 6 := Classical.byContradiction fun h6 => hc ⟨t, g', rfl, ht, h6⟩
        simp [upd_ne, l1, e1, un, isNot_eff, eff0, l3, div_ii, mod_ii, ht, h6]
      · simp [upd_ne, l1, e1, un, isNot_eff, eff0, l3, div_ii, mod_ii, ht]
theorem dr_loop {ret : Int} {rn rr : Nat} {full : List V} {σ₀ : Sto} (hn : σ₀[rn]? = some full) (hr : σ₀.length ≤ rr) : ∀ (ns : List Int) (rows : List Row) (d : Int) (loc : Nat → Option V) (σ : Sto), (∀ r ∈ rows, RowWF ret r) → rows.length + ns.length ≤ 100 → Ext σ₀ σ → loc 1 = some (.int ret) → loc 2 = some (.lst rr) → loc 3 = some (.int d) → σ[rr]? = some (rows.map rowV) →
    ∃ (rows' : List Row) (loc' : Nat → Option V) (σ' : Sto), forGo (.lst rn) full (.one 4) drBody (ns.map V.int) ⟨loc, σ⟩ = .ok .next ⟨loc', σ'⟩ ∧ loc' 2 = some (.lst rr) ∧ Ext σ₀ σ' ∧ σ'[rr]? = some (rows'.map rowV) ∧ rows'.length = rows.length + ns.length ∧ ∀ r ∈ rows', RowWF ret r
  | [], rows, d, loc, σ, hw, hl, x, l1, l2, l3, g => ⟨rows, loc, σ, forGo_nil (src := .lst rn) (st := ⟨loc, σ⟩) (x.get hn), l2, x, g, rfl, hw⟩
  | n :: ns, rows, d, loc, σ, hw, hl, x, l1, l2, l3, g => by
    rw [List.length_cons] at hl ⊢
    obtain ⟨row, loc1, σ1, d1, wr, e1, x1, a1, a2, a3⟩ := dr_body (v := n) l1 l2 l3 (by (first | lia | omega)) g
    have g1 := x1.get g
    have hr1 : rr < σ1.length := (List.getElem?_eq_some_iff.mp g1).1
    obtain ⟨rows', loc', σ', q1, q2, q3, q4, q5, q6⟩ := dr_loop hn hr ns (rows ++ [row]) d1 loc1 (σ1.set rr ((rows ++ [row]).map rowV)) (fun r h => by
      rcases List.mem_append.mp h with h | h
      · exact hw r h
      · rw [List.mem_singleton] at h; exact h ▸ wr) (by simp; (first | lia | omega)) ((x.trans x1).set hr _) a1 a2 a3 (List.getElem?_set_self hr1)
    refine ⟨rows', loc', σ', ?_, q2, q3, q4, by rw [q5]; simp; (first | lia | omega), q6⟩
    rw [List.map_cons, forGo_one (src := .lst rn) (st := ⟨loc, σ⟩) (x.get hn), e1, RS.bind_ok, forK_next, q1]
theorem r_drawn {ret : Int} {rn : Nat} {ns : List Int} {σ : Sto} (hn : σ[rn]? = some (ns.map V.int)) (hl : ns.length ≤ 18) :
    ∃ (rows : List Row) (σ' : Sto), R__law_drawn [.lst rn, .int ret] σ = .ok (.lst σ.length) σ' ∧ Ext σ σ' ∧ σ'[σ.length]? = some (rows.map rowV) ∧ rows.length ≤ 18 ∧ ∀ r ∈ rows, RowWF ret r := by
  have D : R__law_drawn = runFn 2 (sSeq (sAssign 2 (dThen dNil oLst)) <|
  sSeq (sAssign 3 (dInt 0)) <|
  sSeq (sFor (dLoc 0) (.one 4) drBody) <|
  sSeq (sReturn (dLoc 2)) <|
  sNil) := rfl
  have nl : oLst [] σ = .ok (.lst σ.length) (σ ++ [[]]) := lst_ap _ _ (by simp [limN])
  obtain ⟨rows', loc', σ', q1, q2, q3, q4, q5, q6⟩ := dr_loop (ret := ret) hn (Nat.le_refl σ.length) ns [] 0 (upd (upd (argL [.lst rn, .int ret]) 2 (.lst σ.length)) 3 (.int 0)) (σ ++ [[]]) (fun r h => by cases h) (by simp; (first | lia | omega)) (.add _ _) (by simp [upd_ne]) (by simp [upd_ne]) (by simp) (get_last _ _)
  have fs : ∀ loc, forS (.one 4) drBody loc (.lst rn) (σ ++ [[]]) = forGo (.lst rn) (ns.map V.int) (.one 4) drBody (ns.map V.int) ⟨loc, σ ++ [[]]⟩ := fun loc => forS_lst _ _ _ _ _ _ (get_pre _ hn)
  refine ⟨rows', σ', ?_, q3, q4, by simp at q5; (first | lia | omega), q6⟩
  rw [D]
  simp [nl, upd_ne, fs, q1, q2]
end Mine
end
section
set_option tactic.hygienic false
set_option backward.defeqAttrib.useBackward true
set_option maxRecDepth 100000
set_option linter.unusedSimpArgs false
open PySem PySem.W PyProof.Rows PySem.Calls
namespace Mine

noncomputable def aimComp : DE := dComp (dThen2 (dLoc 2) (dInt 1) (oItem tv)) [0, 5] dT (dThen (dCons (dLoc 1) (dCons (dLoc 2) (dCons (dLoc 0) dNil))) R__law_pick)
noncomputable def aimChain : DB := dOr (dChain (dInt 56) (dThen2 (dLoc 2) (dInt 0) (oItem tv)) (dInt 69) (oIntCmp fun a b => decide (a ≤ b)) (oIntCmp fun a b => decide (a < b))) (dOr (dThen (dThen2 (dThen2 (dLoc 2) (dInt 0) (oItem tv)) (dInt 221) oEq) oBoolV) dFalse)
noncomputable def aimBody : DS := (sSeq (sIf (dThen (dThen2 (dThen2 (dLoc 2) (dInt 0) (oItem tv)) (dInt 69) oEq) oBoolV)
      (sSeq (sExpr (dMeth (dLoc 1) (dCons (dThen (dCons (dInt 69) (dCons (dThen (dCons aimComp dNil) oTuple) dNil)) oTup) dNil) oAppend)) <|
      sNil)
      (sSeq (sIf aimChain
        (sSeq (sExpr (dMeth (dLoc 1) (dCons (dThen (dCons (dThen2 (dLoc 2) (dInt 0) (oItem tv)) (dCons (dThen (dCons (dLoc 0) (dCons (dLoc 5) (dCons (dThen2 (dLoc 2) (dInt 1) (oItem tv)) dNil))) R__law_pick) dNil)) oTup) dNil) oAppend)) <|
        sNil)
        (sSeq (sExpr (dMeth (dLoc 1) (dCons (dLoc 2) dNil) oAppend)) <|
        sNil)) <|
      sNil)) <|
    sNil)
theorem aim_chain {σ : Sto} {loc : Nat → Option V} {p : Ins} (h : loc 2 = some (insV p)) : aimChain ⟨loc, σ⟩ = .ok (decide (isBr p.1)) σ := by
  have i0 : ∀ σ, oItem tv (insV p) (.int 0) σ = .ok (.int p.1) σ := fun _ => rfl
  have c1 : ∀ loc, chK1 (dInt 69) (oIntCmp fun a b => decide (a ≤ b)) (oIntCmp fun a b => decide (a < b)) loc (.int 56) (.int p.1) σ = _ := fun loc => chK1_ap (t := decide (56 ≤ p.1)) _ _ _ _ _ _ _ rfl
  unfold isBr aimChain
  generalize p.1 = op at *
  by_cases a : 56 ≤ op
  · by_cases b : op < 69
    · simp [h, i0, c1, a, b]
    · by_cases c : op = 221
      · subst c
        simp [h, i0, c1]
      · simp [h, i0, c1, a, b, c]
  · by_cases c : op = 221
    · (first | lia | omega)
    · simp [h, i0, c1, a, c]
theorem wf_br {ret op x y : Int} {e : Eff} (w : WF ret op (.n x) e) (hb : isBr op) : WF ret op (.n y) e := by
  unfold isBr at hb
  generalize ha : Arg.n x = a at w
  cases w with
  | plain h =>
    obtain ⟨_, _, _, n2, n3, _⟩ := plain_ok _ h
    exact absurd hb fun q => q.elim n2 n3
  | br h => exact .br h
  | sw => cases ha
  | call h => cases ha
  | ret => (first | lia | omega)
  | bad => (first | lia | omega)
theorem aim_body {ret : Int} {rr rc : Nat} {rows : List Row} {row : Row} {code : List Ins} {loc : Nat → Option V} {σ : Sto} (hr : σ[rr]? = some (rows.map rowV)) (hn : rows.length ≤ 100) (h0 : 0 < rows.length) (w : RowWF ret row) (l0 : loc 0 = some (.lst rr)) (l1 : loc 1 = some (.lst rc)) (l2 : loc 2 = some (insV row.p)) (l5 : loc 5 = some (.int row.b)) (hl : code.length ≤ 100) (g : σ[rc]? = some (code.map insV)) :
    ∃ (a : Arg) (σ1 : Sto), aimBody ⟨loc, σ⟩ = .ok .next ⟨loc, σ1.set rc ((code ++ [(row.p.1, a)]).map insV)⟩ ∧ Ext σ σ1 ∧ WF ret row.p.1 a row.e ∧ (tgt (row.p.1, a)).length ≤ 100 := by
  have lim : limN = 1000 := rfl
  have pk : ∀ (d t : Int) (σ' : Sto), Ext σ σ' → ∃ k σ'', R__law_pick [.lst rr, .int d, .int t] σ' = .ok (.int k) σ'' ∧ Ext σ' σ'' := fun d t σ' e => r_pick (e.get hr) (by rw [List.length_map]; exact hn) (by rw [List.length_map]; exact h0) (fun i x hx => by
    rw [List.getElem?_map, Option.map_eq_some_iff] at hx
    obtain ⟨r, _, rfl⟩ := hx
    exact ⟨r.d, fun _ => rfl⟩)
  obtain ⟨⟨op, a⟩, e, d, b⟩ := row
  dsimp only at *
  have ww := w.w
  have hsw := w.sw
  dsimp only at ww hsw
  have i0 : ∀ σ, oItem tv (insV (op, a)) (.int 0) σ = .ok (.int op) σ := fun _ => rfl
  have i1 : ∀ σ, oItem tv (insV (op, a)) (.int 1) σ = .ok a.v σ := fun _ => rfl
  have mk : ∀ loc da k' , methK da k' loc (.lst rc) σ = (da ⟨loc, σ⟩).bind (methK2 k' (.lst rc)) := fun loc da k' => methK_ap _ _ _ _ _ _ g
  have ap : ∀ σ', Ext σ σ' → ∀ x, oAppend [.lst rc, x] σ' = .ok .none (σ'.set rc (code.map insV ++ [x])) := fun σ' e x => append_l _ _ _ _ (e.get g) (by rw [List.length_map]; (first | lia | omega))
  have h69 := op69 ww
  by_cases h : op = 69
  · obtain ⟨gs, rfl⟩ := h69.mp h
    subst h
    have hg := hsw gs rfl
    obtain ⟨ns, σ1, e1, x1, g1, q1⟩ := comp_any (di := dThen2 (dLoc 2) (dInt 1) (oItem tv)) (v := .tup (gs.map V.int)) (src := .tup (gs.map V.int)) (full := gs.map V.int) (loc := loc) (fr := [0, 5])
      (dt := dT) (de := dThen (dCons (dLoc 1) (dCons (dLoc 2) (dCons (dLoc 0) dNil))) R__law_pick) (σ := σ)
      (by simp [l2, i1, Arg.v]) rfl (fun _ _ => rfl) (by rw [List.length_map]; (first | lia | omega)) (fun x hx σ' e => by
        obtain ⟨t, _, rfl⟩ := List.mem_map.mp hx
        obtain ⟨k, σ'', q, x⟩ := pk b t σ' e
        have c0 : compLoc loc [0, 5] (.int t) 0 = some (.int t) := rfl
        have c1 : compLoc loc [0, 5] (.int t) 1 = loc 0 := rfl
        have c2 : compLoc loc [0, 5] (.int t) 2 = loc 5 := rfl
        exact ⟨true, rfl, fun _ => ⟨k, σ'', by simp [c0, c1, c2, l0, l5, q], x⟩⟩)
    rw [List.length_map] at q1
    have e1' : aimComp ⟨loc, σ⟩ = .ok (.lst σ.length) σ1 := e1
    have tp : oTuple [.lst σ.length] σ1 = .ok (.tup (ns.map V.int)) σ1 := tuple_l _ _ _ g1 (by rw [List.length_map]; (first | lia | omega))
    refine ⟨.sw ns, σ1, ?_, x1, ?_, by show ns.length ≤ 100; (first | lia | omega)⟩
    · have ap1 := ap σ1 x1
      have iv : insV (69, .sw ns) = .tup [.int 69, .tup (ns.map V.int)] := rfl
      rw [List.map_append, List.map_cons, List.map_nil, iv]
      simp [aimBody, l1, l2, i0, mk, e1', tp, tp2, ap1]
    · cases ww with
      | sw => exact .sw
  · have na : ∀ gs, a ≠ .sw gs := fun gs q => h (h69.mpr ⟨gs, q⟩)
    by_cases hb : isBr op
    · cases a with
      | sw gs => exact absurd rfl (na gs)
      | m mid => exact absurd hb (notBr_m ww)
      | n x =>
        obtain ⟨k, σ1, q, x1⟩ := pk b x σ (.refl _)
        refine ⟨.n k, σ1, ?_, x1, wf_br ww hb, by unfold tgt; dsimp only; split <;> simp⟩
        have ap1 := ap σ1 x1
        have iv : insV (op, .n k) = .tup [.int op, .int k] := rfl
        rw [List.map_append, List.map_cons, List.map_nil, iv]
        simp [aimBody, l0, l1, l2, l5, i0, i1, Arg.v, mk, q, tp2, ap1, h, aim_chain l2, hb]
    · refine ⟨a, σ, ?_, .refl _, ww, by
        cases a with
        | sw gs => exact absurd rfl (na gs)
        | m mid => simp [tgt]
        | n x => unfold tgt; dsimp only; split <;> simp⟩
      have ap1 := ap σ (.refl _)
      rw [List.map_append, List.map_cons, List.map_nil]
      simp [aimBody, l0, l1, l2, i0, mk, ap1, h, aim_chain l2, hb]

noncomputable def Al (ret : Int) (code : List Ins) (rs : List Row) : Prop := code.length = rs.length ∧ ∀ (i : Nat) (p : Ins), code[i]? = some p → ∃ r, rs[i]? = some r ∧ WF ret p.1 p.2 r.e ∧ (tgt p).length ≤ 100
theorem Al.snoc {ret : Int} {code : List Ins} {rs : List Row} (h : Al ret code rs) {p : Ins} {r : Row} (w : WF ret p.1 p.2 r.e) (t : (tgt p).length ≤ 100) : Al ret (code ++ [p]) (rs ++ [r]) := by
  refine ⟨by simp [h.1], fun i q hq => ?_⟩
  by_cases hi : i < code.length
  · rw [List.getElem?_append_left hi] at hq
    obtain ⟨r', a, b⟩ := h.2 i q hq
    exact ⟨r', get_pre _ a, b⟩
  · rw [List.getElem?_append_right (by (first | lia | omega))] at hq
    have h0 : i - code.length = 0 := by
      have := (List.getElem?_eq_some_iff.mp hq).1
      simp at this; (first | lia | omega)
    rw [h0] at hq
    cases hq
    have hi' : i = rs.length := by have := h.1; (first | lia | omega)
    exact ⟨r, by rw [hi']; exact get_last _ _, w, t⟩
theorem aim_loop {ret : Int} {rr rc : Nat} {rows : List Row} {σ₀ : Sto} (hr : σ₀[rr]? = some (rows.map rowV)) (hn : rows.length ≤ 100) (hw : ∀ r ∈ rows, RowWF ret r) (hrc : σ₀.length ≤ rc) : ∀ (rest done : List Row) (code : List Ins) (loc : Nat → Option V) (σ : Sto), (∀ r ∈ rest, r ∈ rows) → Al ret code done → done.length + rest.length ≤ 100 → Ext σ₀ σ → loc 0 = some (.lst rr) → loc 1 = some (.lst rc) → σ[rc]? = some (code.map insV) →
    ∃ (code' : List Ins) (loc' : Nat → Option V) (σ' : Sto), forGo (.lst rr) (rows.map rowV) (.many [2, 3, 4, 5]) aimBody (rest.map rowV) ⟨loc, σ⟩ = .ok .next ⟨loc', σ'⟩ ∧ loc' 1 = some (.lst rc) ∧ Ext σ₀ σ' ∧ σ'[rc]? = some (code'.map insV) ∧ Al ret code' (done ++ rest)
  | [], done, code, loc, σ, _, al, hl, x, l0, l1, g => ⟨code, loc, σ, forGo_nil (src := .lst rr) (st := ⟨loc, σ⟩) (x.get hr), l1, x, g, by rw [List.append_nil]; exact al⟩
  | r :: rest, done, code, loc, σ, hm, al, hl, x, l0, l1, g => by
    rw [List.length_cons] at hl
    have h0 : 0 < rows.length := List.length_pos_of_mem (hm r (.head _))
    have wr := hw r (hm r (.head _))
    have hcl : code.length ≤ 100 := by have := al.1; (first | lia | omega)
    obtain ⟨a, σ1, e1, x1, w1, t1⟩ := aim_body (row := r) (loc := upd (upd (upd (upd loc 2 (insV r.p)) 3 (effV r.e)) 4 (.int r.d)) 5 (.int r.b)) (x.get hr) hn h0 wr (by simp [upd_ne, l0]) (by simp [upd_ne, l1]) (by simp [upd_ne]) (by simp) hcl g
    have g1 := x1.get g
    have hr1 : rc < σ1.length := (List.getElem?_eq_some_iff.mp g1).1
    obtain ⟨code', loc', σ', q1, q2, q3, q4, q5⟩ := aim_loop hr hn hw hrc rest (done ++ [r]) (code ++ [(r.p.1, a)]) (upd (upd (upd (upd loc 2 (insV r.p)) 3 (effV r.e)) 4 (.int r.d)) 5 (.int r.b)) (σ1.set rc ((code ++ [(r.p.1, a)]).map insV)) (fun r h => hm r (.tail _ h)) (al.snoc w1 t1) (by simp; (first | lia | omega)) ((x.trans x1).set hrc _) (by simp [upd_ne, l0]) (by simp [upd_ne, l1]) (List.getElem?_set_self hr1)
    refine ⟨code', loc', σ', ?_, q2, q3, q4, by rw [List.append_assoc] at q5; exact q5⟩
    rw [List.map_cons]
    show forGo _ _ _ _ (.tup [insV r.p, effV r.e, .int r.d, .int r.b] :: _) _ = _
    rw [forGo_many (src := .lst rr) (st := ⟨loc, σ⟩) (x.get hr) rfl, e1, RS.bind_ok, forK_next, q1]
theorem r_aimed {ret : Int} {rr : Nat} {rows : List Row} {σ : Sto} (hr : σ[rr]? = some (rows.map rowV)) (hl : rows.length ≤ 18) (hw : ∀ r ∈ rows, RowWF ret r) :
    ∃ (code : List Ins) (σ' : Sto), R__law_aimed [.lst rr] σ = .ok (.lst σ.length) σ' ∧ Ext σ σ' ∧ σ'[σ.length]? = some (code.map insV) ∧ WFs ret code (rows.map Row.e) ∧ code.length = rows.length := by
  have D : R__law_aimed = runFn 1 (sSeq (sAssign 1 (dThen dNil oLst)) <|
  sSeq (sFor (dLoc 0) (.many [2, 3, 4, 5]) aimBody) <|
  sSeq (sReturn (dLoc 1)) <|
  sNil) := rfl
  have nl : oLst [] σ = .ok (.lst σ.length) (σ ++ [[]]) := lst_ap _ _ (by simp [limN])
  obtain ⟨code', loc', σ', q1, q2, q3, q4, q5⟩ := aim_loop hr (by (first | lia | omega)) hw (Nat.le_refl σ.length) rows [] [] (upd (argL [.lst rr]) 1 (.lst σ.length)) (σ ++ [[]]) (fun r h => h) ⟨rfl, fun i p h => by simp at h⟩ (by simp; (first | lia | omega)) (.add _ _) (by simp [upd_ne]) (by simp) (get_last _ _)
  have fs : ∀ loc, forS (.many [2, 3, 4, 5]) aimBody loc (.lst rr) (σ ++ [[]]) = forGo (.lst rr) (rows.map rowV) (.many [2, 3, 4, 5]) aimBody (rows.map rowV) ⟨loc, σ ++ [[]]⟩ := fun loc => forS_lst _ _ _ _ _ _ (get_pre _ hr)
  rw [List.nil_append] at q5
  refine ⟨code', σ', ?_, q3, q4, ⟨by rw [List.length_map, q5.1], fun i op a h => ?_, fun i p h => ?_, by have := q5.1; (first | lia | omega)⟩, q5.1⟩
  · rw [D]
    simp [nl, upd_ne, fs, q1, q2]
  · obtain ⟨r, a1, a2, _⟩ := q5.2 i _ h
    exact ⟨r.e, get_map a1, a2⟩
  · obtain ⟨r, _, _, a3⟩ := q5.2 i _ h
    exact a3
end Mine
end
section
set_option tactic.hygienic false
set_option backward.defeqAttrib.useBackward true
set_option maxRecDepth 100000
set_option linter.unusedSimpArgs false
open PySem PySem.W PyProof.Rows PySem.Calls
namespace Mine

noncomputable def cqSet : DS := sIf (dThen (dThen2 (dThen2 (dThen2 (dLoc 5) (dInt 640) oDiv) (dInt 8) oMod) (dInt 7) oEq) oBoolV)
        (sSeq (sAssign 10 (dThen2 (dThen2 (dLoc 5) (dInt 5120) oDiv) (dInt 5) oMod)) <|
        sSeq (sSetItem (dThen2 (dThen (dCons (dThen2 (dLoc 3) (dInt 1) oSub) (dCons (dLoc 3) (dCons (dLoc 3) (dCons (dThen (dInt 1) oNeg) (dCons (dThen (dInt 1) oNeg) dNil))))) oTup) (dLoc 10) (oItem tv)) (dLoc 9) (dThen2 (dThen (dCons (dInt 1) (dCons (dInt 2) (dCons (dInt 4) (dCons (dInt 2) (dCons (dInt 4) dNil))))) oTup) (dLoc 10) (oItem tv))) <|
        sNil)
        (sNil)
noncomputable def cqApp : DS := (sSeq (sExpr (dMeth (dLoc 2) (dCons (dThen (dCons (dLoc 9) dNil) oTuple) dNil) oAppend)) <| sNil)
noncomputable def cqPlace : DE := (dIf (dThen (dThen2 (dLoc 6) (dInt 1) oEq) oBoolV) (dThen (dCons (dLoc 0) (dCons (dInt 1) (dCons (dThen2 (dLoc 5) (dInt 6) oDiv) dNil))) R__law_pick) (dInt 0))
noncomputable def cqRow : DE := (dThen (dCons (dLoc 6) (dCons (dThen2 (dThen2 (dLoc 5) (dInt 4) oDiv) (dThen2 (dLoc 3) (dInt 1) oSub) oMod) (dCons (dThen2 (dThen2 (dLoc 5) (dInt 16) oDiv) (dLoc 3) oMod) (dCons (dThen (dCons (dLoc 0) (dCons (dLoc 7) (dCons (dThen2 (dLoc 5) (dInt 5) oDiv) dNil))) R__law_pick) (dCons (dThen2 (dThen2 (dLoc 5) (dInt 32) oDiv) (dLoc 3) oMod) (dCons (dLoc 8) dNil)))))) oLst)
noncomputable def cqZero : DS := (sSeq (sExpr (dMeth (dLoc 2) (dCons (dThen (dCons (dLoc 6) (dCons (dInt 0) (dCons (dInt 0) (dCons (dInt 0) (dCons (dInt 0) (dCons (dInt 0) dNil)))))) oTup) dNil) oAppend)) <|
      sNil)
noncomputable def cqFull : DS := (sSeq (sAssign 8 cqPlace) <|
      sSeq (sAssign 9 cqRow) <|
      sSeq cqSet cqApp)
noncomputable def cqBegin : DE := (dIf (dThen (dThen2 (dLoc 6) (dInt 2) (oIntCmp fun a b => decide (a < b))) oBoolV) (dInt 1) (dInt 0))
noncomputable def cqBody : DS := (sSeq (sAssign 5 (dThen2 (dThen2 (dLoc 1) (dInt 3) oDiv) (dThen2 (dInt 1001) (dLoc 4) oMul) oAdd)) <|
    sSeq (sAssign 6 (dThen2 (dThen (dCons (dInt 0) (dCons (dInt 1) (dCons (dInt 2) (dCons (dInt 4) dNil)))) oTup) (dThen2 (dLoc 5) (dInt 4) oMod) (oItem tv))) <|
    sSeq (sAssign 7 cqBegin) <|
    sSeq (sIf (dThen (dThen2 (dLoc 0) (dThen dNil oLst) oEq) oBoolV) cqZero cqFull) <|
    sNil)

theorem cq_set {w n : Int} {c : Cl} {loc : Nat → Option V} {σ : Sto} (l3 : loc 3 = some (.int (n + 1))) (l5 : loc 5 = some (.int w)) (l9 : loc 9 = some (.lst σ.length)) (hn : 0 ≤ n) (wc : ClWF c) :
    ∃ (c' : Cl) (loc' : Nat → Option V), ClWF c' ∧ c'.s = c.s ∧ cqSet ⟨loc, σ ++ [[.int c.s, .int c.t0, .int c.t1, .int c.h0, .int c.h1, .int c.ex]]⟩ = .ok .next ⟨loc', σ ++ [[.int c'.s, .int c'.t0, .int c'.t1, .int c'.h0, .int c'.h1, .int c'.ex]]⟩ ∧ ∀ j, j < 10 → loc' j = loc j := by
  by_cases h7 : ((w.fdiv 640).fmod 8) = 7
  · obtain ⟨i0, i1⟩ := fmod_rng (w.fdiv 5120) (b := 5) (by decide)
    generalize hk : (w.fdiv 5120).fmod 5 = k at i0 i1
    have si : ∀ (loc : Nat → Option V) (dv dl di : DE) (v : V) (i : Nat), dv ⟨loc, σ ++ [[.int c.s, .int c.t0, .int c.t1, .int c.h0, .int c.h1, .int c.ex]]⟩ = .ok v (σ ++ [[.int c.s, .int c.t0, .int c.t1, .int c.h0, .int c.h1, .int c.ex]]) →
        dl ⟨loc, σ ++ [[.int c.s, .int c.t0, .int c.t1, .int c.h0, .int c.h1, .int c.ex]]⟩ = .ok (.lst σ.length) (σ ++ [[.int c.s, .int c.t0, .int c.t1, .int c.h0, .int c.h1, .int c.ex]]) →
        di ⟨loc, σ ++ [[.int c.s, .int c.t0, .int c.t1, .int c.h0, .int c.h1, .int c.ex]]⟩ = .ok (.int i) (σ ++ [[.int c.s, .int c.t0, .int c.t1, .int c.h0, .int c.h1, .int c.ex]]) → i < 6 →
        sSetItem dv dl di ⟨loc, σ ++ [[.int c.s, .int c.t0, .int c.t1, .int c.h0, .int c.h1, .int c.ex]]⟩ = .ok .next ⟨loc, σ ++ [[.int c.s, .int c.t0, .int c.t1, .int c.h0, .int c.h1, .int c.ex].set i v]⟩ := by
      intro loc dv dl di v i h1 h2 h3 hi
      unfold sSetItem
      rw [h1, R.bindS_ok]
      dsimp only
      rw [h2, R.bindS_ok, h3, R.bindS_ok]
      dsimp only
      rw [get_last]
      dsimp only
      rw [if_pos ⟨by (first | lia | omega), by simp; (first | lia | omega), by simp [limN]⟩, set_last, Int.toNat_natCast]
    have cs : ∀ (k : Nat) (v : V) (i : Nat), (w.fdiv 5120).fmod 5 = (k : Int) → [V.int (n + 1 - 1), .int (n + 1), .int (n + 1), .int (-1), .int (-1)][k]? = some v → [1, 2, 4, 2, 4][k]? = some i →
        cqSet ⟨loc, σ ++ [[.int c.s, .int c.t0, .int c.t1, .int c.h0, .int c.h1, .int c.ex]]⟩ = .ok .next ⟨upd loc 10 (.int k), σ ++ [[.int c.s, .int c.t0, .int c.t1, .int c.h0, .int c.h1, .int c.ex].set i v]⟩ := by
      intro k v i hk hv hi
      have hk5 : k < 5 := (List.getElem?_eq_some_iff.mp hi).1
      have hi6 : i < 6 := by
        have : k = 0 ∨ k = 1 ∨ k = 2 ∨ k = 3 ∨ k = 4 := by (first | lia | omega)
        rcases this with rfl | rfl | rfl | rfl | rfl <;> (cases hi; decide)
      have tv1 : ∀ σ, oItem tv (.tup [V.int (n + 1 - 1), .int (n + 1), .int (n + 1), .int (-1), .int (-1)]) (.int k) σ = .ok v σ := fun σ => item_t _ k _ σ (by (first | lia | omega)) hv
      have ti : ∀ σ, oItem tv (.tup [V.int 1, .int 2, .int 4, .int 2, .int 4]) (.int k) σ = .ok (.int i) σ := fun σ => item_t _ k _ σ (by (first | lia | omega)) (by
        have : k = 0 ∨ k = 1 ∨ k = 2 ∨ k = 3 ∨ k = 4 := by (first | lia | omega)
        rcases this with rfl | rfl | rfl | rfl | rfl <;> (cases hi; rfl))
      have s1 := si (upd loc 10 (.int k)) (dThen2 (dThen (dCons (dThen2 (dLoc 3) (dInt 1) oSub) (dCons (dLoc 3) (dCons (dLoc 3) (dCons (dThen (dInt 1) oNeg) (dCons (dThen (dInt 1) oNeg) dNil))))) oTup) (dLoc 10) (oItem tv)) (dLoc 9) (dThen2 (dThen (dCons (dInt 1) (dCons (dInt 2) (dCons (dInt 4) (dCons (dInt 2) (dCons (dInt 4) dNil))))) oTup) (dLoc 10) (oItem tv)) v i
        (by simp only [then2_ap, then_ap, lcons_ap, loc_ap, upd_ne _ _ (show (3 : Nat) ≠ 10 by decide), l3, locK_some, R.bind_ok, k2_ap, int_ap, sub_ii, consK_ap, neg_i, lnil_ap, consK2_ap, tp5, upd_self, tv1])
        (by simp [upd_ne, l9]) (by simp [tp5, ti]) hi6
      unfold cqSet
      rw [if_ap]
      simp only [then2_ap, then_ap, loc_ap, l5, locK_some, R.bind_ok, k2_ap, int_ap, eq_ii, div_ii w 640 _ (by decide) (by decide), mod_ii (w.fdiv 640) 8 _ (by decide), div_ii w 5120 _ (by decide) (by decide), mod_ii (w.fdiv 5120) 5 _ (by decide), h7, boolV_b, R.bindS_ok, ifK_ap, beq_self_eq_true, if_true, seq_ap, asg_ap, hk, asgK_ap, RS.bind_ok, seqK_next]
      rw [s1]
      rfl
    have kk : k = 0 ∨ k = 1 ∨ k = 2 ∨ k = 3 ∨ k = 4 := by (first | lia | omega)
    have ku : ∀ (v : V) (j : Nat), j < 10 → upd loc 10 v j = loc j := fun v j hj => upd_ne _ _ (by (first | lia | omega))
    rcases kk with rfl | rfl | rfl | rfl | rfl
    · exact ⟨⟨c.s, n + 1 - 1, c.t1, c.h0, c.h1, c.ex⟩, _, ⟨wc.ex, by show 0 ≤ n + 1 - 1; (first | lia | omega)⟩, rfl, cs 0 _ _ hk rfl rfl, ku _⟩
    · exact ⟨⟨c.s, c.t0, n + 1, c.h0, c.h1, c.ex⟩, _, ⟨wc.ex, wc.t0⟩, rfl, cs 1 _ _ hk rfl rfl, ku _⟩
    · exact ⟨⟨c.s, c.t0, c.t1, c.h0, n + 1, c.ex⟩, _, ⟨wc.ex, wc.t0⟩, rfl, cs 2 _ _ hk rfl rfl, ku _⟩
    · exact ⟨⟨c.s, c.t0, -1, c.h0, c.h1, c.ex⟩, _, ⟨wc.ex, wc.t0⟩, rfl, cs 3 _ _ hk rfl rfl, ku _⟩
    · exact ⟨⟨c.s, c.t0, c.t1, c.h0, -1, c.ex⟩, _, ⟨wc.ex, wc.t0⟩, rfl, cs 4 _ _ hk rfl rfl, ku _⟩
  · refine ⟨c, loc, wc, rfl, ?_, fun _ _ => rfl⟩
    unfold cqSet
    rw [if_ap]
    have hb : ((w.fdiv 640).fmod 8 == 7) = false := by simpa using h7
    simp only [then2_ap, then_ap, loc_ap, l5, locK_some, R.bind_ok, k2_ap, int_ap, eq_ii, div_ii w 640 _ (by decide) (by decide), mod_ii (w.fdiv 640) 8 _ (by decide), hb, boolV_b, R.bindS_ok, ifK_ap, Bool.false_eq_true, if_false, nil_ap]
end Mine
end
section
set_option tactic.hygienic false
set_option backward.defeqAttrib.useBackward true
set_option maxRecDepth 100000
set_option linter.unusedSimpArgs false
open PySem PySem.W PyProof.Rows PySem.Calls
namespace Mine

theorem cq_app {ro rx : Nat} {cs : List Cl} {c : Cl} {loc : Nat → Option V} {σ : Sto} (l2 : loc 2 = some (.lst ro)) (l9 : loc 9 = some (.lst rx)) (hl : cs.length ≤ 100) (g : σ[ro]? = some (cs.map clV)) (gx : σ[rx]? = some [.int c.s, .int c.t0, .int c.t1, .int c.h0, .int c.h1, .int c.ex]) :
    cqApp ⟨loc, σ⟩ = .ok .next ⟨loc, σ.set ro ((cs ++ [c]).map clV)⟩ := by
  have lim : limN = 1000 := rfl
  have mk : ∀ loc da k', methK da k' loc (.lst ro) σ = (da ⟨loc, σ⟩).bind (methK2 k' (.lst ro)) := fun loc da k' => methK_ap _ _ _ _ _ _ g
  have ap : ∀ x, oAppend [.lst ro, x] σ = .ok .none (σ.set ro (cs.map clV ++ [x])) := fun x => append_l _ _ _ _ g (by rw [List.length_map]; (first | lia | omega))
  have tp : oTuple [.lst rx] σ = .ok (clV c) σ := tuple_l _ _ _ gx (by simp [limN])
  rw [List.map_append, List.map_cons, List.map_nil]
  simp [cqApp, l2, l9, mk, tp, ap]
theorem cq_zero {ro : Nat} {cs : List Cl} {s : Int} {loc : Nat → Option V} {σ : Sto} (l2 : loc 2 = some (.lst ro)) (l6 : loc 6 = some (.int s)) (hl : cs.length ≤ 100) (g : σ[ro]? = some (cs.map clV)) :
    cqZero ⟨loc, σ⟩ = .ok .next ⟨loc, σ.set ro ((cs ++ [(⟨s, 0, 0, 0, 0, 0⟩ : Cl)]).map clV)⟩ := by
  have lim : limN = 1000 := rfl
  have mk : ∀ loc da k', methK da k' loc (.lst ro) σ = (da ⟨loc, σ⟩).bind (methK2 k' (.lst ro)) := fun loc da k' => methK_ap _ _ _ _ _ _ g
  have ap : ∀ x, oAppend [.lst ro, x] σ = .ok .none (σ.set ro (cs.map clV ++ [x])) := fun x => append_l _ _ _ _ g (by rw [List.length_map]; (first | lia | omega))
  rw [List.map_append, List.map_cons, List.map_nil]
  simp [cqZero, l2, l6, mk, tp6, ap, clV]
theorem cq_full {rr ro : Nat} {rows : List Row} {cs : List Cl} {s bg w : Int} {loc : Nat → Option V} {σ : Sto} (hr : σ[rr]? = some (rows.map rowV)) (hn : rows.length ≤ 100) (h0 : 0 < rows.length) (hne : rr ≠ ro) (l0 : loc 0 = some (.lst rr)) (l2 : loc 2 = some (.lst ro)) (l3 : loc 3 = some (.int (rows.length + 1))) (l5 : loc 5 = some (.int w)) (l6 : loc 6 = some (.int s)) (l7 : loc 7 = some (.int bg)) (hl : cs.length ≤ 100) (g : σ[ro]? = some (cs.map clV)) :
    ∃ (c : Cl) (loc' : Nat → Option V) (σ1 : Sto), ClWF c ∧ c.s = s ∧ cqFull ⟨loc, σ⟩ = .ok .next ⟨loc', σ1.set ro ((cs ++ [c]).map clV)⟩ ∧ Ext σ σ1 ∧ ∀ i, i < 8 → loc' i = loc i := by
  have pk : ∀ (d t : Int) (σ' : Sto), Ext σ σ' → ∃ k σ'', R__law_pick [.lst rr, .int d, .int t] σ' = .ok (.int k) σ'' ∧ Ext σ' σ'' := fun d t σ' e => r_pick (e.get hr) (by rw [List.length_map]; exact hn) (by rw [List.length_map]; exact h0) (fun i x hx => by
    rw [List.getElem?_map, Option.map_eq_some_iff] at hx
    obtain ⟨r, _, rfl⟩ := hx
    exact ⟨r.d, fun _ => rfl⟩)
  obtain ⟨pl, σ1, e1, x1, hpl⟩ : ∃ pl σ1, cqPlace ⟨loc, σ⟩ = .ok (.int pl) σ1 ∧ Ext σ σ1 ∧ (s ≠ 1 → pl = 0) := by
    by_cases h1 : s = 1
    · obtain ⟨k, σ1, q, x⟩ := pk 1 (w.fdiv 6) σ (.refl _)
      exact ⟨k, σ1, by simp [cqPlace, l6, h1, l0, l5, div_ii, q], x, fun h => absurd h1 h⟩
    · exact ⟨0, σ, by simp [cqPlace, l6, h1], .refl _, fun _ => rfl⟩
  obtain ⟨k, σ2, q, x2⟩ := pk bg (w.fdiv 5) σ1 x1
  have hz : (rows.length : Int) ≠ 0 := by (first | lia | omega)
  have hz1 : (rows.length : Int) + 1 ≠ 0 := by (first | lia | omega)
  have hz2 : (rows.length : Int) + 1 - 1 ≠ 0 := by (first | lia | omega)
  have m1 : ∀ a σ, oMod (.int a) (.int (rows.length + 1)) σ = .ok (.int (a.fmod (rows.length + 1))) σ := fun a σ => mod_ii _ _ _ hz1
  have m2 : ∀ a σ, oMod (.int a) (.int (rows.length + 1 - 1)) σ = .ok (.int (a.fmod (rows.length + 1 - 1))) σ := fun a σ => mod_ii _ _ _ hz2
  let c : Cl := ⟨s, (w.fdiv 4).fmod (rows.length + 1 - 1), (w.fdiv 16).fmod (rows.length + 1), k, (w.fdiv 32).fmod (rows.length + 1), pl⟩
  have wc : ClWF c := ⟨hpl, (fmod_rng _ (by (first | lia | omega))).1⟩
  have ls : ∀ xs : List V, xs.length = 6 → oLst xs σ2 = .ok (.lst σ2.length) (σ2 ++ [xs]) := fun xs h => lst_ap _ _ (by rw [h]; decide)
  have e2 : cqRow ⟨upd loc 8 (.int pl), σ1⟩ = .ok (.lst σ2.length) (σ2 ++ [[.int c.s, .int c.t0, .int c.t1, .int c.h0, .int c.h1, .int c.ex]]) := by
    unfold cqRow
    simp only [then_ap, lcons_ap, loc_ap, upd_ne _ _ (show (6 : Nat) ≠ 8 by decide), upd_ne _ _ (show (5 : Nat) ≠ 8 by decide), upd_ne _ _ (show (3 : Nat) ≠ 8 by decide), upd_ne _ _ (show (0 : Nat) ≠ 8 by decide), upd_ne _ _ (show (7 : Nat) ≠ 8 by decide), upd_self, l0, l3, l5, l6, l7, locK_some, R.bind_ok, consK_ap, then2_ap, k2_ap, int_ap, sub_ii, div_ii w 4 _ (by decide) (by decide), div_ii w 16 _ (by decide) (by decide), div_ii w 5 _ (by decide) (by decide), div_ii w 32 _ (by decide) (by decide), m1, m2, lnil_ap, consK2_ap, q]
    exact ls _ rfl
  obtain ⟨c', loc', wc', hs', e3, keep⟩ := cq_set (w := w) (n := rows.length) (c := c) (loc := upd (upd loc 8 (.int pl)) 9 (.lst σ2.length)) (σ := σ2) (by simp [upd_ne, l3]) (by simp [upd_ne, l5]) (by simp) (by (first | lia | omega)) wc
  have x3 : Ext σ (σ2 ++ [[.int c'.s, .int c'.t0, .int c'.t1, .int c'.h0, .int c'.h1, .int c'.ex]]) := (x1.trans x2).trans (.add _ _)
  have e4 := cq_app (c := c') (loc := loc') (ro := ro) (rx := σ2.length) (cs := cs) (σ := σ2 ++ [[.int c'.s, .int c'.t0, .int c'.t1, .int c'.h0, .int c'.h1, .int c'.ex]]) (by rw [keep 2 (by decide)]; simp [upd_ne, l2]) (by rw [keep 9 (by decide)]; simp) hl (x3.get g) (get_last _ _)
  refine ⟨c', loc', _, wc', hs', ?_, x3, fun i hi => by rw [keep i (by (first | lia | omega)), upd_ne _ _ (by (first | lia | omega)), upd_ne _ _ (by (first | lia | omega))]⟩
  unfold cqFull
  rw [seq_ap, asg_ap, e1, R.bindS_ok, asgK_ap, RS.bind_ok, seqK_next, seq_ap, asg_ap, e2, R.bindS_ok, asgK_ap, RS.bind_ok, seqK_next, seq_ap, e3, RS.bind_ok, seqK_next, e4]
theorem cq_body {rr ro j : Nat} {rows : List Row} {cs : List Cl} {q : Int} {loc : Nat → Option V} {σ : Sto} (hr : σ[rr]? = some (rows.map rowV)) (hn : rows.length ≤ 100) (hne : rr ≠ ro) (hj : j < 3) (l0 : loc 0 = some (.lst rr)) (l1 : loc 1 = some (.int q)) (l2 : loc 2 = some (.lst ro)) (l3 : loc 3 = some (.int (rows.length + 1))) (hl : cs.length ≤ 100) (g : σ[ro]? = some (cs.map clV)) :
    ∃ (c : Cl) (loc' : Nat → Option V) (σ1 : Sto), ClWF c ∧ 0 ≤ c.s ∧ cqBody ⟨upd loc 4 (.int j), σ⟩ = .ok .next ⟨loc', σ1.set ro ((cs ++ [c]).map clV)⟩ ∧ Ext σ σ1 ∧ ∀ i, i < 4 → loc' i = loc i := by
  have lim : limN = 1000 := rfl
  have mj : ∀ σ, oMul (.int 1001) (.int j) σ = .ok (.int (1001 * j)) σ := fun σ => if_pos ⟨by decide, by (first | lia | omega)⟩
  generalize hw : q.fdiv 3 + 1001 * (j : Int) = w at *
  obtain ⟨s, hs, s0⟩ : ∃ s : Int, (∀ σ, oItem tv (.tup [V.int 0, .int 1, .int 2, .int 4]) (.int (w.fmod 4)) σ = .ok (.int s) σ) ∧ 0 ≤ s := by
    obtain ⟨i0, i1⟩ := fmod_rng w (b := 4) (by decide)
    have : w.fmod 4 = 0 ∨ w.fmod 4 = 1 ∨ w.fmod 4 = 2 ∨ w.fmod 4 = 3 := by (first | lia | omega)
    rcases this with h | h | h | h <;> rw [h]
    · exact ⟨0, fun _ => rfl, by decide⟩
    · exact ⟨1, fun _ => rfl, by decide⟩
    · exact ⟨2, fun _ => rfl, by decide⟩
    · exact ⟨4, fun _ => rfl, by decide⟩
  obtain ⟨bg, hb⟩ : ∃ bg : Int, ∀ (loc : Nat → Option V) (σ : Sto), loc 6 = some (.int s) → cqBegin ⟨loc, σ⟩ = .ok (.int bg) σ := by
    by_cases h : s < 2
    · exact ⟨1, fun loc σ h6 => by simp [cqBegin, h6, h]⟩
    · exact ⟨0, fun loc σ h6 => by simp [cqBegin, h6, h]⟩
  have nl : oLst [] σ = .ok (.lst σ.length) (σ ++ [[]]) := lst_ap _ _ (by simp [limN])
  have eq : oEq (.lst rr) (.lst σ.length) (σ ++ [[]]) = .ok (.bool (rows.map rowV).isEmpty) (σ ++ [[]]) := eq_lnil _ _ _ _ (get_pre _ hr) (get_last _ _) (by rw [List.length_map]; (first | lia | omega))
  let loc1 := upd (upd (upd (upd loc 4 (.int j)) 5 (.int w)) 6 (.int s)) 7 (.int bg)
  have pre : cqBody ⟨upd loc 4 (.int j), σ⟩ = ((if (rows.map rowV).isEmpty = true then cqZero ⟨loc1, σ ++ [[]]⟩ else cqFull ⟨loc1, σ ++ [[]]⟩).bind (seqK sNil)) := by
    unfold cqBody
    rw [seq_ap, asg_ap]
    simp only [then2_ap, loc_ap, upd_ne _ _ (show (1 : Nat) ≠ 4 by decide), l1, locK_some, R.bind_ok, k2_ap, int_ap, div_ii q 3 _ (by decide) (by decide), upd_self, mj, add_ii, R.bindS_ok, asgK_ap, RS.bind_ok, seqK_next, hw]
    rw [seq_ap, asg_ap]
    simp only [then2_ap, then_ap, lcons_ap, lnil_ap, consK_ap, consK2_ap, loc_ap, upd_self, locK_some, R.bind_ok, k2_ap, int_ap, tp4, mod_ii w 4 _ (by decide), hs, R.bindS_ok, asgK_ap, RS.bind_ok, seqK_next]
    rw [seq_ap, asg_ap, hb _ _ (by simp), R.bindS_ok, asgK_ap, RS.bind_ok, seqK_next, seq_ap, if_ap]
    simp only [then2_ap, then_ap, lnil_ap, loc_ap, upd_ne _ _ (show (0 : Nat) ≠ 7 by decide), upd_ne _ _ (show (0 : Nat) ≠ 6 by decide), upd_ne _ _ (show (0 : Nat) ≠ 5 by decide), upd_ne _ _ (show (0 : Nat) ≠ 4 by decide), l0, locK_some, R.bind_ok, k2_ap, nl, eq, boolV_b, R.bindS_ok, ifK_ap]
    rfl
  have g1 : (σ ++ [[]])[ro]? = some (cs.map clV) := get_pre _ g
  have k1 : ∀ i, i < 4 → loc1 i = loc i := fun i hi => by simp only [loc1]; rw [upd_ne _ _ (by (first | lia | omega)), upd_ne _ _ (by (first | lia | omega)), upd_ne _ _ (by (first | lia | omega)), upd_ne _ _ (by (first | lia | omega))]
  have k6 : loc1 6 = some (.int s) := by simp [loc1, upd_ne]
  cases rows with
  | nil =>
    refine ⟨⟨s, 0, 0, 0, 0, 0⟩, loc1, σ ++ [[]], ⟨fun _ => rfl, Int.le_refl 0⟩, s0, ?_, .add _ _, k1⟩
    rw [pre, List.map_nil, List.isEmpty_nil, if_pos rfl, cq_zero ((k1 2 (by decide)).trans l2) k6 hl g1]
    rfl
  | cons r rs =>
    obtain ⟨c, loc', σ1, wc, hcs, e, x, keep⟩ := cq_full (loc := loc1) (σ := σ ++ [[]]) (bg := bg) (w := w) (get_pre _ hr) hn (by simp) hne ((k1 0 (by decide)).trans l0) ((k1 2 (by decide)).trans l2) ((k1 3 (by decide)).trans l3) (by simp [loc1, upd_ne]) k6 (by simp [loc1]) hl g1
    refine ⟨c, loc', σ1, wc, hcs ▸ s0, ?_, (Ext.add _ _).trans x, fun i hi => (keep i (by (first | lia | omega))).trans (k1 i hi)⟩
    rw [pre, List.map_cons, List.isEmpty_cons, if_neg (by decide), e]
    rfl
theorem cq_loop {rr ro : Nat} {rows : List Row} {q k : Int} {σ₀ : Sto} (hr : σ₀[rr]? = some (rows.map rowV)) (hn : rows.length ≤ 100) (hro : σ₀.length ≤ ro) : ∀ (js : List Nat) (cs : List Cl) (loc : Nat → Option V) (σ : Sto), (∀ j ∈ js, j < 3) → (∀ c ∈ cs, ClWF c ∧ 0 ≤ c.s) → cs.length + js.length ≤ 10 → Ext σ₀ σ → loc 0 = some (.lst rr) → loc 1 = some (.int q) → loc 2 = some (.lst ro) → loc 3 = some (.int (rows.length + 1)) → σ[ro]? = some (cs.map clV) →
    ∃ (cs' : List Cl) (loc' : Nat → Option V) (σ' : Sto), forGo (.rng k) (rngV k) (.one 4) cqBody (js.map fun (i : Nat) => V.int (i : Int)) ⟨loc, σ⟩ = .ok .next ⟨loc', σ'⟩ ∧ loc' 2 = some (.lst ro) ∧ Ext σ₀ σ' ∧ σ'[ro]? = some (cs'.map clV) ∧ cs'.length ≤ 10 ∧ ∀ c ∈ cs', ClWF c ∧ 0 ≤ c.s
  | [], cs, loc, σ, _, hc, hl, x, l0, l1, l2, l3, g => ⟨cs, loc, σ, forGo_nil (src := .rng k) (st := ⟨loc, σ⟩) rfl, l2, x, g, by (first | lia | omega), hc⟩
  | j :: js, cs, loc, σ, hj, hc, hl, x, l0, l1, l2, l3, g => by
    rw [List.length_cons] at hl
    have hne : rr ≠ ro := by have := (List.getElem?_eq_some_iff.mp hr).1; (first | lia | omega)
    obtain ⟨c, loc1, σ1, wc, s0, e1, x1, keep⟩ := cq_body (j := j) (x.get hr) hn hne (hj j (.head _)) l0 l1 l2 l3 (by (first | lia | omega)) g
    have g1 := x1.get g
    have hr1 : ro < σ1.length := (List.getElem?_eq_some_iff.mp g1).1
    obtain ⟨cs', loc', σ', q1, q2⟩ := cq_loop (k := k) hr hn hro js (cs ++ [c]) loc1 (σ1.set ro ((cs ++ [c]).map clV)) (fun j h => hj j (.tail _ h)) (fun c' h => by
      rcases List.mem_append.mp h with h | h
      · exact hc c' h
      · rw [List.mem_singleton] at h; exact h ▸ ⟨wc, s0⟩) (by simp; (first | lia | omega)) ((x.trans x1).set hro _) ((keep 0 (by decide)).trans l0) ((keep 1 (by decide)).trans l1) ((keep 2 (by decide)).trans l2) ((keep 3 (by decide)).trans l3) (List.getElem?_set_self hr1)
    refine ⟨cs', loc', σ', ?_, q2⟩
    rw [List.map_cons, forGo_one (src := .rng k) (full := rngV k) (st := ⟨loc, σ⟩) rfl, e1, RS.bind_ok, forK_next, q1]
theorem r_clauses {rr : Nat} {rows : List Row} {q : Int} {σ : Sto} (hr : σ[rr]? = some (rows.map rowV)) (hl : rows.length ≤ 18) :
    ∃ (cs : List Cl) (σ' : Sto), R__law_clauses [.lst rr, .int q] σ = .ok (.lst σ.length) σ' ∧ Ext σ σ' ∧ σ'[σ.length]? = some (cs.map clV) ∧ cs.length ≤ 10 ∧ ∀ c ∈ cs, ClWF c ∧ 0 ≤ c.s := by
  have lim : limN = 1000 := rfl
  have D : R__law_clauses = runFn 2 (sSeq (sAssign 2 (dThen dNil oLst)) <|
  sSeq (sAssign 3 (dThen2 (dThen (dCons (dLoc 0) dNil) oLen) (dInt 1) oAdd)) <|
  sSeq (sFor (dThen (dCons (dThen2 (dLoc 1) (dInt 3) oMod) dNil) oRange) (.one 4) cqBody) <|
  sSeq (sReturn (dLoc 2)) <|
  sNil) := rfl
  have nl : oLst [] σ = .ok (.lst σ.length) (σ ++ [[]]) := lst_ap _ _ (by simp [limN])
  obtain ⟨i0, i1⟩ := fmod_rng q (b := 3) (by decide)
  have ln : oLen [.lst rr] (σ ++ [[]]) = .ok (.int rows.length) (σ ++ [[]]) := by
    rw [len_l rr _ _ (get_pre _ hr) (by rw [List.length_map]; (first | lia | omega)), List.length_map]
  obtain ⟨cs', loc', σ', q1, q2, q3, q4, q5, q6⟩ := cq_loop (k := q.fmod 3) (q := q) hr (by (first | lia | omega)) (Nat.le_refl σ.length) (List.range (q.fmod 3).toNat) [] (upd (upd (argL [.lst rr, .int q]) 2 (.lst σ.length)) 3 (.int (rows.length + 1))) (σ ++ [[]]) (fun j h => by rw [List.mem_range] at h; (first | lia | omega)) (fun c h => by cases h) (by simp; (first | lia | omega)) (.add _ _) (by simp [upd_ne]) (by simp [upd_ne]) (by simp [upd_ne]) (by simp) (get_last _ _)
  have fs : ∀ loc, forS (.one 4) cqBody loc (.rng (q.fmod 3)) (σ ++ [[]]) = forGo (.rng (q.fmod 3)) (rngV (q.fmod 3)) (.one 4) cqBody (rngV (q.fmod 3)) ⟨loc, σ ++ [[]]⟩ := fun loc => forS_rng _ _ _ _ _ (by (first | lia | omega))
  have q1' : forGo (.rng (q.fmod 3)) (rngV (q.fmod 3)) (.one 4) cqBody (rngV (q.fmod 3)) ⟨upd (upd (argL [.lst rr, .int q]) 2 (.lst σ.length)) 3 (.int (rows.length + 1)), σ ++ [[]]⟩ = .ok .next ⟨loc', σ'⟩ := q1
  refine ⟨cs', σ', ?_, q3, q4, q5, q6⟩
  rw [D]
  simp [nl, upd_ne, ln, mod_ii, fs, q1', q2]
end Mine
end
section
set_option tactic.hygienic false
set_option backward.defeqAttrib.useBackward true
set_option maxRecDepth 100000
set_option linter.unusedSimpArgs false
open PySem PySem.W PyProof.Rows PySem.Calls
namespace Mine

theorem pick18 (ns : List Int) : (pickNums ns (some 2) (some 20) none).length ≤ 18 := by
  have hb : sliceBounds (some 2) (some 20) none ns.length = (max 0 (min 2 (ns.length : Int)), max 0 (min 20 (ns.length : Int)), 1) := rfl
  unfold pickNums
  refine Nat.le_trans (List.length_filterMap_le _ _) ?_
  rw [hb]
  dsimp only
  refine Nat.le_trans (sliceRange_len_le _ _ 1 (by decide)) ?_
  rw [if_pos (by decide)]
  (first | lia | omega)
theorem tSeq_ok {a : DS} {d : St → Option Bool} {st st' : St} (h : a st = .ok .next st') : tSeq a d st = d st' := by unfold tSeq; rw [h]
theorem asg_ok {i : Nat} {d : DE} {loc : Nat → Option V} {σ σ' : Sto} {v : V} (h : d ⟨loc, σ⟩ = .ok v σ') : sAssign i d ⟨loc, σ⟩ = .ok .next ⟨upd loc i v, σ'⟩ := by rw [asg_ap, h]; rfl

set_option tactic.hygienic true in
theorem spec_law {ret : Int} {code : List Ins} {effs : List Eff} {cs : List Cl} {rc re rk : Nat} {σ : Sto} (W : WFs ret code effs) (hn : code.length ≤ 18) (hc : σ[rc]? = some (code.map insV)) (he : σ[re]? = some (effs.map effV)) (hk : σ[rk]? = some (cs.map clV)) (hcl : cs.length ≤ 10) (hw : ∀ c ∈ cs, ClWF c ∧ 0 ≤ c.s) :
    ∃ (w : Int) (σ' : Sto), R__law_most [.lst rc, .lst re, .lst rk] σ = .ok (.int w) σ' ∧ ((w = -1 ∧ R_max_stack [.lst rc, .lst rk, .tel ret] σ' = .exc) ∨ ∃ z, R_max_stack [.lst rc, .lst rk, .tel ret] σ' = .ok (.int w) z) := by
  obtain ⟨A, B⟩ := r_most W hc he hk hcl fun c h => (hw c h).2
  have lc := (List.getElem?_eq_some_iff.mp hc).1
  have lk := (List.getElem?_eq_some_iff.mp hk).1
  by_cases hb : ∃ c ∈ cs, clBadL code c
  · obtain ⟨σ', e, fr⟩ := A hb
    have h1 := (fr rc lc).trans hc
    have h2 := (fr rk lk).trans hk
    refine ⟨-1, σ', e, .inl ⟨rfl, (r_max W h1 h2 (by (first | lia | omega))).1 ?_⟩⟩
    obtain ⟨c, hm, q⟩ := hb
    exact ⟨c, hm, (clBad_iff (hw c hm).1).mp q⟩
  · have hb' : ¬ ∃ c ∈ cs, clBad code c := fun ⟨c, hm, q⟩ => hb ⟨c, hm, (clBad_iff (hw c hm).1).mpr q⟩
    have hpos : ∀ p ∈ startsOf code.length cs, 0 ≤ p.2 ∧ 0 ≤ p.1 ∧ p.1 < (code.length : Int) := by
      intro p hp
      unfold startsOf at hp
      rcases List.mem_append.mp hp with hp | hp
      · split at hp
        · rw [List.mem_singleton] at hp
          subst hp
          refine ⟨Int.le_refl 0, Int.le_refl 0, ?_⟩
          show (0 : Int) < _
          (first | lia | omega)
        · cases hp
      · unfold clStarts at hp
        obtain ⟨l, hl, hp⟩ := List.mem_flatten.mp hp
        obtain ⟨c, hcm, rfl⟩ := List.mem_map.mp hl
        have nb : ¬ clBadL code c := fun q => hb ⟨c, hcm, q⟩
        unfold clBadL at nb
        have n1 : ¬ (code.length : Int) ≤ c.h0 := fun q => nb (.inr (.inl q))
        have n2 : ¬ (code.length : Int) ≤ c.ex := fun q => nb (.inr (.inr (.inl q)))
        have n3 : ∀ e ∈ edges c, ¬ edgeBad code e := fun e he q => nb (.inr (.inr (.inr ⟨e, he, q⟩)))
        have h0 : 0 ≤ c.h0 := by
          have := n3 c.h0 (by unfold edges; split <;> simp)
          unfold edgeBad at this
          (first | lia | omega)
        unfold clStart at hp
        rcases List.mem_cons.mp hp with rfl | hp
        · refine ⟨?_, h0, by show c.h0 < _; (first | lia | omega)⟩
          show (0 : Int) ≤ if c.s = 0 ∨ c.s = 1 then 1 else 0
          split <;> decide
        · split at hp
          · rename_i hs1
            rw [List.mem_singleton] at hp
            subst hp
            have : 0 ≤ c.ex := by
              have := n3 c.ex (by unfold edges; rw [if_pos hs1]; simp)
              unfold edgeBad at this
              (first | lia | omega)
            exact ⟨by show (0 : Int) ≤ 1; decide, this, by show c.ex < _; (first | lia | omega)⟩
          · cases hp
    obtain ⟨r, e1, e2⟩ := most_spec W hpos
    have hk2 : code.length * (code.length + 2) ≤ 500 := Nat.le_trans (Nat.mul_le_mul hn (Nat.add_le_add_right hn 2)) (by decide)
    obtain ⟨σ', e, fr⟩ := B hb _ r (by (first | lia | omega)) hk2 e2
    have h1 := (fr rc lc).trans hc
    have h2 := (fr rk lk).trans hk
    refine ⟨r.getD (-1), σ', e, ?_⟩
    obtain ⟨X, Y⟩ := (r_max W h1 h2 (by (first | lia | omega))).2 hb' r e1
    cases r with
    | none => exact .inl ⟨rfl, X rfl⟩
    | some m => exact .inr (Y m rfl)

theorem law_true (ns : List Int) (h : ns.length ≤ 63) : D_law ⟨fun i => [V.cl ns][i]?, []⟩ = some true := by
  have lim : limN = 1000 := rfl
  have ln : ∀ σ, oLen [.cl ns] σ = .ok (.int ns.length) σ := fun σ => if_pos (by (first | lia | omega))
  have tr : ∀ σ, oTruth (.cl ns) σ = .ok (!ns.isEmpty) σ := fun σ => if_pos (by (first | lia | omega))
  have itc : ∀ (k : Nat) (x : Int) (σ : Sto), k < 1000 → ns[k]? = some x → oItem tv (.cl ns) (.int k) σ = .ok (.int x) σ := fun k x σ hk e => by
    show (if (0 : Int) ≤ k ∧ (k : Int) < 1000 then (match ns[(k : Int).toNat]? with | some x => R.ok (V.int x) σ | none => .stuck) else .stuck) = _
    rw [if_pos ⟨by (first | lia | omega), by (first | lia | omega)⟩, Int.toNat_natCast, e]
  show D_law ⟨argL [V.cl ns], []⟩ = some true
  -- the return count
  obtain ⟨ret, e1⟩ : ∃ ret : Int, (dIf (dThen (dLoc 0) oTruth) (dThen2 (dThen2 (dLoc 0) (dInt 0) (oItem tv)) (dInt 2) oMod) (dInt 0)) ⟨argL [V.cl ns], []⟩ = .ok (.int ret) [] := by
    cases hns : ns with
    | nil => rw [hns] at tr; exact ⟨0, by simp [tr]⟩
    | cons a r =>
      have i0 : ∀ σ, oItem tv (.cl ns) (.int 0) σ = .ok (.int a) σ := fun σ => itc 0 a σ (by decide) (by rw [hns]; rfl)
      rw [hns] at tr i0
      exact ⟨a.fmod 2, by simp [tr, i0, mod_ii]⟩
  obtain ⟨q, e2⟩ : ∃ q : Int, (dIf (dThen (dThen2 (dThen (dCons (dLoc 0) dNil) oLen) (dInt 1) (oIntCmp fun a b => decide (b < a))) oBoolV) (dThen2 (dLoc 0) (dInt 1) (oItem tv)) (dInt 0)) ⟨upd (argL [V.cl ns]) 1 (.int ret), []⟩ = .ok (.int q) [] := by
    by_cases h1' : (1 : Int) < ns.length
    · have h1 : 1 < ns.length := by (first | lia | omega)
      have i1 : ∀ σ, oItem tv (.cl ns) (.int 1) σ = .ok (.int ns[1]) σ := fun σ => itc 1 _ σ (by decide) (List.getElem?_eq_getElem h1)
      exact ⟨ns[1], by simp [upd_ne, ln, h1', i1]⟩
    · exact ⟨0, by simp [upd_ne, ln, h1']⟩
  obtain ⟨xs, e3, hxs⟩ : ∃ xs : List Int, (dIf (dThen (dThen2 (dThen (dCons (dLoc 0) dNil) oLen) (dInt 2) (oIntCmp fun a b => decide (b < a))) oBoolV) (dThen (dLoc 0) (oSlice 2 20)) (dThen (dCons (dInt 3) (dCons (dThen2 (dInt 8) (dInt 3) oMul) (dCons (dInt 12) (dCons (dThen2 (dInt 8) (dInt 8) oMul) (dCons (dInt 7) dNil))))) oLst)) ⟨upd (upd (argL [V.cl ns]) 1 (.int ret)) 2 (.int q), []⟩ = .ok (.lst 0) [xs.map V.int] ∧ xs.length ≤ 18 := by
    by_cases h2 : (2 : Int) < ns.length
    · refine ⟨pickNums ns (some 2) (some 20) none, ?_, pick18 ns⟩
      have sl : oSlice 2 20 (.cl ns) [] = .ok (.lst 0) [(pickNums ns (some 2) (some 20) none).map V.int] := if_pos (by (first | lia | omega))
      rw [dif_ap]
      simp only [then_ap, then2_ap, lcons_ap, lnil_ap, consK_ap, consK2_ap, loc_ap, upd_ne _ _ (show (0 : Nat) ≠ 2 by decide), upd_ne _ _ (show (0 : Nat) ≠ 1 by decide), argL_0, locK_some, R.bind_ok, ln, k2_ap, int_ap, cmp_ii, boolV_b, difK_ap, h2, decide_true, if_true, sl]
    · refine ⟨[3, 24, 12, 64, 7], ?_, by decide⟩
      rw [dif_ap]
      simp only [then_ap, then2_ap, lcons_ap, lnil_ap, consK_ap, consK2_ap, loc_ap, upd_ne _ _ (show (0 : Nat) ≠ 2 by decide), upd_ne _ _ (show (0 : Nat) ≠ 1 by decide), argL_0, locK_some, R.bind_ok, ln, k2_ap, int_ap, cmp_ii, boolV_b, difK_ap, h2, decide_false, Bool.false_eq_true, if_false]
      rfl
  obtain ⟨rn, ys, σ4, v4, e4, hv4, g4, hys⟩ : ∃ (rn : Nat) (ys : List Int) (σ4 : Sto) (loc4 : Nat → Option V), sIf (dAnd (dThen (dThen2 (dThen (dCons (dLoc 0) dNil) oLen) (dInt 2) (oIntCmp fun a b => decide (b < a))) oBoolV) (dAnd (dThen (dThen2 (dThen2 (dThen2 (dLoc 0) (dInt 2) (oItem tv)) (dInt 50) oMod) (dInt 49) oEq) oBoolV) dTrue))
    (sSeq (sAssign 3 (dThen dNil oLst)) <|
    sNil)
    (sNil) ⟨upd (upd (upd (argL [V.cl ns]) 1 (.int ret)) 2 (.int q)) 3 (.lst 0), [xs.map V.int]⟩ = .ok .next ⟨loc4, σ4⟩ ∧ (loc4 1 = some (.int ret) ∧ loc4 2 = some (.int q) ∧ loc4 3 = some (.lst rn)) ∧ σ4[rn]? = some (ys.map V.int) ∧ ys.length ≤ 18 := by
    have stay : ∃ (rn : Nat) (ys : List Int) (σ4 : Sto) (loc4 : Nat → Option V), (RS.ok .next ⟨upd (upd (upd (argL [V.cl ns]) 1 (.int ret)) 2 (.int q)) 3 (.lst 0), [xs.map V.int]⟩ : RS) = .ok .next ⟨loc4, σ4⟩ ∧ (loc4 1 = some (.int ret) ∧ loc4 2 = some (.int q) ∧ loc4 3 = some (.lst rn)) ∧ σ4[rn]? = some (ys.map V.int) ∧ ys.length ≤ 18 :=
      ⟨0, xs, _, _, rfl, ⟨by simp [upd_ne], by simp [upd_ne], by simp⟩, rfl, hxs⟩
    by_cases h2' : (2 : Int) < ns.length
    · have h2 : 2 < ns.length := by (first | lia | omega)
      have i2 : ∀ σ, oItem tv (.cl ns) (.int 2) σ = .ok (.int ns[2]) σ := fun σ => itc 2 _ σ (by decide) (List.getElem?_eq_getElem h2)
      generalize ns[2] = x at i2
      by_cases h49 : x.fmod 50 = 49
      · have nl : ∀ σ, oLst [] σ = .ok (.lst σ.length) (σ ++ [[]]) := fun σ => lst_ap _ _ (by simp [limN])
        refine ⟨1, [], [xs.map V.int] ++ [[]], upd (upd (upd (upd (argL [V.cl ns]) 1 (.int ret)) 2 (.int q)) 3 (.lst 0)) 3 (.lst 1), ?_, ⟨?_, ?_, ?_⟩, ?_, by simp⟩
        · simp [upd_ne, ln, h2', i2, mod_ii, h49, nl]
        · simp [upd_ne]
        · simp [upd_ne]
        · simp
        · rfl
      · have : sIf (dAnd (dThen (dThen2 (dThen (dCons (dLoc 0) dNil) oLen) (dInt 2) (oIntCmp fun a b => decide (b < a))) oBoolV) (dAnd (dThen (dThen2 (dThen2 (dThen2 (dLoc 0) (dInt 2) (oItem tv)) (dInt 50) oMod) (dInt 49) oEq) oBoolV) dTrue))
          (sSeq (sAssign 3 (dThen dNil oLst)) <|
          sNil)
          (sNil) ⟨upd (upd (upd (argL [V.cl ns]) 1 (.int ret)) 2 (.int q)) 3 (.lst 0), [xs.map V.int]⟩ = .ok .next ⟨upd (upd (upd (argL [V.cl ns]) 1 (.int ret)) 2 (.int q)) 3 (.lst 0), [xs.map V.int]⟩ := by
          simp [upd_ne, ln, h2', i2, mod_ii, h49]
        rw [this]; exact stay
    · have : sIf (dAnd (dThen (dThen2 (dThen (dCons (dLoc 0) dNil) oLen) (dInt 2) (oIntCmp fun a b => decide (b < a))) oBoolV) (dAnd (dThen (dThen2 (dThen2 (dThen2 (dLoc 0) (dInt 2) (oItem tv)) (dInt 50) oMod) (dInt 49) oEq) oBoolV) dTrue))
          (sSeq (sAssign 3 (dThen dNil oLst)) <|
          sNil)
          (sNil) ⟨upd (upd (upd (argL [V.cl ns]) 1 (.int ret)) 2 (.int q)) 3 (.lst 0), [xs.map V.int]⟩ = .ok .next ⟨upd (upd (upd (argL [V.cl ns]) 1 (.int ret)) 2 (.int q)) 3 (.lst 0), [xs.map V.int]⟩ := by
          simp [upd_ne, ln, h2']
      rw [this]; exact stay
  obtain ⟨a1, a2, a3⟩ := hv4
  obtain ⟨rows, σ5, d5, x5, g5, hl5, w5⟩ := r_drawn (ret := ret) g4 hys
  obtain ⟨code, σ6, d6, x6, g6, W, hcl⟩ := r_aimed (ret := ret) g5 hl5 w5
  have g56 := x6.get g5
  obtain ⟨cs, σ7, d7, x7, g7, hl7, w7⟩ := r_clauses (q := q) g56 hl5
  have g57 := x7.get g56
  have g67 := x7.get g6
  let loc7 := upd (upd (upd v4 4 (.lst σ4.length)) 5 (.lst σ5.length)) 6 (.lst σ6.length)
  obtain ⟨σ8, d8, x8, g8⟩ := comp_map (di := dLoc 4) (v := .lst σ4.length) (src := .lst σ4.length) (full := rows.map rowV) (loc := loc7) (fr := []) (de := dThen2 (dLoc 0) (dInt 1) (oItem tv)) (σ := σ7)
    (f := fun x => match x with | .tup (_ :: y :: _) => y | _ => .none)
    (by simp [loc7, upd_ne]) rfl (fun σ' e => e.get g57) (by rw [List.length_map]; (first | lia | omega)) (fun x hx σ' e => by
      obtain ⟨r, _, rfl⟩ := List.mem_map.mp hx
      have c0 : compLoc loc7 [] (rowV r) 0 = some (rowV r) := rfl
      have i1 : oItem tv (rowV r) (.int 1) σ' = .ok (effV r.e) σ' := rfl
      rw [then2_ap, loc_ap]
      dsimp only
      rw [c0, locK_some, R.bind_ok, k2_ap, int_ap, R.bind_ok]
      exact i1)
  have g8' : σ8[σ7.length]? = some ((rows.map Row.e).map effV) := by
    rw [g8, List.map_map, List.map_map]
    rfl
  obtain ⟨w, σ9, d9, fin⟩ := spec_law W (by (first | lia | omega)) (x8.get g67) g8' (x8.get g7) hl7 w7
  have s4 : (dThen (dCons (dLoc 3) (dCons (dLoc 1) dNil)) R__law_drawn) ⟨v4, σ4⟩ = .ok (.lst σ4.length) σ5 := by simp [a1, a3, d5]
  have s5 : (dThen (dCons (dLoc 4) dNil) R__law_aimed) ⟨upd v4 4 (.lst σ4.length), σ5⟩ = .ok (.lst σ5.length) σ6 := by simp [d6]
  have s6 : (dThen (dCons (dLoc 4) (dCons (dLoc 2) dNil)) R__law_clauses) ⟨upd (upd v4 4 (.lst σ4.length)) 5 (.lst σ5.length), σ6⟩ = .ok (.lst σ6.length) σ7 := by simp [upd_ne, a2, d7]
  have s7 : (dThen (dCons (dLoc 5) (dCons (dComp (dLoc 4) [] dT (dThen2 (dLoc 0) (dInt 1) (oItem tv))) (dCons (dLoc 6) dNil))) R__law_most) ⟨loc7, σ7⟩ = .ok (.int w) σ9 := by
    have l5 : loc7 5 = some (.lst σ5.length) := by simp [loc7, upd_ne]
    have l6 : loc7 6 = some (.lst σ6.length) := by simp [loc7]
    simp [l5, l6, d8, d9]
  have hs : tailB (dThen (dCons (dLoc 5) (dCons (dLoc 6) (dCons (dThen (dCons (dVal (.tab 2)) (dCons (dLoc 1) dNil)) oTel) dNil))) R_max_stack) 7 ⟨upd loc7 7 (.int w), σ9⟩ = some true := by
    have l5 : upd loc7 7 (.int w) 5 = some (.lst σ5.length) := by simp [loc7, upd_ne]
    have l6 : upd loc7 7 (.int w) 6 = some (.lst σ6.length) := by simp [loc7, upd_ne]
    have l1 : upd loc7 7 (.int w) 1 = some (.int ret) := by simp [loc7, upd_ne, a1]
    have l7 : upd loc7 7 (.int w) 7 = some (.int w) := upd_self _ _ _
    have tl : oTel [.tab 2, .int ret] σ9 = .ok (.tel ret) σ9 := rfl
    have ev : (dThen (dCons (dLoc 5) (dCons (dLoc 6) (dCons (dThen (dCons (dVal (.tab 2)) (dCons (dLoc 1) dNil)) oTel) dNil))) R_max_stack) ⟨upd loc7 7 (.int w), σ9⟩ = R_max_stack [.lst σ5.length, .lst σ6.length, .tel ret] σ9 := by
      simp only [then_ap, lcons_ap, consK_ap, loc_ap, l5, l6, l1, locK_some, R.bind_ok, val_ap, lnil_ap, consK2_ap, tl]
    unfold tailB
    rw [ev]
    dsimp only
    rw [l7]
    rcases fin with ⟨hw, q⟩ | ⟨z, q⟩
    · rw [q, hw]; rfl
    · rw [q]
      show some (w == w) = some true
      rw [beq_self_eq_true]
  unfold D_law
  rw [tSeq_ok (asg_ok e1), tSeq_ok (asg_ok e2), tSeq_ok (asg_ok e3), tSeq_ok e4, tSeq_ok (asg_ok s4), tSeq_ok (asg_ok s5), tSeq_ok (asg_ok s6), tSeq_ok (asg_ok s7)]
  exact hs
end Mine
end
section
set_option tactic.hygienic false
set_option backward.defeqAttrib.useBackward true
set_option maxRecDepth 100000
open PySem PySem.W PyProof.Rows PySem.Calls
namespace Mine

section
variable {W : Wd}
/-- the call of the law -/
theorem law_call (U : Setup W) {A : Around} {s : Shared} {v : Value} {ns : List Int} {Q : Value → Shared → Prop} {E : Value → Shared → Prop} (hr : Room 5 A) (hf : A.frames = some []) (hs : W.base.StaysIn s.heap) (hv : VR W [] s.heap (.cl ns) v)
    (hD : D_law ⟨fun i => [V.cl ns][i]?, []⟩ = some true) (ok : ∀ h' tk, W.base.StaysIn h' → Q (.bool true) { s with heap := h', toks := tk }) : wpAny W.M A (call (.ref 427) [v]) Q E s := by
  have H : (f_427 W.w.params).OK W := fnOK_of U.hK (chk_427 _) (b1 (bnd_427 _))
  obtain ⟨name, params, dV, kV, doc, pm, an, ct, oc, od, osl, hlook, hbind⟩ := H.look
  have X := W.Xh hs
  have hi : HI W [] [] [] s.heap := ⟨hs, trivial, List.nodup_nil, rfl, (fun _ q => nomatch q), fun r a xs e _ => by simp at e⟩
  have hvs : VRs W [] s.heap [V.cl ns] [v] := .cons hv .nil
  refine wpAny_call (codeAny_call_cells (fd := fnOf name (f_427 W.w.params).qual params (f_427 W.w.params).body (f_427 W.w.params).scope dV kV doc pm an (f_427 W.w.params).cdv ct) (body := (f_427 W.w.params).body) (binds := (f_427 W.w.params).ps.zip [v]) (by have := hr.dp; (first | lia | omega)) (X _ _ hlook) rfl (W.T.nolimit.keeps hs) (codeRec_of X H.code) rfl (hbind [v] rfl) rfl (fun y hy => ?_) (fun s₁ x => ?_) H.co H.gen H.kind)
  · have hm : y.1 ∈ (f_427 W.w.params).ps := (List.of_mem_zip hy).1
    exact (H.bk y.1 hm).imp id fun e => ⟨e, cellsFrom_some (f_427 W.w.params).scope.names _ [] (.inl e)⟩
  · obtain ⟨h₁, tk, rfl, _⟩ := x.done
    obtain ⟨EI₁, HI₁, hown⟩ := enter (W := W) H (lay := l_427) ⟨_, rfl⟩ (by decide) hi hvs rfl x
    have hf' : (A.deeper ((f_427 W.w.params).env s.heap.objs.size)).frames = some ((f_427 W.w.params).env s.heap.objs.size :: []) := by show A.frames.map _ = _; rw [hf]; rfl
    exact (body_427 U s.heap.objs.size).out (A.deeper ((f_427 W.w.params).env s.heap.objs.size)) [] [] ⟨fun i => [V.cl ns][i]?, []⟩ { s with heap := h₁, toks := tk } _ _ true hr.deeper hf' rfl EI₁ HI₁ hD fun h' tk' k => ok h' tk' k
end
end Mine
end
section
set_option tactic.hygienic false
set_option backward.defeqAttrib.useBackward true
set_option maxRecDepth 100000
open PySem PySem.W PyProof.Rows PySem.Calls
namespace Mine

set_option tactic.hygienic true in
theorem join (law : ∀ ns : List Int, ns.length ≤ 63 → D_law ⟨fun i => [V.cl ns][i]?, []⟩ = some true) : PySem.Challenge.rw_sa0227_01.Holds := by
  refine head_z ?_
  intro w s₀ s₁ mg mb G Y fa o pm cd doc dV kV ho hd hcd hD hmg hg args vals as hpre hlay hrd hwl hlo
  have KX := kIn_of Y
  refine Ground.open G ?_
  intro T B D TE TW
  clear hD hd hcd ho
  wrow_args hpre hlay hrd hwl hlo
  rename_i ns hs1 hs2 hs3 hs4 hs5 as1 as2 l vs as3 hL ra w1 r0 hI hr hc1 hc2
  have R := topRead_of T
  have e427 : mg (Str.ofString "law") = some (.ref 427) := mg_of (K := K0 w.params) KX R.g (by kernel_rfl)
  have hfa : fa = 427 := by
    have := hmg.symm.trans e427
    cases this; rfl
  subst hfa
  let W : Wd := { prog := PySem.Challenge.rw_sa0227_01.row.prog, w := w, K := K0 w.params, p := qz, loose := _, mg := mg, mb := mb, base := s₁.heap, tabA := fun k => if k = 0 then 47 else if k = 1 then 55 else if k = 2 then 353 else 0, tel := 215, bad := 44, X := KX, T := R }
  have U : Setup W := ⟨rfl, rfl, rfl, rfl, fun k => by
    show ((if k = 0 then 47 else if k = 1 then 55 else if k = 2 then 353 else 0 : Nat) == sysModules) = false
    split
    · decide
    · split
      · decide
      · split
        · decide
        · decide, rfl, rfl⟩
  have hst : W.base.StaysIn s₁.heap := fun _ _ e => e
  refine law_call (W := W) U (ns := ns) ⟨rfl, by decide, by decide⟩ rfl hst (.cl hL hI) (law ns (by (first | lia | omega))) fun h' tk k => ?_
  exact ⟨.inl ⟨_, _, [], rfl, fun _ => rfl, ReadsW.bool true, by wrow_post, fun _ => ⟨List.nodup_nil, fun _ hm => (nomatch hm)⟩⟩, .of_keep k, rfl, by rw [hg]; exact AllBare.empty⟩
end Mine
end

theorem PySem.Challenge.cw_sa0227_01_holds : PySem.Challenge.rw_sa0227_01.Holds := by
  exact Mine.join Mine.law_true
