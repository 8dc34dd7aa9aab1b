import PyProof.Rows.All
import Wide.All
import OpenK.AllK
import Wide.FinOn
import Lean
import PySem.Challenge.RW_rg0228_01
set_option Elab.async false
set_option maxRecDepth 1000000
set_option maxHeartbeats 0
set_option linter.all false
set_option genSizeOf false

section
namespace Mine.Q
open PySem PySem.W PyProof.Rows
noncomputable abbrev pw : Program := PySem.Challenge.pw_rg0228_01
noncomputable abbrev N : Value := .none
noncomputable abbrev S (x : String) (t : Nat) : Value := .str (Str.ofString x) t
noncomputable abbrev I (i t : Nat) : Value := .int (Int.ofNat i) t
noncomputable abbrev J (i t : Nat) : Value := .int (Int.negSucc i) t
noncomputable abbrev T (x : String) : Value := .type x
noncomputable abbrev U (x : String) : Value := .builtin x
noncomputable abbrev R (a : Nat) : Value := .ref a
noncomputable abbrev B (b : Bool) : Value := .bool b
noncomputable abbrev h (P : Params) (x : String) (t : Nat) (v : Value) : DictEntry := ⟨PyData.keyHash P (Str.ofString x), S x t, v⟩
noncomputable abbrev tp (l : List Value) : Obj := ⟨.type "tuple", none, .seq l.toArray 0, .mk []⟩
noncomputable abbrev fl (l : List Value) : Obj := ⟨.none, none, .fields l.toArray, .mk []⟩
noncomputable abbrev cd (l : List Value) : Obj := ⟨.type "code", none, .fields l.toArray, .mk []⟩
noncomputable abbrev n (o : Obj) (l r : BT) : BT := .node o l r
noncomputable abbrev e : BT := .nil
noncomputable abbrev b0 := boot_o_0
noncomputable abbrev b1 := boot_o_1
noncomputable abbrev b2 := boot_o_2
noncomputable abbrev b3 := boot_o_3
noncomputable abbrev b4 := boot_o_4
noncomputable abbrev b5 := boot_o_5
noncomputable abbrev b6 := boot_o_6
noncomputable abbrev b7 := boot_o_7
noncomputable abbrev b8 := boot_o_8
noncomputable abbrev b9 := boot_o_9
noncomputable abbrev b10 := boot_o_10
noncomputable def nth (l : List Stmt) (k : Nat) : Stmt := @List.rec Stmt (fun _ => Nat → Stmt) (fun _ => .Pass ⟨0, 0, 0, 0⟩) (fun s _ ih k => @Nat.rec (fun _ => Stmt) s (fun j _ => ih j) k) l k
noncomputable def clB : Stmt → List Stmt
  | .ClassDef (body := b) .. => b
  | _ => []
noncomputable def fnB : Stmt → Arguments × List Stmt × Scope
  | .FunctionDef (args := a) (body := b) (scope := s) .. => (a, b, s)
  | _ => (⟨[], [], none, [], [], none, []⟩, [], ⟨.module, [], false, false, []⟩)
noncomputable def stK (k : Nat) : Stmt := nth pw.main.body k
noncomputable abbrev fn (st : Stmt) (nm qn : String) (g : Nat) (m c : Value) (b : Nat) : FuncData :=
  { name := Str.ofString nm, qualname := Str.ofString qn, params := (fnB st).1, body := .stmts (fnB st).2.1, scope := (fnB st).2.2, globals := g, closure := [], defaults := .none, kwdefaults := .none, pyModule := m, code := c, builtins := b }
noncomputable def o11 : Obj := tp []
noncomputable def o12 : Obj := fl []
noncomputable def o13 : Obj := cd [S "<module>" 182, S "<module>" 183, S "/claim/cut.py" 184, I 1 0, I 0 0, I 0 0, I 0 0, I 0 0, R 11, B false, I 181 0, R 12, N, N, N, N, I 185 0, I 1 0, S "/claim/cut.py" 186]
noncomputable def o14 : Obj := ⟨T "frame", none, .plain, [(some (R 13)), (some (R 3)), (some (R 3)), none, (some (S "__main__" 164)), none, (some (R 0))].toArray⟩
noncomputable def e2_1 (P : Params) : List DictEntry := [h P "type.__subclasses__.Exception.0" 214 (I 31 0), h P "type.__subclasses__.Exception.n" 215 (I 1 0)]
noncomputable def o2 (P : Params) : Obj := ⟨N, none, .dict (e2_1 P).toArray 2, [].toArray⟩
noncomputable def e3_1 (P : Params) : List DictEntry := [h P "__name__" 165 (S "perlcore.errors" 187), h P "__doc__" 166 N, h P "__package__" 167 N, h P "__loader__" 168 (U "__main__.__loader__#opaque"), h P "__spec__" 169 N, h P "__annotations__" 170 (R 6), h P "__builtins__" 171 (R 4), h P "__file__" 173 (S "/claim/cut.py" 172), h P "__cached__" 174 N, h P "PerlError" 217 (R 31)]
noncomputable def o3 (P : Params) : Obj := ⟨T "dict", none, .dict (e3_1 P).toArray 10, [].toArray⟩
noncomputable def o12_1 : Obj := fl [I 2 0, I 0 0, R 20]
noncomputable def o15 : Obj := tp [T "Exception"]
noncomputable def o16 : Obj := ⟨T "builtin_function_or_method", none, (.fields [U "type.__prepare__", T "type"].toArray), [].toArray⟩
noncomputable def e17_1 (P : Params) : List DictEntry := [h P "__module__" 196 (S "perlcore.errors" 187), h P "__qualname__" 198 (S "PerlError" 197), h P "__firstlineno__" 200 (I 2 199), h P "__init__" 208 (R 28), h P "__static_attributes__" 210 (R 29)]
noncomputable def o17 (P : Params) : Obj := ⟨T "dict", none, .dict (e17_1 P).toArray 5, [].toArray⟩
noncomputable def o18 : Obj := tp []
noncomputable def o19 : Obj := fl [I 4 0, I 4 0, R 27]
noncomputable def o20 : Obj := cd [S "PerlError" 191, S "PerlError" 192, S "/claim/cut.py" 193, I 2 0, I 0 0, I 0 0, I 0 0, I 0 0, R 18, B false, I 181 0, R 19, N, N, N, N, I 194 0, I 2 0, S "/claim/cut.py" 195]
noncomputable def o21 : Obj := ⟨T "frame", none, .plain, [(some (R 20)), (some (R 3)), (some (R 17)), none, (some (S "perlcore.errors" 187)), none, (some (R 0))].toArray⟩
noncomputable def o22 : Obj := tp []
noncomputable def o23 : Obj := fl []
noncomputable def o24 : Obj := tp [S "self" 204, S "text" 205]
noncomputable def o25 : Obj := tp []
noncomputable def o26 : Obj := ⟨N, none, (.func (fn (nth (clB (stK 1)) 0) "__init__" "PerlError.__init__" 0 N N 0)), [].toArray⟩
noncomputable def o27 : Obj := cd [S "__init__" 201, S "PerlError.__init__" 202, S "/claim/cut.py" 203, I 4 0, I 2 0, I 0 0, I 0 0, I 3 0, R 22, B true, I 181 0, R 23, N, R 24, R 25, R 26, I 206 0, I 4 0, S "/claim/cut.py" 207]
noncomputable def o28 : Obj := ⟨T "function", none, (.func (fn (nth (clB (stK 1)) 0) "__init__" "PerlError.__init__" 3 (S "perlcore.errors" 187) (R 27) 0)), [].toArray⟩
noncomputable def o29 : Obj := tp [S "text" 209]
noncomputable def e30_1 (P : Params) : List DictEntry := [h P "__module__" 196 (S "perlcore.errors" 187), h P "__firstlineno__" 200 (I 2 199), h P "__init__" 208 (R 28), h P "__static_attributes__" 210 (R 29), h P "__weakref__" 212 (R 32), h P "__doc__" 213 N]
noncomputable def o30 (P : Params) : Obj := ⟨T "dict", none, .dict (e30_1 P).toArray 3, [].toArray⟩
noncomputable def o31 : Obj := ⟨T "type", none, (.cls ⟨Str.ofString "PerlError", [T "Exception"], [R 31, T "Exception", T "BaseException", T "object"], 30, Str.ofString "PerlError", true, [], [], false, none, false⟩), [(some (R 15)), none, (some (S "PerlError" 189)), (some (S "PerlError" 197)), (some (U "Exception.__new__")), (some (B true))].toArray⟩
noncomputable def o32 : Obj := ⟨T "getset_descriptor", none, (.fields [S "__weakref__" 211, R 31, U "ExceptionGroup.__weakref__", N].toArray), [].toArray⟩
noncomputable def o33 : Obj := ⟨T "super", none, (.fields [R 31, R 31, R 31].toArray), [].toArray⟩
noncomputable def o34 : Obj := ⟨T "builtin_function_or_method", none, (.fields [U "object.__init_subclass__", R 31].toArray), [].toArray⟩
noncomputable def e3_2 (P : Params) : List DictEntry := [h P "__name__" 165 (S "perlcore.ops" 234), h P "__doc__" 166 N, h P "__package__" 167 N, h P "__loader__" 168 (U "__main__.__loader__#opaque"), h P "__spec__" 169 N, h P "__annotations__" 170 (R 6), h P "__builtins__" 171 (R 4), h P "__file__" 173 (S "/claim/cut.py" 172), h P "__cached__" 174 N, h P "PerlError" 217 (R 31), h P "BadOps" 233 (R 44), h P "VOID" 237 (I 0 236)]
noncomputable def o3_2 (P : Params) : Obj := ⟨T "dict", none, .dict (e3_2 P).toArray 12, [].toArray⟩
noncomputable def o12_2 : Obj := fl [I 2 0, I 0 0, R 20, I 7 0, I 0 0, R 40]
noncomputable def o31_2 : Obj := ⟨T "type", none, (.cls ⟨Str.ofString "PerlError", [T "Exception"], [R 31, T "Exception", T "BaseException", T "object"], 30, Str.ofString "PerlError", true, [], [R 44], false, none, false⟩), [(some (R 15)), none, (some (S "PerlError" 189)), (some (S "PerlError" 197)), (some (U "Exception.__new__")), (some (B true))].toArray⟩
noncomputable def o35 : Obj := tp [R 31]
noncomputable def o36 : Obj := ⟨T "builtin_function_or_method", none, (.fields [U "type.__prepare__", T "type"].toArray), [].toArray⟩
noncomputable def e37_2 (P : Params) : List DictEntry := [h P "__module__" 225 (S "perlcore.errors" 187), h P "__qualname__" 227 (S "BadOps" 226), h P "__firstlineno__" 229 (I 7 228), h P "__static_attributes__" 230 (R 42)]
noncomputable def o37 (P : Params) : Obj := ⟨T "dict", none, .dict (e37_2 P).toArray 4, [].toArray⟩
noncomputable def o38 : Obj := tp []
noncomputable def o39 : Obj := fl []
noncomputable def o40 : Obj := cd [S "BadOps" 220, S "BadOps" 221, S "/claim/cut.py" 222, I 7 0, I 0 0, I 0 0, I 0 0, I 0 0, R 38, B false, I 181 0, R 39, N, N, N, N, I 223 0, I 7 0, S "/claim/cut.py" 224]
noncomputable def o41 : Obj := ⟨T "frame", none, .plain, [(some (R 40)), (some (R 3)), (some (R 37)), none, (some (S "perlcore.errors" 187)), none, (some (R 0))].toArray⟩
noncomputable def o42 : Obj := tp []
noncomputable def e43_2 (P : Params) : List DictEntry := [h P "__module__" 225 (S "perlcore.errors" 187), h P "__firstlineno__" 229 (I 7 228), h P "__static_attributes__" 230 (R 42), h P "__doc__" 231 N]
noncomputable def o43 (P : Params) : Obj := ⟨T "dict", none, .dict (e43_2 P).toArray 2, [].toArray⟩
noncomputable def o44 : Obj := ⟨T "type", none, (.cls ⟨Str.ofString "BadOps", [R 31], [R 44, R 31, T "Exception", T "BaseException", T "object"], 43, Str.ofString "BadOps", true, [], [], false, none, false⟩), [(some (R 35)), none, (some (S "BadOps" 218)), (some (S "BadOps" 226)), (some (U "Exception.__new__")), (some (B true))].toArray⟩
noncomputable def o45 : Obj := ⟨T "super", none, (.fields [R 44, R 44, R 44].toArray), [].toArray⟩
noncomputable def o46 : Obj := ⟨T "builtin_function_or_method", none, (.fields [U "object.__init_subclass__", R 44].toArray), [].toArray⟩
noncomputable def e47_m1 (P : Params) : List DictEntry := [h P "const" 238 (R 48), h P "empty" 243 (R 49), h P "drop" 248 (R 50), h P "dup" 253 (R 51), h P "swap" 258 (R 52), h P "wrap" 263 (R 53), h P "append" 268 (R 54), h P "copy" 273 (R 55), h P "count" 278 (R 56), h P "final" 283 (R 57), h P "keep" 288 (R 58), h P "refcode" 293 (R 59), h P "codetold" 298 (R 60), h P "refuse" 303 (R 61), h P "pad" 308 (R 62), h P "my" 313 (R 63), h P "glob" 318 (R 64)]
noncomputable def o47 (P : Params) : Obj := ⟨T "dict", none, .dict (e47_m1 P).toArray 17, [].toArray⟩
noncomputable def o48 : Obj := tp [I 0 239, I 1 240, S "-" 241]
noncomputable def o49 : Obj := tp [I 0 244, I 1 245, S "" 246]
noncomputable def o50 : Obj := tp [I 1 249, I 0 250, S "" 251]
noncomputable def o51 : Obj := tp [I 1 254, I 2 255, S "" 256]
noncomputable def o52 : Obj := tp [I 2 259, I 2 260, S "" 261]
noncomputable def o53 : Obj := tp [I 1 264, I 1 265, S "" 266]
noncomputable def o54 : Obj := tp [I 0 269, I 1 270, S "n" 271]
noncomputable def o55 : Obj := tp [I 1 274, I 1 275, S "" 276]
noncomputable def o56 : Obj := tp [I 1 279, I 1 280, S "" 281]
noncomputable def o57 : Obj := tp [I 1 284, I 1 285, S "" 286]
noncomputable def o58 : Obj := tp [I 1 289, I 1 290, S "" 291]
noncomputable def o59 : Obj := tp [I 1 294, I 1 295, S "" 296]
noncomputable def o60 : Obj := tp [I 1 299, I 1 300, S "" 301]
noncomputable def o61 : Obj := tp [I 0 304, I 1 305, S "-" 306]
noncomputable def o62 : Obj := tp [I 0 309, I 1 310, S "--" 311]
noncomputable def o63 : Obj := tp [I 0 314, I 1 315, S "--" 316]
noncomputable def o64 : Obj := tp [I 0 319, I 1 320, S "--" 321]
noncomputable def e47_m2 (P : Params) : List DictEntry := e47_m1 P ++ [h P "matchvar" 323 (R 66), h P "fetch" 328 (R 67), h P "ascalar" 333 (R 68), h P "newscalar" 338 (R 69), h P "vivify" 343 (R 70), h P "deref" 348 (R 71), h P "items" 353 (R 72), h P "size" 358 (R 73), h P "pairs" 363 (R 74), h P "keycount" 368 (R 75), h P "lastidx" 373 (R 76), h P "elem" 378 (R 77), h P "helem" 383 (R 78), h P "elemat" 388 (R 79), h P "helemat" 393 (R 80), h P "elemlv" 398 (R 81), h P "helemlv" 403 (R 82)]
noncomputable def o47_m2 (P : Params) : Obj := ⟨T "dict", none, .dict (e47_m2 P).toArray 34, [].toArray⟩
noncomputable def e65_m2 (P : Params) : List DictEntry := [h P "matchvar" 323 (R 66), h P "fetch" 328 (R 67), h P "ascalar" 333 (R 68), h P "newscalar" 338 (R 69), h P "vivify" 343 (R 70), h P "deref" 348 (R 71), h P "items" 353 (R 72), h P "size" 358 (R 73), h P "pairs" 363 (R 74), h P "keycount" 368 (R 75), h P "lastidx" 373 (R 76), h P "elem" 378 (R 77), h P "helem" 383 (R 78), h P "elemat" 388 (R 79), h P "helemat" 393 (R 80), h P "elemlv" 398 (R 81), h P "helemlv" 403 (R 82)]
noncomputable def o65 (P : Params) : Obj := ⟨T "dict", none, .dict (e65_m2 P).toArray 17, [].toArray⟩
noncomputable def o66 : Obj := tp [I 0 324, I 1 325, S "-" 326]
noncomputable def o67 : Obj := tp [I 1 329, I 1 330, S "" 331]
noncomputable def o68 : Obj := tp [I 1 334, I 1 335, S "" 336]
noncomputable def o69 : Obj := tp [I 1 339, I 1 340, S "" 341]
noncomputable def o70 : Obj := tp [I 1 344, I 1 345, S "-" 346]
noncomputable def o71 : Obj := tp [I 1 349, I 1 350, S "-" 351]
noncomputable def o72 : Obj := tp [I 1 354, I 1 355, S "" 356]
noncomputable def o73 : Obj := tp [I 1 359, I 1 360, S "" 361]
noncomputable def o74 : Obj := tp [I 1 364, I 1 365, S "" 366]
noncomputable def o75 : Obj := tp [I 1 369, I 1 370, S "" 371]
noncomputable def o76 : Obj := tp [I 1 374, I 1 375, S "" 376]
noncomputable def o77 : Obj := tp [I 2 379, I 1 380, S "" 381]
noncomputable def o78 : Obj := tp [I 2 384, I 1 385, S "" 386]
noncomputable def o79 : Obj := tp [I 2 389, I 1 390, S "" 391]
noncomputable def o80 : Obj := tp [I 2 394, I 1 395, S "" 396]
noncomputable def o81 : Obj := tp [I 2 399, I 1 400, S "" 401]
noncomputable def o82 : Obj := tp [I 2 404, I 1 405, S "" 406]
noncomputable def e47_m3 (P : Params) : List DictEntry := e47_m2 P ++ [h P "aslice" 408 (R 84), h P "hslice" 413 (R 85), h P "aslicelv" 418 (R 86), h P "hslicelv" 423 (R 87), h P "lslice" 428 (R 88), h P "substrlv" 433 (R 89), h P "veclv" 438 (R 90), h P "poslv" 443 (R 91), h P "lastlv" 448 (R 92), h P "ref" 453 (R 93), h P "refvalue" 458 (R 94), h P "elemrefs" 463 (R 95), h P "refeach" 468 (R 96), h P "anona" 473 (R 97), h P "anonh" 478 (R 98), h P "closure" 483 (R 99), h P "definesub" 488 (R 100)]
noncomputable def o47_m3 (P : Params) : Obj := ⟨T "dict", none, .dict (e47_m3 P).toArray 51, [].toArray⟩
noncomputable def e83_m3 (P : Params) : List DictEntry := [h P "aslice" 408 (R 84), h P "hslice" 413 (R 85), h P "aslicelv" 418 (R 86), h P "hslicelv" 423 (R 87), h P "lslice" 428 (R 88), h P "substrlv" 433 (R 89), h P "veclv" 438 (R 90), h P "poslv" 443 (R 91), h P "lastlv" 448 (R 92), h P "ref" 453 (R 93), h P "refvalue" 458 (R 94), h P "elemrefs" 463 (R 95), h P "refeach" 468 (R 96), h P "anona" 473 (R 97), h P "anonh" 478 (R 98), h P "closure" 483 (R 99), h P "definesub" 488 (R 100)]
noncomputable def o83 (P : Params) : Obj := ⟨T "dict", none, .dict (e83_m3 P).toArray 17, [].toArray⟩
noncomputable def o84 : Obj := tp [I 2 409, I 1 410, S "" 411]
noncomputable def o85 : Obj := tp [I 2 414, I 1 415, S "" 416]
noncomputable def o86 : Obj := tp [I 2 419, I 1 420, S "" 421]
noncomputable def o87 : Obj := tp [I 2 424, I 1 425, S "" 426]
noncomputable def o88 : Obj := tp [I 2 429, I 1 430, S "" 431]
noncomputable def o89 : Obj := tp [I 0 434, I 1 435, S "n" 436]
noncomputable def o90 : Obj := tp [I 3 439, I 1 440, S "" 441]
noncomputable def o91 : Obj := tp [I 1 444, I 1 445, S "" 446]
noncomputable def o92 : Obj := tp [I 1 449, I 1 450, S "" 451]
noncomputable def o93 : Obj := tp [I 1 454, I 1 455, S "" 456]
noncomputable def o94 : Obj := tp [I 1 459, I 1 460, S "" 461]
noncomputable def o95 : Obj := tp [I 1 464, I 1 465, S "" 466]
noncomputable def o96 : Obj := tp [I 1 469, I 1 470, S "" 471]
noncomputable def o97 : Obj := tp [I 1 474, I 1 475, S "" 476]
noncomputable def o98 : Obj := tp [I 1 479, I 1 480, S "" 481]
noncomputable def o99 : Obj := tp [I 0 484, I 1 485, S "-" 486]
noncomputable def o100 : Obj := tp [I 0 489, I 0 490, S "-" 491]
noncomputable def e47_m4 (P : Params) : List DictEntry := e47_m3 P ++ [h P "code" 493 (R 102), h P "codefor" 498 (R 103), h P "assign" 503 (R 104), h P "opassign" 508 (R 105), h P "aassign" 513 (R 106), h P "members" 518 (R 107), h P "lasttarget" 523 (R 108), h P "preinc" 528 (R 109), h P "predec" 533 (R 110), h P "postinc" 538 (R 111), h P "postdec" 543 (R 112), h P "localglob" 548 (R 113), h P "localelem" 553 (R 114), h P "localhelem" 558 (R 115), h P "localaslice" 563 (R 116), h P "localhslice" 568 (R 117), h P "bin" 573 (R 118)]
noncomputable def o47_m4 (P : Params) : Obj := ⟨T "dict", none, .dict (e47_m4 P).toArray 68, [].toArray⟩
noncomputable def e101_m4 (P : Params) : List DictEntry := [h P "code" 493 (R 102), h P "codefor" 498 (R 103), h P "assign" 503 (R 104), h P "opassign" 508 (R 105), h P "aassign" 513 (R 106), h P "members" 518 (R 107), h P "lasttarget" 523 (R 108), h P "preinc" 528 (R 109), h P "predec" 533 (R 110), h P "postinc" 538 (R 111), h P "postdec" 543 (R 112), h P "localglob" 548 (R 113), h P "localelem" 553 (R 114), h P "localhelem" 558 (R 115), h P "localaslice" 563 (R 116), h P "localhslice" 568 (R 117), h P "bin" 573 (R 118)]
noncomputable def o101 (P : Params) : Obj := ⟨T "dict", none, .dict (e101_m4 P).toArray 17, [].toArray⟩
noncomputable def o102 : Obj := tp [I 0 494, I 1 495, S "-" 496]
noncomputable def o103 : Obj := tp [I 0 499, I 1 500, S "-" 501]
noncomputable def o104 : Obj := tp [I 2 504, I 1 505, S "" 506]
noncomputable def o105 : Obj := tp [I 2 509, I 1 510, S "-" 511]
noncomputable def o106 : Obj := tp [I 2 514, I 1 515, S "w" 516]
noncomputable def o107 : Obj := tp [I 1 519, I 1 520, S "" 521]
noncomputable def o108 : Obj := tp [I 1 524, I 1 525, S "" 526]
noncomputable def o109 : Obj := tp [I 1 529, I 1 530, S "" 531]
noncomputable def o110 : Obj := tp [I 1 534, I 1 535, S "" 536]
noncomputable def o111 : Obj := tp [I 1 539, I 1 540, S "" 541]
noncomputable def o112 : Obj := tp [I 1 544, I 1 545, S "" 546]
noncomputable def o113 : Obj := tp [I 0 549, I 1 550, S "--" 551]
noncomputable def o114 : Obj := tp [I 2 554, I 1 555, S "" 556]
noncomputable def o115 : Obj := tp [I 2 559, I 1 560, S "" 561]
noncomputable def o116 : Obj := tp [I 2 564, I 1 565, S "" 566]
noncomputable def o117 : Obj := tp [I 2 569, I 1 570, S "" 571]
noncomputable def o118 : Obj := tp [I 2 574, I 1 575, S "-" 576]
noncomputable def e47_m5 (P : Params) : List DictEntry := e47_m4 P ++ [h P "xor" 578 (R 120), h P "un" 583 (R 121), h P "joinlist" 588 (R 122), h P "text" 593 (R 123), h P "wanted" 598 (R 124), h P "repeat" 603 (R 125), h P "range" 608 (R 126), h P "jump" 613 (R 127), h P "iffalse" 618 (R 128), h P "iftrue" 623 (R 129), h P "ifdef" 628 (R 130), h P "orjump" 633 (R 131), h P "andjump" 638 (R 132), h P "dorjump" 643 (R 133), h P "bywant" 648 (R 134), h P "iter" 653 (R 135), h P "next" 658 (R 136)]
noncomputable def o47_m5 (P : Params) : Obj := ⟨T "dict", none, .dict (e47_m5 P).toArray 85, [].toArray⟩
noncomputable def e119_m5 (P : Params) : List DictEntry := [h P "xor" 578 (R 120), h P "un" 583 (R 121), h P "joinlist" 588 (R 122), h P "text" 593 (R 123), h P "wanted" 598 (R 124), h P "repeat" 603 (R 125), h P "range" 608 (R 126), h P "jump" 613 (R 127), h P "iffalse" 618 (R 128), h P "iftrue" 623 (R 129), h P "ifdef" 628 (R 130), h P "orjump" 633 (R 131), h P "andjump" 638 (R 132), h P "dorjump" 643 (R 133), h P "bywant" 648 (R 134), h P "iter" 653 (R 135), h P "next" 658 (R 136)]
noncomputable def o119 (P : Params) : Obj := ⟨T "dict", none, .dict (e119_m5 P).toArray 17, [].toArray⟩
noncomputable def o120 : Obj := tp [I 2 579, I 1 580, S "" 581]
noncomputable def o121 : Obj := tp [I 1 584, I 1 585, S "-" 586]
noncomputable def o122 : Obj := tp [I 1 589, I 1 590, S "" 591]
noncomputable def o123 : Obj := tp [I 1 594, I 1 595, S "" 596]
noncomputable def o124 : Obj := tp [I 0 599, I 1 600, S "" 601]
noncomputable def o125 : Obj := tp [I 2 604, I 1 605, S "" 606]
noncomputable def o126 : Obj := tp [I 2 609, I 1 610, S "" 611]
noncomputable def o127 : Obj := tp [I 0 614, I 0 615, S "j" 616]
noncomputable def o128 : Obj := tp [I 1 619, I 0 620, S "j" 621]
noncomputable def o129 : Obj := tp [I 1 624, I 0 625, S "j" 626]
noncomputable def o130 : Obj := tp [I 1 629, I 0 630, S "j" 631]
noncomputable def o131 : Obj := tp [I 1 634, I 0 635, S "j" 636]
noncomputable def o132 : Obj := tp [I 1 639, I 0 640, S "j" 641]
noncomputable def o133 : Obj := tp [I 1 644, I 0 645, S "j" 646]
noncomputable def o134 : Obj := tp [I 0 649, I 0 650, S "jjj" 651]
noncomputable def o135 : Obj := tp [I 1 654, I 1 655, S "" 656]
noncomputable def o136 : Obj := tp [I 1 659, I 2 660, S "j" 661]
noncomputable def e47_m6 (P : Params) : List DictEntry := e47_m5 P ++ [h P "bindpad" 663 (R 138), h P "bindglob" 668 (R 139), h P "return0" 673 (R 140), h P "return1" 678 (R 141), h P "return2" 683 (R 142), h P "subreturn" 688 (R 143), h P "enter" 693 (R 144), h P "leave" 698 (R 145), h P "leavetest" 703 (R 146), h P "begin" 708 (R 147), h P "settle" 713 (R 148), h P "resettle" 718 (R 149), h P "forget" 723 (R 150), h P "line" 728 (R 151), h P "package" 733 (R 152), h P "loop" 738 (R 153), h P "endloop" 743 (R 154)]
noncomputable def o47_m6 (P : Params) : Obj := ⟨T "dict", none, .dict (e47_m6 P).toArray 102, [].toArray⟩
noncomputable def e137_m6 (P : Params) : List DictEntry := [h P "bindpad" 663 (R 138), h P "bindglob" 668 (R 139), h P "return0" 673 (R 140), h P "return1" 678 (R 141), h P "return2" 683 (R 142), h P "subreturn" 688 (R 143), h P "enter" 693 (R 144), h P "leave" 698 (R 145), h P "leavetest" 703 (R 146), h P "begin" 708 (R 147), h P "settle" 713 (R 148), h P "resettle" 718 (R 149), h P "forget" 723 (R 150), h P "line" 728 (R 151), h P "package" 733 (R 152), h P "loop" 738 (R 153), h P "endloop" 743 (R 154)]
noncomputable def o137 (P : Params) : Obj := ⟨T "dict", none, .dict (e137_m6 P).toArray 17, [].toArray⟩
noncomputable def o138 : Obj := tp [I 1 664, I 0 665, S "-" 666]
noncomputable def o139 : Obj := tp [I 1 669, I 0 670, S "-" 671]
noncomputable def o140 : Obj := tp [I 0 674, I 0 675, S "" 676]
noncomputable def o141 : Obj := tp [I 1 679, I 0 680, S "" 681]
noncomputable def o142 : Obj := tp [I 1 684, I 0 685, S "" 686]
noncomputable def o143 : Obj := tp [I 0 689, I 0 690, S "s" 691]
noncomputable def o144 : Obj := tp [I 0 694, I 0 695, S "" 696]
noncomputable def o145 : Obj := tp [I 0 699, I 0 700, S "" 701]
noncomputable def o146 : Obj := tp [I 0 704, I 0 705, S "" 706]
noncomputable def o147 : Obj := tp [I 0 709, I 0 710, S "" 711]
noncomputable def o148 : Obj := tp [I 0 714, I 0 715, S "" 716]
noncomputable def o149 : Obj := tp [I 0 719, I 0 720, S "" 721]
noncomputable def o150 : Obj := tp [I 0 724, I 0 725, S "" 726]
noncomputable def o151 : Obj := tp [I 0 729, I 0 730, S "-" 731]
noncomputable def o152 : Obj := tp [I 0 734, I 0 735, S "-" 736]
noncomputable def o153 : Obj := tp [I 0 739, I 0 740, S "-jjj" 741]
noncomputable def o154 : Obj := tp [I 0 744, I 0 745, S "" 746]
noncomputable def e47_m7 (P : Params) : List DictEntry := e47_m6 P ++ [h P "unwind" 748 (R 156), h P "loopleave" 753 (R 157), h P "call" 758 (R 158), h P "callsame" 763 (R 159), h P "method" 768 (R 160), h P "func" 773 (R 161), h P "map" 778 (R 162), h P "grep" 783 (R 163), h P "sort" 788 (R 164), h P "sortby" 793 (R 165), h P "match" 798 (R 166), h P "subst" 803 (R 167), h P "trans" 808 (R 168), h P "split" 813 (R 169), h P "delete" 818 (R 170), h P "exists" 823 (R 171), h P "isdef" 828 (R 172)]
noncomputable def o47_m7 (P : Params) : Obj := ⟨T "dict", none, .dict (e47_m7 P).toArray 119, [].toArray⟩
noncomputable def e155_m7 (P : Params) : List DictEntry := [h P "unwind" 748 (R 156), h P "loopleave" 753 (R 157), h P "call" 758 (R 158), h P "callsame" 763 (R 159), h P "method" 768 (R 160), h P "func" 773 (R 161), h P "map" 778 (R 162), h P "grep" 783 (R 163), h P "sort" 788 (R 164), h P "sortby" 793 (R 165), h P "match" 798 (R 166), h P "subst" 803 (R 167), h P "trans" 808 (R 168), h P "split" 813 (R 169), h P "delete" 818 (R 170), h P "exists" 823 (R 171), h P "isdef" 828 (R 172)]
noncomputable def o155 (P : Params) : Obj := ⟨T "dict", none, .dict (e155_m7 P).toArray 17, [].toArray⟩
noncomputable def o156 : Obj := tp [I 0 749, I 0 750, S "---" 751]
noncomputable def o157 : Obj := tp [I 0 754, I 0 755, S "--" 756]
noncomputable def o158 : Obj := tp [I 2 759, I 1 760, S "w" 761]
noncomputable def o159 : Obj := tp [I 1 764, I 1 765, S "w" 766]
noncomputable def o160 : Obj := tp [I 2 769, I 1 770, S "-w" 771]
noncomputable def o161 : Obj := tp [I 0 774, I 1 775, S "-nw" 776]
noncomputable def o162 : Obj := tp [I 1 779, I 1 780, S "-" 781]
noncomputable def o163 : Obj := tp [I 1 784, I 1 785, S "-" 786]
noncomputable def o164 : Obj := tp [I 1 789, I 1 790, S "--" 791]
noncomputable def o165 : Obj := tp [I 2 794, I 1 795, S "-" 796]
noncomputable def o166 : Obj := tp [I 2 799, I 1 800, S "--w" 801]
noncomputable def o167 : Obj := tp [I 2 804, I 1 805, S "--" 806]
noncomputable def o168 : Obj := tp [I 1 809, I 1 810, S "---" 811]
noncomputable def o169 : Obj := tp [I 3 814, I 1 815, S "-w" 816]
noncomputable def o170 : Obj := tp [I 2 819, I 1 820, S "-" 821]
noncomputable def o171 : Obj := tp [I 2 824, I 1 825, S "-" 826]
noncomputable def o172 : Obj := tp [I 1 829, I 1 830, S "" 831]
noncomputable def e3_3 (P : Params) : List DictEntry := e3_2 P ++ [h P "SHAPES" 848 (R 47)]
noncomputable def o3_3 (P : Params) : Obj := ⟨T "dict", none, .dict (e3_3 P).toArray 13, [].toArray⟩
noncomputable def e47_3 (P : Params) : List DictEntry := e47_m7 P ++ [h P "codethere" 833 (R 174), h P "evalblock" 837 (R 175), h P "evalstr" 841 (R 176)]
noncomputable def o47_3 (P : Params) : Obj := ⟨T "dict", none, .dict (e47_3 P).toArray 122, [].toArray⟩
noncomputable def e173_3 (P : Params) : List DictEntry := [h P "codethere" 833 (R 174), h P "evalblock" 837 (R 175), h P "evalstr" 841 (R 176)]
noncomputable def o173 (P : Params) : Obj := ⟨T "dict", none, .dict (e173_3 P).toArray 3, [].toArray⟩
noncomputable def o174 : Obj := tp [I 0 834, I 1 835, S "-" 836]
noncomputable def o175 : Obj := tp [I 0 838, I 1 839, S "-w" 840]
noncomputable def o176 : Obj := tp [I 1 842, I 1 843, S "--w" 844]
noncomputable def e3_4 (P : Params) : List DictEntry := [h P "__name__" 165 (S "law_rg0228_01" 935), h P "__doc__" 166 N, h P "__package__" 167 N, h P "__loader__" 168 (U "__main__.__loader__#opaque"), h P "__spec__" 169 N, h P "__annotations__" 170 (R 6), h P "__builtins__" 171 (R 4), h P "__file__" 173 (S "/claim/cut.py" 172), h P "__cached__" 174 N, h P "PerlError" 217 (R 31), h P "BadOps" 233 (R 44), h P "VOID" 237 (I 0 236), h P "SHAPES" 848 (R 47), h P "LEAVING" 857 (R 177), h P "KEEPING" 871 (R 178), h P "shape_of" 879 (R 185), h P "effect_of" 890 (R 192), h P "jumps_of" 896 (R 197), h P "with_jumps" 908 (R 204), h P "goes_on" 915 (R 211), h P "heights_at" 927 (R 218), h P "subs_used" 934 (R 225)]
noncomputable def o3_4 (P : Params) : Obj := ⟨T "dict", none, .dict (e3_4 P).toArray 22, [].toArray⟩
noncomputable def o12_4 : Obj := fl [I 2 0, I 0 0, R 20, I 7 0, I 0 0, R 40, I 14 0, I 0 0, R 184, I 21 0, I 0 0, R 191, I 31 0, I 0 0, R 196, I 34 0, I 0 0, R 203, I 45 0, I 0 0, R 210, I 47 0, I 0 0, R 217, I 56 0, I 0 0, R 224]
noncomputable def o177 : Obj := tp [S "jump" 849, S "bywant" 850, S "return0" 851, S "return1" 852, S "return2" 853, S "subreturn" 854, S "loopleave" 855, S "refuse" 856]
noncomputable def e178_4 (P : Params) : List DictEntry := [h P "orjump" 858 (I 1 859), h P "andjump" 860 (I 1 861), h P "dorjump" 862 (I 1 863), h P "next" 864 (J 0 866)]
noncomputable def o178 (P : Params) : Obj := ⟨T "dict", none, .dict (e178_4 P).toArray 4, [].toArray⟩
noncomputable def o179 : Obj := tp []
noncomputable def o180 : Obj := fl []
noncomputable def o181 : Obj := tp [S "op" 875, S "shape" 876]
noncomputable def o182 : Obj := tp []
noncomputable def o183 : Obj := ⟨N, none, (.func (fn (stK 8) "shape_of" "shape_of" 0 N N 0)), [].toArray⟩
noncomputable def o184 : Obj := cd [S "shape_of" 872, S "shape_of" 873, S "/claim/cut.py" 874, I 14 0, I 1 0, I 0 0, I 0 0, I 3 0, R 179, B true, I 181 0, R 180, N, R 181, R 182, R 183, I 877 0, I 14 0, S "/claim/cut.py" 878]
noncomputable def o185 : Obj := ⟨T "function", none, (.func (fn (stK 8) "shape_of" "shape_of" 3 (S "perlcore.ops" 234) (R 184) 0)), [].toArray⟩
noncomputable def o186 : Obj := tp []
noncomputable def o187 : Obj := fl []
noncomputable def o188 : Obj := tp [S "op" 883, S "taken" 884, S "left" 885, S "parts" 886, S "at" 887]
noncomputable def o189 : Obj := tp []
noncomputable def o190 : Obj := ⟨N, none, (.func (fn (stK 9) "effect_of" "effect_of" 0 N N 0)), [].toArray⟩
noncomputable def o191 : Obj := cd [S "effect_of" 880, S "effect_of" 881, S "/claim/cut.py" 882, I 21 0, I 1 0, I 0 0, I 0 0, I 3 0, R 186, B true, I 181 0, R 187, N, R 188, R 189, R 190, I 888 0, I 21 0, S "/claim/cut.py" 889]
noncomputable def o192 : Obj := ⟨T "function", none, (.func (fn (stK 9) "effect_of" "effect_of" 3 (S "perlcore.ops" 234) (R 191) 0)), [].toArray⟩
noncomputable def o193 : Obj := tp []
noncomputable def o194 : Obj := fl []
noncomputable def o195 : Obj := ⟨N, none, (.func (fn (stK 10) "jumps_of" "jumps_of" 0 N N 0)), [].toArray⟩
noncomputable def o196 : Obj := cd [S "jumps_of" 891, S "jumps_of" 892, S "/claim/cut.py" 893, I 31 0, I 1 0, I 0 0, I 0 0, I 3 0, R 193, B true, I 181 0, R 194, N, N, N, R 195, I 894 0, I 31 0, S "/claim/cut.py" 895]
noncomputable def o197 : Obj := ⟨T "function", none, (.func (fn (stK 10) "jumps_of" "jumps_of" 3 (S "perlcore.ops" 234) (R 196) 0)), [].toArray⟩
noncomputable def o198 : Obj := tp []
noncomputable def o199 : Obj := fl []
noncomputable def o200 : Obj := tp [S "op" 900, S "places" 901, S "parts" 902, S "made" 903, S "used" 904, S "at" 905]
noncomputable def o201 : Obj := tp []
noncomputable def o202 : Obj := ⟨N, none, (.func (fn (stK 11) "with_jumps" "with_jumps" 0 N N 0)), [].toArray⟩
noncomputable def o203 : Obj := cd [S "with_jumps" 897, S "with_jumps" 898, S "/claim/cut.py" 899, I 34 0, I 2 0, I 0 0, I 0 0, I 3 0, R 198, B true, I 181 0, R 199, N, R 200, R 201, R 202, I 906 0, I 34 0, S "/claim/cut.py" 907]
noncomputable def o204 : Obj := ⟨T "function", none, (.func (fn (stK 11) "with_jumps" "with_jumps" 3 (S "perlcore.ops" 234) (R 203) 0)), [].toArray⟩
noncomputable def o205 : Obj := tp []
noncomputable def o206 : Obj := fl []
noncomputable def o207 : Obj := tp [S "op" 912]
noncomputable def o208 : Obj := tp []
noncomputable def o209 : Obj := ⟨N, none, (.func (fn (stK 12) "goes_on" "goes_on" 0 N N 0)), [].toArray⟩
noncomputable def o210 : Obj := cd [S "goes_on" 909, S "goes_on" 910, S "/claim/cut.py" 911, I 45 0, I 1 0, I 0 0, I 0 0, I 3 0, R 205, B true, I 181 0, R 206, N, R 207, R 208, R 209, I 913 0, I 45 0, S "/claim/cut.py" 914]
noncomputable def o211 : Obj := ⟨T "function", none, (.func (fn (stK 12) "goes_on" "goes_on" 3 (S "perlcore.ops" 234) (R 210) 0)), [].toArray⟩
noncomputable def o212 : Obj := tp []
noncomputable def o213 : Obj := fl []
noncomputable def o214 : Obj := tp [S "op" 919, S "taken" 920, S "left" 921, S "change" 922, S "found" 923, S "place" 924]
noncomputable def o215 : Obj := tp []
noncomputable def o216 : Obj := ⟨N, none, (.func (fn (stK 13) "heights_at" "heights_at" 0 N N 0)), [].toArray⟩
noncomputable def o217 : Obj := cd [S "heights_at" 916, S "heights_at" 917, S "/claim/cut.py" 918, I 47 0, I 1 0, I 0 0, I 0 0, I 3 0, R 212, B true, I 181 0, R 213, N, R 214, R 215, R 216, I 925 0, I 47 0, S "/claim/cut.py" 926]
noncomputable def o218 : Obj := ⟨T "function", none, (.func (fn (stK 13) "heights_at" "heights_at" 3 (S "perlcore.ops" 234) (R 217) 0)), [].toArray⟩
noncomputable def o219 : Obj := tp []
noncomputable def o220 : Obj := fl []
noncomputable def o221 : Obj := tp [S "op" 931]
noncomputable def o222 : Obj := tp []
noncomputable def o223 : Obj := ⟨N, none, (.func (fn (stK 14) "subs_used" "subs_used" 0 N N 0)), [].toArray⟩
noncomputable def o224 : Obj := cd [S "subs_used" 928, S "subs_used" 929, S "/claim/cut.py" 930, I 56 0, I 1 0, I 0 0, I 0 0, I 3 0, R 219, B true, I 181 0, R 220, N, R 221, R 222, R 223, I 932 0, I 56 0, S "/claim/cut.py" 933]
noncomputable def o225 : Obj := ⟨T "function", none, (.func (fn (stK 14) "subs_used" "subs_used" 3 (S "perlcore.ops" 234) (R 224) 0)), [].toArray⟩
noncomputable def e3_5 (P : Params) : List DictEntry := e3_4 P ++ [h P "_law_list" 1099 (R 300)]
noncomputable def o3_5 (P : Params) : Obj := ⟨T "dict", none, .dict (e3_5 P).toArray 23, [].toArray⟩
noncomputable def o226 : Obj := ⟨T "list", none, (.seq [].toArray 0), [].toArray⟩
noncomputable def o227 : Obj := tp [I 0 937, I 1 938, R 226, S "empty wanted" 939]
noncomputable def o228 : Obj := ⟨T "list", none, (.seq [I 0 942].toArray 0), [].toArray⟩
noncomputable def o229 : Obj := tp [I 0 940, I 1 941, R 228, S "const refuse matchvar code codefor codethere" 943]
noncomputable def o230 : Obj := ⟨T "list", none, (.seq [I 0 946, I 0 947].toArray 0), [].toArray⟩
noncomputable def o231 : Obj := tp [I 0 944, I 1 945, R 230, S "pad my glob localglob" 948]
noncomputable def o232 : Obj := ⟨T "list", none, (.seq [I 2 951].toArray 0), [].toArray⟩
noncomputable def o233 : Obj := tp [I 0 949, I 1 950, R 232, S "append substrlv" 952]
noncomputable def o234 : Obj := ⟨T "list", none, (.seq [I 5 955].toArray 0), [].toArray⟩
noncomputable def o235 : Obj := tp [I 0 953, I 1 954, R 234, S "closure" 956]
noncomputable def o236 : Obj := ⟨T "list", none, (.seq [I 5 959].toArray 0), [].toArray⟩
noncomputable def o237 : Obj := tp [I 0 957, I 0 958, R 236, S "definesub" 960]
noncomputable def o238 : Obj := ⟨T "list", none, (.seq [].toArray 0), [].toArray⟩
noncomputable def o239 : Obj := tp [I 1 961, I 0 962, R 238, S "drop return1 return2" 963]
noncomputable def o240 : Obj := ⟨T "list", none, (.seq [].toArray 0), [].toArray⟩
noncomputable def o241 : Obj := tp [I 1 964, I 2 965, R 240, S "dup" 966]
noncomputable def o242 : Obj := ⟨T "list", none, (.seq [].toArray 0), [].toArray⟩
noncomputable def o243 : Obj := tp [I 2 967, I 2 968, R 242, S "swap" 969]
noncomputable def o244 : Obj := ⟨T "list", none, (.seq [].toArray 0), [].toArray⟩
noncomputable def o245 : Obj := tp [I 3 970, I 1 971, R 244, S "veclv" 972]
noncomputable def o246 : Obj := ⟨T "list", none, (.seq [I 0 975].toArray 0), [].toArray⟩
noncomputable def o247 : Obj := tp [I 1 973, I 1 974, R 246, S "vivify deref un" 976]
noncomputable def o248 : Obj := ⟨T "list", none, (.seq [].toArray 0), [].toArray⟩
noncomputable def o249 : Obj := tp [I 1 977, I 1 978, R 248, S "wrap copy count final fetch ascalar newscalar items size pairs keycount lastidx poslv ref refvalue elemrefs anona anonh members lasttarget preinc predec postinc postdec joinlist text iter isdef" 979]
noncomputable def o250 : Obj := ⟨T "list", none, (.seq [].toArray 0), [].toArray⟩
noncomputable def o251 : Obj := tp [I 2 980, I 1 981, R 250, S "elem helem elemat helemat elemlv helemlv aslice hslice aslicelv hslicelv lslice assign localelem localhelem localaslice localhslice xor repeat range" 982]
noncomputable def o252 : Obj := ⟨T "list", none, (.seq [I 0 985].toArray 0), [].toArray⟩
noncomputable def o253 : Obj := tp [I 2 983, I 1 984, R 252, S "opassign bin delete exists" 986]
noncomputable def o254 : Obj := ⟨T "list", none, (.seq [I 3 989].toArray 0), [].toArray⟩
noncomputable def o255 : Obj := tp [I 2 987, I 1 988, R 254, S "aassign call" 990]
noncomputable def o256 : Obj := ⟨T "list", none, (.seq [I 3 993].toArray 0), [].toArray⟩
noncomputable def o257 : Obj := tp [I 1 991, I 1 992, R 256, S "callsame" 994]
noncomputable def o258 : Obj := ⟨T "list", none, (.seq [I 0 997, I 3 998].toArray 0), [].toArray⟩
noncomputable def o259 : Obj := tp [I 2 995, I 1 996, R 258, S "method" 999]
noncomputable def o260 : Obj := ⟨T "list", none, (.seq [I 0 1002, I 2 1003, I 3 1004].toArray 0), [].toArray⟩
noncomputable def o261 : Obj := tp [I 0 1000, I 1 1001, R 260, S "func" 1005]
noncomputable def o262 : Obj := ⟨T "list", none, (.seq [I 1 1008].toArray 0), [].toArray⟩
noncomputable def o263 : Obj := tp [I 0 1006, I 0 1007, R 262, S "jump" 1009]
noncomputable def o264 : Obj := ⟨T "list", none, (.seq [I 1 1012].toArray 0), [].toArray⟩
noncomputable def o265 : Obj := tp [I 1 1010, I 0 1011, R 264, S "iffalse iftrue ifdef orjump andjump dorjump" 1013]
noncomputable def o266 : Obj := ⟨T "list", none, (.seq [I 1 1016, I 1 1017, I 1 1018].toArray 0), [].toArray⟩
noncomputable def o267 : Obj := tp [I 0 1014, I 0 1015, R 266, S "bywant" 1019]
noncomputable def o268 : Obj := ⟨T "list", none, (.seq [I 1 1022].toArray 0), [].toArray⟩
noncomputable def o269 : Obj := tp [I 1 1020, I 2 1021, R 268, S "next" 1023]
noncomputable def o270 : Obj := ⟨T "list", none, (.seq [I 0 1026].toArray 0), [].toArray⟩
noncomputable def o271 : Obj := tp [I 1 1024, I 0 1025, R 270, S "bindpad bindglob" 1027]
noncomputable def o272 : Obj := ⟨T "list", none, (.seq [].toArray 0), [].toArray⟩
noncomputable def o273 : Obj := tp [I 0 1028, I 0 1029, R 272, S "return0 enter leave begin settle resettle forget endloop" 1030]
noncomputable def o274 : Obj := ⟨T "list", none, (.seq [I 4 1033].toArray 0), [].toArray⟩
noncomputable def o275 : Obj := tp [I 0 1031, I 0 1032, R 274, S "subreturn" 1034]
noncomputable def o276 : Obj := ⟨T "list", none, (.seq [I 0 1037].toArray 0), [].toArray⟩
noncomputable def o277 : Obj := tp [I 0 1035, I 0 1036, R 276, S "line package" 1038]
noncomputable def o278 : Obj := ⟨T "list", none, (.seq [I 0 1041, I 1 1042, I 1 1043, I 1 1044].toArray 0), [].toArray⟩
noncomputable def o279 : Obj := tp [I 0 1039, I 0 1040, R 278, S "loop" 1045]
noncomputable def o280 : Obj := ⟨T "list", none, (.seq [I 0 1048, I 0 1049, I 0 1050].toArray 0), [].toArray⟩
noncomputable def o281 : Obj := tp [I 0 1046, I 0 1047, R 280, S "unwind" 1051]
noncomputable def o282 : Obj := ⟨T "list", none, (.seq [I 0 1054, I 0 1055].toArray 0), [].toArray⟩
noncomputable def o283 : Obj := tp [I 0 1052, I 0 1053, R 282, S "loopleave" 1056]
noncomputable def o284 : Obj := ⟨T "list", none, (.seq [I 5 1059].toArray 0), [].toArray⟩
noncomputable def o285 : Obj := tp [I 1 1057, I 1 1058, R 284, S "map grep" 1060]
noncomputable def o286 : Obj := ⟨T "list", none, (.seq [I 6 1063, I 0 1064].toArray 0), [].toArray⟩
noncomputable def o287 : Obj := tp [I 1 1061, I 1 1062, R 286, S "sort" 1065]
noncomputable def o288 : Obj := ⟨T "list", none, (.seq [I 0 1068, I 0 1069, I 3 1070].toArray 0), [].toArray⟩
noncomputable def o289 : Obj := tp [I 2 1066, I 1 1067, R 288, S "match" 1071]
noncomputable def o290 : Obj := ⟨T "list", none, (.seq [I 0 1074, I 5 1075].toArray 0), [].toArray⟩
noncomputable def o291 : Obj := tp [I 2 1072, I 1 1073, R 290, S "subst" 1076]
noncomputable def o292 : Obj := ⟨T "list", none, (.seq [I 0 1079, I 0 1080, I 0 1081].toArray 0), [].toArray⟩
noncomputable def o293 : Obj := tp [I 1 1077, I 1 1078, R 292, S "trans" 1082]
noncomputable def o294 : Obj := ⟨T "list", none, (.seq [I 0 1085, I 3 1086].toArray 0), [].toArray⟩
noncomputable def o295 : Obj := tp [I 3 1083, I 1 1084, R 294, S "split" 1087]
noncomputable def o296 : Obj := ⟨T "list", none, (.seq [I 5 1090, I 3 1091].toArray 0), [].toArray⟩
noncomputable def o297 : Obj := tp [I 0 1088, I 1 1089, R 296, S "evalblock" 1092]
noncomputable def o298 : Obj := ⟨T "list", none, (.seq [I 0 1095, I 0 1096, I 3 1097].toArray 0), [].toArray⟩
noncomputable def o299 : Obj := tp [I 1 1093, I 1 1094, R 298, S "evalstr" 1098]
noncomputable def o300 : Obj := ⟨T "list", none, (.seq [R 227, R 229, R 231, R 233, R 235, R 237, R 239, R 241, R 243, R 245, R 247, R 249, R 251, R 253, R 255, R 257, R 259, R 261, R 263, R 265, R 267, R 269, R 271, R 273, R 275, R 277, R 279, R 281, R 283, R 285, R 287, R 289, R 291, R 293, R 295, R 297, R 299].toArray 0), [].toArray⟩
noncomputable def e3_6 (P : Params) : List DictEntry := e3_5 P ++ [h P "_law_all" 1111 (R 307), h P "_law_spin" 1119 (R 314), h P "_law_filled" 1130 (R 321), h P "_law_of" 1136 (R 326), h P "_law_entries" 1142 (R 331), h P "_law_ends" 1149 (R 338), h P "_law_ways" 1155 (R 343), h P "_law_refused" 1164 (R 350), h P "_law_is_right" 1170 (R 355), h P "law" 1182 (R 362)]
noncomputable def o3_6 (P : Params) : Obj := ⟨T "dict", none, .dict (e3_6 P).toArray 33, [].toArray⟩
noncomputable def o12_6 : Obj := fl [I 2 0, I 0 0, R 20, I 7 0, I 0 0, R 40, I 14 0, I 0 0, R 184, I 21 0, I 0 0, R 191, I 31 0, I 0 0, R 196, I 34 0, I 0 0, R 203, I 45 0, I 0 0, R 210, I 47 0, I 0 0, R 217, I 56 0, I 0 0, R 224, I 66 0, I 0 0, R 306, I 72 0, I 0 0, R 313, I 77 0, I 0 0, R 320, I 91 0, I 0 0, R 325, I 93 0, I 0 0, R 330, I 96 0, I 0 0, R 337, I 98 0, I 0 0, R 342, I 101 0, I 0 0, R 349, I 113 0, I 0 0, R 354, I 130 0, I 0 0, R 361]
noncomputable def o301 : Obj := tp []
noncomputable def o302 : Obj := fl []
noncomputable def o303 : Obj := tp [S "found" 1103, S "taken" 1104, S "left" 1105, S "parts" 1106, S "words" 1107, S "word" 1108]
noncomputable def o304 : Obj := tp []
noncomputable def o305 : Obj := ⟨N, none, (.func (fn (stK 17) "_law_all" "_law_all" 0 N N 0)), [].toArray⟩
noncomputable def o306 : Obj := cd [S "_law_all" 1100, S "_law_all" 1101, S "/claim/cut.py" 1102, I 66 0, I 0 0, I 0 0, I 0 0, I 3 0, R 301, B true, I 181 0, R 302, N, R 303, R 304, R 305, I 1109 0, I 66 0, S "/claim/cut.py" 1110]
noncomputable def o307 : Obj := ⟨T "function", none, (.func (fn (stK 17) "_law_all" "_law_all" 3 (S "law_rg0228_01" 935) (R 306) 0)), [].toArray⟩
noncomputable def o308 : Obj := tp []
noncomputable def o309 : Obj := fl []
noncomputable def o310 : Obj := tp [S "wheel" 1115, S "size" 1116]
noncomputable def o311 : Obj := tp []
noncomputable def o312 : Obj := ⟨N, none, (.func (fn (stK 18) "_law_spin" "_law_spin" 0 N N 0)), [].toArray⟩
noncomputable def o313 : Obj := cd [S "_law_spin" 1112, S "_law_spin" 1113, S "/claim/cut.py" 1114, I 72 0, I 2 0, I 0 0, I 0 0, I 3 0, R 308, B true, I 181 0, R 309, N, R 310, R 311, R 312, I 1117 0, I 72 0, S "/claim/cut.py" 1118]
noncomputable def o314 : Obj := ⟨T "function", none, (.func (fn (stK 18) "_law_spin" "_law_spin" 3 (S "law_rg0228_01" 935) (R 313) 0)), [].toArray⟩
noncomputable def o315 : Obj := tp []
noncomputable def o316 : Obj := fl []
noncomputable def o317 : Obj := tp [S "wheel" 1123, S "word" 1124, S "parts" 1125, S "row" 1126, S "sort" 1127]
noncomputable def o318 : Obj := tp []
noncomputable def o319 : Obj := ⟨N, none, (.func (fn (stK 19) "_law_filled" "_law_filled" 0 N N 0)), [].toArray⟩
noncomputable def o320 : Obj := cd [S "_law_filled" 1120, S "_law_filled" 1121, S "/claim/cut.py" 1122, I 77 0, I 3 0, I 0 0, I 0 0, I 3 0, R 315, B true, I 181 0, R 316, N, R 317, R 318, R 319, I 1128 0, I 77 0, S "/claim/cut.py" 1129]
noncomputable def o321 : Obj := ⟨T "function", none, (.func (fn (stK 19) "_law_filled" "_law_filled" 3 (S "law_rg0228_01" 935) (R 320) 0)), [].toArray⟩
noncomputable def o322 : Obj := tp []
noncomputable def o323 : Obj := fl []
noncomputable def o324 : Obj := ⟨N, none, (.func (fn (stK 20) "_law_of" "_law_of" 0 N N 0)), [].toArray⟩
noncomputable def o325 : Obj := cd [S "_law_of" 1131, S "_law_of" 1132, S "/claim/cut.py" 1133, I 91 0, I 3 0, I 0 0, I 0 0, I 3 0, R 322, B true, I 181 0, R 323, N, N, N, R 324, I 1134 0, I 91 0, S "/claim/cut.py" 1135]
noncomputable def o326 : Obj := ⟨T "function", none, (.func (fn (stK 20) "_law_of" "_law_of" 3 (S "law_rg0228_01" 935) (R 325) 0)), [].toArray⟩
noncomputable def o327 : Obj := tp []
noncomputable def o328 : Obj := fl []
noncomputable def o329 : Obj := ⟨N, none, (.func (fn (stK 21) "_law_entries" "_law_entries" 0 N N 0)), [].toArray⟩
noncomputable def o330 : Obj := cd [S "_law_entries" 1137, S "_law_entries" 1138, S "/claim/cut.py" 1139, I 93 0, I 4 0, I 0 0, I 0 0, I 3 0, R 327, B true, I 181 0, R 328, N, N, N, R 329, I 1140 0, I 93 0, S "/claim/cut.py" 1141]
noncomputable def o331 : Obj := ⟨T "function", none, (.func (fn (stK 21) "_law_entries" "_law_entries" 3 (S "law_rg0228_01" 935) (R 330) 0)), [].toArray⟩
noncomputable def o332 : Obj := tp []
noncomputable def o333 : Obj := fl []
noncomputable def o334 : Obj := tp [S "word" 1146]
noncomputable def o335 : Obj := tp []
noncomputable def o336 : Obj := ⟨N, none, (.func (fn (stK 22) "_law_ends" "_law_ends" 0 N N 0)), [].toArray⟩
noncomputable def o337 : Obj := cd [S "_law_ends" 1143, S "_law_ends" 1144, S "/claim/cut.py" 1145, I 96 0, I 1 0, I 0 0, I 0 0, I 3 0, R 332, B true, I 181 0, R 333, N, R 334, R 335, R 336, I 1147 0, I 96 0, S "/claim/cut.py" 1148]
noncomputable def o338 : Obj := ⟨T "function", none, (.func (fn (stK 22) "_law_ends" "_law_ends" 3 (S "law_rg0228_01" 935) (R 337) 0)), [].toArray⟩
noncomputable def o339 : Obj := tp []
noncomputable def o340 : Obj := fl []
noncomputable def o341 : Obj := ⟨N, none, (.func (fn (stK 23) "_law_ways" "_law_ways" 0 N N 0)), [].toArray⟩
noncomputable def o342 : Obj := cd [S "_law_ways" 1150, S "_law_ways" 1151, S "/claim/cut.py" 1152, I 98 0, I 3 0, I 0 0, I 0 0, I 3 0, R 339, B true, I 181 0, R 340, N, N, N, R 341, I 1153 0, I 98 0, S "/claim/cut.py" 1154]
noncomputable def o343 : Obj := ⟨T "function", none, (.func (fn (stK 23) "_law_ways" "_law_ways" 3 (S "law_rg0228_01" 935) (R 342) 0)), [].toArray⟩
noncomputable def o344 : Obj := tp []
noncomputable def o345 : Obj := fl []
noncomputable def o346 : Obj := tp [S "row" 1159, S "many" 1160, S "reads" 1161]
noncomputable def o347 : Obj := tp []
noncomputable def o348 : Obj := ⟨N, none, (.func (fn (stK 24) "_law_refused" "_law_refused" 0 N N 0)), [].toArray⟩
noncomputable def o349 : Obj := cd [S "_law_refused" 1156, S "_law_refused" 1157, S "/claim/cut.py" 1158, I 101 0, I 1 0, I 0 0, I 0 0, I 3 0, R 344, B true, I 181 0, R 345, N, R 346, R 347, R 348, I 1162 0, I 101 0, S "/claim/cut.py" 1163]
noncomputable def o350 : Obj := ⟨T "function", none, (.func (fn (stK 24) "_law_refused" "_law_refused" 3 (S "law_rg0228_01" 935) (R 349) 0)), [].toArray⟩
noncomputable def o351 : Obj := tp []
noncomputable def o352 : Obj := fl []
noncomputable def o353 : Obj := ⟨N, none, (.func (fn (stK 25) "_law_is_right" "_law_is_right" 0 N N 0)), [].toArray⟩
noncomputable def o354 : Obj := cd [S "_law_is_right" 1165, S "_law_is_right" 1166, S "/claim/cut.py" 1167, I 113 0, I 2 0, I 0 0, I 0 0, I 3 0, R 351, B true, I 181 0, R 352, N, N, N, R 353, I 1168 0, I 113 0, S "/claim/cut.py" 1169]
noncomputable def o355 : Obj := ⟨T "function", none, (.func (fn (stK 25) "_law_is_right" "_law_is_right" 3 (S "law_rg0228_01" 935) (R 354) 0)), [].toArray⟩
noncomputable def o356 : Obj := tp []
noncomputable def o357 : Obj := fl []
noncomputable def o358 : Obj := tp [S "script" 1174, S "wheel" 1175, S "words" 1176, S "_" 1177, S "place" 1178, S "told" 1179]
noncomputable def o359 : Obj := tp []
noncomputable def o360 : Obj := ⟨N, none, (.func (fn (stK 26) "law" "law" 0 N N 0)), [].toArray⟩
noncomputable def o361 : Obj := cd [S "law" 1171, S "law" 1172, S "/claim/cut.py" 1173, I 130 0, I 1 0, I 0 0, I 0 0, I 3 0, R 356, B true, I 181 0, R 357, N, R 358, R 359, R 360, I 1180 0, I 130 0, S "/claim/cut.py" 1181]
noncomputable def o362 : Obj := ⟨T "function", none, (.func (fn (stK 26) "law" "law" 3 (S "law_rg0228_01" 935) (R 361) 0)), [].toArray⟩
noncomputable def tr_b (P : Params) : BT := (n (b0 P) (n (b1 P) (n (b3 P) (n (b7 P) e e) (n o11 e e)) (n (b5 P) (n (b9 P) e e) (n o13 e e))) (n (b2 P) (n (b4 P) (n (b8 P) e e) (n o12 e e)) (n (b6 P) (n (b10 P) e e) (n o14 e e))))
noncomputable def tr_1 (P : Params) : BT := (n (b0 P) (n (b1 P) (n (o3 P) (n (b7 P) (n o15 (n o31 e e) e) (n o23 e e)) (n o11 (n o19 e e) (n o27 e e))) (n (b5 P) (n (b9 P) (n (o17 P) (n o33 e e) e) (n o25 e e)) (n o13 (n o21 e e) (n o29 e e)))) (n (o2 P) (n (b4 P) (n (b8 P) (n o16 (n o32 e e) e) (n o24 e e)) (n o12_1 (n o20 e e) (n o28 e e))) (n (b6 P) (n (b10 P) (n o18 (n o34 e e) e) (n o26 e e)) (n o14 (n o22 e e) (n (o30 P) e e)))))
noncomputable def tr_2 (P : Params) : BT := (n (b0 P) (n (b1 P) (n (o3_2 P) (n (b7 P) (n o15 (n o31_2 e e) e) (n o23 (n o39 e e) e)) (n o11 (n o19 (n o35 e e) e) (n o27 (n (o43 P) e e) e))) (n (b5 P) (n (b9 P) (n (o17 P) (n o33 e e) e) (n o25 (n o41 e e) e)) (n o13 (n o21 (n (o37 P) e e) e) (n o29 (n o45 e e) e)))) (n (o2 P) (n (b4 P) (n (b8 P) (n o16 (n o32 e e) e) (n o24 (n o40 e e) e)) (n o12_2 (n o20 (n o36 e e) e) (n o28 (n o44 e e) e))) (n (b6 P) (n (b10 P) (n o18 (n o34 e e) e) (n o26 (n o42 e e) e)) (n o14 (n o22 (n o38 e e) e) (n (o30 P) (n o46 e e) e)))))
noncomputable def tr_m0 (P : Params) : BT := (n (b0 P) (n (b1 P) (n (o3_2 P) (n (b7 P) (n o15 (n o31_2 e e) e) (n o23 (n o39 e e) e)) (n o11 (n o19 (n o35 e e) e) (n o27 (n (o43 P) e e) e))) (n (b5 P) (n (b9 P) (n (o17 P) (n o33 e e) e) (n o25 (n o41 e e) e)) (n o13 (n o21 (n (o37 P) e e) e) (n o29 (n o45 e e) e)))) (n (o2 P) (n (b4 P) (n (b8 P) (n o16 (n o32 e e) e) (n o24 (n o40 e e) e)) (n o12_2 (n o20 (n o36 e e) e) (n o28 (n o44 e e) e))) (n (b6 P) (n (b10 P) (n o18 (n o34 e e) e) (n o26 (n o42 e e) e)) (n o14 (n o22 (n o38 e e) e) (n (o30 P) (n o46 e e) e)))))
noncomputable def tr_m1 (P : Params) : BT := (n (b0 P) (n (b1 P) (n (o3_2 P) (n (b7 P) (n o15 (n o31_2 (n o63 e e) e) (n (o47 P) e e)) (n o23 (n o39 e e) (n o55 e e))) (n o11 (n o19 (n o35 e e) (n o51 e e)) (n o27 (n (o43 P) e e) (n o59 e e)))) (n (b5 P) (n (b9 P) (n (o17 P) (n o33 e e) (n o49 e e)) (n o25 (n o41 e e) (n o57 e e))) (n o13 (n o21 (n (o37 P) e e) (n o53 e e)) (n o29 (n o45 e e) (n o61 e e))))) (n (o2 P) (n (b4 P) (n (b8 P) (n o16 (n o32 (n o64 e e) e) (n o48 e e)) (n o24 (n o40 e e) (n o56 e e))) (n o12_2 (n o20 (n o36 e e) (n o52 e e)) (n o28 (n o44 e e) (n o60 e e)))) (n (b6 P) (n (b10 P) (n o18 (n o34 e e) (n o50 e e)) (n o26 (n o42 e e) (n o58 e e))) (n o14 (n o22 (n o38 e e) (n o54 e e)) (n (o30 P) (n o46 e e) (n o62 e e))))))
noncomputable def tr_m2 (P : Params) : BT := (n (b0 P) (n (b1 P) (n (o3_2 P) (n (b7 P) (n o15 (n o31_2 (n o63 e e) e) (n (o47_m2 P) (n o79 e e) e)) (n o23 (n o39 (n o71 e e) e) (n o55 e e))) (n o11 (n o19 (n o35 (n o67 e e) e) (n o51 e e)) (n o27 (n (o43 P) (n o75 e e) e) (n o59 e e)))) (n (b5 P) (n (b9 P) (n (o17 P) (n o33 (n (o65 P) e e) e) (n o49 (n o81 e e) e)) (n o25 (n o41 (n o73 e e) e) (n o57 e e))) (n o13 (n o21 (n (o37 P) (n o69 e e) e) (n o53 e e)) (n o29 (n o45 (n o77 e e) e) (n o61 e e))))) (n (o2 P) (n (b4 P) (n (b8 P) (n o16 (n o32 (n o64 e e) e) (n o48 (n o80 e e) e)) (n o24 (n o40 (n o72 e e) e) (n o56 e e))) (n o12_2 (n o20 (n o36 (n o68 e e) e) (n o52 e e)) (n o28 (n o44 (n o76 e e) e) (n o60 e e)))) (n (b6 P) (n (b10 P) (n o18 (n o34 (n o66 e e) e) (n o50 (n o82 e e) e)) (n o26 (n o42 (n o74 e e) e) (n o58 e e))) (n o14 (n o22 (n o38 (n o70 e e) e) (n o54 e e)) (n (o30 P) (n o46 (n o78 e e) e) (n o62 e e))))))
noncomputable def tr_m3 (P : Params) : BT := (n (b0 P) (n (b1 P) (n (o3_2 P) (n (b7 P) (n o15 (n o31_2 (n o63 e e) (n o95 e e)) (n (o47_m3 P) (n o79 e e) e)) (n o23 (n o39 (n o71 e e) e) (n o55 (n o87 e e) e))) (n o11 (n o19 (n o35 (n o67 e e) (n o99 e e)) (n o51 (n (o83 P) e e) e)) (n o27 (n (o43 P) (n o75 e e) e) (n o59 (n o91 e e) e)))) (n (b5 P) (n (b9 P) (n (o17 P) (n o33 (n (o65 P) e e) (n o97 e e)) (n o49 (n o81 e e) e)) (n o25 (n o41 (n o73 e e) e) (n o57 (n o89 e e) e))) (n o13 (n o21 (n (o37 P) (n o69 e e) e) (n o53 (n o85 e e) e)) (n o29 (n o45 (n o77 e e) e) (n o61 (n o93 e e) e))))) (n (o2 P) (n (b4 P) (n (b8 P) (n o16 (n o32 (n o64 e e) (n o96 e e)) (n o48 (n o80 e e) e)) (n o24 (n o40 (n o72 e e) e) (n o56 (n o88 e e) e))) (n o12_2 (n o20 (n o36 (n o68 e e) (n o100 e e)) (n o52 (n o84 e e) e)) (n o28 (n o44 (n o76 e e) e) (n o60 (n o92 e e) e)))) (n (b6 P) (n (b10 P) (n o18 (n o34 (n o66 e e) (n o98 e e)) (n o50 (n o82 e e) e)) (n o26 (n o42 (n o74 e e) e) (n o58 (n o90 e e) e))) (n o14 (n o22 (n o38 (n o70 e e) e) (n o54 (n o86 e e) e)) (n (o30 P) (n o46 (n o78 e e) e) (n o62 (n o94 e e) e))))))
noncomputable def tr_m4 (P : Params) : BT := (n (b0 P) (n (b1 P) (n (o3_2 P) (n (b7 P) (n o15 (n o31_2 (n o63 e e) (n o95 e e)) (n (o47_m4 P) (n o79 e e) (n o111 e e))) (n o23 (n o39 (n o71 e e) (n o103 e e)) (n o55 (n o87 e e) e))) (n o11 (n o19 (n o35 (n o67 e e) (n o99 e e)) (n o51 (n (o83 P) e e) (n o115 e e))) (n o27 (n (o43 P) (n o75 e e) (n o107 e e)) (n o59 (n o91 e e) e)))) (n (b5 P) (n (b9 P) (n (o17 P) (n o33 (n (o65 P) e e) (n o97 e e)) (n o49 (n o81 e e) (n o113 e e))) (n o25 (n o41 (n o73 e e) (n o105 e e)) (n o57 (n o89 e e) e))) (n o13 (n o21 (n (o37 P) (n o69 e e) (n (o101 P) e e)) (n o53 (n o85 e e) (n o117 e e))) (n o29 (n o45 (n o77 e e) (n o109 e e)) (n o61 (n o93 e e) e))))) (n (o2 P) (n (b4 P) (n (b8 P) (n o16 (n o32 (n o64 e e) (n o96 e e)) (n o48 (n o80 e e) (n o112 e e))) (n o24 (n o40 (n o72 e e) (n o104 e e)) (n o56 (n o88 e e) e))) (n o12_2 (n o20 (n o36 (n o68 e e) (n o100 e e)) (n o52 (n o84 e e) (n o116 e e))) (n o28 (n o44 (n o76 e e) (n o108 e e)) (n o60 (n o92 e e) e)))) (n (b6 P) (n (b10 P) (n o18 (n o34 (n o66 e e) (n o98 e e)) (n o50 (n o82 e e) (n o114 e e))) (n o26 (n o42 (n o74 e e) (n o106 e e)) (n o58 (n o90 e e) e))) (n o14 (n o22 (n o38 (n o70 e e) (n o102 e e)) (n o54 (n o86 e e) (n o118 e e))) (n (o30 P) (n o46 (n o78 e e) (n o110 e e)) (n o62 (n o94 e e) e))))))
noncomputable def tr_m5 (P : Params) : BT := (n (b0 P) (n (b1 P) (n (o3_2 P) (n (b7 P) (n o15 (n o31_2 (n o63 (n o127 e e) e) (n o95 e e)) (n (o47_m5 P) (n o79 e e) (n o111 e e))) (n o23 (n o39 (n o71 (n o135 e e) e) (n o103 e e)) (n o55 (n o87 e e) (n (o119 P) e e)))) (n o11 (n o19 (n o35 (n o67 (n o131 e e) e) (n o99 e e)) (n o51 (n (o83 P) e e) (n o115 e e))) (n o27 (n (o43 P) (n o75 e e) (n o107 e e)) (n o59 (n o91 e e) (n o123 e e))))) (n (b5 P) (n (b9 P) (n (o17 P) (n o33 (n (o65 P) (n o129 e e) e) (n o97 e e)) (n o49 (n o81 e e) (n o113 e e))) (n o25 (n o41 (n o73 e e) (n o105 e e)) (n o57 (n o89 e e) (n o121 e e)))) (n o13 (n o21 (n (o37 P) (n o69 (n o133 e e) e) (n (o101 P) e e)) (n o53 (n o85 e e) (n o117 e e))) (n o29 (n o45 (n o77 e e) (n o109 e e)) (n o61 (n o93 e e) (n o125 e e)))))) (n (o2 P) (n (b4 P) (n (b8 P) (n o16 (n o32 (n o64 (n o128 e e) e) (n o96 e e)) (n o48 (n o80 e e) (n o112 e e))) (n o24 (n o40 (n o72 (n o136 e e) e) (n o104 e e)) (n o56 (n o88 e e) (n o120 e e)))) (n o12_2 (n o20 (n o36 (n o68 (n o132 e e) e) (n o100 e e)) (n o52 (n o84 e e) (n o116 e e))) (n o28 (n o44 (n o76 e e) (n o108 e e)) (n o60 (n o92 e e) (n o124 e e))))) (n (b6 P) (n (b10 P) (n o18 (n o34 (n o66 (n o130 e e) e) (n o98 e e)) (n o50 (n o82 e e) (n o114 e e))) (n o26 (n o42 (n o74 e e) (n o106 e e)) (n o58 (n o90 e e) (n o122 e e)))) (n o14 (n o22 (n o38 (n o70 (n o134 e e) e) (n o102 e e)) (n o54 (n o86 e e) (n o118 e e))) (n (o30 P) (n o46 (n o78 e e) (n o110 e e)) (n o62 (n o94 e e) (n o126 e e)))))))
noncomputable def tr_m6 (P : Params) : BT := (n (b0 P) (n (b1 P) (n (o3_2 P) (n (b7 P) (n o15 (n o31_2 (n o63 (n o127 e e) e) (n o95 e e)) (n (o47_m6 P) (n o79 (n o143 e e) e) (n o111 e e))) (n o23 (n o39 (n o71 (n o135 e e) e) (n o103 e e)) (n o55 (n o87 (n o151 e e) e) (n (o119 P) e e)))) (n o11 (n o19 (n o35 (n o67 (n o131 e e) e) (n o99 e e)) (n o51 (n (o83 P) (n o147 e e) e) (n o115 e e))) (n o27 (n (o43 P) (n o75 (n o139 e e) e) (n o107 e e)) (n o59 (n o91 e e) (n o123 e e))))) (n (b5 P) (n (b9 P) (n (o17 P) (n o33 (n (o65 P) (n o129 e e) e) (n o97 e e)) (n o49 (n o81 (n o145 e e) e) (n o113 e e))) (n o25 (n o41 (n o73 (n (o137 P) e e) e) (n o105 e e)) (n o57 (n o89 (n o153 e e) e) (n o121 e e)))) (n o13 (n o21 (n (o37 P) (n o69 (n o133 e e) e) (n (o101 P) e e)) (n o53 (n o85 (n o149 e e) e) (n o117 e e))) (n o29 (n o45 (n o77 (n o141 e e) e) (n o109 e e)) (n o61 (n o93 e e) (n o125 e e)))))) (n (o2 P) (n (b4 P) (n (b8 P) (n o16 (n o32 (n o64 (n o128 e e) e) (n o96 e e)) (n o48 (n o80 (n o144 e e) e) (n o112 e e))) (n o24 (n o40 (n o72 (n o136 e e) e) (n o104 e e)) (n o56 (n o88 (n o152 e e) e) (n o120 e e)))) (n o12_2 (n o20 (n o36 (n o68 (n o132 e e) e) (n o100 e e)) (n o52 (n o84 (n o148 e e) e) (n o116 e e))) (n o28 (n o44 (n o76 (n o140 e e) e) (n o108 e e)) (n o60 (n o92 e e) (n o124 e e))))) (n (b6 P) (n (b10 P) (n o18 (n o34 (n o66 (n o130 e e) e) (n o98 e e)) (n o50 (n o82 (n o146 e e) e) (n o114 e e))) (n o26 (n o42 (n o74 (n o138 e e) e) (n o106 e e)) (n o58 (n o90 (n o154 e e) e) (n o122 e e)))) (n o14 (n o22 (n o38 (n o70 (n o134 e e) e) (n o102 e e)) (n o54 (n o86 (n o150 e e) e) (n o118 e e))) (n (o30 P) (n o46 (n o78 (n o142 e e) e) (n o110 e e)) (n o62 (n o94 e e) (n o126 e e)))))))
noncomputable def tr_m7 (P : Params) : BT := (n (b0 P) (n (b1 P) (n (o3_2 P) (n (b7 P) (n o15 (n o31_2 (n o63 (n o127 e e) e) (n o95 (n o159 e e) e)) (n (o47_m7 P) (n o79 (n o143 e e) e) (n o111 e e))) (n o23 (n o39 (n o71 (n o135 e e) e) (n o103 (n o167 e e) e)) (n o55 (n o87 (n o151 e e) e) (n (o119 P) e e)))) (n o11 (n o19 (n o35 (n o67 (n o131 e e) e) (n o99 (n o163 e e) e)) (n o51 (n (o83 P) (n o147 e e) e) (n o115 e e))) (n o27 (n (o43 P) (n o75 (n o139 e e) e) (n o107 (n o171 e e) e)) (n o59 (n o91 (n (o155 P) e e) e) (n o123 e e))))) (n (b5 P) (n (b9 P) (n (o17 P) (n o33 (n (o65 P) (n o129 e e) e) (n o97 (n o161 e e) e)) (n o49 (n o81 (n o145 e e) e) (n o113 e e))) (n o25 (n o41 (n o73 (n (o137 P) e e) e) (n o105 (n o169 e e) e)) (n o57 (n o89 (n o153 e e) e) (n o121 e e)))) (n o13 (n o21 (n (o37 P) (n o69 (n o133 e e) e) (n (o101 P) (n o165 e e) e)) (n o53 (n o85 (n o149 e e) e) (n o117 e e))) (n o29 (n o45 (n o77 (n o141 e e) e) (n o109 e e)) (n o61 (n o93 (n o157 e e) e) (n o125 e e)))))) (n (o2 P) (n (b4 P) (n (b8 P) (n o16 (n o32 (n o64 (n o128 e e) e) (n o96 (n o160 e e) e)) (n o48 (n o80 (n o144 e e) e) (n o112 e e))) (n o24 (n o40 (n o72 (n o136 e e) e) (n o104 (n o168 e e) e)) (n o56 (n o88 (n o152 e e) e) (n o120 e e)))) (n o12_2 (n o20 (n o36 (n o68 (n o132 e e) e) (n o100 (n o164 e e) e)) (n o52 (n o84 (n o148 e e) e) (n o116 e e))) (n o28 (n o44 (n o76 (n o140 e e) e) (n o108 (n o172 e e) e)) (n o60 (n o92 (n o156 e e) e) (n o124 e e))))) (n (b6 P) (n (b10 P) (n o18 (n o34 (n o66 (n o130 e e) e) (n o98 (n o162 e e) e)) (n o50 (n o82 (n o146 e e) e) (n o114 e e))) (n o26 (n o42 (n o74 (n o138 e e) e) (n o106 (n o170 e e) e)) (n o58 (n o90 (n o154 e e) e) (n o122 e e)))) (n o14 (n o22 (n o38 (n o70 (n o134 e e) e) (n o102 (n o166 e e) e)) (n o54 (n o86 (n o150 e e) e) (n o118 e e))) (n (o30 P) (n o46 (n o78 (n o142 e e) e) (n o110 e e)) (n o62 (n o94 (n o158 e e) e) (n o126 e e)))))))
noncomputable def tr_3 (P : Params) : BT := (n (b0 P) (n (b1 P) (n (o3_3 P) (n (b7 P) (n o15 (n o31_2 (n o63 (n o127 e e) e) (n o95 (n o159 e e) e)) (n (o47_3 P) (n o79 (n o143 e e) e) (n o111 (n o175 e e) e))) (n o23 (n o39 (n o71 (n o135 e e) e) (n o103 (n o167 e e) e)) (n o55 (n o87 (n o151 e e) e) (n (o119 P) e e)))) (n o11 (n o19 (n o35 (n o67 (n o131 e e) e) (n o99 (n o163 e e) e)) (n o51 (n (o83 P) (n o147 e e) e) (n o115 e e))) (n o27 (n (o43 P) (n o75 (n o139 e e) e) (n o107 (n o171 e e) e)) (n o59 (n o91 (n (o155 P) e e) e) (n o123 e e))))) (n (b5 P) (n (b9 P) (n (o17 P) (n o33 (n (o65 P) (n o129 e e) e) (n o97 (n o161 e e) e)) (n o49 (n o81 (n o145 e e) e) (n o113 e e))) (n o25 (n o41 (n o73 (n (o137 P) e e) e) (n o105 (n o169 e e) e)) (n o57 (n o89 (n o153 e e) e) (n o121 e e)))) (n o13 (n o21 (n (o37 P) (n o69 (n o133 e e) e) (n (o101 P) (n o165 e e) e)) (n o53 (n o85 (n o149 e e) e) (n o117 e e))) (n o29 (n o45 (n o77 (n o141 e e) e) (n o109 (n (o173 P) e e) e)) (n o61 (n o93 (n o157 e e) e) (n o125 e e)))))) (n (o2 P) (n (b4 P) (n (b8 P) (n o16 (n o32 (n o64 (n o128 e e) e) (n o96 (n o160 e e) e)) (n o48 (n o80 (n o144 e e) e) (n o112 (n o176 e e) e))) (n o24 (n o40 (n o72 (n o136 e e) e) (n o104 (n o168 e e) e)) (n o56 (n o88 (n o152 e e) e) (n o120 e e)))) (n o12_2 (n o20 (n o36 (n o68 (n o132 e e) e) (n o100 (n o164 e e) e)) (n o52 (n o84 (n o148 e e) e) (n o116 e e))) (n o28 (n o44 (n o76 (n o140 e e) e) (n o108 (n o172 e e) e)) (n o60 (n o92 (n o156 e e) e) (n o124 e e))))) (n (b6 P) (n (b10 P) (n o18 (n o34 (n o66 (n o130 e e) e) (n o98 (n o162 e e) e)) (n o50 (n o82 (n o146 e e) e) (n o114 e e))) (n o26 (n o42 (n o74 (n o138 e e) e) (n o106 (n o170 e e) e)) (n o58 (n o90 (n o154 e e) e) (n o122 e e)))) (n o14 (n o22 (n o38 (n o70 (n o134 e e) e) (n o102 (n o166 e e) e)) (n o54 (n o86 (n o150 e e) e) (n o118 e e))) (n (o30 P) (n o46 (n o78 (n o142 e e) e) (n o110 (n o174 e e) e)) (n o62 (n o94 (n o158 e e) e) (n o126 e e)))))))
noncomputable def tr_4 (P : Params) : BT := (n (b0 P) (n (b1 P) (n (o3_4 P) (n (b7 P) (n o15 (n o31_2 (n o63 (n o127 e e) (n o191 e e)) (n o95 (n o159 e e) (n o223 e e))) (n (o47_3 P) (n o79 (n o143 e e) (n o207 e e)) (n o111 (n o175 e e) e))) (n o23 (n o39 (n o71 (n o135 e e) (n o199 e e)) (n o103 (n o167 e e) e)) (n o55 (n o87 (n o151 e e) (n o215 e e)) (n (o119 P) (n o183 e e) e)))) (n o11 (n o19 (n o35 (n o67 (n o131 e e) (n o195 e e)) (n o99 (n o163 e e) e)) (n o51 (n (o83 P) (n o147 e e) (n o211 e e)) (n o115 (n o179 e e) e))) (n o27 (n (o43 P) (n o75 (n o139 e e) (n o203 e e)) (n o107 (n o171 e e) e)) (n o59 (n o91 (n (o155 P) e e) (n o219 e e)) (n o123 (n o187 e e) e))))) (n (b5 P) (n (b9 P) (n (o17 P) (n o33 (n (o65 P) (n o129 e e) (n o193 e e)) (n o97 (n o161 e e) (n o225 e e))) (n o49 (n o81 (n o145 e e) (n o209 e e)) (n o113 (n o177 e e) e))) (n o25 (n o41 (n o73 (n (o137 P) e e) (n o201 e e)) (n o105 (n o169 e e) e)) (n o57 (n o89 (n o153 e e) (n o217 e e)) (n o121 (n o185 e e) e)))) (n o13 (n o21 (n (o37 P) (n o69 (n o133 e e) (n o197 e e)) (n (o101 P) (n o165 e e) e)) (n o53 (n o85 (n o149 e e) (n o213 e e)) (n o117 (n o181 e e) e))) (n o29 (n o45 (n o77 (n o141 e e) (n o205 e e)) (n o109 (n (o173 P) e e) e)) (n o61 (n o93 (n o157 e e) (n o221 e e)) (n o125 (n o189 e e) e)))))) (n (o2 P) (n (b4 P) (n (b8 P) (n o16 (n o32 (n o64 (n o128 e e) (n o192 e e)) (n o96 (n o160 e e) (n o224 e e))) (n o48 (n o80 (n o144 e e) (n o208 e e)) (n o112 (n o176 e e) e))) (n o24 (n o40 (n o72 (n o136 e e) (n o200 e e)) (n o104 (n o168 e e) e)) (n o56 (n o88 (n o152 e e) (n o216 e e)) (n o120 (n o184 e e) e)))) (n o12_4 (n o20 (n o36 (n o68 (n o132 e e) (n o196 e e)) (n o100 (n o164 e e) e)) (n o52 (n o84 (n o148 e e) (n o212 e e)) (n o116 (n o180 e e) e))) (n o28 (n o44 (n o76 (n o140 e e) (n o204 e e)) (n o108 (n o172 e e) e)) (n o60 (n o92 (n o156 e e) (n o220 e e)) (n o124 (n o188 e e) e))))) (n (b6 P) (n (b10 P) (n o18 (n o34 (n o66 (n o130 e e) (n o194 e e)) (n o98 (n o162 e e) e)) (n o50 (n o82 (n o146 e e) (n o210 e e)) (n o114 (n (o178 P) e e) e))) (n o26 (n o42 (n o74 (n o138 e e) (n o202 e e)) (n o106 (n o170 e e) e)) (n o58 (n o90 (n o154 e e) (n o218 e e)) (n o122 (n o186 e e) e)))) (n o14 (n o22 (n o38 (n o70 (n o134 e e) (n o198 e e)) (n o102 (n o166 e e) e)) (n o54 (n o86 (n o150 e e) (n o214 e e)) (n o118 (n o182 e e) e))) (n (o30 P) (n o46 (n o78 (n o142 e e) (n o206 e e)) (n o110 (n o174 e e) e)) (n o62 (n o94 (n o158 e e) (n o222 e e)) (n o126 (n o190 e e) e)))))))
noncomputable def tr_5 (P : Params) : BT := (n (b0 P) (n (b1 P) (n (o3_5 P) (n (b7 P) (n o15 (n o31_2 (n o63 (n o127 (n o255 e e) e) (n o191 e e)) (n o95 (n o159 (n o287 e e) e) (n o223 e e))) (n (o47_3 P) (n o79 (n o143 (n o271 e e) e) (n o207 e e)) (n o111 (n o175 e e) (n o239 e e)))) (n o23 (n o39 (n o71 (n o135 (n o263 e e) e) (n o199 e e)) (n o103 (n o167 (n o295 e e) e) (n o231 e e))) (n o55 (n o87 (n o151 (n o279 e e) e) (n o215 e e)) (n (o119 P) (n o183 e e) (n o247 e e))))) (n o11 (n o19 (n o35 (n o67 (n o131 (n o259 e e) e) (n o195 e e)) (n o99 (n o163 (n o291 e e) e) (n o227 e e))) (n o51 (n (o83 P) (n o147 (n o275 e e) e) (n o211 e e)) (n o115 (n o179 e e) (n o243 e e)))) (n o27 (n (o43 P) (n o75 (n o139 (n o267 e e) e) (n o203 e e)) (n o107 (n o171 (n o299 e e) e) (n o235 e e))) (n o59 (n o91 (n (o155 P) (n o283 e e) e) (n o219 e e)) (n o123 (n o187 e e) (n o251 e e)))))) (n (b5 P) (n (b9 P) (n (o17 P) (n o33 (n (o65 P) (n o129 (n o257 e e) e) (n o193 e e)) (n o97 (n o161 (n o289 e e) e) (n o225 e e))) (n o49 (n o81 (n o145 (n o273 e e) e) (n o209 e e)) (n o113 (n o177 e e) (n o241 e e)))) (n o25 (n o41 (n o73 (n (o137 P) (n o265 e e) e) (n o201 e e)) (n o105 (n o169 (n o297 e e) e) (n o233 e e))) (n o57 (n o89 (n o153 (n o281 e e) e) (n o217 e e)) (n o121 (n o185 e e) (n o249 e e))))) (n o13 (n o21 (n (o37 P) (n o69 (n o133 (n o261 e e) e) (n o197 e e)) (n (o101 P) (n o165 (n o293 e e) e) (n o229 e e))) (n o53 (n o85 (n o149 (n o277 e e) e) (n o213 e e)) (n o117 (n o181 e e) (n o245 e e)))) (n o29 (n o45 (n o77 (n o141 (n o269 e e) e) (n o205 e e)) (n o109 (n (o173 P) e e) (n o237 e e))) (n o61 (n o93 (n o157 (n o285 e e) e) (n o221 e e)) (n o125 (n o189 e e) (n o253 e e))))))) (n (o2 P) (n (b4 P) (n (b8 P) (n o16 (n o32 (n o64 (n o128 (n o256 e e) e) (n o192 e e)) (n o96 (n o160 (n o288 e e) e) (n o224 e e))) (n o48 (n o80 (n o144 (n o272 e e) e) (n o208 e e)) (n o112 (n o176 e e) (n o240 e e)))) (n o24 (n o40 (n o72 (n o136 (n o264 e e) e) (n o200 e e)) (n o104 (n o168 (n o296 e e) e) (n o232 e e))) (n o56 (n o88 (n o152 (n o280 e e) e) (n o216 e e)) (n o120 (n o184 e e) (n o248 e e))))) (n o12_4 (n o20 (n o36 (n o68 (n o132 (n o260 e e) e) (n o196 e e)) (n o100 (n o164 (n o292 e e) e) (n o228 e e))) (n o52 (n o84 (n o148 (n o276 e e) e) (n o212 e e)) (n o116 (n o180 e e) (n o244 e e)))) (n o28 (n o44 (n o76 (n o140 (n o268 e e) e) (n o204 e e)) (n o108 (n o172 (n o300 e e) e) (n o236 e e))) (n o60 (n o92 (n o156 (n o284 e e) e) (n o220 e e)) (n o124 (n o188 e e) (n o252 e e)))))) (n (b6 P) (n (b10 P) (n o18 (n o34 (n o66 (n o130 (n o258 e e) e) (n o194 e e)) (n o98 (n o162 (n o290 e e) e) (n o226 e e))) (n o50 (n o82 (n o146 (n o274 e e) e) (n o210 e e)) (n o114 (n (o178 P) e e) (n o242 e e)))) (n o26 (n o42 (n o74 (n o138 (n o266 e e) e) (n o202 e e)) (n o106 (n o170 (n o298 e e) e) (n o234 e e))) (n o58 (n o90 (n o154 (n o282 e e) e) (n o218 e e)) (n o122 (n o186 e e) (n o250 e e))))) (n o14 (n o22 (n o38 (n o70 (n o134 (n o262 e e) e) (n o198 e e)) (n o102 (n o166 (n o294 e e) e) (n o230 e e))) (n o54 (n o86 (n o150 (n o278 e e) e) (n o214 e e)) (n o118 (n o182 e e) (n o246 e e)))) (n (o30 P) (n o46 (n o78 (n o142 (n o270 e e) e) (n o206 e e)) (n o110 (n o174 e e) (n o238 e e))) (n o62 (n o94 (n o158 (n o286 e e) e) (n o222 e e)) (n o126 (n o190 e e) (n o254 e e))))))))
noncomputable def tr_6 (P : Params) : BT := (n (b0 P) (n (b1 P) (n (o3_6 P) (n (b7 P) (n o15 (n o31_2 (n o63 (n o127 (n o255 e e) e) (n o191 (n o319 e e) e)) (n o95 (n o159 (n o287 e e) e) (n o223 (n o351 e e) e))) (n (o47_3 P) (n o79 (n o143 (n o271 e e) e) (n o207 (n o335 e e) e)) (n o111 (n o175 (n o303 e e) e) (n o239 e e)))) (n o23 (n o39 (n o71 (n o135 (n o263 e e) e) (n o199 (n o327 e e) e)) (n o103 (n o167 (n o295 e e) e) (n o231 (n o359 e e) e))) (n o55 (n o87 (n o151 (n o279 e e) e) (n o215 (n o343 e e) e)) (n (o119 P) (n o183 (n o311 e e) e) (n o247 e e))))) (n o11 (n o19 (n o35 (n o67 (n o131 (n o259 e e) e) (n o195 (n o323 e e) e)) (n o99 (n o163 (n o291 e e) e) (n o227 (n o355 e e) e))) (n o51 (n (o83 P) (n o147 (n o275 e e) e) (n o211 (n o339 e e) e)) (n o115 (n o179 (n o307 e e) e) (n o243 e e)))) (n o27 (n (o43 P) (n o75 (n o139 (n o267 e e) e) (n o203 (n o331 e e) e)) (n o107 (n o171 (n o299 e e) e) (n o235 e e))) (n o59 (n o91 (n (o155 P) (n o283 e e) e) (n o219 (n o347 e e) e)) (n o123 (n o187 (n o315 e e) e) (n o251 e e)))))) (n (b5 P) (n (b9 P) (n (o17 P) (n o33 (n (o65 P) (n o129 (n o257 e e) e) (n o193 (n o321 e e) e)) (n o97 (n o161 (n o289 e e) e) (n o225 (n o353 e e) e))) (n o49 (n o81 (n o145 (n o273 e e) e) (n o209 (n o337 e e) e)) (n o113 (n o177 (n o305 e e) e) (n o241 e e)))) (n o25 (n o41 (n o73 (n (o137 P) (n o265 e e) e) (n o201 (n o329 e e) e)) (n o105 (n o169 (n o297 e e) e) (n o233 (n o361 e e) e))) (n o57 (n o89 (n o153 (n o281 e e) e) (n o217 (n o345 e e) e)) (n o121 (n o185 (n o313 e e) e) (n o249 e e))))) (n o13 (n o21 (n (o37 P) (n o69 (n o133 (n o261 e e) e) (n o197 (n o325 e e) e)) (n (o101 P) (n o165 (n o293 e e) e) (n o229 (n o357 e e) e))) (n o53 (n o85 (n o149 (n o277 e e) e) (n o213 (n o341 e e) e)) (n o117 (n o181 (n o309 e e) e) (n o245 e e)))) (n o29 (n o45 (n o77 (n o141 (n o269 e e) e) (n o205 (n o333 e e) e)) (n o109 (n (o173 P) (n o301 e e) e) (n o237 e e))) (n o61 (n o93 (n o157 (n o285 e e) e) (n o221 (n o349 e e) e)) (n o125 (n o189 (n o317 e e) e) (n o253 e e))))))) (n (o2 P) (n (b4 P) (n (b8 P) (n o16 (n o32 (n o64 (n o128 (n o256 e e) e) (n o192 (n o320 e e) e)) (n o96 (n o160 (n o288 e e) e) (n o224 (n o352 e e) e))) (n o48 (n o80 (n o144 (n o272 e e) e) (n o208 (n o336 e e) e)) (n o112 (n o176 (n o304 e e) e) (n o240 e e)))) (n o24 (n o40 (n o72 (n o136 (n o264 e e) e) (n o200 (n o328 e e) e)) (n o104 (n o168 (n o296 e e) e) (n o232 (n o360 e e) e))) (n o56 (n o88 (n o152 (n o280 e e) e) (n o216 (n o344 e e) e)) (n o120 (n o184 (n o312 e e) e) (n o248 e e))))) (n o12_6 (n o20 (n o36 (n o68 (n o132 (n o260 e e) e) (n o196 (n o324 e e) e)) (n o100 (n o164 (n o292 e e) e) (n o228 (n o356 e e) e))) (n o52 (n o84 (n o148 (n o276 e e) e) (n o212 (n o340 e e) e)) (n o116 (n o180 (n o308 e e) e) (n o244 e e)))) (n o28 (n o44 (n o76 (n o140 (n o268 e e) e) (n o204 (n o332 e e) e)) (n o108 (n o172 (n o300 e e) e) (n o236 e e))) (n o60 (n o92 (n o156 (n o284 e e) e) (n o220 (n o348 e e) e)) (n o124 (n o188 (n o316 e e) e) (n o252 e e)))))) (n (b6 P) (n (b10 P) (n o18 (n o34 (n o66 (n o130 (n o258 e e) e) (n o194 (n o322 e e) e)) (n o98 (n o162 (n o290 e e) e) (n o226 (n o354 e e) e))) (n o50 (n o82 (n o146 (n o274 e e) e) (n o210 (n o338 e e) e)) (n o114 (n (o178 P) (n o306 e e) e) (n o242 e e)))) (n o26 (n o42 (n o74 (n o138 (n o266 e e) e) (n o202 (n o330 e e) e)) (n o106 (n o170 (n o298 e e) e) (n o234 (n o362 e e) e))) (n o58 (n o90 (n o154 (n o282 e e) e) (n o218 (n o346 e e) e)) (n o122 (n o186 (n o314 e e) e) (n o250 e e))))) (n o14 (n o22 (n o38 (n o70 (n o134 (n o262 e e) e) (n o198 (n o326 e e) e)) (n o102 (n o166 (n o294 e e) e) (n o230 (n o358 e e) e))) (n o54 (n o86 (n o150 (n o278 e e) e) (n o214 (n o342 e e) e)) (n o118 (n o182 (n o310 e e) e) (n o246 e e)))) (n (o30 P) (n o46 (n o78 (n o142 (n o270 e e) e) (n o206 (n o334 e e) e)) (n o110 (n o174 (n o302 e e) e) (n o238 e e))) (n o62 (n o94 (n o158 (n o286 e e) e) (n o222 (n o350 e e) e)) (n o126 (n o190 (n o318 e e) e) (n o254 e e))))))))
noncomputable def KQ (P : Params) : Frag := [(2, (o2 P)), (3, (o3_6 P)), (15, o15), (22, o22), (24, o24), (25, o25), (27, o27), (28, o28), (29, o29), (30, (o30 P)), (31, o31_2), (32, o32), (35, o35), (42, o42), (43, (o43 P)), (44, o44), (47, (o47_3 P)), (48, o48), (49, o49), (50, o50), (51, o51), (52, o52), (53, o53), (54, o54), (55, o55), (56, o56), (57, o57), (58, o58), (59, o59), (60, o60), (61, o61), (62, o62), (63, o63), (64, o64), (66, o66), (67, o67), (68, o68), (69, o69), (70, o70), (71, o71), (72, o72), (73, o73), (74, o74), (75, o75), (76, o76), (77, o77), (78, o78), (79, o79), (80, o80), (81, o81), (82, o82), (84, o84), (85, o85), (86, o86), (87, o87), (88, o88), (89, o89), (90, o90), (91, o91), (92, o92), (93, o93), (94, o94), (95, o95), (96, o96), (97, o97), (98, o98), (99, o99), (100, o100), (102, o102), (103, o103), (104, o104), (105, o105), (106, o106), (107, o107), (108, o108), (109, o109), (110, o110), (111, o111), (112, o112), (113, o113), (114, o114), (115, o115), (116, o116), (117, o117), (118, o118), (120, o120), (121, o121), (122, o122), (123, o123), (124, o124), (125, o125), (126, o126), (127, o127), (128, o128), (129, o129), (130, o130), (131, o131), (132, o132), (133, o133), (134, o134), (135, o135), (136, o136), (138, o138), (139, o139), (140, o140), (141, o141), (142, o142), (143, o143), (144, o144), (145, o145), (146, o146), (147, o147), (148, o148), (149, o149), (150, o150), (151, o151), (152, o152), (153, o153), (154, o154), (156, o156), (157, o157), (158, o158), (159, o159), (160, o160), (161, o161), (162, o162), (163, o163), (164, o164), (165, o165), (166, o166), (167, o167), (168, o168), (169, o169), (170, o170), (171, o171), (172, o172), (174, o174), (175, o175), (176, o176), (177, o177), (178, (o178 P)), (179, o179), (181, o181), (182, o182), (184, o184), (185, o185), (186, o186), (188, o188), (189, o189), (191, o191), (192, o192), (193, o193), (196, o196), (197, o197), (198, o198), (200, o200), (201, o201), (203, o203), (204, o204), (205, o205), (207, o207), (208, o208), (210, o210), (211, o211), (212, o212), (214, o214), (215, o215), (217, o217), (218, o218), (219, o219), (221, o221), (222, o222), (224, o224), (225, o225), (226, o226), (227, o227), (228, o228), (229, o229), (230, o230), (231, o231), (232, o232), (233, o233), (234, o234), (235, o235), (236, o236), (237, o237), (238, o238), (239, o239), (240, o240), (241, o241), (242, o242), (243, o243), (244, o244), (245, o245), (246, o246), (247, o247), (248, o248), (249, o249), (250, o250), (251, o251), (252, o252), (253, o253), (254, o254), (255, o255), (256, o256), (257, o257), (258, o258), (259, o259), (260, o260), (261, o261), (262, o262), (263, o263), (264, o264), (265, o265), (266, o266), (267, o267), (268, o268), (269, o269), (270, o270), (271, o271), (272, o272), (273, o273), (274, o274), (275, o275), (276, o276), (277, o277), (278, o278), (279, o279), (280, o280), (281, o281), (282, o282), (283, o283), (284, o284), (285, o285), (286, o286), (287, o287), (288, o288), (289, o289), (290, o290), (291, o291), (292, o292), (293, o293), (294, o294), (295, o295), (296, o296), (297, o297), (298, o298), (299, o299), (300, o300), (301, o301), (303, o303), (304, o304), (306, o306), (307, o307), (308, o308), (310, o310), (311, o311), (313, o313), (314, o314), (315, o315), (317, o317), (318, o318), (320, o320), (321, o321), (322, o322), (325, o325), (326, o326), (327, o327), (330, o330), (331, o331), (332, o332), (334, o334), (335, o335), (337, o337), (338, o338), (339, o339), (342, o342), (343, o343), (344, o344), (346, o346), (347, o347), (349, o349), (350, o350), (351, o351), (354, o354), (355, o355), (356, o356), (358, o358), (359, o359), (361, o361), (362, o362)]
noncomputable def HQ (P : Params) : Heap := ⟨[(b0 P), (b1 P), (o2 P), (o3_6 P), (b4 P), (b5 P), (b6 P), (b7 P), (b8 P), (b9 P), (b10 P), o11, o12_6, o13, o14, o15, o16, (o17 P), o18, o19, o20, o21, o22, o23, o24, o25, o26, o27, o28, o29, (o30 P), o31_2, o32, o33, o34, o35, o36, (o37 P), o38, o39, o40, o41, o42, (o43 P), o44, o45, o46, (o47_3 P), o48, o49, o50, o51, o52, o53, o54, o55, o56, o57, o58, o59, o60, o61, o62, o63, o64, (o65 P), o66, o67, o68, o69, o70, o71, o72, o73, o74, o75, o76, o77, o78, o79, o80, o81, o82, (o83 P), o84, o85, o86, o87, o88, o89, o90, o91, o92, o93, o94, o95, o96, o97, o98, o99, o100, (o101 P), o102, o103, o104, o105, o106, o107, o108, o109, o110, o111, o112, o113, o114, o115, o116, o117, o118, (o119 P), o120, o121, o122, o123, o124, o125, o126, o127, o128, o129, o130, o131, o132, o133, o134, o135, o136, (o137 P), o138, o139, o140, o141, o142, o143, o144, o145, o146, o147, o148, o149, o150, o151, o152, o153, o154, (o155 P), o156, o157, o158, o159, o160, o161, o162, o163, o164, o165, o166, o167, o168, o169, o170, o171, o172, (o173 P), o174, o175, o176, o177, (o178 P), o179, o180, o181, o182, o183, o184, o185, o186, o187, o188, o189, o190, o191, o192, o193, o194, o195, o196, o197, o198, o199, o200, o201, o202, o203, o204, o205, o206, o207, o208, o209, o210, o211, o212, o213, o214, o215, o216, o217, o218, o219, o220, o221, o222, o223, o224, o225, o226, o227, o228, o229, o230, o231, o232, o233, o234, o235, o236, o237, o238, o239, o240, o241, o242, o243, o244, o245, o246, o247, o248, o249, o250, o251, o252, o253, o254, o255, o256, o257, o258, o259, o260, o261, o262, o263, o264, o265, o266, o267, o268, o269, o270, o271, o272, o273, o274, o275, o276, o277, o278, o279, o280, o281, o282, o283, o284, o285, o286, o287, o288, o289, o290, o291, o292, o293, o294, o295, o296, o297, o298, o299, o300, o301, o302, o303, o304, o305, o306, o307, o308, o309, o310, o311, o312, o313, o314, o315, o316, o317, o318, o319, o320, o321, o322, o323, o324, o325, o326, o327, o328, o329, o330, o331, o332, o333, o334, o335, o336, o337, o338, o339, o340, o341, o342, o343, o344, o345, o346, o347, o348, o349, o350, o351, o352, o353, o354, o355, o356, o357, o358, o359, o360, o361, o362].toArray, {}⟩
noncomputable def aQ : List Addr := [2, 3, 15, 22, 24, 25, 27, 28, 29, 30, 31, 32, 35, 42, 43, 44, 47, 48, 49, 50, 51, 52, 53, 54, 55, 56, 57, 58, 59, 60, 61, 62, 63, 64, 66, 67, 68, 69, 70, 71, 72, 73, 74, 75, 76, 77, 78, 79, 80, 81, 82, 84, 85, 86, 87, 88, 89, 90, 91, 92, 93, 94, 95, 96, 97, 98, 99, 100, 102, 103, 104, 105, 106, 107, 108, 109, 110, 111, 112, 113, 114, 115, 116, 117, 118, 120, 121, 122, 123, 124, 125, 126, 127, 128, 129, 130, 131, 132, 133, 134, 135, 136, 138, 139, 140, 141, 142, 143, 144, 145, 146, 147, 148, 149, 150, 151, 152, 153, 154, 156, 157, 158, 159, 160, 161, 162, 163, 164, 165, 166, 167, 168, 169, 170, 171, 172, 174, 175, 176, 177, 178, 179, 181, 182, 184, 185, 186, 188, 189, 191, 192, 193, 196, 197, 198, 200, 201, 203, 204, 205, 207, 208, 210, 211, 212, 214, 215, 217, 218, 219, 221, 222, 224, 225, 226, 227, 228, 229, 230, 231, 232, 233, 234, 235, 236, 237, 238, 239, 240, 241, 242, 243, 244, 245, 246, 247, 248, 249, 250, 251, 252, 253, 254, 255, 256, 257, 258, 259, 260, 261, 262, 263, 264, 265, 266, 267, 268, 269, 270, 271, 272, 273, 274, 275, 276, 277, 278, 279, 280, 281, 282, 283, 284, 285, 286, 287, 288, 289, 290, 291, 292, 293, 294, 295, 296, 297, 298, 299, 300, 301, 303, 304, 306, 307, 308, 310, 311, 313, 314, 315, 317, 318, 320, 321, 322, 325, 326, 327, 330, 331, 332, 334, 335, 337, 338, 339, 342, 343, 344, 346, 347, 349, 350, 351, 354, 355, 356, 358, 359, 361, 362]
end Mine.Q
end

section
namespace Mine.Q
open PySem PySem.W PyProof.Rows
noncomputable def env : Env := { scope := pw.main.scope, locals := mainNs, globals := mainNs, cells := [], code := .ref 13, frame := some 14 }
noncomputable abbrev q0 : Pos := ⟨0, 0, 0, 0⟩
noncomputable abbrev BB : List Frame := [topFrame q0]
noncomputable abbrev stT (t : BT) (n k : Nat) (os : OsState) : SharedT := ⟨t, n, {}, .mk [], {}, k, os⟩
noncomputable def cc : Code := .body (behindTheImports pw) env
/-- a stretch of the top: what a tree does till it is done -/
noncomputable abbrev sg {α : Type} (res : α → Flow) (p : Program) (w : World) (k : Nat) (S : SharedT) (x : Sem α) (c : Code) (q : Pos) :=
  segRunT treeTable p w 11 (some (.ref 6)) 1 k S ⟨x.wrap (fun a => .pure (.done (res a))) deadEnd id id, c, q, BB⟩
/-- the same over the library's twins -/
noncomputable def sgT {α : Type} (res : α → Flow) (p : Program) (w : World) (k : Nat) (S : SharedT) (x : Sem α) (c : Code) (q : Pos) :=
  PySem.W.Fast.tw10110043849684766642 PySem.W.Fast.tw14364793385576792824 p w 11 (some (.ref 6)) 1 k S ⟨x.wrap (fun a => .pure (.done (res a))) deadEnd id id, c, q, BB⟩
theorem sg_eq {α : Type} (res : α → Flow) (p : Program) (w : World) (k : Nat) (S : SharedT) (x : Sem α) (c : Code) (q : Pos) : sg res p w k S x c q = sgT res p w k S x c q := by
  unfold sgT
  rw [← PySem.W.Fast.te10110043849684766642, ← PySem.W.Fast.te14364793385576792824]
noncomputable abbrev exT := PySem.W.Fast.tw12563942051412417395
theorem ex_eq : execs = exT := PySem.W.Fast.te12563942051412417395
noncomputable abbrev gen (p : Program) (w : World) (k : Nat) (S : SharedT) (l : List Stmt) (env : Env) (c : Code) (pos : Pos) := sg id p w k S (execs l env) c pos
noncomputable abbrev genT (p : Program) (w : World) (k : Nat) (S : SharedT) (l : List Stmt) (env : Env) (c : Code) (pos : Pos) := sgT id p w k S (exT l env) c pos
theorem gen_eq (p : Program) (w : World) (k : Nat) (S : SharedT) (l : List Stmt) (env : Env) (c : Code) (pos : Pos) : gen p w k S l env c pos = genT p w k S l env c pos := by
  show sg id p w k S (execs l env) c pos = _
  rw [ex_eq, sg_eq]
theorem p1 (w : World) (os : OsState) : gen pw w 238 (stT (tr_b w.params) 15 187 os) (pw.main.body.take 2) env cc q0 =
    some (.next, stT (tr_1 w.params) 35 218 os, cc, ⟨2, 0, 6, 24⟩) := by
  rw [gen_eq]
  kernel_rfl

end Mine.Q
end

section
namespace Mine.Q
open PySem PySem.W PyProof.Rows
theorem p2 (w : World) (os : OsState) : gen pw w 232 (stT (tr_1 w.params) 35 218 os) ((pw.main.body.drop 2).take 3) env cc ⟨2, 0, 6, 24⟩ =
    some (.next, stT (tr_2 w.params) 47 238 os, cc, ⟨10, 0, 10, 4⟩) := by
  rw [gen_eq]
  kernel_rfl
theorem p4 (w : World) (os : OsState) : gen pw w 318 (stT (tr_3 w.params) 177 849 os) ((pw.main.body.drop 6).take 10) env cc ⟨11, 0, 11, 6⟩ =
    some (.next, stT (tr_4 w.params) 226 937 os, cc, ⟨64, 0, 64, 8⟩) := by
  rw [gen_eq]
  revert w
  refine fun w => byRow2 "special-get-raises" (P := fun w => genT pw w 318 (stT (tr_3 w.params) 177 849 os) ((pw.main.body.drop 6).take 10) env cc ⟨11, 0, 11, 6⟩ =
    some (.next, stT (tr_4 w.params) 226 937 os, cc, ⟨64, 0, 64, 8⟩)) (fun w => ?_) (fun w => ?_) w
  · kernel_rfl
  · kernel_rfl
theorem p5 (w : World) (os : OsState) : gen pw w 321 (stT (tr_4 w.params) 226 937 os) ((pw.main.body.drop 16).take 1) env cc ⟨64, 0, 64, 8⟩ =
    some (.next, stT (tr_5 w.params) 301 1100 os, cc, ⟨65, 0, 65, 9⟩) := by
  rw [gen_eq]
  kernel_rfl
theorem p6 (w : World) (os : OsState) : gen pw w 296 (stT (tr_5 w.params) 301 1100 os) ((pw.main.body.drop 17).take 10) env cc ⟨65, 0, 65, 9⟩ =
    some (.next, stT (tr_6 w.params) 363 1183 os, cc, ⟨130, 0, 138, 15⟩) := by
  rw [gen_eq]
  kernel_rfl

end Mine.Q
end

section
namespace Mine.Q
open PySem PySem.W PyProof.Rows
noncomputable def allQ {α : Type} (as : Array α) (p : α → Bool) (start stop : Nat) : Bool :=
  @Bool.rec (fun _ => Bool) (Array.all as p start stop) (as.toList.all p) (Nat.beq start 0 && Nat.beq stop as.size)
theorem all_eq : @Array.all.{0} = @allQ := by
  funext α as p start stop
  unfold allQ
  cases h : Nat.beq start 0 && Nat.beq stop as.size with
  | false => rfl
  | true =>
    obtain ⟨h1, h2⟩ := Bool.and_eq_true_iff.mp h
    cases Nat.eq_of_beq_eq_true h1
    cases Nat.eq_of_beq_eq_true h2
    show as.all p 0 as.size = as.toList.all p
    rw [Array.all_toList]
noncomputable def fiQ {α : Type} (p : α → Bool) (as : Array α) : Option Nat := as.toList.findIdx? p
theorem fidx_eq : @Array.findIdx?.{0} = @fiQ := by
  funext α p as
  show as.findIdx? p = as.toList.findIdx? p
  cases as
  simp
noncomputable def fbQ : {f // PySem.W.Fast.tw16073574877836486461 = f} := ⟨_, by delta PySem.W.Fast.tw16073574877836486461; rw [fidx_eq]⟩
noncomputable def dfQ : {f // PySem.W.Fast.tw7228091826238408665 = f} := ⟨_, by delta PySem.W.Fast.tw7228091826238408665; rw [all_eq, fbQ.2]⟩
noncomputable def dpQ : {f // PySem.W.Fast.tw9652029157277244616 = f} := ⟨_, by delta PySem.W.Fast.tw9652029157277244616; rw [dfQ.2]⟩
noncomputable def mmQ : {f // PySem.W.Fast.tw8596071696976842438 = f} := ⟨_, by delta PySem.W.Fast.tw8596071696976842438; rw [dpQ.2]⟩

end Mine.Q
end

section
namespace Mine.Q
open PySem PySem.W PyProof.Rows
noncomputable abbrev XI := Option (Sem Value) × Sem Value
noncomputable abbrev SS := Option Addr × List (Sem Value × Sem Value)
noncomputable abbrev TM : Monad Sem := PySem.W.Fast.tw12456147031677567982
theorem TM_eq : PySem.Sem.instMonad = TM := PySem.W.Fast.te12456147031677567982
noncomputable abbrev fi (M : Monad Sem) (items : List XI) (F : XI → SS → Sem (ForInStep SS)) (G : SS → Sem Value) : Sem Value :=
  letI := M; (forIn items ((none, []) : SS) F) >>= G
noncomputable def dFG : {fg : (XI → SS → Sem (ForInStep SS)) × (SS → Sem Value) // ∀ items : List XI, PySem.W.Fast.tw11216187645035866516 items = fi TM items fg.1 fg.2} :=
  ⟨(_, _), fun items => by
    delta PySem.W.Fast.tw11216187645035866516
    rw [mmQ.2]⟩
noncomputable abbrev fj (items : List XI) (F : XI → SS → Sem (ForInStep SS)) (G : SS → Sem Value) : Sem Value := (forIn items ((none, []) : SS) F).bind G
theorem fi_eq (M : Monad Sem) (hM : PySem.Sem.instMonad = M) (items : List XI) (F : XI → SS → Sem (ForInStep SS)) (G : SS → Sem Value) : fi M items F G = fj items F G := by
  subst hM; rfl
theorem dd_eq (items : List XI) : dictDisplay items = (forIn items ((none, []) : SS) dFG.1.1).bind dFG.1.2 := by
  rw [PySem.W.Fast.te11216187645035866516, dFG.2]
  exact fi_eq TM TM_eq _ _ _
/-- some turns of the display's loop (over the twin of bind) -/
noncomputable def lp (F : XI → SS → Sem (ForInStep SS)) (l : List XI) : SS → Sem (ForInStep SS) :=
  @List.rec XI (fun _ => SS → Sem (ForInStep SS)) (fun st => .pure (.yield st)) (fun x _ ih st => PySem.W.R.bindR (F x st) fun a => @ForInStep.rec SS (fun _ => Sem (ForInStep SS)) (fun b => .pure (.done b)) (fun st' => ih st') a) l
noncomputable def lk (F : XI → SS → Sem (ForInStep SS)) (r : List XI) : ForInStep SS → Sem SS := fun a => @ForInStep.rec SS (fun _ => Sem SS) (fun b => .pure b) (fun st' => forIn r st' F) a
noncomputable abbrev lj (F : XI → SS → Sem (ForInStep SS)) (l : List XI) : ForInStep SS → Sem (ForInStep SS) := fun a => @ForInStep.rec SS (fun _ => Sem (ForInStep SS)) (fun b => .pure (.done b)) (fun st' => lp F l st') a
theorem lp_cons (F : XI → SS → Sem (ForInStep SS)) (x : XI) (l : List XI) (st : SS) : lp F (x :: l) st = (F x st).bind (lj F l) := by
  show PySem.W.R.bindR (F x st) (lj F l) = _
  rw [← PySem.W.R.bindR_eq]
theorem lp_app (F : XI → SS → Sem (ForInStep SS)) (l r : List XI) : ∀ st : SS, forIn (l ++ r) st F = (lp F l st).bind (lk F r) := by
  induction l with
  | nil => intro st; rfl
  | cons x l ih =>
    intro st
    show forIn (x :: (l ++ r)) st F = _
    rw [lp_cons, List.forIn_cons, Sem.bind_assoc]
    show (F x st).bind _ = _
    congr 1
    funext a
    cases a with
    | done b => rfl
    | yield b => exact ih b
theorem lift {α β : Type} (x : Sem α) (f : α → Sem β) (K : β → Sem Fin) (H : Value → Sem Fin) : (x.bind f).wrap K H id id = x.wrap (fun a => (f a).wrap K H id id) H id id := by
  rw [Sem.bind_eq_wrap, Sem.wrap_wrap]; rfl
theorem part {α : Type} {p : Program} {w : World} {x : Sem α} {K' : α → Sem Fin} {H' : Value → Sem Fin} {res : α → Flow} {n N : Nat} {s s' : SharedT} {c c' : Code} {q q' : Pos} {fl : Flow} {a₀ : α} {r : Shared}
    (h : segRunT treeTable p w 11 (some (.ref 6)) 1 n s ⟨x.wrap (fun a => .pure (.done (res a))) deadEnd id id, c, q, BB⟩ = some (fl, s', c', q'))
    (inj : ∀ a, res a = fl → a = a₀) (k : topRun treeTable p w 11 (some (.ref 6)) N s'.abs ⟨K' a₀, c', q', BB⟩ = some r) :
    topRun treeTable p w 11 (some (.ref 6)) (n + N) s.abs ⟨x.wrap K' H' id id, c, q, BB⟩ = some r := by
  obtain ⟨a, ha, hN⟩ := seg_top (B := BB) (res := res) (K' := K') (H' := H') (gd := id) (lv := id) rfl n s.abs ⟨x.wrap (fun a => .pure (.done (res a))) deadEnd id id, c, q, BB⟩ ⟨x.wrap K' H' id id, c, q, BB⟩ _ _ _ _ ⟨rfl, rfl, .inl ⟨rfl, rfl, x, rfl, rfl⟩⟩ (segRun_of h)
  obtain rfl := inj a ha
  exact hN N r k
noncomputable def items (ks : List (Option Expr)) (vs : List Expr) (dp : Pos) (env : Env) : List XI := (evalEachOpt ks env).zip ((evalEach vs env).map fun v => do let x ← v; standAt dp; pure x)
/-- the same over the library's twins, where every key is written -/
noncomputable def itemsT (ks vs : List Expr) (dp : Pos) (env : Env) : List XI :=
  (ks.map fun k => some (PySem.W.Fast.tw14044960220447912780 k env)).zip ((PySem.W.Fast.tw10458482166411082596 vs env).map fun v => letI := TM; do let x ← v; standAt dp; pure x)
theorem evalEachOpt_some (env : Env) : ∀ ks : List Expr, evalEachOpt (ks.map some) env = ks.map fun k => some (eval k env) := by
  intro ks
  induction ks with
  | nil => rfl
  | cons k ks ih =>
    show some (eval k env) :: evalEachOpt (ks.map some) env = _
    rw [ih]; rfl
noncomputable abbrev turn (M : Monad Sem) (dp : Pos) (v : Sem Value) : Sem Value := letI := M; do let x ← v; standAt dp; pure x
theorem turn_eq (M : Monad Sem) (hM : PySem.Sem.instMonad = M) (dp : Pos) : turn PySem.Sem.instMonad dp = turn M dp := by subst hM; rfl
theorem items_eq (ks vs : List Expr) (dp : Pos) (env : Env) : items (ks.map some) vs dp env = itemsT ks vs dp env := by
  show (evalEachOpt (ks.map some) env).zip ((evalEach vs env).map (turn PySem.Sem.instMonad dp)) = _
  rw [evalEachOpt_some, turn_eq TM TM_eq, PySem.W.Fast.te14044960220447912780, PySem.W.Fast.te10458482166411082596]
  rfl
noncomputable def resL (a : ForInStep SS) : Flow := @ForInStep.rec SS (fun _ => Flow) (fun _ => .brk) (fun st => @Option.rec Addr (fun _ => Flow) .brk (fun d => @List.rec (Sem Value × Sem Value) (fun _ => Flow) (.ret (.ref d)) (fun _ _ _ => .brk) st.2) st.1) a
theorem resL_inj (a : ForInStep SS) (d : Addr) (h : resL a = .ret (.ref d)) : a = .yield (some d, []) := by
  cases a with
  | done b => cases h
  | yield st =>
    obtain ⟨o, l⟩ := st
    cases o with
    | none => cases h
    | some x =>
      cases l with
      | nil => cases h; rfl
      | cons y l => cases h
noncomputable abbrev gL (F : XI → SS → Sem (ForInStep SS)) (p : Program) (w : World) (k : Nat) (S : SharedT) (ks vs : List Expr) (dp : Pos) (env : Env) (st : SS) (c : Code) (q : Pos) :=
  sg resL p w k S (lp F (items (ks.map some) vs dp env) st) c q
noncomputable abbrev gLT (F : XI → SS → Sem (ForInStep SS)) (p : Program) (w : World) (k : Nat) (S : SharedT) (ks vs : List Expr) (dp : Pos) (env : Env) (st : SS) (c : Code) (q : Pos) :=
  sgT resL p w k S (lp F (itemsT ks vs dp env) st) c q
theorem gL_eq (F : XI → SS → Sem (ForInStep SS)) (p : Program) (w : World) (k : Nat) (S : SharedT) (ks vs : List Expr) (dp : Pos) (env : Env) (st : SS) (c : Code) (q : Pos) :
    gL F p w k S ks vs dp env st c q = gLT F p w k S ks vs dp env st c q := by
  show sg resL p w k S (lp F (items (ks.map some) vs dp env) st) c q = _
  rw [items_eq, sg_eq]
noncomputable abbrev lq (F : XI → SS → Sem (ForInStep SS)) (G : SS → Sem Value) (l : List XI) (st : SS) : Sem Value := (forIn l st F).bind G
noncomputable abbrev lqM (M : Monad Sem) (F : XI → SS → Sem (ForInStep SS)) (G : SS → Sem Value) (l : List XI) (st : SS) : Sem Value := letI := M; PySem.W.R.bindR (forIn l st F) G
theorem lq_eq (M : Monad Sem) (hM : PySem.Sem.instMonad = M) (F : XI → SS → Sem (ForInStep SS)) (G : SS → Sem Value) (l : List XI) (st : SS) : lq F G l st = lqM M F G l st := by
  subst hM
  show (forIn l st F).bind G = PySem.W.R.bindR (forIn l st F) G
  rw [← PySem.W.R.bindR_eq]
noncomputable abbrev gE (F : XI → SS → Sem (ForInStep SS)) (G : SS → Sem Value) (p : Program) (w : World) (k : Nat) (S : SharedT) (ks vs : List Expr) (dp : Pos) (env : Env) (st : SS) (c : Code) (q : Pos) :=
  sg Flow.ret p w k S (lq F G (items (ks.map some) vs dp env) st) c q
noncomputable abbrev gET (F : XI → SS → Sem (ForInStep SS)) (G : SS → Sem Value) (p : Program) (w : World) (k : Nat) (S : SharedT) (ks vs : List Expr) (dp : Pos) (env : Env) (st : SS) (c : Code) (q : Pos) :=
  sgT Flow.ret p w k S (lqM TM F G (itemsT ks vs dp env) st) c q
theorem gE_eq (F : XI → SS → Sem (ForInStep SS)) (G : SS → Sem Value) (p : Program) (w : World) (k : Nat) (S : SharedT) (ks vs : List Expr) (dp : Pos) (env : Env) (st : SS) (c : Code) (q : Pos) :
    gE F G p w k S ks vs dp env st c q = gET F G p w k S ks vs dp env st c q := by
  show sg Flow.ret p w k S (lq F G (items (ks.map some) vs dp env) st) c q = _
  rw [items_eq, lq_eq TM TM_eq, sg_eq]
noncomputable abbrev gA (p : Program) (w : World) (k : Nat) (S : SharedT) (q1 q2 : Pos) (c : Code) (q : Pos) :=
  sg (fun _ : Unit => Flow.next) p w k S ((standAt q1).bind fun _ => standAt q2) c q
theorem gA_eq (p : Program) (w : World) (k : Nat) (S : SharedT) (q1 q2 : Pos) (c : Code) (q : Pos) : gA p w k S q1 q2 c q = sgT (fun _ : Unit => Flow.next) p w k S (PySem.W.R.bindR (standAt q1) fun _ => standAt q2) c q := by
  show sg (fun _ : Unit => Flow.next) p w k S ((standAt q1).bind fun _ => standAt q2) c q = _
  rw [sg_eq, PySem.W.R.bindR_eq]
noncomputable abbrev gY (p : Program) (w : World) (k : Nat) (S : SharedT) (q1 : Pos) (env : Env) (x : Str) (v : Value) (c : Code) (q : Pos) :=
  sg id p w k S ((standAt q1).bind fun _ => (bindName env x v).bind fun _ => .pure Flow.next) c q
noncomputable abbrev gYT (p : Program) (w : World) (k : Nat) (S : SharedT) (q1 : Pos) (env : Env) (x : Str) (v : Value) (c : Code) (q : Pos) :=
  sgT id p w k S (PySem.W.R.bindR (standAt q1) fun _ => PySem.W.R.bindR (PySem.W.Fast.tw7536695828754713326 env x v) fun _ => .pure Flow.next) c q
theorem gY_eq (p : Program) (w : World) (k : Nat) (S : SharedT) (q1 : Pos) (env : Env) (x : Str) (v : Value) (c : Code) (q : Pos) : gY p w k S q1 env x v c q = gYT p w k S q1 env x v c q := by
  show sg id p w k S ((standAt q1).bind fun _ => (bindName env x v).bind fun _ => .pure Flow.next) c q = _
  rw [sg_eq, PySem.W.R.bindR_eq, PySem.W.Fast.te7536695828754713326]
noncomputable def stD : Stmt := stK 5
noncomputable def dV (v : Expr) : List (Option Expr) × List Expr := match v with
  | .Dict ks vs _ => (ks, vs)
  | _ => ([], [])
noncomputable def dKV (s : Stmt) : List (Option Expr) × List Expr := match s with
  | .Assign (value := v) .. => dV v
  | _ => ([], [])
noncomputable abbrev dpos : Pos := ⟨11, 9, 11, 2777⟩
noncomputable def keysL (l : List (Option Expr)) : List Expr := @List.rec (Option Expr) (fun _ => List Expr) [] (fun x _ ih => @Option.rec Expr (fun _ => List Expr) ih (fun e => e :: ih) x) l
noncomputable def kys (a k : Nat) : List Expr := keysL (((dKV stD).1.drop a).take k)
noncomputable def vls (a k : Nat) := ((dKV stD).2.drop a).take k

end Mine.Q
end

section
namespace Mine.Q
open PySem PySem.W PyProof.Rows
noncomputable abbrev dF := dFG.1.1
noncomputable abbrev dG := dFG.1.2
theorem pA (w : World) (os : OsState) : gA pw w 3 (stT (tr_2 w.params) 47 238 os) ⟨11, 0, 11, 2777⟩ dpos cc ⟨10, 0, 10, 4⟩ =
    some (.next, stT (tr_2 w.params) 47 238 os, cc, dpos) := by
  rw [gA_eq]
  kernel_rfl
theorem pm0 (w : World) (os : OsState) : gL dF pw w 326 (stT (tr_2 w.params) 47 238 os) (kys 0 17) (vls 0 17) dpos env (none, []) cc dpos =
    some (.ret (.ref 47), (stT (tr_m1 w.params) 65 323 os), cc, dpos) := by
  rw [gL_eq]
  revert w
  refine fun w => byRow2 "special-get-raises" (P := fun w => gLT dF pw w 326 (stT (tr_2 w.params) 47 238 os) (kys 0 17) (vls 0 17) dpos env (none, []) cc dpos = some (.ret (.ref 47), (stT (tr_m1 w.params) 65 323 os), cc, dpos)) (fun w => ?_) (fun w => ?_) w
  · kernel_rfl
  · kernel_rfl
theorem pm1 (w : World) (os : OsState) : gL dF pw w 433 (stT (tr_m1 w.params) 65 323 os) (kys 17 17) (vls 17 17) dpos env (some 47, []) cc dpos =
    some (.ret (.ref 47), (stT (tr_m2 w.params) 83 408 os), cc, dpos) := by
  rw [gL_eq]
  revert w
  refine fun w => byRow2 "special-get-raises" (P := fun w => gLT dF pw w 433 (stT (tr_m1 w.params) 65 323 os) (kys 17 17) (vls 17 17) dpos env (some 47, []) cc dpos = some (.ret (.ref 47), (stT (tr_m2 w.params) 83 408 os), cc, dpos)) (fun w => ?_) (fun w => ?_) w
  · kernel_rfl
  · kernel_rfl
theorem pm2 (w : World) (os : OsState) : gL dF pw w 433 (stT (tr_m2 w.params) 83 408 os) (kys 34 17) (vls 34 17) dpos env (some 47, []) cc dpos =
    some (.ret (.ref 47), (stT (tr_m3 w.params) 101 493 os), cc, dpos) := by
  rw [gL_eq]
  revert w
  refine fun w => byRow2 "special-get-raises" (P := fun w => gLT dF pw w 433 (stT (tr_m2 w.params) 83 408 os) (kys 34 17) (vls 34 17) dpos env (some 47, []) cc dpos = some (.ret (.ref 47), (stT (tr_m3 w.params) 101 493 os), cc, dpos)) (fun w => ?_) (fun w => ?_) w
  · kernel_rfl
  · kernel_rfl
theorem pm3 (w : World) (os : OsState) : gL dF pw w 433 (stT (tr_m3 w.params) 101 493 os) (kys 51 17) (vls 51 17) dpos env (some 47, []) cc dpos =
    some (.ret (.ref 47), (stT (tr_m4 w.params) 119 578 os), cc, dpos) := by
  rw [gL_eq]
  revert w
  refine fun w => byRow2 "special-get-raises" (P := fun w => gLT dF pw w 433 (stT (tr_m3 w.params) 101 493 os) (kys 51 17) (vls 51 17) dpos env (some 47, []) cc dpos = some (.ret (.ref 47), (stT (tr_m4 w.params) 119 578 os), cc, dpos)) (fun w => ?_) (fun w => ?_) w
  · kernel_rfl
  · kernel_rfl
theorem pm4 (w : World) (os : OsState) : gL dF pw w 433 (stT (tr_m4 w.params) 119 578 os) (kys 68 17) (vls 68 17) dpos env (some 47, []) cc dpos =
    some (.ret (.ref 47), (stT (tr_m5 w.params) 137 663 os), cc, dpos) := by
  rw [gL_eq]
  revert w
  refine fun w => byRow2 "special-get-raises" (P := fun w => gLT dF pw w 433 (stT (tr_m4 w.params) 119 578 os) (kys 68 17) (vls 68 17) dpos env (some 47, []) cc dpos = some (.ret (.ref 47), (stT (tr_m5 w.params) 137 663 os), cc, dpos)) (fun w => ?_) (fun w => ?_) w
  · kernel_rfl
  · kernel_rfl
theorem pm5 (w : World) (os : OsState) : gL dF pw w 433 (stT (tr_m5 w.params) 137 663 os) (kys 85 17) (vls 85 17) dpos env (some 47, []) cc dpos =
    some (.ret (.ref 47), (stT (tr_m6 w.params) 155 748 os), cc, dpos) := by
  rw [gL_eq]
  revert w
  refine fun w => byRow2 "special-get-raises" (P := fun w => gLT dF pw w 433 (stT (tr_m5 w.params) 137 663 os) (kys 85 17) (vls 85 17) dpos env (some 47, []) cc dpos = some (.ret (.ref 47), (stT (tr_m6 w.params) 155 748 os), cc, dpos)) (fun w => ?_) (fun w => ?_) w
  · kernel_rfl
  · kernel_rfl
theorem pm6 (w : World) (os : OsState) : gL dF pw w 433 (stT (tr_m6 w.params) 155 748 os) (kys 102 17) (vls 102 17) dpos env (some 47, []) cc dpos =
    some (.ret (.ref 47), (stT (tr_m7 w.params) 173 833 os), cc, dpos) := by
  rw [gL_eq]
  revert w
  refine fun w => byRow2 "special-get-raises" (P := fun w => gLT dF pw w 433 (stT (tr_m6 w.params) 155 748 os) (kys 102 17) (vls 102 17) dpos env (some 47, []) cc dpos = some (.ret (.ref 47), (stT (tr_m7 w.params) 173 833 os), cc, dpos)) (fun w => ?_) (fun w => ?_) w
  · kernel_rfl
  · kernel_rfl

end Mine.Q
end

section
namespace Mine.Q
open PySem PySem.W PyProof.Rows
noncomputable def tr_3' (P : Params) : BT := (n (b0 P) (n (b1 P) (n (o3_2 P) (n (b7 P) (n o15 (n o31_2 (n o63 (n o127 e e) e) (n o95 (n o159 e e) e)) (n (o47_3 P) (n o79 (n o143 e e) e) (n o111 (n o175 e e) e))) (n o23 (n o39 (n o71 (n o135 e e) e) (n o103 (n o167 e e) e)) (n o55 (n o87 (n o151 e e) e) (n (o119 P) e e)))) (n o11 (n o19 (n o35 (n o67 (n o131 e e) e) (n o99 (n o163 e e) e)) (n o51 (n (o83 P) (n o147 e e) e) (n o115 e e))) (n o27 (n (o43 P) (n o75 (n o139 e e) e) (n o107 (n o171 e e) e)) (n o59 (n o91 (n (o155 P) e e) e) (n o123 e e))))) (n (b5 P) (n (b9 P) (n (o17 P) (n o33 (n (o65 P) (n o129 e e) e) (n o97 (n o161 e e) e)) (n o49 (n o81 (n o145 e e) e) (n o113 e e))) (n o25 (n o41 (n o73 (n (o137 P) e e) e) (n o105 (n o169 e e) e)) (n o57 (n o89 (n o153 e e) e) (n o121 e e)))) (n o13 (n o21 (n (o37 P) (n o69 (n o133 e e) e) (n (o101 P) (n o165 e e) e)) (n o53 (n o85 (n o149 e e) e) (n o117 e e))) (n o29 (n o45 (n o77 (n o141 e e) e) (n o109 (n (o173 P) e e) e)) (n o61 (n o93 (n o157 e e) e) (n o125 e e)))))) (n (o2 P) (n (b4 P) (n (b8 P) (n o16 (n o32 (n o64 (n o128 e e) e) (n o96 (n o160 e e) e)) (n o48 (n o80 (n o144 e e) e) (n o112 (n o176 e e) e))) (n o24 (n o40 (n o72 (n o136 e e) e) (n o104 (n o168 e e) e)) (n o56 (n o88 (n o152 e e) e) (n o120 e e)))) (n o12_2 (n o20 (n o36 (n o68 (n o132 e e) e) (n o100 (n o164 e e) e)) (n o52 (n o84 (n o148 e e) e) (n o116 e e))) (n o28 (n o44 (n o76 (n o140 e e) e) (n o108 (n o172 e e) e)) (n o60 (n o92 (n o156 e e) e) (n o124 e e))))) (n (b6 P) (n (b10 P) (n o18 (n o34 (n o66 (n o130 e e) e) (n o98 (n o162 e e) e)) (n o50 (n o82 (n o146 e e) e) (n o114 e e))) (n o26 (n o42 (n o74 (n o138 e e) e) (n o106 (n o170 e e) e)) (n o58 (n o90 (n o154 e e) e) (n o122 e e)))) (n o14 (n o22 (n o38 (n o70 (n o134 e e) e) (n o102 (n o166 e e) e)) (n o54 (n o86 (n o150 e e) e) (n o118 e e))) (n (o30 P) (n o46 (n o78 (n o142 e e) e) (n o110 (n o174 e e) e)) (n o62 (n o94 (n o158 e e) e) (n o126 e e)))))))
theorem pE (w : World) (os : OsState) : gE dF dG pw w 87 (stT (tr_m7 w.params) 173 833 os) (kys 119 17) (vls 119 17) dpos env (some 47, []) cc dpos =
    some (.ret (.ref 47), stT (tr_3' w.params) 177 848 os, cc, dpos) := by
  rw [gE_eq]
  revert w
  refine fun w => byRow2 "special-get-raises" (P := fun w => gET dF dG pw w 87 (stT (tr_m7 w.params) 173 833 os) (kys 119 17) (vls 119 17) dpos env (some 47, []) cc dpos =
    some (.ret (.ref 47), stT (tr_3' w.params) 177 848 os, cc, dpos)) (fun w => ?_) (fun w => ?_) w
  · kernel_rfl
  · kernel_rfl
theorem pY (w : World) (os : OsState) : gY pw w 20 (stT (tr_3' w.params) 177 848 os) ⟨11, 0, 11, 6⟩ env (Str.ofString "SHAPES") (.ref 47) cc dpos =
    some (.next, stT (tr_3 w.params) 177 849 os, cc, ⟨11, 0, 11, 6⟩) := by
  rw [gY_eq]
  kernel_rfl

end Mine.Q
end

section
namespace Mine.Q
open PySem PySem.W PyProof.Rows
theorem evalEachOpt_app (env : Env) : ∀ a b : List (Option Expr), evalEachOpt (a ++ b) env = evalEachOpt a env ++ evalEachOpt b env
  | [], _ => rfl
  | x :: a, b => by
    show evalOpt x env :: evalEachOpt (a ++ b) env = evalOpt x env :: (evalEachOpt a env ++ evalEachOpt b env)
    rw [evalEachOpt_app env a b]
theorem evalEach_app (env : Env) : ∀ a b : List Expr, evalEach (a ++ b) env = evalEach a env ++ evalEach b env
  | [], _ => rfl
  | x :: a, b => by
    show eval x env :: evalEach (a ++ b) env = eval x env :: (evalEach a env ++ evalEach b env)
    rw [evalEach_app env a b]
theorem evalEachOpt_len (env : Env) : ∀ a : List (Option Expr), (evalEachOpt a env).length = a.length
  | [] => rfl
  | x :: a => congrArg (· + 1) (evalEachOpt_len env a)
theorem evalEach_len (env : Env) : ∀ a : List Expr, (evalEach a env).length = a.length
  | [] => rfl
  | x :: a => congrArg (· + 1) (evalEach_len env a)
theorem items_app (dp : Pos) (env : Env) {a b : List (Option Expr)} {c d : List Expr} (h : a.length = c.length) : items (a ++ b) (c ++ d) dp env = items a c dp env ++ items b d dp env := by
  unfold items
  rw [evalEachOpt_app, evalEach_app, List.map_append, List.zip_append (by rw [List.length_map, evalEachOpt_len, evalEach_len, h])]
theorem eval_Dict (ks : List (Option Expr)) (vs : List Expr) (dp : Pos) (env : Env) : eval (.Dict ks vs dp) env = (standAt dp).bind fun _ => dictDisplay (items ks vs dp env) := rfl
theorem exec_form (ks : List (Option Expr)) (vs : List Expr) (x : Str) (dp q1 q2 : Pos) (env : Env) : exec (.Assign [.Name x q2] (.Dict ks vs dp) q1) env =
    ((standAt q1).bind fun _ => standAt dp).bind fun _ => (forIn (items ks vs dp env) ((none, []) : SS) dFG.1.1).bind fun st => (dFG.1.2 st).bind fun v => (standAt q2).bind fun _ => (bindName env x v).bind fun _ => .pure Flow.next := by
  rw [exec_Assign_Name (hs := rfl), eval_Dict, dd_eq]
  show (standAt q1).bind (fun _ => ((standAt dp).bind fun _ => Sem.bind _ _).bind fun v => (standAt q2).bind fun _ => (bindName env x v).bind fun _ => .pure Flow.next) = _
  simp only [Sem.bind_assoc]
section
variable {p : Program} {w : World} {r : Shared} {c : Code} {K : Flow → Sem Fin} {H : Value → Sem Fin} {ks : List (Option Expr)} {vs : List Expr} {dp q1 q2 q : Pos} {env : Env} {x : Str}
/-- what is left behind some groups of a dict display's loop -/
noncomputable def left (env : Env) (x : Str) (q2 : Pos) (K : Flow → Sem Fin) (H : Value → Sem Fin) (m : Sem SS) : Sem Fin :=
  (m.bind fun st => (dFG.1.2 st).bind fun v => (standAt q2).bind fun _ => (bindName env x v).bind fun _ => .pure Flow.next).wrap K H id id
theorem start_part {n N : Nat} {s s' : SharedT} {c' : Code} {q' : Pos} (h : gA p w n s q1 dp c q = some (.next, s', c', q'))
    (k : topRun treeTable p w 11 (some (.ref 6)) N s'.abs ⟨left env x q2 K H (forIn (items ks vs dp env) ((none, []) : SS) dFG.1.1), c', q', BB⟩ = some r) :
    topRun treeTable p w 11 (some (.ref 6)) (n + N) s.abs ⟨(exec (.Assign [.Name x q2] (.Dict ks vs dp) q1) env).wrap K H id id, c, q, BB⟩ = some r := by
  rw [exec_form, lift]
  exact part (res := fun _ : Unit => Flow.next) (a₀ := ()) h (fun _ _ => rfl) k
theorem group_part {ks : List Expr} {n N : Nat} {s s' : SharedT} {c' : Code} {q' : Pos} {st : SS} {d : Addr} {ks' : List (Option Expr)} {vs' : List Expr} (hl : (ks.map some).length = vs.length) (h : gL dFG.1.1 p w n s ks vs dp env st c q = some (.ret (.ref d), s', c', q'))
    (k : topRun treeTable p w 11 (some (.ref 6)) N s'.abs ⟨left env x q2 K H (forIn (items ks' vs' dp env) ((some d, []) : SS) dFG.1.1), c', q', BB⟩ = some r) :
    topRun treeTable p w 11 (some (.ref 6)) (n + N) s.abs ⟨left env x q2 K H (forIn (items (ks.map some ++ ks') (vs ++ vs') dp env) st dFG.1.1), c, q, BB⟩ = some r := by
  unfold left
  rw [items_app dp env hl, lp_app, Sem.bind_assoc, lift]
  exact part (res := resL) (a₀ := .yield (some d, [])) h (fun a => resL_inj a d) k
theorem end_part {ks : List Expr} {n n2 N : Nat} {s s' s2 : SharedT} {c' c2 : Code} {q' q3 : Pos} {st : SS} {v : Value} {f : Flow} (h : gE dFG.1.1 dFG.1.2 p w n s ks vs dp env st c q = some (.ret v, s', c', q'))
    (h2 : gY p w n2 s' q2 env x v c' q' = some (f, s2, c2, q3))
    (k : topRun treeTable p w 11 (some (.ref 6)) N s2.abs ⟨K f, c2, q3, BB⟩ = some r) :
    topRun treeTable p w 11 (some (.ref 6)) (n + (n2 + N)) s.abs ⟨left env x q2 K H (forIn (items (ks.map some) vs dp env) st dFG.1.1), c, q, BB⟩ = some r := by
  unfold left
  rw [← Sem.bind_assoc, lift]
  exact part (res := Flow.ret) (a₀ := v) h (fun a e => by cases e; rfl) (part (res := id) (a₀ := f) h2 (fun a e => e) k)
end

end Mine.Q
end

section
namespace Mine.Q
open PySem PySem.W PyProof.Rows
noncomputable abbrev S0 (w : World) (os : OsState) : Shared := ⟨boot_heap w.params, .mk [], boot_drawn, boot_toks, os⟩
noncomputable abbrev SZ (w : World) (os : OsState) : Shared := ⟨HQ w.params, .mk [], {}, 1183, os⟩
theorem pPre (w : World) (os : OsState) : topGo treeTable pw w 11 (some (.ref 6)) 12 (S0 w os) (topStub pw) = some ((stT (tr_b w.params) 15 187 os).abs, ⟨denote treeTable cc, cc, q0, BB⟩) := by
  rw [PySem.W.Fast.te15667345088766844465, PySem.W.Fast.te11892475500146522536, PySem.W.Fast.te14364793385576792824]
  kernel_rfl
theorem pBlock (w : World) (os : OsState) : segRun treeTable pw w 11 (some (.ref 6)) 1 1 (stT (tr_b w.params) 15 187 os).abs (blockOf (behindTheImports pw) env cc q0 BB) = some (.next, (stT (tr_b w.params) 15 187 os).abs, cc, q0) := by
  kernel_rfl
theorem pFin (w : World) (os : OsState) : topRun treeTable pw w 11 (some (.ref 6)) 2 (stT (tr_6 w.params) 363 1183 os).abs ⟨doneF .next, cc, ⟨130, 0, 138, 15⟩, BB⟩ = some (SZ w os) := by
  kernel_rfl
theorem body_cut : behindTheImports pw = pw.main.body.take 2 ++ ((pw.main.body.drop 2).take 3 ++ ((pw.main.body.drop 5).take 1 ++ ((pw.main.body.drop 6).take 10 ++ ((pw.main.body.drop 16).take 1 ++ ((pw.main.body.drop 17).take 10 ++ []))))) := by kernel_rfl
theorem shapes_is : (pw.main.body.drop 5).take 1 = [.Assign [.Name (Str.ofString "SHAPES") ⟨11, 0, 11, 6⟩] (.Dict (dKV stD).1 (dKV stD).2 dpos) ⟨11, 0, 11, 2777⟩] := by kernel_rfl
theorem ks_cut : (dKV stD).1 = (kys 0 17).map some ++ ((kys 17 17).map some ++ ((kys 34 17).map some ++ ((kys 51 17).map some ++ ((kys 68 17).map some ++ ((kys 85 17).map some ++ ((kys 102 17).map some ++ (kys 119 17).map some)))))) := by kernel_rfl
theorem vs_cut : (dKV stD).2 = vls 0 17 ++ (vls 17 17 ++ (vls 34 17 ++ (vls 51 17 ++ (vls 68 17 ++ (vls 85 17 ++ (vls 102 17 ++ vls 119 17)))))) := by kernel_rfl
theorem restOf_cons (st : Stmt) (rest : List Stmt) (env : Env) (c : Code) (q : Pos) (B : List Frame) : restOf (st :: rest) env c q B =
    ⟨(exec st env).wrap (fun f => match f with | .next => (execs rest env).wrap doneF (leaveH env) id id | f => doneF f) (leaveH env) id id, c, q, B⟩ := by
  unfold restOf
  rw [execs_cons_wrap]
  rw [Sem.wrap_congr (m := exec st env) (K := _) (K' := (fun f => match f with | .next => (execs rest env).wrap doneF (leaveH env) id id | f => doneF f)) _ _ (fun f => by cases f <;> rfl) (fun _ => rfl)]
theorem run_all (w : World) (os : OsState) : topRun treeTable pw w 11 (some (.ref 6)) (12 + (1 + (238 + (232 + (3 + (326 + (433 + (433 + (433 + (433 + (433 + (433 + (87 + (20 + (318 + (321 + (296 + 2))))))))))))))))) (S0 w os) (topStub pw) = some (SZ w os) := by
  refine go_top (pPre w os) (piece_block (n := 1) (env := env) (pBlock w os) ?k)
  case k =>
    rw [body_cut]
    refine piece_app (segRun_of (p1 w os)) (piece_app (segRun_of (p2 w os)) ?_)
    rw [shapes_is]
    rw [List.singleton_append, restOf_cons, ks_cut, vs_cut]
    refine start_part (pA w os) (group_part (by kernel_rfl) (pm0 w os) (group_part (by kernel_rfl) (pm1 w os) (group_part (by kernel_rfl) (pm2 w os) (group_part (by kernel_rfl) (pm3 w os)
      (group_part (by kernel_rfl) (pm4 w os) (group_part (by kernel_rfl) (pm5 w os) (group_part (by kernel_rfl) (pm6 w os) (end_part (pE w os) (pY w os) ?_))))))))
    exact piece_app (segRun_of (p4 w os)) (piece_app (segRun_of (p5 w os)) (piece_app (segRun_of (p6 w os)) (piece_nil (pFin w os))))

end Mine.Q
end

section
namespace Mine.Q
open PySem PySem.W PyProof.Rows
noncomputable abbrev rr : OpenLaw := PySem.Challenge.rw_rg0228_01
theorem said_law : rr.wellSaid = true := by
  rw [PySem.W.Fast.te9446332074065402090]
  delta PySem.W.Fast.tw9446332074065402090
  repeat' (with_reducible refine look_both ?_ ?_)
  all_goals try delta PySem.W.Fast.tw17960256430627541270
  all_goals repeat' (with_reducible refine look_both ?_ ?_)
  all_goals try delta PySem.W.Fast.tw2436336058641802641
  all_goals repeat' (with_reducible refine look_both ?_ ?_)
  all_goals try delta PySem.W.Fast.tw12908688711261696721
  all_goals repeat' (with_reducible refine look_both ?_ ?_)
  all_goals (as_aux_lemma => kernel_rfl)
noncomputable def vw : Program := view pw [1, 2, 4, 5, 6, 7, 8, 9, 10, 11, 12, 13, 14, 16, 17, 18, 19, 20, 21, 22, 23, 24, 25, 26]
noncomputable abbrev loose : List Str := [Str.ofString "SHAPES", Str.ofString "KEEPING", Str.ofString "_law_list"]
theorem KQ_addrs (P : Params) : aQ = (KQ P).map (·.1) := by kernel_rfl
noncomputable abbrev HK : Hook := kHook KQ aQ KQ_addrs
noncomputable abbrev xt (s : Shared) : Bool := xlAt vw [] s && recOk (RowW.records rr.row.toRowW) s
theorem size_q (w : World) : ((boot_heap w.params).isNs mainGlobals && (Array.mk [] : Array GenState).size == 0, (boot_heap w.params).objs.size, (boot_heap w.params).nsMap mainGlobals "__annotations__") = (true, 11, some (Value.ref 6)) := by
  kernel_rfl
theorem open_q (w : World) : (fencedOpening treeTable pw w 8000).map (fun s => (s.heap, s.gens, s.drawn, s.toks)) = some (boot_heap w.params, Array.mk [], boot_drawn, boot_toks) :=
  boot_open (p := pw) (N := 8000) (by kernel_rfl) (by rfl) (fun _ => by kernel_rfl) w
theorem look1 (w : World) (os : OsState) : (staticsOk (importedModules pw.main.body) (boot_heap w.params) (HQ w.params) && namesBound pw (HQ w.params) && gensDone (SZ w os) && laidKept (boot_heap w.params) (HQ w.params)) = true := by
  kernel_rfl

end Mine.Q
end

section
namespace Mine.Q
open PySem PySem.W PyProof.Rows
theorem look3 (w : World) (os : OsState) : HK.obs (SZ w os) = HK.val w := by
  kernel_rfl
theorem look2 (w : World) (os : OsState) : openSeen vw loose (importedModules pw.main.body) xt true (SZ w os) = openGood vw loose := by
  rw [PySem.W.Fast.te4187177175401517315]
  kernel_rfl

end Mine.Q
end

section
namespace Mine.Q
open PySem PySem.W PyProof.Rows
theorem left_q : LeftO pw vw loose xt HK.obs HK.val 8000 :=
  LeftO.of_pieces (H₀ := boot_heap) (H₁ := HQ) (gs₀ := .mk []) (gs₁ := .mk []) (d₀ := boot_drawn) (d₁ := {}) (k₀ := boot_toks) (k₁ := 1183) (m₀ := 11) (ann := some (.ref 6)) open_q size_q run_all (by rfl)
    (fun w => funext fun os => Prod.ext (look1 w os) (Prod.ext (look2 w os) (look3 w os)))
theorem ok_q : (chainsOk vw && opensWell pw && (frees rr.row.toRowW && rr.row.toRowW.within.isEmpty)) = true := by kernel_rfl
theorem bare_q : pw.bare := ⟨rfl, rfl, rfl, rfl, rfl, by decide +kernel⟩
end Mine.Q
end

section
namespace Mine

/-- Data: what a value of the run stands for. -/
inductive D where
  | none
  | bool (b : Bool)
  | int (i : Int)
  | sym (v : Nat) (c : Int)
  | str (l : List Nat)
  | tup (xs : List D)
  | lst (n : Nat)
  | clst (xs : List D)
  | fn (k : Nat)
  | tab (k : Nat)
  | wheel
  | pick (v : Nat)
  | any (v : Nat)


inductive Cmp where
  | eq | ne | lt | le | gt | ge | isin | notin
  deriving DecidableEq

inductive Tgt where
  | one (i : Nat)
  | many (is : List Nat)


mutual
inductive X where
  | none
  | bool (b : Bool)
  | int (i : Int)
  | neg (k : Nat)
  | str (l : List Nat)
  | var (i : Nat)
  | glob (k : Nat)
  | tup (es : List X)
  | lst (es : List X)
  | item (e i : X)
  | slc (e : X) (lo hi st : Option Int)
  | add (a b : X)
  | sub (a b : X)
  | mul (a b : X)
  | cmp (op : Cmp) (a b : X)
  | and (es : List X)
  | or (es : List X)
  | not (e : X)
  | ite (t a b : X)
  | call (k : Nat) (args : List X)
  | callv (i : Nat) (args : List X)
  | len (e : X)
  | sum (e : X)
  | tupof (e : X)
  | split (e : X)
  | get (e k d : X)
  | dget (kvs : List (List Nat × Int)) (i j : Nat) (m : Int)
  | comp (elt : X) (tgt : Tgt) (it : It) (ifs : List X) (frees : List Nat)
inductive It where
  | of (e : X)
  | rng (e : X)
  | enum (e : X)
end

inductive XS where
  | assign (i : Nat) (e : X)
  | acomp (i : Nat) (e : X)
  | unpack (is : List Nat) (e : X)
  | aug (i : Nat) (e : X)
  | ite (t : X) (a b : List XS)
  | for_ (tgt : Tgt) (it : It) (body : List XS)
  | ret (e : X)
  | append (i : Nat) (e : X)
  | raise_
  | tryc (call : X) (i : Nat)

structure FnX where
  params : Nat
  nvars : Nat
  body : List XS

noncomputable abbrev Rho := List (Option D)

structure AS where
  σ : List (List D)
  o : List (Int × D)


inductive Fl where
  | next
  | ret (d : D)


/-- A loop's source as far as it is not taken. -/
inductive ItS where
  | vals (xs : List D)
  | cell (n i : Nat)
  | rng (i n : Nat)
  | enum (n i : Nat)


structure Globs where
  fns : List FnX        -- by glob number
  gd : List (Option D)         -- data of a glob
  tabs : List (List (List Nat × D))
  spin : Nat            -- the glob number of the drawing def

/-- the four things that a row's free part may be -/
noncomputable def menu : List Nat := [109, 97, 105, 110, 58, 58, 120]
noncomputable def isStrD (d : D) (l : List Nat) : Bool := match d with
  | .str m => m == l
  | _ => false
noncomputable def isInt7 (d : D) : Bool := match d with
  | .int i => i == 7
  | _ => false
noncomputable def isNoneD (d : D) : Bool := match d with
  | .none => true
  | _ => false
noncomputable def isAB2 (xs : List D) : Bool := match xs with
  | [a, b] => isStrD a [97] && isStrD b [98]
  | _ => false
noncomputable def isAB (d : D) : Bool := match d with
  | .tup xs => isAB2 xs
  | _ => false
noncomputable def isMenu (xs : List D) : Bool := match xs with
  | [a, b, c, d] => isStrD a menu && (isInt7 b && (isNoneD c && isAB d))
  | _ => false
theorem isStrD_eq {d : D} {l : List Nat} (h : isStrD d l = true) : d = .str l := by
  unfold isStrD at h; cases d <;> first | cases h; done | (simp only [beq_iff_eq] at h; rw [h])
theorem isInt7_eq {d : D} (h : isInt7 d = true) : d = .int 7 := by
  unfold isInt7 at h; cases d <;> first | cases h; done | (simp only [beq_iff_eq] at h; rw [h])
theorem isNoneD_eq {d : D} (h : isNoneD d = true) : d = .none := by
  unfold isNoneD at h; cases d <;> first | rfl | cases h
theorem isAB2_eq {xs : List D} (h : isAB2 xs = true) : xs = [.str [97], .str [98]] := by
  cases xs with
  | nil => cases h
  | cons a r => cases r with
    | nil => cases h
    | cons b r => cases r with
      | nil =>
        obtain ⟨h1, h2⟩ := Bool.and_eq_true_iff.mp h
        rw [isStrD_eq h1, isStrD_eq h2]
      | cons c r => cases h
theorem isAB_eq {d : D} (h : isAB d = true) : d = .tup [.str [97], .str [98]] := by
  unfold isAB at h; cases d <;> first | cases h; done | rw [isAB2_eq h]
theorem isMenu_eq {xs : List D} (h : isMenu xs = true) : xs = [.str menu, .int 7, .none, .tup [.str [97], .str [98]]] := by
  cases xs with
  | nil => cases h
  | cons a r => cases r with
    | nil => cases h
    | cons b r => cases r with
      | nil => cases h
      | cons c r => cases r with
        | nil => cases h
        | cons d r => cases r with
          | cons e r => cases h
          | nil =>
            obtain ⟨h1, h⟩ := Bool.and_eq_true_iff.mp h
            obtain ⟨h2, h⟩ := Bool.and_eq_true_iff.mp h
            obtain ⟨h3, h4⟩ := Bool.and_eq_true_iff.mp h
            rw [isStrD_eq h1, isInt7_eq h2, isNoneD_eq h3, isAB_eq h4]

/-- deep equality of two data, where it is known. -/
noncomputable def deq (σ : List (List D)) : Nat → D → D → Option Bool
  | 0, _, _ => Option.none
  | n + 1, a, b => match a, b with
    | .none, .none => some true
    | .bool x, .bool y => some (x == y)
    | .int x, .int y => some (x == y)
    | .sym v c, .sym v' c' => if v = v' then some (c == c') else Option.none
    | .any v, .any v' => if v = v' then some true else Option.none
    | .str x, .str y => some (x == y)
    | .tup xs, .tup ys => deqs σ n xs ys
    | .lst l, .lst m => match σ[l]?, σ[m]? with
      | some xs, some ys => deqs σ n xs ys
      | _, _ => Option.none
    | .lst l, .clst ys => match σ[l]? with
      | some xs => deqs σ n xs ys
      | _ => Option.none
    | .clst xs, .lst m => match σ[m]? with
      | some ys => deqs σ n xs ys
      | _ => Option.none
    | _, _ => Option.none
where
  deqs (σ : List (List D)) : Nat → List D → List D → Option Bool
  | 0, _, _ => Option.none
  | _ + 1, [], [] => some true
  | n + 1, [], y :: ys => match deq σ n y y, deqs σ n [] ys with
    | some _, some _ => some false
    | _, _ => Option.none
  | n + 1, x :: xs, [] => match deq σ n x x, deqs σ n xs [] with
    | some _, some _ => some false
    | _, _ => Option.none
  | n + 1, x :: xs, y :: ys => match deq σ n x y, deqs σ n xs ys with
    | some p, some q => some (p && q)
    | _, _ => Option.none

end Mine
end

section
namespace Mine

noncomputable def litem (σ : List (List D)) (d : D) (j : Nat) : Option D := match d with
  | .tup xs => xs[j]?
  | .clst xs => xs[j]?
  | .lst n => (σ[n]?).bind fun xs => xs[j]?
  | .str l => (l[j]?).map fun c => .str [c]
  | _ => none

noncomputable def dlen (σ : List (List D)) (d : D) : Option Nat := match d with
  | .tup xs => some xs.length
  | .clst xs => some xs.length
  | .lst n => (σ[n]?).map fun xs => xs.length
  | .str l => some l.length
  | _ => none

noncomputable def items (σ : List (List D)) (d : D) : Option (List D) := match d with
  | .clst xs => some xs
  | .lst n => σ[n]?
  | _ => none

noncomputable def AS.new (a : AS) (xs : List D) : D × AS := (.lst a.σ.length, { a with σ := a.σ ++ [xs] })

noncomputable def okS (l : List Nat) : Bool := decide (l.length ≤ 1000) && l.all fun c => decide (c < 128)

noncomputable def small (i : Int) : Bool := -1000000 ≤ i && i ≤ 1000000

noncomputable def addD (a : AS) (x y : D) : Option (D × AS) := match x, y with
  | .int i, .int j => some (.int (i + j), a)
  | .sym v c, .int j => some (.sym v (c + j), a)
  | .int i, .sym v c => some (.sym v (c + i), a)
  | .str l, .str m => if l.length + m.length ≤ 1000 then some (.str (l ++ m), a) else none
  | .tup xs, .tup ys => if xs.length + ys.length ≤ 1000 then some (.tup (xs ++ ys), a) else none
  | d, e => match items a.σ d, items a.σ e with
    | some xs, some ys => if xs.length + ys.length ≤ 1000 then some (a.new (xs ++ ys)) else none
    | _, _ => none

noncomputable def subD (x y : D) : Option D := match x, y with
  | .int i, .int j => some (.int (i - j))
  | .sym v c, .int j => some (.sym v (c - j))
  | _, _ => none

noncomputable def repl (xs : List D) : Nat → List D
  | 0 => []
  | n + 1 => xs ++ repl xs n

noncomputable def mulD (a : AS) (x y : D) : Option (D × AS) := match x, y with
  | .int i, .int j => if small i && small j then some (.int (i * j), a) else none
  | .lst n, .int j => match a.σ[n]? with
    | some [d] => if 0 ≤ j && j ≤ 100 then some (a.new (List.replicate j.toNat d)) else none
    | _ => none
  | _, _ => none

noncomputable def findTab (l : List Nat) : List (List Nat × D) → Option D
  | [] => none
  | (k, d) :: r => if k == l then some d else findTab l r

noncomputable def isIn (σ : List (List D)) (d : D) : List D → Option Bool
  | [] => some false
  | x :: r => match deq σ 50 x d, isIn σ d r with
    | some p, some q => some (p || q)
    | _, _ => none

noncomputable def members (tabs : List (List (List Nat × D))) (σ : List (List D)) (d c : D) : Option Bool := match c with
  | .tab k => match tabs[k]?, d with
    | some t, .str l => some (findTab l t).isSome
    | _, _ => none
  | .tup xs => isIn σ d xs
  | .lst n => match σ[n]? with
    | some xs => isIn σ d xs
    | none => none
  | .clst xs => isIn σ d xs
  | _ => none

noncomputable def cmpD (tabs : List (List (List Nat × D))) (σ : List (List D)) (op : Cmp) (x y : D) : Option Bool := match op with
  | .eq => deq σ 50 x y
  | .ne => (deq σ 50 x y).map (!·)
  | .isin => members tabs σ x y
  | .notin => (members tabs σ x y).map (!·)
  | .gt => match x, y with
    | .int i, .int j => some (decide (j < i))
    | _, _ => none
  | .ge => match x, y with
    | .int i, .int j => some (decide (j ≤ i))
    | _, _ => none
  | _ => none

open PyProof.Rows in
/-- text[:6] -/
noncomputable def head6 (l : List Nat) : List Nat := (PySem.Txt.slice ⟨l.toArray⟩ none (some 6)).cps.toList
open PyProof.Rows PySem in
/-- text[::-1] -/
noncomputable def turned (l : List Nat) : List Nat := (Txt.sliceBy ⟨l.toArray⟩ none none (-1, 0)).cps.toList

noncomputable def slcD (d : D) (lo hi st : Option Int) : Option D := match d, lo, hi, st with
  | .str l, none, some 6, none => if okS (head6 l) then some (.str (head6 l)) else none
  | .str l, none, none, some (-1) => if okS (turned l) then some (.str (turned l)) else none
  | .tup xs, some 1, none, none => if 1 ≤ xs.length && xs.length ≤ 1000 then some (.tup (xs.drop 1)) else none
  | .tup xs, none, some (-1), none => if 1 ≤ xs.length && xs.length ≤ 1000 then some (.tup (xs.take (xs.length - 1))) else none
  | _, _, _, _ => none

noncomputable def sumD : List D → Option Int
  | [] => some 0
  | .int i :: r => (sumD r).map (i + ·)
  | _ => none

/-- split at blanks -/
noncomputable def words (l : List Nat) : List (List Nat) := (PySem.Txt.words ⟨l.toArray⟩).map fun x => x.cps.toList

noncomputable def setV (ρ : Rho) (i : Nat) (d : D) : Rho := ρ.set i (some d)
noncomputable def getV (ρ : Rho) (i : Nat) : Option D := match ρ[i]? with
  | some (some d) => some d
  | _ => none

noncomputable def bindT (ρ : Rho) : Tgt → D → Option Rho
  | .one i, d => if i < ρ.length then some (setV ρ i d) else none
  | .many is, .tup xs => if is.length = xs.length then go ρ is xs else none
  | .many _, _ => none
where
  go (ρ : Rho) : List Nat → List D → Option Rho
  | [], [] => some ρ
  | i :: is, x :: xs => if i < ρ.length then go (setV ρ i x) is xs else none
  | _, _ => none

noncomputable def keepOnly (ρ : Rho) (fr : List Nat) : Rho := go 0 ρ
where
  go (k : Nat) : Rho → Rho
  | [] => []
  | d :: r => (if fr.contains k then d else none) :: go (k + 1) r

noncomputable def nextI (tgt : Tgt) (σ : List (List D)) : ItS → Option (Option (D × ItS))
  | .vals [] => some none
  | .vals (x :: xs) => some (some (x, .vals xs))
  | .cell n i => match σ[n]? with
    | some xs => match xs[i]? with
      | some x => some (some (x, .cell n (i + 1)))
      | none => some none
    | none => none
  | .rng i n => if i < n then some (some (.int (i : Int), .rng (i + 1) n)) else some none
  | .enum n i => match tgt with
    | .one _ => none
    | .many _ => match σ[n]? with
      | some xs => match xs[i]? with
        | some x => some (some (.tup [.int (i : Int), x], .enum n (i + 1)))
        | none => some none
      | none => none

structure Lv where
  e : X → Rho → AS → Option (D × AS)
  s : List XS → Rho → AS → Option (Fl × Rho × AS)
  f : Tgt → List XS → ItS → Rho → AS → Option (Fl × Rho × AS)
  g : X → Tgt → List X → ItS → Nat → Rho → AS → Option AS
  x : List XS → Rho → AS → Option AS

noncomputable def Lv.zero : Lv := ⟨fun _ _ _ => none, fun _ _ _ => none, fun _ _ _ _ _ => none, fun _ _ _ _ _ _ _ => none, fun _ _ _ => none⟩

section
variable (Γ : Globs) (L : Lv)

noncomputable def evEs (ρ : Rho) : List X → AS → Option (List D × AS)
  | [], a => some ([], a)
  | x :: r, a => match L.e x ρ a with
    | some (d, a₁) => match evEs ρ r a₁ with
      | some (ds, a₂) => some (d :: ds, a₂)
      | none => none
    | none => none

/-- a test -/
noncomputable def evT (x : X) (ρ : Rho) (a : AS) : Option (Bool × AS) := match L.e x ρ a with
  | some (.bool b, a') => some (b, a')
  | _ => none

/-- all the tests of a comprehension -/
noncomputable def evIfs (ρ : Rho) : List X → AS → Option (Bool × AS)
  | [], a => some (true, a)
  | x :: r, a => match evT L x ρ a with
    | some (true, a') => evIfs ρ r a'
    | some (false, a') => some (false, a')
    | none => none

noncomputable def evAnd (ρ : Rho) : List X → AS → Option (Bool × AS)
  | [], _ => none
  | [x], a => evT L x ρ a
  | x :: y :: r, a => match evT L x ρ a with
    | some (true, a') => evAnd ρ (y :: r) a'
    | some (false, a') => some (false, a')
    | none => none
noncomputable def evOr (ρ : Rho) : List X → AS → Option (Bool × AS)
  | [], _ => none
  | [x], a => evT L x ρ a
  | x :: y :: r, a => match evT L x ρ a with
    | some (false, a') => evOr ρ (y :: r) a'
    | some (true, a') => some (true, a')
    | none => none

noncomputable def frameOf' (f : FnX) (ds : List D) : Option Rho := if ds.length = f.params then some (ds.map some ++ List.replicate (f.nvars - f.params) none) else none

noncomputable def evCall (k : Nat) (ds : List D) (a : AS) : Option (D × AS) :=
  if k = Γ.spin then match ds, a.o with
    | [.wheel, .int sz], (sz', d) :: o' => if sz = sz' then some (d, { a with o := o' }) else none
    | _, _ => none
  else match Γ.fns[k]? with
  | some f => match frameOf' f ds with
    | some ρ => match L.s f.body ρ a with
      | some (.ret d, _, a') => some (d, a')
      | _ => none
    | none => none
  | none => none

noncomputable def evRaise (k : Nat) (ds : List D) (a : AS) : Option AS :=
  if k = Γ.spin then none else match Γ.fns[k]? with
  | some f => match frameOf' f ds with
    | some ρ => L.x f.body ρ a
    | none => none
  | none => none

/-- does evaluating it raise? -/
noncomputable def evX (x : X) (ρ : Rho) (a : AS) : Option AS := match x with
  | .call k args => match Γ.gd[k]? with
    | some (some (.fn j)) => match evEs L ρ args a with
      | some (ds, a') => evRaise Γ L j ds a'
      | none => none
    | _ => none
  | .callv i args => match getV ρ i with
    | some (.fn k) => match evEs L ρ args a with
      | some (ds, a') => evRaise Γ L k ds a'
      | none => none
    | _ => none
  | .item (.call k args) _ => match Γ.gd[k]? with
    | some (some (.fn j)) => match evEs L ρ args a with
      | some (ds, a') => evRaise Γ L j ds a'
      | none => none
    | _ => none
  | _ => none

noncomputable def evIt (it : It) (ρ : Rho) (a : AS) : Option (ItS × AS) := match it with
  | .of e => match L.e e ρ a with
    | some (.tup xs, a') => some (.vals xs, a')
    | some (.clst xs, a') => some (.vals xs, a')
    | some (.lst n, a') => some (.cell n 0, a')
    | _ => none
  | .rng e => match L.e e ρ a with
    | some (.int i, a') => if 0 ≤ i && i ≤ 1000 then some (.rng 0 i.toNat, a') else none
    | _ => none
  | .enum e => match L.e e ρ a with
    | some (.lst n, a') => some (.enum n 0, a')
    | _ => none

noncomputable def evComp (elt : X) (tgt : Tgt) (it : It) (ifs : List X) (fr : List Nat) (ρ : Rho) (a : AS) : Option (D × AS) := match evIt L it ρ a with
  | some (i, a₁) => match L.g elt tgt ifs i a₁.σ.length (keepOnly ρ fr) { a₁ with σ := a₁.σ ++ [[]] } with
    | some a₂ => some (.lst a₁.σ.length, a₂)
    | none => none
  | none => none

noncomputable def stepE (x : X) (ρ : Rho) (a : AS) : Option (D × AS) := match x with
  | .none => some (.none, a)
  | .bool b => some (.bool b, a)
  | .int i => some (.int i, a)
  | .neg k => some (.int (-(k : Int)), a)
  | .str l => some (.str l, a)
  | .var i => (getV ρ i).map fun d => (d, a)
  | .glob k => match Γ.gd[k]? with
    | some (some d) => some (d, a)
    | _ => none
  | .tup es => match evEs L ρ es a with
    | some (ds, a') => if ds.length ≤ 1000 then some (.tup ds, a') else none
    | none => none
  | .lst es => match evEs L ρ es a with
    | some (ds, a') => if ds.length ≤ 1000 then some (a'.new ds) else none
    | none => none
  | .item e i => match L.e e ρ a with
    | some (d, a₁) => match L.e i ρ a₁ with
      | some (.int j, a₂) => if 0 ≤ j && j ≤ 1000000 then (litem a₂.σ d j.toNat).map fun x => (x, a₂) else none
      | some (.pick v, a₂) => match d with
        | .lst n => match a₂.σ[n]? with
          | some xs => if isMenu xs then some (.any v, a₂) else none
          | none => none
        | _ => none
      | some (.str l, a₂) => match d with
        | .tab k => match Γ.tabs[k]? with
          | some t => (findTab l t).map fun x => (x, a₂)
          | none => none
        | _ => none
      | _ => none
    | none => none
  | .slc e lo hi st => match L.e e ρ a with
    | some (d, a₁) => (slcD d lo hi st).map fun x => (x, a₁)
    | none => none
  | .add x y => match L.e x ρ a with
    | some (d, a₁) => match L.e y ρ a₁ with
      | some (d', a₂) => addD a₂ d d'
      | none => none
    | none => none
  | .sub x y => match L.e x ρ a with
    | some (d, a₁) => match L.e y ρ a₁ with
      | some (d', a₂) => (subD d d').map fun x => (x, a₂)
      | none => none
    | none => none
  | .mul x y => match L.e x ρ a with
    | some (d, a₁) => match L.e y ρ a₁ with
      | some (d', a₂) => mulD a₂ d d'
      | none => none
    | none => none
  | .cmp op x y => match L.e x ρ a with
    | some (d, a₁) => match L.e y ρ a₁ with
      | some (d', a₂) => (cmpD Γ.tabs a₂.σ op d d').map fun b => (.bool b, a₂)
      | none => none
    | none => none
  | .and es => (evAnd L ρ es a).map fun p => (.bool p.1, p.2)
  | .or es => (evOr L ρ es a).map fun p => (.bool p.1, p.2)
  | .not e => (evT L e ρ a).map fun p => (.bool (!p.1), p.2)
  | .ite t x y => match evT L t ρ a with
    | some (true, a') => L.e x ρ a'
    | some (false, a') => L.e y ρ a'
    | none => none
  | .call k args => match Γ.gd[k]? with
    | some (some (.fn j)) => match evEs L ρ args a with
      | some (ds, a') => evCall Γ L j ds a'
      | none => none
    | _ => none
  | .callv i args => match getV ρ i with
    | some (.fn k) => match evEs L ρ args a with
      | some (ds, a') => evCall Γ L k ds a'
      | none => none
    | _ => none
  | .len e => match L.e e ρ a with
    | some (d, a') => match dlen a'.σ d with
      | some n => if n ≤ 1000000 then some (.int (n : Int), a') else none
      | none => none
    | none => none
  | .sum e => match L.e e ρ a with
    | some (.lst n, a') => match a'.σ[n]? with
      | some xs => (sumD xs).map fun i => (.int i, a')
      | none => none
    | _ => none
  | .tupof e => match L.e e ρ a with
    | some (.lst n, a') => match a'.σ[n]? with
      | some xs => if xs.length ≤ 1000 then some (.tup xs, a') else none
      | none => none
    | _ => none
  | .split e => match L.e e ρ a with
    | some (.str l, a') => if (words l).all okS then some (a'.new ((words l).map .str)) else none
    | _ => none
  | .get e k d => match L.e e ρ a with
    | some (.tab t, a₁) => match L.e k ρ a₁ with
      | some (.str l, a₂) => match L.e d ρ a₂ with
        | some (x, a₃) => match Γ.tabs[t]? with
          | some tb => some ((findTab l tb).getD x, a₃)
          | none => none
        | none => none
      | _ => none
    | _ => none
  | .dget kvs i j m => match getV ρ i with
    | some d => match litem a.σ d j with
      | some (.str l) => if j ≤ 1000 then some ((findTab l (kvs.map fun p => (p.1, .int p.2))).getD (.int m), a) else none
      | _ => none
    | none => none
  | .comp elt tgt it ifs fr => evComp L elt tgt it ifs fr ρ a

noncomputable def step1 (st : XS) (ρ : Rho) (a : AS) : Option (Fl × Rho × AS) := match st with
  | .assign i e => match L.e e ρ a with
    | some (d, a') => if i < ρ.length then some (.next, setV ρ i d, a') else none
    | none => none
  | .acomp i (.comp elt tgt it ifs fr) => match evComp L elt tgt it ifs fr ρ a with
    | some (d, a') => if i < ρ.length then some (.next, setV ρ i d, a') else none
    | none => none
  | .acomp _ _ => none
  | .unpack is e => match L.e e ρ a with
    | some (d, a') => (bindT ρ (.many is) d).map fun ρ' => (.next, ρ', a')
    | none => none
  | .aug i e => match getV ρ i with
    | some (.int x) => match L.e e ρ a with
      | some (.int y, a') => if i < ρ.length then some (.next, setV ρ i (.int (x + y)), a') else none
      | _ => none
    | _ => none
  | .ite t b o => match evT L t ρ a with
    | some (true, a') => L.s b ρ a'
    | some (false, a') => L.s o ρ a'
    | none => none
  | .for_ tgt it body => match evIt L it ρ a with
    | some (i, a') => L.f tgt body i ρ a'
    | none => none
  | .ret e => (L.e e ρ a).map fun p => (.ret p.1, ρ, p.2)
  | .append i e => match getV ρ i with
    | some (.lst n) => match L.e e ρ a with
      | some (d, a') => match a'.σ[n]? with
        | some xs => if xs.length ≤ 1000 then some (.next, ρ, { a' with σ := a'.σ.set n (xs ++ [d]) }) else none
        | none => none
      | none => none
    | _ => none
  | .raise_ => none
  | .tryc c i => match getV ρ i with
    | some (.int x) => match evX Γ L c ρ a with
      | some a' => if i < ρ.length then some (.next, setV ρ i (.int (x + 1)), a') else none
      | none => none
    | _ => none

noncomputable def stepS (ss : List XS) (ρ : Rho) (a : AS) : Option (Fl × Rho × AS) := match ss with
  | [] => some (.next, ρ, a)
  | st :: r => match step1 Γ L st ρ a with
    | some (.next, ρ', a') => L.s r ρ' a'
    | some (.ret d, ρ', a') => some (.ret d, ρ', a')
    | none => none

noncomputable def stepF (tgt : Tgt) (body : List XS) (it : ItS) (ρ : Rho) (a : AS) : Option (Fl × Rho × AS) := match nextI tgt a.σ it with
  | some none => some (.next, ρ, a)
  | some (some (d, it')) => match bindT ρ tgt d with
    | some ρ₁ => match L.s body ρ₁ a with
      | some (.next, ρ₂, a₂) => L.f tgt body it' ρ₂ a₂
      | some (.ret x, ρ₂, a₂) => some (.ret x, ρ₂, a₂)
      | none => none
    | none => none
  | none => none

noncomputable def stepG (elt : X) (tgt : Tgt) (ifs : List X) (it : ItS) (acc : Nat) (ρ : Rho) (a : AS) : Option AS := match nextI tgt a.σ it with
  | some none => some a
  | some (some (d, it')) => match bindT ρ tgt d with
    | some ρ₁ => match evIfs L ρ₁ ifs a with
      | some (true, a₁) => match L.e elt ρ₁ a₁ with
        | some (x, a₂) => match a₂.σ[acc]? with
          | some xs => if xs.length ≤ 1000 then L.g elt tgt ifs it' acc ρ₁ { a₂ with σ := a₂.σ.set acc (xs ++ [x]) } else none
          | none => none
        | none => none
      | some (false, a₁) => L.g elt tgt ifs it' acc ρ₁ a₁
      | none => none
    | none => none
  | none => none

/-- does a block raise? -/
noncomputable def stepX (ss : List XS) (ρ : Rho) (a : AS) : Option AS := match ss with
  | [] => none
  | .raise_ :: _ => some a
  | .ite t b o :: r => match evT L t ρ a with
    | some (true, a') => (L.x b ρ a').or (match L.s b ρ a' with
      | some (.next, ρ₁, a₁) => L.x r ρ₁ a₁
      | _ => none)
    | some (false, a') => (L.x o ρ a').or (match L.s o ρ a' with
      | some (.next, ρ₁, a₁) => L.x r ρ₁ a₁
      | _ => none)
    | none => none
  | .assign i e :: r => match evX Γ L e ρ a with
    | some a' => some a'
    | none => match step1 Γ L (.assign i e) ρ a with
      | some (.next, ρ', a') => L.x r ρ' a'
      | _ => none
  | .unpack is e :: r => match evX Γ L e ρ a with
    | some a' => some a'
    | none => match step1 Γ L (.unpack is e) ρ a with
      | some (.next, ρ', a') => L.x r ρ' a'
      | _ => none
  | _ => none

noncomputable def Lv.up : Lv := ⟨stepE Γ L, stepS Γ L, stepF L, stepG L, stepX Γ L⟩
end

noncomputable def lvl (Γ : Globs) : Nat → Lv
  | 0 => Lv.zero
  | n + 1 => (lvl Γ n).up Γ

end Mine
end

section
namespace Mine
open PySem PySem.W PyProof.Rows

/-- What the walk knows of the run, once and for all. -/
structure Cfg where
  prog : Program
  w : World
  K : Frag
  base : Heap
  θ : Nat → Int
  W : Addr
  S : Addr
  ns : List Int
  c0 : Nat
  m : Nat
  spinV : List Int → Nat → Int → Int
  fnA : Nat → Option Addr
  tabA : Nat → Option Addr

/-- one of the four things that a row's free part may be -/
noncomputable def anyPy (i : Int) : PyData :=
  if i = 0 then .str ⟨#[109, 97, 105, 110, 58, 58, 120]⟩ else if i = 1 then .int 7 else if i = 2 then .none else .tuple [.str ⟨#[97]⟩, .str ⟨#[98]⟩]

mutual
inductive Rd (C : Cfg) (φ : List Addr) (h : Heap) : Value → D → Prop
  | none : Rd C φ h .none .none
  | bool (b) : Rd C φ h (.bool b) (.bool b)
  | int (i t) : Rd C φ h (.int i t) (.int i)
  | sym (v c t i) : i = C.θ v + c → Rd C φ h (.int i t) (.sym v c)
  | str (x t l) : x.cps.toList = l → okS l = true → Rd C φ h (.str x t) (.str l)
  | tup {a vs xs} : h.IsTuple a vs → RdL C φ h vs.toList xs → Rd C φ h (.ref a) (.tup xs)
  | lst {a n} : φ[n]? = some a → Rd C φ h (.ref a) (.lst n)
  | clst {a vs xs} : C.base.IsList a vs → RdL C φ h vs.toList xs → Rd C φ h (.ref a) (.clst xs)
  | fn {a k} : C.fnA k = some a → Rd C φ h (.ref a) (.fn k)
  | tab {a k} : C.tabA k = some a → Rd C φ h (.ref a) (.tab k)
  | wheel : Rd C φ h (.ref C.W) .wheel
  | pick (v t i) : i = C.θ v → 0 ≤ i → i < 4 → Rd C φ h (.int i t) (.pick v)
  | any {v k as} : Reads h v (anyPy (C.θ k)) as → Rd C φ h v (.any k)
inductive RdL (C : Cfg) (φ : List Addr) (h : Heap) : List Value → List D → Prop
  | nil : RdL C φ h [] []
  | cons {v vs d ds} : Rd C φ h v d → RdL C φ h vs ds → RdL C φ h (v :: vs) (d :: ds)
end

theorem no_some {α : Type} {P : Prop} {a : α} (h : (none : Option α) = some a) : P := by cases h

theorem RdL.length {C : Cfg} {φ : List Addr} {h : Heap} {vs : List Value} {ds : List D} (R : RdL C φ h vs ds) : vs.length = ds.length := by
  induction ds generalizing vs with
  | nil => cases R; rfl
  | cons d ds ih => cases R with | cons _ r => simp [ih r]

theorem RdL.get {C : Cfg} {φ : List Addr} {h : Heap} {vs : List Value} {ds : List D} {n : Nat} {d : D} (R : RdL C φ h vs ds) (e : ds[n]? = some d) : ∃ v, vs[n]? = some v ∧ Rd C φ h v d := by
  induction ds generalizing vs n with
  | nil => simp at e
  | cons d0 ds ih =>
    cases R with | cons hd r =>
    cases n with
    | zero => simp at e; subst e; exact ⟨_, rfl, hd⟩
    | succ n => simp at e; obtain ⟨v, hv, hr⟩ := ih r e; exact ⟨v, by simpa using hv, hr⟩

theorem RdL.append {C : Cfg} {φ : List Addr} {h : Heap} {vs ws : List Value} {ds es : List D} (q : RdL C φ h vs ds) (r : RdL C φ h ws es) : RdL C φ h (vs ++ ws) (ds ++ es) := by
  induction ds generalizing vs with
  | nil => cases q; exact r
  | cons d ds ih => cases q with | cons hd q => exact .cons hd (ih q)

theorem RdL.take {C : Cfg} {φ : List Addr} {h : Heap} {vs : List Value} {ds : List D} (n : Nat) (r : RdL C φ h vs ds) : RdL C φ h (vs.take n) (ds.take n) := by
  induction n generalizing vs ds with
  | zero => simpa using RdL.nil
  | succ n ih => cases r with
    | nil => exact .nil
    | cons hd q => exact .cons hd (ih q)
theorem RdL.drop {C : Cfg} {φ : List Addr} {h : Heap} {vs : List Value} {ds : List D} (n : Nat) (r : RdL C φ h vs ds) : RdL C φ h (vs.drop n) (ds.drop n) := by
  induction n generalizing vs ds with
  | zero => simpa using r
  | succ n ih => cases r with
    | nil => exact .nil
    | cons hd q => exact ih q

/-- tuples stay -/
noncomputable def TupK (h h' : Heap) : Prop := ∀ a vs, h.IsTuple a vs → h'.IsTuple a vs
theorem TupK.refl (h : Heap) : TupK h h := fun _ _ e => e
theorem TupK.trans {h₁ h₂ h₃ : Heap} (x : TupK h₁ h₂) (y : TupK h₂ h₃) : TupK h₁ h₃ := fun a vs e => y a vs (x a vs e)

theorem readsAny_mono {h h' : Heap} (k : TupK h h') {i : Int} {v : Value} {as : List Addr} (r : Reads h v (anyPy i) as) : ∃ bs, Reads h' v (anyPy i) bs := by
  unfold anyPy at r ⊢
  split at r
  · rename_i h0; rw [if_pos h0]; cases r with | str x t => exact ⟨_, .str _ t⟩
  · rename_i h0
    rw [if_neg h0]
    split at r
    · rename_i h1; rw [if_pos h1]; cases r with | int x t => exact ⟨_, .int _ t⟩
    · rename_i h1
      rw [if_neg h1]
      split at r
      · rename_i h2; rw [if_pos h2]; cases r with | none => exact ⟨_, .none⟩
      · rename_i h2
        rw [if_neg h2]
        cases r with
        | tuple h1 h2 h3 h4 =>
          obtain ⟨o, ho, hc, n, hd⟩ := k _ _ ⟨_, h1, h2, _, h3⟩
          generalize hvs : Array.toList _ = l at h4
          cases h4 with
          | cons q r =>
            cases r with
            | cons q' r' =>
              cases r' with
              | nil =>
                cases q with
                | str x t =>
                  cases q' with
                  | str y u => exact ⟨_, .tuple ho hc hd (by rw [hvs]; exact ReadsAll.cons (.str _ _) (ReadsAll.cons (.str _ _) ReadsAll.nil))⟩

theorem Rd.mono {C : Cfg} {φ φ' : List Addr} {h h' : Heap} (k : TupK h h') (p : φ <+: φ') {v : Value} {d : D} (r : Rd C φ h v d) : Rd C φ' h' v d := by
  refine Rd.rec (motive_1 := fun v d _ => Rd C φ' h' v d) (motive_2 := fun vs ds _ => RdL C φ' h' vs ds) ?_ ?_ ?_ ?_ ?_ ?_ ?_ ?_ ?_ ?_ ?_ ?_ ?_ ?_ ?_ r <;> intros
  case refine_1 => exact .none
  case refine_2 => exact .bool _
  case refine_3 => exact .int _ _
  case refine_4 => rename_i e; exact .sym _ _ _ _ e
  case refine_5 => rename_i e o; exact .str _ _ _ e o
  case refine_6 => rename_i ht hr ih; exact .tup (k _ _ ht) ih
  case refine_7 => rename_i e; exact .lst (by obtain ⟨r, rfl⟩ := p; exact (List.getElem?_append_left (List.getElem?_eq_some_iff.mp e).1).trans e)
  case refine_8 => rename_i hl hr ih; exact .clst hl ih
  case refine_9 => rename_i e; exact .fn e
  case refine_10 => rename_i e; exact .tab e
  case refine_11 => exact .wheel
  case refine_12 => rename_i e e1 e2; exact .pick _ _ _ e e1 e2
  case refine_13 => rename_i r; exact (readsAny_mono k r).elim fun _ q => .any q
  case refine_14 => exact .nil
  case refine_15 => rename_i hd hr ih1 ih2; exact .cons ih1 ih2
theorem RdL.mono {C : Cfg} {φ φ' : List Addr} {h h' : Heap} (k : TupK h h') (p : φ <+: φ') {vs : List Value} {ds : List D} (r : RdL C φ h vs ds) : RdL C φ' h' vs ds := by
  induction ds generalizing vs with
  | nil => cases r; exact .nil
  | cons d ds ih => cases r with | cons hd q => exact .cons (hd.mono k p) (ih q)

/-- the wheel: a counter and the ints drawn from -/
noncomputable def WheelOk (C : Cfg) (o : List (Int × D)) (h : Heap) : Prop :=
  ∃ (c : Nat) (t : Tok) (vs : List Value), h.IsList C.W #[.ref C.S, .int (c : Int) t] ∧ h.IsList C.S vs.toArray ∧ IntsAre vs C.ns ∧ C.ns.length ≤ 60 ∧ (c + o.length = C.c0 + C.m ∧ C.c0 + C.m ≤ 1000000) ∧
    ∀ (j : Nat) (sz : Int) (d : D), o[j]? = some (sz, d) → 0 < sz ∧ sz ≤ 1000 ∧ ∀ φ h u, Rd C φ h (.int (C.spinV C.ns (c + j + 1) sz) u) d

structure HOK (C : Cfg) (φ : List Addr) (a : AS) (l : List Env) (h : Heap) : Prop where
  stays : C.base.StaysIn h
  frames : h.FunFrames C.base l
  len : φ.length = a.σ.length
  nodup : φ.Nodup
  fresh : ∀ x ∈ φ, C.base.get? x = none
  cells : ∀ (n : Nat) (xs : List D), a.σ[n]? = some xs → ∃ (x : Addr) (vs : Array Value), φ[n]? = some x ∧ h.IsList x vs ∧ RdL C φ h vs.toList xs
  wheel : WheelOk C a.o h
  plain : ∀ x ∈ φ, ∃ vs, h.PlainList x vs
  fout : ∀ x ∈ l.filterMap (·.frame), x ∉ φ ∧ x ≠ C.W ∧ x ≠ C.S
  wfresh : C.base.get? C.W = none
  wout : C.W ∉ φ
  sout : C.S ∉ φ
  sw : C.S ≠ C.W

/-- the frames whose notes may turn -/
noncomputable def frs (l : List Env) : List Addr := l.filterMap (·.frame)

/-- What a step may change: mutable cells, the wheel, the places of X; of the frames in F their notes. -/
structure Aft (C : Cfg) (φ φ' : List Addr) (X F : List Addr) (h h' : Heap) : Prop where
  keep : ∀ b o, h.get? b = some o → b ∉ φ → b ≠ C.W → b ∉ X → ∃ sl, h'.get? b = some { o with slots := sl } ∧ (b ∉ F → sl = o.slots)
  ext : φ <+: φ'
  new : ∀ x ∈ φ', x ∈ φ ∨ h.get? x = none
  alive : ∀ b, (h.get? b).isSome → (h'.get? b).isSome
  tup : TupK h h'

theorem Aft.refl {C : Cfg} {φ : List Addr} {X F : List Addr} (h : Heap) : Aft C φ φ X F h h :=
  ⟨fun _ o e _ _ _ => ⟨o.slots, e, fun _ => rfl⟩, List.prefix_rfl, fun _ hx => .inl hx, fun _ e => e, TupK.refl h⟩

theorem Aft.trans {C : Cfg} {φ₁ φ₂ φ₃ : List Addr} {X F : List Addr} {h₁ h₂ h₃ : Heap} (x : Aft C φ₁ φ₂ X F h₁ h₂) (y : Aft C φ₂ φ₃ X F h₂ h₃) : Aft C φ₁ φ₃ X F h₁ h₃ where
  keep := fun b o e n1 n2 n3 => by
    obtain ⟨sl, e', q1⟩ := x.keep b o e n1 n2 n3
    have : b ∉ φ₂ := fun hb => by
      rcases x.new b hb with q | q
      · exact n1 q
      · rw [e] at q; cases q
    obtain ⟨sl', e'', q2⟩ := y.keep b _ e' this n2 n3
    exact ⟨sl', e'', fun hF => (q2 hF).trans (q1 hF)⟩
  ext := x.ext.trans y.ext
  new := fun b hb => by
    rcases y.new b hb with q | q
    · exact x.new b q
    · right
      cases e : h₁.get? b with
      | none => rfl
      | some o =>
        have := x.alive b (by rw [e]; rfl)
        rw [q] at this; cases this
  alive := fun b e => y.alive b (x.alive b e)
  tup := x.tup.trans y.tup

theorem Aft.mono {C : Cfg} {φ₁ φ₂ : List Addr} {X Y F : List Addr} {h₁ h₂ : Heap} (x : Aft C φ₁ φ₂ X F h₁ h₂) (hs : ∀ b ∈ X, b ∈ Y) : Aft C φ₁ φ₂ Y F h₁ h₂ :=
  ⟨fun b o e n1 n2 n3 => x.keep b o e n1 n2 fun q => n3 (hs b q), x.ext, x.new, x.alive, x.tup⟩

theorem Aft.of_keeps {C : Cfg} {φ : List Addr} {X F : List Addr} {h h' : Heap} (k : ∀ b o, h.get? b = some o → h'.get? b = some o) : Aft C φ φ X F h h' :=
  ⟨fun b o e _ _ _ => ⟨o.slots, k b o e, fun _ => rfl⟩, List.prefix_rfl, fun _ hx => .inl hx, fun b e => by
    obtain ⟨o, ho⟩ := Option.isSome_iff_exists.mp e
    rw [k b o ho]; rfl, fun a vs ⟨o, ho, r⟩ => ⟨o, k a o ho, r⟩⟩

theorem HOK.keeps {C : Cfg} {φ : List Addr} {a : AS} {l : List Env} {h h' : Heap} (H : HOK C φ a l h) (k : ∀ b o, h.get? b = some o → h'.get? b = some o) : HOK C φ a l h' where
  stays := fun b o e => k b o (H.stays b o e)
  frames := H.frames.of_keeps fun b o e _ => ⟨o, k b o e, rfl⟩
  len := H.len
  nodup := H.nodup
  fresh := H.fresh
  cells := fun n xs e => by
    obtain ⟨x, vs, e1, ⟨o, ho, r⟩, e3⟩ := H.cells n xs e
    exact ⟨x, vs, e1, ⟨o, k _ _ ho, r⟩, e3.mono (fun a vs ⟨o, ho, r⟩ => ⟨o, k _ _ ho, r⟩) List.prefix_rfl⟩
  wheel := by
    obtain ⟨c, t, vs, ⟨o, ho, r⟩, ⟨o', ho', r'⟩, h3⟩ := H.wheel
    exact ⟨c, t, vs, ⟨o, k _ _ ho, r⟩, ⟨o', k _ _ ho', r'⟩, h3⟩
  plain := fun x hx => let ⟨vs, n, e⟩ := H.plain x hx; ⟨vs, n, k _ _ e⟩
  fout := H.fout
  wfresh := H.wfresh
  wout := H.wout
  sout := H.sout
  sw := H.sw

end Mine
end

section
namespace Mine
open PySem PySem.W PyProof.Rows PySem.SeqAt

/-- the data of the library that a datum stands for -/
noncomputable def toPy (C : Cfg) (σ : List (List D)) : Nat → D → Option PyData
  | 0, _ => none
  | n + 1, d => match d with
    | .none => some .none
    | .bool b => some (.bool b)
    | .int i => some (.int i)
    | .sym v c => some (.int (C.θ v + c))
    | .str l => if okS l then some (.str ⟨l.toArray⟩) else none
    | .tup xs => (toPys C σ n xs).map .tuple
    | .clst xs => (toPys C σ n xs).map .list
    | .lst m => match σ[m]? with
      | some xs => (toPys C σ n xs).map .list
      | none => none
    | .any k => some (anyPy (C.θ k))
    | _ => none
where
  toPys (C : Cfg) (σ : List (List D)) : Nat → List D → Option (List PyData)
  | 0, _ => none
  | _ + 1, [] => some []
  | n + 1, x :: xs => match toPy C σ n x, toPys C σ n xs with
    | some p, some q => some (p :: q)
    | _, _ => none

noncomputable def Cells (C : Cfg) (φ : List Addr) (σ : List (List D)) (h : Heap) : Prop :=
  ∀ (n : Nat) (xs : List D), σ[n]? = some xs → ∃ (x : Addr) (vs : Array Value), φ[n]? = some x ∧ h.IsList x vs ∧ RdL C φ h vs.toList xs

theorem str_eta (x : Str) {l : List Nat} (e : x.cps.toList = l) : x = ⟨l.toArray⟩ := by
  cases x; subst e; rfl

mutual
theorem rd_reads {C : Cfg} {φ : List Addr} {σ : List (List D)} {h : Heap} (K : Cells C φ σ h) (B : C.base.StaysIn h) : ∀ (n : Nat) (d : D) (v : Value) (p : PyData), Rd C φ h v d → toPy C σ n d = some p → ∃ as, Reads h v p as
  | 0, _, _, _, _, e => by simp [toPy] at e
  | n + 1, d, v, p, r, e => by
    cases r with
    | none => simp [toPy] at e; subst e; exact ⟨_, .none⟩
    | bool b => simp [toPy] at e; subst e; exact ⟨_, .bool b⟩
    | int i t => simp [toPy] at e; subst e; exact ⟨_, .int i t⟩
    | sym u c t i q => simp [toPy] at e; subst e; subst q; exact ⟨_, .int _ t⟩
    | str x t l q o =>
      rw [str_eta x q] at *
      simp only [toPy, o, if_true, Option.some.injEq] at e; subst e; exact ⟨_, .str _ t⟩
    | tup ht rl =>
      obtain ⟨o, ho, hc, m, hd⟩ := ht
      simp only [toPy, Option.map_eq_some_iff] at e
      obtain ⟨ps, e, rfl⟩ := e
      obtain ⟨as, ra⟩ := rdl_reads K B n _ _ _ rl e
      exact ⟨_, .tuple ho hc hd ra⟩
    | clst hl rl =>
      obtain ⟨o, ho, hc, m, hd⟩ := hl
      simp only [toPy, Option.map_eq_some_iff] at e
      obtain ⟨ps, e, rfl⟩ := e
      obtain ⟨as, ra⟩ := rdl_reads K B n _ _ _ rl e
      exact ⟨_, .list (B _ _ ho) hc hd ra⟩
    | lst q =>
      simp only [toPy] at e
      split at e
      · rename_i xs hx
        obtain ⟨x, vs, q', ⟨o, ho, hc, m, hd⟩, rl⟩ := K _ _ hx
        rw [q] at q'; cases q'
        simp only [Option.map_eq_some_iff] at e
        obtain ⟨ps, e, rfl⟩ := e
        obtain ⟨as, ra⟩ := rdl_reads K B n _ _ _ rl e
        exact ⟨_, .list ho hc hd ra⟩
      · cases e
    | fn _ => simp [toPy] at e
    | tab _ => simp [toPy] at e
    | wheel => simp [toPy] at e
    | pick _ _ _ _ _ _ => simp [toPy] at e
    | any r => simp [toPy] at e; subst e; exact ⟨_, r⟩
theorem rdl_reads {C : Cfg} {φ : List Addr} {σ : List (List D)} {h : Heap} (K : Cells C φ σ h) (B : C.base.StaysIn h) : ∀ (n : Nat) (ds : List D) (vs : List Value) (ps : List PyData), RdL C φ h vs ds → toPy.toPys C σ n ds = some ps → ∃ as, ReadsAll h vs ps as
  | 0, _, _, _, _, e => by simp [toPy.toPys] at e
  | n + 1, [], _, _, r, e => by
    cases r
    simp [toPy.toPys] at e; subst e; exact ⟨_, .nil⟩
  | n + 1, d :: ds, _, _, r, e => by
    cases r with
    | cons hd rl =>
      simp only [toPy.toPys] at e
      split at e
      · rename_i p q e1 e2
        cases e
        obtain ⟨as, ra⟩ := rd_reads K B n _ _ _ hd e1
        obtain ⟨bs, rb⟩ := rdl_reads K B n _ _ _ rl e2
        exact ⟨_, .cons ra rb⟩
      · cases e
end

theorem anyPy_can (i : Int) : (anyPy i).canLay0 = true := by
  unfold anyPy
  split
  · decide +kernel
  · split
    · decide +kernel
    · split <;> decide +kernel
theorem anyPy_depth (i : Int) : (anyPy i).depth ≤ 2 := by
  unfold anyPy
  split
  · decide +kernel
  · split
    · decide +kernel
    · split <;> decide +kernel

theorem okS_can {l : List Nat} (h : okS l = true) : PyData.strOk ⟨l.toArray⟩ = true := by
  simp only [okS, Bool.and_eq_true, List.all_eq_true, decide_eq_true_eq] at h
  simp only [PyData.strOk, Array.all_eq_true', decide_eq_true_eq]
  intro x hx
  have := h.2 x (by simpa using hx)
  omega

mutual
theorem toPy_can {C : Cfg} {σ : List (List D)} : ∀ (n : Nat) (d : D) (p : PyData), toPy C σ n d = some p → p.canLay0 = true ∧ p.depth ≤ n + 2
  | 0, _, _, e => by simp [toPy] at e
  | n + 1, d, p, e => by
    unfold toPy at e
    split at e
    · cases e; simp [PyData.canLay0, PyData.depth]
    · cases e; simp [PyData.canLay0, PyData.depth]
    · cases e; simp [PyData.canLay0, PyData.depth]
    · cases e; simp [PyData.canLay0, PyData.depth]
    · split at e
      · rename_i o; cases e; simp [PyData.canLay0, PyData.depth, okS_can o]
      · cases e
    · simp only [Option.map_eq_some_iff] at e
      obtain ⟨ps, e, rfl⟩ := e
      have := toPys_can n _ _ e
      simp only [PyData.canLay0, PyData.depth, this.1, true_and]
      omega
    · simp only [Option.map_eq_some_iff] at e
      obtain ⟨ps, e, rfl⟩ := e
      have := toPys_can n _ _ e
      simp only [PyData.canLay0, PyData.depth, this.1, true_and]
      omega
    · split at e
      · simp only [Option.map_eq_some_iff] at e
        obtain ⟨ps, e, rfl⟩ := e
        have := toPys_can n _ _ e
        simp only [PyData.canLay0, PyData.depth, this.1, true_and]
        omega
      · cases e
    · cases e
      exact ⟨anyPy_can _, Nat.le_trans (anyPy_depth _) (by omega)⟩
    · cases e
theorem toPys_can {C : Cfg} {σ : List (List D)} : ∀ (n : Nat) (ds : List D) (ps : List PyData), toPy.toPys C σ n ds = some ps → PyData.canLayAll0 ps = true ∧ PyData.depthAll ps ≤ n + 2
  | 0, _, _, e => by simp [toPy.toPys] at e
  | n + 1, [], _, e => by
    simp [toPy.toPys] at e; subst e; simp [PyData.canLayAll0, PyData.depthAll]
  | n + 1, d :: ds, _, e => by
    simp only [toPy.toPys] at e
    split at e
    · rename_i p q e1 e2
      cases e
      have h1 := toPy_can n _ _ e1
      have h2 := toPys_can n _ _ e2
      simp only [PyData.canLayAll0, PyData.depthAll, h1.1, h2.1, Bool.and_self, true_and]
      omega
    · cases e
end

theorem eqv_anyPy (i : Int) : PyData.eqv (anyPy i) (anyPy i) = true := eqv_refl _ (anyPy_can i)

mutual
theorem deq_eqv {C : Cfg} {φ : List Addr} {σ : List (List D)} {h : Heap} (K : Cells C φ σ h) : ∀ (n : Nat) (d e : D) (b : Bool) (v u : Value), Rd C φ h v d → Rd C φ h u e → deq σ n d e = some b →
    ∃ p q, toPy C σ n d = some p ∧ toPy C σ n e = some q ∧ PyData.eqv p q = b
  | 0, _, _, _, _, _, _, _, h => by simp [deq] at h
  | n + 1, d, e, b, v, u, rv, ru, hd => by
    unfold deq at hd
    split at hd
    · cases hd; exact ⟨_, _, rfl, rfl, rfl⟩
    · cases hd; exact ⟨_, _, rfl, rfl, by simp [PyData.eqv]⟩
    · cases hd; exact ⟨_, _, rfl, rfl, by simp [PyData.eqv]⟩
    · split at hd
      · rename_i w c w' c' q
        subst q
        cases hd
        refine ⟨.int (C.θ w + c), .int (C.θ w + c'), rfl, rfl, ?_⟩
        rw [PyData.eqv]
        by_cases h : c = c'
        · subst h; simp
        · have : ¬ (C.θ w + c = C.θ w + c') := by omega
          exact (beq_eq_false_iff_ne.mpr this).trans (beq_eq_false_iff_ne.mpr h).symm
      · cases hd
    · split at hd
      · rename_i e; subst e
        cases hd
        exact ⟨_, _, rfl, rfl, eqv_anyPy _⟩
      · cases hd
    · cases hd
      cases rv with
      | str x t l q o => cases ru with
        | str x' t' l' q' o' =>
          rename_i l m
          refine ⟨.str ⟨l.toArray⟩, .str ⟨m.toArray⟩, by simp only [toPy, o, if_true], by simp only [toPy, o', if_true], ?_⟩
          simp only [PyData.eqv]
          rw [Bool.eq_iff_iff]
          simp only [beq_iff_eq, Str.mk.injEq]
          constructor
          · intro h; exact congrArg Array.toList h
          · intro h; rw [h]
    · cases rv with
      | tup h1 r1 => cases ru with
        | tup h2 r2 =>
          obtain ⟨p, q, e1, e2, e3⟩ := deqs_eqv K n _ _ _ _ _ r1 r2 hd
          exact ⟨.tuple p, .tuple q, by simp only [toPy, e1, Option.map_some], by simp only [toPy, e2, Option.map_some], by rw [PyData.eqv]; exact e3⟩
    · split at hd
      · rename_i xs ys hx hy
        obtain ⟨_, _, _, _, r1⟩ := K _ _ hx
        obtain ⟨_, _, _, _, r2⟩ := K _ _ hy
        obtain ⟨p, q, e1, e2, e3⟩ := deqs_eqv K n _ _ _ _ _ r1 r2 hd
        exact ⟨.list p, .list q, by simp only [toPy, hx, e1, Option.map_some], by simp only [toPy, hy, e2, Option.map_some], by rw [PyData.eqv]; exact e3⟩
      · cases hd
    · split at hd
      · rename_i xs hx
        obtain ⟨_, _, _, _, r1⟩ := K _ _ hx
        cases ru with
        | clst h2 r2 =>
          obtain ⟨p, q, e1, e2, e3⟩ := deqs_eqv K n _ _ _ _ _ r1 r2 hd
          exact ⟨.list p, .list q, by simp only [toPy, hx, e1, Option.map_some], by simp only [toPy, e2, Option.map_some], by rw [PyData.eqv]; exact e3⟩
      · cases hd
    · split at hd
      · rename_i ys hy
        obtain ⟨_, _, _, _, r2⟩ := K _ _ hy
        cases rv with
        | clst h1 r1 =>
          obtain ⟨p, q, e1, e2, e3⟩ := deqs_eqv K n _ _ _ _ _ r1 r2 hd
          exact ⟨.list p, .list q, by simp only [toPy, e1, Option.map_some], by simp only [toPy, hy, e2, Option.map_some], by rw [PyData.eqv]; exact e3⟩
      · cases hd
    · cases hd
theorem deqs_eqv {C : Cfg} {φ : List Addr} {σ : List (List D)} {h : Heap} (K : Cells C φ σ h) : ∀ (n : Nat) (ds es : List D) (b : Bool) (vs us : List Value), RdL C φ h vs ds → RdL C φ h us es → deq.deqs σ n ds es = some b →
    ∃ p q, toPy.toPys C σ n ds = some p ∧ toPy.toPys C σ n es = some q ∧ PyData.eqvAll p q = b
  | 0, _, _, _, _, _, _, _, h => by simp [deq.deqs] at h
  | n + 1, [], [], _, _, _, _, _, h => by
    simp [deq.deqs] at h; subst h; exact ⟨_, _, rfl, rfl, rfl⟩
  | n + 1, [], e :: es, b, _, _, .nil, .cons a2 r2, hd => by
    simp only [deq.deqs] at hd
    split at hd
    · rename_i x y e1 e2
      cases hd
      obtain ⟨p, q, f1, f2, f3⟩ := deq_eqv K n _ _ _ _ _ a2 a2 e1
      obtain ⟨ps, qs, g1, g2, g3⟩ := deqs_eqv K n _ _ _ _ _ .nil r2 e2
      exact ⟨[], q :: qs, rfl, by simp only [toPy.toPys, f2, g2], rfl⟩
    · cases hd
  | n + 1, d :: ds, [], b, _, _, .cons a1 r1, .nil, hd => by
    simp only [deq.deqs] at hd
    split at hd
    · rename_i x y e1 e2
      cases hd
      obtain ⟨p, q, f1, f2, f3⟩ := deq_eqv K n _ _ _ _ _ a1 a1 e1
      obtain ⟨ps, qs, g1, g2, g3⟩ := deqs_eqv K n _ _ _ _ _ r1 .nil e2
      exact ⟨p :: ps, [], by simp only [toPy.toPys, f1, g1], rfl, rfl⟩
    · cases hd
  | n + 1, d :: ds, e :: es, b, _, _, .cons a1 r1, .cons a2 r2, hd => by
    simp only [deq.deqs] at hd
    split at hd
    · rename_i x y e1 e2
      cases hd
      obtain ⟨p, q, f1, f2, f3⟩ := deq_eqv K n _ _ _ _ _ a1 a2 e1
      obtain ⟨ps, qs, g1, g2, g3⟩ := deqs_eqv K n _ _ _ _ _ r1 r2 e2
      exact ⟨p :: ps, q :: qs, by simp only [toPy.toPys, f1, g1], by simp only [toPy.toPys, f2, g2], by rw [PyData.eqvAll, f3, g3]⟩
    · cases hd
end

end Mine
end

section
namespace Mine
open PySem PySem.W PyProof.Rows PySem.SeqAt

theorem HOK.K {C : Cfg} {φ : List Addr} {a : AS} {l : List Env} {h : Heap} (H : HOK C φ a l h) : Cells C φ a.σ h := H.cells

/-- what holds behind an expression -/
noncomputable def Post (C : Cfg) (φ : List Addr) (l : List Env) (s : Shared) (d : D) (a' : AS) (Q : Value → Shared → Prop) : Prop :=
  ∀ v h' tk φ', HOK C φ' a' l h' → Aft C φ φ' [] (frs l) s.heap h' → Rd C φ' h' v d → Q v { s with heap := h', toks := tk }

theorem Post.here {C : Cfg} {φ : List Addr} {l : List Env} {s : Shared} {d : D} {a : AS} {Q : Value → Shared → Prop} (P : Post C φ l s d a Q) {v : Value} (H : HOK C φ a l s.heap) (r : Rd C φ s.heap v d) (tk : Nat) :
    Q v { s with toks := tk } := P v s.heap tk φ H (Aft.refl _) r

/-- a new object that is no mutable cell -/
theorem Post.push {C : Cfg} {φ : List Addr} {l : List Env} {s : Shared} {d : D} {a : AS} {Q : Value → Shared → Prop} (P : Post C φ l s d a Q) {v : Value} {h' : Heap} (k : ∀ b o, s.heap.get? b = some o → h'.get? b = some o)
    (H : HOK C φ a l s.heap) (r : Rd C φ h' v d) (tk : Nat) : Q v { s with heap := h', toks := tk } := P v h' tk φ (H.keeps k) (Aft.of_keeps k) r

theorem get_size_none (h : Heap) : h.get? h.objs.size = none := by
  cases e : h.get? h.objs.size with
  | none => rfl
  | some o => exact absurd (Heap.lt_size e) (Nat.lt_irrefl _)

theorem HOK.lt {C : Cfg} {φ : List Addr} {a : AS} {l : List Env} {h : Heap} (H : HOK C φ a l h) : ∀ x ∈ φ, (h.get? x).isSome := by
  intro x hx
  obtain ⟨n, hn, e⟩ := List.getElem_of_mem hx
  have hn' : n < a.σ.length := H.len ▸ hn
  obtain ⟨y, vs, e1, ⟨o, ho, _⟩, _⟩ := H.cells n a.σ[n] (List.getElem?_eq_getElem hn')
  rw [List.getElem?_eq_getElem hn, e] at e1
  cases e1
  rw [ho]; rfl

/-- a new mutable cell: a list just made -/
theorem HOK.newCell {C : Cfg} {φ : List Addr} {a : AS} {l : List Env} {h h' : Heap} (H : HOK C φ a l h) (k : ∀ b o, h.get? b = some o → h'.get? b = some o) {x : Addr} {vs : Array Value} {xs : List D}
    (hx : h.get? x = none) (hp : h'.PlainList x vs) (r : RdL C φ h' vs.toList xs) : HOK C (φ ++ [x]) { a with σ := a.σ ++ [xs] } l h' := by
  have H' := H.keeps k
  have hl := hp.isList
  have hnew : x ∉ φ := fun hm => by have := H.lt x hm; rw [hx] at this; cases this
  have tk : TupK h' h' := TupK.refl _
  have pf : φ <+: φ ++ [x] := ⟨[x], rfl⟩
  refine ⟨H'.stays, H'.frames, by simp [H.len], ?_, ?_, ?_, H'.wheel, ?_, ?_, H.wfresh, ?_, ?_, H.sw⟩
  · exact List.nodup_append.mpr ⟨H.nodup, by simp, fun a ha b hb e => by simp at hb; subst hb; subst e; exact hnew ha⟩
  · intro y hy
    rcases List.mem_append.mp hy with hy | hy
    · exact H.fresh y hy
    · simp at hy; subst hy
      cases q : C.base.get? y with
      | none => rfl
      | some o => have := H.stays y o q; rw [hx] at this; cases this
  · intro n ys hn
    by_cases hlt : n < a.σ.length
    · rw [List.getElem?_append_left hlt] at hn
      obtain ⟨y, ws, e1, e2, e3⟩ := H'.cells n ys hn
      exact ⟨y, ws, by rw [List.getElem?_append_left (by rw [H.len]; exact hlt)]; exact e1, e2, e3.mono tk pf⟩
    · have hn' : n = a.σ.length := by
        have := (List.getElem?_eq_some_iff.mp hn).1
        simp at this; omega
      subst hn'
      simp at hn; subst hn
      refine ⟨x, vs, ?_, hl, r.mono tk pf⟩
      rw [← H.len]; simp
  · intro y hy
    rcases List.mem_append.mp hy with hy | hy
    · exact H'.plain y hy
    · simp at hy; subst hy; exact ⟨vs, hp⟩
  · intro y hy
    refine ⟨fun hm => ?_, (H.fout y hy).2⟩
    rcases List.mem_append.mp hm with hm | hm
    · exact (H.fout y hy).1 hm
    · simp at hm; subst hm
      obtain ⟨_, o, ho, _⟩ := H.frames.mem hy
      rw [hx] at ho; cases ho
  · intro hm
    rcases List.mem_append.mp hm with hm | hm
    · exact H.wout hm
    · simp at hm
      obtain ⟨_, _, _, ⟨o, ho, _⟩, _⟩ := H.wheel
      rw [hm, hx] at ho; cases ho
  · intro hm
    rcases List.mem_append.mp hm with hm | hm
    · exact H.sout hm
    · simp at hm
      obtain ⟨_, _, _, _, ⟨o, ho, _⟩, _⟩ := H.wheel
      rw [hm, hx] at ho; cases ho

theorem Aft.newCell {C : Cfg} {φ : List Addr} {X F : List Addr} {h h' : Heap} (k : ∀ b o, h.get? b = some o → h'.get? b = some o) {x : Addr} (hx : h.get? x = none) : Aft C φ (φ ++ [x]) X F h h' := by
  have A := Aft.of_keeps (C := C) (φ := φ) (X := X) (F := F) k
  refine ⟨A.keep, ⟨[x], rfl⟩, fun y hy => ?_, A.alive, A.tup⟩
  rcases List.mem_append.mp hy with hy | hy
  · exact .inl hy
  · simp at hy; subst hy; exact .inr hx

theorem Post.newCell {C : Cfg} {φ : List Addr} {l : List Env} {s : Shared} {a : AS} {xs : List D} {Q : Value → Shared → Prop} (P : Post C φ l s (a.new xs).1 (a.new xs).2 Q) {h' : Heap}
    (k : ∀ b o, s.heap.get? b = some o → h'.get? b = some o) (H : HOK C φ a l s.heap) {x : Addr} {vs : Array Value}
    (hx : s.heap.get? x = none) (hl : h'.PlainList x vs) (r : RdL C φ h' vs.toList xs) (tk : Nat) : Q (.ref x) { s with heap := h', toks := tk } := by
  refine P _ h' tk (φ ++ [x]) (H.newCell k hx hl r) (Aft.newCell k hx) (.lst ?_)
  show (φ ++ [x])[a.σ.length]? = some x
  rw [← H.len]; simp

theorem push_keeps (h : Heap) (o : Obj) : ∀ b x, h.get? b = some x → (h.push o).get? b = some x := fun _ _ e => Heap.get?_push_of_some _ e

theorem TupK.of_keeps {h h' : Heap} (k : ∀ b o, h.get? b = some o → h'.get? b = some o) : TupK h h' := fun a vs ⟨o, ho, r⟩ => ⟨o, k a o ho, r⟩

theorem isTuple_push (h : Heap) (vs : Array Value) : (h.push { cls := .type "tuple", data := .seq vs }).IsTuple h.objs.size vs := ⟨_, Heap.get?_push_size _ rfl, rfl, _, rfl⟩
theorem plain_push (h : Heap) (vs : Array Value) : (h.push { cls := .type "list", data := .seq vs }).PlainList h.objs.size vs := ⟨_, Heap.get?_push_size _ rfl⟩
theorem isList_push (h : Heap) (vs : Array Value) : (h.push { cls := .type "list", data := .seq vs }).IsList h.objs.size vs := ⟨_, Heap.get?_push_size _ rfl, rfl, _, rfl⟩

/-- what items a list or a tuple has -/
theorem rd_items {C : Cfg} {φ : List Addr} {a : AS} {l : List Env} {h : Heap} (H : HOK C φ a l h) {v : Value} {d : D} {xs : List D} (r : Rd C φ h v d) (e : items a.σ d = some xs) :
    ∃ x vs, v = .ref x ∧ h.IsList x vs ∧ RdL C φ h vs.toList xs := by
  unfold items at e
  split at e
  · cases e
    cases r with
    | clst hl rl => obtain ⟨o, ho, r⟩ := hl; exact ⟨_, _, rfl, ⟨o, H.stays _ _ ho, r⟩, rl⟩
  · cases r with
    | lst q =>
      obtain ⟨x, vs, q', hl, rl⟩ := H.cells _ _ e
      rw [q] at q'; cases q'
      exact ⟨_, vs, rfl, hl, rl⟩
  · cases e

end Mine
end

section
namespace Mine
open PySem PySem.W PyProof.Rows PySem.SeqAt

theorem okS_append {l m : List Nat} (h1 : okS l = true) (h2 : okS m = true) (h : l.length + m.length ≤ 1000) : okS (l ++ m) = true := by
  simp only [okS, Bool.and_eq_true, decide_eq_true_eq, List.all_eq_true] at *
  exact ⟨by simp; exact h, fun x hx => (List.mem_append.mp hx).elim (h1.2 x) (h2.2 x)⟩
theorem okS_sub {l m : List Nat} (h1 : okS l = true) (h : m.length ≤ l.length) (hs : ∀ x ∈ m, x ∈ l) : okS m = true := by
  simp only [okS, Bool.and_eq_true, decide_eq_true_eq, List.all_eq_true] at *
  exact ⟨by omega, fun x hx => h1.2 x (hs x hx)⟩
theorem okS_len {x : Str} {l : List Nat} (e : x.cps.toList = l) (h : okS l = true) : x.length ≤ 1000 := by
  simp only [okS, Bool.and_eq_true, decide_eq_true_eq] at h
  rw [str_eta x e]
  simpa [PySem.Str.length] using h.1

section
variable {prog : Program} {w : World} {A : Around} {E : Value → Shared → Prop} {s : Shared}
theorem add_lists_raw {l b : Addr} {vs ws : Array Value} {Q : Value → Shared → Prop} (hl : s.heap.IsList l vs) (hb : s.heap.IsList b ws) (hsz : vs.size + ws.size ≤ sizeLine)
    (h : Q (.ref s.heap.objs.size) { s with heap := s.heap.push { cls := .type "list", data := .seq (vs ++ ws) } }) : wpAny (model prog w) A (binaryOp .Add (.ref l) (.ref b)) Q E s := by
  obtain ⟨⟨cls, dd, data, sl⟩, ho, hc, n, hd⟩ := id hl
  obtain ⟨⟨cls2, dd2, data2, sl2⟩, ho2, hc2, n2, hd2⟩ := id hb
  simp only at hc hd hc2 hd2
  subst hc hd hc2 hd2
  exact concat_meets ⟨_, ho, rfl⟩ ⟨_, ho2, rfl⟩ noFill_list_add seq_list_add PySem.F.slot_list_add PySem.F.entry_list_add (PySem.F.args_list_add_2 _ _) (list_addW l b vs ws n n2 dd dd2 sl sl2 hsz) ⟨ho, ho2, h⟩

theorem add_tuples_raw {t b : Addr} {vs ws : Array Value} {Q : Value → Shared → Prop} (ht : s.heap.IsTuple t vs) (hb : s.heap.IsTuple b ws) (hsz : vs.size + ws.size ≤ sizeLine)
    (h0 : vs.toList = [] → Q (.ref b) s) (h1 : ws.toList = [] → Q (.ref t) s)
    (h : Q (.ref s.heap.objs.size) { s with heap := s.heap.push { cls := .type "tuple", data := .seq (vs ++ ws) } }) : wpAny (model prog w) A (binaryOp .Add (.ref t) (.ref b)) Q E s := by
  obtain ⟨⟨cls, dd, data, sl⟩, ho, hc, n, hd⟩ := id ht
  obtain ⟨⟨cls2, dd2, data2, sl2⟩, ho2, hc2, n2, hd2⟩ := id hb
  simp only at hc hd hc2 hd2
  subst hc hd hc2 hd2
  by_cases hv : vs.isEmpty = true
  · exact concat_meets ⟨_, ho, rfl⟩ ⟨_, ho2, rfl⟩ noFill_tuple_add seq_tuple_add PySem.F.slot_tuple_add PySem.F.entry_tuple_add (PySem.F.args_tuple_add_2 _ _)
      (tuple_addW0 t b vs ws n n2 dd dd2 sl sl2 hv) ⟨ho, ho2, h0 (by simpa using hv)⟩
  · by_cases hw : ws.isEmpty = true
    · exact concat_meets ⟨_, ho, rfl⟩ ⟨_, ho2, rfl⟩ noFill_tuple_add seq_tuple_add PySem.F.slot_tuple_add PySem.F.entry_tuple_add (PySem.F.args_tuple_add_2 _ _)
        (tuple_addW1 t b vs ws n n2 dd dd2 sl sl2 hv hw) ⟨ho, ho2, h1 (by simpa using hw)⟩
    · exact concat_meets ⟨_, ho, rfl⟩ ⟨_, ho2, rfl⟩ noFill_tuple_add seq_tuple_add PySem.F.slot_tuple_add PySem.F.entry_tuple_add (PySem.F.args_tuple_add_2 _ _)
        (tuple_addW2 t b vs ws n n2 dd dd2 sl sl2 hv hw hsz) ⟨ho, ho2, h⟩
end

theorem line_big : 2000 ≤ sizeLine := by decide

section
variable {C : Cfg} {φ : List Addr} {a a' : AS} {l : List Env} {A : Around} {E : Value → Shared → Prop} {s : Shared} {Q : Value → Shared → Prop}

theorem add_sound {x y d : D} {v u : Value} (H : HOK C φ a l s.heap) (rv : Rd C φ s.heap v x) (ru : Rd C φ s.heap u y) (e : addD a x y = some (d, a')) (P : Post C φ l s d a' Q) :
    wpAny (model C.prog C.w) A (binaryOp .Add v u) Q E s := by
  unfold addD at e
  split at e
  · cases e
    cases rv with | int i t => cases ru with | int j t' => exact PyProof.Rows.add_int (P.here H (.int _ _) _)
  · cases e
    cases rv with | sym k c t i q => cases ru with | int j t' => exact PyProof.Rows.add_int (P.here H (.sym _ _ _ _ (by subst q; omega)) _)
  · cases e
    cases rv with | int j t' => cases ru with | sym k c t i q => exact PyProof.Rows.add_int (P.here H (.sym _ _ _ _ (by subst q; omega)) _)
  · split at e
    · rename_i hle
      cases e
      cases rv with
      | str p t q e1 o1 => cases ru with
        | str p' t' q' e2 o2 =>
          refine PyProof.Rows.add_str (fun t' tk => P.here H (.str _ _ _ ?_ (okS_append o1 o2 hle)) tk) (by
            have h1 := okS_len e1 o1
            have h2 := okS_len e2 o2
            have := line_big
            omega)
          rw [Str.cps_append, Array.toList_append, e1, e2]
    · cases e
  · split at e
    · rename_i hle
      cases e
      cases rv with
      | @tup _ vs _ h1 r1 => cases ru with
        | @tup _ ws _ h2 r2 =>
          have l1 := r1.length
          have l2 := r2.length
          simp only [Array.length_toList] at l1 l2
          refine add_tuples_raw h1 h2 (by have := line_big; omega) (fun q => ?_) (fun q => ?_) ?_
          · rw [q] at r1; cases r1
            exact P.here H (.tup h2 r2) s.toks
          · rw [q] at r2; cases r2
            exact P.here H (.tup h1 (by simpa using r1)) s.toks
          · have k := push_keeps s.heap { cls := .type "tuple", data := .seq (vs ++ ws) }
            exact P.push k H (.tup (isTuple_push _ _) (by
              rw [Array.toList_append]
              exact (r1.mono (TupK.of_keeps k) List.prefix_rfl).append (r2.mono (TupK.of_keeps k) List.prefix_rfl))) s.toks
    · cases e
  · split at e
    · rename_i xs ys e1 e2
      split at e
      · rename_i hle
        cases e
        obtain ⟨p, vs, rfl, h1, r1⟩ := rd_items H rv e1
        obtain ⟨q, ws, rfl, h2, r2⟩ := rd_items H ru e2
        have l1 := r1.length
        have l2 := r2.length
        simp only [Array.length_toList] at l1 l2
        refine add_lists_raw h1 h2 (by have := line_big; omega) ?_
        have k := push_keeps s.heap { cls := .type "list", data := .seq (vs ++ ws) }
        exact P.newCell k H (get_size_none _) (plain_push _ _) (by
          rw [Array.toList_append]
          exact (r1.mono (TupK.of_keeps k) List.prefix_rfl).append (r2.mono (TupK.of_keeps k) List.prefix_rfl)) s.toks
      · cases e
    · cases e

theorem sub_sound {x y d : D} {v u : Value} (H : HOK C φ a l s.heap) (rv : Rd C φ s.heap v x) (ru : Rd C φ s.heap u y) (e : subD x y = some d) (P : Post C φ l s d a Q) :
    wpAny (model C.prog C.w) A (binaryOp .Sub v u) Q E s := by
  unfold subD at e
  split at e
  · cases e
    cases rv with | int i t => cases ru with | int j t' => exact PyProof.Rows.sub_int (P.here H (.int _ _) _)
  · cases e
    cases rv with | sym k c t i q => cases ru with | int j t' => exact PyProof.Rows.sub_int (P.here H (.sym _ _ _ _ (by subst q; omega)) _)
  · cases e
end

end Mine
end

section
namespace Mine
open PySem PySem.W PyProof.Rows PySem.SeqAt

/-- room to compare -/
structure AOK (A : Around) (l : List Env) (n : Nat) : Prop where
  frames : A.frames = some l
  hand : A.handled = none
  depth : A.depth + n ≤ 900
  units : A.units + 8 * n ≤ 8000

section
variable {C : Cfg} {φ : List Addr} {a a' : AS} {l : List Env} {A : Around} {E : Value → Shared → Prop} {s : Shared} {Q : Value → Shared → Prop}

theorem units_ok {A : Around} {p q : PyData} {n : Nat} (hu : A.units ≤ 8000) (h : p.depth ≤ n + 2) (hn : n ≤ 50) : A.units + min p.depth q.depth < cLine := by
  have : min p.depth q.depth ≤ p.depth := Nat.min_le_left _ _
  unfold cLine
  omega

theorem eq_sound {x y : D} {v u : Value} {b : Bool} (H : HOK C φ a l s.heap) (hu : A.units ≤ 8000) (rv : Rd C φ s.heap v x) (ru : Rd C φ s.heap u y) (e : deq a.σ 50 x y = some b) (h : Q (.bool b) s) :
    wpAny (model C.prog C.w) A (compareOp .Eq v u) Q E s := by
  obtain ⟨p, q, e1, e2, rfl⟩ := deq_eqv H.K 50 x y b v u rv ru e
  obtain ⟨as, r1⟩ := rd_reads H.K H.stays 50 x v p rv e1
  obtain ⟨bs, r2⟩ := rd_reads H.K H.stays 50 y u q ru e2
  have c1 := toPy_can 50 x p e1
  have c2 := toPy_can 50 y q e2
  exact compareEq_reads r1 r2 c1.1 c2.1 (units_ok hu c1.2 (by omega)) h
theorem ne_sound {x y : D} {v u : Value} {b : Bool} (H : HOK C φ a l s.heap) (hu : A.units ≤ 8000) (rv : Rd C φ s.heap v x) (ru : Rd C φ s.heap u y) (e : deq a.σ 50 x y = some b) (h : Q (.bool (!b)) s) :
    wpAny (model C.prog C.w) A (compareOp .NotEq v u) Q E s := by
  obtain ⟨p, q, e1, e2, rfl⟩ := deq_eqv H.K 50 x y b v u rv ru e
  obtain ⟨as, r1⟩ := rd_reads H.K H.stays 50 x v p rv e1
  obtain ⟨bs, r2⟩ := rd_reads H.K H.stays 50 y u q ru e2
  have c1 := toPy_can 50 x p e1
  have c2 := toPy_can 50 y q e2
  exact compareNe_reads r1 r2 c1.1 c2.1 (units_ok hu c1.2 (by omega)) h

open Classical in
/-- does a value of the heap equal a datum of the library? -/
noncomputable def eqTo (h : Heap) (q : PyData) (y : Value) : Bool := if hx : ∃ p as, Reads h y p as ∧ p.canLay0 = true then PyData.eqv (choose hx) q else false

theorem eqTo_reads {h : Heap} {q p : PyData} {y : Value} {as : List Addr} (r : Reads h y p as) (c : p.canLay0 = true) : eqTo h q y = PyData.eqv p q := by
  have hx : ∃ p as, Reads h y p as ∧ p.canLay0 = true := ⟨p, as, r, c⟩
  unfold eqTo
  rw [dif_pos hx]
  obtain ⟨bs, r', c'⟩ := Classical.choose_spec hx
  rw [Reads.unique _ _ _ _ _ c r r']

theorem isIn_self {σ : List (List D)} {d : D} : ∀ {xs : List D} {b : Bool}, isIn σ d xs = some b → xs = [] ∨ ∃ x p, x ∈ xs ∧ deq σ 50 x d = some p
  | [], _, _ => .inl rfl
  | x :: r, b, e => by
    simp only [isIn] at e
    split at e
    · rename_i p q e1 e2; exact .inr ⟨x, p, .head _, e1⟩
    · cases e

theorem isIn_any {h : Heap} (K : Cells C φ a.σ h) (B : C.base.StaysIn h) {d : D} {u : Value} (ru : Rd C φ h u d) {q : PyData} (eq : toPy C a.σ 50 d = some q) :
    ∀ (vs : List Value) (xs : List D) (b : Bool), RdL C φ h vs xs → isIn a.σ d xs = some b → vs.any (eqTo h q) = b ∧ ∀ y ∈ vs, ∃ p as, Reads h y p as ∧ p.canLay0 = true ∧ p.depth ≤ 52 := by
  intro vs xs
  induction xs generalizing vs with
  | nil => intro b rl e; cases rl; simp [isIn] at e; subst e; simp
  | cons x xs ih =>
    intro b rl e
    cases rl with | cons r rl =>
    rename_i v vs
    simp only [isIn] at e
    split at e
    · rename_i p p' e1 e2
      cases e
      obtain ⟨i1, i2⟩ := ih vs p' rl e2
      obtain ⟨p1, q1, f1, f2, rfl⟩ := deq_eqv K 50 x d p v u r ru e1
      rw [eq] at f2; cases f2
      obtain ⟨as, ra⟩ := rd_reads K B 50 x v p1 r f1
      have c1 := toPy_can 50 x p1 f1
      refine ⟨by rw [List.any_cons, eqTo_reads ra c1.1, i1], fun y hy => ?_⟩
      rcases List.mem_cons.mp hy with rfl | hy
      · exact ⟨p1, as, ra, c1.1, c1.2⟩
      · exact i2 y hy
    · cases e

theorem eqAts {h : Heap} {A : Around} {s : Shared} (hs : s.heap = h) (hu : A.units ≤ 8000) {u : Value} {q : PyData} {bs : List Addr} (rq : Reads h u q bs) (cq : q.canLay0 = true) {y : Value} {p : PyData} {as : List Addr} (rp : Reads h y p as) (cp : p.canLay0 = true) (dp : p.depth ≤ 52) :
    EqAt A.in1 s y u (eqTo h q y) := by
  subst hs
  rw [eqTo_reads rp cp]
  exact eqAt_reads p q A.in1 s y u as bs rp rq cp cq (by
    have : min p.depth q.depth ≤ p.depth := Nat.min_le_left _ _
    unfold cLine
    show A.units + 1 + _ < _
    omega)

/-- membership in a list or a tuple, given that the sought datum is plain -/
theorem in_sound {x : D} {xs : List D} {u : Value} {b : Bool} {t : Addr} {vs : Array Value} (H : HOK C φ a l s.heap) (hu : A.units ≤ 8000) (ru : Rd C φ s.heap u x) (hl : s.heap.IsList t vs ∨ s.heap.IsTuple t vs) (rl : RdL C φ s.heap vs.toList xs)
    (hx : (toPy C a.σ 50 x).isSome) (e : isIn a.σ x xs = some b) :
    (Q (.bool b) s → wpAny (model C.prog C.w) A (compareOp .In u (.ref t)) Q E s) ∧ (Q (.bool (!b)) s → wpAny (model C.prog C.w) A (compareOp .NotIn u (.ref t)) Q E s) := by
  obtain ⟨q, eq⟩ := Option.isSome_iff_exists.mp hx
  obtain ⟨bs, rq⟩ := rd_reads H.K H.stays 50 x u q ru eq
  have cq := toPy_can 50 x q eq
  obtain ⟨i1, i2⟩ := isIn_any H.K H.stays ru eq vs.toList xs b rl e
  have any : vs.any (eqTo s.heap q) = b := by rw [← i1]; simp
  have at' : ∀ y, y ∈ vs → EqAt A.in1 s y u (eqTo s.heap q y) := fun y hy => by
    obtain ⟨p, as, rp, cp, dp⟩ := i2 y (by simpa using hy)
    exact eqAts rfl hu rq cq.1 rp cp dp
  rcases hl with hl | hl
  · exact ⟨fun h => in_listAt _ hl at' (by rw [any]; exact h), fun h => notIn_listAt _ hl at' (by rw [any]; exact h)⟩
  · exact ⟨fun h => in_tupleAt _ hl at' (by rw [any]; exact h), fun h => notIn_tupleAt _ hl at' (by rw [any]; exact h)⟩
end

/-- a written table of the top -/
inductive TabL (C : Cfg) : List DictEntry → List (List Nat × D) → Prop
  | nil : TabL C [] []
  | cons {e : DictEntry} {es k d r x t} : e.key = .str x t → x.cps.toList = k → (∀ φ h, C.base.StaysIn h → Rd C φ h e.val d) → TabL C es r → TabL C (e :: es) ((k, d) :: r)

noncomputable def TabOk (C : Cfg) (k : Nat) (t : List (List Nat × D)) : Prop :=
  ∃ ad es n, C.tabA k = some ad ∧ C.K.lookup ad = some ⟨.type "dict", none, .dict es n, #[]⟩ ∧ KeysLit C.w.params es.toList ∧ (ad == sysModules) = false ∧ TabL C es.toList t

theorem tabL_find {C : Cfg} {x : Str} {l : List Nat} (e : x.cps.toList = l) {es : List DictEntry} {t : List (List Nat × D)} (T : TabL C es t) :
    (∃ en d, es.find? (fun en => Value.isStrOf x en.key) = some en ∧ findTab l t = some d ∧ ∀ φ h, C.base.StaysIn h → Rd C φ h en.val d) ∨
    (es.find? (fun en => Value.isStrOf x en.key) = none ∧ findTab l t = none) := by
  induction T with
  | nil => exact .inr ⟨rfl, rfl⟩
  | cons h1 h2 h3 h4 ih =>
    rename_i en es k d r y t0
    have hb : Value.isStrOf x en.key = (k == l) := by
      rw [← isStr_of, h1]
      show (y == x) = _
      rw [← toList_beq, h2, e]
    rw [List.find?_cons, hb]
    unfold findTab
    cases hk : (k == l) with
    | true => exact .inl ⟨en, d, rfl, by simp, h3⟩
    | false => simpa using ih

theorem tab_map {C : Cfg} {k : Nat} {t : List (List Nat × D)} {h : Heap} {x : Str} {l : List Nat} {φ : List Addr} (T : TabOk C k t) (X : C.K.In C.base) (B : C.base.StaysIn h) (e : x.cps.toList = l) :
    ∃ ad f, C.tabA k = some ad ∧ (ad == sysModules) = false ∧ h.MapOf (strKind C.prog C.w) ad f ∧
      ((∃ v d, f x = some v ∧ findTab l t = some d ∧ Rd C φ h v d) ∨ (f x = none ∧ findTab l t = none)) := by
  obtain ⟨ad, es, n, h1, h2, h3, h4, h5⟩ := T
  refine ⟨ad, _, h1, h4, mapOf_K (X.keeps B) h2 h3, ?_⟩
  have hf : findBy Value.isStrOf es x = (es.toList.find? (fun en => Value.isStrOf x en.key)).map (·.val) := by
    unfold findBy
    rw [← Array.find?_toList]
  rcases tabL_find e h5 with ⟨en, d, f1, f2, f3⟩ | ⟨f1, f2⟩
  · exact .inl ⟨en.val, d, by rw [hf, f1]; rfl, f2, f3 φ h B⟩
  · exact .inr ⟨by rw [hf, f1]; rfl, f2⟩

end Mine
end

section
namespace Mine
open PySem PySem.W PyProof.Rows PySem.SeqAt

noncomputable def cmpOf : Cmp → CmpOp
  | .eq => .Eq
  | .ne => .NotEq
  | .lt => .Lt
  | .le => .LtE
  | .gt => .Gt
  | .ge => .GtE
  | .isin => .In
  | .notin => .NotIn

/-- the tables of the evaluator are those of the top -/
noncomputable def TabsOk (C : Cfg) (tabs : List (List (List Nat × D))) : Prop := ∀ k t, tabs[k]? = some t → TabOk C k t

section
variable {C : Cfg} {φ : List Addr} {a a' : AS} {l : List Env} {A : Around} {E : Value → Shared → Prop} {s : Shared} {Q : Value → Shared → Prop}

theorem seq_members {x : D} {xs : List D} {u : Value} {b : Bool} {t : Addr} {vs : Array Value} (H : HOK C φ a l s.heap) (hu : A.units ≤ 8000) (ru : Rd C φ s.heap u x) (hl : s.heap.IsList t vs ∨ s.heap.IsTuple t vs)
    (rl : RdL C φ s.heap vs.toList xs) (e : isIn a.σ x xs = some b) :
    (Q (.bool b) s → wpAny (model C.prog C.w) A (compareOp .In u (.ref t)) Q E s) ∧ (Q (.bool (!b)) s → wpAny (model C.prog C.w) A (compareOp .NotIn u (.ref t)) Q E s) := by
  rcases isIn_self e with rfl | ⟨y, p, hy, hd⟩
  · simp only [isIn, Option.some.injEq] at e; subst e
    have hv : vs = #[] := by
      have := rl.length
      simpa using this
    subst hv
    have at' : ∀ y, y ∈ (#[] : Array Value) → EqAt A.in1 s y u false := fun y hy => by simp at hy
    rcases hl with hl | hl
    · exact ⟨fun h => in_listAt (fun _ => false) hl at' (by simpa using h), fun h => notIn_listAt (fun _ => false) hl at' (by simpa using h)⟩
    · exact ⟨fun h => in_tupleAt (fun _ => false) hl at' (by simpa using h), fun h => notIn_tupleAt (fun _ => false) hl at' (by simpa using h)⟩
  · refine in_sound H hu ru hl rl ?_ e
    obtain ⟨n, hn, rfl⟩ := List.getElem_of_mem hy
    obtain ⟨v, _, rv⟩ := rl.get (List.getElem?_eq_getElem hn)
    obtain ⟨_, q, _, e2, _⟩ := deq_eqv H.K 50 _ x p v u rv ru hd
    rw [e2]; rfl

theorem members_sound {tabs : List (List (List Nat × D))} {x y : D} {v u : Value} {b : Bool} (G : TabsOk C tabs) (X : C.K.In C.base) (H : HOK C φ a l s.heap) (hu : A.units ≤ 8000) (rv : Rd C φ s.heap v x) (ru : Rd C φ s.heap u y)
    (e : members tabs a.σ x y = some b) :
    ((∀ tk, Q (.bool b) { s with toks := tk }) → wpAny (model C.prog C.w) A (compareOp .In v u) Q E s) ∧ ((∀ tk, Q (.bool (!b)) { s with toks := tk }) → wpAny (model C.prog C.w) A (compareOp .NotIn v u) Q E s) := by
  unfold members at e
  split at e
  · split at e
    · rename_i k _ _ t l ht
      cases e
      cases rv with
      | str p tk _ q o =>
        cases ru with
        | tab ha =>
          obtain ⟨ad, f, h1, h2, h3, h4⟩ := tab_map (φ := φ) (G k t ht) X H.stays q
          rw [ha] at h1; cases h1
          have hb : (f p).isSome = (findTab l t).isSome := by
            rcases h4 with ⟨v, d, e1, e2, _⟩ | ⟨e1, e2⟩ <;> rw [e1, e2] <;> rfl
          exact ⟨fun h => wpAny_in_of (strKind_is C.prog C.w p tk) h2 h3 (by rw [hb]; exact h _), fun h => wpAny_notIn_of (strKind_is C.prog C.w p tk) h2 h3 (by rw [hb]; exact h _)⟩
    · cases e
  · cases ru with
    | tup ht rl =>
      have := seq_members (E := E) (Q := Q) H hu rv (.inr ht) rl e
      exact ⟨fun h => this.1 (h s.toks), fun h => this.2 (h s.toks)⟩
  · split at e
    · rename_i xs hx
      cases ru with
      | lst q =>
        obtain ⟨t, vs, q', hl, rl⟩ := H.cells _ _ hx
        rw [q] at q'; cases q'
        have := seq_members (E := E) (Q := Q) H hu rv (.inl hl) rl e
        exact ⟨fun h => this.1 (h s.toks), fun h => this.2 (h s.toks)⟩
    · cases e
  · cases ru with
    | clst hl rl =>
      obtain ⟨o, ho, r⟩ := hl
      have := seq_members (E := E) (Q := Q) H hu rv (.inl ⟨o, H.stays _ _ ho, r⟩) rl e
      exact ⟨fun h => this.1 (h s.toks), fun h => this.2 (h s.toks)⟩
  · cases e

theorem cmp_sound {tabs : List (List (List Nat × D))} {op : Cmp} {x y : D} {v u : Value} {b : Bool} (G : TabsOk C tabs) (X : C.K.In C.base) (H : HOK C φ a l s.heap) (hu : A.units ≤ 8000) (rv : Rd C φ s.heap v x) (ru : Rd C φ s.heap u y)
    (e : cmpD tabs a.σ op x y = some b) (h : ∀ tk, Q (.bool b) { s with toks := tk }) : wpAny (model C.prog C.w) A (compareOp (cmpOf op) v u) Q E s := by
  unfold cmpD at e
  split at e
  · exact eq_sound H hu rv ru e (h _)
  · simp only [Option.map_eq_some_iff] at e
    obtain ⟨b', e, rfl⟩ := e
    exact ne_sound H hu rv ru e (h _)
  · exact (members_sound G X H hu rv ru e).1 h
  · simp only [Option.map_eq_some_iff] at e
    obtain ⟨b', e, rfl⟩ := e
    exact (members_sound G X H hu rv ru e).2 h
  · split at e
    · cases e
      cases rv with | int i t => cases ru with | int j t' => exact PyProof.Rows.gt_int (h _)
    · cases e
  · split at e
    · cases e
      cases rv with | int i t => cases ru with | int j t' => exact PyProof.Rows.ge_int (h _)
    · cases e
  · cases e

theorem len_sound {x : D} {v : Value} {n : Nat} (H : HOK C φ a l s.heap) (rv : Rd C φ s.heap v x) (e : dlen a.σ x = some n) (hn : n ≤ 100000000) (P : Post C φ l s (.int (n : Int)) a Q) :
    wpAny (model C.prog C.w) A (call (.builtin "len") [v]) Q E s := by
  unfold dlen at e
  split at e
  · cases e
    cases rv with
    | tup ht rl =>
      have hl := rl.length
      simp only [Array.length_toList] at hl
      refine PyProof.Rows.len_tuple ht (by omega) ?_
      rw [hl]; exact P.here H (.int _ _) _
  · cases e
    cases rv with
    | clst ht rl =>
      have hl := rl.length
      simp only [Array.length_toList] at hl
      obtain ⟨o, ho, r⟩ := ht
      refine PyProof.Rows.len_list ⟨o, H.stays _ _ ho, r⟩ (by omega) ?_
      rw [hl]; exact P.here H (.int _ _) _
  · simp only [Option.map_eq_some_iff] at e
    obtain ⟨xs, hx, rfl⟩ := e
    cases rv with
    | lst q =>
      obtain ⟨t, vs, q', ht, rl⟩ := H.cells _ _ hx
      rw [q] at q'; cases q'
      have hl := rl.length
      simp only [Array.length_toList] at hl
      refine PyProof.Rows.len_list ht (by omega) ?_
      rw [hl]; exact P.here H (.int _ _) _
  · cases e
    cases rv with
    | str p t _ q o =>
      have hl : p.length = _ := (show p.length = p.cps.toList.length by simp [PySem.Str.length]).trans (congrArg List.length q)
      refine PyProof.Rows.len_str (by rw [hl]; omega) ?_
      rw [hl]; exact P.here H (.int _ _) _
  · cases e

theorem seqIndex_of {j : Int} {n : Nat} (h0 : 0 ≤ j) (h1 : j < n) : seqIndex? j n = some j.toNat := by
  unfold seqIndex?
  have : ¬ j < 0 := by omega
  simp only [this, if_false]
  rw [if_pos (by simp; omega)]

/-- an item at a place that is not before nought -/
theorem item_sound {x d : D} {v : Value} {j : Int} {t : Tok} (H : HOK C φ a l s.heap) (rv : Rd C φ s.heap v x) (h0 : 0 ≤ j) (h1 : j ≤ 1000000) (e : litem a.σ x j.toNat = some d) (P : ∀ w, Rd C φ s.heap w d → ∀ tk, Q w { s with toks := tk }) :
    (∃ T id, s.TypeIs v T ∧ typeLookup (.type T) "__getitem__" = pure (some (.builtin id))) ∧ wpAny (model C.prog C.w) A (getItem v (.int j t)) Q E s := by
  unfold litem at e
  split at e
  · cases rv with
    | tup ht rl =>
      obtain ⟨y, hy, r⟩ := rl.get e
      have hsz : j.toNat < _ := (List.getElem?_eq_some_iff.mp hy).1
      simp only [Array.length_toList] at hsz
      refine ⟨⟨_, _, IsTup.typeIs ht, slot_tuple_getitem.lookup⟩, PyProof.Rows.getItem_tuple ht (by omega) (by omega) (j := j.toNat) ?_ (by simpa using hy) (P _ r s.toks)⟩
      exact seqIndex_of h0 (by omega)
  · cases rv with
    | clst hl rl =>
      obtain ⟨y, hy, r⟩ := rl.get e
      obtain ⟨o, ho, rr⟩ := hl
      have hl' : s.heap.IsList _ _ := ⟨o, H.stays _ _ ho, rr⟩
      exact ⟨⟨_, _, hl'.typeIs, slot_list_getitem.lookup⟩, wpAny_getItem_list hl' h0 (by omega) (by simpa using hy) (P _ r s.toks)⟩
  · simp only [Option.bind_eq_some_iff] at e
    obtain ⟨xs, hx, e⟩ := e
    cases rv with
    | lst q =>
      obtain ⟨_, vs, q', hl', rl⟩ := H.cells _ _ hx
      rw [q] at q'; cases q'
      obtain ⟨y, hy, r⟩ := rl.get e
      exact ⟨⟨_, _, hl'.typeIs, slot_list_getitem.lookup⟩, wpAny_getItem_list hl' h0 (by omega) (by simpa using hy) (P _ r s.toks)⟩
  · simp only [Option.map_eq_some_iff] at e
    obtain ⟨c, hc, rfl⟩ := e
    cases rv with
    | str p t _ q o =>
      have hsz := (List.getElem?_eq_some_iff.mp hc).1
      have hl : p.length = _ := (show p.length = p.cps.toList.length by simp [PySem.Str.length]).trans (congrArg List.length q)
      refine ⟨⟨_, _, typeIs_str s p t, PySem.F.slot_str_getitem.lookup⟩, PyProof.Rows.getItem_str (c := c) (by simp; omega) ?_ ?_⟩
      · rw [seqIndex_of h0 (by rw [hl]; omega)]
        subst q
        simpa using hc
      · refine P _ (.str _ _ _ rfl ?_) _
        exact okS_sub o (by simp; omega) fun y hy => by simp at hy; subst hy; exact List.mem_of_getElem? hc
  · cases e
end

end Mine
end

section
namespace Mine
open PySem PySem.W PyProof.Rows PySem.SeqAt

section
variable {prog : Program} {w : World} {A : Around} {E : Value → Shared → Prop} {s : Shared} {Q : Value → Shared → Prop}

theorem adjust_upto (n : Nat) (hn : 1 ≤ n) : Builtin.Slice.sliceAdjust none (some (-1 : Int)) 1 (n : Int) = (0, ((n - 1 : Nat) : Int)) := by
  unfold Builtin.Slice.sliceAdjust
  have h1 : ¬ ((1 : Int) < 0) := by omega
  have h2 : ((-1 : Int) < 0) := by omega
  simp only [h1, h2, if_false, if_true]
  congr 1
  omega
theorem places_upto (n : Nat) : Builtin.Slice.slicePlaces 0 ((n - 1 : Nat) : Int) 1 = n - 1 := by
  unfold Builtin.Slice.slicePlaces
  have h1 : (1 : Int) > 0 := by omega
  simp only [h1, if_true, Int.ediv_one]
  split <;> omega

theorem sliceApplied_upto {sl : Addr} {n : Nat} {u : Tok} {R : Int × Int × Nat → Shared → Prop} (hs : s.heap.IsSliceOf sl .none (.int (-1) u) .none) (hn : 1 ≤ n) (h : R (0, 1, n - 1) s) :
    wpAny (model prog w) A (Builtin.Slice.sliceApplied (.ref sl) (pure (n : Int))) R E s := by
  obtain ⟨os, hos, hcs, hds⟩ := id hs
  unfold Builtin.Slice.sliceApplied Builtin.Slice.sliceFields
  refine wpAny_bind (wpAny_bind (wpAny_field hos hds (x := .none) rfl (wpAny_bind (wpAny_field hos hds (x := .int (-1) u) rfl (wpAny_bind (wpAny_field hos hds (x := .none) rfl (wpAny_pure ?_)))))))
  refine wpAny_bind (slicePart_none ?_)
  show wpAny _ _ (if ((1 : Int) == 0) = true then _ else _) _ _ s
  rw [if_neg (by decide)]
  refine wpAny_bind (slicePart_none (wpAny_bind (slicePart_int (wpAny_bind (wpAny_pure ?_)))))
  show wpAny _ _ (match Builtin.Slice.sliceAdjust none (some (-1 : Int)) 1 (n : Int) with | (lo, hi) => pure (lo, (1 : Int), Builtin.Slice.slicePlaces lo hi 1)) _ _ s
  rw [adjust_upto n hn]
  show wpAny _ _ (pure ((0 : Int), (1 : Int), Builtin.Slice.slicePlaces 0 ((n - 1 : Nat) : Int) 1)) _ _ s
  rw [places_upto n]
  exact wpAny_pure h

theorem pick_upto (xs : Array Value) (n : Nat) (hn : n ≤ xs.size) : ((List.range n).filterMap fun (k : Nat) => xs[((0 : Int) + (k : Int) * 1).toNat]?).toArray = (xs.toList.take n).toArray := by
  have e : (fun (k : Nat) => xs[((0 : Int) + (k : Int) * 1).toNat]?) = fun k => xs[0 + k]? := by
    funext k
    have : ((0 : Int) + (k : Int) * 1).toNat = 0 + k := by omega
    rw [this]
  rw [e]
  have := pick_run xs 0 n
  rw [List.filterMap_map] at this
  have e2 : ((fun x => xs[x]?) ∘ fun x => 0 + x) = fun k => xs[0 + k]? := rfl
  rw [e2] at this
  rw [this, List.drop_zero]

theorem getItem_tuple_upto {t sl : Addr} {items : Array Value} {u : Tok} (ht : s.heap.IsTuple t items) (hs : s.heap.IsSliceOf sl .none (.int (-1) u) .none) (ha : 1 ≤ items.size)
    (h : Q (.ref s.heap.objs.size) { s with heap := s.heap.push { cls := .type "tuple", data := .seq (items.toList.take (items.size - 1)).toArray } })
    (hsz : items.size ≤ sizeLine := by size_fits) : wpAny (model prog w) A (getItem (.ref t) (.ref sl)) Q E s := by
  have ht : IsTup s.heap t items := ht
  have hdrop : sizeOk (.seq (items.toList.take (items.size - 1)).toArray) := by
    show (items.toList.take (items.size - 1)).toArray.size ≤ sizeLine
    rw [List.size_toArray, List.length_take, Array.length_toList]
    omega
  obtain ⟨os, hos, hcs, hds⟩ := id hs
  have hTs : s.TypeIs (.ref sl) "slice" := ⟨os, hos, hcs⟩
  unfold getItem
  try with_reducible refine wpAny_holding ?_
  first | refine wpAny_bind (wpAny_pure ?_) | skip
  refine wpAny_bind (wpAny_sequenceKey ht.typeIs (by decide) ?_)
  refine wpAny_bind (wpAny_callSpecial?_slot (name := Str.ofString "__getitem__") ht.typeIs slot_tuple_getitem
    (wpAny_call_entry slot_tuple_getitem ht.typeIs entry_tuple_getitem ?_ (args_tuple_getitem _ _)))
  show wpAny _ _ (Builtin.Tuple.tupleItemsOf (.ref t) >>= _) _ _ s
  refine wpAny_bind (tupleItemsOf_ ht ?_)
  refine wpAny_bind (wpAny_typeOf hTs ?_)
  rw [if_pos (by decide)]
  refine wpAny_bind (sliceApplied_upto hs ha ?_)
  have hno : ¬ (((0 : Int) == 0 && (1 : Int) == 1 && (items.size - 1) == items.size) = true) := by
    have : ((items.size - 1) == items.size) = false := by rw [beq_eq_false_iff_ne]; omega
    rw [this]; simp
  show wpAny _ _ (if ((0 : Int) == 0 && (1 : Int) == 1 && (items.size - 1) == items.size) = true then _ else _) _ _ s
  rw [if_neg hno, pick_upto items _ (by omega)]
  first
    | exact wpAny_bind (m := Builtin.Tuple.tupleExact _) (wpAny_newObj_type (wpAny_pure ⟨_, rfl, wpAny_pure h⟩) hdrop)
    | exact wpAny_bind (m := Builtin.Tuple.tupleExact _) (wpAny_newObj_type (wpAny_bind (wpAny_pure (wpAny_pure ⟨_, rfl, wpAny_pure h⟩))) hdrop)
    | exact wpAny_bind (wpAny_bind (m := Builtin.Tuple.tupleExact _) (wpAny_newObj_type (wpAny_pure (wpAny_pure ⟨_, rfl, wpAny_pure h⟩)) hdrop))
    | exact wpAny_bind (wpAny_bind (m := Builtin.Tuple.tupleExact _) (wpAny_newObj_type (wpAny_pure ⟨_, rfl, wpAny_pure h⟩) hdrop))
end

section
variable {C : Cfg} {φ : List Addr} {a a' : AS} {l : List Env} {A : Around} {E : Value → Shared → Prop} {s : Shared} {Q : Value → Shared → Prop}

theorem slc_sound {x d : D} {v vl vu vst : Value} {lo hi st : Option Int} {tk : Nat} (H : HOK C φ a l s.heap) (rv : Rd C φ s.heap v x) (pl : IsPart vl lo) (pu : IsPart vu hi) (ps : IsPart vst st) (e : slcD x lo hi st = some d) (P : Post C φ l s d a Q) :
    ∃ T id, Shared.TypeIs { s with heap := s.heap.push { cls := .type "slice", data := .fields #[vl, vu, vst] }, toks := tk } v T ∧ typeLookup (.type T) "__getitem__" = pure (some (.builtin id)) ∧
      wpAny (model C.prog C.w) A (getItem v (.ref s.heap.objs.size)) Q E { s with heap := s.heap.push { cls := .type "slice", data := .fields #[vl, vu, vst] }, toks := tk } := by
  have k1 := push_keeps s.heap { cls := .type "slice", data := .fields #[vl, vu, vst] }
  unfold slcD at e
  split at e
  · split at e
    · rename_i o'
      cases e
      cases pl; cases pu; cases ps
      rename_i t6
      cases rv with
      | str p t _ q o =>
        refine ⟨_, _, typeIs_str _ _ _, PySem.F.slot_str_getitem.lookup, wpAny_getItem_str_slice (l := none) (u := some (6, t6)) (st := none) ⟨_, Heap.get?_push_size _ rfl, rfl, rfl⟩ rfl
          (post_val_or_str ⟨?_, fun t' k => P.push k1 H (.str _ _ _ ?_ o') k⟩)⟩
        · have := Txt.slice_le p none (some 6)
          have h2 := okS_len q o
          have := line_big
          exact Nat.le_trans (Txt.slice_le p none (some 6)) (by omega)
        · show (Txt.slice p none (some 6)).cps.toList = _
          rw [str_eta p q]; rfl
    · cases e
  · split at e
    · rename_i o'
      cases e
      cases pl; cases pu; cases ps
      rename_i t6
      cases rv with
      | str p t _ q o =>
        refine ⟨_, _, typeIs_str _ _ _, PySem.F.slot_str_getitem.lookup, wpAny_getItem_str_slice (l := none) (u := none) (st := some (-1, t6)) ⟨_, Heap.get?_push_size _ rfl, rfl, rfl⟩ rfl
          (post_val_or_str ⟨?_, fun t' k => P.push k1 H (.str _ _ _ ?_ o') k⟩)⟩
        · have h2 := okS_len q o
          have := line_big
          exact Nat.le_trans (Txt.sliceBy_le p none none (-1, t6) (by simp)) (by omega)
        · show (Txt.sliceBy p none none (-1, t6)).cps.toList = _
          rw [str_eta p q]; rfl
    · cases e
  · split at e
    · rename_i hle
      cases e
      cases pl; cases pu; cases ps
      rename_i t6
      simp only [Bool.and_eq_true, decide_eq_true_eq] at hle
      cases rv with
      | @tup t vs _ ht rl =>
        have hl := rl.length
        simp only [Array.length_toList] at hl
        have ht' : IsTup (s.heap.push { cls := .type "slice", data := .fields #[.int 1 t6, .none, .none] }) t vs := ht.imp fun o h => ⟨k1 _ _ h.1, h.2⟩
        refine ⟨_, _, IsTup.typeIs ht', slot_tuple_getitem.lookup, getItem_tuple_from (a := 1) (u := t6) ht' (Heap.IsSliceOf.new ..) (by omega) (by omega) ?_ (by have := line_big; omega)⟩
        have k2 := push_keeps (s.heap.push { cls := .type "slice", data := .fields #[.int 1 t6, .none, .none] }) { cls := .type "tuple", data := .seq (vs.toList.drop 1).toArray }
        exact P.push (fun b o e => k2 b o (k1 b o e)) H (.tup (isTuple_push _ _) ((rl.mono (TupK.of_keeps fun b o e => k2 b o (k1 b o e)) List.prefix_rfl).drop 1)) _
    · cases e
  · split at e
    · rename_i hle
      cases e
      cases pl; cases pu; cases ps
      rename_i t6
      simp only [Bool.and_eq_true, decide_eq_true_eq] at hle
      cases rv with
      | @tup t vs _ ht rl =>
        have hl := rl.length
        simp only [Array.length_toList] at hl
        have ht' : IsTup (s.heap.push { cls := .type "slice", data := .fields #[.none, .int (-1) t6, .none] }) t vs := ht.imp fun o h => ⟨k1 _ _ h.1, h.2⟩
        refine ⟨_, _, IsTup.typeIs ht', slot_tuple_getitem.lookup, getItem_tuple_upto (u := t6) ht' (Heap.IsSliceOf.new ..) (by omega) ?_ (by have := line_big; omega)⟩
        have k2 := push_keeps (s.heap.push { cls := .type "slice", data := .fields #[.none, .int (-1) t6, .none] }) { cls := .type "tuple", data := .seq (vs.toList.take (vs.size - 1)).toArray }
        rw [← hl] at P
        exact P.push (fun b o e => k2 b o (k1 b o e)) H (.tup (isTuple_push _ _) ((rl.mono (TupK.of_keeps fun b o e => k2 b o (k1 b o e)) List.prefix_rfl).take (vs.size - 1))) _
    · cases e
  · cases e
end

end Mine
end

section
namespace Mine
open PySem PySem.W PyProof.Rows PySem.SeqAt Builtin Builtin.Str

section
variable {prog : Program} {w : World} {A : Around} {E : Value → Shared → Prop} {s : Shared} {Q : Value → Shared → Prop}
theorem mul_list_raw {l : Addr} {items : Array Value} {x : Int} {u : Tok} (hl : s.heap.IsList l items) (hlo : 0 ≤ x) (hhi : x ≤ 1000) (hsz : items.size ≤ 1000)
    (h : Q (.ref s.heap.objs.size) { s with heap := s.heap.push { cls := .type "list", data := .seq (List.foldl (fun x1 x2 => x1 ++ x2) #[] (List.replicate (if items.isEmpty = true then 0 else x.toNat) items)) } }) :
    wpAny (model prog w) A (binaryOp .Mult (.ref l) (.int x u)) Q E s := by
  obtain ⟨⟨cls, d, data, sl⟩, ho, hcl, k, hd⟩ := id hl
  simp only at hcl hd
  subst hcl hd
  have hp : items.size * x.toNat ≤ 1000 * 1000 := Nat.mul_le_mul hsz (by omega)
  exact wpAny_binaryOp_repeat_ref (T := "list") (U := "int") (by decide) ⟨_, ho, rfl⟩ (fun s' => typeIs_int s' x u) noFill_list_mul F.fills_int_mul F.slot_int_rmul repeat_list F.slot_int_index.lookup
    (call_meets F.slot_int_rmul (typeIs_int s x u) F.entry_int_rmul (F.args_int_rmul_2 _ _) (lm_int_rmul_list_any x u l items k d sl)
      ⟨ho, rfl, ⟨_, ho, rfl⟩, call_meets F.slot_list_mul ⟨_, ho, rfl⟩ F.entry_list_mul (F.args_list_mul_2 _ _)
        (lm_list_mul_any l items k d sl x u (by simp [Builtin.List.listFitsIndex]; omega) (by omega) (by simp [Builtin.List.listTooLong, sizeLine]; omega))
        ⟨ho, h⟩⟩)
end

section
variable {C : Cfg} {φ : List Addr} {a a' : AS} {l : List Env} {A : Around} {E : Value → Shared → Prop} {s : Shared} {Q : Value → Shared → Prop}

theorem one_list {vs : Array Value} {d : D} {h : Heap} (r : RdL C φ h vs.toList [d]) : ∃ v, vs = #[v] ∧ Rd C φ h v d := by
  obtain ⟨vs⟩ := vs
  cases r with
  | cons r rl => cases rl; exact ⟨_, rfl, r⟩

theorem foldl_one (v : Value) : ∀ (n : Nat) (acc : Array Value), List.foldl (fun x1 x2 => x1 ++ x2) acc (List.replicate n #[v]) = acc ++ (List.replicate n v).toArray
  | 0, acc => by simp
  | n + 1, acc => by
    rw [List.replicate_succ, List.foldl_cons, foldl_one v n, List.replicate_succ]
    apply Array.ext'
    simp

theorem rdl_replicate {v : Value} {d : D} {h : Heap} (r : Rd C φ h v d) : ∀ n, RdL C φ h (List.replicate n v) (List.replicate n d)
  | 0 => .nil
  | n + 1 => .cons r (rdl_replicate r n)

theorem mul_sound {x y d : D} {v u : Value} (H : HOK C φ a l s.heap) (rv : Rd C φ s.heap v x) (ru : Rd C φ s.heap u y) (e : mulD a x y = some (d, a')) (P : Post C φ l s d a' Q) :
    wpAny (model C.prog C.w) A (binaryOp .Mult v u) Q E s := by
  unfold mulD at e
  split at e
  · split at e
    · rename_i i j hs
      cases e
      simp only [small, Bool.and_eq_true, decide_eq_true_eq] at hs
      cases rv with | int i t => cases ru with | int j t' =>
        exact PyProof.Rows.mul_int (P.here H (.int _ _) _) (IntMulOk.of_left (intBits_le_64 (by omega) (by omega)))
    · cases e
  · split at e
    · rename_i n j _ d' hx
      split at e
      · rename_i hj
        cases e
        simp only [Bool.and_eq_true, decide_eq_true_eq] at hj
        cases rv with
        | lst q => cases ru with
          | int _ t' =>
            obtain ⟨t, vs, q', hl, rl⟩ := H.cells _ _ hx
            rw [q] at q'; cases q'
            obtain ⟨w, rfl, rw'⟩ := one_list rl
            refine mul_list_raw hl hj.1 (by omega) (by simp) ?_
            rw [if_neg (by simp), foldl_one]
            have k := push_keeps s.heap { cls := .type "list", data := .seq (#[] ++ (List.replicate j.toNat w).toArray) }
            exact P.newCell k H (get_size_none _) (plain_push _ _) (by
              simpa using rdl_replicate (rw'.mono (TupK.of_keeps k) List.prefix_rfl) j.toNat) s.toks
      · cases e
    · cases e
  · cases e

theorem sumD_ints {h : Heap} {vs : List Value} {xs : List D} {i : Int} (rl : RdL C φ h vs xs) (e : sumD xs = some i) : ∃ ns : List (Int × Tok), vs = ns.map (fun p => Value.int p.1 p.2) ∧ (ns.map (·.1)).sum = i := by
  induction xs generalizing vs i with
  | nil => cases rl; simp [sumD] at e; subst e; exact ⟨[], rfl, rfl⟩
  | cons x xs ih =>
    cases rl with | cons r rl =>
    unfold sumD at e
    split at e
    · rename_i h; cases h
    · rename_i k r' heq
      cases heq
      simp only [Option.map_eq_some_iff] at e
      obtain ⟨m, e, rfl⟩ := e
      obtain ⟨ns, rfl, h2⟩ := ih rl e
      cases r with
      | int k t => exact ⟨(k, t) :: ns, rfl, by simp [h2]⟩
    · cases e

theorem sum_sound {n : Nat} {xs : List D} {i : Int} {v : Value} (H : HOK C φ a l s.heap) (hh : A.handled = none) (rv : Rd C φ s.heap v (.lst n)) (hx : a.σ[n]? = some xs) (e : sumD xs = some i) (P : Post C φ l s (.int i) a Q) :
    wpAny (model C.prog C.w) A (call (.builtin "sum") [v]) Q E s := by
  cases rv with
  | lst q =>
    obtain ⟨t, vs, q', hl, rl⟩ := H.cells _ _ hx
    rw [q] at q'; cases q'
    obtain ⟨ns, hv, rfl⟩ := sumD_ints rl e
    have hv' : vs = intItems ns.toArray := by
      apply Array.ext'
      simp [hv, intItems]
    subst hv'
    refine sum_intListG hh hl fun h' tk t' hk => ?_
    have e : preSum (numAt ns.toArray) ns.toArray.size = (ns.map (·.1)).sum := by
      rw [preSum_eq, List.take_of_length_le (by simp)]
    rw [e]
    exact P.push hk H (.int _ _) tk

theorem tupof_sound {n : Nat} {xs : List D} {v : Value} (H : HOK C φ a l s.heap) (rv : Rd C φ s.heap v (.lst n)) (hx : a.σ[n]? = some xs) (hle : xs.length ≤ 1000) (P : Post C φ l s (.tup xs) a Q) :
    wpAny (model C.prog C.w) A (call (.type "tuple") [v]) Q E s := by
  cases rv with
  | lst q =>
    obtain ⟨t, vs, q', hl, rl⟩ := H.cells _ _ hx
    rw [q] at q'; cases q'
    have hlen := rl.length
    simp only [Array.length_toList] at hlen
    refine call_tuple_list hl (fun h' hk => ?_) (by have := line_big; omega)
    have k : ∀ b o, s.heap.get? b = some o → (h'.push { cls := .type "tuple", data := .seq vs }).get? b = some o := fun b o e => push_keeps _ _ b o (hk b o e)
    exact P.push k H (.tup (isTuple_push _ _) (rl.mono (TupK.of_keeps k) List.prefix_rfl)) s.toks

theorem rdl_strs {h : Heap} : ∀ (ps : List (Str × Tok)), ((ps.map (·.1)).map fun x => x.cps.toList).all okS = true → RdL C φ h (strValues ps) (((ps.map (·.1)).map fun x => x.cps.toList).map .str)
  | [], _ => .nil
  | (x, t) :: r, o => by
    simp only [List.map_cons, List.all_cons, Bool.and_eq_true] at o
    exact .cons (.str _ _ _ rfl o.1) (rdl_strs r o.2)

theorem strsFrom_values : ∀ (xs : List Str) (t : Tok), ∃ ps : List (Str × Tok), strsFrom t xs = strValues ps ∧ ps.map (·.1) = xs
  | [], t => ⟨[], rfl, rfl⟩
  | x :: xs, t => by
    obtain ⟨ps, h1, h2⟩ := strsFrom_values xs (t + 1)
    exact ⟨(x, t) :: ps, by simp only [strsFrom, strValues, List.map_cons] at *; rw [h1], by simp [h2]⟩

theorem split_sound {ls : List Nat} {v : Value} (H : HOK C φ a l s.heap) (rv : Rd C φ s.heap v (.str ls)) (o : (words ls).all okS = true) (P : Post C φ l s (a.new ((words ls).map .str)).1 (a.new ((words ls).map .str)).2 Q) :
    wpAny (model C.prog C.w) A (call (.builtin "str.split") [v]) Q E s := by
  cases rv with
  | str x t _ q ok =>
    have hx := okS_len q ok
    have hb := line_big
    have hn : (spaceWords x (x.length + 1)).length ≤ sizeLine := by
      have e1 := (StrLaws.sw_weight x).1
      have e2 := StrLaws.len_le_wsum (spaceWords x (x.length + 1))
      omega
    have hw : words ls = (Txt.words x).map fun y => y.cps.toList := by
      unfold words; rw [str_eta x q]
    rw [hw] at o P
    refine call_meets F.slot_str_split (typeIs_str _ _ _) F.entry_str_split (F.args_str_split_1 _) (meets_str_split_space x t (by omega) hn) ?_
    have fin : ∀ (ps : List (Str × Tok)) (tk : Nat), ps.map (·.1) = Txt.words x → Q (.ref s.heap.objs.size) { s with heap := s.heap.push { cls := .type "list", data := .seq (strValues ps).toArray }, toks := tk } := fun ps tk e => by
      have k := push_keeps s.heap { cls := .type "list", data := .seq (strValues ps).toArray }
      refine P.newCell k H (get_size_none _) (plain_push _ _) ?_ tk
      rw [← e]
      exact rdl_strs ps (by rw [e]; exact o)
    cases hc : spaceWords x (x.length + 1) == [(0, x.length)]
    · simp only [Bool.false_eq_true, if_false]
      obtain ⟨ps, h1, h2⟩ := strsFrom_values (PySem.wordsOf x) s.toks
      rw [h1]
      exact fin ps _ (by rw [h2]; unfold Txt.words; rw [if_neg (ne_true_of_eq_false hc)])
    · simp only [if_true]
      exact fin [(x, t)] s.toks (by unfold Txt.words; rw [if_pos hc]; rfl)
end

end Mine
end

section
namespace Mine
open PySem PySem.W PyProof.Rows PySem.SeqAt

theorem frames_of {h h' base : Heap} : ∀ {l : List Env}, h.FunFrames base l → (∀ L, L ∈ l.filterMap (·.frame) → ∀ o, h.get? L = some o → (∀ vs, o.data ≠ .fields vs) → ∃ o', h'.get? L = some o' ∧ ∀ vs, o'.data ≠ .fields vs) → h'.FunFrames base l := by
  intro l
  induction l with
  | nil => intro _ _; trivial
  | cons env l ih =>
    intro H k
    obtain ⟨hk, ⟨L, o, hf, hn, ho, hd⟩, hr⟩ := H
    obtain ⟨o', ho', hd'⟩ := k L (by rw [List.filterMap_cons, hf]; exact .head _) o ho hd
    exact ⟨hk, ⟨L, o', hf, hn, ho', hd'⟩, ih hr fun L' hm => k L' (by rw [List.filterMap_cons, hf]; exact .tail _ hm)⟩

/-- one object, neither list nor tuple nor of the top, is turned -/
theorem HOK.but {C : Cfg} {φ : List Addr} {a : AS} {l : List Env} {h h' : Heap} {x : Addr} (H : HOK C φ a l h) (k : ∀ b o, b ≠ x → h.get? b = some o → h'.get? b = some o) (hx : C.base.get? x = none)
    (nl : ∀ vs, ¬ h.IsList x vs) (nt : ∀ vs, ¬ h.IsTuple x vs) (hd : ∃ o', h'.get? x = some o' ∧ ∀ vs, o'.data ≠ .fields vs) : HOK C φ a l h' where
  stays := fun b o e => k b o (fun q => by subst q; rw [hx] at e; cases e) (H.stays b o e)
  frames := frames_of H.frames fun L hm o ho hn => by
    by_cases q : L = x
    · subst q; exact hd
    · exact ⟨o, k _ _ q ho, hn⟩
  len := H.len
  nodup := H.nodup
  fresh := H.fresh
  cells := fun n xs e => by
    obtain ⟨y, vs, e1, ⟨o, ho, r⟩, e3⟩ := H.cells n xs e
    refine ⟨y, vs, e1, ⟨o, k _ _ (fun q => nl vs (q ▸ ⟨o, ho, r⟩)) ho, r⟩, e3.mono (fun a ws ⟨o, ho, r⟩ => ⟨o, k _ _ (fun q => nt ws (q ▸ ⟨o, ho, r⟩)) ho, r⟩) List.prefix_rfl⟩
  wheel := by
    obtain ⟨c, t, vs, ⟨o, ho, r⟩, ⟨o', ho', r'⟩, h3⟩ := H.wheel
    exact ⟨c, t, vs, ⟨o, k _ _ (fun q => nl #[.ref C.S, .int (c : Int) t] (q ▸ ⟨o, ho, r⟩)) ho, r⟩, ⟨o', k _ _ (fun q => nl vs.toArray (q ▸ ⟨o', ho', r'⟩)) ho', r'⟩, h3⟩
  plain := fun y hy => let ⟨vs, n, e⟩ := H.plain y hy; ⟨vs, n, k _ _ (fun q => nl vs (q ▸ Heap.PlainList.isList ⟨n, e⟩)) e⟩
  fout := H.fout
  wfresh := H.wfresh
  wout := H.wout
  sout := H.sout
  sw := H.sw

theorem Aft.but {C : Cfg} {φ : List Addr} {X F : List Addr} {h h' : Heap} {x : Addr} (k : ∀ b o, b ≠ x → h.get? b = some o → h'.get? b = some o) (hX : x ∈ X) (hd : (h'.get? x).isSome) (nt : ∀ vs, ¬ h.IsTuple x vs) : Aft C φ φ X F h h' where
  keep := fun b o e _ _ n => ⟨o.slots, k b o (fun q => n (q ▸ hX)) e, fun _ => rfl⟩
  ext := List.prefix_rfl
  new := fun _ hx => .inl hx
  alive := fun b e => by
    by_cases q : b = x
    · subst q; exact hd
    · obtain ⟨o, ho⟩ := Option.isSome_iff_exists.mp e
      rw [k b o q ho]; rfl
  tup := fun a vs ⟨o, ho, r⟩ => ⟨o, k _ _ (fun q => nt vs (q ▸ ⟨o, ho, r⟩)) ho, r⟩

theorem ns_not_list {h : Heap} {x : Addr} {m : Str → Option Value} (hn : h.Ns x m) (vs) : ¬ h.IsList x vs := fun ⟨o, ho, _, n, hd⟩ => by
  obtain ⟨o', es, ep, ho', hd', _⟩ := hn
  rw [ho] at ho'; cases ho'; rw [hd] at hd'; cases hd'
theorem ns_not_tuple {h : Heap} {x : Addr} {m : Str → Option Value} (hn : h.Ns x m) (vs) : ¬ h.IsTuple x vs := fun ⟨o, ho, _, n, hd⟩ => by
  obtain ⟨o', es, ep, ho', hd', _⟩ := hn
  rw [ho] at ho'; cases ho'; rw [hd] at hd'; cases hd'
theorem cell_not_list {h : Heap} {x : Addr} {v} (hn : h.IsCell x v) (vs) : ¬ h.IsList x vs := fun ⟨o, ho, _, n, hd⟩ => by
  obtain ⟨o', ho', hd'⟩ := hn
  rw [ho] at ho'; cases ho'; rw [hd] at hd'; cases hd'
theorem cell_not_tuple {h : Heap} {x : Addr} {v} (hn : h.IsCell x v) (vs) : ¬ h.IsTuple x vs := fun ⟨o, ho, _, n, hd⟩ => by
  obtain ⟨o', ho', hd'⟩ := hn
  rw [ho] at ho'; cases ho'; rw [hd] at hd'; cases hd'

theorem HOK.not_phi {C : Cfg} {φ : List Addr} {a : AS} {l : List Env} {h : Heap} (H : HOK C φ a l h) {x : Addr} (nl : ∀ vs, ¬ h.IsList x vs) : x ∉ φ ∧ x ≠ C.W := by
  constructor
  · intro hx
    obtain ⟨n, hn, e⟩ := List.getElem_of_mem hx
    have hn' : n < a.σ.length := H.len ▸ hn
    obtain ⟨y, vs, e1, hl, _⟩ := H.cells n a.σ[n] (List.getElem?_eq_getElem hn')
    rw [List.getElem?_eq_getElem hn, e] at e1
    cases e1
    exact nl _ hl
  · rintro rfl
    obtain ⟨_, _, _, hl, _⟩ := H.wheel
    exact nl _ hl

theorem ns_of_slots {h h' : Heap} {x : Addr} {m : Str → Option Value} (hn : h.Ns x m) (k : ∀ o, h.get? x = some o → ∃ sl, h'.get? x = some { o with slots := sl }) : h'.Ns x m := by
  obtain ⟨o, es, ep, ho, hd, r⟩ := hn
  obtain ⟨sl, e⟩ := k o ho
  exact ⟨_, es, ep, e, hd, r⟩
theorem cell_of_slots {h h' : Heap} {x : Addr} {v} (hn : h.IsCell x v) (k : ∀ o, h.get? x = some o → ∃ sl, h'.get? x = some { o with slots := sl }) : h'.IsCell x v := by
  obtain ⟨o, ho, hd⟩ := hn
  obtain ⟨sl, e⟩ := k o ho
  exact ⟨_, e, hd⟩

theorem Aft.ns {C : Cfg} {φ φ' : List Addr} {a : AS} {l : List Env} {h h' : Heap} {X F : List Addr} (A : Aft C φ φ' X F h h') (H : HOK C φ a l h) {x : Addr} {m : Str → Option Value} (hx : x ∉ X) (hn : h.Ns x m) : h'.Ns x m :=
  ns_of_slots hn fun o e => let ⟨sl, q, _⟩ := A.keep x o e (H.not_phi (ns_not_list hn)).1 (H.not_phi (ns_not_list hn)).2 hx; ⟨sl, q⟩
theorem Aft.cell {C : Cfg} {φ φ' : List Addr} {a : AS} {l : List Env} {h h' : Heap} {X F : List Addr} (A : Aft C φ φ' X F h h') (H : HOK C φ a l h) {x : Addr} {v} (hx : x ∉ X) (hn : h.IsCell x v) : h'.IsCell x v :=
  cell_of_slots hn fun o e => let ⟨sl, q, _⟩ := A.keep x o e (H.not_phi (cell_not_list hn)).1 (H.not_phi (cell_not_list hn)).2 hx; ⟨sl, q⟩

/-- where a name of a frame is read -/
noncomputable def Loads (env : Env) (h : Heap) (x : Str) (v : Value) : Prop :=
  (env.kindOf x = some .local ∧ ∃ m, h.Ns env.locals m ∧ m x = some v) ∨ (env.kindOf x = some .cell ∧ ∃ c, env.cells.lookup x = some c ∧ h.IsCell c (some v))

/-- what the frame of an expression is -/
structure EOK (C : Cfg) (env : Env) (kn : List (Str × NameKind)) (vs : List Str) (ρ : Rho) (φ : List Addr) (h : Heap) : Prop where
  kind : env.scope.kind = .function
  globals : env.globals = mainGlobals
  builtins : env.builtins = builtinsNs
  glob : ∀ x, kn.lookup x = some .globalImplicit → env.kindOf x = some .globalImplicit
  cell : ∀ x, kn.lookup x = some .cell → env.kindOf x = some .cell ∧ ∃ c, env.cells.lookup x = some c
  loc : ∀ x, kn.lookup x = some .local → env.kindOf x = some .local
  vars : ∀ (i : Nat) (x : Str) (d : D), vs[i]? = some x → getV ρ i = some d → ∃ v, Loads env h x v ∧ Rd C φ h v d

theorem Loads.aft {C : Cfg} {φ φ' F : List Addr} {a : AS} {l : List Env} {h h' : Heap} (A : Aft C φ φ' [] F h h') (H : HOK C φ a l h) {env : Env} {x : Str} {v : Value} (L : Loads env h x v) : Loads env h' x v := by
  rcases L with ⟨k, m, hn, hm⟩ | ⟨k, c, hc, hv⟩
  · exact .inl ⟨k, m, A.ns H (by simp) hn, hm⟩
  · exact .inr ⟨k, c, hc, A.cell H (by simp) hv⟩

theorem EOK.aft {C : Cfg} {φ φ' F : List Addr} {a : AS} {l : List Env} {h h' : Heap} {env : Env} {kn : List (Str × NameKind)} {vs : List Str} {ρ : Rho} (E : EOK C env kn vs ρ φ h) (A : Aft C φ φ' [] F h h') (H : HOK C φ a l h) : EOK C env kn vs ρ φ' h' :=
  ⟨E.kind, E.globals, E.builtins, E.glob, E.cell, E.loc, fun i x d e1 e2 => by
    obtain ⟨v, hl, r⟩ := E.vars i x d e1 e2
    exact ⟨v, hl.aft A H, r.mono A.tup A.ext⟩⟩

end Mine
end

section
namespace Mine
open PySem PySem.W PyProof.Rows PySem.SeqAt

noncomputable def notSlice : Expr → Bool
  | .Slice .. => false
  | _ => true
noncomputable def notSet : Expr → Bool
  | .Set .. => false
  | _ => true
noncomputable def notStar : Expr → Bool
  | .Starred .. => false
  | _ => true
noncomputable def notName : Expr → Bool
  | .Name .. => false
  | _ => true

noncomputable def tgtIdx : Tgt → List Nat
  | .one i => [i]
  | .many is => is

noncomputable def compOk (kn : List (Str × NameKind)) (scope : Scope) (vs : List Str) (ti fr : List Nat) : Bool :=
  decide (scope.kind = .function) && decide vs.Nodup &&
  scope.names.all (fun y => decide (y.2 ≠ .cell) && (decide (y.2 ≠ .local) || decide (scope.names.lookup y.1 = some .local)) && (decide (y.2 ≠ .free) || decide (kn.lookup y.1 = some .cell))) &&
  ti.all (fun i => match vs[i]? with | some x => decide (scope.names.lookup x = some .local) | none => false) &&
  fr.all (fun i => match vs[i]? with | some x => decide (scope.names.lookup x = some .free) | none => false)

inductive TrP : Option Expr → Option Int → Prop
  | none : TrP none none
  | int {i k p} : TrP (some (.Constant (.int i) k p)) (some i)
  | neg {k m p p'} : TrP (some (.UnaryOp .USub (.Constant (.int ((k : Nat) : Int)) m p) p')) (some (-(k : Int)))

inductive TrN (vs : List Str) : List Expr → List Nat → Prop
  | nil : TrN vs [] []
  | cons {x : Str} {p i es is} : vs[i]? = some x → TrN vs es is → TrN vs (.Name x p :: es) (i :: is)
inductive TrT (vs : List Str) : Expr → Tgt → Prop
  | one {x : Str} {p i} : vs[i]? = some x → TrT vs (.Name x p) (.one i)
  | many {es k p is} : TrN vs es is → TrT vs (.Tuple es k p) (.many is)

/-- the constants of a written dict -/
inductive TrKV : List (Option Expr) → List Expr → List (List Nat × Int) → Prop
  | nil : TrKV [] [] []
  | int {s : Str} {l i k p k' p' ks vs r} : s.cps.toList = l → TrKV ks vs r → TrKV (some (.Constant (.str s) k p) :: ks) (.Constant (.int i) k' p' :: vs) ((l, i) :: r)
  | neg {s : Str} {l} {i : Nat} {k p k' p' p'' ks vs r} : s.cps.toList = l → TrKV ks vs r → TrKV (some (.Constant (.str s) k p) :: ks) (.UnaryOp .USub (.Constant (.int (i : Int)) k' p') p'' :: vs) ((l, -(i : Int)) :: r)

mutual
inductive TrE : List (Str × NameKind) → List Str → List Str → Expr → X → Prop
  | none {kn vs gs k p} : TrE kn vs gs (.Constant .none k p) .none
  | bool {kn vs gs b k p} : TrE kn vs gs (.Constant (.bool b) k p) (.bool b)
  | int {kn vs gs i k p} : TrE kn vs gs (.Constant (.int i) k p) (.int i)
  | neg {kn vs gs} {k : Nat} {m p p'} : TrE kn vs gs (.UnaryOp .USub (.Constant (.int (k : Int)) m p) p') (.neg k)
  | str {kn vs gs} {s : Str} {l k p} : s.cps.toList = l → okS l = true → TrE kn vs gs (.Constant (.str s) k p) (.str l)
  | var {kn vs gs x p i} : vs[i]? = some x → (x == ("__debug__" : Str)) = false → TrE kn vs gs (.Name x p) (.var i)
  | glob {kn vs gs x p k} : gs[k]? = some x → kn.lookup x = some .globalImplicit → (x == ("__debug__" : Str)) = false → TrE kn vs gs (.Name x p) (.glob k)
  | tup {kn vs gs es xs k p} : TrEs kn vs gs es xs → TrE kn vs gs (.Tuple es k p) (.tup xs)
  | lst {kn vs gs es xs p} : TrEs kn vs gs es xs → TrE kn vs gs (.List es p) (.lst xs)
  | item {kn vs gs e i x y p} : TrE kn vs gs e x → TrE kn vs gs i y → notSlice i = true → TrE kn vs gs (.Subscript e i p) (.item x y)
  | slc {kn vs gs e x lo hi st l h s p p'} : TrE kn vs gs e x → TrP lo l → TrP hi h → TrP st s → TrE kn vs gs (.Subscript e (.Slice lo hi st p) p') (.slc x l h s)
  | add {kn vs gs e f x y p} : TrE kn vs gs e x → TrE kn vs gs f y → TrE kn vs gs (.BinOp e .Add f p) (.add x y)
  | sub {kn vs gs e f x y p} : TrE kn vs gs e x → TrE kn vs gs f y → TrE kn vs gs (.BinOp e .Sub f p) (.sub x y)
  | mul {kn vs gs e f x y p} : TrE kn vs gs e x → TrE kn vs gs f y → TrE kn vs gs (.BinOp e .Mult f p) (.mul x y)
  | cmp {kn vs gs e f x y p op c} : TrE kn vs gs e x → TrE kn vs gs f y → op = cmpOf c → behindInMarks op f = false → TrE kn vs gs (.Compare e [op] [f] p) (.cmp c x y)
  | and {kn vs gs es xs p} : TrEs kn vs gs es xs → TrE kn vs gs (.BoolOp .And es p) (.and xs)
  | or {kn vs gs es xs p} : TrEs kn vs gs es xs → TrE kn vs gs (.BoolOp .Or es p) (.or xs)
  | not {kn vs gs e x p} : TrE kn vs gs e x → TrE kn vs gs (.UnaryOp .Not e p) (.not x)
  | ite {kn vs gs t e f x y z p} : TrE kn vs gs t x → TrE kn vs gs e y → TrE kn vs gs f z → TrE kn vs gs (.IfExp t e f p) (.ite x y z)
  | call {kn vs gs f p k es xs p'} : gs[k]? = some f → kn.lookup f = some .globalImplicit → (f == ("__debug__" : Str)) = false → TrEs kn vs gs es xs → TrE kn vs gs (.Call (.Name f p) es [] p') (.call k xs)
  | callv {kn vs gs f p i es xs p'} : vs[i]? = some f → (f == ("__debug__" : Str)) = false → TrEs kn vs gs es xs → TrE kn vs gs (.Call (.Name f p) es [] p') (.callv i xs)
  | len {kn vs gs e x p p'} : kn.lookup ("len" : Str) = some .globalImplicit → TrE kn vs gs e x → notStar e = true → TrE kn vs gs (.Call (.Name "len" p) [e] [] p') (.len x)
  | sum {kn vs gs e x p p'} : kn.lookup ("sum" : Str) = some .globalImplicit → TrE kn vs gs e x → notStar e = true → TrE kn vs gs (.Call (.Name "sum" p) [e] [] p') (.sum x)
  | tupof {kn vs gs e x p p'} : kn.lookup ("tuple" : Str) = some .globalImplicit → TrE kn vs gs e x → notStar e = true → TrE kn vs gs (.Call (.Name "tuple" p) [e] [] p') (.tupof x)
  | split {kn vs gs e x ap p'} : TrE kn vs gs e x → (ap.endLine == p'.line) = true → (∀ f a b c, e ≠ Expr.Call f a b c) → TrE kn vs gs (.Call (.Attribute e "split" ap) [] [] p') (.split x)
  | get {kn vs gs e x k y d z ap p'} : TrE kn vs gs e x → TrE kn vs gs k y → TrE kn vs gs d z → notStar k = true → notStar d = true → (ap.endLine == p'.line) = true → (∀ f a b c, e ≠ Expr.Call f a b c) →
      TrE kn vs gs (.Call (.Attribute e "get" ap) [k, d] [] p') (.get x y z)
  | dget {kn vs gs ks ws kvs dp ap p'} {x : Str} {p i j k1 p1 p2 m k2 p3} : TrKV ks ws kvs → kvs.length ≤ 15 → kvs ≠ [] → (kvs.map (·.1)).Nodup → vs[i]? = some x → (x == ("__debug__" : Str)) = false → (ap.endLine == p'.line) = true →
      TrE kn vs gs (.Call (.Attribute (.Dict ks ws dp) "get" ap) [.Subscript (.Name x p) (.Constant (.int ((j : Nat) : Int)) k1 p1) p2, .Constant (.int m) k2 p3] [] p') (.dget kvs i j m)
  | comp {kn vs gs elt x target tgt iter it ifs xs scope p fr} : compOk kn scope vs (tgtIdx tgt) fr = true → TrI kn vs gs iter it → TrT vs target tgt → TrE scope.names vs gs elt x → TrEs scope.names vs gs ifs xs →
      TrE kn vs gs (.ListComp elt [⟨target, iter, ifs, 0⟩] scope p) (.comp x tgt it xs fr)
inductive TrEs : List (Str × NameKind) → List Str → List Str → List Expr → List X → Prop
  | nil {kn vs gs} : TrEs kn vs gs [] []
  | cons {kn vs gs e x es xs} : TrE kn vs gs e x → notStar e = true → TrEs kn vs gs es xs → TrEs kn vs gs (e :: es) (x :: xs)
inductive TrI : List (Str × NameKind) → List Str → List Str → Expr → It → Prop
  | of {kn vs gs e x} : TrE kn vs gs e x → notSet e = true → TrI kn vs gs e (.of x)
  | rng {kn vs gs e x p p'} : kn.lookup ("range" : Str) = some .globalImplicit → TrE kn vs gs e x → notStar e = true → TrI kn vs gs (.Call (.Name "range" p) [e] [] p') (.rng x)
  | enum {kn vs gs e x p p'} : kn.lookup ("enumerate" : Str) = some .globalImplicit → TrE kn vs gs e x → notStar e = true → TrI kn vs gs (.Call (.Name "enumerate" p) [e] [] p') (.enum x)
end

noncomputable def storeOkV (kn : List (Str × NameKind)) (vs : List Str) (i : Nat) : Bool := match vs[i]? with
  | some x => decide (kn.lookup x = some .local) || decide (kn.lookup x = some .cell)
  | none => false

mutual
inductive TrS : List (Str × NameKind) → List Str → List Str → Stmt → XS → Prop
  | assign {kn vs gs x p i e y p'} : vs[i]? = some x → storeOkV kn vs i = true → TrE kn vs gs e y → (∀ elt tgt it ifs fr, y ≠ .comp elt tgt it ifs fr) → TrS kn vs gs (.Assign [.Name x p] e p') (.assign i y)
  | acomp {kn vs gs x p i e y p'} : vs[i]? = some x → kn.lookup x = some .local → TrE kn vs gs e y → (∃ elt g scope pos, e = .ListComp elt g scope pos ∧ p.line = pos.line ∧ scope.names.lookup x = none) →
      TrS kn vs gs (.Assign [.Name x p] e p') (.acomp i y)
  | unpack {kn vs gs es k p is e y p'} : TrT vs (.Tuple es k p) (.many is) → is.all (storeOkV kn vs) = true → TrE kn vs gs e y → (∀ ys, y ≠ .tup ys) → (∀ elt tgt it ifs fr, y ≠ .comp elt tgt it ifs fr) → TrS kn vs gs (.Assign [.Tuple es k p] e p') (.unpack is y)
  | aug {kn vs gs x p i e y p'} : vs[i]? = some x → kn.lookup x = some .local → (x == ("__debug__" : Str)) = false → TrE kn vs gs e y → TrS kn vs gs (.AugAssign (.Name x p) .Add e p') (.aug i y)
  | ite {kn vs gs t x b y o z p} : TrE kn vs gs t x → TrSs kn vs gs b y → TrSs kn vs gs o z → TrS kn vs gs (.If t b o p) (.ite x y z)
  | for_ {kn vs gs target tgt iter it b y p} : TrT vs target tgt → (tgtIdx tgt).all (storeOkV kn vs) = true → TrI kn vs gs iter it → TrSs kn vs gs b y → TrS kn vs gs (.For target iter b [] p) (.for_ tgt it y)
  | ret {kn vs gs e x p} : TrE kn vs gs e x → TrS kn vs gs (.Return (some e) p) (.ret x)
  | append {kn vs gs v p ap i e y p' p''} : vs[i]? = some v → (v == ("__debug__" : Str)) = false → TrE kn vs gs e y → notStar e = true → (ap.endLine == p'.line) = true → TrS kn vs gs (.Expr (.Call (.Attribute (.Name v p) "append" ap) [e] [] p') p'') (.append i y)
  | raise_ {kn vs gs p} {f s : Str} {k p' p'' p'''} : kn.lookup f = some .globalImplicit → f = ("BadOps" : Str) → s.length ≤ 1000 → TrS kn vs gs (.Raise (some (.Call (.Name f p) [.Constant (.str s) k p'] [] p'')) none p''') .raise_
  | tryc {kn vs gs c x p v p1 p2 p3 p4 p5 p6 p7 hp k i f} : TrE kn vs gs c x → kn.lookup f = some .globalImplicit → f = ("BadOps" : Str) → vs[i]? = some v → kn.lookup v = some .local → (v == ("__debug__" : Str)) = false →
      TrS kn vs gs (.Try [.Expr c p1] [.ExceptHandler (some (.Name f p7)) none [.Assign [.Name v p2] (.BinOp (.Name v p3) .Add (.Constant (.int 1) k p4) p5) p6] hp] [] [] p) (.tryc x i)
inductive TrSs : List (Str × NameKind) → List Str → List Str → List Stmt → List XS → Prop
  | nil {kn vs gs} : TrSs kn vs gs [] []
  | cons {kn vs gs e x es xs} : TrS kn vs gs e x → TrSs kn vs gs es xs → TrSs kn vs gs (e :: es) (x :: xs)
end

end Mine
end

section
namespace Mine
open PySem PySem.W
/-- op shape -/
noncomputable def x_shape_of : FnX := ⟨1, 2, [.ite (.cmp .notin (.item (.var 0) (.int 0)) (.glob 0)) [.raise_] [], .assign 1 (.item (.glob 0) (.item (.var 0) (.int 0))), .ite (.cmp .ne (.len (.var 0)) (.add (.int 1) (.len (.item (.var 1) (.int 2))))) [.raise_] [], .ret (.var 1)]⟩
/-- op at taken left parts -/
noncomputable def x_effect_of : FnX := ⟨1, 5, [.unpack [2, 3, 4] (.call 5 [(.var 0)]), .for_ (.one 1) (.rng (.len (.var 4))) [.ite (.cmp .eq (.item (.var 4) (.var 1)) (.str [110])) [.aug 2 (.item (.var 0) (.add (.var 1) (.int 1)))] [.ite (.and [(.cmp .eq (.item (.var 4) (.var 1)) (.str [119])), (.cmp .eq (.item (.var 0) (.add (.var 1) (.int 1))) (.glob 3))]) [.assign 3 (.int 0)] [.ite (.and [(.cmp .eq (.item (.var 4) (.var 1)) (.str [115])), (.cmp .ne (.item (.var 0) (.add (.var 1) (.int 1))) (.glob 3))]) [.aug 2 (.int 1)] []]]], .ret (.tup [(.var 2), (.var 3)])]⟩
/-- op parts at -/
noncomputable def x_jumps_of : FnX := ⟨1, 3, [.assign 1 (.item (.call 5 [(.var 0)]) (.int 2)), .ret (.comp (.item (.var 0) (.add (.var 2) (.int 1))) (.one 2) (.rng (.len (.var 1))) [(.cmp .eq (.item (.var 1) (.var 2)) (.str [106]))] [0, 1])]⟩
/-- op places parts made used at -/
noncomputable def x_with_jumps : FnX := ⟨2, 6, [.assign 2 (.item (.call 5 [(.var 0)]) (.int 2)), .assign 3 (.lst [(.item (.var 0) (.int 0))]), .assign 4 (.int 0), .for_ (.one 5) (.rng (.len (.var 2))) [.ite (.cmp .eq (.item (.var 2) (.var 5)) (.str [106])) [.append 3 (.item (.var 1) (.var 4)), .aug 4 (.int 1)] [.append 3 (.item (.var 0) (.add (.var 5) (.int 1)))]], .ret (.tupof (.var 3))]⟩
/-- op -/
noncomputable def x_goes_on : FnX := ⟨1, 1, [.ret (.cmp .notin (.item (.var 0) (.int 0)) (.glob 2))]⟩
/-- op change found place taken left -/
noncomputable def x_heights_at : FnX := ⟨1, 6, [.unpack [4, 5] (.call 6 [(.var 0)]), .assign 1 (.sub (.var 5) (.var 4)), .assign 2 (.lst []), .ite (.call 9 [(.var 0)]) [.append 2 (.tup [(.neg 1), (.var 1)])] [], .for_ (.one 3) (.of (.call 7 [(.var 0)])) [.append 2 (.tup [(.var 3), (.add (.var 1) (.get (.glob 1) (.item (.var 0) (.int 0)) (.int 0)))])], .ret (.var 2)]⟩
/-- op -/
noncomputable def x_subs_used : FnX := ⟨1, 1, [.ite (.cmp .isin (.item (.var 0) (.int 0)) (.tup [(.str [99, 108, 111, 115, 117, 114, 101]), (.str [100, 101, 102, 105, 110, 101, 115, 117, 98]), (.str [109, 97, 112]), (.str [103, 114, 101, 112]), (.str [101, 118, 97, 108, 98, 108, 111, 99, 107])])) [.ret (.lst [(.item (.var 0) (.int 1))])] [], .ite (.cmp .eq (.item (.var 0) (.int 0)) (.str [115, 117, 98, 115, 116])) [.ret (.lst [(.item (.var 0) (.int 2))])] [], .ite (.and [(.cmp .eq (.item (.var 0) (.int 0)) (.str [115, 111, 114, 116])), (.cmp .ge (.item (.var 0) (.int 1)) (.int 0))]) [.ret (.lst [(.item (.var 0) (.int 1))])] [], .ret (.lst [])]⟩
/-- found taken left parts words word -/
noncomputable def x_law_all : FnX := ⟨0, 6, [.assign 0 (.lst []), .for_ (.many [1, 2, 3, 4]) (.of (.glob 4)) [.for_ (.one 5) (.of (.split (.var 4))) [.append 0 (.tup [(.var 5), (.var 1), (.var 2), (.var 3)])]], .ret (.var 0)]⟩
/-- wheel word parts row sort -/
noncomputable def x_law_filled : FnX := ⟨3, 5, [.assign 3 (.lst [(.var 1)]), .for_ (.one 4) (.of (.var 2)) [.ite (.cmp .eq (.var 4) (.int 0)) [.append 3 (.item (.lst [(.str [109, 97, 105, 110, 58, 58, 120]), (.int 7), .none, (.tup [(.str [97]), (.str [98])])]) (.call 13 [(.var 0), (.int 4)]))] [.ite (.cmp .eq (.var 4) (.int 1)) [.append 3 (.call 13 [(.var 0), (.int 40)])] [.ite (.cmp .eq (.var 4) (.int 2)) [.append 3 (.call 13 [(.var 0), (.int 5)])] [.ite (.cmp .isin (.var 4) (.tup [(.int 3), (.int 4)])) [.append 3 (.call 13 [(.var 0), (.int 3)])] [.append 3 (.sub (.call 13 [(.var 0), (.int 6)]) (.ite (.cmp .eq (.var 4) (.int 6)) (.int 1) (.int 0)))]]]]], .ret (.tupof (.var 3))]⟩
/-- row parts sort k -/
noncomputable def x_law_of : FnX := ⟨3, 4, [.ret (.comp (.item (.var 0) (.add (.var 3) (.int 1))) (.one 3) (.rng (.len (.var 1))) [(.cmp .eq (.item (.var 1) (.var 3)) (.var 2))] [0, 1, 2])]⟩
/-- row taken left parts want -/
noncomputable def x_law_entries : FnX := ⟨4, 5, [.assign 1 (.add (.add (.var 1) (.sum (.call 15 [(.var 0), (.var 3), (.int 2)]))) (.len (.comp (.var 4) (.one 4) (.of (.call 15 [(.var 0), (.var 3), (.int 4)])) [(.cmp .gt (.var 4) (.int 0))] []))), .ret (.tup [(.var 1), (.ite (.cmp .isin (.int 0) (.call 15 [(.var 0), (.var 3), (.int 3)])) (.int 0) (.var 2))])]⟩
/-- word -/
noncomputable def x_law_ends : FnX := ⟨1, 1, [.ret (.or [(.cmp .isin (.var 0) (.tup [(.str [106, 117, 109, 112]), (.str [98, 121, 119, 97, 110, 116]), (.str [115, 117, 98, 114, 101, 116, 117, 114, 110]), (.str [108, 111, 111, 112, 108, 101, 97, 118, 101]), (.str [114, 101, 102, 117, 115, 101])])), (.cmp .eq (.slc (.var 0) none (some 6) none) (.str [114, 101, 116, 117, 114, 110]))])]⟩
/-- row change places there place -/
noncomputable def x_law_ways : FnX := ⟨3, 5, [.assign 3 (.add (.var 1) (.dget [([111, 114, 106, 117, 109, 112], 1), ([97, 110, 100, 106, 117, 109, 112], 1), ([100, 111, 114, 106, 117, 109, 112], 1), ([110, 101, 120, 116], -1)] 0 0 0)), .ret (.add (.ite (.call 17 [(.item (.var 0) (.int 0))]) (.lst []) (.lst [(.tup [(.neg 1), (.var 1)])])) (.comp (.tup [(.var 4), (.var 3)]) (.one 4) (.of (.var 2)) [] [3]))]⟩
/-- row many reads -/
noncomputable def x_law_refused : FnX := ⟨1, 3, [.assign 1 (.int 0), .for_ (.one 2) (.of (.tup [(.glob 6), (.glob 7), (.glob 10)])) [.tryc (.callv 2 [(.var 0)]) 1], .tryc (.call 8 [(.var 0), (.lst [(.int 1), (.int 2), (.int 3)])]) 1, .ret (.var 1)]⟩
/-- wheel told row due places others turned wrong word taken left parts k place one number -/
noncomputable def x_law_is_right : FnX := ⟨2, 16, [.unpack [8, 9, 10, 11] (.var 1), .assign 2 (.call 14 [(.var 0), (.var 8), (.var 11)]), .assign 3 (.call 16 [(.var 2), (.var 9), (.var 10), (.var 11)]), .assign 4 (.call 15 [(.var 2), (.var 11), (.int 1)]), .ite (.or [(.cmp .ne (.call 6 [(.var 2)]) (.var 3)), (.cmp .ne (.call 7 [(.var 2)]) (.var 4)), (.cmp .eq (.call 9 [(.var 2)]) (.call 17 [(.var 8)]))]) [.ret (.bool false)] [], .ite (.cmp .ne (.call 10 [(.var 2)]) (.call 18 [(.var 2), (.sub (.item (.var 3) (.int 1)) (.item (.var 3) (.int 0))), (.var 4)])) [.ret (.bool false)] [], .ite (.cmp .ne (.call 11 [(.var 2)]) (.add (.call 15 [(.var 2), (.var 11), (.int 5)]) (.comp (.var 15) (.one 15) (.of (.call 15 [(.var 2), (.var 11), (.int 6)])) [(.cmp .ge (.var 15) (.int 0))] []))) [.ret (.bool false)] [], .acomp 5 (.comp (.add (.add (.int 50) (.var 13)) (.mul (.int 2) (.var 12))) (.many [12, 13]) (.enum (.var 4)) [] []), .assign 6 (.call 8 [(.var 2), (.var 5)]), .ite (.or [(.cmp .ne (.call 7 [(.var 6)]) (.var 5)), (.cmp .ne (.len (.var 6)) (.len (.var 2))), (.cmp .ne (.call 8 [(.var 6), (.var 4)]) (.var 2))]) [.ret (.bool false)] [], .assign 7 (.add (.lst [(.add (.var 2) (.tup [(.int 0)])), (.add (.tup [(.add (.slc (.var 8) none none (some (-1))) (.str [120]))]) (.slc (.var 2) (some 1) none none))]) (.ite (.cmp .ne (.var 11) (.lst [])) (.lst [(.slc (.var 2) none (some (-1)) none)]) (.lst []))), .ret (.cmp .eq (.comp (.call 19 [(.var 14)]) (.one 14) (.of (.var 7)) [] []) (.mul (.lst [(.int 4)]) (.len (.var 7))))]⟩
noncomputable def tShapes : List (List Nat × D) := [([99, 111, 110, 115, 116], (.tup [(.int 0), (.int 1), (.str [45])])),
  ([101, 109, 112, 116, 121], (.tup [(.int 0), (.int 1), (.str [])])),
  ([100, 114, 111, 112], (.tup [(.int 1), (.int 0), (.str [])])),
  ([100, 117, 112], (.tup [(.int 1), (.int 2), (.str [])])),
  ([115, 119, 97, 112], (.tup [(.int 2), (.int 2), (.str [])])),
  ([119, 114, 97, 112], (.tup [(.int 1), (.int 1), (.str [])])),
  ([97, 112, 112, 101, 110, 100], (.tup [(.int 0), (.int 1), (.str [110])])),
  ([99, 111, 112, 121], (.tup [(.int 1), (.int 1), (.str [])])),
  ([99, 111, 117, 110, 116], (.tup [(.int 1), (.int 1), (.str [])])),
  ([102, 105, 110, 97, 108], (.tup [(.int 1), (.int 1), (.str [])])),
  ([107, 101, 101, 112], (.tup [(.int 1), (.int 1), (.str [])])),
  ([114, 101, 102, 99, 111, 100, 101], (.tup [(.int 1), (.int 1), (.str [])])),
  ([99, 111, 100, 101, 116, 111, 108, 100], (.tup [(.int 1), (.int 1), (.str [])])),
  ([114, 101, 102, 117, 115, 101], (.tup [(.int 0), (.int 1), (.str [45])])),
  ([112, 97, 100], (.tup [(.int 0), (.int 1), (.str [45, 45])])),
  ([109, 121], (.tup [(.int 0), (.int 1), (.str [45, 45])])),
  ([103, 108, 111, 98], (.tup [(.int 0), (.int 1), (.str [45, 45])])),
  ([109, 97, 116, 99, 104, 118, 97, 114], (.tup [(.int 0), (.int 1), (.str [45])])),
  ([102, 101, 116, 99, 104], (.tup [(.int 1), (.int 1), (.str [])])),
  ([97, 115, 99, 97, 108, 97, 114], (.tup [(.int 1), (.int 1), (.str [])])),
  ([110, 101, 119, 115, 99, 97, 108, 97, 114], (.tup [(.int 1), (.int 1), (.str [])])),
  ([118, 105, 118, 105, 102, 121], (.tup [(.int 1), (.int 1), (.str [45])])),
  ([100, 101, 114, 101, 102], (.tup [(.int 1), (.int 1), (.str [45])])),
  ([105, 116, 101, 109, 115], (.tup [(.int 1), (.int 1), (.str [])])),
  ([115, 105, 122, 101], (.tup [(.int 1), (.int 1), (.str [])])),
  ([112, 97, 105, 114, 115], (.tup [(.int 1), (.int 1), (.str [])])),
  ([107, 101, 121, 99, 111, 117, 110, 116], (.tup [(.int 1), (.int 1), (.str [])])),
  ([108, 97, 115, 116, 105, 100, 120], (.tup [(.int 1), (.int 1), (.str [])])),
  ([101, 108, 101, 109], (.tup [(.int 2), (.int 1), (.str [])])),
  ([104, 101, 108, 101, 109], (.tup [(.int 2), (.int 1), (.str [])])),
  ([101, 108, 101, 109, 97, 116], (.tup [(.int 2), (.int 1), (.str [])])),
  ([104, 101, 108, 101, 109, 97, 116], (.tup [(.int 2), (.int 1), (.str [])])),
  ([101, 108, 101, 109, 108, 118], (.tup [(.int 2), (.int 1), (.str [])])),
  ([104, 101, 108, 101, 109, 108, 118], (.tup [(.int 2), (.int 1), (.str [])])),
  ([97, 115, 108, 105, 99, 101], (.tup [(.int 2), (.int 1), (.str [])])),
  ([104, 115, 108, 105, 99, 101], (.tup [(.int 2), (.int 1), (.str [])])),
  ([97, 115, 108, 105, 99, 101, 108, 118], (.tup [(.int 2), (.int 1), (.str [])])),
  ([104, 115, 108, 105, 99, 101, 108, 118], (.tup [(.int 2), (.int 1), (.str [])])),
  ([108, 115, 108, 105, 99, 101], (.tup [(.int 2), (.int 1), (.str [])])),
  ([115, 117, 98, 115, 116, 114, 108, 118], (.tup [(.int 0), (.int 1), (.str [110])])),
  ([118, 101, 99, 108, 118], (.tup [(.int 3), (.int 1), (.str [])])),
  ([112, 111, 115, 108, 118], (.tup [(.int 1), (.int 1), (.str [])])),
  ([108, 97, 115, 116, 108, 118], (.tup [(.int 1), (.int 1), (.str [])])),
  ([114, 101, 102], (.tup [(.int 1), (.int 1), (.str [])])),
  ([114, 101, 102, 118, 97, 108, 117, 101], (.tup [(.int 1), (.int 1), (.str [])])),
  ([101, 108, 101, 109, 114, 101, 102, 115], (.tup [(.int 1), (.int 1), (.str [])])),
  ([114, 101, 102, 101, 97, 99, 104], (.tup [(.int 1), (.int 1), (.str [])])),
  ([97, 110, 111, 110, 97], (.tup [(.int 1), (.int 1), (.str [])])),
  ([97, 110, 111, 110, 104], (.tup [(.int 1), (.int 1), (.str [])])),
  ([99, 108, 111, 115, 117, 114, 101], (.tup [(.int 0), (.int 1), (.str [45])])),
  ([100, 101, 102, 105, 110, 101, 115, 117, 98], (.tup [(.int 0), (.int 0), (.str [45])])),
  ([99, 111, 100, 101], (.tup [(.int 0), (.int 1), (.str [45])])),
  ([99, 111, 100, 101, 102, 111, 114], (.tup [(.int 0), (.int 1), (.str [45])])),
  ([97, 115, 115, 105, 103, 110], (.tup [(.int 2), (.int 1), (.str [])])),
  ([111, 112, 97, 115, 115, 105, 103, 110], (.tup [(.int 2), (.int 1), (.str [45])])),
  ([97, 97, 115, 115, 105, 103, 110], (.tup [(.int 2), (.int 1), (.str [119])])),
  ([109, 101, 109, 98, 101, 114, 115], (.tup [(.int 1), (.int 1), (.str [])])),
  ([108, 97, 115, 116, 116, 97, 114, 103, 101, 116], (.tup [(.int 1), (.int 1), (.str [])])),
  ([112, 114, 101, 105, 110, 99], (.tup [(.int 1), (.int 1), (.str [])])),
  ([112, 114, 101, 100, 101, 99], (.tup [(.int 1), (.int 1), (.str [])])),
  ([112, 111, 115, 116, 105, 110, 99], (.tup [(.int 1), (.int 1), (.str [])])),
  ([112, 111, 115, 116, 100, 101, 99], (.tup [(.int 1), (.int 1), (.str [])])),
  ([108, 111, 99, 97, 108, 103, 108, 111, 98], (.tup [(.int 0), (.int 1), (.str [45, 45])])),
  ([108, 111, 99, 97, 108, 101, 108, 101, 109], (.tup [(.int 2), (.int 1), (.str [])])),
  ([108, 111, 99, 97, 108, 104, 101, 108, 101, 109], (.tup [(.int 2), (.int 1), (.str [])])),
  ([108, 111, 99, 97, 108, 97, 115, 108, 105, 99, 101], (.tup [(.int 2), (.int 1), (.str [])])),
  ([108, 111, 99, 97, 108, 104, 115, 108, 105, 99, 101], (.tup [(.int 2), (.int 1), (.str [])])),
  ([98, 105, 110], (.tup [(.int 2), (.int 1), (.str [45])])),
  ([120, 111, 114], (.tup [(.int 2), (.int 1), (.str [])])),
  ([117, 110], (.tup [(.int 1), (.int 1), (.str [45])])),
  ([106, 111, 105, 110, 108, 105, 115, 116], (.tup [(.int 1), (.int 1), (.str [])])),
  ([116, 101, 120, 116], (.tup [(.int 1), (.int 1), (.str [])])),
  ([119, 97, 110, 116, 101, 100], (.tup [(.int 0), (.int 1), (.str [])])),
  ([114, 101, 112, 101, 97, 116], (.tup [(.int 2), (.int 1), (.str [])])),
  ([114, 97, 110, 103, 101], (.tup [(.int 2), (.int 1), (.str [])])),
  ([106, 117, 109, 112], (.tup [(.int 0), (.int 0), (.str [106])])),
  ([105, 102, 102, 97, 108, 115, 101], (.tup [(.int 1), (.int 0), (.str [106])])),
  ([105, 102, 116, 114, 117, 101], (.tup [(.int 1), (.int 0), (.str [106])])),
  ([105, 102, 100, 101, 102], (.tup [(.int 1), (.int 0), (.str [106])])),
  ([111, 114, 106, 117, 109, 112], (.tup [(.int 1), (.int 0), (.str [106])])),
  ([97, 110, 100, 106, 117, 109, 112], (.tup [(.int 1), (.int 0), (.str [106])])),
  ([100, 111, 114, 106, 117, 109, 112], (.tup [(.int 1), (.int 0), (.str [106])])),
  ([98, 121, 119, 97, 110, 116], (.tup [(.int 0), (.int 0), (.str [106, 106, 106])])),
  ([105, 116, 101, 114], (.tup [(.int 1), (.int 1), (.str [])])),
  ([110, 101, 120, 116], (.tup [(.int 1), (.int 2), (.str [106])])),
  ([98, 105, 110, 100, 112, 97, 100], (.tup [(.int 1), (.int 0), (.str [45])])),
  ([98, 105, 110, 100, 103, 108, 111, 98], (.tup [(.int 1), (.int 0), (.str [45])])),
  ([114, 101, 116, 117, 114, 110, 48], (.tup [(.int 0), (.int 0), (.str [])])),
  ([114, 101, 116, 117, 114, 110, 49], (.tup [(.int 1), (.int 0), (.str [])])),
  ([114, 101, 116, 117, 114, 110, 50], (.tup [(.int 1), (.int 0), (.str [])])),
  ([115, 117, 98, 114, 101, 116, 117, 114, 110], (.tup [(.int 0), (.int 0), (.str [115])])),
  ([101, 110, 116, 101, 114], (.tup [(.int 0), (.int 0), (.str [])])),
  ([108, 101, 97, 118, 101], (.tup [(.int 0), (.int 0), (.str [])])),
  ([108, 101, 97, 118, 101, 116, 101, 115, 116], (.tup [(.int 0), (.int 0), (.str [])])),
  ([98, 101, 103, 105, 110], (.tup [(.int 0), (.int 0), (.str [])])),
  ([115, 101, 116, 116, 108, 101], (.tup [(.int 0), (.int 0), (.str [])])),
  ([114, 101, 115, 101, 116, 116, 108, 101], (.tup [(.int 0), (.int 0), (.str [])])),
  ([102, 111, 114, 103, 101, 116], (.tup [(.int 0), (.int 0), (.str [])])),
  ([108, 105, 110, 101], (.tup [(.int 0), (.int 0), (.str [45])])),
  ([112, 97, 99, 107, 97, 103, 101], (.tup [(.int 0), (.int 0), (.str [45])])),
  ([108, 111, 111, 112], (.tup [(.int 0), (.int 0), (.str [45, 106, 106, 106])])),
  ([101, 110, 100, 108, 111, 111, 112], (.tup [(.int 0), (.int 0), (.str [])])),
  ([117, 110, 119, 105, 110, 100], (.tup [(.int 0), (.int 0), (.str [45, 45, 45])])),
  ([108, 111, 111, 112, 108, 101, 97, 118, 101], (.tup [(.int 0), (.int 0), (.str [45, 45])])),
  ([99, 97, 108, 108], (.tup [(.int 2), (.int 1), (.str [119])])),
  ([99, 97, 108, 108, 115, 97, 109, 101], (.tup [(.int 1), (.int 1), (.str [119])])),
  ([109, 101, 116, 104, 111, 100], (.tup [(.int 2), (.int 1), (.str [45, 119])])),
  ([102, 117, 110, 99], (.tup [(.int 0), (.int 1), (.str [45, 110, 119])])),
  ([109, 97, 112], (.tup [(.int 1), (.int 1), (.str [45])])),
  ([103, 114, 101, 112], (.tup [(.int 1), (.int 1), (.str [45])])),
  ([115, 111, 114, 116], (.tup [(.int 1), (.int 1), (.str [45, 45])])),
  ([115, 111, 114, 116, 98, 121], (.tup [(.int 2), (.int 1), (.str [45])])),
  ([109, 97, 116, 99, 104], (.tup [(.int 2), (.int 1), (.str [45, 45, 119])])),
  ([115, 117, 98, 115, 116], (.tup [(.int 2), (.int 1), (.str [45, 45])])),
  ([116, 114, 97, 110, 115], (.tup [(.int 1), (.int 1), (.str [45, 45, 45])])),
  ([115, 112, 108, 105, 116], (.tup [(.int 3), (.int 1), (.str [45, 119])])),
  ([100, 101, 108, 101, 116, 101], (.tup [(.int 2), (.int 1), (.str [45])])),
  ([101, 120, 105, 115, 116, 115], (.tup [(.int 2), (.int 1), (.str [45])])),
  ([105, 115, 100, 101, 102], (.tup [(.int 1), (.int 1), (.str [])])),
  ([99, 111, 100, 101, 116, 104, 101, 114, 101], (.tup [(.int 0), (.int 1), (.str [45])])),
  ([101, 118, 97, 108, 98, 108, 111, 99, 107], (.tup [(.int 0), (.int 1), (.str [45, 119])])),
  ([101, 118, 97, 108, 115, 116, 114], (.tup [(.int 1), (.int 1), (.str [45, 45, 119])]))]
noncomputable def tKeeping : List (List Nat × D) := [([111, 114, 106, 117, 109, 112], (.int 1)), ([97, 110, 100, 106, 117, 109, 112], (.int 1)), ([100, 111, 114, 106, 117, 109, 112], (.int 1)), ([110, 101, 120, 116], (.int (-1)))]
noncomputable def dLeaving : D := (.tup [(.str [106, 117, 109, 112]), (.str [98, 121, 119, 97, 110, 116]), (.str [114, 101, 116, 117, 114, 110, 48]), (.str [114, 101, 116, 117, 114, 110, 49]), (.str [114, 101, 116, 117, 114, 110, 50]), (.str [115, 117, 98, 114, 101, 116, 117, 114, 110]), (.str [108, 111, 111, 112, 108, 101, 97, 118, 101]), (.str [114, 101, 102, 117, 115, 101])])
noncomputable def dList : D := .clst [(.tup [(.int 0), (.int 1), (.clst []), (.str [101, 109, 112, 116, 121, 32, 119, 97, 110, 116, 101, 100])]),
  (.tup [(.int 0), (.int 1), (.clst [(.int 0)]), (.str [99, 111, 110, 115, 116, 32, 114, 101, 102, 117, 115, 101, 32, 109, 97, 116, 99, 104, 118, 97, 114, 32, 99, 111, 100, 101, 32, 99, 111, 100, 101, 102, 111, 114, 32, 99, 111, 100, 101, 116, 104, 101, 114, 101])]),
  (.tup [(.int 0), (.int 1), (.clst [(.int 0), (.int 0)]), (.str [112, 97, 100, 32, 109, 121, 32, 103, 108, 111, 98, 32, 108, 111, 99, 97, 108, 103, 108, 111, 98])]),
  (.tup [(.int 0), (.int 1), (.clst [(.int 2)]), (.str [97, 112, 112, 101, 110, 100, 32, 115, 117, 98, 115, 116, 114, 108, 118])]),
  (.tup [(.int 0), (.int 1), (.clst [(.int 5)]), (.str [99, 108, 111, 115, 117, 114, 101])]),
  (.tup [(.int 0), (.int 0), (.clst [(.int 5)]), (.str [100, 101, 102, 105, 110, 101, 115, 117, 98])]),
  (.tup [(.int 1), (.int 0), (.clst []), (.str [100, 114, 111, 112, 32, 114, 101, 116, 117, 114, 110, 49, 32, 114, 101, 116, 117, 114, 110, 50])]),
  (.tup [(.int 1), (.int 2), (.clst []), (.str [100, 117, 112])]),
  (.tup [(.int 2), (.int 2), (.clst []), (.str [115, 119, 97, 112])]),
  (.tup [(.int 3), (.int 1), (.clst []), (.str [118, 101, 99, 108, 118])]),
  (.tup [(.int 1), (.int 1), (.clst [(.int 0)]), (.str [118, 105, 118, 105, 102, 121, 32, 100, 101, 114, 101, 102, 32, 117, 110])]),
  (.tup [(.int 1), (.int 1), (.clst []), (.str [119, 114, 97, 112, 32, 99, 111, 112, 121, 32, 99, 111, 117, 110, 116, 32, 102, 105, 110, 97, 108, 32, 102, 101, 116, 99, 104, 32, 97, 115, 99, 97, 108, 97, 114, 32, 110, 101, 119, 115, 99, 97, 108, 97, 114, 32, 105, 116, 101, 109, 115, 32, 115, 105, 122, 101, 32, 112, 97, 105, 114, 115, 32, 107, 101, 121, 99, 111, 117, 110, 116, 32, 108, 97, 115, 116, 105, 100, 120, 32, 112, 111, 115, 108, 118, 32, 114, 101, 102, 32, 114, 101, 102, 118, 97, 108, 117, 101, 32, 101, 108, 101, 109, 114, 101, 102, 115, 32, 97, 110, 111, 110, 97, 32, 97, 110, 111, 110, 104, 32, 109, 101, 109, 98, 101, 114, 115, 32, 108, 97, 115, 116, 116, 97, 114, 103, 101, 116, 32, 112, 114, 101, 105, 110, 99, 32, 112, 114, 101, 100, 101, 99, 32, 112, 111, 115, 116, 105, 110, 99, 32, 112, 111, 115, 116, 100, 101, 99, 32, 106, 111, 105, 110, 108, 105, 115, 116, 32, 116, 101, 120, 116, 32, 105, 116, 101, 114, 32, 105, 115, 100, 101, 102])]),
  (.tup [(.int 2), (.int 1), (.clst []), (.str [101, 108, 101, 109, 32, 104, 101, 108, 101, 109, 32, 101, 108, 101, 109, 97, 116, 32, 104, 101, 108, 101, 109, 97, 116, 32, 101, 108, 101, 109, 108, 118, 32, 104, 101, 108, 101, 109, 108, 118, 32, 97, 115, 108, 105, 99, 101, 32, 104, 115, 108, 105, 99, 101, 32, 97, 115, 108, 105, 99, 101, 108, 118, 32, 104, 115, 108, 105, 99, 101, 108, 118, 32, 108, 115, 108, 105, 99, 101, 32, 97, 115, 115, 105, 103, 110, 32, 108, 111, 99, 97, 108, 101, 108, 101, 109, 32, 108, 111, 99, 97, 108, 104, 101, 108, 101, 109, 32, 108, 111, 99, 97, 108, 97, 115, 108, 105, 99, 101, 32, 108, 111, 99, 97, 108, 104, 115, 108, 105, 99, 101, 32, 120, 111, 114, 32, 114, 101, 112, 101, 97, 116, 32, 114, 97, 110, 103, 101])]),
  (.tup [(.int 2), (.int 1), (.clst [(.int 0)]), (.str [111, 112, 97, 115, 115, 105, 103, 110, 32, 98, 105, 110, 32, 100, 101, 108, 101, 116, 101, 32, 101, 120, 105, 115, 116, 115])]),
  (.tup [(.int 2), (.int 1), (.clst [(.int 3)]), (.str [97, 97, 115, 115, 105, 103, 110, 32, 99, 97, 108, 108])]),
  (.tup [(.int 1), (.int 1), (.clst [(.int 3)]), (.str [99, 97, 108, 108, 115, 97, 109, 101])]),
  (.tup [(.int 2), (.int 1), (.clst [(.int 0), (.int 3)]), (.str [109, 101, 116, 104, 111, 100])]),
  (.tup [(.int 0), (.int 1), (.clst [(.int 0), (.int 2), (.int 3)]), (.str [102, 117, 110, 99])]),
  (.tup [(.int 0), (.int 0), (.clst [(.int 1)]), (.str [106, 117, 109, 112])]),
  (.tup [(.int 1), (.int 0), (.clst [(.int 1)]), (.str [105, 102, 102, 97, 108, 115, 101, 32, 105, 102, 116, 114, 117, 101, 32, 105, 102, 100, 101, 102, 32, 111, 114, 106, 117, 109, 112, 32, 97, 110, 100, 106, 117, 109, 112, 32, 100, 111, 114, 106, 117, 109, 112])]),
  (.tup [(.int 0), (.int 0), (.clst [(.int 1), (.int 1), (.int 1)]), (.str [98, 121, 119, 97, 110, 116])]),
  (.tup [(.int 1), (.int 2), (.clst [(.int 1)]), (.str [110, 101, 120, 116])]),
  (.tup [(.int 1), (.int 0), (.clst [(.int 0)]), (.str [98, 105, 110, 100, 112, 97, 100, 32, 98, 105, 110, 100, 103, 108, 111, 98])]),
  (.tup [(.int 0), (.int 0), (.clst []), (.str [114, 101, 116, 117, 114, 110, 48, 32, 101, 110, 116, 101, 114, 32, 108, 101, 97, 118, 101, 32, 98, 101, 103, 105, 110, 32, 115, 101, 116, 116, 108, 101, 32, 114, 101, 115, 101, 116, 116, 108, 101, 32, 102, 111, 114, 103, 101, 116, 32, 101, 110, 100, 108, 111, 111, 112])]),
  (.tup [(.int 0), (.int 0), (.clst [(.int 4)]), (.str [115, 117, 98, 114, 101, 116, 117, 114, 110])]),
  (.tup [(.int 0), (.int 0), (.clst [(.int 0)]), (.str [108, 105, 110, 101, 32, 112, 97, 99, 107, 97, 103, 101])]),
  (.tup [(.int 0), (.int 0), (.clst [(.int 0), (.int 1), (.int 1), (.int 1)]), (.str [108, 111, 111, 112])]),
  (.tup [(.int 0), (.int 0), (.clst [(.int 0), (.int 0), (.int 0)]), (.str [117, 110, 119, 105, 110, 100])]),
  (.tup [(.int 0), (.int 0), (.clst [(.int 0), (.int 0)]), (.str [108, 111, 111, 112, 108, 101, 97, 118, 101])]),
  (.tup [(.int 1), (.int 1), (.clst [(.int 5)]), (.str [109, 97, 112, 32, 103, 114, 101, 112])]),
  (.tup [(.int 1), (.int 1), (.clst [(.int 6), (.int 0)]), (.str [115, 111, 114, 116])]),
  (.tup [(.int 2), (.int 1), (.clst [(.int 0), (.int 0), (.int 3)]), (.str [109, 97, 116, 99, 104])]),
  (.tup [(.int 2), (.int 1), (.clst [(.int 0), (.int 5)]), (.str [115, 117, 98, 115, 116])]),
  (.tup [(.int 1), (.int 1), (.clst [(.int 0), (.int 0), (.int 0)]), (.str [116, 114, 97, 110, 115])]),
  (.tup [(.int 3), (.int 1), (.clst [(.int 0), (.int 3)]), (.str [115, 112, 108, 105, 116])]),
  (.tup [(.int 0), (.int 1), (.clst [(.int 5), (.int 3)]), (.str [101, 118, 97, 108, 98, 108, 111, 99, 107])]),
  (.tup [(.int 1), (.int 1), (.clst [(.int 0), (.int 0), (.int 3)]), (.str [101, 118, 97, 108, 115, 116, 114])])]
noncomputable def Γ0 : Globs := ⟨[⟨0, 0, [.raise_]⟩, ⟨0, 0, [.raise_]⟩, ⟨0, 0, [.raise_]⟩, ⟨0, 0, [.raise_]⟩, ⟨0, 0, [.raise_]⟩, x_shape_of, x_effect_of, x_jumps_of, x_with_jumps, x_goes_on, x_heights_at, x_subs_used, x_law_all, ⟨0, 0, [.raise_]⟩, x_law_filled, x_law_of, x_law_entries, x_law_ends, x_law_ways, x_law_refused, x_law_is_right],
  [some (.tab 0), some (.tab 1), some dLeaving, some (.int 0), some dList, some (.fn 5), some (.fn 6), some (.fn 7), some (.fn 8), some (.fn 9), some (.fn 10), some (.fn 11), some (.fn 12), some (.fn 13), some (.fn 14), some (.fn 15), some (.fn 16), some (.fn 17), some (.fn 18), some (.fn 19), some (.fn 20)],
  [tShapes, tKeeping], 13⟩

noncomputable def stAt (k : Nat) : Stmt := (PySem.Challenge.pw_rg0228_01.main.body)[k]?.getD (.Pass ⟨0, 0, 0, 0⟩)
noncomputable def bodyAt (k : Nat) : List Stmt := match stAt k with
  | .FunctionDef _ _ b _ _ _ _ _ _ _ => b
  | _ => []
noncomputable def namesAt (k : Nat) : List (Str × NameKind) := match stAt k with
  | .FunctionDef _ _ _ _ _ _ sc _ _ _ => sc.names
  | _ => []
noncomputable def gsN : List Str := ["SHAPES","KEEPING","LEAVING","VOID","_law_list","shape_of","effect_of","jumps_of","with_jumps","goes_on","heights_at","subs_used","_law_all","_law_spin","_law_filled","_law_of","_law_entries","_law_ends","_law_ways","_law_refused","_law_is_right"]
noncomputable def v_shape_of : List Str := ["op", "shape"]
theorem tr_shape_of : TrSs (namesAt 8) v_shape_of gsN (bodyAt 8) x_shape_of.body :=
  (.cons (.ite (.cmp (.item (.var rfl (by decide +kernel)) .int rfl) (.glob rfl (by decide +kernel) (by decide +kernel)) rfl rfl) (.cons (.raise_ (by decide +kernel) (by decide +kernel) (by decide +kernel)) .nil) .nil) (.cons (.assign rfl (by decide +kernel) (.item (.glob rfl (by decide +kernel) (by decide +kernel)) (.item (.var rfl (by decide +kernel)) .int rfl) rfl) (fun _ _ _ _ _ h => by cases h)) (.cons (.ite (.cmp (.len (by decide +kernel) (.var rfl (by decide +kernel)) rfl) (.add .int (.len (by decide +kernel) (.item (.var rfl (by decide +kernel)) .int rfl) rfl)) rfl rfl) (.cons (.raise_ (by decide +kernel) (by decide +kernel) (by decide +kernel)) .nil) .nil) (.cons (.ret (.var rfl (by decide +kernel))) .nil))))
noncomputable def v_effect_of : List Str := ["op", "at", "taken", "left", "parts"]
theorem tr_effect_of : TrSs (namesAt 9) v_effect_of gsN (bodyAt 9) x_effect_of.body :=
  (.cons (.unpack (.many (.cons rfl (.cons rfl (.cons rfl .nil)))) (by decide +kernel) (.call rfl (by decide +kernel) (by decide +kernel) (.cons (.var rfl (by decide +kernel)) rfl .nil)) (fun _ h => by cases h) (fun _ _ _ _ _ h => by cases h)) (.cons (.for_ (.one rfl) (by decide +kernel) (.rng (by decide +kernel) (.len (by decide +kernel) (.var rfl (by decide +kernel)) rfl) rfl) (.cons (.ite (.cmp (.item (.var rfl (by decide +kernel)) (.var rfl (by decide +kernel)) rfl) (.str (by decide +kernel) (by decide +kernel)) rfl rfl) (.cons (.aug rfl (by decide +kernel) (by decide +kernel) (.item (.var rfl (by decide +kernel)) (.add (.var rfl (by decide +kernel)) .int) rfl)) .nil) (.cons (.ite (.and (.cons (.cmp (.item (.var rfl (by decide +kernel)) (.var rfl (by decide +kernel)) rfl) (.str (by decide +kernel) (by decide +kernel)) rfl rfl) rfl (.cons (.cmp (.item (.var rfl (by decide +kernel)) (.add (.var rfl (by decide +kernel)) .int) rfl) (.glob rfl (by decide +kernel) (by decide +kernel)) rfl rfl) rfl .nil))) (.cons (.assign rfl (by decide +kernel) .int (fun _ _ _ _ _ h => by cases h)) .nil) (.cons (.ite (.and (.cons (.cmp (.item (.var rfl (by decide +kernel)) (.var rfl (by decide +kernel)) rfl) (.str (by decide +kernel) (by decide +kernel)) rfl rfl) rfl (.cons (.cmp (.item (.var rfl (by decide +kernel)) (.add (.var rfl (by decide +kernel)) .int) rfl) (.glob rfl (by decide +kernel) (by decide +kernel)) rfl rfl) rfl .nil))) (.cons (.aug rfl (by decide +kernel) (by decide +kernel) .int) .nil) .nil) .nil)) .nil)) .nil)) (.cons (.ret (.tup (.cons (.var rfl (by decide +kernel)) rfl (.cons (.var rfl (by decide +kernel)) rfl .nil)))) .nil)))
noncomputable def v_jumps_of : List Str := ["op", "parts", "at"]
theorem tr_jumps_of : TrSs (namesAt 10) v_jumps_of gsN (bodyAt 10) x_jumps_of.body :=
  (.cons (.assign rfl (by decide +kernel) (.item (.call rfl (by decide +kernel) (by decide +kernel) (.cons (.var rfl (by decide +kernel)) rfl .nil)) .int rfl) (fun _ _ _ _ _ h => by cases h)) (.cons (.ret (.comp (by decide +kernel) (.rng (by decide +kernel) (.len (by decide +kernel) (.var rfl (by decide +kernel)) rfl) rfl) (.one rfl) (.item (.var rfl (by decide +kernel)) (.add (.var rfl (by decide +kernel)) .int) rfl) (.cons (.cmp (.item (.var rfl (by decide +kernel)) (.var rfl (by decide +kernel)) rfl) (.str (by decide +kernel) (by decide +kernel)) rfl rfl) rfl .nil))) .nil))
noncomputable def v_with_jumps : List Str := ["op", "places", "parts", "made", "used", "at"]
theorem tr_with_jumps : TrSs (namesAt 11) v_with_jumps gsN (bodyAt 11) x_with_jumps.body :=
  (.cons (.assign rfl (by decide +kernel) (.item (.call rfl (by decide +kernel) (by decide +kernel) (.cons (.var rfl (by decide +kernel)) rfl .nil)) .int rfl) (fun _ _ _ _ _ h => by cases h)) (.cons (.assign rfl (by decide +kernel) (.lst (.cons (.item (.var rfl (by decide +kernel)) .int rfl) rfl .nil)) (fun _ _ _ _ _ h => by cases h)) (.cons (.assign rfl (by decide +kernel) .int (fun _ _ _ _ _ h => by cases h)) (.cons (.for_ (.one rfl) (by decide +kernel) (.rng (by decide +kernel) (.len (by decide +kernel) (.var rfl (by decide +kernel)) rfl) rfl) (.cons (.ite (.cmp (.item (.var rfl (by decide +kernel)) (.var rfl (by decide +kernel)) rfl) (.str (by decide +kernel) (by decide +kernel)) rfl rfl) (.cons (.append rfl (by decide +kernel) (.item (.var rfl (by decide +kernel)) (.var rfl (by decide +kernel)) rfl) rfl rfl) (.cons (.aug rfl (by decide +kernel) (by decide +kernel) .int) .nil)) (.cons (.append rfl (by decide +kernel) (.item (.var rfl (by decide +kernel)) (.add (.var rfl (by decide +kernel)) .int) rfl) rfl rfl) .nil)) .nil)) (.cons (.ret (.tupof (by decide +kernel) (.var rfl (by decide +kernel)) rfl)) .nil)))))
noncomputable def v_goes_on : List Str := ["op"]
theorem tr_goes_on : TrSs (namesAt 12) v_goes_on gsN (bodyAt 12) x_goes_on.body :=
  (.cons (.ret (.cmp (.item (.var rfl (by decide +kernel)) .int rfl) (.glob rfl (by decide +kernel) (by decide +kernel)) rfl rfl)) .nil)
noncomputable def v_heights_at : List Str := ["op", "change", "found", "place", "taken", "left"]
theorem tr_heights_at : TrSs (namesAt 13) v_heights_at gsN (bodyAt 13) x_heights_at.body :=
  (.cons (.unpack (.many (.cons rfl (.cons rfl .nil))) (by decide +kernel) (.call rfl (by decide +kernel) (by decide +kernel) (.cons (.var rfl (by decide +kernel)) rfl .nil)) (fun _ h => by cases h) (fun _ _ _ _ _ h => by cases h)) (.cons (.assign rfl (by decide +kernel) (.sub (.var rfl (by decide +kernel)) (.var rfl (by decide +kernel))) (fun _ _ _ _ _ h => by cases h)) (.cons (.assign rfl (by decide +kernel) (.lst .nil) (fun _ _ _ _ _ h => by cases h)) (.cons (.ite (.call rfl (by decide +kernel) (by decide +kernel) (.cons (.var rfl (by decide +kernel)) rfl .nil)) (.cons (.append rfl (by decide +kernel) (.tup (.cons .neg rfl (.cons (.var rfl (by decide +kernel)) rfl .nil))) rfl rfl) .nil) .nil) (.cons (.for_ (.one rfl) (by decide +kernel) (.of (.call rfl (by decide +kernel) (by decide +kernel) (.cons (.var rfl (by decide +kernel)) rfl .nil)) rfl) (.cons (.append rfl (by decide +kernel) (.tup (.cons (.var rfl (by decide +kernel)) rfl (.cons (.add (.var rfl (by decide +kernel)) (.get (.glob rfl (by decide +kernel) (by decide +kernel)) (.item (.var rfl (by decide +kernel)) .int rfl) .int rfl rfl rfl (fun _ _ _ _ h => by cases h))) rfl .nil))) rfl rfl) .nil)) (.cons (.ret (.var rfl (by decide +kernel))) .nil))))))
noncomputable def v_subs_used : List Str := ["op"]
theorem tr_subs_used : TrSs (namesAt 14) v_subs_used gsN (bodyAt 14) x_subs_used.body :=
  (.cons (.ite (.cmp (.item (.var rfl (by decide +kernel)) .int rfl) (.tup (.cons (.str (by decide +kernel) (by decide +kernel)) rfl (.cons (.str (by decide +kernel) (by decide +kernel)) rfl (.cons (.str (by decide +kernel) (by decide +kernel)) rfl (.cons (.str (by decide +kernel) (by decide +kernel)) rfl (.cons (.str (by decide +kernel) (by decide +kernel)) rfl .nil)))))) rfl rfl) (.cons (.ret (.lst (.cons (.item (.var rfl (by decide +kernel)) .int rfl) rfl .nil))) .nil) .nil) (.cons (.ite (.cmp (.item (.var rfl (by decide +kernel)) .int rfl) (.str (by decide +kernel) (by decide +kernel)) rfl rfl) (.cons (.ret (.lst (.cons (.item (.var rfl (by decide +kernel)) .int rfl) rfl .nil))) .nil) .nil) (.cons (.ite (.and (.cons (.cmp (.item (.var rfl (by decide +kernel)) .int rfl) (.str (by decide +kernel) (by decide +kernel)) rfl rfl) rfl (.cons (.cmp (.item (.var rfl (by decide +kernel)) .int rfl) .int rfl rfl) rfl .nil))) (.cons (.ret (.lst (.cons (.item (.var rfl (by decide +kernel)) .int rfl) rfl .nil))) .nil) .nil) (.cons (.ret (.lst .nil)) .nil))))
noncomputable def v_law_all : List Str := ["found", "taken", "left", "parts", "words", "word"]
theorem tr_law_all : TrSs (namesAt 17) v_law_all gsN (bodyAt 17) x_law_all.body :=
  (.cons (.assign rfl (by decide +kernel) (.lst .nil) (fun _ _ _ _ _ h => by cases h)) (.cons (.for_ (.many (.cons rfl (.cons rfl (.cons rfl (.cons rfl .nil))))) (by decide +kernel) (.of (.glob rfl (by decide +kernel) (by decide +kernel)) rfl) (.cons (.for_ (.one rfl) (by decide +kernel) (.of (.split (.var rfl (by decide +kernel)) rfl (fun _ _ _ _ h => by cases h)) rfl) (.cons (.append rfl (by decide +kernel) (.tup (.cons (.var rfl (by decide +kernel)) rfl (.cons (.var rfl (by decide +kernel)) rfl (.cons (.var rfl (by decide +kernel)) rfl (.cons (.var rfl (by decide +kernel)) rfl .nil))))) rfl rfl) .nil)) .nil)) (.cons (.ret (.var rfl (by decide +kernel))) .nil)))
noncomputable def v_law_filled : List Str := ["wheel", "word", "parts", "row", "sort"]
theorem tr_law_filled : TrSs (namesAt 19) v_law_filled gsN (bodyAt 19) x_law_filled.body :=
  (.cons (.assign rfl (by decide +kernel) (.lst (.cons (.var rfl (by decide +kernel)) rfl .nil)) (fun _ _ _ _ _ h => by cases h)) (.cons (.for_ (.one rfl) (by decide +kernel) (.of (.var rfl (by decide +kernel)) rfl) (.cons (.ite (.cmp (.var rfl (by decide +kernel)) .int rfl rfl) (.cons (.append rfl (by decide +kernel) (.item (.lst (.cons (.str (by decide +kernel) (by decide +kernel)) rfl (.cons .int rfl (.cons .none rfl (.cons (.tup (.cons (.str (by decide +kernel) (by decide +kernel)) rfl (.cons (.str (by decide +kernel) (by decide +kernel)) rfl .nil))) rfl .nil))))) (.call rfl (by decide +kernel) (by decide +kernel) (.cons (.var rfl (by decide +kernel)) rfl (.cons .int rfl .nil))) rfl) rfl rfl) .nil) (.cons (.ite (.cmp (.var rfl (by decide +kernel)) .int rfl rfl) (.cons (.append rfl (by decide +kernel) (.call rfl (by decide +kernel) (by decide +kernel) (.cons (.var rfl (by decide +kernel)) rfl (.cons .int rfl .nil))) rfl rfl) .nil) (.cons (.ite (.cmp (.var rfl (by decide +kernel)) .int rfl rfl) (.cons (.append rfl (by decide +kernel) (.call rfl (by decide +kernel) (by decide +kernel) (.cons (.var rfl (by decide +kernel)) rfl (.cons .int rfl .nil))) rfl rfl) .nil) (.cons (.ite (.cmp (.var rfl (by decide +kernel)) (.tup (.cons .int rfl (.cons .int rfl .nil))) rfl rfl) (.cons (.append rfl (by decide +kernel) (.call rfl (by decide +kernel) (by decide +kernel) (.cons (.var rfl (by decide +kernel)) rfl (.cons .int rfl .nil))) rfl rfl) .nil) (.cons (.append rfl (by decide +kernel) (.sub (.call rfl (by decide +kernel) (by decide +kernel) (.cons (.var rfl (by decide +kernel)) rfl (.cons .int rfl .nil))) (.ite (.cmp (.var rfl (by decide +kernel)) .int rfl rfl) .int .int)) rfl rfl) .nil)) .nil)) .nil)) .nil)) .nil)) (.cons (.ret (.tupof (by decide +kernel) (.var rfl (by decide +kernel)) rfl)) .nil)))
noncomputable def v_law_of : List Str := ["row", "parts", "sort", "k"]
theorem tr_law_of : TrSs (namesAt 20) v_law_of gsN (bodyAt 20) x_law_of.body :=
  (.cons (.ret (.comp (by decide +kernel) (.rng (by decide +kernel) (.len (by decide +kernel) (.var rfl (by decide +kernel)) rfl) rfl) (.one rfl) (.item (.var rfl (by decide +kernel)) (.add (.var rfl (by decide +kernel)) .int) rfl) (.cons (.cmp (.item (.var rfl (by decide +kernel)) (.var rfl (by decide +kernel)) rfl) (.var rfl (by decide +kernel)) rfl rfl) rfl .nil))) .nil)
noncomputable def v_law_entries : List Str := ["row", "taken", "left", "parts", "want"]
theorem tr_law_entries : TrSs (namesAt 21) v_law_entries gsN (bodyAt 21) x_law_entries.body :=
  (.cons (.assign rfl (by decide +kernel) (.add (.add (.var rfl (by decide +kernel)) (.sum (by decide +kernel) (.call rfl (by decide +kernel) (by decide +kernel) (.cons (.var rfl (by decide +kernel)) rfl (.cons (.var rfl (by decide +kernel)) rfl (.cons .int rfl .nil)))) rfl)) (.len (by decide +kernel) (.comp (by decide +kernel) (.of (.call rfl (by decide +kernel) (by decide +kernel) (.cons (.var rfl (by decide +kernel)) rfl (.cons (.var rfl (by decide +kernel)) rfl (.cons .int rfl .nil)))) rfl) (.one rfl) (.var rfl (by decide +kernel)) (.cons (.cmp (.var rfl (by decide +kernel)) .int rfl rfl) rfl .nil)) rfl)) (fun _ _ _ _ _ h => by cases h)) (.cons (.ret (.tup (.cons (.var rfl (by decide +kernel)) rfl (.cons (.ite (.cmp .int (.call rfl (by decide +kernel) (by decide +kernel) (.cons (.var rfl (by decide +kernel)) rfl (.cons (.var rfl (by decide +kernel)) rfl (.cons .int rfl .nil)))) rfl rfl) .int (.var rfl (by decide +kernel))) rfl .nil)))) .nil))
noncomputable def v_law_ends : List Str := ["word"]
theorem tr_law_ends : TrSs (namesAt 22) v_law_ends gsN (bodyAt 22) x_law_ends.body :=
  (.cons (.ret (.or (.cons (.cmp (.var rfl (by decide +kernel)) (.tup (.cons (.str (by decide +kernel) (by decide +kernel)) rfl (.cons (.str (by decide +kernel) (by decide +kernel)) rfl (.cons (.str (by decide +kernel) (by decide +kernel)) rfl (.cons (.str (by decide +kernel) (by decide +kernel)) rfl (.cons (.str (by decide +kernel) (by decide +kernel)) rfl .nil)))))) rfl rfl) rfl (.cons (.cmp (.slc (.var rfl (by decide +kernel)) .none .int .none) (.str (by decide +kernel) (by decide +kernel)) rfl rfl) rfl .nil)))) .nil)
noncomputable def v_law_ways : List Str := ["row", "change", "places", "there", "place"]
theorem tr_law_ways : TrSs (namesAt 23) v_law_ways gsN (bodyAt 23) x_law_ways.body :=
  (.cons (.assign rfl (by decide +kernel) (.add (.var rfl (by decide +kernel)) (.dget (.int (by decide +kernel) (.int (by decide +kernel) (.int (by decide +kernel) (.neg (by decide +kernel) .nil)))) (by decide) (by simp) (by decide) rfl (by decide +kernel) rfl)) (fun _ _ _ _ _ h => by cases h)) (.cons (.ret (.add (.ite (.call rfl (by decide +kernel) (by decide +kernel) (.cons (.item (.var rfl (by decide +kernel)) .int rfl) rfl .nil)) (.lst .nil) (.lst (.cons (.tup (.cons .neg rfl (.cons (.var rfl (by decide +kernel)) rfl .nil))) rfl .nil))) (.comp (by decide +kernel) (.of (.var rfl (by decide +kernel)) rfl) (.one rfl) (.tup (.cons (.var rfl (by decide +kernel)) rfl (.cons (.var rfl (by decide +kernel)) rfl .nil))) .nil))) .nil))
noncomputable def v_law_refused : List Str := ["row", "many", "reads"]
theorem tr_law_refused : TrSs (namesAt 24) v_law_refused gsN (bodyAt 24) x_law_refused.body :=
  (.cons (.assign rfl (by decide +kernel) .int (fun _ _ _ _ _ h => by cases h)) (.cons (.for_ (.one rfl) (by decide +kernel) (.of (.tup (.cons (.glob rfl (by decide +kernel) (by decide +kernel)) rfl (.cons (.glob rfl (by decide +kernel) (by decide +kernel)) rfl (.cons (.glob rfl (by decide +kernel) (by decide +kernel)) rfl .nil)))) rfl) (.cons (.tryc (.callv rfl (by decide +kernel) (.cons (.var rfl (by decide +kernel)) rfl .nil)) (by decide +kernel) (by decide +kernel) rfl (by decide +kernel) (by decide +kernel)) .nil)) (.cons (.tryc (.call rfl (by decide +kernel) (by decide +kernel) (.cons (.var rfl (by decide +kernel)) rfl (.cons (.lst (.cons .int rfl (.cons .int rfl (.cons .int rfl .nil)))) rfl .nil))) (by decide +kernel) (by decide +kernel) rfl (by decide +kernel) (by decide +kernel)) (.cons (.ret (.var rfl (by decide +kernel))) .nil))))
noncomputable def v_law_is_right : List Str := ["wheel", "told", "row", "due", "places", "others", "turned", "wrong", "word", "taken", "left", "parts", "k", "place", "one", "number"]
theorem tr_law_is_right : TrSs (namesAt 25) v_law_is_right gsN (bodyAt 25) x_law_is_right.body :=
  (.cons (.unpack (.many (.cons rfl (.cons rfl (.cons rfl (.cons rfl .nil))))) (by decide +kernel) (.var rfl (by decide +kernel)) (fun _ h => by cases h) (fun _ _ _ _ _ h => by cases h)) (.cons (.assign rfl (by decide +kernel) (.call rfl (by decide +kernel) (by decide +kernel) (.cons (.var rfl (by decide +kernel)) rfl (.cons (.var rfl (by decide +kernel)) rfl (.cons (.var rfl (by decide +kernel)) rfl .nil)))) (fun _ _ _ _ _ h => by cases h)) (.cons (.assign rfl (by decide +kernel) (.call rfl (by decide +kernel) (by decide +kernel) (.cons (.var rfl (by decide +kernel)) rfl (.cons (.var rfl (by decide +kernel)) rfl (.cons (.var rfl (by decide +kernel)) rfl (.cons (.var rfl (by decide +kernel)) rfl .nil))))) (fun _ _ _ _ _ h => by cases h)) (.cons (.assign rfl (by decide +kernel) (.call rfl (by decide +kernel) (by decide +kernel) (.cons (.var rfl (by decide +kernel)) rfl (.cons (.var rfl (by decide +kernel)) rfl (.cons .int rfl .nil)))) (fun _ _ _ _ _ h => by cases h)) (.cons (.ite (.or (.cons (.cmp (.call rfl (by decide +kernel) (by decide +kernel) (.cons (.var rfl (by decide +kernel)) rfl .nil)) (.var rfl (by decide +kernel)) rfl rfl) rfl (.cons (.cmp (.call rfl (by decide +kernel) (by decide +kernel) (.cons (.var rfl (by decide +kernel)) rfl .nil)) (.var rfl (by decide +kernel)) rfl rfl) rfl (.cons (.cmp (.call rfl (by decide +kernel) (by decide +kernel) (.cons (.var rfl (by decide +kernel)) rfl .nil)) (.call rfl (by decide +kernel) (by decide +kernel) (.cons (.var rfl (by decide +kernel)) rfl .nil)) rfl rfl) rfl .nil)))) (.cons (.ret .bool) .nil) .nil) (.cons (.ite (.cmp (.call rfl (by decide +kernel) (by decide +kernel) (.cons (.var rfl (by decide +kernel)) rfl .nil)) (.call rfl (by decide +kernel) (by decide +kernel) (.cons (.var rfl (by decide +kernel)) rfl (.cons (.sub (.item (.var rfl (by decide +kernel)) .int rfl) (.item (.var rfl (by decide +kernel)) .int rfl)) rfl (.cons (.var rfl (by decide +kernel)) rfl .nil)))) rfl rfl) (.cons (.ret .bool) .nil) .nil) (.cons (.ite (.cmp (.call rfl (by decide +kernel) (by decide +kernel) (.cons (.var rfl (by decide +kernel)) rfl .nil)) (.add (.call rfl (by decide +kernel) (by decide +kernel) (.cons (.var rfl (by decide +kernel)) rfl (.cons (.var rfl (by decide +kernel)) rfl (.cons .int rfl .nil)))) (.comp (by decide +kernel) (.of (.call rfl (by decide +kernel) (by decide +kernel) (.cons (.var rfl (by decide +kernel)) rfl (.cons (.var rfl (by decide +kernel)) rfl (.cons .int rfl .nil)))) rfl) (.one rfl) (.var rfl (by decide +kernel)) (.cons (.cmp (.var rfl (by decide +kernel)) .int rfl rfl) rfl .nil))) rfl rfl) (.cons (.ret .bool) .nil) .nil) (.cons (.acomp rfl (by decide +kernel) (.comp (by decide +kernel) (.enum (by decide +kernel) (.var rfl (by decide +kernel)) rfl) (.many (.cons rfl (.cons rfl .nil))) (.add (.add .int (.var rfl (by decide +kernel))) (.mul .int (.var rfl (by decide +kernel)))) .nil) ⟨_, _, _, _, rfl, rfl, (by decide +kernel)⟩) (.cons (.assign rfl (by decide +kernel) (.call rfl (by decide +kernel) (by decide +kernel) (.cons (.var rfl (by decide +kernel)) rfl (.cons (.var rfl (by decide +kernel)) rfl .nil))) (fun _ _ _ _ _ h => by cases h)) (.cons (.ite (.or (.cons (.cmp (.call rfl (by decide +kernel) (by decide +kernel) (.cons (.var rfl (by decide +kernel)) rfl .nil)) (.var rfl (by decide +kernel)) rfl rfl) rfl (.cons (.cmp (.len (by decide +kernel) (.var rfl (by decide +kernel)) rfl) (.len (by decide +kernel) (.var rfl (by decide +kernel)) rfl) rfl rfl) rfl (.cons (.cmp (.call rfl (by decide +kernel) (by decide +kernel) (.cons (.var rfl (by decide +kernel)) rfl (.cons (.var rfl (by decide +kernel)) rfl .nil))) (.var rfl (by decide +kernel)) rfl rfl) rfl .nil)))) (.cons (.ret .bool) .nil) .nil) (.cons (.assign rfl (by decide +kernel) (.add (.lst (.cons (.add (.var rfl (by decide +kernel)) (.tup (.cons .int rfl .nil))) rfl (.cons (.add (.tup (.cons (.add (.slc (.var rfl (by decide +kernel)) .none .none .neg) (.str (by decide +kernel) (by decide +kernel))) rfl .nil)) (.slc (.var rfl (by decide +kernel)) .int .none .none)) rfl .nil))) (.ite (.cmp (.var rfl (by decide +kernel)) (.lst .nil) rfl rfl) (.lst (.cons (.slc (.var rfl (by decide +kernel)) .none .neg .none) rfl .nil)) (.lst .nil))) (fun _ _ _ _ _ h => by cases h)) (.cons (.ret (.cmp (.comp (by decide +kernel) (.of (.var rfl (by decide +kernel)) rfl) (.one rfl) (.call rfl (by decide +kernel) (by decide +kernel) (.cons (.var rfl (by decide +kernel)) rfl .nil)) .nil) (.mul (.lst (.cons .int rfl .nil)) (.len (by decide +kernel) (.var rfl (by decide +kernel)) rfl)) rfl rfl)) .nil))))))))))))

end Mine
end

section
namespace Mine
open PySem PySem.W PyProof.Rows PySem.SeqAt

theorem Post.step {C : Cfg} {φ φ₁ : List Addr} {l : List Env} {s : Shared} {d : D} {a' : AS} {Q : Value → Shared → Prop} (P : Post C φ l s d a' Q) {h₁ : Heap} {tk : Nat} (A : Aft C φ φ₁ [] (frs l) s.heap h₁) :
    Post C φ₁ l { s with heap := h₁, toks := tk } d a' Q := fun v h' tk' φ' H A' r => P v h' tk' φ' H (A.trans A') r

structure GOK (C : Cfg) (Γ : Globs) (gs : List Str) : Prop where
  kin : C.K.In C.base
  top : ∃ p loose mg mb, TopRead p loose mg mb C.base
  tabs : TabsOk C Γ.tabs
  glob : ∀ (k : Nat) (d : D) (x : Str), Γ.gd[k]? = some (some d) → gs[k]? = some x → ∃ v, nsIn C.K mainGlobals x = some (some v) ∧ ∀ φ h, C.base.StaysIn h → Rd C φ h v d
  fnObj : ∀ (k : Nat) (ad : Addr), C.fnA k = some ad → ∃ o fd, C.base.get? ad = some o ∧ o.data = .func fd
  bi : ∀ x ∈ (["len", "sum", "range", "enumerate", "tuple"] : List Str), nsIn C.K mainGlobals x = some none

noncomputable def SoundE (C : Cfg) (gs : List Str) (L : Lv) (n : Nat) : Prop :=
  ∀ (x : X) (ρ : Rho) (a : AS) (d : D) (a' : AS), L.e x ρ a = some (d, a') → ∀ (kn : List (Str × NameKind)) (vs : List Str) (e : Expr), TrE kn vs gs e x →
    ∀ (env : Env) (A : Around) (l : List Env) (φ : List Addr) (s : Shared) (Q : Value → Shared → Prop) (E : Value → Shared → Prop), AOK A l n → EOK C env kn vs ρ φ s.heap → HOK C φ a l s.heap →
      Post C φ l s d a' Q → wpAny (model C.prog C.w) A (eval e env) Q E s

theorem AOK.le {A : Around} {l : List Env} {n m : Nat} (h : AOK A l n) (hm : m ≤ n) : AOK A l m := ⟨h.frames, h.hand, by have := h.depth; omega, by have := h.units; omega⟩
theorem AOK.room {A : Around} {l : List Env} {n : Nat} (h : AOK A l n) : A.units ≤ 8000 := by have := h.units; omega

theorem starEach_cons {e : Expr} {r : List Expr} {env : Env} (h : notStar e = true) : starEach (e :: r) env = (false, eval e env) :: starEach r env := by
  cases e <;> first | rfl | cases h

noncomputable def PostL (C : Cfg) (φ : List Addr) (l : List Env) (s : Shared) (ds : List D) (a' : AS) (Q : List Value → Shared → Prop) : Prop :=
  ∀ us h' tk φ', HOK C φ' a' l h' → Aft C φ φ' [] (frs l) s.heap h' → RdL C φ' h' us ds → Q us { s with heap := h', toks := tk }

section
variable {C : Cfg} {Γ : Globs} {gs : List Str} {L : Lv} {n : Nat}

theorem es_sound (IH : SoundE C gs L n) : ∀ (xs : List X) (ρ : Rho) (a : AS) (ds : List D) (a' : AS), evEs L ρ xs a = some (ds, a') → ∀ (kn : List (Str × NameKind)) (vs : List Str) (es : List Expr), TrEs kn vs gs es xs →
    ∀ (env : Env) (A : Around) (l : List Env) (φ : List Addr) (s : Shared) (pos : Pos) (Q : List Value → Shared → Prop) (E : Value → Shared → Prop), AOK A l n → EOK C env kn vs ρ φ s.heap → HOK C φ a l s.heap →
      PostL C φ l s ds a' Q → wpAny (model C.prog C.w) A (spliced (backTo pos (starEach es env))) Q E s := by
  intro xs
  induction xs with
  | nil =>
    intro ρ a ds a' e kn vs es T env A l φ s pos Q E hA hE H P
    cases T
    simp only [evEs, Option.some.injEq, Prod.mk.injEq] at e
    obtain ⟨rfl, rfl⟩ := e
    exact Calls.spliced_nil (P [] s.heap s.toks φ H (Aft.refl _) .nil)
  | cons x xs ih =>
    intro ρ a ds a' e kn vs es T env A l φ s pos Q E hA hE H P
    cases T with
    | cons t hs ts =>
      simp only [evEs] at e
      split at e
      · rename_i d a₁ e1
        split at e
        · rename_i ds' a₂ e2
          cases e
          rw [starEach_cons hs]
          show wpAny _ A (spliced ((false, _) :: backTo pos (starEach _ env))) Q E s
          refine Calls.spliced_cons (IH x ρ a d a₁ e1 kn vs _ t env A l φ s _ E hA hE H fun v h₁ tk₁ φ₁ H₁ A₁ r₁ => ?_)
          refine ih ρ a₁ ds' _ e2 kn vs _ ts env A l φ₁ _ pos _ E hA (hE.aft A₁ H) H₁ fun us h₂ tk₂ φ₂ H₂ A₂ r₂ => ?_
          exact P (v :: us) h₂ tk₂ φ₂ H₂ (A₁.trans A₂) (.cons (r₁.mono A₂.tup A₂.ext) r₂)
        · cases e
      · cases e

theorem name_sound (G : GOK C Γ gs) {k : Nat} {d : D} {x : Str} {p : Pos} {kn : List (Str × NameKind)} {vs : List Str} {ρ : Rho} {env : Env} {A : Around} {l : List Env} {φ : List Addr} {a : AS} {s : Shared} {Q : Value → Shared → Prop} {E : Value → Shared → Prop}
    (e1 : Γ.gd[k]? = some (some d)) (e2 : gs[k]? = some x) (hk : kn.lookup x = some .globalImplicit) (hd : (x == ("__debug__" : Str)) = false) (hE : EOK C env kn vs ρ φ s.heap) (H : HOK C φ a l s.heap)
    (P : ∀ v, Rd C φ s.heap v d → Q v s) : wpAny (model C.prog C.w) A (eval (.Name x p) env) Q E s := by
  obtain ⟨v, hv, r⟩ := G.glob k d x e1 e2
  obtain ⟨pp, loose, mg, mb, T⟩ := G.top
  refine Calls.Name_function_global hE.kind (hE.glob x hk) (Calls.loadGlobal_global (mg := mg) (v := v) ?_ (mg_of G.kin T.g hv) (P v (r φ s.heap H.stays))) hd
  rw [hE.globals]
  exact T.g.keeps H.stays

theorem builtin_sound (G : GOK C Γ gs) {x : Str} {v : Value} {p : Pos} {kn : List (Str × NameKind)} {vs : List Str} {ρ : Rho} {env : Env} {A : Around} {l : List Env} {φ : List Addr} {a : AS} {s : Shared} {Q : Value → Shared → Prop} {E : Value → Shared → Prop}
    (hx : x ∈ (["len", "sum", "range", "enumerate", "tuple"] : List Str)) (hb : bootBuiltins x = some v) (hn : x ≠ "__name__") (hk : kn.lookup x = some .globalImplicit) (hd : (x == ("__debug__" : Str)) = false) (hE : EOK C env kn vs ρ φ s.heap) (H : HOK C φ a l s.heap)
    (h : Q v s) : wpAny (model C.prog C.w) A (eval (.Name x p) env) Q E s := by
  obtain ⟨pp, loose, mg, mb, T⟩ := G.top
  refine Calls.Name_function_global hE.kind (hE.glob x hk) (Calls.loadGlobal_builtin (mg := mg) (mb := mb) (v := v) ?_ (mg_none_of G.kin T.g (G.bi x hx)) ?_ ((T.builtins x hn).trans hb) h) hd
  · rw [hE.globals]; exact T.g.keeps H.stays
  · rw [hE.builtins]; exact T.b.keeps H.stays

theorem var_sound {i : Nat} {d : D} {x : Str} {p : Pos} {kn : List (Str × NameKind)} {vs : List Str} {ρ : Rho} {env : Env} {A : Around} {φ : List Addr} {s : Shared} {Q : Value → Shared → Prop} {E : Value → Shared → Prop}
    (e1 : getV ρ i = some d) (e2 : vs[i]? = some x) (hd : (x == ("__debug__" : Str)) = false) (hE : EOK C env kn vs ρ φ s.heap)
    (P : ∀ v, Rd C φ s.heap v d → Q v s) : wpAny (model C.prog C.w) A (eval (.Name x p) env) Q E s := by
  obtain ⟨v, hl, r⟩ := hE.vars i x d e2 e1
  rcases hl with ⟨k, m, hn, hm⟩ | ⟨k, c, hc, hv⟩
  · exact wpAny_Name (wpAny_loadName_local hE.kind k hn hm (P v r)) hd
  · exact wpAny_Name (wpAny_loadName_cell hE.kind k hc hv (P v r)) hd

/-- two operands, then an operation -/
theorem two_sound (IH : SoundE C gs L n) {x y : X} {ρ : Rho} {a a₁ a₂ : AS} {d d' : D} (e1 : L.e x ρ a = some (d, a₁)) (e2 : L.e y ρ a₁ = some (d', a₂)) {kn : List (Str × NameKind)} {vs : List Str} {e f : Expr} (t1 : TrE kn vs gs e x) (t2 : TrE kn vs gs f y)
    {env : Env} {A : Around} {l : List Env} {φ : List Addr} {s : Shared} {Q : Value → Value → Shared → Prop} {E : Value → Shared → Prop} (hA : AOK A l n) (hE : EOK C env kn vs ρ φ s.heap) (H : HOK C φ a l s.heap)
    (P : ∀ v u h' tk φ', HOK C φ' a₂ l h' → Aft C φ φ' [] (frs l) s.heap h' → Rd C φ' h' v d → Rd C φ' h' u d' → Q v u { s with heap := h', toks := tk }) :
    wpAny (model C.prog C.w) A (eval e env) (fun v s₁ => wpAny (model C.prog C.w) A (eval f env) (fun u s₂ => Q v u s₂) E s₁) E s :=
  IH x ρ a d a₁ e1 kn vs e t1 env A l φ s _ E hA hE H fun v h₁ tk₁ φ₁ H₁ A₁ r₁ =>
    IH y ρ a₁ d' a₂ e2 kn vs f t2 env A l φ₁ _ _ E hA (hE.aft A₁ H) H₁ fun u h₂ tk₂ φ₂ H₂ A₂ r₂ =>
      P v u h₂ tk₂ φ₂ H₂ (A₁.trans A₂) (r₁.mono A₂.tup A₂.ext) r₂

theorem binop_of {e f : Expr} {op : Operator} {p : Pos} {env : Env} {A : Around} {s : Shared} {Q : Value → Shared → Prop} {E : Value → Shared → Prop}
    (h : wpAny (model C.prog C.w) A (eval e env) (fun v s₁ => wpAny (model C.prog C.w) A (eval f env) (fun u s₂ => wpAny (model C.prog C.w) A (binaryOp op v u) Q E s₂) E s₁) E s) :
    wpAny (model C.prog C.w) A (eval (.BinOp e op f p) env) Q E s := by
  rw [arm_eval_BinOp]
  exact wpAny_bind (wpAny_mono h (fun v s₁ h₁ => wpAny_bind (wpAny_holding (wpAny_mono h₁ (fun u s₂ h₂ => wpAny_bind (wpAny_standAt (wpAny_operating h₂))) fun _ _ e => e))) fun _ _ e => e)

theorem compare_of {e f : Expr} {op : CmpOp} {p : Pos} {env : Env} {A : Around} {s : Shared} {Q : Value → Shared → Prop} {E : Value → Shared → Prop} (hm : behindInMarks op f = false)
    (h : wpAny (model C.prog C.w) A (eval e env) (fun v s₁ => wpAny (model C.prog C.w) A (eval f env) (fun u s₂ => wpAny (model C.prog C.w) A (compareOp op v u) Q E s₂) E s₁) E s) :
    wpAny (model C.prog C.w) A (eval (.Compare e [op] [f] p) env) Q E s := by
  rw [arm_eval_Compare]
  refine wpAny_bind (wpAny_mono h (fun v s₁ h₁ => ?_) fun _ _ e => e)
  show wpAny _ A (compareChain p v [op] [markedBehindIn op f (eval f env)]) Q E s₁
  rw [markedBehindIn_of_false hm]
  show wpAny _ A (do let rv ← holding [v] (eval f env); standAt p; operate [v, rv] (compareOp op v rv)) Q E s₁
  exact wpAny_bind (wpAny_holding (wpAny_mono h₁ (fun u s₂ h₂ => wpAny_bind (wpAny_standAt (wpAny_operating h₂))) fun _ _ e => e))
end

end Mine
end

section
namespace Mine
open PySem PySem.W PyProof.Rows PySem.SeqAt

/-- what holds behind a test -/
noncomputable def PostB (C : Cfg) (φ : List Addr) (l : List Env) (s : Shared) (a' : AS) (Q : Shared → Prop) : Prop :=
  ∀ h' tk φ', HOK C φ' a' l h' → Aft C φ φ' [] (frs l) s.heap h' → Q { s with heap := h', toks := tk }

theorem PostB.step {C : Cfg} {φ φ₁ : List Addr} {l : List Env} {s : Shared} {a' : AS} {Q : Shared → Prop} (P : PostB C φ l s a' Q) {h₁ : Heap} {tk : Nat} (A : Aft C φ φ₁ [] (frs l) s.heap h₁) :
    PostB C φ₁ l { s with heap := h₁, toks := tk } a' Q := fun h' tk' φ' H A' => P h' tk' φ' H (A.trans A')

noncomputable def SoundT (C : Cfg) (gs : List Str) (L : Lv) (n : Nat) : Prop :=
  ∀ (x : X) (ρ : Rho) (a : AS) (b : Bool) (a' : AS), L.e x ρ a = some (.bool b, a') → ∀ (kn : List (Str × NameKind)) (vs : List Str) (e : Expr), TrE kn vs gs e x →
    ∀ (env : Env) (A : Around) (l : List Env) (φ : List Addr) (s : Shared) (Q : Bool → Shared → Prop) (E : Value → Shared → Prop), AOK A l n → EOK C env kn vs ρ φ s.heap → HOK C φ a l s.heap →
      PostB C φ l s a' (Q b) → wpAny (model C.prog C.w) A (isTrue e env (eval e env)) Q E s

/-- what comes back from a call -/
noncomputable def CallR (Q : Value → Shared → Prop) (E : Value → Shared → Prop) : Result → Shared → Prop := fun r s' => match r with
  | .ok (.ret v) => Q v s'
  | .ok _ => False
  | .error e => E e s'

noncomputable def SoundC (C : Cfg) (Γ : Globs) (L : Lv) (n : Nat) : Prop :=
  ∀ (k : Nat) (ds : List D) (a : AS) (d : D) (a' : AS), evCall Γ L k ds a = some (d, a') → ∀ (ad : Addr) (us : List Value) (A : Around) (l : List Env) (φ : List Addr) (s : Shared) (Q : Value → Shared → Prop) (E : Value → Shared → Prop),
    C.fnA k = some ad → AOK A l (n + 1) → HOK C φ a l s.heap → RdL C φ s.heap us ds → Post C φ l s d a' Q →
      codeAny (model C.prog C.w) A (.call (.ref ad) ⟨us, []⟩) (CallR Q E) s

section
variable {C : Cfg} {Γ : Globs} {gs : List Str} {L : Lv} {n : Nat}

theorem evT_some {x : X} {ρ : Rho} {a a' : AS} {b : Bool} (e : evT L x ρ a = some (b, a')) : L.e x ρ a = some (.bool b, a') := by
  unfold evT at e
  split at e
  · rename_i h; cases e; exact h
  · cases e

theorem truthy_bool {A : Around} {E : Value → Shared → Prop} {s : Shared} {b : Bool} {Q : Bool → Shared → Prop} (h : Q b s) : wpAny (model C.prog C.w) A (truthy (.bool b)) Q E s := wpAny_truthy_bool h

theorem and_value (IH : SoundE C gs L n) : ∀ (xs : List X) (ρ : Rho) (a : AS) (b : Bool) (a' : AS), evAnd L ρ xs a = some (b, a') → ∀ (kn : List (Str × NameKind)) (vs : List Str) (es : List Expr), TrEs kn vs gs es xs →
    ∀ (env : Env) (A : Around) (l : List Env) (φ : List Addr) (s : Shared) (pos : Pos) (Q : Value → Shared → Prop) (E : Value → Shared → Prop), AOK A l n → EOK C env kn vs ρ φ s.heap → HOK C φ a l s.heap →
      PostB C φ l s a' (Q (.bool b)) → wpAny (model C.prog C.w) A (boolOp pos .And (evalEach es env)) Q E s := by
  intro xs
  induction xs with
  | nil => intro ρ a b a' e; simp [evAnd] at e
  | cons x r ih =>
    intro ρ a b a' e kn vs es T env A l φ s pos Q E hA hE H P
    cases r with
    | nil =>
      cases T with
      | cons t hs ts =>
        cases ts
        simp only [evAnd] at e
        refine IH x ρ a (.bool b) a' (evT_some e) kn vs _ t env A l φ s _ E hA hE H fun v h₁ tk₁ φ₁ H₁ A₁ r₁ => ?_
        cases r₁
        exact P h₁ tk₁ φ₁ H₁ A₁
    | cons y r =>
      cases T with
      | cons t hs ts =>
        rename_i e0 es
        simp only [evAnd] at e
        have step : ∀ b₁ a₁, evT L x ρ a = some (b₁, a₁) → (∀ h₁ tk₁ φ₁, HOK C φ₁ a₁ l h₁ → Aft C φ φ₁ [] (frs l) s.heap h₁ → if b₁ then wpAny (model C.prog C.w) A (boolOp pos .And (evalEach es env)) Q E { s with heap := h₁, toks := tk₁ } else Q (.bool false) { s with heap := h₁, toks := tk₁ }) →
            wpAny (model C.prog C.w) A (boolOp pos .And (evalEach (_ :: es) env)) Q E s := fun b₁ a₁ e₁ h => by
          cases ts with
          | cons t' hs' ts' =>
            show wpAny _ A (do let v ← eval _ env; standAt pos; let t ← holding [v] (truthy v); match BoolOp.And, t with | .And, false | .Or, true => pure v | _, _ => boolOp pos .And (evalEach _ env)) Q E s
            refine wpAny_bind (IH x ρ a (.bool b₁) a₁ (evT_some e₁) kn vs _ t env A l φ s _ E hA hE H fun v h₁ tk₁ φ₁ H₁ A₁ r₁ => ?_)
            cases r₁
            refine wpAny_bind (wpAny_standAt (wpAny_bind (wpAny_holding (truthy_bool ?_))))
            have := h h₁ tk₁ φ₁ H₁ A₁
            cases b₁
            · exact wpAny_pure this
            · exact this
        split at e
        · rename_i a₁ e1
          exact step true a₁ e1 fun h₁ tk₁ φ₁ H₁ A₁ => ih ρ a₁ b a' e kn vs es ts env A l φ₁ _ pos Q E hA (hE.aft A₁ H) H₁ (P.step A₁)
        · rename_i a₁ e1
          cases e
          exact step false _ e1 fun h₁ tk₁ φ₁ H₁ A₁ => P h₁ tk₁ φ₁ H₁ A₁
        · cases e

theorem or_value (IH : SoundE C gs L n) : ∀ (xs : List X) (ρ : Rho) (a : AS) (b : Bool) (a' : AS), evOr L ρ xs a = some (b, a') → ∀ (kn : List (Str × NameKind)) (vs : List Str) (es : List Expr), TrEs kn vs gs es xs →
    ∀ (env : Env) (A : Around) (l : List Env) (φ : List Addr) (s : Shared) (pos : Pos) (Q : Value → Shared → Prop) (E : Value → Shared → Prop), AOK A l n → EOK C env kn vs ρ φ s.heap → HOK C φ a l s.heap →
      PostB C φ l s a' (Q (.bool b)) → wpAny (model C.prog C.w) A (boolOp pos .Or (evalEach es env)) Q E s := by
  intro xs
  induction xs with
  | nil => intro ρ a b a' e; simp [evOr] at e
  | cons x r ih =>
    intro ρ a b a' e kn vs es T env A l φ s pos Q E hA hE H P
    cases r with
    | nil =>
      cases T with
      | cons t hs ts =>
        cases ts
        simp only [evOr] at e
        refine IH x ρ a (.bool b) a' (evT_some e) kn vs _ t env A l φ s _ E hA hE H fun v h₁ tk₁ φ₁ H₁ A₁ r₁ => ?_
        cases r₁
        exact P h₁ tk₁ φ₁ H₁ A₁
    | cons y r =>
      cases T with
      | cons t hs ts =>
        rename_i e0 es
        simp only [evOr] at e
        have step : ∀ b₁ a₁, evT L x ρ a = some (b₁, a₁) → (∀ h₁ tk₁ φ₁, HOK C φ₁ a₁ l h₁ → Aft C φ φ₁ [] (frs l) s.heap h₁ → if b₁ then Q (.bool true) { s with heap := h₁, toks := tk₁ } else wpAny (model C.prog C.w) A (boolOp pos .Or (evalEach es env)) Q E { s with heap := h₁, toks := tk₁ }) →
            wpAny (model C.prog C.w) A (boolOp pos .Or (evalEach (_ :: es) env)) Q E s := fun b₁ a₁ e₁ h => by
          cases ts with
          | cons t' hs' ts' =>
            show wpAny _ A (do let v ← eval _ env; standAt pos; let t ← holding [v] (truthy v); match BoolOp.Or, t with | .And, false | .Or, true => pure v | _, _ => boolOp pos .Or (evalEach _ env)) Q E s
            refine wpAny_bind (IH x ρ a (.bool b₁) a₁ (evT_some e₁) kn vs _ t env A l φ s _ E hA hE H fun v h₁ tk₁ φ₁ H₁ A₁ r₁ => ?_)
            cases r₁
            refine wpAny_bind (wpAny_standAt (wpAny_bind (wpAny_holding (truthy_bool ?_))))
            have := h h₁ tk₁ φ₁ H₁ A₁
            cases b₁
            · exact this
            · exact wpAny_pure this
        split at e
        · rename_i a₁ e1
          exact step false a₁ e1 fun h₁ tk₁ φ₁ H₁ A₁ => ih ρ a₁ b a' e kn vs es ts env A l φ₁ _ pos Q E hA (hE.aft A₁ H) H₁ (P.step A₁)
        · rename_i a₁ e1
          cases e
          exact step true _ e1 fun h₁ tk₁ φ₁ H₁ A₁ => P h₁ tk₁ φ₁ H₁ A₁
        · cases e

theorem and_test (IH : SoundT C gs L n) : ∀ (xs : List X) (ρ : Rho) (a : AS) (b : Bool) (a' : AS), evAnd L ρ xs a = some (b, a') → ∀ (kn : List (Str × NameKind)) (vs : List Str) (es : List Expr), TrEs kn vs gs es xs →
    ∀ (env : Env) (A : Around) (l : List Env) (φ : List Addr) (s : Shared) (Q : Bool → Shared → Prop) (E : Value → Shared → Prop), AOK A l n → EOK C env kn vs ρ φ s.heap → HOK C φ a l s.heap →
      PostB C φ l s a' (Q b) → wpAny (model C.prog C.w) A (allTrue .And es env) Q E s := by
  intro xs
  induction xs with
  | nil => intro ρ a b a' e; simp [evAnd] at e
  | cons x r ih =>
    intro ρ a b a' e kn vs es T env A l φ s Q E hA hE H P
    cases r with
    | nil =>
      cases T with
      | cons t hs ts =>
        cases ts
        simp only [evAnd] at e
        refine wpAny_allTrue_And_cons (IH x ρ a b a' (evT_some e) kn vs _ t env A l φ s _ E hA hE H fun h₁ tk₁ φ₁ H₁ A₁ => ?_)
        have := P h₁ tk₁ φ₁ H₁ A₁
        cases b
        · exact this
        · exact wpAny_allTrue_And_nil this
    | cons y r =>
      cases T with
      | cons t hs ts =>
        rename_i e0 es
        simp only [evAnd] at e
        split at e
        · rename_i a₁ e1
          refine wpAny_allTrue_And_cons (IH x ρ a true a₁ (evT_some e1) kn vs _ t env A l φ s _ E hA hE H fun h₁ tk₁ φ₁ H₁ A₁ => ?_)
          exact ih ρ a₁ b a' e kn vs es ts env A l φ₁ _ Q E hA (hE.aft A₁ H) H₁ (P.step A₁)
        · rename_i a₁ e1
          cases e
          exact wpAny_allTrue_And_cons (IH x ρ a false _ (evT_some e1) kn vs _ t env A l φ s _ E hA hE H fun h₁ tk₁ φ₁ H₁ A₁ => P h₁ tk₁ φ₁ H₁ A₁)
        · cases e

theorem or_test (IH : SoundT C gs L n) : ∀ (xs : List X) (ρ : Rho) (a : AS) (b : Bool) (a' : AS), evOr L ρ xs a = some (b, a') → ∀ (kn : List (Str × NameKind)) (vs : List Str) (es : List Expr), TrEs kn vs gs es xs →
    ∀ (env : Env) (A : Around) (l : List Env) (φ : List Addr) (s : Shared) (Q : Bool → Shared → Prop) (E : Value → Shared → Prop), AOK A l n → EOK C env kn vs ρ φ s.heap → HOK C φ a l s.heap →
      PostB C φ l s a' (Q b) → wpAny (model C.prog C.w) A (allTrue .Or es env) Q E s := by
  intro xs
  induction xs with
  | nil => intro ρ a b a' e; simp [evOr] at e
  | cons x r ih =>
    intro ρ a b a' e kn vs es T env A l φ s Q E hA hE H P
    cases r with
    | nil =>
      cases T with
      | cons t hs ts =>
        cases ts
        simp only [evOr] at e
        refine wpAny_allTrue_Or_cons (IH x ρ a b a' (evT_some e) kn vs _ t env A l φ s _ E hA hE H fun h₁ tk₁ φ₁ H₁ A₁ => ?_)
        have := P h₁ tk₁ φ₁ H₁ A₁
        cases b
        · exact wpAny_allTrue_Or_nil this
        · exact this
    | cons y r =>
      cases T with
      | cons t hs ts =>
        rename_i e0 es
        simp only [evOr] at e
        split at e
        · rename_i a₁ e1
          refine wpAny_allTrue_Or_cons (IH x ρ a false a₁ (evT_some e1) kn vs _ t env A l φ s _ E hA hE H fun h₁ tk₁ φ₁ H₁ A₁ => ?_)
          exact ih ρ a₁ b a' e kn vs es ts env A l φ₁ _ Q E hA (hE.aft A₁ H) H₁ (P.step A₁)
        · rename_i a₁ e1
          cases e
          exact wpAny_allTrue_Or_cons (IH x ρ a true _ (evT_some e1) kn vs _ t env A l φ s _ E hA hE H fun h₁ tk₁ φ₁ H₁ A₁ => P h₁ tk₁ φ₁ H₁ A₁)
        · cases e

end

end Mine
end

section
namespace Mine
open PySem PySem.W PyProof.Rows PySem.SeqAt

/-- entries of a written dict -/
inductive KVR : List (Str × Value) → List (List Nat × Int) → Prop
  | nil : KVR [] []
  | cons {x : Str} {l : List Nat} {i : Int} {t : Tok} {r r'} : x.cps.toList = l → KVR r r' → KVR ((x, .int i t) :: r) ((l, i) :: r')

theorem KVR.keys {r r'} (K : KVR r r') : (r.map (·.1)).map (fun x => x.cps.toList) = r'.map (·.1) := by
  induction K with
  | nil => rfl
  | cons h t ih => simp only [List.map_cons, h, ih]
theorem KVR.find {x : Str} {l : List Nat} (e : x.cps.toList = l) : ∀ {r r'}, KVR r r' →
    (∃ i t, valueAt r x = some (.int i t) ∧ findTab l (r'.map fun p => (p.1, D.int p.2)) = some (.int i)) ∨ (valueAt r x = none ∧ findTab l (r'.map fun p => (p.1, D.int p.2)) = none)
  | _, _, .nil => .inr ⟨rfl, rfl⟩
  | _, _, .cons (x := y) (l := m) (i := i) (t := t) (r := r) (r' := r') h q => by
    unfold valueAt findTab
    simp only [List.map_cons, List.find?_cons]
    by_cases hy : y = x
    · subst hy
      have : m = l := h.symm.trans e
      subst this
      simp only [decide_true, beq_self_eq_true, if_true]
      exact .inl ⟨i, t, rfl, rfl⟩
    · have hm : ¬ m = l := fun q => hy (by rw [str_eta y (h.trans q), str_eta x e])
      have hb : (m == l) = false := by simpa using hm
      simp only [hy, decide_false, hb, Bool.false_eq_true, if_false]
      exact KVR.find e q

theorem kv_sound {prog : Program} {w : World} {env : Env} {pos : Pos} {ks : List (Option Expr)} {ws : List Expr} {kvs : List (List Nat × Int)} (T : TrKV ks ws kvs) :
    ∃ pairs : List (Sem Value × Sem Value), (evalEachOpt ks env).zip ((evalEach ws env).map fun v => do let x ← v; standAt pos; pure x) = pairs.map (fun p => (some p.1, p.2)) ∧ pairs.length = kvs.length ∧
      ∀ (A : Around) (E : Value → Shared → Prop) (s : Shared) (Q : List (Value × Value) → Shared → Prop),
        (∀ us r tk, Carries (strKind prog w) us r → KVR r kvs → Q us { s with toks := tk }) → wpAny (model prog w) A (evalPairs pairs) Q E s
 := by
  induction T with
  | nil => exact ⟨[], rfl, rfl, fun A E s Q h => evalPairs_nil (h [] [] s.toks trivial .nil)⟩
  | int he t ih =>
    rename_i x l0 i k p k' p' ks ws kvs
    obtain ⟨pairs, h1, h2, h3⟩ := ih
    refine ⟨(eval (.Constant (.str x) k p) env, do let x ← eval (.Constant (.int i) k' p') env; standAt pos; pure x) :: pairs, ?_, by simp [h2], fun A E s Q h => ?_⟩
    · rw [arm_evalEachOpt_cons, arm_evalEach_cons, List.map_cons, List.zip_cons_cons, h1]; rfl
    · refine evalPairs_cons (Calls.Constant_str ?_)
      refine wpAny_bind (show wpAny _ _ (mkInt i) _ _ _ from wpAny_mkInt (wpAny_bind (wpAny_standAt (wpAny_pure ?_))))
      refine h3 A E _ _ fun us r tk hc hr => ?_
      exact h _ ((x, _) :: r) tk ⟨strKind_is prog w x _, rfl, hc⟩ (.cons he hr)
  | neg he t ih =>
    rename_i x l0 i k p k' p' p'' ks ws kvs
    obtain ⟨pairs, h1, h2, h3⟩ := ih
    refine ⟨(eval (.Constant (.str x) k p) env, do let x ← eval (.UnaryOp .USub (.Constant (.int (i : Int)) k' p') p'') env; standAt pos; pure x) :: pairs, ?_, by simp [h2], fun A E s Q h => ?_⟩
    · rw [arm_evalEachOpt_cons, arm_evalEach_cons, List.map_cons, List.zip_cons_cons, h1]; rfl
    · refine evalPairs_cons (Calls.Constant_str ?_)
      refine wpAny_bind ?_
      rw [arm_eval_UnaryOp]
      refine wpAny_bind (show wpAny _ _ (mkInt (i : Int)) _ _ _ from wpAny_mkInt (wpAny_bind (wpAny_standAt (wpAny_holding (PyProof.Rows.neg_int (wpAny_bind (wpAny_standAt (wpAny_pure ?_))))))))
      refine h3 A E _ _ fun us r tk hc hr => ?_
      exact h _ ((x, _) :: r) tk ⟨strKind_is prog w x _, rfl, hc⟩ (.cons he hr)

theorem nodup_strs {r : List (Str × Value)} {r' : List (List Nat × Int)} (k : KVR r r') (h : (r'.map (·.1)).Nodup) : (r.map (·.1)).Nodup := by
  rw [← k.keys] at h
  exact List.Pairwise.of_map (fun x : Str => x.cps.toList) (fun a b hne e => hne (by rw [e])) h

theorem base_big {C : Cfg} {Γ : Globs} {gs : List Str} (G : GOK C Γ gs) {h : Heap} (B : C.base.StaysIn h) : 3 < h.objs.size := by
  obtain ⟨p, loose, mg, mb, T⟩ := G.top
  obtain ⟨o, _, _, ho, _⟩ := T.g
  exact Heap.lt_size (B _ _ ho)

section
variable {C : Cfg} {Γ : Globs} {gs : List Str} {L : Lv} {n : Nat}

theorem dict_get_sound {ad : Addr} {f : Str → Option Value} {x : Str} {t : Tok} {dv : Value} {A : Around} {s : Shared} {Q : Value → Shared → Prop} {E : Value → Shared → Prop} (lo : (ad == sysModules) = false) (hm : s.heap.MapOf (strKind C.prog C.w) ad f)
    (h : Q ((f x).getD dv) { s with toks := s.toks + 1 }) : wpAny (model C.prog C.w) A (call (.builtin "dict.get") [.ref ad, .str x t, dv]) Q E s :=
  call_meetsIn PySem.F.slot_dict_get hm.typeIs PySem.F.entry_dict_get (PySem.F.args_dict_get_3 _ _ _) (meets_dict_get_default (strKind C.prog C.w) ad (strKind_is C.prog C.w x t) lo dv) ⟨_, hm, h⟩

theorem callWith_b2 {id : String} {self : Value} {t u : Sem Value} {pos : Pos} {A : Around} {s : Shared} {Q : Value → Shared → Prop} {E : Value → Shared → Prop}
    (h : wpAny (model C.prog C.w) A t (fun v s₁ => wpAny (model C.prog C.w) A u (fun w s₂ => wpAny (model C.prog C.w) A (call (.builtin id) [self, v, w]) Q E s₂) E s₁) E s) :
    wpAny (model C.prog C.w) A (callWith pos (.builtin id) [self] [(false, t), (false, u)] []) Q E s :=
  Calls.callWith_builtin rfl (Calls.evalArgs_plain (Calls.spliced_cons (wpAny_mono h (fun _ _ h₁ => Calls.spliced_cons (wpAny_mono h₁ (fun _ _ h₂ => Calls.spliced_nil h₂) fun _ _ e => e)) fun _ _ e => e)))
theorem callWith_b1 {id : String} {self : Value} {t : Sem Value} {pos : Pos} {A : Around} {s : Shared} {Q : Value → Shared → Prop} {E : Value → Shared → Prop}
    (h : wpAny (model C.prog C.w) A t (fun v s₁ => wpAny (model C.prog C.w) A (call (.builtin id) [self, v]) Q E s₁) E s) :
    wpAny (model C.prog C.w) A (callWith pos (.builtin id) [self] [(false, t)] []) Q E s :=
  Calls.callWith_builtin rfl (Calls.evalArgs_plain (Calls.spliced_cons (wpAny_mono h (fun _ _ h₁ => Calls.spliced_nil h₁) fun _ _ e => e)))
theorem callWith_b0 {id : String} {self : Value} {pos : Pos} {A : Around} {s : Shared} {Q : Value → Shared → Prop} {E : Value → Shared → Prop}
    (h : wpAny (model C.prog C.w) A (call (.builtin id) [self]) Q E s) :
    wpAny (model C.prog C.w) A (callWith pos (.builtin id) [self] [] []) Q E s := by
  refine Calls.callWith_builtin rfl ?_
  unfold evalArgs
  show wpAny _ A (spliced [] >>= _) _ E s
  refine wpAny_bind (Calls.spliced_nil ?_)
  exact wpAny_bind (wpAny_pure (wpAny_holding (wpAny_bind (wpAny_pure (wpAny_bind (wpAny_pure (wpAny_pure h)))))))

theorem attr_base {e : Expr} {name : Str} {env : Env} (h : ∀ f a b c, e ≠ Expr.Call f a b c) (whole : Sem Value) : attributeBase e name env whole = whole := by
  cases e <;> first | rfl | exact absurd rfl (h _ _ _ _)
end

end Mine
end

section
namespace Mine
open PySem PySem.W PyProof.Rows PySem.SeqAt

noncomputable def SoundK (C : Cfg) (gs : List Str) (L : Lv) (n : Nat) : Prop :=
  ∀ (elt : X) (tgt : Tgt) (it : It) (ifs : List X) (fr : List Nat) (ρ : Rho) (a : AS) (d : D) (a' : AS), evComp L elt tgt it ifs fr ρ a = some (d, a') →
    ∀ (kn : List (Str × NameKind)) (vs : List Str) (e : Expr), TrE kn vs gs e (.comp elt tgt it ifs fr) →
    ∀ (env : Env) (A : Around) (l : List Env) (φ : List Addr) (s : Shared) (Q : Value → Shared → Prop) (E : Value → Shared → Prop), AOK A l (n + 1) → EOK C env kn vs ρ φ s.heap → HOK C φ a l s.heap →
      Post C φ l s d a' Q → wpAny (model C.prog C.w) A (eval e env) Q E s

section
variable {C : Cfg} {Γ : Globs} {gs : List Str} {L : Lv} {n : Nat}

theorem part_sound {x : Option Expr} {i : Option Int} (t : TrP x i) {env : Env} {A : Around} {s : Shared} {Q : Value → Shared → Prop} {E : Value → Shared → Prop} (h : ∀ v tk, IsPart v i → Q v { s with toks := tk }) :
    wpAny (model C.prog C.w) A (evalPart x env) Q E s := by
  cases t with
  | none => exact wpAny_pure (h _ s.toks .none)
  | int => exact show wpAny _ _ (mkInt _) _ _ _ from wpAny_mkInt (h _ _ (.int _ _))
  | neg =>
    show wpAny _ _ (eval (.UnaryOp .USub (.Constant (.int _) _ _) _) env) _ _ _
    rw [arm_eval_UnaryOp]
    exact wpAny_bind (show wpAny _ _ (mkInt _) _ _ _ from wpAny_mkInt (wpAny_bind (wpAny_standAt (wpAny_holding (PyProof.Rows.neg_int (h _ _ (.int _ _)))))))

theorem subscripted_notSlice {slice : Expr} (h : notSlice slice = true) (o i : Value) : subscripted slice false o i = operate [o, i] (getItem o i) := by
  cases slice <;> first | rfl | cases h

theorem slice_eval {lo hi st : Option Expr} {v : Expr} {p pos : Pos} {l h s' : Option Int} (t2 : TrP lo l) (t3 : TrP hi h) (t4 : TrP st s') {env : Env} {A : Around} {s : Shared} {Q : Value → Shared → Prop} {E : Value → Shared → Prop}
    (hh : wpAny (model C.prog C.w) A (eval v env) (fun o s₁ => ∀ vl vu vst tk, IsPart vl l → IsPart vu h → IsPart vst s' →
      ∃ T id, Shared.TypeIs { s₁ with heap := s₁.heap.push { cls := .type "slice", data := .fields #[vl, vu, vst] }, toks := tk } o T ∧ typeLookup (.type T) "__getitem__" = pure (some (.builtin id)) ∧
        wpAny (model C.prog C.w) A (getItem o (.ref s₁.heap.objs.size)) Q E { s₁ with heap := s₁.heap.push { cls := .type "slice", data := .fields #[vl, vu, vst] }, toks := tk }) E s) :
    wpAny (model C.prog C.w) A (eval (.Subscript v (.Slice lo hi st p) pos) env) Q E s := by
  refine Subscript_ (wpAny_mono hh (fun o s₁ h₁ => ?_) fun _ _ e => e)
  refine wpAny_Slice (part_sound t2 fun vl tk₁ pl => part_sound t3 fun vu tk₂ pu => part_sound t4 fun vst tk₃ ps => ?_)
  obtain ⟨T, id, hT, hl, hg⟩ := h₁ vl vu vst tk₃ pl pu ps
  cases t4 with
  | none => exact tail_any (ops := [.ref s₁.heap.objs.size, o]) hT hl hg rfl
  | int => exact tail_any (ops := [o, .ref s₁.heap.objs.size]) hT hl hg rfl
  | neg => exact tail_any (ops := [o, .ref s₁.heap.objs.size]) hT hl hg rfl

theorem isMenu_any {φ : List Addr} {xs : List D} (hm : isMenu xs = true) {h : Heap} (hs : Cells C φ [] h) (B : C.base.StaysIn h) {vs : List Value} (r : RdL C φ h vs xs) {v : Nat} (h0 : 0 ≤ C.θ v) (h1 : C.θ v < 4) :
    ∃ u, vs[(C.θ v).toNat]? = some u ∧ Rd C φ h u (.any v) := by
  have hl := isMenu_eq hm
  subst hl
  cases r with
  | cons r1 r => cases r with
    | cons r2 r => cases r with
      | cons r3 r => cases r with
        | cons r4 r => cases r with
          | nil =>
            have hc : C.θ v = 0 ∨ C.θ v = 1 ∨ C.θ v = 2 ∨ C.θ v = 3 := by omega
            have rd : ∀ (d : D) (u : Value) (i : Int), Rd C φ h u d → C.θ v = i → toPy C [] 10 d = some (anyPy i) → Rd C φ h u (.any v) := fun d u i r e hp => by
              obtain ⟨as, q⟩ := rd_reads hs B 10 d u _ r hp
              exact .any (by rw [e]; exact q)
            rcases hc with e | e | e | e
            · exact ⟨_, by rw [e]; rfl, rd _ _ 0 r1 e (by simp [toPy, menu, okS, anyPy])⟩
            · exact ⟨_, by rw [e]; rfl, rd _ _ 1 r2 e (by simp [toPy, anyPy])⟩
            · exact ⟨_, by rw [e]; rfl, rd _ _ 2 r3 e (by simp [toPy, anyPy])⟩
            · exact ⟨_, by rw [e]; rfl, rd _ _ 3 r4 e (by simp [toPy, toPy.toPys, okS, anyPy])⟩

theorem cells_nil {φ : List Addr} {h : Heap} : Cells C φ [] h := fun n xs e => by simp at e

/-- an item, or an entry of a table -/
theorem sub_tail (G : GOK C Γ gs) {a : AS} {l : List Env} {φ : List Addr} {x y d : D} {v u : Value} {value slice : Expr} {A : Around} {s : Shared} {Q : Value → Shared → Prop} {E : Value → Shared → Prop} (hs : notSlice slice = true)
    (H : HOK C φ a l s.heap) (rv : Rd C φ s.heap v x) (ru : Rd C φ s.heap u y) (P : Post C φ l s d a Q)
    (e : (∃ j, y = .int j ∧ 0 ≤ j ∧ j ≤ 1000000 ∧ litem a.σ x j.toNat = some d) ∨ (∃ w n xs, y = .pick w ∧ x = .lst n ∧ a.σ[n]? = some xs ∧ isMenu xs = true ∧ d = .any w) ∨
      (∃ ls k t, y = .str ls ∧ x = .tab k ∧ Γ.tabs[k]? = some t ∧ findTab ls t = some d)) :
    wpAny (model C.prog C.w) A (subscriptTail value slice v u) Q E s := by
  rcases e with ⟨j, rfl, h0, h1, e⟩ | ⟨w, n, xs, rfl, rfl, hx, hm, rfl⟩ | ⟨ls, k, t, rfl, rfl, ht, hf⟩
  · cases ru with
    | int _ t =>
      obtain ⟨⟨T, id, hT, hl⟩, hg⟩ := item_sound (A := A) (E := E) (t := t) H rv h0 h1 e fun w r tk => P.here H r tk
      exact tail_any hT hl hg (subscripted_notSlice hs _ _)
  · cases ru with
    | pick _ t i hi h0 h1 =>
      subst hi
      cases rv with
      | lst q =>
        obtain ⟨ad, vs, q', hl, rl⟩ := H.cells _ _ hx
        rw [q] at q'; cases q'
        obtain ⟨u, hu, r⟩ := isMenu_any hm cells_nil H.stays rl h0 h1
        exact tail_any hl.typeIs slot_list_getitem.lookup (wpAny_getItem_list hl h0 (by omega) (by simpa using hu) (P.here H r _)) (subscripted_notSlice hs _ _)
  · cases ru with
    | str p tk _ q o =>
      cases rv with
      | tab ha =>
        obtain ⟨ad, f, g1, g2, g3, g4⟩ := tab_map (φ := φ) (G.tabs k t ht) G.kin H.stays q
        rw [ha] at g1; cases g1
        rcases g4 with ⟨v, d', e1, e2, r⟩ | ⟨e1, e2⟩
        · rw [hf] at e2; cases e2
          exact tail_any g3.typeIs slot_dict_getitem.lookup (wpAny_getItem_of (strKind_is C.prog C.w p tk) g3 e1 (P.here H r _)) (subscripted_notSlice hs _ _)
        · rw [hf] at e2; cases e2
end

end Mine
end

section
namespace Mine
open PySem PySem.W PyProof.Rows PySem.SeqAt

section
variable {C : Cfg} {Γ : Globs} {gs : List Str} {L : Lv} {n : Nat}

/-- a call of a def -/
theorem def_call (IC : SoundC C Γ L n) {k : Nat} {ds : List D} {d : D} {a a' : AS} (e : evCall Γ L k ds a = some (d, a')) {v : Value} {us : List Value} {A : Around} {l : List Env} {φ : List Addr} {s : Shared} {Q : Value → Shared → Prop} {E : Value → Shared → Prop}
    (hA : AOK A l (n + 1)) (H : HOK C φ a l s.heap) (rv : ∀ φ h, Rd C φ h v (.fn k)) (r : RdL C φ s.heap us ds) (P : Post C φ l s d a' Q) :
    ∃ ad, v = .ref ad ∧ wpAny (model C.prog C.w) A (call v us) Q E s := by
  cases rv φ s.heap with
  | @fn ad _ ha =>
    exact ⟨ad, rfl, wpAny_call (IC k ds a d a' e ad us A l φ s Q E ha hA H r P)⟩

theorem args_plain {f : Value} {args : List (Bool × Sem Value)} {A : Around} {s : Shared} {Q : Args → Shared → Prop} {E : Value → Shared → Prop} (hp : args.any (·.1) = false)
    (h : wpAny (model C.prog C.w) A (spliced args) (fun vs s' => Q ⟨vs, []⟩ s') E s) : wpAny (model C.prog C.w) A (evalArgs f true args []) Q E s := by
  match args, hp with
  | [], _ =>
    unfold evalArgs
    show wpAny _ A (spliced [] >>= _) _ E s
    refine wpAny_bind (wpAny_mono h (fun vs s' h' => ?_) fun _ _ e => e)
    exact wpAny_bind (wpAny_pure (wpAny_holding (wpAny_bind (wpAny_pure (wpAny_bind (wpAny_pure (wpAny_pure h')))))))
  | (false, x) :: r, _ => exact Calls.evalArgs_plain h
  | (true, x) :: r, hp => simp at hp

theorem starEach_plain {es : List Expr} {xs : List X} {kn : List (Str × NameKind)} {vs : List Str} {env : Env} {pos : Pos} : TrEs kn vs gs es xs → (backTo pos (starEach es env)).any (·.1) = false := by
  intro t
  induction es generalizing xs with
  | nil => rfl
  | cons e es ih =>
    cases t with
    | cons t hs ts =>
      rw [starEach_cons hs]
      show (false || (backTo pos (starEach es env)).any (·.1)) = false
      rw [ih ts]; rfl

/-- args, then a call of a def -/
theorem call_sound (G : GOK C Γ gs) (IE : SoundE C gs L n) (IC : SoundC C Γ L n) {k : Nat} {xs : List X} {ρ : Rho} {ds : List D} {d : D} {a a₁ a' : AS} (e1 : evEs L ρ xs a = some (ds, a₁)) (e2 : evCall Γ L k ds a₁ = some (d, a')) {kn : List (Str × NameKind)} {vs : List Str} {es : List Expr}
    (t : TrEs kn vs gs es xs) {v : Value} {env : Env} {A : Around} {l : List Env} {φ : List Addr} {s : Shared} {pos : Pos} {Q : Value → Shared → Prop} {E : Value → Shared → Prop} (hA : AOK A l (n + 1)) (hE : EOK C env kn vs ρ φ s.heap) (H : HOK C φ a l s.heap)
    (rv : Rd C φ s.heap v (.fn k)) (P : Post C φ l s d a' Q) : wpAny (model C.prog C.w) A (callWith pos v [] (backTo pos (starEach es env)) []) Q E s := by
  have rv' : ∀ φ h, Rd C φ h v (.fn k) := fun φ h => by cases rv with | fn ha => exact .fn ha
  cases rv with
  | @fn ad _ ha =>
    obtain ⟨o, fd, ho, hd⟩ := G.fnObj k ad ha
    refine Calls.callWith_function (o := o) (fd := fd) (args_plain (starEach_plain t) ?_)
    refine es_sound IE xs ρ a ds a₁ e1 kn vs es t env A l φ s pos _ E (hA.le (by omega)) hE H fun us h₁ tk₁ φ₁ H₁ A₁ r₁ => ?_
    obtain ⟨ad', q, hc⟩ := def_call (A := A) (E := E) (s := { s with heap := h₁, toks := tk₁ }) IC e2 hA H₁ rv' r₁ (P.step A₁)
    exact ⟨⟨H₁.stays _ _ ho, hd⟩, hc⟩

theorem stepE_sound (G : GOK C Γ gs) (IE : SoundE C gs L n) (IT : SoundT C gs L n) (IC : SoundC C Γ L n) (IK : SoundK C gs L n) : SoundE C gs (Lv.up Γ L) (n + 1) := by
  intro x ρ a d a' e kn vs ex t env A l φ s Q E hA hE H P
  have hA' : AOK A l n := hA.le (by omega)
  change stepE Γ L x ρ a = some (d, a') at e
  cases t with
  | none =>
    delta stepE at e
    simp only [Option.some.injEq, Prod.mk.injEq] at e
    obtain ⟨rfl, rfl⟩ := e
    exact show wpAny _ _ (pure Value.none) _ _ _ from wpAny_pure (P.here H .none s.toks)
  | bool =>
    delta stepE at e
    simp only [Option.some.injEq, Prod.mk.injEq] at e
    obtain ⟨rfl, rfl⟩ := e
    exact show wpAny _ _ (pure (Value.bool _)) _ _ _ from wpAny_pure (P.here H (.bool _) s.toks)
  | int =>
    delta stepE at e
    simp only [Option.some.injEq, Prod.mk.injEq] at e
    obtain ⟨rfl, rfl⟩ := e
    exact show wpAny _ _ (mkInt _) _ _ _ from wpAny_mkInt (P.here H (.int _ _) _)
  | neg =>
    delta stepE at e
    simp only [Option.some.injEq, Prod.mk.injEq] at e
    obtain ⟨rfl, rfl⟩ := e
    rw [arm_eval_UnaryOp]
    exact wpAny_bind (show wpAny _ _ (mkInt _) _ _ _ from wpAny_mkInt (wpAny_bind (wpAny_standAt (wpAny_holding (PyProof.Rows.neg_int (P.here H (.int _ _) _))))))
  | str he ho =>
    delta stepE at e
    simp only [Option.some.injEq, Prod.mk.injEq] at e
    obtain ⟨rfl, rfl⟩ := e
    exact Calls.Constant_str (P.here H (.str _ _ _ he ho) _)
  | var h1 h2 =>
    delta stepE at e
    simp only [Option.map_eq_some_iff, Prod.mk.injEq] at e
    obtain ⟨d', e1, rfl, rfl⟩ := e
    exact var_sound e1 h1 h2 hE fun v r => P.here H r s.toks
  | glob h1 h2 h3 =>
    delta stepE at e
    try dsimp only at e
    split at e
    · rename_i d' e1
      cases e
      exact name_sound G e1 h1 h2 h3 hE H fun v r => P.here H r s.toks
    · cases e
  | tup ts =>
    delta stepE at e
    try dsimp only at e
    split at e
    · rename_i ds a₁ e1
      split at e
      · rename_i hle
        cases e
        rw [arm_eval_Tuple]
        refine wpAny_bind (wpAny_standAt (wpAny_bind ?_))
        refine es_sound IE _ ρ a ds _ e1 kn vs _ ts env A l φ s _ _ E hA' hE H fun us h₁ tk₁ φ₁ H₁ A₁ r₁ => ?_
        have hl := r₁.length
        refine wpAny_newObj_type ?_ (by show us.toArray.size ≤ sizeLine; rw [List.size_toArray]; have := line_big; omega)
        have k := push_keeps h₁ { cls := .type "tuple", data := .seq us.toArray }
        exact (P.step A₁).push k H₁ (.tup (isTuple_push _ _) (r₁.mono (TupK.of_keeps k) List.prefix_rfl)) tk₁
      · cases e
    · cases e
  | lst ts =>
    delta stepE at e
    try dsimp only at e
    split at e
    · rename_i ds a₁ e1
      split at e
      · rename_i hle
        cases e
        rw [arm_eval_List]
        refine wpAny_bind (wpAny_standAt (wpAny_bind ?_))
        refine es_sound IE _ ρ a ds _ e1 kn vs _ ts env A l φ s _ _ E hA' hE H fun us h₁ tk₁ φ₁ H₁ A₁ r₁ => ?_
        have hl := r₁.length
        refine wpAny_newObj_type ?_ (by show us.toArray.size ≤ sizeLine; rw [List.size_toArray]; have := line_big; omega)
        have k := push_keeps h₁ { cls := .type "list", data := .seq us.toArray }
        exact (P.step A₁).newCell k H₁ (get_size_none _) (plain_push _ _) (r₁.mono (TupK.of_keeps k) List.prefix_rfl) tk₁
      · cases e
    · cases e
  | @item _ _ _ ee ii _ _ pp t1 t2 hs =>
    delta stepE at e
    try dsimp only at e
    split at e
    · rename_i d₁ a₁ e1
      have two : ∀ y a₂, L.e _ ρ a₁ = some (y, a₂) → a' = a₂ → ((∃ j, y = .int j ∧ 0 ≤ j ∧ j ≤ 1000000 ∧ litem a₂.σ d₁ j.toNat = some d) ∨ (∃ w n xs, y = .pick w ∧ d₁ = .lst n ∧ a₂.σ[n]? = some xs ∧ isMenu xs = true ∧ d = .any w) ∨
          (∃ ls k t, y = .str ls ∧ d₁ = .tab k ∧ Γ.tabs[k]? = some t ∧ findTab ls t = some d)) → wpAny (model C.prog C.w) A (eval (.Subscript ee ii pp) env) Q E s := fun y a₂ e2 ea h => by
        subst ea
        exact Subscript_ (two_sound IE e1 e2 t1 t2 hA' hE H fun v u h' tk φ' H' A' r1 r2 => sub_tail (s := { s with heap := h', toks := tk }) G hs H' r1 r2 (P.step A') h)
      split at e
      · rename_i j a₂ e2
        split at e
        · rename_i hj
          simp only [Bool.and_eq_true, decide_eq_true_eq] at hj
          simp only [Option.map_eq_some_iff, Prod.mk.injEq] at e
          obtain ⟨x, e3, rfl, rfl⟩ := e
          exact two _ _ e2 rfl (.inl ⟨j, rfl, hj.1, hj.2, e3⟩)
        · cases e
      · rename_i w a₂ e2
        split at e
        · split at e
          · rename_i xs hx
            split at e
            · rename_i hm
              cases e
              exact two _ _ e2 rfl (.inr (.inl ⟨w, _, xs, rfl, rfl, hx, hm, rfl⟩))
            · cases e
          · cases e
        · cases e
      · rename_i ls a₂ e2
        split at e
        · split at e
          · rename_i t ht
            simp only [Option.map_eq_some_iff, Prod.mk.injEq] at e
            obtain ⟨x, e3, rfl, rfl⟩ := e
            exact two _ _ e2 rfl (.inr (.inr ⟨ls, _, t, rfl, rfl, ht, e3⟩))
          · cases e
        · cases e
      · cases e
    · cases e
  | slc t1 t2 t3 t4 =>
    delta stepE at e
    try dsimp only at e
    split at e
    · rename_i d₁ a₁ e1
      simp only [Option.map_eq_some_iff, Prod.mk.injEq] at e
      obtain ⟨x, e3, rfl, rfl⟩ := e
      refine slice_eval t2 t3 t4 (IE _ ρ a d₁ _ e1 kn vs _ t1 env A l φ s _ E hA' hE H fun v h₁ tk₁ φ₁ H₁ A₁ r₁ => fun vl vu vst tk pl pu ps => ?_)
      exact slc_sound (s := { s with heap := h₁, toks := tk₁ }) H₁ r₁ pl pu ps e3 (P.step A₁)
    · cases e
  | add t1 t2 =>
    delta stepE at e
    try dsimp only at e
    split at e
    · rename_i d₁ a₁ e1
      split at e
      · rename_i d₂ a₂ e2
        exact binop_of (two_sound IE e1 e2 t1 t2 hA' hE H fun v u h' tk φ' H' A' r1 r2 => add_sound (s := { s with heap := h', toks := tk }) H' r1 r2 e (P.step A'))
      · cases e
    · cases e
  | sub t1 t2 =>
    delta stepE at e
    try dsimp only at e
    split at e
    · rename_i d₁ a₁ e1
      split at e
      · rename_i d₂ a₂ e2
        simp only [Option.map_eq_some_iff, Prod.mk.injEq] at e
        obtain ⟨x, e3, rfl, rfl⟩ := e
        exact binop_of (two_sound IE e1 e2 t1 t2 hA' hE H fun v u h' tk φ' H' A' r1 r2 => sub_sound (s := { s with heap := h', toks := tk }) H' r1 r2 e3 (P.step A'))
      · cases e
    · cases e
  | mul t1 t2 =>
    delta stepE at e
    try dsimp only at e
    split at e
    · rename_i d₁ a₁ e1
      split at e
      · rename_i d₂ a₂ e2
        exact binop_of (two_sound IE e1 e2 t1 t2 hA' hE H fun v u h' tk φ' H' A' r1 r2 => mul_sound (s := { s with heap := h', toks := tk }) H' r1 r2 e (P.step A'))
      · cases e
    · cases e
  | cmp t1 t2 ho hm =>
    subst ho
    delta stepE at e
    try dsimp only at e
    split at e
    · rename_i d₁ a₁ e1
      split at e
      · rename_i d₂ a₂ e2
        simp only [Option.map_eq_some_iff, Prod.mk.injEq] at e
        obtain ⟨b, e3, rfl, rfl⟩ := e
        exact compare_of hm (two_sound IE e1 e2 t1 t2 hA' hE H fun v u h' tk φ' H' A' r1 r2 => cmp_sound (s := { s with heap := h', toks := tk }) G.tabs G.kin H' hA'.room r1 r2 e3 fun tk' => (P.step (tk := tk) A').here H' (.bool _) tk')
      · cases e
    · cases e
  | and ts =>
    delta stepE at e
    simp only [Option.map_eq_some_iff, Prod.mk.injEq] at e
    obtain ⟨⟨b, a₁⟩, e1, rfl, rfl⟩ := e
    rw [arm_eval_BoolOp]
    exact and_value IE _ ρ a b _ e1 kn vs _ ts env A l φ s _ _ E hA' hE H fun h₁ tk₁ φ₁ H₁ A₁ => P _ h₁ tk₁ φ₁ H₁ A₁ (.bool _)
  | or ts =>
    delta stepE at e
    simp only [Option.map_eq_some_iff, Prod.mk.injEq] at e
    obtain ⟨⟨b, a₁⟩, e1, rfl, rfl⟩ := e
    rw [arm_eval_BoolOp]
    exact or_value IE _ ρ a b _ e1 kn vs _ ts env A l φ s _ _ E hA' hE H fun h₁ tk₁ φ₁ H₁ A₁ => P _ h₁ tk₁ φ₁ H₁ A₁ (.bool _)
  | not t1 =>
    delta stepE at e
    simp only [Option.map_eq_some_iff, Prod.mk.injEq] at e
    obtain ⟨⟨b, a₁⟩, e1, rfl, rfl⟩ := e
    rw [arm_eval_UnaryOp]
    refine wpAny_bind (IE _ ρ a (.bool b) _ (evT_some e1) kn vs _ t1 env A l φ s _ E hA' hE H fun v h₁ tk₁ φ₁ H₁ A₁ r₁ => ?_)
    cases r₁
    exact wpAny_bind (wpAny_standAt (wpAny_holding (PyProof.Rows.not_of (truthy_bool (P _ h₁ tk₁ φ₁ H₁ A₁ (.bool _))))))
  | ite t1 t2 t3 =>
    delta stepE at e
    try dsimp only at e
    split at e
    · rename_i a₁ e1
      exact wpAny_IfExp (IT _ ρ a true a₁ (evT_some e1) kn vs _ t1 env A l φ s _ E hA' hE H fun h₁ tk₁ φ₁ H₁ A₁ => IE _ ρ a₁ d a' e kn vs _ t2 env A l φ₁ _ Q E hA' (hE.aft A₁ H) H₁ (P.step A₁))
    · rename_i a₁ e1
      exact wpAny_IfExp (IT _ ρ a false a₁ (evT_some e1) kn vs _ t1 env A l φ s _ E hA' hE H fun h₁ tk₁ φ₁ H₁ A₁ => IE _ ρ a₁ d a' e kn vs _ t3 env A l φ₁ _ Q E hA' (hE.aft A₁ H) H₁ (P.step A₁))
    · cases e
  | call h1 h2 h3 ts =>
    delta stepE at e
    try dsimp only at e
    split at e
    · rename_i j eg
      split at e
      · rename_i ds a₁ e1
        exact wpAny_Call_Name_kw (name_sound G eg h1 h2 h3 hE H fun v r => call_sound G IE IC e1 e ts hA hE H r P)
      · cases e
    · cases e
  | callv h1 h2 ts =>
    delta stepE at e
    try dsimp only at e
    split at e
    · rename_i j eg
      split at e
      · rename_i ds a₁ e1
        exact wpAny_Call_Name_kw (var_sound eg h1 h2 hE fun v r => call_sound G IE IC e1 e ts hA hE H r P)
      · cases e
    · cases e
  | len h1 t1 hs =>
    delta stepE at e
    try dsimp only at e
    split at e
    · rename_i d₁ a₁ e1
      split at e
      · rename_i m e3
        split at e
        · rename_i hm
          cases e
          refine Call_name1 (by rw [starEach_cons hs]; rfl) (builtin_sound (v := .builtin "len") G (by simp) (by boot_fast) (by decide) h1 (by decide) hE H ?_)
          exact callWith_builtin1 (IE _ ρ a d₁ _ e1 kn vs _ t1 env A l φ s _ E hA' hE H fun v h₁ tk₁ φ₁ H₁ A₁ r₁ => len_sound (s := { s with heap := h₁, toks := tk₁ }) H₁ r₁ e3 (by omega) (P.step A₁))
        · cases e
      · cases e
    · cases e
  | sum h1 t1 hs =>
    delta stepE at e
    try dsimp only at e
    split at e
    · rename_i m a₁ e1
      split at e
      · rename_i xs hx
        simp only [Option.map_eq_some_iff, Prod.mk.injEq] at e
        obtain ⟨i, e3, rfl, rfl⟩ := e
        refine Call_name1 (by rw [starEach_cons hs]; rfl) (builtin_sound (v := .builtin "sum") G (by simp) (by boot_fast) (by decide) h1 (by decide) hE H ?_)
        exact callWith_builtin1 (IE _ ρ a _ _ e1 kn vs _ t1 env A l φ s _ E hA' hE H fun v h₁ tk₁ φ₁ H₁ A₁ r₁ => sum_sound (s := { s with heap := h₁, toks := tk₁ }) H₁ hA.hand r₁ hx e3 (P.step A₁))
      · cases e
    · cases e
  | tupof h1 t1 hs =>
    delta stepE at e
    try dsimp only at e
    split at e
    · rename_i m a₁ e1
      split at e
      · rename_i xs hx
        split at e
        · rename_i hle
          cases e
          refine Call_name1 (by rw [starEach_cons hs]; rfl) (builtin_sound (v := .type "tuple") G (by simp) (by boot_fast) (by decide) h1 (by decide) hE H ?_)
          exact PySem.callWith_type1 (IE _ ρ a _ _ e1 kn vs _ t1 env A l φ s _ E hA' hE H fun v h₁ tk₁ φ₁ H₁ A₁ r₁ => tupof_sound (s := { s with heap := h₁, toks := tk₁ }) H₁ r₁ hx hle (P.step A₁))
        · cases e
      · cases e
    · cases e
  | split t1 hl hc =>
    delta stepE at e
    try dsimp only at e
    split at e
    · rename_i ls a₁ e1
      split at e
      · rename_i ho
        cases e
        refine Call_method0 (attr_base hc _) hl (IE _ ρ a _ _ e1 kn vs _ t1 env A l φ s _ E hA' hE H fun v h₁ tk₁ φ₁ H₁ A₁ r₁ => ?_)
        have r₁' := r₁
        cases r₁ with
        | str x t _ q ok =>
          exact ⟨"str", "str.split", F.plainAttrs_str, F.slot_str_split, F.type_str_split, typeIs_str _ _ _, (fun _ e => nomatch e), callWith_b0 (split_sound (s := { s with heap := h₁, toks := tk₁ }) H₁ r₁' ho (P.step A₁))⟩
      · cases e
    · cases e
  | get t1 t2 t3 h1 h2 hl hc =>
    delta stepE at e
    try dsimp only at e
    split at e
    · rename_i k a₁ e1
      split at e
      · rename_i ls a₂ e2
        split at e
        · rename_i x a₃ e3
          split at e
          · rename_i tb ht
            cases e
            refine Call_method2 (attr_base hc _) (by rw [starEach_cons h1, starEach_cons h2]; rfl) hl (IE _ ρ a _ _ e1 kn vs _ t1 env A l φ s _ E hA' hE H fun v h₁ tk₁ φ₁ H₁ A₁ r₁ => ?_)
            cases r₁ with
            | @tab ad _ ha =>
              obtain ⟨ad', es, m, g1, g2, g3, g4, g5⟩ := G.tabs k tb ht
              rw [ha] at g1; cases g1
              have ho := H₁.stays _ _ (G.kin _ _ g2)
              refine ⟨"dict", "dict.get", F.plainAttrs_dict, F.slot_dict_get, F.type_dict_get, ⟨_, ho, rfl⟩, (fun b q => by cases q; exact ⟨_, ho, rfl⟩), callWith_b2 ?_⟩
              refine two_sound IE e2 e3 t2 t3 hA' (hE.aft A₁ H) H₁ fun v u h₂ tk₂ φ₂ H₂ A₂ r2 r3 => ?_
              cases r2 with
              | str p tkp _ q ok =>
                obtain ⟨ad', f, f1, f2, f3, f4⟩ := tab_map (φ := φ₂) (G.tabs k tb ht) G.kin H₂.stays q
                rw [ha] at f1; cases f1
                refine dict_get_sound f2 f3 ?_
                rcases f4 with ⟨v', d', w1, w2, r⟩ | ⟨w1, w2⟩
                · rw [w1]; rw [w2] at P
                  exact ((P.step (tk := tk₁) A₁).step (tk := tk₂) A₂).here H₂ r _
                · rw [w1]; rw [w2] at P
                  exact ((P.step (tk := tk₁) A₁).step (tk := tk₂) A₂).here H₂ r3 _
          · cases e
        · cases e
      · cases e
    · cases e
  | @dget _ _ _ _ _ kvs _ _ _ xx _ i j _ _ _ m kk pk tk hle hne hnd h1 h2 hl =>
    delta stepE at e
    try dsimp only at e
    split at e
    · rename_i d₁ e1
      split at e
      · rename_i ls e2
        split at e
        · rename_i hj
          cases e
          refine Call_method2 rfl rfl hl ?_
          obtain ⟨pairs, p1, p2, p3⟩ := kv_sound (prog := C.prog) (w := C.w) (env := env) tk
          refine wpAny_Dict_pairs (knd := strKind C.prog C.w) p1 (fun q => hne (List.length_eq_zero_iff.mp (by rw [← p2, q]; rfl))) (by omega) (p3 A E _ _ fun us r tk₁ hc hr => ?_)
          refine ⟨r, hc, Heap.DictOf.new _, fun h' hd hsb => ?_⟩
          have hnd' := nodup_strs hr hnd
          rw [merged_nil_of_nodup r hnd'] at hd
          have hk : ∀ b o, s.heap.get? b = some o → h'.get? b = some o := fun b o e => hsb.extBut b o (Nat.ne_of_lt (Heap.lt_size e)) (push_keeps _ _ b o e)
          have A₁ : Aft C φ φ [] (frs l) s.heap h' := Aft.of_keeps hk
          have H₁ := H.keeps hk
          have hlo : (s.heap.objs.size == sysModules) = false := by
            have := base_big G H.stays
            rw [beq_eq_false_iff_ne]
            show s.heap.objs.size ≠ 1
            omega
          refine ⟨"dict", "dict.get", F.plainAttrs_dict, F.slot_dict_get, F.type_dict_get, hd.typeIs, hd.mapOf.noDict, callWith_b2 ?_⟩
          refine Subscript_ (var_sound e1 h1 h2 (hE.aft A₁ H) fun v rv => ?_)
          refine show wpAny _ _ (mkInt _) _ _ _ from wpAny_mkInt ?_
          have rv' : Rd C φ h' v d₁ := rv
          have key : ∀ (w : Value) (tk₂ : Nat), Rd C φ h' w (.str ls) → wpAny (model C.prog C.w) A (eval (.Constant (.int m) kk pk) env) (fun u s₃ => wpAny (model C.prog C.w) A (call (.builtin "dict.get") [.ref s.heap.objs.size, w, u]) Q E s₃) E { s with heap := h', toks := tk₂ } := fun w tk₂ r => by
            refine show wpAny _ _ (mkInt _) _ _ _ from wpAny_mkInt ?_
            cases r with
            | str p tkp _ q ok =>
              refine dict_get_sound (s := { s with heap := h', toks := tk₂ + 1 }) hlo hd.mapOf ?_
              rcases hr.find q with ⟨i, ti, w1, w2⟩ | ⟨w1, w2⟩
              · rw [w1]; rw [w2] at P
                exact P.push hk H (.int _ _) _
              · rw [w1]; rw [w2] at P
                exact P.push hk H (.int _ _) _
          obtain ⟨⟨T, id, hT, hl⟩, hg⟩ := item_sound (C := C) (A := A) (E := E) (j := ((j : Nat) : Int)) (t := tk₁ + us.length) (s := { s with heap := h', toks := tk₁ + us.length + 1 }) H₁ rv' (by omega) (by omega) (by simpa using e2)
            (Q := fun w s₂ => wpAny (model C.prog C.w) A (eval (.Constant (.int m) kk pk) env) (fun u s₃ => wpAny (model C.prog C.w) A (call (.builtin "dict.get") [.ref s.heap.objs.size, w, u]) Q E s₃) E s₂) fun w r tk₂ => key w tk₂ r
          exact tail_any hT hl hg rfl
        · cases e
      · cases e
    · cases e
  | comp h1 t1 t2 t3 t4 =>
    exact IK _ _ _ _ _ ρ a d a' e kn vs _ (.comp h1 t1 t2 t3 t4) env A l φ s Q E hA hE H P
end

end Mine
end

section
namespace Mine
open PySem PySem.W PyProof.Rows PySem.SeqAt

section
variable {C : Cfg} {Γ : Globs} {gs : List Str} {L : Lv} {n : Nat}

theorem plain_test (IE' : SoundE C gs (Lv.up Γ L) (n + 1)) {x : X} {ρ : Rho} {a a' : AS} {b : Bool} (e : (Lv.up Γ L).e x ρ a = some (.bool b, a')) {kn : List (Str × NameKind)} {vs : List Str} {ex : Expr} (t : TrE kn vs gs ex x)
    {env : Env} {A : Around} {l : List Env} {φ : List Addr} {s : Shared} {Q : Bool → Shared → Prop} {E : Value → Shared → Prop} (hA : AOK A l (n + 1)) (hE : EOK C env kn vs ρ φ s.heap) (H : HOK C φ a l s.heap) (P : PostB C φ l s a' (Q b))
    (he : isTrue ex env (eval ex env) = (do let v ← eval ex env; standAt ex.pos; holding [v] (truthy v))) : wpAny (model C.prog C.w) A (isTrue ex env (eval ex env)) Q E s :=
  wpAny_isTrue_value (IE' x ρ a (.bool b) a' e kn vs ex t env A l φ s _ E hA hE H fun v h₁ tk₁ φ₁ H₁ A₁ r₁ => by
    cases r₁
    exact truthy_bool (P h₁ tk₁ φ₁ H₁ A₁)) he

theorem stepT_sound (G : GOK C Γ gs) (IE : SoundE C gs L n) (IT : SoundT C gs L n) (IE' : SoundE C gs (Lv.up Γ L) (n + 1)) : SoundT C gs (Lv.up Γ L) (n + 1) := by
  intro x ρ a b a' e kn vs ex t env A l φ s Q E hA hE H P
  have hA' : AOK A l n := hA.le (by omega)
  have e' : stepE Γ L x ρ a = some (.bool b, a') := e
  have t' := t
  cases t with
  | cmp t1 t2 ho hm =>
    subst ho
    delta stepE at e'
    try dsimp only at e'
    split at e'
    · rename_i d₁ a₁ e1
      split at e'
      · rename_i d₂ a₂ e2
        simp only [Option.map_eq_some_iff, Prod.mk.injEq, D.bool.injEq] at e'
        obtain ⟨b', e3, rfl, rfl⟩ := e'
        refine wpAny_isTrue_Compare1 ?_ hm
        exact two_sound IE e1 e2 t1 t2 hA' hE H fun v u h' tk φ' H' A' r1 r2 => cmp_sound (s := { s with heap := h', toks := tk }) G.tabs G.kin H' hA'.room r1 r2 e3 fun tk' => truthy_bool (P h' tk' φ' H' A')
      · cases e'
    · cases e'
  | and ts =>
    delta stepE at e'
    simp only [Option.map_eq_some_iff, Prod.mk.injEq, D.bool.injEq] at e'
    obtain ⟨⟨b', a₁⟩, e1, rfl, rfl⟩ := e'
    exact wpAny_isTrue_BoolOp (and_test IT _ ρ a _ _ e1 kn vs _ ts env A l φ s Q E hA' hE H P)
  | or ts =>
    delta stepE at e'
    simp only [Option.map_eq_some_iff, Prod.mk.injEq, D.bool.injEq] at e'
    obtain ⟨⟨b', a₁⟩, e1, rfl, rfl⟩ := e'
    exact wpAny_isTrue_BoolOp (or_test IT _ ρ a _ _ e1 kn vs _ ts env A l φ s Q E hA' hE H P)
  | not t1 =>
    delta stepE at e'
    simp only [Option.map_eq_some_iff, Prod.mk.injEq, D.bool.injEq] at e'
    obtain ⟨⟨b', a₁⟩, e1, rfl, rfl⟩ := e'
    exact wpAny_isTrue_Not (IT _ ρ a b' _ (evT_some e1) kn vs _ t1 env A l φ s _ E hA' hE H P)
  | ite t1 t2 t3 =>
    delta stepE at e'
    try dsimp only at e'
    rw [arm_isTrue_IfExp]
    split at e'
    · rename_i a₁ e1
      exact wpAny_bind (IT _ ρ a true a₁ (evT_some e1) kn vs _ t1 env A l φ s _ E hA' hE H fun h₁ tk₁ φ₁ H₁ A₁ => IT _ ρ a₁ b a' e' kn vs _ t2 env A l φ₁ _ Q E hA' (hE.aft A₁ H) H₁ (P.step A₁))
    · rename_i a₁ e1
      exact wpAny_bind (IT _ ρ a false a₁ (evT_some e1) kn vs _ t1 env A l φ s _ E hA' hE H fun h₁ tk₁ φ₁ H₁ A₁ => IT _ ρ a₁ b a' e' kn vs _ t3 env A l φ₁ _ Q E hA' (hE.aft A₁ H) H₁ (P.step A₁))
    · cases e'
  | none => exact plain_test IE' e t' hA hE H P rfl
  | bool => exact plain_test IE' e t' hA hE H P rfl
  | int => exact plain_test IE' e t' hA hE H P rfl
  | neg => exact plain_test IE' e t' hA hE H P rfl
  | str => exact plain_test IE' e t' hA hE H P rfl
  | var => exact plain_test IE' e t' hA hE H P rfl
  | glob => exact plain_test IE' e t' hA hE H P rfl
  | tup => exact plain_test IE' e t' hA hE H P rfl
  | lst => exact plain_test IE' e t' hA hE H P rfl
  | item => exact plain_test IE' e t' hA hE H P rfl
  | slc => exact plain_test IE' e t' hA hE H P rfl
  | add => exact plain_test IE' e t' hA hE H P rfl
  | sub => exact plain_test IE' e t' hA hE H P rfl
  | mul => exact plain_test IE' e t' hA hE H P rfl
  | call => exact plain_test IE' e t' hA hE H P rfl
  | callv => exact plain_test IE' e t' hA hE H P rfl
  | len => exact plain_test IE' e t' hA hE H P rfl
  | sum => exact plain_test IE' e t' hA hE H P rfl
  | tupof => exact plain_test IE' e t' hA hE H P rfl
  | split => exact plain_test IE' e t' hA hE H P rfl
  | get => exact plain_test IE' e t' hA hE H P rfl
  | dget => exact plain_test IE' e t' hA hE H P rfl
  | comp => exact plain_test IE' e t' hA hE H P rfl
end

end Mine
end

section
namespace Mine
open PySem PySem.W PyProof.Rows PySem.SeqAt

noncomputable def places (kn : List (Str × NameKind)) (env : Env) : List Addr := env.locals :: kn.filterMap fun y => if y.2 = .cell then env.cells.lookup y.1 else none

theorem mem_places {kn : List (Str × NameKind)} {env : Env} {c : Addr} : c ∈ places kn env ↔ c = env.locals ∨ ∃ x, (x, NameKind.cell) ∈ kn ∧ env.cells.lookup x = some c := by
  unfold places
  rw [List.mem_cons, List.mem_filterMap]
  refine or_congr Iff.rfl ⟨fun ⟨⟨x, k⟩, hm, e⟩ => ?_, fun ⟨x, hm, e⟩ => ⟨_, hm, by simpa using e⟩⟩
  simp only at e
  split at e
  · rename_i hk; subst hk; exact ⟨x, hm, e⟩
  · cases e

/-- the frame of a block: its names can be stored -/
structure SOK (C : Cfg) (env : Env) (kn : List (Str × NameKind)) (vs : List Str) (ρ : Rho) (φ : List Addr) (h : Heap) : Prop where
  toE : EOK C env kn vs ρ φ h
  ns : ∃ m, h.Ns env.locals m
  cs : ∀ x c, (x, NameKind.cell) ∈ kn → env.cells.lookup x = some c → ∃ v, h.IsCell c v
  apart : ∀ x y c, (x, NameKind.cell) ∈ kn → env.cells.lookup x = some c → env.cells.lookup y = some c → x = y
  freshL : C.base.get? env.locals = none
  freshC : ∀ x c, (x, NameKind.cell) ∈ kn → env.cells.lookup x = some c → C.base.get? c = none
  vnd : vs.Nodup

theorem ns_unique {h : Heap} {x : Addr} {m m' : Str → Option Value} (a : h.Ns x m) (b : h.Ns x m') : m = m' := by
  obtain ⟨o, es, ep, ho, hd, _, hm⟩ := a
  obtain ⟨o', es', ep', ho', hd', _, hm'⟩ := b
  rw [ho] at ho'; cases ho'
  rw [hd] at hd'; cases hd'
  funext y; rw [← hm y, ← hm' y]

theorem SOK.aft {C : Cfg} {φ φ' F : List Addr} {a : AS} {l : List Env} {h h' : Heap} {env : Env} {kn : List (Str × NameKind)} {vs : List Str} {ρ : Rho} (S : SOK C env kn vs ρ φ h) (A : Aft C φ φ' [] F h h') (H : HOK C φ a l h) : SOK C env kn vs ρ φ' h' where
  toE := S.toE.aft A H
  ns := by obtain ⟨m, hn⟩ := S.ns; exact ⟨m, A.ns H (by simp) hn⟩
  cs := fun x c m e => by obtain ⟨v, hv⟩ := S.cs x c m e; exact ⟨v, A.cell H (by simp) hv⟩
  apart := S.apart
  freshL := S.freshL
  freshC := S.freshC
  vnd := S.vnd

theorem get_setV {ρ : Rho} {i j : Nat} {d d' : D} (h : getV (setV ρ i d) j = some d') : (j = i ∧ d' = d) ∨ (j ≠ i ∧ getV ρ j = some d') := by
  unfold getV setV at *
  by_cases q : j = i
  · subst q
    left
    refine ⟨rfl, ?_⟩
    split at h
    · rename_i d₁ e
      cases h
      rw [List.getElem?_set] at e
      split at e
      · split at e
        · cases e; rfl
        · cases e
      · rename_i hn; exact absurd rfl hn
    · cases h
  · right
    refine ⟨q, ?_⟩
    rw [List.getElem?_set_ne (fun e => q e.symm)] at h
    exact h

theorem vs_inj {vs : List Str} (hn : vs.Nodup) {i j : Nat} {x : Str} (h1 : vs[i]? = some x) (h2 : vs[j]? = some x) : i = j := by
  obtain ⟨a1, a2⟩ := List.getElem?_eq_some_iff.mp h1
  obtain ⟨b1, b2⟩ := List.getElem?_eq_some_iff.mp h2
  have h := List.pairwise_iff_getElem.mp hn
  rcases Nat.lt_trichotomy i j with q | q | q
  · exact absurd (a2.trans b2.symm) (h i j a1 b1 q)
  · exact q
  · exact absurd (b2.trans a2.symm) (h j i b1 a1 q)

section
variable {C : Cfg} {gs : List Str}

/-- a name is stored -/
theorem storeN_sound {kn : List (Str × NameKind)} {vs : List Str} {ρ : Rho} {env : Env} {A : Around} {l : List Env} {φ : List Addr} {a : AS} {s : Shared} {i : Nat} {x : Str} {d : D} {v : Value} {Q : Unit → Shared → Prop} {E : Value → Shared → Prop} {F : List Addr}
    (hx : vs[i]? = some x) (hs : storeOkV kn vs i = true) (S : SOK C env kn vs ρ φ s.heap) (H : HOK C φ a l s.heap) (r : Rd C φ s.heap v d)
    (P : ∀ h' tk, HOK C φ a l h' → Aft C φ φ (places kn env) F s.heap h' → SOK C env kn vs (setV ρ i d) φ h' → Q () { s with heap := h', toks := tk }) :
    wpAny (model C.prog C.w) A (storeName env x v) Q E s := by
  unfold storeOkV at hs
  rw [hx] at hs
  simp only [Bool.or_eq_true, decide_eq_true_eq] at hs
  have hp : (env.scope.kind == .class || (env.scope.kind == .module && env.locals != env.globals)) = false := by rw [S.toE.kind]; rfl
  obtain ⟨m, hn⟩ := S.ns
  rcases hs with hk | hk
  · have hk := S.toE.loc x hk
    refine wpAny_storeName_local hk hn (fun h' hn' hs' => ?_) hp
    have k := hs'.extBut
    have nl := ns_not_list hn
    have nt := ns_not_tuple hn
    obtain ⟨o', es', ep', ho', hd', _⟩ := id hn'
    have H' : HOK C φ a l h' := H.but k S.freshL nl nt ⟨o', ho', fun ws q => by rw [hd'] at q; cases q⟩
    have A' : Aft C φ φ (places kn env) F s.heap h' := Aft.but k (.head _) (by rw [ho']; rfl) nt
    refine P h' _ H' A' ⟨⟨S.toE.kind, S.toE.globals, S.toE.builtins, S.toE.glob, S.toE.cell, S.toE.loc, fun j y d' e1 e2 => ?_⟩, ⟨_, hn'⟩, fun y c hm e => ?_, S.apart, S.freshL, S.freshC, S.vnd⟩
    · rcases get_setV e2 with ⟨rfl, rfl⟩ | ⟨q, e2⟩
      · rw [hx] at e1; cases e1
        exact ⟨v, .inl ⟨hk, _, hn', by simp⟩, r.mono A'.tup List.prefix_rfl⟩
      · have hy : y ≠ x := fun e => q (vs_inj S.vnd (e ▸ e1) hx)
        obtain ⟨u, hl, ru⟩ := S.toE.vars j y d' e1 e2
        refine ⟨u, ?_, ru.mono A'.tup List.prefix_rfl⟩
        rcases hl with ⟨ky, m', hn₂, hm⟩ | ⟨ky, c, hc, hv⟩
        · have := ns_unique hn hn₂; subst this
          exact .inl ⟨ky, _, hn', by simp [hy, hm]⟩
        · exact .inr ⟨ky, c, hc, hv.sameBut hs' fun e => by subst e; obtain ⟨o₁, h1, h2⟩ := hv; obtain ⟨o₂, _, _, h3, h4, _⟩ := hn; rw [h1] at h3; cases h3; rw [h2] at h4; cases h4⟩
    · obtain ⟨u, hu⟩ := S.cs y c hm e
      exact ⟨u, hu.sameBut hs' fun e => by subst e; obtain ⟨o₁, h1, h2⟩ := hu; obtain ⟨o₂, _, _, h3, h4, _⟩ := hn; rw [h1] at h3; cases h3; rw [h2] at h4; cases h4⟩
  · have hkm := mem_of_lookup hk
    obtain ⟨hk, c, hc⟩ := S.toE.cell x hk
    obtain ⟨v₀, hv₀⟩ := S.cs x c hkm hc
    refine wpAny_storeName_cell S.toE.kind hk hc hv₀ fun h' hv' hs' => ?_
    have k := hs'.extBut
    have nl := cell_not_list hv₀
    have nt := cell_not_tuple hv₀
    obtain ⟨o', ho', hd'⟩ := id hv'
    have hcm : c ∈ places kn env := mem_places.mpr (.inr ⟨x, hkm, hc⟩)
    have H' : HOK C φ a l h' := H.but k (S.freshC x c hkm hc) nl nt ⟨o', ho', fun ws q => by rw [hd'] at q; cases q⟩
    have A' : Aft C φ φ (places kn env) F s.heap h' := Aft.but k hcm (by rw [ho']; rfl) nt
    have hLc : env.locals ≠ c := fun e => by
      obtain ⟨o₁, h1, h2⟩ := hv₀
      obtain ⟨o₂, _, _, h3, h4, _⟩ := hn
      rw [e, h1] at h3; cases h3; rw [h2] at h4; cases h4
    refine P h' s.toks H' A' ⟨⟨S.toE.kind, S.toE.globals, S.toE.builtins, S.toE.glob, S.toE.cell, S.toE.loc, fun j y d' e1 e2 => ?_⟩, ⟨m, hn.sameBut hs' hLc⟩, fun y c' hm e => ?_, S.apart, S.freshL, S.freshC, S.vnd⟩
    · rcases get_setV e2 with ⟨rfl, rfl⟩ | ⟨q, e2⟩
      · rw [hx] at e1; cases e1
        exact ⟨v, .inr ⟨hk, c, hc, hv'⟩, r.mono A'.tup List.prefix_rfl⟩
      · have hy : y ≠ x := fun e => q (vs_inj S.vnd (e ▸ e1) hx)
        obtain ⟨u, hl, ru⟩ := S.toE.vars j y d' e1 e2
        refine ⟨u, ?_, ru.mono A'.tup List.prefix_rfl⟩
        rcases hl with ⟨ky, m', hn₂, hm⟩ | ⟨ky, c', hc', hv⟩
        · exact .inl ⟨ky, m', hn₂.sameBut hs' hLc, hm⟩
        · exact .inr ⟨ky, c', hc', hv.sameBut hs' fun e => hy (S.apart x y c hkm hc (e ▸ hc')).symm⟩
    · by_cases q : c' = c
      · subst q; exact ⟨_, hv'⟩
      · obtain ⟨u, hu⟩ := S.cs y c' hm e
        exact ⟨u, hu.sameBut hs' q⟩

theorem store_sound {kn : List (Str × NameKind)} {vs : List Str} {ρ : Rho} {env : Env} {A : Around} {l : List Env} {φ : List Addr} {a : AS} {s : Shared} {i : Nat} {x : Str} {p : Pos} {d : D} {v : Value} {Q : Unit → Shared → Prop} {E : Value → Shared → Prop} {F : List Addr}
    (hx : vs[i]? = some x) (hs : storeOkV kn vs i = true) (S : SOK C env kn vs ρ φ s.heap) (H : HOK C φ a l s.heap) (r : Rd C φ s.heap v d)
    (P : ∀ h' tk, HOK C φ a l h' → Aft C φ φ (places kn env) F s.heap h' → SOK C env kn vs (setV ρ i d) φ h' → Q () { s with heap := h', toks := tk }) :
    wpAny (model C.prog C.w) A (assign (.Name x p) env v) Q E s := wpAny_assign_Name (storeN_sound (F := F) hx hs S H r P)
end

end Mine
end

section
namespace Mine
open PySem PySem.W PyProof.Rows PySem.SeqAt

/-- an iterator, and its own objects -/
inductive ItR (C : Cfg) (φ : List Addr) (h : Heap) : Addr → ItS → List Addr → Prop
  | tup {it t k vs xs} : h.IsTupleIter it t k → h.IsTuple t vs → RdL C φ h (vs.toList.drop k) xs → ItR C φ h it (.vals xs) [it]
  | clst {it x k vs xs} : h.IsListIter it x k → C.base.IsList x vs → RdL C φ h (vs.toList.drop k) xs → ItR C φ h it (.vals xs) [it]
  | cell {it x n i} : φ[n]? = some x → h.IsListIter it x i → ItR C φ h it (.cell n i) [it]
  | rng {it : Addr} {i n : Nat} : i ≤ n → IsRangeIter h it (i : Int) ((n : Int) - (i : Int)) 1 → ItR C φ h it (.rng i n) [it]
  | enum {e it x n old} {i : Nat} : φ[n]? = some x → e ≠ it → IsEnum h e it (i : Int) old → h.IsListIter it x i → ItR C φ h e (.enum n i) [e, it]

theorem get_ext {φ φ' : List Addr} {n : Nat} {x : Addr} (p : φ <+: φ') (e : φ[n]? = some x) : φ'[n]? = some x := by
  obtain ⟨r, rfl⟩ := p
  exact (List.getElem?_append_left (List.getElem?_eq_some_iff.mp e).1).trans e

theorem Aft.same {C : Cfg} {φ φ' : List Addr} {a : AS} {l : List Env} {h h' : Heap} {X F : List Addr} (A : Aft C φ φ' X F h h') (H : HOK C φ a l h) {b : Addr} {o : Obj} (e : h.get? b = some o) (nl : ∀ vs, ¬ h.IsList b vs) (hX : b ∉ X) (hF : b ∉ F) : h'.get? b = some o := by
  obtain ⟨sl, e', q⟩ := A.keep b o e (H.not_phi nl).1 (H.not_phi nl).2 hX
  rw [q hF] at e'
  exact e'

theorem fields_not_list {h : Heap} {b : Addr} {o : Obj} {vs} (e : h.get? b = some o) (hd : o.data = .fields vs) : ∀ ws, ¬ h.IsList b ws := fun ws ⟨o', ho, _, n, hd'⟩ => by
  rw [e] at ho; cases ho; rw [hd] at hd'; cases hd'
theorem fields_not_tuple {h : Heap} {b : Addr} {o : Obj} {vs} (e : h.get? b = some o) (hd : o.data = .fields vs) : ∀ ws, ¬ h.IsTuple b ws := fun ws ⟨o', ho, _, n, hd'⟩ => by
  rw [e] at ho; cases ho; rw [hd] at hd'; cases hd'

theorem ItR.aft {C : Cfg} {φ φ' : List Addr} {a : AS} {l : List Env} {h h' : Heap} {X F Y : List Addr} {v : Addr} {i : ItS} (R : ItR C φ h v i Y) (A : Aft C φ φ' X F h h') (H : HOK C φ a l h) (hX : ∀ y ∈ Y, y ∉ X) (hF : ∀ y ∈ Y, y ∉ F) : ItR C φ' h' v i Y := by
  cases R with
  | tup h1 h2 h3 =>
    obtain ⟨o, ho, hc, hd⟩ := h1
    exact .tup ⟨o, A.same H ho (fields_not_list ho hd) (hX _ (by simp)) (hF _ (by simp)), hc, hd⟩ (A.tup _ _ h2) (h3.mono A.tup A.ext)
  | clst h1 h2 h3 =>
    obtain ⟨o, ho, hc, hd⟩ := h1
    exact .clst ⟨o, A.same H ho (fields_not_list ho hd) (hX _ (by simp)) (hF _ (by simp)), hc, hd⟩ h2 (h3.mono A.tup A.ext)
  | cell h1 h2 =>
    obtain ⟨o, ho, hc, hd⟩ := h2
    exact .cell (get_ext A.ext h1) ⟨o, A.same H ho (fields_not_list ho hd) (hX _ (by simp)) (hF _ (by simp)), hc, hd⟩
  | rng h1 h2 => exact .rng h1 (A.same H h2 (fields_not_list h2 rfl) (hX _ (by simp)) (hF _ (by simp)))
  | enum h1 h2 h3 h4 =>
    obtain ⟨o, ho, hc, hd⟩ := h4
    exact .enum (get_ext A.ext h1) h2 (A.same H h3 (fields_not_list h3 rfl) (hX _ (by simp)) (hF _ (by simp))) ⟨o, A.same H ho (fields_not_list ho hd) (hX _ (by simp)) (hF _ (by simp)), hc, hd⟩

/-- the own objects of an iterator are turned -/
theorem HOK.own {C : Cfg} {φ : List Addr} {a : AS} {l : List Env} {h h' : Heap} {Y : List Addr} (H : HOK C φ a l h) (k : ∀ b o, b ∉ Y → h.get? b = some o → h'.get? b = some o) (hx : ∀ y ∈ Y, C.base.get? y = none)
    (hF : ∀ y ∈ Y, y ∉ frs l) (nl : ∀ y ∈ Y, ∀ vs, ¬ h.IsList y vs) (nt : ∀ y ∈ Y, ∀ vs, ¬ h.IsTuple y vs) : HOK C φ a l h' where
  stays := fun b o e => k b o (fun q => by rw [hx b q] at e; cases e) (H.stays b o e)
  frames := frames_of H.frames fun L hm o ho hn => ⟨o, k _ _ (fun q => hF _ q hm) ho, hn⟩
  len := H.len
  nodup := H.nodup
  fresh := H.fresh
  cells := fun n xs e => by
    obtain ⟨y, vs, e1, ⟨o, ho, r⟩, e3⟩ := H.cells n xs e
    refine ⟨y, vs, e1, ⟨o, k _ _ (fun q => nl _ q vs ⟨o, ho, r⟩) ho, r⟩, e3.mono (fun a ws ⟨o, ho, r⟩ => ⟨o, k _ _ (fun q => nt _ q ws ⟨o, ho, r⟩) ho, r⟩) List.prefix_rfl⟩
  wheel := by
    obtain ⟨c, t, vs, ⟨o, ho, r⟩, ⟨o', ho', r'⟩, h3⟩ := H.wheel
    exact ⟨c, t, vs, ⟨o, k _ _ (fun q => nl _ q #[.ref C.S, .int (c : Int) t] ⟨o, ho, r⟩) ho, r⟩, ⟨o', k _ _ (fun q => nl _ q vs.toArray ⟨o', ho', r'⟩) ho', r'⟩, h3⟩
  plain := fun y hy => let ⟨vs, n, e⟩ := H.plain y hy; ⟨vs, n, k _ _ (fun q => nl _ q vs (Heap.PlainList.isList ⟨n, e⟩)) e⟩
  fout := H.fout
  wfresh := H.wfresh
  wout := H.wout
  sout := H.sout
  sw := H.sw

/-- from h0, where the own objects were not yet -/
structure From (C : Cfg) (φ₀ φ : List Addr) (X Y F : List Addr) (h₀ h : Heap) : Prop where
  aft : Aft C φ₀ φ (Y ++ X) F h₀ h
  dead : ∀ y ∈ Y, h₀.get? y = none

theorem From.own {C : Cfg} {φ₀ φ X Y F : List Addr} {h₀ h h' : Heap} (R : From C φ₀ φ X Y F h₀ h) (k : ∀ b o, b ∉ Y → h.get? b = some o → h'.get? b = some o) : From C φ₀ φ X Y F h₀ h' where
  aft := {
    keep := fun b o e n1 n2 n3 => by
      obtain ⟨sl, e', q⟩ := R.aft.keep b o e n1 n2 n3
      exact ⟨sl, k b _ (fun q => n3 (List.mem_append_left _ q)) e', q⟩
    ext := R.aft.ext
    new := R.aft.new
    alive := fun b e => by
      obtain ⟨o, ho⟩ := Option.isSome_iff_exists.mp (R.aft.alive b e)
      rw [k b o (fun q => by rw [R.dead b q] at e; cases e) ho]; rfl
    tup := fun a vs ht => by
      obtain ⟨o, ho, r⟩ := R.aft.tup a vs ht
      obtain ⟨o₁, ho₁, _⟩ := ht
      exact ⟨o, k a o (fun q => by rw [R.dead a q] at ho₁; cases ho₁) ho, r⟩ }
  dead := R.dead

theorem From.step {C : Cfg} {φ₀ φ φ' X X' Y F : List Addr} {h₀ h h' : Heap} (R : From C φ₀ φ X Y F h₀ h) (A : Aft C φ φ' X' F h h') (hs : ∀ b ∈ X', b ∈ Y ++ X) : From C φ₀ φ' X Y F h₀ h' :=
  ⟨R.aft.trans (A.mono hs), R.dead⟩

theorem From.out {C : Cfg} {φ₀ φ X Y F : List Addr} {h₀ h : Heap} (R : From C φ₀ φ X Y F h₀ h) : Aft C φ₀ φ X F h₀ h where
  keep := fun b o e n1 n2 n3 => R.aft.keep b o e n1 n2 fun q => by
    rcases List.mem_append.mp q with q | q
    · rw [R.dead b q] at e; cases e
    · exact n3 q
  ext := R.aft.ext
  new := R.aft.new
  alive := R.aft.alive
  tup := R.aft.tup

theorem ItR.facts {C : Cfg} {φ : List Addr} {h : Heap} {v : Addr} {i : ItS} {Y : List Addr} (R : ItR C φ h v i Y) : ∀ y ∈ Y, (∀ vs, ¬ h.IsList y vs) ∧ ∀ vs, ¬ h.IsTuple y vs := by
  intro y hy
  cases R with
  | tup h1 h2 h3 => obtain ⟨o, ho, hc, hd⟩ := h1; simp at hy; subst hy; exact ⟨fields_not_list ho hd, fields_not_tuple ho hd⟩
  | clst h1 h2 h3 => obtain ⟨o, ho, hc, hd⟩ := h1; simp at hy; subst hy; exact ⟨fields_not_list ho hd, fields_not_tuple ho hd⟩
  | cell h1 h2 => obtain ⟨o, ho, hc, hd⟩ := h2; simp at hy; subst hy; exact ⟨fields_not_list ho hd, fields_not_tuple ho hd⟩
  | rng h1 h2 => simp at hy; subst hy; exact ⟨fields_not_list h2 rfl, fields_not_tuple h2 rfl⟩
  | enum h1 h2 h3 h4 =>
    obtain ⟨o, ho, hc, hd⟩ := h4
    simp at hy
    rcases hy with rfl | rfl
    · exact ⟨fields_not_list h3 rfl, fields_not_tuple h3 rfl⟩
    · exact ⟨fields_not_list ho hd, fields_not_tuple ho hd⟩

theorem drop_get {vs : Array Value} {k : Nat} {v : Value} {r : List Value} (e : vs.toList.drop k = v :: r) : vs[k]? = some v ∧ vs.toList.drop (k + 1) = r := by
  have h0 : (vs.toList.drop k)[0]? = some v := by rw [e]; rfl
  rw [List.getElem?_drop] at h0
  refine ⟨by simpa using h0, ?_⟩
  have : vs.toList.drop (k + 1) = (vs.toList.drop k).drop 1 := by rw [List.drop_drop]
  rw [this, e]; rfl
theorem drop_nil {vs : Array Value} {k : Nat} (e : vs.toList.drop k = []) : vs[k]? = none := by
  rw [List.drop_eq_nil_iff] at e
  simpa using e

section
variable {C : Cfg} {gs : List Str}

/-- one turn of an iterator -/
theorem next_sound {tgt : Tgt} {target : Expr} {vs : List Str} {φ : List Addr} {a : AS} {l : List Env} {s : Shared} {A : Around} {v : Addr} {i : ItS} {Y : List Addr} {r : Option (D × ItS)} {Q : Option Value → Shared → Prop} {Q' : Value → Shared → Prop} {E E' : Value → Shared → Prop}
    (tt : TrT vs target tgt) (e : nextI tgt a.σ i = some r) (hh : A.handled = none) (H : HOK C φ a l s.heap) (R : ItR C φ s.heap v i Y)
    (hx : ∀ y ∈ Y, C.base.get? y = none) (hF : ∀ y ∈ Y, y ∉ frs l)
    (P : match (generalizing := false) r with
      | none => ∀ h', HOK C φ a l h' → (∀ b o, b ∉ Y → s.heap.get? b = some o → h'.get? b = some o) → Q none { s with heap := h' }
      | some (d, i') => (∀ u h' tk, HOK C φ a l h' → (∀ b o, b ∉ Y → s.heap.get? b = some o → h'.get? b = some o) → Rd C φ h' u d → ItR C φ h' v i' Y → Q' u { s with heap := h', toks := tk }))
    (P' : ∀ d i', r = some (d, i') → ∀ u s', wpAny (model C.prog C.w) A (letOwnedTupleGo target (.ref v) u) (fun _ s'' => Q' u s'') E' s' → Q (some u) s') :
    wpAny (model C.prog C.w) A (pyNext (.ref v)) Q E s := by
  have hfacts := R.facts
  have own : ∀ h', (∀ b o, b ∉ Y → s.heap.get? b = some o → h'.get? b = some o) → HOK C φ a l h' := fun h' k => H.own k hx hF (fun y hy => (hfacts y hy).1) (fun y hy => (hfacts y hy).2)
  have tupk : ∀ h', (∀ b o, b ∉ Y → s.heap.get? b = some o → h'.get? b = some o) → TupK s.heap h' := fun h' k b vs ⟨o, ho, r⟩ => ⟨o, k b o (fun q => (hfacts b q).2 vs ⟨o, ho, r⟩) ho, r⟩
  cases R with
  | @tup t k ws xs h1 h2 h3 =>
    have hne : t ≠ v := fun q => by subst q; exact (hfacts t (by simp)).2 _ h2
    generalize hdr : ws.toList.drop k = dl at h3
    cases h3 with
    | nil =>
      delta nextI at e
      simp only [Option.some.injEq] at e
      subst e
      refine wpAny_pyNext_tuple_end hh h1 h2 (drop_nil hdr) fun h' he => ?_
      have k' : ∀ b o, b ∉ [v] → s.heap.get? b = some o → h'.get? b = some o := fun b o hb => he b o (by simpa using hb)
      exact P h' (own h' k') k'
    | @cons u us d ds hd hr =>
      delta nextI at e
      simp only [Option.some.injEq] at e
      subst e
      obtain ⟨hg, hdr'⟩ := drop_get hdr
      refine wpAny_pyNext_tuple_item h1 h2 hg fun h' hit hs' => ?_
      have k' : ∀ b o, b ∉ [v] → s.heap.get? b = some o → h'.get? b = some o := fun b o hb => hs'.extBut b o (by simpa using hb)
      refine P' _ _ rfl u _ ?_
      have fin := P u h' s.toks (own h' k') k' (hd.mono (tupk h' k') List.prefix_rfl) (.tup hit (tupk h' k' _ _ h2) (by rw [hdr']; exact hr.mono (tupk h' k') List.prefix_rfl))
      obtain ⟨o, ho, hc, hdt⟩ := hit
      cases tt with
      | one _ => exact wpAny_pure fin
      | many _ =>
        unfold letOwnedTupleGo
        cases u with
        | ref a₁ =>
          refine wpAny_bind (wpAny_load ho ?_)
          rw [hc, hdt]
          refine wpAny_of_eq (a := ()) ?_ fin
          show (if (["enumerate", "zip", "dict_itemiterator", "dict_reverseitemiterator", "odict_iterator", "itertools.zip_longest", "itertools.pairwise"].contains "tuple_iterator" && _) = true then _ else _) = _
          rw [if_neg (by rw [show (["enumerate", "zip", "dict_itemiterator", "dict_reverseitemiterator", "odict_iterator", "itertools.zip_longest", "itertools.pairwise"].contains "tuple_iterator") = false from by decide, Bool.false_and]; exact Bool.false_ne_true)]
        | _ => exact wpAny_pure fin
  | @clst x k ws xs h1 h2 h3 =>
    have hl : s.heap.IsList x ws := let ⟨o, ho, r⟩ := h2; ⟨o, H.stays _ _ ho, r⟩
    generalize hdr : ws.toList.drop k = dl at h3
    cases h3 with
    | nil =>
      delta nextI at e
      simp only [Option.some.injEq] at e
      subst e
      refine wpAny_pyNext_list_end hh h1 hl (drop_nil hdr) fun h' he => ?_
      have k' : ∀ b o, b ∉ [v] → s.heap.get? b = some o → h'.get? b = some o := fun b o hb => he b o (by simpa using hb)
      exact P h' (own h' k') k'
    | @cons u us d ds hd hr =>
      delta nextI at e
      simp only [Option.some.injEq] at e
      subst e
      obtain ⟨hg, hdr'⟩ := drop_get hdr
      refine wpAny_pyNext_list_item h1 hl hg fun h' hit hs' => ?_
      have k' : ∀ b o, b ∉ [v] → s.heap.get? b = some o → h'.get? b = some o := fun b o hb => hs'.extBut b o (by simpa using hb)
      refine P' _ _ rfl u _ ?_
      have fin := P u h' s.toks (own h' k') k' (hd.mono (tupk h' k') List.prefix_rfl) (.clst hit h2 (by rw [hdr']; exact hr.mono (tupk h' k') List.prefix_rfl))
      cases tt with
      | one _ => exact wpAny_pure fin
      | many _ =>
        cases u with
        | ref a₁ => exact wpAny_letOwnedTupleGo_listiter hit fin
        | _ => exact wpAny_pure fin
  | @cell x n i h1 h2 =>
    delta nextI at e
    try dsimp only at e
    split at e
    · rename_i xs hxs
      obtain ⟨x', ws, q, hl, rl⟩ := H.cells n xs hxs
      rw [h1] at q; cases q
      split at e
      · rename_i d hd
        cases e
        obtain ⟨u, hu, ru⟩ := rl.get hd
        refine wpAny_pyNext_list_item h2 hl (by simpa using hu) fun h' hit hs' => ?_
        have k' : ∀ b o, b ∉ [v] → s.heap.get? b = some o → h'.get? b = some o := fun b o hb => hs'.extBut b o (by simpa using hb)
        refine P' _ _ rfl u _ ?_
        have fin := P u h' s.toks (own h' k') k' (ru.mono (tupk h' k') List.prefix_rfl) (.cell h1 hit)
        cases tt with
        | one _ => exact wpAny_pure fin
        | many _ =>
          cases u with
          | ref a₁ => exact wpAny_letOwnedTupleGo_listiter hit fin
          | _ => exact wpAny_pure fin
      · rename_i hd
        cases e
        refine wpAny_pyNext_list_end hh h2 hl (by
          have hlen := rl.length
          rw [List.getElem?_eq_none_iff] at hd
          rw [Array.getElem?_eq_none_iff]
          have : ws.size = ws.toList.length := by simp
          omega) fun h' he => ?_
        have k' : ∀ b o, b ∉ [v] → s.heap.get? b = some o → h'.get? b = some o := fun b o hb => he b o (by simpa using hb)
        exact P h' (own h' k') k'
    · cases e
  | @rng i n h1 h2 =>
    delta nextI at e
    try dsimp only at e
    split at e
    · rename_i hlt
      cases e
      refine wpAny_pyNext_range_item h2 (by omega) fun h' hit hs' => ?_
      have k' : ∀ b o, b ∉ [v] → s.heap.get? b = some o → h'.get? b = some o := fun b o hb => hs'.extBut b o (by simpa using hb)
      refine P' _ _ rfl _ _ ?_
      have fin := P (.int (i : Int) s.toks) h' (s.toks + 1) (own h' k') k' (.int _ _) (.rng (by omega) (by
        rw [show ((i + 1 : Nat) : Int) = (i : Int) + 1 by omega, show (n : Int) - ((i : Int) + 1) = (n : Int) - (i : Int) - 1 by omega]; exact hit))
      cases tt with
      | one _ => exact wpAny_pure fin
      | many _ => exact wpAny_pure fin
    · cases e
      refine wpAny_pyNext_range_end hh h2 (by omega) fun h' he => ?_
      have k' : ∀ b o, b ∉ [v] → s.heap.get? b = some o → h'.get? b = some o := fun b o hb => he b o (by simpa using hb)
      exact P h' (own h' k') k'
  | @enum it x n old i h1 h2 h3 h4 =>
    delta nextI at e
    try dsimp only at e
    cases tt with
    | one _ => cases e
    | many _ =>
    split at e
    · cases e
    split at e
    · rename_i xs hxs
      obtain ⟨x', ws, q, hl, rl⟩ := H.cells n xs hxs
      rw [h1] at q; cases q
      split at e
      · rename_i d hd
        cases e
        obtain ⟨u, hu, ru⟩ := rl.get hd
        refine wpAny_pyNext_enum_item h3 h4 hl (x := u) (by simpa using hu) h2 fun h' ho hit ht hz hk => ?_
        refine P' _ _ rfl _ _ (wpAny_letOwnedTupleGo_enum ho fun h'' he'' hs'' => ?_)
        have hlt : v ≠ s.heap.objs.size := Nat.ne_of_lt (Heap.lt_size h3)
        have k' : ∀ b o, b ∉ [v, it] → s.heap.get? b = some o → h''.get? b = some o := fun b o hb e => by
          simp at hb
          exact hs''.extBut b o hb.1 (hk b o hb.1 hb.2 e)
        have ru' := ru.mono (tupk h'' k') (List.prefix_rfl (l := φ))
        refine P _ h'' (s.toks + 1) (own h'' k') k' (.tup (vs := #[.int (i : Int) s.toks, u]) ⟨_, hs''.extBut _ _ (Ne.symm hlt) ht, rfl, _, rfl⟩ (.cons (.int _ _) (.cons ru' .nil))) (.enum (old := u) h1 h2 ?_ ?_)
        · rw [show ((i + 1 : Nat) : Int) = (i : Int) + 1 by omega]; exact he''
        · exact hit.extBut hs''.extBut (Ne.symm h2)
      · rename_i hd
        cases e
        refine wpAny_pyNext_enum_end hh h3 h4 hl (by
          have hlen := rl.length
          rw [List.getElem?_eq_none_iff] at hd
          rw [Array.getElem?_eq_none_iff]
          have : ws.size = ws.toList.length := by simp
          omega) fun h' he => ?_
        have k' : ∀ b o, b ∉ [v, it] → s.heap.get? b = some o → h'.get? b = some o := fun b o hb => he b o (by simp at hb; exact hb.2)
        exact P h' (own h' k') k'
    · cases e
end

end Mine
end

section
namespace Mine
open PySem PySem.W PyProof.Rows PySem.SeqAt

theorem Aft.dead {C : Cfg} {φ φ' X F : List Addr} {h h' : Heap} (A : Aft C φ φ' X F h h') {y : Addr} (e : h'.get? y = none) : h.get? y = none := by
  cases q : h.get? y with
  | none => rfl
  | some o => have := A.alive y (by rw [q]; rfl); rw [e] at this; cases this

theorem lookup_stays {h : Heap} {b : Addr} {x : Addr} {o : Obj} (e : h.get? b = some o) (q : h.get? x = none) : b ≠ x := fun p => by subst p; rw [e] at q; cases q

section
variable {C : Cfg} {Γ : Globs} {gs : List Str} {L : Lv} {n : Nat}

/-- a loop's source -/
theorem it_sound (G : GOK C Γ gs) (IE : SoundE C gs L n) {it : It} {ρ : Rho} {a a' : AS} {i : ItS} (e : evIt L it ρ a = some (i, a')) {kn : List (Str × NameKind)} {vs : List Str} {ex : Expr} (t : TrI kn vs gs ex it)
    {env : Env} {A : Around} {l : List Env} {φ : List Addr} {s : Shared} {Q : Value → Shared → Prop} {E : Value → Shared → Prop} (hA : AOK A l n) (hE : EOK C env kn vs ρ φ s.heap) (H : HOK C φ a l s.heap)
    (P : ∀ ad Y h' tk φ', HOK C φ' a' l h' → Aft C φ φ' [] (frs l) s.heap h' → ItR C φ' h' ad i Y → (∀ y ∈ Y, s.heap.get? y = none) → Q (.ref ad) { s with heap := h', toks := tk }) :
    wpAny (model C.prog C.w) A (eval ex env) (fun x s₁ => wpAny (model C.prog C.w) A (pyIter x) Q E s₁) E s := by
  cases t with
  | of t hs =>
    delta evIt at e
    try dsimp only at e
    split at e
    · rename_i xs a₁ e1
      cases e
      refine IE _ ρ a _ _ e1 kn vs _ t env A l φ s _ E hA hE H fun v h₁ tk₁ φ₁ H₁ A₁ r₁ => ?_
      cases r₁ with
      | @tup t ws _ ht r =>
        refine wpAny_pyIter_tuple ht ?_
        have k := push_keeps h₁ { cls := .type "tuple_iterator", data := .fields #[.ref t, .int 0 0] }
        refine P _ [h₁.objs.size] _ tk₁ φ₁ (H₁.keeps k) (A₁.trans (Aft.of_keeps k)) (.tup (k := 0) ⟨_, Heap.get?_push_size _ rfl, rfl, rfl⟩ (ht.push _) (by rw [List.drop_zero]; exact r.mono (TupK.of_keeps k) List.prefix_rfl)) fun y hy => ?_
        simp at hy; subst hy; exact A₁.dead (get_size_none _)
    · rename_i xs a₁ e1
      cases e
      refine IE _ ρ a _ _ e1 kn vs _ t env A l φ s _ E hA hE H fun v h₁ tk₁ φ₁ H₁ A₁ r₁ => ?_
      cases r₁ with
      | @clst t ws _ hb r =>
        have hl : h₁.IsList t ws := let ⟨o, ho, r⟩ := hb; ⟨o, H₁.stays _ _ ho, r⟩
        refine wpAny_pyIter_list hl ?_
        have k := push_keeps h₁ { cls := .type "list_iterator", data := .fields #[.ref t, .int 0 0] }
        refine P _ [h₁.objs.size] _ tk₁ φ₁ (H₁.keeps k) (A₁.trans (Aft.of_keeps k)) (.clst (k := 0) ⟨_, Heap.get?_push_size _ rfl, rfl, rfl⟩ hb (by rw [List.drop_zero]; exact r.mono (TupK.of_keeps k) List.prefix_rfl)) fun y hy => ?_
        simp at hy; subst hy; exact A₁.dead (get_size_none _)
    · rename_i m a₁ e1
      cases e
      refine IE _ ρ a _ _ e1 kn vs _ t env A l φ s _ E hA hE H fun v h₁ tk₁ φ₁ H₁ A₁ r₁ => ?_
      cases r₁ with
      | @lst t _ q =>
        have hn : m < a'.σ.length := by
          have := (List.getElem?_eq_some_iff.mp q).1
          rw [H₁.len] at this; exact this
        obtain ⟨x, ws, q', hl, rl⟩ := H₁.cells m _ (List.getElem?_eq_getElem hn)
        rw [q] at q'; cases q'
        refine wpAny_pyIter_list hl ?_
        have k := push_keeps h₁ { cls := .type "list_iterator", data := .fields #[.ref t, .int 0 0] }
        refine P _ [h₁.objs.size] _ tk₁ φ₁ (H₁.keeps k) (A₁.trans (Aft.of_keeps k)) (.cell q ⟨_, Heap.get?_push_size _ rfl, rfl, rfl⟩) fun y hy => ?_
        simp at hy; subst hy; exact A₁.dead (get_size_none _)
    · cases e
  | rng hk t hs =>
    delta evIt at e
    try dsimp only at e
    split at e
    · rename_i j a₁ e1
      split at e
      · rename_i hj
        cases e
        simp only [Bool.and_eq_true, decide_eq_true_eq] at hj
        refine Call_name1 (by rw [starEach_cons hs]; rfl) (builtin_sound (v := .type "range") G (by simp) (by boot_fast) (by decide) hk (by decide) hE H ?_)
        refine PySem.callWith_type1 (IE _ ρ a _ _ e1 kn vs _ t env A l φ s _ E hA hE H fun v h₁ tk₁ φ₁ H₁ A₁ r₁ => ?_)
        cases r₁ with
        | int _ tt =>
          refine call_range_1 ?_
          have k := push_keeps h₁ { cls := .type "range", data := .fields #[.int 0 tk₁, .int j tt, .int 1 (tk₁ + 1)] }
          refine wpAny_pyIter_range (Heap.get?_push_size _ rfl : IsRange _ _ 0 j 1 tk₁ tt (tk₁ + 1)) (small_one (by decide) (by decide) (by omega) (by omega)) ?_
          have k' := push_keeps (h₁.push { cls := .type "range", data := .fields #[.int 0 tk₁, .int j tt, .int 1 (tk₁ + 1)] }) { cls := .type "range_iterator", data := .fields #[rawInt 0, rawInt (Builtin.Range.rangeSize 0 j 1), rawInt 1] }
          have kk : ∀ b o, h₁.get? b = some o → _ := fun b o e => k' b o (k b o e)
          refine P _ [(h₁.push { cls := .type "range", data := .fields #[.int 0 tk₁, .int j tt, .int 1 (tk₁ + 1)] }).objs.size] _ _ φ₁ (H₁.keeps kk) (A₁.trans (Aft.of_keeps kk)) (.rng (Nat.zero_le _) ?_) fun y hy => ?_
          · have hsz : Builtin.Range.rangeSize 0 j 1 = ((j.toNat : Int) - ((0 : Nat) : Int)) := by rw [rangeSize_one]; split <;> omega
            rw [← hsz]
            exact Heap.get?_push_size _ rfl
          · rw [List.mem_singleton.mp hy]
            exact (A₁.trans (Aft.of_keeps k) : Aft C φ φ₁ [] (frs l) _ _).dead (get_size_none _)
      · cases e
    · cases e
  | enum hk t hs =>
    delta evIt at e
    try dsimp only at e
    split at e
    · rename_i m a₁ e1
      cases e
      refine Call_name1 (by rw [starEach_cons hs]; rfl) (builtin_sound (v := .type "enumerate") G (by simp) (by boot_fast) (by decide) hk (by decide) hE H ?_)
      refine PySem.callWith_type1 (IE _ ρ a _ _ e1 kn vs _ t env A l φ s _ E hA hE H fun v h₁ tk₁ φ₁ H₁ A₁ r₁ => ?_)
      cases r₁ with
      | @lst t _ q =>
        have hn : m < a'.σ.length := by
          have := (List.getElem?_eq_some_iff.mp q).1
          rw [H₁.len] at this; exact this
        obtain ⟨x, ws, q', hl, rl⟩ := H₁.cells m _ (List.getElem?_eq_getElem hn)
        rw [q] at q'; cases q'
        refine call_enumerate_list hl fun h' he hit hz hk' => ?_
        refine wpAny_pyIter_enum he ?_
        have hd : ∀ y ∈ [h₁.objs.size + 1, h₁.objs.size], h₁.get? y = none := fun y hy => by
          cases qq : h₁.get? y with
          | none => rfl
          | some o =>
            have hlt : y < h₁.objs.size := Heap.lt_size qq
            rcases List.mem_cons.mp hy with e | hy
            · rw [e] at hlt; exact absurd (Nat.lt_of_succ_lt hlt) (Nat.lt_irrefl _)
            · rw [List.mem_singleton.mp hy] at hlt; exact absurd hlt (Nat.lt_irrefl _)
        exact P _ [h₁.objs.size + 1, h₁.objs.size] h' tk₁ φ₁ (H₁.keeps hk') (A₁.trans (Aft.of_keeps hk')) (.enum q (Nat.succ_ne_self _) he hit) fun y hy => A₁.dead (hd y hy)
    · cases e

theorem trN_assign {vs : List Str} {env : Env} {es : List Expr} {is : List Nat} (t : TrN vs es is) : (assignEach es env).length = is.length ∧ (assignEach es env).findIdx? (·.1) = none := by
  induction t with
  | nil => exact ⟨rfl, rfl⟩
  | cons hx t ih =>
    rename_i x p i es is
    obtain ⟨h1, h2⟩ := ih
    refine ⟨by show (assignEach es env).length + 1 = _; rw [h1]; rfl, ?_⟩
    show ((false, assign (.Name x p) env) :: assignEach es env).findIdx? (·.1) = none
    rw [List.findIdx?_cons]
    simp [h2]

/-- the names of a row are stored in order -/
theorem names_sound {kn : List (Str × NameKind)} {vs : List Str} {env : Env} {A : Around} {l : List Env} {φ : List Addr} {a : AS} {F : List Addr} {E : Value → Shared → Prop} : ∀ {is : List Nat} {es : List Expr} {us : List Value} {ds : List D} {ρ ρ' : Rho} {s : Shared} {Q : Unit → Shared → Prop},
    TrN vs es is → bindT.go ρ is ds = some ρ' → is.all (storeOkV kn vs) = true → SOK C env kn vs ρ φ s.heap → HOK C φ a l s.heap → RdL C φ s.heap us ds →
    (∀ h' tk, HOK C φ a l h' → Aft C φ φ (places kn env) F s.heap h' → SOK C env kn vs ρ' φ h' → Q () { s with heap := h', toks := tk }) →
    wpAny (model C.prog C.w) A (assignInOrder ((assignEach es env).map (·.2)) us) Q E s := by
  intro is
  induction is with
  | nil =>
    intro es us ds ρ ρ' s Q T e hs S H r P
    cases ds with
    | nil =>
      cases T
      simp only [bindT.go, Option.some.injEq] at e
      subst e
      cases r
      exact wpAny_pure (P s.heap s.toks H (Aft.refl _) S)
    | cons d ds => simp [bindT.go] at e
  | cons i is ih =>
    intro es us ds ρ ρ' s Q T e hs S H r P
    cases ds with
    | nil => simp [bindT.go] at e
    | cons d ds =>
      cases T with
      | cons hx t =>
        rename_i x p es
        simp only [bindT.go] at e
        split at e
        · simp only [List.all_cons, Bool.and_eq_true] at hs
          cases r with
          | @cons u us _ _ hd hr =>
            show wpAny _ A (do holding us (assign (.Name x p) env u); assignInOrder ((assignEach es env).map (·.2)) us) Q E s
            refine wpAny_bind (wpAny_holding (store_sound (F := F) hx hs.1 S H hd fun h₁ tk₁ H₁ A₁ S₁ => ?_))
            exact ih t e hs.2 S₁ H₁ (hr.mono A₁.tup A₁.ext) fun h₂ tk₂ H₂ A₂ S₂ => P h₂ tk₂ H₂ (A₁.trans A₂) S₂
        · cases e

theorem go_length {is : List Nat} : ∀ {ds : List D} {ρ ρ' : Rho}, bindT.go ρ is ds = some ρ' → is.length = ds.length := by
  induction is with
  | nil => intro ds ρ ρ' e; cases ds with
    | nil => rfl
    | cons d ds => simp [bindT.go] at e
  | cons i is ih => intro ds ρ ρ' e; cases ds with
    | nil => simp [bindT.go] at e
    | cons d ds =>
      simp only [bindT.go] at e
      split at e
      · simp [ih e]
      · cases e

/-- a target is bound -/
theorem bind_sound {tgt : Tgt} {target : Expr} {d : D} {ρ ρ' : Rho} (e : bindT ρ tgt d = some ρ') {kn : List (Str × NameKind)} {vs : List Str} (tt : TrT vs target tgt) (hs : (tgtIdx tgt).all (storeOkV kn vs) = true)
    {env : Env} {A : Around} {l : List Env} {φ : List Addr} {a : AS} {s : Shared} {v : Value} {F : List Addr} {Q : Unit → Shared → Prop} {E : Value → Shared → Prop} (hh : A.handled = none) (S : SOK C env kn vs ρ φ s.heap) (H : HOK C φ a l s.heap) (r : Rd C φ s.heap v d)
    (P : ∀ h' tk, HOK C φ a l h' → Aft C φ φ (places kn env) F s.heap h' → SOK C env kn vs ρ' φ h' → Q () { s with heap := h', toks := tk }) :
    wpAny (model C.prog C.w) A (assign target env v) Q E s := by
  cases tt with
  | one hx =>
    delta bindT at e
    try dsimp only at e
    split at e
    · cases e
      exact store_sound hx (by simpa [tgtIdx] using hs) S H r P
    · cases e
  | many tn =>
    cases d with
    | tup xs =>
      delta bindT at e
      try dsimp only at e
      split at e
      · rename_i hl
        cases r with
        | @tup t ws _ ht rl =>
          obtain ⟨h1, h2⟩ := trN_assign (env := env) tn
          refine wpAny_assign_Tuple hh ht (by rw [h1, hl]; have := rl.length; simp at this; exact this.symm) h2 fun h₁ he => ?_
          have k : ∀ b o, s.heap.get? b = some o → h₁.get? b = some o := fun b o e => he b o (Nat.ne_of_lt (Heap.lt_size e)) e
          have A₁ : Aft C φ φ [] F s.heap h₁ := Aft.of_keeps k
          refine names_sound tn e hs (S.aft A₁ H) (H.keeps k) (rl.mono A₁.tup A₁.ext) fun h₂ tk₂ H₂ A₂ S₂ => P h₂ tk₂ H₂ ((Aft.of_keeps k).trans A₂) S₂
      · cases e
    | _ => exact no_some e
end

end Mine
end

section
namespace Mine
open PySem PySem.W PyProof.Rows PySem.SeqAt

/-- a mutable cell is set -/
theorem HOK.setCell {C : Cfg} {φ : List Addr} {a : AS} {l : List Env} {h h' : Heap} {n : Nat} {x : Addr} {vs vs' : Array Value} {xs' : List D} (H : HOK C φ a l h) (hx : φ[n]? = some x) (hs : Heap.SameBut x h h') (hl : h.IsList x vs) (hp : h'.PlainList x vs')
    (r : RdL C φ h' vs'.toList xs') : HOK C φ { a with σ := a.σ.set n xs' } l h' := by
  have hm : x ∈ φ := List.mem_of_getElem? hx
  have hl' := hp.isList
  have k := hs.extBut
  have nt : ∀ ws, ¬ h.IsTuple x ws := fun ws ⟨o, ho, hc, _⟩ => by
    obtain ⟨o', ho', hc', _⟩ := hl
    rw [ho] at ho'; cases ho'; rw [hc] at hc'; simp at hc'
  have tk : TupK h h' := fun b ws ⟨o, ho, r⟩ => ⟨o, k b o (fun q => nt ws (q ▸ ⟨o, ho, r⟩)) ho, r⟩
  have hn : n < a.σ.length := by rw [← H.len]; exact (List.getElem?_eq_some_iff.mp hx).1
  refine ⟨fun b o e => k b o (fun q => by subst q; rw [H.fresh _ hm] at e; cases e) (H.stays b o e), ?_, by simp [H.len], H.nodup, H.fresh, ?_, ?_, ?_, H.fout, H.wfresh, H.wout, H.sout, H.sw⟩
  · refine frames_of H.frames fun L hL o ho hd => ?_
    by_cases q : L = x
    · subst q
      obtain ⟨o', ho', _, m, hd'⟩ := hl'
      exact ⟨o', ho', fun ws e => by rw [hd'] at e; cases e⟩
    · exact ⟨o, k _ _ q ho, hd⟩
  · intro m xs e
    by_cases q : m = n
    · subst q
      rw [List.getElem?_set_self hn] at e
      cases e
      exact ⟨x, vs', hx, hl', r⟩
    · rw [List.getElem?_set_ne (fun e => q e.symm)] at e
      obtain ⟨y, ws, e1, ⟨o, ho, r1⟩, e3⟩ := H.cells m xs e
      refine ⟨y, ws, e1, ⟨o, k _ _ (fun e => q (vs_inj' H.nodup e1 (e ▸ hx))) ho, r1⟩, e3.mono tk List.prefix_rfl⟩
  · obtain ⟨c, t, vs, ⟨o, ho, r⟩, ⟨o', ho', r'⟩, h3⟩ := H.wheel
    exact ⟨c, t, vs, ⟨o, k _ _ (fun q => H.wout (q ▸ hm)) ho, r⟩, ⟨o', k _ _ (fun q => H.sout (q ▸ hm)) ho', r'⟩, h3⟩
  · intro y hy
    by_cases q : y = x
    · subst q; exact ⟨vs', hp⟩
    · obtain ⟨ws, n, e⟩ := H.plain y hy; exact ⟨ws, n, k _ _ q e⟩
where
  vs_inj' {vs : List Addr} (hn : vs.Nodup) {i j : Nat} {x : Addr} (h1 : vs[i]? = some x) (h2 : vs[j]? = some x) : i = j := by
    obtain ⟨a1, a2⟩ := List.getElem?_eq_some_iff.mp h1
    obtain ⟨b1, b2⟩ := List.getElem?_eq_some_iff.mp h2
    have h := List.pairwise_iff_getElem.mp hn
    rcases Nat.lt_trichotomy i j with q | q | q
    · exact absurd (a2.trans b2.symm) (h i j a1 b1 q)
    · exact q
    · exact absurd (b2.trans a2.symm) (h j i b1 a1 q)

theorem Aft.setCell {C : Cfg} {φ : List Addr} {a : AS} {l : List Env} {h h' : Heap} {n : Nat} {x : Addr} {vs vs' : Array Value} {X F : List Addr} (hx : φ[n]? = some x) (hs : Heap.SameBut x h h') (hl : h.IsList x vs) (hl' : h'.IsList x vs') : Aft C φ φ X F h h' := by
  have hm : x ∈ φ := List.mem_of_getElem? hx
  have k := hs.extBut
  have nt : ∀ ws, ¬ h.IsTuple x ws := fun ws ⟨o, ho, hc, _⟩ => by
    obtain ⟨o', ho', hc', _⟩ := hl
    rw [ho] at ho'; cases ho'; rw [hc] at hc'; simp at hc'
  refine ⟨fun b o e n1 _ _ => ⟨o.slots, k b o (fun q => n1 (q ▸ hm)) e, fun _ => rfl⟩, List.prefix_rfl, fun _ h => .inl h, fun b e => ?_, fun b ws ⟨o, ho, r⟩ => ⟨o, k b o (fun q => nt ws (q ▸ ⟨o, ho, r⟩)) ho, r⟩⟩
  by_cases q : b = x
  · subst q; obtain ⟨o', ho', _⟩ := hl'; rw [ho']; rfl
  · obtain ⟨o, ho⟩ := Option.isSome_iff_exists.mp e
    rw [k b o q ho]; rfl

noncomputable def FlR (C : Cfg) (φ : List Addr) (h : Heap) : Flow → Fl → Prop
  | .next, .next => True
  | .ret v, .ret d => Rd C φ h v d
  | _, _ => False

/-- what holds behind a block -/
noncomputable def PostS (C : Cfg) (φ₀ : List Addr) (env : Env) (kn : List (Str × NameKind)) (vs : List Str) (l : List Env) (h₀ : Heap) (s : Shared) (f : Fl) (ρ' : Rho) (a' : AS) (Q : Flow → Shared → Prop) : Prop :=
  ∀ φ' h' tk fv, FlR C φ' h' fv f → HOK C φ' a' l h' → Aft C φ₀ φ' (places kn env) (frs l) h₀ h' → SOK C env kn vs ρ' φ' h' → Q fv { s with heap := h', toks := tk }

theorem PostS.step {C : Cfg} {φ₀ φ : List Addr} {env : Env} {kn : List (Str × NameKind)} {vs : List Str} {l : List Env} {h₀ : Heap} {s : Shared} {f : Fl} {ρ' : Rho} {a' : AS} {Q : Flow → Shared → Prop} (P : PostS C φ₀ env kn vs l h₀ s f ρ' a' Q)
    {h₁ : Heap} {tk : Nat} (A : Aft C φ₀ φ (places kn env) (frs l) h₀ h₁) : PostS C φ env kn vs l h₁ { s with heap := h₁, toks := tk } f ρ' a' Q :=
  fun φ' h' tk' fv r H A' S => P φ' h' tk' fv r H (A.trans A') S

theorem Aft.nil {C : Cfg} {φ φ' X F : List Addr} {h h' : Heap} (A : Aft C φ φ' [] F h h') : Aft C φ φ' X F h h' := A.mono fun _ hb => by cases hb

/-- the frame that runs is the uppermost -/
noncomputable def TopE (env : Env) (l : List Env) : Prop := ∃ outer, l = env :: outer ∧ env.frame = some env.locals

noncomputable def SoundS (C : Cfg) (gs : List Str) (L : Lv) (n : Nat) : Prop :=
  ∀ (ss : List XS) (ρ : Rho) (a : AS) (f : Fl) (ρ' : Rho) (a' : AS), L.s ss ρ a = some (f, ρ', a') → ∀ (kn : List (Str × NameKind)) (vs : List Str) (b : List Stmt), TrSs kn vs gs b ss →
    ∀ (env : Env) (A : Around) (l : List Env) (φ : List Addr) (s : Shared) (Q : Flow → Shared → Prop) (E : Value → Shared → Prop), TopE env l → AOK A l n → SOK C env kn vs ρ φ s.heap → HOK C φ a l s.heap →
      PostS C φ env kn vs l s.heap s f ρ' a' Q → wpAny (model C.prog C.w) A (execs b env) Q E s

/-- the own objects of an iterator stand apart -/
structure Sep (C : Cfg) (kn : List (Str × NameKind)) (env : Env) (l : List Env) (Y : List Addr) : Prop where
  apart : ∀ y ∈ Y, y ∉ places kn env
  fresh : ∀ y ∈ Y, C.base.get? y = none
  out : ∀ y ∈ Y, y ∉ frs l

noncomputable def SoundF (C : Cfg) (gs : List Str) (L : Lv) (n : Nat) : Prop :=
  ∀ (tgt : Tgt) (body : List XS) (it : ItS) (ρ : Rho) (a : AS) (f : Fl) (ρ' : Rho) (a' : AS), L.f tgt body it ρ a = some (f, ρ', a') → ∀ (kn : List (Str × NameKind)) (vs : List Str) (target : Expr) (b : List Stmt), TrT vs target tgt →
    (tgtIdx tgt).all (storeOkV kn vs) = true → TrSs kn vs gs b body →
    ∀ (env : Env) (A : Around) (l : List Env) (φ₀ φ : List Addr) (h₀ : Heap) (s : Shared) (v : Addr) (Y : List Addr) (R : Result → Shared → Prop), TopE env l → AOK A l n → SOK C env kn vs ρ φ s.heap → HOK C φ a l s.heap →
      ItR C φ s.heap v it Y → Sep C kn env l Y → From C φ₀ φ (places kn env) Y (frs l) h₀ s.heap →
      PostS C φ₀ env kn vs l h₀ s f ρ' a' (fun fv s' => R (.ok fv) s') → codeAny (model C.prog C.w) A (.forLoop target (.ref v) b [] env) R s

section
variable {C : Cfg} {Γ : Globs} {gs : List Str} {L : Lv} {n : Nat}

theorem SOK.own {env : Env} {kn : List (Str × NameKind)} {vs : List Str} {ρ : Rho} {φ : List Addr} {h h' : Heap} {Y : List Addr} (S : SOK C env kn vs ρ φ h) (k : ∀ b o, b ∉ Y → h.get? b = some o → h'.get? b = some o)
    (hl : ∀ y ∈ Y, y ≠ env.locals) (hc : ∀ y ∈ Y, ∀ v, ¬ h.IsCell y v) (ht : ∀ y ∈ Y, ∀ ws, ¬ h.IsTuple y ws) : SOK C env kn vs ρ φ h' := by
  have nsY : ∀ {m}, h.Ns env.locals m → h'.Ns env.locals m := fun {m} ⟨o, es, ep, ho, hd, r⟩ => ⟨o, es, ep, k _ o (fun q => hl _ q rfl) ho, hd, r⟩
  have cY : ∀ {x v}, h.IsCell x v → h'.IsCell x v := fun {x v} ⟨o, ho, hd⟩ => ⟨o, k x o (fun q => hc x q v ⟨o, ho, hd⟩) ho, hd⟩
  have tk : TupK h h' := fun x ws ⟨o, ho, hc, m, hd⟩ => ⟨o, k x o (fun q => ht x q ws ⟨o, ho, hc, m, hd⟩) ho, hc, m, hd⟩
  refine ⟨⟨S.toE.kind, S.toE.globals, S.toE.builtins, S.toE.glob, S.toE.cell, S.toE.loc, fun i x d e1 e2 => ?_⟩, ?_, fun x c hm e => ?_, S.apart, S.freshL, S.freshC, S.vnd⟩
  · obtain ⟨v, hl, r⟩ := S.toE.vars i x d e1 e2
    refine ⟨v, ?_, r.mono tk List.prefix_rfl⟩
    rcases hl with ⟨hk, m, hn, hm⟩ | ⟨hk, c, hc, hv⟩
    · exact .inl ⟨hk, m, nsY hn, hm⟩
    · exact .inr ⟨hk, c, hc, cY hv⟩
  · obtain ⟨m, hn⟩ := S.ns; exact ⟨m, nsY hn⟩
  · obtain ⟨v, hv⟩ := S.cs x c hm e; exact ⟨v, cY hv⟩

theorem ItR.fields {φ : List Addr} {h : Heap} {v : Addr} {i : ItS} {Y : List Addr} (R : ItR C φ h v i Y) : ∀ y ∈ Y, ∃ o ws, h.get? y = some o ∧ o.data = .fields ws := by
  intro y hy
  cases R with
  | tup h1 h2 h3 => obtain ⟨o, ho, hc, hd⟩ := h1; simp at hy; subst hy; exact ⟨o, _, ho, hd⟩
  | clst h1 h2 h3 => obtain ⟨o, ho, hc, hd⟩ := h1; simp at hy; subst hy; exact ⟨o, _, ho, hd⟩
  | cell h1 h2 => obtain ⟨o, ho, hc, hd⟩ := h2; simp at hy; subst hy; exact ⟨o, _, ho, hd⟩
  | rng h1 h2 => simp at hy; subst hy; exact ⟨_, _, h2, rfl⟩
  | enum h1 h2 h3 h4 =>
    obtain ⟨o, ho, hc, hd⟩ := h4
    simp at hy
    rcases hy with rfl | rfl
    · exact ⟨_, _, h3, rfl⟩
    · exact ⟨o, _, ho, hd⟩

theorem ItR.noCell {φ : List Addr} {h : Heap} {v : Addr} {i : ItS} {Y : List Addr} (R : ItR C φ h v i Y) : ∀ y ∈ Y, ∀ w, ¬ h.IsCell y w := fun y hy w ⟨o, ho, hd⟩ => by
  obtain ⟨o', ws, ho', hd'⟩ := R.fields y hy
  rw [ho] at ho'; cases ho'; rw [hd] at hd'; cases hd'

theorem stepF_sound (IS : SoundS C gs L n) (IF : SoundF C gs L n) : SoundF C gs (Lv.up Γ L) (n + 1) := by
  intro tgt body it ρ a f ρ' a' e kn vs target b tt hst tb env A l φ₀ φ h₀ s v Y R hT hA S H I Sp Fr P
  have hA' : AOK A l n := hA.le (by omega)
  change stepF L tgt body it ρ a = some (f, ρ', a') at e
  unfold stepF at e
  have hLo : ∀ y ∈ Y, y ≠ env.locals := fun y hy q => Sp.apart y hy (mem_places.mpr (.inl q))
  refine codeAny_of_tree ?_
  show wpAny _ A ((forTurn target (.ref v) b [] env).onRaise (fun x => do noteFrame x env; theTreesLotGoes x)) _ _ s
  refine wpAny_noted ?_
  let E0 := notedBy (model C.prog C.w) A env fun e s' => R (.error e) s'
  simp only [forTurn]
  refine wpAny_bind (wpAny_standAt (wpAny_bind (wpAny_onRaise ?_)))
  split at e
  · rename_i en
    cases e
    refine next_sound (E' := E0) tt en hA'.hand H I Sp.fresh Sp.out (Q' := fun _ _ => False) (fun h' H' k => ?_) (fun d i' q => by cases q)
    refine wpAny_pure ⟨rfl, codeAny_block (wpAny_execs_nil ?_)⟩
    exact P φ h' s.toks .next trivial H' (Fr.own k).out (S.own k hLo I.noCell fun y hy => (I.facts y hy).2)
  · rename_i d it' en
    split at e
    · rename_i ρ₁ eb
      refine next_sound (E' := E0) tt en hA'.hand H I Sp.fresh Sp.out (Q' := fun u s₁ => wpAny (model C.prog C.w) A (do
          assign target env u
          match ← execs b env with
          | .next | .cont => again (.forLoop target (.ref v) b [] env)
          | .brk => pure (.done .next)
          | .ret v => pure (.done (.ret v))) (fun fin s' => match fin with | .done f => R (.ok f) s' | .again c' => c'.quiet = true ∧ codeAny (model C.prog C.w) A c' R s')
            (notedBy (model C.prog C.w) A env fun e s' => R (.error e) s') s₁) (fun u h₁ tk₁ H₁ k₁ r₁ I₁ => ?_) (fun d₁ i₁ q u s' hq => by
          exact wpAny_bind hq)
      have S₁ := S.own k₁ hLo I.noCell fun y hy => (I.facts y hy).2
      have Fr₁ := Fr.own k₁
      refine wpAny_bind (bind_sound (F := frs l) eb tt hst hA'.hand S₁ H₁ r₁ fun h₂ tk₂ H₂ A₂ S₂ => wpAny_bind ?_)
      have Fr₂ := Fr₁.step A₂ fun b hb => List.mem_append_right _ hb
      have I₂ := I₁.aft A₂ H₁ Sp.apart Sp.out
      split at e
      · rename_i ρ₂ a₂ es
        refine IS body ρ₁ a .next ρ₂ a₂ es kn vs b tb env A l φ _ _ _ hT hA' S₂ H₂ fun φ₃ h₃ tk₃ fv rf H₃ A₃ S₃ => ?_
        cases fv with
        | next =>
          exact wpAny_pure ⟨rfl, IF tgt body it' ρ₂ a₂ f ρ' a' e kn vs target b tt hst tb env A l φ₀ φ₃ h₀ _ v Y R hT hA' S₃ H₃ (I₂.aft A₃ H₂ Sp.apart Sp.out) Sp (Fr₂.step A₃ fun b hb => List.mem_append_right _ hb) P⟩
        | _ => exact rf.elim
      · rename_i x ρ₂ a₂ es
        cases e
        refine IS body ρ₁ a (.ret x) _ _ es kn vs b tb env A l φ _ _ _ hT hA' S₂ H₂ fun φ₃ h₃ tk₃ fv rf H₃ A₃ S₃ => ?_
        cases fv with
        | ret u => exact wpAny_pure (P φ₃ h₃ tk₃ (.ret u) rf H₃ (Fr₂.step A₃ fun b hb => List.mem_append_right _ hb).out S₃)
        | _ => exact rf.elim
      · cases e
    · cases e
  · cases e
end

end Mine
end

section
namespace Mine
open PySem PySem.W PyProof.Rows PySem.SeqAt

/-- a try around a call that raises -/
noncomputable def SoundTry (C : Cfg) (Γ : Globs) (gs : List Str) (L : Lv) (n : Nat) : Prop :=
  ∀ (c : X) (i : Nat) (ρ : Rho) (a a' : AS) (x : Int), getV ρ i = some (.int x) → evX Γ L c ρ a = some a' → i < ρ.length → ∀ (kn : List (Str × NameKind)) (vs : List Str) (st : Stmt), TrS kn vs gs st (.tryc c i) →
    ∀ (env : Env) (A : Around) (l : List Env) (φ : List Addr) (s : Shared) (Q : Flow → Shared → Prop) (E : Value → Shared → Prop), TopE env l → AOK A l (n + 1) → SOK C env kn vs ρ φ s.heap → HOK C φ a l s.heap →
      PostS C φ env kn vs l s.heap s .next (setV ρ i (.int (x + 1))) a' Q → wpAny (model C.prog C.w) A (exec st env) Q E s

/-- a comprehension whose list is stored at once -/
noncomputable def SoundU (C : Cfg) (gs : List Str) (L : Lv) (n : Nat) : Prop :=
  ∀ (elt : X) (tgt : Tgt) (it : It) (ifs : List X) (fr : List Nat) (ρ : Rho) (a : AS) (d : D) (a' : AS), evComp L elt tgt it ifs fr ρ a = some (d, a') →
    ∀ (kn : List (Str × NameKind)) (vs : List Str) (e : Expr), TrE kn vs gs e (.comp elt tgt it ifs fr) → ∀ (i : Nat) (x : Str) (p p' : Pos), vs[i]? = some x → kn.lookup x = some .local →
      (∃ elt g scope pos, e = .ListComp elt g scope pos ∧ p.line = pos.line ∧ scope.names.lookup x = none) →
    ∀ (env : Env) (A : Around) (l : List Env) (φ : List Addr) (s : Shared) (Q : Flow → Shared → Prop) (E : Value → Shared → Prop), AOK A l (n + 1) → SOK C env kn vs ρ φ s.heap → HOK C φ a l s.heap →
      PostS C φ env kn vs l s.heap s .next (setV ρ i d) a' Q → wpAny (model C.prog C.w) A (exec (.Assign [.Name x p] e p') env) Q E s

section
variable {C : Cfg} {Γ : Globs} {gs : List Str} {L : Lv} {n : Nat}

theorem noswap {kn : List (Str × NameKind)} {vs : List Str} {e : Expr} {y : X} (t : TrE kn vs gs e y) (h : ∀ elt tgt it ifs fr, y ≠ .comp elt tgt it ifs fr) (tg : Option Expr) (line : Nat) (env : Env) : swapsWith e tg line env = pure false := by
  cases t <;> first | rfl | exact absurd rfl (h _ _ _ _ _)

theorem noswap_sole {kn : List (Str × NameKind)} {vs : List Str} {e : Expr} {y : X} (t : TrE kn vs gs e y) (h : ∀ elt tgt it ifs fr, y ≠ .comp elt tgt it ifs fr) (tg : Expr) (line : Nat) (env : Env) : swapsWithSole [tg] e line env = pure false := noswap t h _ _ _

theorem nostores {kn : List (Str × NameKind)} {vs : List Str} {e : Expr} {y : X} (t : TrE kn vs gs e y) (h : ∀ ys, y ≠ .tup ys) (es : List Expr) (k : Nat) (p : Pos) (env : Env) : swappedStores [.Tuple es k p] e env = pure none := by
  cases t <;> first | rfl | exact absurd rfl (h _)

noncomputable def StepOk (C : Cfg) (φ : List Addr) (env : Env) (kn : List (Str × NameKind)) (vs : List Str) (l : List Env) (s : Shared) (f : Fl) (ρ' : Rho) (a' : AS) (A : Around) (E : Value → Shared → Prop) (st : Stmt) : Prop :=
  ∀ Q : Flow → Shared → Prop, PostS C φ env kn vs l s.heap s f ρ' a' Q → wpAny (model C.prog C.w) A (exec st env) Q E s

theorem step1_sound (G : GOK C Γ gs) (IE : SoundE C gs L n) (IT : SoundT C gs L n) (IS : SoundS C gs L n) (IF : SoundF C gs L n) (IU : SoundU C gs L n) (IY : SoundTry C Γ gs L n) {st : XS} {ρ ρ' : Rho} {a a' : AS} {f : Fl} (e : step1 Γ L st ρ a = some (f, ρ', a'))
    {kn : List (Str × NameKind)} {vs : List Str} {b : Stmt} (t : TrS kn vs gs b st) {env : Env} {A : Around} {l : List Env} {φ : List Addr} {s : Shared} {Q : Flow → Shared → Prop} {E : Value → Shared → Prop} (hT : TopE env l) (hA : AOK A l (n + 1)) (S : SOK C env kn vs ρ φ s.heap) (H : HOK C φ a l s.heap)
    (P : PostS C φ env kn vs l s.heap s f ρ' a' Q) : wpAny (model C.prog C.w) A (exec b env) Q E s := by
  have hA' : AOK A l n := hA.le (by omega)
  have t' := t
  cases t with
  | @assign x p i ex y p' hx hs te hc =>
    delta step1 at e
    try dsimp only at e
    split at e
    · rename_i d a₁ e1
      split at e
      · rename_i hi
        cases e
        refine wpAny_Assign_Name (IE _ ρ a _ _ e1 kn vs _ te env A l φ s _ E hA' S.toE H fun v h₁ tk₁ φ₁ H₁ A₁ r₁ => ?_) (noswap te hc _ _ _)
        exact storeN_sound (F := frs l) (s := { s with heap := h₁, toks := tk₁ }) hx hs (S.aft A₁ H) H₁ r₁ fun h₂ tk₂ H₂ A₂ S₂ => P φ₁ h₂ tk₂ .next trivial H₂ (A₁.nil.trans A₂) S₂
      · cases e
    · cases e
  | @acomp x p i ex y p' hx hk te hc =>
    cases y with
    | comp elt tgt it ifs fr =>
      delta step1 at e
      try dsimp only at e
      split at e
      · rename_i d a₁ e1
        split at e
        · rename_i hi
          cases e
          exact IU elt tgt it ifs fr ρ a _ _ e1 kn vs ex te i x p p' hx hk hc env A l φ s Q E hA S H P
        · cases e
      · cases e
    | _ => exact no_some e
  | @unpack es k p is ex y p' tt hs te h1 h2 =>
    delta step1 at e
    try dsimp only at e
    split at e
    · rename_i d a₁ e1
      simp only [Option.map_eq_some_iff, Prod.mk.injEq] at e
      obtain ⟨ρ₁, eb, rfl, rfl, rfl⟩ := e
      refine Assign_Tuple (IE _ ρ a _ _ e1 kn vs _ te env A l φ s _ E hA' S.toE H fun v h₁ tk₁ φ₁ H₁ A₁ r₁ => ?_) (noswap_sole te h2 _ _ _) (nostores te h1 _ _ _ _)
      exact bind_sound (F := frs l) (s := { s with heap := h₁, toks := tk₁ }) eb tt hs hA.hand (S.aft A₁ H) H₁ r₁ fun h₂ tk₂ H₂ A₂ S₂ => P φ₁ h₂ tk₂ .next trivial H₂ (A₁.nil.trans A₂) S₂
    · cases e
  | @aug x p i ex y p' hx hk hd te =>
    delta step1 at e
    try dsimp only at e
    split at e
    · rename_i x₀ e0
      split at e
      · rename_i y₀ a₁ e1
        split at e
        · rename_i hi
          cases e
          obtain ⟨v, hl, r⟩ := S.toE.vars i x _ hx e0
          refine wpAny_AugAssign_Name ?_
          have go : wpAny (model C.prog C.w) A (eval ex env) (fun u s₂ => wpAny (model C.prog C.w) A (inplaceOp .Add v u) (fun r s₃ => wpAny (model C.prog C.w) A (storeName env x r) (fun _ => Q .next) E s₃) E s₂) E s := by
            refine IE _ ρ a _ _ e1 kn vs _ te env A l φ s _ E hA' S.toE H fun u h₁ tk₁ φ₁ H₁ A₁ r₁ => ?_
            have r' := r.mono A₁.tup A₁.ext
            cases r' with
            | int _ t1 =>
              cases r₁ with
              | int _ t2 =>
                refine iadd_int ?_
                refine storeN_sound (F := frs l) (s := { s with heap := h₁, toks := tk₁ + 1 }) hx ?_ (S.aft A₁ H) H₁ (.int _ _) fun h₂ tk₂ H₂ A₂ S₂ => P φ₁ h₂ tk₂ .next trivial H₂ (A₁.nil.trans A₂) S₂
                unfold storeOkV; rw [hx]; simp [hk]
          rcases hl with ⟨k, m, hn, hm⟩ | ⟨k, c, hc, hv⟩
          · exact wpAny_loadName_local S.toE.kind k hn hm go
          · exact wpAny_loadName_cell S.toE.kind k hc hv go
        · cases e
      · cases e
    · cases e
  | ite te tb to =>
    delta step1 at e
    try dsimp only at e
    split at e
    · rename_i a₁ e1
      exact wpAny_If (IT _ ρ a true a₁ (evT_some e1) kn vs _ te env A l φ s _ E hA' S.toE H fun h₁ tk₁ φ₁ H₁ A₁ =>
        IS _ ρ a₁ f ρ' a' e kn vs _ tb env A l φ₁ _ Q E hT hA' (S.aft A₁ H) H₁ (P.step A₁.nil))
    · rename_i a₁ e1
      exact wpAny_If (IT _ ρ a false a₁ (evT_some e1) kn vs _ te env A l φ s _ E hA' S.toE H fun h₁ tk₁ φ₁ H₁ A₁ =>
        IS _ ρ a₁ f ρ' a' e kn vs _ to env A l φ₁ _ Q E hT hA' (S.aft A₁ H) H₁ (P.step A₁.nil))
    · cases e
  | @for_ target tgt iter it b y p tt hst ti tb =>
    delta step1 at e
    try dsimp only at e
    split at e
    · rename_i i a₁ e1
      refine wpAny_For (it_sound G IE e1 ti hA' S.toE H fun ad Y h₁ tk₁ φ₁ H₁ A₁ I₁ hd => ?_) (fun x => ?_)
      · have hpl : ∀ y ∈ places kn env, (s.heap.get? y).isSome := fun y hy => by
          rcases mem_places.mp hy with rfl | ⟨x, hm, hc⟩
          · obtain ⟨m, o, _, _, ho, _⟩ := S.ns; rw [ho]; rfl
          · obtain ⟨v, o, ho, _⟩ := S.cs x y hm hc; rw [ho]; rfl
        have hfr : ∀ y ∈ frs l, (s.heap.get? y).isSome := fun y hy => by
          obtain ⟨_, o, ho, _⟩ := H.frames.mem hy; rw [ho]; rfl
        refine IF tgt y i ρ a₁ f ρ' a' e kn vs target b tt hst tb env A l φ φ₁ s.heap _ ad Y _ hT hA' (S.aft A₁ H) H₁ I₁ ⟨fun y hy q => ?_, fun y hy => ?_, fun y hy q => ?_⟩ ⟨A₁.nil, hd⟩ (fun φ' h' tk fv r H' A' S' => P φ' h' tk fv r H' A' S')
        · have := hpl y q; rw [hd y hy] at this; cases this
        · cases q : C.base.get? y with
          | none => rfl
          | some o => have := H.stays y o q; rw [hd y hy] at this; cases this
        · have := hfr y q; rw [hd y hy] at this; cases this
      · cases ti with
        | of _ hs => cases iter <;> first | rfl | cases hs
        | rng => rfl
        | enum => rfl
    · cases e
  | ret te =>
    delta step1 at e
    simp only [Option.map_eq_some_iff, Prod.mk.injEq] at e
    obtain ⟨⟨d, a₁⟩, e1, rfl, rfl, rfl⟩ := e
    exact wpAny_Return_some (IE _ ρ a _ _ e1 kn vs _ te env A l φ s _ E hA' S.toE H fun v h₁ tk₁ φ₁ H₁ A₁ r₁ => P φ₁ h₁ tk₁ (.ret v) r₁ H₁ A₁.nil (S.aft A₁ H))
  | @append v p ap i ex y p' p'' hx hd te hs hl =>
    delta step1 at e
    try dsimp only at e
    split at e
    · rename_i m e0
      split at e
      · rename_i d a₁ e1
        split at e
        · rename_i xs hxs
          split at e
          · rename_i hle
            cases e
            refine wpAny_Expr (Call_method1 rfl (by rw [starEach_cons hs]; rfl) hl (var_sound e0 hx hd S.toE fun u ru => ?_)) ?_ rfl
            · cases ru with
              | @lst ad _ q =>
                have hm : m < a.σ.length := by rw [← H.len]; exact (List.getElem?_eq_some_iff.mp q).1
                obtain ⟨ad', ws, q', hL, rl⟩ := H.cells m _ (List.getElem?_eq_getElem hm)
                rw [q] at q'; cases q'
                refine ⟨"list", "list.append", F.plainAttrs_list, F.slot_list_append, F.type_list_append, hL.typeIs, (fun b q' => by cases q'; obtain ⟨_, _, ho⟩ := H.plain _ (List.mem_of_getElem? q); exact ⟨_, ho, rfl⟩), callWith_b1 ?_⟩
                refine IE _ ρ a _ _ e1 kn vs _ te env A l φ s _ E hA' S.toE H fun w h₁ tk₁ φ₁ H₁ A₁ r₁ => ?_
                obtain ⟨ad', ws', q'', hL₁, rl₁⟩ := H₁.cells m xs hxs
                rw [get_ext A₁.ext q] at q''; cases q''
                have hP₁ : h₁.PlainList ad ws' := by
                  obtain ⟨ws₀, n₀, ho⟩ := H₁.plain _ (List.mem_of_getElem? (get_ext A₁.ext q))
                  obtain ⟨o, ho', _, n₁, hd⟩ := hL₁
                  rw [ho] at ho'; cases ho'; cases hd
                  exact ⟨_, ho⟩
                refine wpAny_list_append_plain hP₁ (fun h₂ hP₂ hs₂ => ?_) (by have h1 := rl₁.length; have h2 := line_big; rw [Array.length_toList] at h1; omega)
                have hL₂ := hP₂.isList
                have q₁ := get_ext A₁.ext q
                have A₂ : Aft C φ₁ φ₁ (places kn env) (frs l) h₁ h₂ := Aft.setCell (a := a₁) (l := l) q₁ hs₂ hL₁ hL₂
                have H₂ := H₁.setCell (xs' := xs ++ [d]) q₁ hs₂ hL₁ hP₂ (by
                  rw [Array.toList_push]
                  exact (rl₁.mono A₂.tup A₂.ext).append (.cons (r₁.mono A₂.tup A₂.ext) .nil))
                have A₃ : Aft C φ₁ φ₁ [] (frs l) h₁ h₂ := Aft.setCell (a := a₁) (l := l) q₁ hs₂ hL₁ hL₂
                exact P φ₁ h₂ tk₁ .next trivial H₂ (A₁.nil.trans A₂) ((S.aft A₁ H).aft A₃ H₁)
            · unfold interactive; rw [S.toE.kind]; rfl
          · cases e
        · cases e
      · cases e
    · cases e
  | raise_ => exact no_some e
  | tryc te hk hf hx hk' hd =>
    delta step1 at e
    try dsimp only at e
    split at e
    · rename_i x₀ e0
      split at e
      · rename_i a₁ e1
        split at e
        · rename_i hi
          cases e
          exact IY _ _ ρ a _ x₀ e0 e1 hi kn vs _ t' env A l φ s Q E hT hA S H P
        · cases e
      · cases e
    · cases e

theorem stepS_sound (G : GOK C Γ gs) (IE : SoundE C gs L n) (IT : SoundT C gs L n) (IS : SoundS C gs L n) (IF : SoundF C gs L n) (IU : SoundU C gs L n) (IY : SoundTry C Γ gs L n) : SoundS C gs (Lv.up Γ L) (n + 1) := by
  intro ss ρ a f ρ' a' e kn vs b t env A l φ s Q E hT hA S H P
  have hA' : AOK A l n := hA.le (by omega)
  change stepS Γ L ss ρ a = some (f, ρ', a') at e
  cases t with
  | nil =>
    simp only [stepS, Option.some.injEq, Prod.mk.injEq] at e
    obtain ⟨rfl, rfl, rfl⟩ := e
    exact wpAny_execs_nil (P φ s.heap s.toks .next trivial H (Aft.refl _) S)
  | cons t ts =>
    simp only [stepS] at e
    refine wpAny_execs_cons ?_
    split at e
    · rename_i ρ₁ a₁ e1
      refine step1_sound G IE IT IS IF IU IY e1 t hT hA S H fun φ₁ h₁ tk₁ fv rf H₁ A₁ S₁ => ?_
      cases fv with
      | next => exact IS _ ρ₁ a₁ f ρ' a' e kn vs _ ts env A l φ₁ _ Q E hT hA' S₁ H₁ (P.step A₁)
      | _ => exact rf.elim
    · rename_i d ρ₁ a₁ e1
      cases e
      refine step1_sound G IE IT IS IF IU IY e1 t hT hA S H fun φ₁ h₁ tk₁ fv rf H₁ A₁ S₁ => ?_
      cases fv with
      | ret v => exact P φ₁ h₁ tk₁ (.ret v) rf H₁ A₁ S₁
      | _ => exact rf.elim
    · cases e
end

end Mine
end

section
namespace Mine
open PySem PySem.W PyProof.Rows PySem.SeqAt

theorem lookup_relabel {env : Env} {k : NameKind} (hk : k ≠ .free) : ∀ {names : List (Str × NameKind)} {x : Str}, names.lookup x = some k →
    (names.map fun (n, k) => if (k == NameKind.free && env.scope.kind == .function && env.kindOf n == some .cell) then (n, NameKind.cell) else (n, k)).lookup x = some k
  | [], _, h => by simp at h
  | (n, k') :: r, x, h => by
    have ih := @lookup_relabel env k hk r x
    show List.lookup x ((if (k' == NameKind.free && env.scope.kind == .function && env.kindOf n == some .cell) = true then (n, NameKind.cell) else (n, k')) :: _) = _
    cases hx : x == n with
    | true =>
      simp only [List.lookup_cons, hx] at h
      cases h
      have : (k == NameKind.free) = false := by simpa using hk
      simp [List.lookup_cons, hx, this]
    | false =>
      simp only [List.lookup_cons, hx] at h
      by_cases hc : (k' == NameKind.free && env.scope.kind == .function && env.kindOf n == some .cell) = true
      · rw [if_pos hc]; simp only [List.lookup_cons, hx]; exact ih h
      · rw [if_neg hc]; simp only [List.lookup_cons, hx]; exact ih h

theorem lookup_relabel_free {env : Env} (hf : env.scope.kind = .function) : ∀ {names : List (Str × NameKind)} {x : Str}, names.lookup x = some .free → env.kindOf x = some .cell →
    (names.map fun (n, k) => if (k == NameKind.free && env.scope.kind == .function && env.kindOf n == some .cell) then (n, NameKind.cell) else (n, k)).lookup x = some .cell
  | [], _, h, _ => by simp at h
  | (n, k') :: r, x, h, hc => by
    have ih := @lookup_relabel_free env hf r x
    show List.lookup x ((if (k' == NameKind.free && env.scope.kind == .function && env.kindOf n == some .cell) = true then (n, NameKind.cell) else (n, k')) :: _) = _
    cases hx : x == n with
    | true =>
      simp only [List.lookup_cons, hx] at h
      cases h
      have hn : x = n := by simpa using hx
      subst hn
      simp [hf, hc]
    | false =>
      simp only [List.lookup_cons, hx] at h
      by_cases hc' : (k' == NameKind.free && env.scope.kind == .function && env.kindOf n == some .cell) = true
      · rw [if_pos hc']; simp only [List.lookup_cons, hx]; exact ih h hc
      · rw [if_neg hc']; simp only [List.lookup_cons, hx]; exact ih h hc

theorem closure_go {env : Env} : ∀ {names : List (Str × NameKind)} (acc : List (Str × Addr)), (∀ y ∈ names, y.2 = .free → ∃ c, env.cells.lookup y.1 = some c) →
    ∃ cl, (forIn names acc (fun (p : Str × NameKind) (cs : List (Str × Addr)) => (match p with
      | (name, kind) => if (kind == NameKind.free) = true then do let a ← cellOf env name; pure (ForInStep.yield ((name, a) :: cs)) else pure (ForInStep.yield cs) : Sem (ForInStep (List (Str × Addr)))))) = (pure cl : Sem _) ∧
      (∀ p ∈ cl, p ∈ acc ∨ env.cells.lookup p.1 = some p.2) ∧ (∀ p ∈ acc, p ∈ cl) ∧ ∀ y ∈ names, y.2 = .free → ∃ c, (y.1, c) ∈ cl
  | [], acc, _ => ⟨acc, rfl, fun _ h => .inl h, fun _ h => h, fun _ h => by cases h⟩
  | (n, k) :: r, acc, h => by
    by_cases hk : k = .free
    · subst hk
      obtain ⟨c, hc⟩ := h _ (.head _) rfl
      obtain ⟨cl, h1, h2, h3, h4⟩ := closure_go (env := env) ((n, c) :: acc) fun y hy => h y (.tail _ hy)
      refine ⟨cl, ?_, fun p hp => ?_, fun p hp => h3 p (.tail _ hp), fun y hy hf => ?_⟩
      · rw [List.forIn_cons]
        simp only [show (NameKind.free == NameKind.free) = true from rfl, if_true, show cellOf env n = (pure c : Sem Addr) by unfold cellOf; rw [hc]]
        exact h1
      · rcases h2 p hp with q | q
        · rcases List.mem_cons.mp q with rfl | q
          · exact .inr hc
          · exact .inl q
        · exact .inr q
      · rcases List.mem_cons.mp hy with rfl | hy
        · exact ⟨c, h3 _ (.head _)⟩
        · exact h4 y hy hf
    · obtain ⟨cl, h1, h2, h3, h4⟩ := closure_go (env := env) acc fun y hy => h y (.tail _ hy)
      refine ⟨cl, ?_, h2, h3, fun y hy hf => ?_⟩
      · rw [List.forIn_cons]
        have : (k == NameKind.free) = false := by simpa using hk
        simp only [this, Bool.false_eq_true, if_false]
        exact h1
      · rcases List.mem_cons.mp hy with rfl | hy
        · exact absurd hf hk
        · exact h4 y hy hf

theorem closure_of {env : Env} {scope : Scope} (h : ∀ y ∈ scope.names, y.2 = .free → ∃ c, env.cells.lookup y.1 = some c) : ∃ cl, closureFor scope env = pure cl ∧ (∀ p ∈ cl, env.cells.lookup p.1 = some p.2) ∧ ∀ x, scope.names.lookup x = some .free → ∃ c, cl.lookup x = some c ∧ env.cells.lookup x = some c := by
  obtain ⟨cl, h1, h2, h3, h4⟩ := closure_go (env := env) [] h
  refine ⟨cl, ?_, fun p hp => ?_, fun x hx => ?_⟩
  · simp only [closureFor]
    rw [h1]; rfl
  · rcases h2 p hp with q | q
    · cases q
    · exact q
  · obtain ⟨c, hc⟩ := h4 (x, .free) (mem_of_lookup hx) rfl
    have : ∃ c', cl.lookup x = some c' := by
      cases q : cl.lookup x with
      | some c' => exact ⟨c', rfl⟩
      | none =>
        have := List.lookup_eq_none_iff.mp q _ hc
        simp at this
    obtain ⟨c', hc'⟩ := this
    refine ⟨c', hc', ?_⟩
    rcases h2 _ (mem_of_lookup hc') with q | q
    · cases q
    · exact q

end Mine
end

section
namespace Mine
open PySem PySem.W PyProof.Rows PySem.SeqAt

noncomputable def SoundG (C : Cfg) (gs : List Str) (L : Lv) (n : Nat) : Prop :=
  ∀ (elt : X) (tgt : Tgt) (ifs : List X) (it : ItS) (acc : Nat) (ρ : Rho) (a a' : AS), L.g elt tgt ifs it acc ρ a = some a' → ∀ (kn : List (Str × NameKind)) (vs : List Str) (target iter ee : Expr) (es : List Expr) (scope : Scope) (pos : Pos), TrT vs target tgt →
    (tgtIdx tgt).all (storeOkV kn vs) = true → TrE kn vs gs ee elt → TrEs kn vs gs es ifs → (∀ x, (x, NameKind.cell) ∉ kn) →
    ∀ (env : Env) (A : Around) (l : List Env) (φ₀ φ : List Addr) (h₀ : Heap) (s : Shared) (v D : Addr) (Y : List Addr) (R : Result → Shared → Prop), AOK A l n → SOK C env kn vs ρ φ s.heap → HOK C φ a l s.heap →
      ItR C φ s.heap v it Y → Sep C kn env l Y → From C φ₀ φ [] (env.locals :: Y) (frs l) h₀ s.heap → φ[acc]? = some D →
      (∀ φ' h' tk, HOK C φ' a' l h' → Aft C φ₀ φ' [] (frs l) h₀ h' → (∃ m, h'.Ns env.locals m) → φ'[acc]? = some D → R (.ok .next) { s with heap := h', toks := tk }) →
      codeAny (model C.prog C.w) A (.compLoop (.ListComp ee [⟨target, iter, es, 0⟩] scope pos) 0 (.ref v) (.ref D) env) R s

section
variable {C : Cfg} {Γ : Globs} {gs : List Str} {L : Lv} {n : Nat}

theorem ifs_false {env : Env} {A : Around} {s : Shared} {Q : Bool → Shared → Prop} {E : Value → Shared → Prop} (h : Q false s) : ∀ es : List Expr,
    wpAny (model C.prog C.w) A (forIn es false fun c r => if r = true then do let ok ← isTrue c env (eval c env); pure (ForInStep.yield ok) else pure (ForInStep.yield r)) Q E s
  | [] => wpAny_pure h
  | e :: es => by
    rw [List.forIn_cons]
    simp only [Bool.false_eq_true, if_false]
    exact wpAny_bind (wpAny_pure (ifs_false h es))

theorem ifs_sound (IT : SoundT C gs L n) : ∀ (xs : List X) (ρ : Rho) (a : AS) (b : Bool) (a' : AS), evIfs L ρ xs a = some (b, a') → ∀ (kn : List (Str × NameKind)) (vs : List Str) (es : List Expr), TrEs kn vs gs es xs →
    ∀ (env : Env) (A : Around) (l : List Env) (φ : List Addr) (s : Shared) (Q : Bool → Shared → Prop) (E : Value → Shared → Prop), AOK A l n → EOK C env kn vs ρ φ s.heap → HOK C φ a l s.heap →
      PostB C φ l s a' (Q b) → wpAny (model C.prog C.w) A (forIn es true fun c r => if r = true then do let ok ← isTrue c env (eval c env); pure (ForInStep.yield ok) else pure (ForInStep.yield r)) Q E s := by
  intro xs
  induction xs with
  | nil =>
    intro ρ a b a' e kn vs es T env A l φ s Q E hA hE H P
    cases T
    simp only [evIfs, Option.some.injEq, Prod.mk.injEq] at e
    obtain ⟨rfl, rfl⟩ := e
    exact wpAny_pure (P s.heap s.toks φ H (Aft.refl _))
  | cons x r ih =>
    intro ρ a b a' e kn vs es T env A l φ s Q E hA hE H P
    cases T with
    | cons t hs0 ts =>
      rename_i e0 es
      simp only [evIfs] at e
      rw [List.forIn_cons]
      simp only [if_true]
      split at e
      · rename_i a₁ e1
        refine wpAny_bind (wpAny_bind (IT x ρ a true a₁ (evT_some e1) kn vs _ t env A l φ s _ E hA hE H fun h₁ tk₁ φ₁ H₁ A₁ => wpAny_pure ?_))
        exact ih ρ a₁ b a' e kn vs es ts env A l φ₁ _ Q E hA (hE.aft A₁ H) H₁ (P.step A₁)
      · rename_i a₁ e1
        cases e
        exact wpAny_bind (wpAny_bind (IT x ρ a false _ (evT_some e1) kn vs _ t env A l φ s _ E hA hE H fun h₁ tk₁ φ₁ H₁ A₁ => wpAny_pure (ifs_false (P h₁ tk₁ φ₁ H₁ A₁) es)))
      · cases e

theorem stepG_sound (IE : SoundE C gs L n) (IT : SoundT C gs L n) (IG : SoundG C gs L n) : SoundG C gs (Lv.up Γ L) (n + 1) := by
  intro elt tgt ifs it acc ρ a a' e kn vs target iter ee es scope pos tt hst te ts hnc env A l φ₀ φ h₀ s v D Y R hA S H I Sp Fr hD P
  have hA' : AOK A l n := hA.le (by omega)
  change stepG L elt tgt ifs it acc ρ a = some a' at e
  unfold stepG at e
  have hLo : ∀ y ∈ Y, y ≠ env.locals := fun y hy q => Sp.apart y hy (mem_places.mpr (.inl q))
  have hpl : ∀ b ∈ places kn env, b ∈ (env.locals :: Y) ++ [] := fun b hb => by
    rcases mem_places.mp hb with rfl | ⟨x, hm, _⟩
    · simp
    · exact absurd hm (hnc x)
  have ownk : ∀ {h h' : Heap}, (∀ b o, b ∉ Y → h.get? b = some o → h'.get? b = some o) → ∀ b o, b ∉ env.locals :: Y → h.get? b = some o → h'.get? b = some o := fun k b o hb => k b o fun q => hb (.tail _ q)
  refine codeAny_of_tree ?_
  show wpAny _ A ((compTurn (.ListComp ee [⟨target, iter, es, 0⟩] scope pos) 0 (.ref v) (.ref D) env).onRaise (fun x => do noteFrame x env; theTreesLotGoes x)) _ _ s
  refine wpAny_noted ?_
  let E0 := notedBy (model C.prog C.w) A env fun e s' => R (.error e) s'
  rw [compTurn_list]
  refine wpAny_bind (wpAny_standAt (wpAny_bind ?_))
  split at e
  · rename_i en
    cases e
    refine next_sound (E' := E0) tt en hA'.hand H I Sp.fresh Sp.out (Q' := fun _ _ => False) (fun h' H' k => ?_) (fun d i' q => by cases q)
    have S' := S.own k hLo I.noCell fun y hy => (I.facts y hy).2
    exact wpAny_pure (P φ h' s.toks H' (Fr.own (ownk k)).out S'.ns hD)
  · rename_i d it' en
    split at e
    · rename_i ρ₁ eb
      refine next_sound (E' := E0) tt en hA'.hand H I Sp.fresh Sp.out (Q' := fun u s₁ => wpAny (model C.prog C.w) A (do
          assign target env u
          let mut ok := true
          for c in es do
            if ok then ok ← isTrue c env (eval c env)
          if ok then
            (do let _ ← call (.builtin "list.append") [.ref D, ← eval ee env])
          again (.compLoop (.ListComp ee [⟨target, iter, es, 0⟩] scope pos) 0 (.ref v) (.ref D) env)) (fun fin s' => match fin with | .done f => R (.ok f) s' | .again c' => c'.quiet = true ∧ codeAny (model C.prog C.w) A c' R s')
            (notedBy (model C.prog C.w) A env fun e s' => R (.error e) s') s₁) (fun u h₁ tk₁ H₁ k₁ r₁ I₁ => ?_) (fun d₁ i₁ q u s' hq => by
          exact wpAny_bind hq)
      have S₁ := S.own k₁ hLo I.noCell fun y hy => (I.facts y hy).2
      have Fr₁ := Fr.own (ownk k₁)
      refine wpAny_bind (bind_sound (F := frs l) eb tt hst hA'.hand S₁ H₁ r₁ fun h₂ tk₂ H₂ A₂ S₂ => wpAny_bind ?_)
      have Fr₂ := Fr₁.step A₂ hpl
      have I₂ := I₁.aft A₂ H₁ Sp.apart Sp.out
      split at e
      · rename_i a₁ ei
        refine ifs_sound IT ifs ρ₁ a true a₁ ei kn vs es ts env A l φ _ _ _ hA' S₂.toE H₂ fun h₃ tk₃ φ₃ H₃ A₃ => ?_
        have S₃ := S₂.aft A₃ H₂
        have Fr₃ := Fr₂.step A₃ fun b hb => by cases hb
        have I₃ := I₂.aft A₃ H₂ (fun _ _ h => by cases h) Sp.out
        split at e
        · rename_i x a₂ ex
          refine wpAny_bind (wpAny_bind (IE elt ρ₁ a₁ _ _ ex kn vs ee te env A l φ₃ _ _ _ hA' S₃.toE H₃ fun w h₄ tk₄ φ₄ H₄ A₄ r₄ => wpAny_bind ?_))
          have S₄ := S₃.aft A₄ H₃
          have Fr₄ := Fr₃.step A₄ fun b hb => by cases hb
          have I₄ := I₃.aft A₄ H₃ (fun _ _ h => by cases h) Sp.out
          have hD₄ : φ₄[acc]? = some D := get_ext A₄.ext (get_ext A₃.ext hD)
          split at e
          · rename_i xs hxs
            split at e
            · rename_i hle
              obtain ⟨ad', ws', q'', hL₁, rl₁⟩ := H₄.cells acc xs hxs
              rw [hD₄] at q''; cases q''
              have hP₁ : h₄.PlainList D ws' := by
                obtain ⟨ws₀, n₀, ho⟩ := H₄.plain _ (List.mem_of_getElem? hD₄)
                obtain ⟨o, ho', _, n₁, hd⟩ := hL₁
                rw [ho] at ho'; cases ho'; cases hd
                exact ⟨_, ho⟩
              refine wpAny_list_append_plain hP₁ (fun h₅ hP₅ hs₅ => wpAny_pure ?_) (by have h1 := rl₁.length; have h2 := line_big; rw [Array.length_toList] at h1; omega)
              have A₅ : Aft C φ₄ φ₄ [] (frs l) h₄ h₅ := Aft.setCell (a := a₂) (l := l) hD₄ hs₅ hL₁ hP₅.isList
              have H₅ := H₄.setCell (xs' := xs ++ [x]) hD₄ hs₅ hL₁ hP₅ (by
                rw [Array.toList_push]
                exact (rl₁.mono A₅.tup A₅.ext).append (.cons (r₄.mono A₅.tup A₅.ext) .nil))
              exact wpAny_pure ⟨rfl, IG elt tgt ifs it' acc ρ₁ _ a' e kn vs target iter ee es scope pos tt hst te ts hnc env A l φ₀ φ₄ h₀ _ v D Y R hA' (S₄.aft A₅ H₄) H₅ (I₄.aft A₅ H₄ (fun _ _ h => by cases h) Sp.out) Sp
                (Fr₄.step A₅ fun b hb => by cases hb) hD₄ P⟩
            · cases e
          · cases e
        · cases e
      · rename_i a₁ ei
        refine ifs_sound IT ifs ρ₁ a false a₁ ei kn vs es ts env A l φ _ _ _ hA' S₂.toE H₂ fun h₃ tk₃ φ₃ H₃ A₃ => ?_
        have S₃ := S₂.aft A₃ H₂
        have Fr₃ := Fr₂.step A₃ fun b hb => by cases hb
        have I₃ := I₂.aft A₃ H₂ (fun _ _ h => by cases h) Sp.out
        exact wpAny_pure ⟨rfl, IG elt tgt ifs it' acc ρ₁ _ a' e kn vs target iter ee es scope pos tt hst te ts hnc env A l φ₀ φ₃ h₀ _ v D Y R hA' S₃ H₃ I₃ Sp Fr₃ (get_ext A₃.ext hD) P⟩
      · cases e
    · cases e
  · cases e
end

end Mine
end

section
namespace Mine
open PySem PySem.W PyProof.Rows PySem.SeqAt

theorem keep_get {fr : List Nat} : ∀ {ρ : Rho} {k i : Nat} {d : D}, getV (keepOnly.go fr k ρ) i = some d → (k + i) ∈ fr ∧ getV ρ i = some d
  | [], k, i, d, h => by simp [keepOnly.go, getV] at h
  | x :: r, k, 0, d, h => by
    simp only [keepOnly.go] at h
    by_cases q : fr.contains k = true
    · rw [if_pos q] at h
      exact ⟨by simpa using q, h⟩
    · rw [if_neg q] at h
      simp [getV] at h
  | x :: r, k, i + 1, d, h => by
    have := @keep_get fr r (k + 1) i d (by simpa [keepOnly.go, getV] using h)
    refine ⟨?_, by simpa [getV] using this.2⟩
    have e : k + (i + 1) = k + 1 + i := by omega
    rw [e]; exact this.1

section
variable {C : Cfg} {Γ : Globs} {gs : List Str} {L : Lv} {n : Nat}

theorem iter_self {φ : List Addr} {s : Shared} {v : Addr} {i : ItS} {Y : List Addr} {A : Around} {Q : Value → Shared → Prop} {E : Value → Shared → Prop} (R : ItR C φ s.heap v i Y) (h : Q (.ref v) s) : wpAny (model C.prog C.w) A (pyIter (.ref v)) Q E s := by
  cases R with
  | tup h1 => exact wpAny_pyIter_tupleiter h1 h
  | clst h1 => exact wpAny_pyIter_listiter h1 h
  | cell _ h1 => exact wpAny_pyIter_listiter h1 h
  | rng _ h1 => exact wpAny_pyIter_rangeiter h1 h
  | enum _ _ h1 => exact wpAny_pyIter_enum h1 h

theorem comp_core (G : GOK C Γ gs) (IE : SoundE C gs L n) (IG : SoundG C gs L n) {elt : X} {tgt : Tgt} {it : It} {ifs : List X} {fr : List Nat} {ρ : Rho} {a a' : AS} {d : D} (e : evComp L elt tgt it ifs fr ρ a = some (d, a'))
    {kn : List (Str × NameKind)} {vs : List Str} {ee target iter : Expr} {es : List Expr} {scope : Scope} {pos : Pos} (hok : compOk kn scope vs (tgtIdx tgt) fr = true) (ti : TrI kn vs gs iter it) (tt : TrT vs target tgt) (te : TrE scope.names vs gs ee elt) (ts : TrEs scope.names vs gs es ifs)
    {env : Env} {A : Around} {l : List Env} {φ : List Addr} {s : Shared} {use : Option (Value → Sem Unit)} {Q : Value → Shared → Prop} {E : Value → Shared → Prop} {hpos : Pos} (hA : AOK A l (n + 1)) (hE : EOK C env kn vs ρ φ s.heap) (H : HOK C φ a l s.heap)
    (P : ∀ D C₀ φ' h' tk, HOK C φ' a' l h' → Aft C φ φ' [] (frs l) s.heap h' → (∃ m, h'.Ns C₀ m) → s.heap.get? C₀ = none → Rd C φ' h' (.ref D) d → compPost (model C.prog C.w) A E use Q (.ref D) C₀ (.ok .next) { s with heap := h', toks := tk }) :
    wpAny (model C.prog C.w) A (comprehension (.ListComp ee [⟨target, iter, es, 0⟩] scope pos) scope env hpos (newList []) false (eval iter env) use) Q E s := by
  have hA' : AOK A l n := hA.le (by omega)
  unfold compOk at hok
  simp only [Bool.and_eq_true, decide_eq_true_eq, List.all_eq_true, Bool.or_eq_true] at hok
  obtain ⟨⟨⟨⟨hkind, hnd⟩, hnm⟩, htg⟩, hfr⟩ := hok
  have hcellf : ∀ y ∈ scope.names, y.2 ≠ .cell := fun y hy => (hnm y hy).1.1
  have hnc : ∀ x, (x, NameKind.cell) ∉ scope.names := fun x hx => hcellf _ hx rfl
  have hfree : ∀ y ∈ scope.names, y.2 = .free → kn.lookup y.1 = some .cell := fun y hy hf => by
    rcases (hnm y hy).2 with q | q
    · exact absurd hf q
    · exact q
  obtain ⟨cl, hclos, hcl, hclf⟩ := closure_of (env := env) (scope := scope) fun y hy hf => (hE.cell _ (hfree y hy hf)).2
  unfold evComp at e
  split at e
  · rename_i i a₁ e1
    split at e
    · rename_i a₂ e2
      cases e
      refine wpAny_comprehension_free (use := use) rfl (fun x => ?_) hclos hkind (fun x hx hl => ?_) ?_
      · cases ti with
        | of _ hs => cases iter <;> first | rfl | cases hs
        | rng => rfl
        | enum => rfl
      · rcases (hnm x hx).1.2 with q | q
        · exact absurd hl q
        · exact q
      refine it_sound G IE e1 ti hA' hE H fun ad Y h₁ tk₁ φ₁ H₁ A₁ I₁ hd => ?_
      refine wpAny_newObj_type (hd := by size_fits) (wpAny_newFunctionEnv hcellf (by intro y hy; simp at hy) (fun h₃ hns₃ hsb₃ => ?_) hkind)
      dsimp only at hns₃ hsb₃ ⊢
      have k₂ := push_keeps h₁ { cls := .type "list", dict := none, data := .seq ([] : List Value).toArray }
      have hpl := plain_push h₁ ([] : List Value).toArray
      generalize hH2 : h₁.push { cls := .type "list", dict := none, data := .seq ([] : List Value).toArray } = H2 at hns₃ hsb₃ k₂ hpl ⊢
      have k₃ : ∀ b o, H2.get? b = some o → h₃.get? b = some o := fun b o e => hsb₃.extBut b o (Nat.ne_of_lt (Heap.lt_size e)) (Heap.get?_push_of_some _ e)
      have H₂ : HOK C (φ₁ ++ [h₁.objs.size]) { a₁ with σ := a₁.σ ++ [[]] } l H2 := H₁.newCell k₂ (get_size_none _) hpl .nil
      have H₃ := H₂.keeps k₃
      have hD : (φ₁ ++ [h₁.objs.size])[a₁.σ.length]? = some h₁.objs.size := by rw [← H₁.len]; simp
      have A₂ : Aft C φ₁ (φ₁ ++ [h₁.objs.size]) [] (frs l) h₁ H2 := Aft.newCell k₂ (get_size_none _)
      have A₂' : Aft C φ₁ (φ₁ ++ [h₁.objs.size]) [] [] h₁ H2 := Aft.newCell k₂ (get_size_none _)
      have A₃ : Aft C (φ₁ ++ [h₁.objs.size]) (φ₁ ++ [h₁.objs.size]) [] (frs l) H2 h₃ := Aft.of_keeps k₃
      have A₃' : Aft C (φ₁ ++ [h₁.objs.size]) (φ₁ ++ [h₁.objs.size]) [] [] H2 h₃ := Aft.of_keeps k₃
      have AA := (A₁.trans A₂).trans A₃
      have I₃ := I₁.aft (A₂'.trans A₃') H₁ (fun _ _ h => by cases h) (fun _ _ h => by cases h)
      have deadC : H2.get? H2.objs.size = none := get_size_none _
      have deadS : s.heap.get? H2.objs.size = none := (A₁.trans A₂).dead deadC
      have S₃ : SOK C (compEnvC scope cl H2.objs.size env) scope.names vs (keepOnly ρ fr) (φ₁ ++ [h₁.objs.size]) h₃ := by
        refine ⟨⟨hkind, hE.globals, hE.builtins, fun x hx => lookup_relabel (by decide) hx, fun x hx => absurd (mem_of_lookup hx) (hnc x), fun x hx => lookup_relabel (by decide) hx, fun j x d e1 e2 => ?_⟩, ⟨_, hns₃⟩,
          fun x c hx => absurd hx (hnc x), fun x y c hx => absurd hx (hnc x), ?_, fun x c hx => absurd hx (hnc x), hnd⟩
        · obtain ⟨hj, e2'⟩ := keep_get e2
          rw [Nat.zero_add] at hj
          have hf := hfr j hj
          rw [e1] at hf
          simp only [decide_eq_true_eq] at hf
          have hk := hfree _ (mem_of_lookup hf) rfl
          have hkc := (hE.cell x hk).1
          obtain ⟨v, hl, r⟩ := hE.vars j x d e1 e2'
          refine ⟨v, ?_, r.mono AA.tup AA.ext⟩
          rcases hl with ⟨q, _⟩ | ⟨_, c, hc, hv⟩
          · rw [hkc] at q; cases q
          · obtain ⟨c', h1, h2⟩ := hclf x hf
            rw [hc] at h2; cases h2
            exact .inr ⟨lookup_relabel_free hE.kind hf hkc, c, h1, AA.cell H (by simp) hv⟩
        · cases q : C.base.get? H2.objs.size with
          | none => exact q
          | some o => have := H₂.stays _ o q; rw [deadC] at this; cases this
      have hYal : ∀ y ∈ Y, y ≠ H2.objs.size := fun y hy q => by
        obtain ⟨o, _, ho, _⟩ := I₁.fields y hy
        rw [q] at ho
        rw [A₂.dead deadC] at ho; cases ho
      have Sp : Sep C scope.names (compEnvC scope cl H2.objs.size env) l Y := by
        refine ⟨fun y hy q => ?_, fun y hy => ?_, fun y hy q => ?_⟩
        · rcases mem_places.mp q with q | ⟨x, hm, _⟩
          · exact hYal y hy q
          · exact hnc x hm
        · cases q : C.base.get? y with
          | none => rfl
          | some o => have := H.stays y o q; rw [hd y hy] at this; cases this
        · obtain ⟨_, o, ho, _⟩ := H.frames.mem q; rw [hd y hy] at ho; cases ho
      have Fr : From C φ (φ₁ ++ [h₁.objs.size]) [] (H2.objs.size :: Y) (frs l) s.heap h₃ := ⟨AA.nil, fun y hy => by
        rcases List.mem_cons.mp hy with rfl | hy
        · exact deadS
        · exact hd y hy⟩
      have hst : (tgtIdx tgt).all (storeOkV scope.names vs) = true := by
        rw [List.all_eq_true]
        intro j hj
        have := htg j hj
        unfold storeOkV
        split at this
        · simp only [decide_eq_true_eq] at this
          simp [this]
        · cases this
      have loop : ∀ tk, codeAny (model C.prog C.w) A (.compLoop (.ListComp ee [⟨target, iter, es, 0⟩] scope pos) 0 (.ref ad) (.ref h₁.objs.size) (compEnvC scope cl H2.objs.size env))
          (compPost (model C.prog C.w) A E use Q (.ref h₁.objs.size) H2.objs.size) { s with heap := h₃, toks := tk } := fun tk =>
        IG elt tgt ifs i a₁.σ.length (keepOnly ρ fr) _ a' e2 scope.names vs target iter ee es scope pos tt hst te ts hnc (compEnvC scope cl H2.objs.size env) A l φ _ s.heap _ ad h₁.objs.size Y _ hA' S₃ H₃ I₃ Sp Fr hD
          fun φ' h' tk' H' A' hn hD' => P _ _ φ' h' tk' H' A' hn deadS (.lst hD')
      exact codeAny_compStart_list (loop _) (iter_self (s := { s with heap := h₃, toks := _ }) I₃ (loop _))
    · cases e
  · cases e

theorem stepK_sound (G : GOK C Γ gs) (IE : SoundE C gs L n) (IG : SoundG C gs L n) : SoundK C gs L n := by
  intro elt tgt it ifs fr ρ a d a' e kn vs ex t env A l φ s Q E hA hE H P
  cases t with
  | comp hok ti tt te ts =>
    rw [eval_ListComp]
    refine comp_core G IE IG e hok ti tt te ts (use := none) hA hE H fun D C₀ φ' h' tk H' A' hn hd r => ?_
    refine ⟨_, hn.choose_spec, fun h'' hs'' => ?_⟩
    obtain ⟨m, hns⟩ := hn
    have k : ∀ b o, b ∉ [C₀] → h'.get? b = some o → h''.get? b = some o := fun b o hb => hs''.extBut b o (by simpa using hb)
    have hb : C.base.get? C₀ = none := by
      cases q : C.base.get? C₀ with
      | none => rfl
      | some o => have := H.stays _ o q; rw [hd] at this; cases this
    have hf : C₀ ∉ frs l := fun q => by obtain ⟨_, o, ho, _⟩ := H.frames.mem q; rw [hd] at ho; cases ho
    have Fr : From C φ φ' [] [C₀] (frs l) s.heap h' := ⟨A'.nil, fun y hy => by rw [List.mem_singleton.mp hy]; exact hd⟩
    have H'' := H'.own k (fun y hy => by rw [List.mem_singleton.mp hy]; exact hb) (fun y hy => by rw [List.mem_singleton.mp hy]; exact hf) (fun y hy => by rw [List.mem_singleton.mp hy]; exact ns_not_list hns)
      (fun y hy => by rw [List.mem_singleton.mp hy]; exact ns_not_tuple hns)
    have tk' : TupK h' h'' := fun b ws ⟨o, ho, r⟩ => ⟨o, k b o (fun q => by rw [List.mem_singleton.mp q] at ho; exact ns_not_tuple hns ws ⟨o, ho, r⟩) ho, r⟩
    exact P _ h'' tk φ' H'' (Fr.own k).out (r.mono tk' List.prefix_rfl)

theorem comp_inv {kn : List (Str × NameKind)} {vs : List Str} {ex : Expr} {elt : X} {tgt : Tgt} {it : It} {ifs : List X} {fr : List Nat} (t : TrE kn vs gs ex (.comp elt tgt it ifs fr)) :
    ∃ ee target iter es scope pos, ex = .ListComp ee [⟨target, iter, es, 0⟩] scope pos ∧ compOk kn scope vs (tgtIdx tgt) fr = true ∧ TrI kn vs gs iter it ∧ TrT vs target tgt ∧ TrE scope.names vs gs ee elt ∧ TrEs scope.names vs gs es ifs := by
  cases t with
  | comp a b c d e => exact ⟨_, _, _, _, _, _, rfl, a, b, c, d, e⟩

theorem stepU_sound (G : GOK C Γ gs) (IE : SoundE C gs L n) (IG : SoundG C gs L n) : SoundU C gs L n := by
  intro elt tgt it ifs fr ρ a d a' e kn vs ex t i x p p' hx hk hc env A l φ s Q E hA S H P
  obtain ⟨ee, target, iter, es, scope, pos, rfl, hok, ti, tt, te, ts⟩ := comp_inv t
  obtain ⟨hline, hno⟩ : p.line = pos.line ∧ scope.names.lookup x = none := by
    obtain ⟨_, _, _, _, he, h1, h2⟩ := hc
    cases he; exact ⟨h1, h2⟩
  have hsw : swapsWith (.ListComp ee [⟨target, iter, es, 0⟩] scope pos) (some (.Name x p)) p'.line env = pure true := by
    show (pure (env.blockKind == .function && env.kindOf x == some .local && p.line == pos.line && !(scope.names.any fun (n, k) => n == x && (k == .local || k == .cell))) : Sem Bool) = pure true
    have h1 : env.blockKind = .function := by unfold Env.blockKind; rw [S.toE.kind]; rfl
    have h2 : (scope.names.any fun (n, k) => n == x && (k == .local || k == .cell)) = false := by
      rw [List.any_eq_false]
      rintro ⟨nm, k⟩ hy
      have := List.lookup_eq_none_iff.mp hno _ hy
      have : (nm == x) = false := by
        cases q : nm == x with
        | false => rfl
        | true => rw [eq_of_beq q] at this; simp at this
      simp [this]
    rw [h1, S.toE.loc x hk, h2, hline]
    simp
  rw [exec_Assign_Name_used _ _ _ _ hsw]
  refine wpAny_bind (wpAny_standAt (wpAny_bind ?_))
  show wpAny _ A (do let _ ← comprehension (.ListComp ee [⟨target, iter, es, 0⟩] scope pos) scope env _ (newList []) false (eval iter env) (some (assign (.Name x p) env))) _ _ s
  refine wpAny_bind (wpAny_mono (comp_core G IE IG e hok ti tt te ts (use := some (assign (.Name x p) env)) (Q := fun _ s' => Q .next s') hA S.toE H fun D C₀ φ' h' tk H' A' hn hd r => ?_) (fun _ s' hq => wpAny_pure (wpAny_pure hq)) fun _ _ e => e)
  have S' := S.aft A' H
  obtain ⟨m, hns⟩ := hn
  have hb : C.base.get? C₀ = none := by
    cases q : C.base.get? C₀ with
    | none => rfl
    | some o => have := H.stays _ o q; rw [hd] at this; cases this
  have hf : C₀ ∉ frs l := fun q => by obtain ⟨_, o, ho, _⟩ := H.frames.mem q; rw [hd] at ho; cases ho
  have hpl : C₀ ∉ places kn env := fun q => by
    rcases mem_places.mp q with rfl | ⟨y, hm, hc⟩
    · obtain ⟨m, o, _, _, ho, _⟩ := S.ns; rw [hd] at ho; cases ho
    · obtain ⟨v, o, ho, _⟩ := S.cs y C₀ hm hc; rw [hd] at ho; cases ho
  show wpAny _ A (assign (.Name x p) env (.ref D)) _ _ _
  refine store_sound (F := frs l) hx (by unfold storeOkV; rw [hx]; simp [hk]) S' H' r fun h₂ tk₂ H₂ A₂ S₂ => ?_
  have hns₂ := A₂.ns H' hpl hns
  refine ⟨m, hns₂, fun h'' hs'' => ?_⟩
  have k : ∀ b o, b ∉ [C₀] → h₂.get? b = some o → h''.get? b = some o := fun b o hb => hs''.extBut b o (by simpa using hb)
  have Fr : From C φ φ' (places kn env) [C₀] (frs l) s.heap h₂ := ⟨(A'.nil.trans A₂).mono fun b hb => List.mem_append_right _ hb, fun y hy => by rw [List.mem_singleton.mp hy]; exact hd⟩
  have H'' := H₂.own k (fun y hy => by rw [List.mem_singleton.mp hy]; exact hb) (fun y hy => by rw [List.mem_singleton.mp hy]; exact hf) (fun y hy => by rw [List.mem_singleton.mp hy]; exact ns_not_list hns₂)
    (fun y hy => by rw [List.mem_singleton.mp hy]; exact ns_not_tuple hns₂)
  refine P φ' h'' tk₂ .next trivial H'' (Fr.own k).out (S₂.own k (fun y hy q => ?_) (fun y hy w hw => ?_) fun y hy => by rw [List.mem_singleton.mp hy]; exact ns_not_tuple hns₂)
  · exact hpl (mem_places.mpr (.inl ((List.mem_singleton.mp hy).symm.trans q)))
  · rw [List.mem_singleton.mp hy] at hw
    obtain ⟨o, ho, hd₁⟩ := hw
    obtain ⟨o', _, _, ho', hd₂, _⟩ := hns₂
    rw [ho] at ho'; cases ho'; rw [hd₁] at hd₂; cases hd₂
end

end Mine
end

section
namespace Mine
open PySem PySem.W PyProof.Rows PySem.SeqAt

/-- a def of the run: its object, its names, its body's mirror -/
structure FnB (C : Cfg) (ad : Addr) (f : FnX) (o : Obj) (fd : FuncData) (body : List Stmt) (vs : List Str) : Prop where
  obj : C.base.get? ad = some o
  data : o.data = .func fd
  stm : fd.body = .stmts body
  clo : fd.closure = []
  globals : fd.globals = mainGlobals
  builtins : fd.builtins = builtinsNs
  code : C.base.CodeRec fd.code fd.qualname
  co : fd.scope.isCoroutine = false
  gen : fd.scope.isGenerator = false
  kind : fd.scope.kind = .function
  nd : vs.Nodup
  le : f.params ≤ vs.length
  bind : ∀ us : List Value, us.length = f.params → bindArgs fd ⟨us, []⟩ = pure ((vs.take f.params).zip us)
  par : ∀ x ∈ vs.take f.params, fd.scope.names.lookup x = some .local ∨ fd.scope.names.lookup x = some .cell

structure FnOK (C : Cfg) (gs : List Str) (ad : Addr) (f : FnX) (o : Obj) (fd : FuncData) (body : List Stmt) (vs : List Str) : Prop extends FnB C ad f o fd body vs where
  tr : TrSs fd.scope.names vs gs body f.body

theorem cellsFrom_some : ∀ {names : List (Str × NameKind)} {n : Nat} {acc : List (Str × Addr)} {x : Str}, (x, NameKind.cell) ∈ names ∨ (acc.lookup x).isSome → ((cellsFrom n names acc).lookup x).isSome
  | [], n, acc, x, h => by
    rcases h with h | h
    · cases h
    · exact h
  | (y, k) :: r, n, acc, x, h => by
    unfold cellsFrom
    have hcons : ∀ m, (((y, m) :: acc).lookup x).isSome ↔ x = y ∨ (acc.lookup x).isSome := fun m => by
      rw [List.lookup_cons]
      cases q : x == y with
      | true => simp [eq_of_beq q]
      | false => simp; intro e; rw [e] at q; simp at q
    split
    · rename_i hk
      refine cellsFrom_some (n := n + 1) (acc := (y, n) :: acc) ?_
      rcases h with h | h
      · rcases List.mem_cons.mp h with e | h
        · cases e; exact .inr ((hcons n).mpr (.inl rfl))
        · exact .inl h
      · exact .inr ((hcons n).mpr (.inr h))
    · rename_i hk
      refine cellsFrom_some (n := n) (acc := acc) ?_
      rcases h with h | h
      · rcases List.mem_cons.mp h with e | h
        · cases e; exact absurd rfl hk
        · exact .inl h
      · exact .inr h

theorem bindL_out {kindOf : Str → Option NameKind} : ∀ {b : List (Str × Value)} {m : Str → Option Value} {x : Str}, (∀ p ∈ b, p.1 ≠ x) → bindL kindOf b m x = m x
  | [], _, _, _ => rfl
  | (y, v) :: r, m, x, h => by
    unfold bindL
    rw [bindL_out fun p hp => h p (.tail _ hp)]
    split
    · simp only; rw [if_neg fun e => h _ (.head _) e.symm]
    · rfl
theorem bindL_get {kindOf : Str → Option NameKind} : ∀ {b : List (Str × Value)} {m : Str → Option Value} {x : Str} {v : Value}, (b.map (·.1)).Nodup → (x, v) ∈ b → kindOf x = some .local → bindL kindOf b m x = some v := by
  intro b
  induction b with
  | nil => intro m x v hn hm hk; cases hm
  | cons yw r ih =>
    intro m x v hn hm hk
    obtain ⟨y, w⟩ := yw
    rw [List.map_cons, List.nodup_cons] at hn
    unfold bindL
    rcases List.mem_cons.mp hm with e | hm
    · cases e
      rw [bindL_out fun p hp e => hn.1 (List.mem_map.mpr ⟨p, hp, e⟩), if_pos hk]; simp
    · exact ih hn.2 hm hk
theorem bindC_out {kindOf : Str → Option NameKind} : ∀ {b : List (Str × Value)} {m : Str → Option Value} {x : Str}, (∀ p ∈ b, p.1 ≠ x) → bindC kindOf b m x = m x
  | [], _, _, _ => rfl
  | (y, v) :: r, m, x, h => by
    unfold bindC
    rw [bindC_out fun p hp => h p (.tail _ hp)]
    split
    · rfl
    · simp only; rw [if_neg fun e => h _ (.head _) e.symm]
theorem bindC_get {kindOf : Str → Option NameKind} : ∀ {b : List (Str × Value)} {m : Str → Option Value} {x : Str} {v : Value}, (b.map (·.1)).Nodup → (x, v) ∈ b → kindOf x = some .cell → bindC kindOf b m x = some v := by
  intro b
  induction b with
  | nil => intro m x v hn hm hk; cases hm
  | cons yw r ih =>
    intro m x v hn hm hk
    obtain ⟨y, w⟩ := yw
    rw [List.map_cons, List.nodup_cons] at hn
    unfold bindC
    rcases List.mem_cons.mp hm with e | hm
    · cases e
      rw [bindC_out fun p hp e => hn.1 (List.mem_map.mpr ⟨p, hp, e⟩), if_neg (by rw [hk]; decide)]; simp
    · exact ih hn.2 hm hk

theorem frame_get {f : FnX} {ds : List D} {ρ : Rho} (e : frameOf' f ds = some ρ) : ds.length = f.params ∧ ∀ {i d}, getV ρ i = some d → ds[i]? = some d := by
  unfold frameOf' at e
  split at e
  · rename_i hl
    cases e
    refine ⟨hl, fun {i d} h => ?_⟩
    unfold getV at h
    by_cases hi : i < ds.length
    · rw [List.getElem?_append_left (by simpa using hi)] at h
      rw [List.getElem?_map, List.getElem?_eq_getElem hi] at h
      rw [List.getElem?_eq_getElem hi]
      simpa using h
    · rw [List.getElem?_append_right (by simpa using Nat.le_of_not_lt hi)] at h
      split at h
      · rename_i d' e'
        have := List.mem_of_getElem? e'
        rw [List.mem_replicate] at this
        cases this.2
      · cases h
  · cases e

theorem HOK.pop {C : Cfg} {φ : List Addr} {a : AS} {env : Env} {l : List Env} {h : Heap} (H : HOK C φ a (env :: l) h) : HOK C φ a l h :=
  ⟨H.stays, H.frames.2.2, H.len, H.nodup, H.fresh, H.cells, H.wheel, H.plain, fun x hx => H.fout x (by
    rw [List.filterMap_cons]
    cases env.frame with
    | none => exact hx
    | some _ => exact .tail _ hx), H.wfresh, H.wout, H.sout, H.sw⟩
theorem HOK.pushF {C : Cfg} {φ : List Addr} {a : AS} {env : Env} {l : List Env} {h : Heap} (H : HOK C φ a l h) (hk : env.scope.kind = .function) {m : Str → Option Value} (hf : env.frame = some env.locals) (hb : C.base.get? env.locals = none) (hn : h.Ns env.locals m) : HOK C φ a (env :: l) h :=
  ⟨H.stays, ⟨by rw [hk]; decide, by obtain ⟨o, es, ep, ho, hd, _⟩ := hn; exact ⟨_, o, hf, hb, ho, fun vs e => by rw [hd] at e; cases e⟩, H.frames⟩, H.len, H.nodup, H.fresh, H.cells, H.wheel, H.plain, by
    intro x hx
    rw [List.filterMap_cons, hf] at hx
    rcases List.mem_cons.mp hx with rfl | hx
    · obtain ⟨h1, h2⟩ := H.not_phi (ns_not_list hn)
      refine ⟨h1, h2, fun q => ?_⟩
      obtain ⟨_, _, _, _, hS, _⟩ := H.wheel
      exact ns_not_list hn _ (q ▸ hS)
    · exact H.fout x hx, H.wfresh, H.wout, H.sout, H.sw⟩

theorem Aft.back {C : Cfg} {φ φ' X F F' : List Addr} {h h₁ h' : Heap} (A : Aft C φ φ' X F h₁ h') (k : ∀ b o, h.get? b = some o → h₁.get? b = some o) (hX : ∀ x ∈ X, h.get? x = none) (hF : ∀ x ∈ F, x ∈ F' ∨ h.get? x = none) : Aft C φ φ' [] F' h h' where
  keep := fun b o e n1 n2 _ => by
    obtain ⟨sl, e', q⟩ := A.keep b o (k b o e) n1 n2 fun q => by rw [hX b q] at e; cases e
    refine ⟨sl, e', fun hF' => q fun hb => ?_⟩
    rcases hF b hb with q | q
    · exact hF' q
    · rw [q] at e; cases e
  ext := A.ext
  new := fun x hx => by
    rcases A.new x hx with q | q
    · exact .inl q
    · right
      cases e : h.get? x with
      | none => rfl
      | some o => rw [k x o e] at q; cases q
  alive := fun b e => by
    obtain ⟨o, ho⟩ := Option.isSome_iff_exists.mp e
    exact A.alive b (by rw [k b o ho]; rfl)
  tup := (TupK.of_keeps k).trans A.tup

section
variable {C : Cfg} {Γ : Globs} {gs : List Str} {L : Lv} {n : Nat}

/-- a def is entered -/
theorem enter (G : GOK C Γ gs) {ad : Addr} {f : FnX} {o : Obj} {fd : FuncData} {body : List Stmt} {vs : List Str} (F : FnB C ad f o fd body vs) {us : List Value} {ds : List D} {ρ : Rho} (e : frameOf' f ds = some ρ)
    {A : Around} {l : List Env} {φ : List Addr} {a : AS} {s : Shared} {R : Result → Shared → Prop} (hA : AOK A l (n + 1)) (H : HOK C φ a l s.heap) (r : RdL C φ s.heap us ds)
    (h : ∀ env h₁ tk₁, env.frame = some env.locals → (∀ b o, s.heap.get? b = some o → h₁.get? b = some o) → SOK C env fd.scope.names vs ρ φ h₁ → HOK C φ a (env :: l) h₁ → AOK (A.deeper env) (env :: l) n →
      (∀ x ∈ places fd.scope.names env, s.heap.get? x = none) →
      wpAny (model C.prog C.w) (A.deeper env) (execs body env) (fun f s' => R (.ok (.ret (match f with | .ret v => v | _ => .none))) s')
        (fun e s' => wpAny (model C.prog C.w) (A.deeper env) (leaving env e) (fun _ s'' => R (.error e) s'') (fun e' s'' => R (.error e') s'') s') { s with heap := h₁, toks := tk₁ }) :
    codeAny (model C.prog C.w) A (.call (.ref ad) ⟨us, []⟩) R s := by
  obtain ⟨hlen, hget⟩ := frame_get e
  have hul : us.length = f.params := r.length.trans hlen
  obtain ⟨pp, loose, mg, mb, T⟩ := G.top
  have hz : ((vs.take f.params).zip us).map (·.1) = vs.take f.params := by
    rw [List.map_fst_zip]; rw [List.length_take, hul]; exact Nat.min_le_left _ _
  have stays : ∀ b o, C.base.get? b = some o → s.heap.get? b = some o := H.stays
  refine codeAny_call_cells (fd := fd) (binds := (vs.take f.params).zip us) (by have := hA.depth; show A.depth < 1000; omega) (stays _ _ F.obj) F.data (T.nolimit.keeps stays)
    (by obtain ⟨c, o, ws, t, hc, ho, hd, hv⟩ := F.code; exact ⟨c, o, ws, t, hc, stays _ _ ho, hd, hv⟩) F.stm (F.bind us hul) F.clo (fun x hx => ?_) (fun s₁ ic => ?_) F.co F.gen F.kind
  · have hx1 : x.1 ∈ vs.take f.params := by rw [← hz]; exact List.mem_map.mpr ⟨x, hx, rfl⟩
    rcases F.par x.1 hx1 with q | q
    · exact .inl q
    · exact .inr ⟨q, cellsFrom_some (.inl (mem_of_lookup q))⟩
  · obtain ⟨h₁, tk₁, rfl⟩ := ic.toInCall.same
    have k := ic.toInCall.keep
    generalize henv : callEnvC fd s.heap.objs.size ad = env at ic ⊢
    have e1 : env.scope = fd.scope := by rw [← henv]; rfl
    have e2 : env.locals = s.heap.objs.size := by rw [← henv]; rfl
    have e3 : env.frame = some env.locals := by rw [← henv]; rfl
    have e4 : env.globals = mainGlobals := by rw [← henv]; exact F.globals
    have e5 : env.builtins = builtinsNs := by rw [← henv]; exact F.builtins
    have e6 : env.cells = cellsFrom (s.heap.objs.size + 1) fd.scope.names [] := by rw [← henv]; rfl
    have hkind : ∀ x, env.kindOf x = fd.scope.names.lookup x := fun x => by rw [← henv]; rfl
    have dead : ∀ b, s.heap.objs.size ≤ b → s.heap.get? b = none := fun b hb => by
      cases q : s.heap.get? b with
      | none => rfl
      | some o => exact absurd (Heap.lt_size q) (Nat.not_lt.mpr hb)
    have dead' : ∀ b, s.heap.objs.size ≤ b → C.base.get? b = none := fun b hb => by
      cases q : C.base.get? b with
      | none => rfl
      | some o => rw [← stays b o q]; exact dead b hb
    have habove : ∀ x c, env.cells.lookup x = some c → s.heap.objs.size ≤ c := fun x c hc => by
      have := ic.above x c (mem_of_lookup hc)
      rw [e2] at this; exact Nat.le_of_lt this
    have hL : C.base.get? env.locals = none := dead' _ (by rw [e2]; exact Nat.le_refl _)
    have S : SOK C env fd.scope.names vs ρ φ h₁ := by
      refine ⟨⟨by rw [e1]; exact F.kind, e4, e5, fun x hx => (hkind x).trans hx, fun x hx => ⟨(hkind x).trans hx, ?_⟩, fun x hx => (hkind x).trans hx, fun i x d h1 h2 => ?_⟩, ⟨_, ic.toInCall.ns⟩, fun x c _ hc => ⟨_, ic.cell x c hc⟩,
        fun x y c _ h1 h2 => name_of_addr ic.apart (mem_of_lookup h1) (mem_of_lookup h2), hL, fun x c _ hc => dead' c (habove x c hc), F.nd⟩
      · have := cellsFrom_some (n := s.heap.objs.size + 1) (acc := []) (.inl (mem_of_lookup hx))
        rw [← e6] at this
        exact Option.isSome_iff_exists.mp this
      · obtain ⟨u, hu, ru⟩ := r.get (hget h2)
        have hi : i < us.length := (List.getElem?_eq_some_iff.mp hu).1
        have hm : (x, u) ∈ (vs.take f.params).zip us := by
          refine List.mem_of_getElem? (i := i) ?_
          rw [List.getElem?_zip_eq_some]
          exact ⟨by rw [List.getElem?_take, if_pos (by omega)]; exact h1, hu⟩
        have hnd : (((vs.take f.params).zip us).map (·.1)).Nodup := by rw [hz]; exact F.nd.sublist (List.take_sublist _ _)
        have hx1 : x ∈ vs.take f.params := by rw [← hz]; exact List.mem_map.mpr ⟨_, hm, rfl⟩
        refine ⟨u, ?_, ru.mono (TupK.of_keeps k) List.prefix_rfl⟩
        rcases F.par x hx1 with q | q
        · exact .inl ⟨(hkind x).trans q, _, ic.toInCall.ns, bindL_get hnd hm ((hkind x).trans q)⟩
        · have := cellsFrom_some (n := s.heap.objs.size + 1) (acc := []) (.inl (mem_of_lookup q))
          rw [← e6] at this
          obtain ⟨c, hc⟩ := Option.isSome_iff_exists.mp this
          refine .inr ⟨(hkind x).trans q, c, hc, ?_⟩
          have := ic.cell x c hc
          rw [bindC_get hnd hm ((hkind x).trans q)] at this
          exact this
    refine h env h₁ tk₁ e3 k S ((H.keeps k).pushF (by rw [e1]; exact F.kind) e3 hL ic.toInCall.ns) ⟨?_, hA.hand, by have := hA.depth; show A.depth + 1 + n ≤ 900; omega, by have := hA.units; show A.units + 3 + 8 * n ≤ 8000; omega⟩ fun x hx => ?_
    · show A.frames.map (env :: ·) = _
      rw [hA.frames]; rfl
    · rcases mem_places.mp hx with rfl | ⟨y, _, hc⟩
      · exact dead _ (by rw [e2]; exact Nat.le_refl _)
      · exact dead _ (habove y x hc)

/-- the defs of the run -/
noncomputable def FnsOK (C : Cfg) (Γ : Globs) (gs : List Str) : Prop := ∀ (k : Nat) (f : FnX) (ad : Addr), k ≠ Γ.spin → Γ.fns[k]? = some f → C.fnA k = some ad → ∃ o fd body vs, FnOK C gs ad f o fd body vs

noncomputable def SoundSpin (C : Cfg) (Γ : Globs) : Prop :=
  ∀ (ds : List D) (a : AS) (d : D) (a' : AS) (L : Lv) (n : Nat), evCall Γ L Γ.spin ds a = some (d, a') → ∀ (ad : Addr) (us : List Value) (A : Around) (l : List Env) (φ : List Addr) (s : Shared) (Q : Value → Shared → Prop) (E : Value → Shared → Prop),
    C.fnA Γ.spin = some ad → AOK A l (n + 1) → HOK C φ a l s.heap → RdL C φ s.heap us ds → Post C φ l s d a' Q →
      codeAny (model C.prog C.w) A (.call (.ref ad) ⟨us, []⟩) (CallR Q E) s

theorem stepC_sound (G : GOK C Γ gs) (FF : FnsOK C Γ gs) (SP : SoundSpin C Γ) (IS : SoundS C gs L n) : SoundC C Γ L n := by
  intro k ds a d a' e ad us A l φ s Q E had hA H r P
  by_cases hk : k = Γ.spin
  · subst hk
    exact SP ds a d a' L n e ad us A l φ s Q E had hA H r P
  · unfold evCall at e
    rw [if_neg hk] at e
    split at e
    · rename_i f hf
      split at e
      · rename_i ρ hρ
        split at e
        · rename_i d' ρ' a₁ es
          cases e
          obtain ⟨o, fd, body, vs, F⟩ := FF k f ad hk hf had
          refine enter G F.toFnB hρ hA H r fun env h₁ tk₁ hfr k₁ S H₁ hA₁ hdead => ?_
          refine IS f.body ρ a _ _ _ es _ vs body F.tr env _ (env :: l) φ _ _ _ ⟨l, rfl, hfr⟩ hA₁ S H₁ fun φ' h' tk fv rf H' A' _ => ?_
          cases fv with
          | ret v =>
            refine P v h' tk φ' H'.pop (A'.back k₁ hdead fun x hx => ?_) rf
            have : x = env.locals ∨ x ∈ frs l := by
              unfold frs at hx
              rw [List.filterMap_cons, hfr] at hx
              exact List.mem_cons.mp hx
            rcases this with rfl | q
            · exact .inr (hdead _ (mem_places.mpr (.inl rfl)))
            · exact .inl q
          | _ => exact rf.elim
        · cases e
      · cases e
    · cases e
end

end Mine
end

section
namespace Mine
open PySem PySem.W PyProof.Rows PySem.SeqAt

/-- what is so of the heap while an exception flies; B is what stays of the heap in which it was raised -/
structure Rz (C : Cfg) (φ₀ : List Addr) (h₀ : Heap) (X φ' : List Addr) (a' : AS) (l : List Env) (B h' : Heap) : Prop where
  hok : HOK C φ' a' l h'
  aft : Aft C φ₀ φ' X (frs l) h₀ h'
  cov : ∀ b o, h₀.get? b = some o → b ∉ φ₀ → b ≠ C.W → b ∉ X → b ∉ frs l → B.get? b = some o
  base : C.base.StaysIn B
  cells : ∀ x ∈ φ', ∃ o, B.get? x = some o
  wheel : ∃ o, B.get? C.W = some o
  seat : ∃ o, B.get? C.S = some o
  stays : B.StaysIn h'

/-- raised, not yet noted -/
noncomputable def Fresh (B : Heap) (l : List Env) (e : Addr) (cls a0 : Value) (h : Heap) : Prop :=
  B.get? e = none ∧ h.FunFrames B l ∧ ∃ oe vs, h.get? e = some oe ∧ oe.cls = cls ∧ oe.data = .fields vs ∧ vs[1]? = some .none ∧ vs[0]? = some a0

noncomputable def Air (B : Heap) (l : List Env) (e : Addr) (cls a0 : Value) (h : Heap) : Prop := Fresh B l e cls a0 h ∨ Heap.FlyingW B l e cls a0 h

variable {C : Cfg}

theorem tupk_slots {h h' : Heap} (u : h.UpToSlots h') : TupK h h' := fun a vs ⟨o, ho, hc, n, hd⟩ => by
  obtain ⟨sl, e⟩ := u a o ho fun ws q => by rw [hd] at q; cases q
  exact ⟨_, e, hc, n, hd⟩

theorem Rz.move {φ₀ φ' : List Addr} {h₀ h' h'' B : Heap} {a' : AS} {l : List Env} (R : Rz C φ₀ h₀ [] φ' a' l B h') (hB : B.StaysIn h'') (u : h'.UpToSlots h'') (hf : h''.FunFrames B l) : Rz C φ₀ h₀ [] φ' a' l B h'' := by
  have exact_ : ∀ {x o}, (∃ o', B.get? x = some o') → h'.get? x = some o → h''.get? x = some o := fun {x o} ⟨o', e'⟩ e => by
    have := R.stays x o' e'
    rw [e] at this; cases this
    exact hB x _ e'
  have tk := tupk_slots u
  refine ⟨⟨fun b o e => hB b o (R.base b o e), funFrames_base R.base hf, R.hok.len, R.hok.nodup, R.hok.fresh, fun n xs e => ?_, ?_, fun x hx => ?_, R.hok.fout, R.hok.wfresh, R.hok.wout, R.hok.sout, R.hok.sw⟩, ?_, R.cov, R.base, R.cells, R.wheel, R.seat, hB⟩
  · obtain ⟨x, vs, e1, ⟨o, ho, r⟩, e3⟩ := R.hok.cells n xs e
    exact ⟨x, vs, e1, ⟨o, exact_ (R.cells x (List.mem_of_getElem? e1)) ho, r⟩, e3.mono tk List.prefix_rfl⟩
  · obtain ⟨c, t, vs, ⟨o, ho, r⟩, ⟨o', ho', r'⟩, h3⟩ := R.hok.wheel
    exact ⟨c, t, vs, ⟨o, exact_ R.wheel ho, r⟩, ⟨o', exact_ R.seat ho', r'⟩, h3⟩
  · obtain ⟨vs, n, e⟩ := R.hok.plain x hx
    exact ⟨vs, n, exact_ (R.cells x hx) e⟩
  · refine ⟨fun b o e n1 n2 n3 => ?_, R.aft.ext, R.aft.new, fun b e => ?_, R.aft.tup.trans tk⟩
    · obtain ⟨sl, e', q⟩ := R.aft.keep b o e n1 n2 n3
      by_cases hb : b ∈ frs l
      · obtain ⟨_, o', ho', hd⟩ := R.hok.frames.mem hb
        rw [e'] at ho'; cases ho'
        obtain ⟨sl', e''⟩ := u b _ e' hd
        exact ⟨sl', e'', fun hF => absurd hb hF⟩
      · exact ⟨o.slots, hB b o (R.cov b o e n1 n2 n3 hb), fun _ => rfl⟩
    · obtain ⟨o, ho⟩ := Option.isSome_iff_exists.mp e
      by_cases h1 : b ∈ φ₀
      · obtain ⟨o', ho'⟩ := R.cells b (R.aft.ext.subset h1); rw [hB b o' ho']; rfl
      · by_cases h2 : b = C.W
        · subst h2; obtain ⟨o', ho'⟩ := R.wheel; rw [hB _ o' ho']; rfl
        · by_cases hb : b ∈ frs l
          · obtain ⟨_, o', ho', hd⟩ := R.hok.frames.mem hb
            obtain ⟨sl', e''⟩ := u b _ ho' hd
            rw [e'']; rfl
          · rw [hB b o (R.cov b o ho h1 h2 (by simp) hb)]; rfl

/-- a frame is left: what was before it was laid -/
theorem Rz.pop {φ₀ φ' X : List Addr} {h₀ h₁ h' B : Heap} {a' : AS} {env : Env} {l : List Env} (R : Rz C φ₀ h₁ X φ' a' (env :: l) B h') (hf : env.frame = some env.locals) (k : ∀ b o, h₀.get? b = some o → h₁.get? b = some o) (hX : ∀ x ∈ X, h₀.get? x = none)
    (hL : h₀.get? env.locals = none) : Rz C φ₀ h₀ [] φ' a' l B h' := by
  have hm : ∀ x, x ∈ frs (env :: l) → x = env.locals ∨ x ∈ frs l := fun x hx => by
    unfold frs at hx
    rw [List.filterMap_cons, hf] at hx
    exact List.mem_cons.mp hx
  refine ⟨R.hok.pop, R.aft.back k hX fun x hx => ?_, fun b o e n1 n2 _ n4 => R.cov b o (k b o e) n1 n2 (fun q => by rw [hX b q] at e; cases e) fun q => ?_, R.base, R.cells, R.wheel, R.seat, R.stays⟩
  · rcases hm x hx with rfl | q
    · exact .inr hL
    · exact .inl q
  · rcases hm b q with rfl | q
    · rw [hL] at e; cases e
    · exact n4 q

/-- raised here -/
theorem Rz.here {φ₀ φ' X : List Addr} {h₀ g h' : Heap} {a' : AS} {l : List Env} (H : HOK C φ' a' l g) (A : Aft C φ₀ φ' X (frs l) h₀ g) (k : ∀ b o, g.get? b = some o → h'.get? b = some o) :
    Rz C φ₀ h₀ X φ' a' l (hideAll g (frs l)) h' := by
  refine ⟨H.keeps k, ?_, fun b o e n1 n2 n3 n4 => ?_, fun b o e => ?_, fun x hx => ?_, ?_, ?_, fun b o e => k b o (of_hideAll _ e)⟩
  · have A' : Aft C φ' φ' X (frs l) g h' := Aft.of_keeps k
    exact A.trans A'
  · obtain ⟨sl, e', q⟩ := A.keep b o e n1 n2 n3
    rw [q n4] at e'
    exact hideAll_get _ e' n4
  · exact hideAll_get _ (H.stays b o e) fun hm => by rw [(H.frames.mem hm).1] at e; cases e
  · obtain ⟨vs, n, e⟩ := H.plain x hx
    exact ⟨_, hideAll_get _ e fun hm => (H.fout x hm).1 hx⟩
  · obtain ⟨c, t, vs, ⟨o, ho, _⟩, _⟩ := H.wheel
    exact ⟨o, hideAll_get _ ho fun hm => (H.fout _ hm).2.1 rfl⟩
  · obtain ⟨c, t, vs, _, ⟨o, ho, _⟩, _⟩ := H.wheel
    exact ⟨o, hideAll_get _ ho fun hm => (H.fout _ hm).2.2 rfl⟩

theorem frames_hidden {φ : List Addr} {a : AS} {l : List Env} {g h' : Heap} (H : HOK C φ a l g) (k : ∀ b o, g.get? b = some o → h'.get? b = some o) : h'.FunFrames (hideAll g (frs l)) l :=
  (funFrames_hide H.frames fun env he a hf => List.mem_filterMap.mpr ⟨env, he, hf⟩).of_keeps fun b o e _ => ⟨o, k b o e, rfl⟩

section
variable {A : Around} {E : Value → Shared → Prop} {s : Shared}

/-- the frame is left -/
theorem air_leaves {B : Heap} {env : Env} {outer : List Env} {L e : Addr} {cls a0 : Value} {Q : Unit → Shared → Prop} {M : Model} (hfr : A.frames = some (env :: outer)) (hf : env.frame = some L) (hB : B.StaysIn s.heap) (h : Air B (env :: outer) e cls a0 s.heap)
    (hQ : ∀ h', Heap.FlyingW B outer e cls a0 h' → s.heap.UpToSlots h' → Q () { s with heap := h' }) : wpAny M A (leaving env (.ref e)) Q E s := by
  rcases h with ⟨f1, f2, oe, vs, he, hc, hd, h1, h0⟩ | h
  · refine wpAny_leaving_firstW (oe := oe) (vs := vs) (a0 := a0) hfr f2 hf he hB f1 hd h1 h0 fun h' hL => ?_
    obtain ⟨k1, ⟨_, _, k2⟩, k3, k4⟩ := hL
    exact hQ h' ⟨k1, f1, k2, hc ▸ k3⟩ k4
  · exact wpAny_leaves_onW hfr hf h hQ
end

/-- the call of a def raises -/
noncomputable def SoundR (C : Cfg) (Γ : Globs) (bc : Addr) (L : Lv) (n : Nat) : Prop :=
  ∀ (k : Nat) (ds : List D) (a a' : AS), evRaise Γ L k ds a = some a' → ∀ (ad : Addr) (us : List Value) (A : Around) (l : List Env) (φ : List Addr) (s : Shared) (Q : Value → Shared → Prop) (E : Value → Shared → Prop),
    C.fnA k = some ad → AOK A l (n + 1) → HOK C φ a l s.heap → RdL C φ s.heap us ds →
      (∀ ea B a0 φ' h' tk, Rz C φ s.heap [] φ' a' l B h' → Heap.FlyingW B l ea (.ref bc) a0 h' → E (.ref ea) { s with heap := h', toks := tk }) →
      codeAny (model C.prog C.w) A (.call (.ref ad) ⟨us, []⟩) (CallR Q E) s

/-- a block raises -/
noncomputable def SoundX (C : Cfg) (gs : List Str) (bc : Addr) (L : Lv) (n : Nat) : Prop :=
  ∀ (ss : List XS) (ρ : Rho) (a a' : AS), L.x ss ρ a = some a' → ∀ (kn : List (Str × NameKind)) (vs : List Str) (b : List Stmt), TrSs kn vs gs b ss →
    ∀ (env : Env) (A : Around) (l : List Env) (φ₀ φ : List Addr) (h₀ : Heap) (s : Shared) (Q : Flow → Shared → Prop) (E : Value → Shared → Prop), TopE env l → AOK A l n → SOK C env kn vs ρ φ s.heap → HOK C φ a l s.heap →
      Aft C φ₀ φ (places kn env) (frs l) h₀ s.heap →
      (∀ ea B a0 φ' h' tk, Rz C φ₀ h₀ (places kn env) φ' a' l B h' → Air B l ea (.ref bc) a0 h' → E (.ref ea) { s with heap := h', toks := tk }) →
      wpAny (model C.prog C.w) A (execs b env) Q E s

section
variable {Γ : Globs} {gs : List Str} {L : Lv} {n : Nat} {bc : Addr}

theorem stepR_sound (G : GOK C Γ gs) (FF : FnsOK C Γ gs) (IX : SoundX C gs bc L n) : SoundR C Γ bc L n := by
  intro k ds a a' e ad us A l φ s Q E had hA H r P
  unfold evRaise at e
  split at e
  · cases e
  · rename_i hk
    split at e
    · rename_i f hf
      split at e
      · rename_i ρ hρ
        obtain ⟨o, fd, body, vs, F⟩ := FF k f ad hk hf had
        refine enter G F.toFnB hρ hA H r fun env h₁ tk₁ hfr k₁ S H₁ hA₁ hdead => ?_
        refine IX f.body ρ a a' e _ vs body F.tr env _ (env :: l) φ φ h₁ _ _ _ ⟨l, rfl, hfr⟩ hA₁ S H₁ (Aft.refl _) fun ea B a0 φ' h' tk R hair => ?_
        have hL : s.heap.get? env.locals = none := hdead _ (mem_places.mpr (.inl rfl))
        have R' := R.pop hfr k₁ hdead hL
        refine air_leaves hA₁.frames hfr R.stays hair fun h'' fl u => ?_
        exact P ea B a0 φ' h'' tk (R'.move fl.1 u fl.2.2.1) fl
      · cases e
    · cases e

/-- an expression raises -/
theorem x_raises (G : GOK C Γ gs) (IE : SoundE C gs L n) (IR : SoundR C Γ bc L n) {x : X} {ρ : Rho} {a a' : AS} (e : evX Γ L x ρ a = some a') {kn : List (Str × NameKind)} {vs : List Str} {ex : Expr} (t : TrE kn vs gs ex x)
    {env : Env} {A : Around} {l : List Env} {φ : List Addr} {s : Shared} {Q : Value → Shared → Prop} {E : Value → Shared → Prop} (hA : AOK A l (n + 1)) (hE : EOK C env kn vs ρ φ s.heap) (H : HOK C φ a l s.heap)
    (P : ∀ ea B a0 φ' h' tk, Rz C φ s.heap [] φ' a' l B h' → Heap.FlyingW B l ea (.ref bc) a0 h' → E (.ref ea) { s with heap := h', toks := tk }) : wpAny (model C.prog C.w) A (eval ex env) Q E s := by
  have cw : ∀ {k : Nat} {xs : List X} {ds : List D} {a₁ : AS} {es : List Expr} {v : Value} {pos : Pos} {Q : Value → Shared → Prop}, evEs L ρ xs a = some (ds, a₁) → evRaise Γ L k ds a₁ = some a' → TrEs kn vs gs es xs → Rd C φ s.heap v (.fn k) →
      wpAny (model C.prog C.w) A (callWith pos v [] (backTo pos (starEach es env)) []) Q E s := fun {k xs ds a₁ es v pos Q} e1 e2 ts rv => by
    cases rv with
    | @fn ad _ ha =>
      obtain ⟨o, fd, ho, hd⟩ := G.fnObj k ad ha
      refine Calls.callWith_function (o := o) (fd := fd) (args_plain (starEach_plain ts) ?_)
      refine es_sound IE xs ρ a ds a₁ e1 kn vs es ts env A l φ s pos _ E (hA.le (by omega)) hE H fun us h₁ tk₁ φ₁ H₁ A₁ r₁ => ?_
      refine ⟨⟨H₁.stays _ _ ho, hd⟩, wpAny_call (IR k ds a₁ a' e2 ad us A l φ₁ _ Q E ha hA H₁ r₁ fun ea B a0 φ' h' tk R fl => ?_)⟩
      refine P ea B a0 φ' h' tk ⟨R.hok, A₁.trans R.aft, fun b o e n1 n2 n3 n4 => ?_, R.base, R.cells, R.wheel, R.seat, R.stays⟩ fl
      obtain ⟨sl, e', q⟩ := A₁.keep b o e n1 n2 n3
      rw [q n4] at e'
      refine R.cov b o e' (fun hb => ?_) n2 n3 n4
      rcases A₁.new b hb with q | q
      · exact n1 q
      · rw [e] at q; cases q
  have call_ : ∀ {f : Str} {p p' : Pos} {k : Nat} {es : List Expr} {xs : List X} {Q : Value → Shared → Prop}, gs[k]? = some f → kn.lookup f = some .globalImplicit → (f == ("__debug__" : Str)) = false → TrEs kn vs gs es xs →
      (match Γ.gd[k]? with
        | some (some (.fn j)) => match evEs L ρ xs a with
          | some (ds, a') => evRaise Γ L j ds a'
          | none => none
        | _ => none) = some a' → wpAny (model C.prog C.w) A (eval (.Call (.Name f p) es [] p') env) Q E s := fun h1 h2 h3 ts e => by
    split at e
    · rename_i j e0
      split at e
      · rename_i ds a₁ e1
        refine wpAny_Call_Name_kw (name_sound G e0 h1 h2 h3 hE H fun v rv => ?_)
        exact cw e1 e ts rv
      · cases e
    · cases e
  cases t with
  | call h1 h2 h3 ts => exact call_ h1 h2 h3 ts e
  | callv h1 h2 ts =>
    delta evX at e
    try dsimp only at e
    split at e
    · rename_i k e0
      split at e
      · rename_i ds a₁ e1
        exact wpAny_Call_Name_kw (var_sound e0 h1 h2 hE fun v rv => cw e1 e ts rv)
      · cases e
    · cases e
  | item t1 t2 hs =>
    cases t1 with
    | call h1 h2 h3 ts => exact Subscript_ (call_ h1 h2 h3 ts e)
    | _ => exact no_some e
  | _ => exact no_some e
end

end Mine
end

section
namespace Mine
open PySem PySem.W PyProof.Rows PySem.SeqAt

variable {C : Cfg}

/-- the raise statement makes its exception -/
noncomputable def SoundBad (C : Cfg) (gs : List Str) (bc : Addr) : Prop :=
  ∀ (kn : List (Str × NameKind)) (vs : List Str) (st : Stmt), TrS kn vs gs st .raise_ → ∀ (ρ : Rho) (a : AS) (n : Nat) (env : Env) (A : Around) (l : List Env) (φ : List Addr) (s : Shared) (Q : Flow → Shared → Prop) (E : Value → Shared → Prop),
    AOK A l (n + 1) → EOK C env kn vs ρ φ s.heap → HOK C φ a l s.heap →
      (∀ ea a0 h' tk, (∀ b o, s.heap.get? b = some o → h'.get? b = some o) → s.heap.get? ea = none → (∃ oe vs, h'.get? ea = some oe ∧ oe.cls = .ref bc ∧ oe.data = .fields vs ∧ vs[1]? = some .none ∧ vs[0]? = some a0) → E (.ref ea) { s with heap := h', toks := tk }) →
      wpAny (model C.prog C.w) A (exec st env) Q E s

theorem Rz.start {φ₀ φ φ' X : List Addr} {h₀ h₁ h' B : Heap} {a' : AS} {l : List Env} (R : Rz C φ h₁ X φ' a' l B h') (A : Aft C φ₀ φ X (frs l) h₀ h₁) : Rz C φ₀ h₀ X φ' a' l B h' := by
  refine ⟨R.hok, A.trans R.aft, fun b o e n1 n2 n3 n4 => ?_, R.base, R.cells, R.wheel, R.seat, R.stays⟩
  obtain ⟨sl, e', q⟩ := A.keep b o e n1 n2 n3
  rw [q n4] at e'
  refine R.cov b o e' (fun hb => ?_) n2 n3 n4
  rcases A.new b hb with q | q
  · exact n1 q
  · rw [e] at q; cases q
theorem Rz.wide {φ₀ φ' X : List Addr} {h₀ h' B : Heap} {a' : AS} {l : List Env} (R : Rz C φ₀ h₀ [] φ' a' l B h') : Rz C φ₀ h₀ X φ' a' l B h' :=
  ⟨R.hok, R.aft.nil, fun b o e n1 n2 _ n4 => R.cov b o e n1 n2 (by simp) n4, R.base, R.cells, R.wheel, R.seat, R.stays⟩

section
variable {Γ : Globs} {gs : List Str} {L : Lv} {n : Nat} {bc : Addr}

theorem stepX_sound (G : GOK C Γ gs) (BD : SoundBad C gs bc) (IE : SoundE C gs L n) (IT : SoundT C gs L n) (IS : SoundS C gs L n) (IF : SoundF C gs L n) (IU : SoundU C gs L n) (IY : SoundTry C Γ gs L n) (IR : SoundR C Γ bc L n) (IX : SoundX C gs bc L n) :
    SoundX C gs bc (Lv.up Γ L) (n + 1) := by
  intro ss ρ a a' e kn vs b t env A l φ₀ φ h₀ s Q E hT hA S H A₀ P
  have hA' : AOK A l n := hA.le (by omega)
  change stepX Γ L ss ρ a = some a' at e
  have viaX : ∀ {x : X} {ex : Expr} {Q : Value → Shared → Prop}, evX Γ L x ρ a = some a' → TrE kn vs gs ex x → wpAny (model C.prog C.w) A (eval ex env) Q E s := fun e1 te =>
    x_raises G IE IR e1 te hA S.toE H fun ea B a0 φ' h' tk R fl => P ea B a0 φ' h' tk (R.wide.start A₀) (.inr fl)
  have viaS : ∀ {st : XS} {stm : Stmt} {ρ₁ : Rho} {a₁ : AS} {r : List XS} {rs : List Stmt}, step1 Γ L st ρ a = some (.next, ρ₁, a₁) → TrS kn vs gs stm st → L.x r ρ₁ a₁ = some a' → TrSs kn vs gs rs r → wpAny (model C.prog C.w) A (execs (stm :: rs) env) Q E s := fun {st stm ρ₁ a₁ r rs} e1 t1 e2 t2 => by
    refine wpAny_execs_cons (step1_sound G IE IT IS IF IU IY e1 t1 hT hA S H fun φ₁ h₁ tk₁ fv rf H₁ A₁ S₁ => ?_)
    cases fv with
    | next => exact IX r ρ₁ a₁ a' e2 kn vs rs t2 env A l φ₀ φ₁ h₀ _ Q E hT hA' S₁ H₁ (A₀.trans A₁) P
    | _ => exact rf.elim
  cases t with
  | nil => exact no_some e
  | @cons _ st _ r t ts =>
    have t' := t
    cases t with
    | raise_ =>
      delta stepX at e
      simp only [Option.some.injEq] at e
      subst e
      refine wpAny_execs_cons (BD kn vs _ t' ρ a n env A l φ s _ E hA S.toE H fun ea a0 h' tk k hd he => ?_)
      refine P ea (hideAll s.heap (frs l)) a0 φ h' tk (Rz.here H A₀ k) (.inl ⟨?_, frames_hidden H k, he⟩)
      cases q : (hideAll s.heap (frs l)).get? ea with
      | none => rfl
      | some o => rw [of_hideAll _ q] at hd; cases hd
    | ite te tb to =>
      delta stepX at e
      try dsimp only at e
      have br : ∀ {bb : List XS} {bs : List Stmt} {tv : Bool} {a₁ : AS}, TrSs kn vs gs bs bb → (L.x bb ρ a₁).or (match L.s bb ρ a₁ with
          | some (.next, ρ₁, a₁) => L.x r ρ₁ a₁
          | _ => none) = some a' → ∀ {h₁ : Heap} {tk₁ : Nat} {φ₁ : List Addr}, HOK C φ₁ a₁ l h₁ → Aft C φ φ₁ [] (frs l) s.heap h₁ →
          wpAny (model C.prog C.w) A (execs bs env) (fun f s' => match f with | .next => wpAny (model C.prog C.w) A (execs _ env) Q E s' | f => Q f s') E { s with heap := h₁, toks := tk₁ } := fun {bb bs tv a₁} tb e h₁ tk₁ φ₁ H₁ A₁ => by
        cases hx : L.x bb ρ a₁ with
        | some a₂ =>
          rw [hx] at e
          cases e
          exact IX bb ρ a₁ _ hx kn vs bs tb env A l φ₀ φ₁ h₀ _ _ E hT hA' (S.aft A₁ H) H₁ (A₀.trans A₁.nil) P
        | none =>
          rw [hx] at e
          simp only [Option.none_or] at e
          split at e
          · rename_i ρ₂ a₂ es
            refine IS bb ρ a₁ .next ρ₂ a₂ es kn vs bs tb env A l φ₁ _ _ E hT hA' (S.aft A₁ H) H₁ fun φ₂ h₂ tk₂ fv rf H₂ A₂ S₂ => ?_
            cases fv with
            | next => exact IX r ρ₂ a₂ a' e kn vs _ ts env A l φ₀ φ₂ h₀ _ Q E hT hA' S₂ H₂ ((A₀.trans A₁.nil).trans A₂) P
            | _ => exact rf.elim
          · cases e
      refine wpAny_execs_cons ?_
      split at e
      · rename_i a₁ e1
        exact wpAny_If (IT _ ρ a true a₁ (evT_some e1) kn vs _ te env A l φ s _ E hA' S.toE H fun h₁ tk₁ φ₁ H₁ A₁ => br (tv := true) tb e H₁ A₁)
      · rename_i a₁ e1
        exact wpAny_If (IT _ ρ a false a₁ (evT_some e1) kn vs _ te env A l φ s _ E hA' S.toE H fun h₁ tk₁ φ₁ H₁ A₁ => br (tv := true) to e H₁ A₁)
      · cases e
    | assign hx hs te hc =>
      delta stepX at e
      try dsimp only at e
      split at e
      · rename_i a₁ e1
        cases e
        exact wpAny_execs_cons (wpAny_Assign_Name (viaX e1 te) (noswap te hc _ _ _))
      · split at e
        · rename_i ρ₁ a₁ e1
          exact viaS e1 t' e ts
        · cases e
    | unpack tt hs te h1 h2 =>
      delta stepX at e
      try dsimp only at e
      split at e
      · rename_i a₁ e1
        cases e
        exact wpAny_execs_cons (Assign_Tuple (viaX e1 te) (noswap_sole te h2 _ _ _) (nostores te h1 _ _ _ _))
      · split at e
        · rename_i ρ₁ a₁ e1
          exact viaS e1 t' e ts
        · cases e
    | _ => exact no_some e

/-- what is known of the class of the exceptions -/
structure BadCls (C : Cfg) (bc : Addr) (gs : List Str) : Prop where
  obj : ∃ nm q N bs bm hdct sn sub ab col dd k0 k1 k2 k3 k5 newId, C.base.get? bc = some (excClassObj nm q bc N bs bm hdct sn sub ab col dd k0 k1 k2 k3 k5 newId) ∧ bm.contains (.type "BaseException") = true
  name : nsIn C.K mainGlobals "BadOps" = some (some (.ref bc))

theorem bad_name (G : GOK C Γ gs) (BC : BadCls C bc gs) {kn : List (Str × NameKind)} {vs : List Str} {ρ : Rho} {φ : List Addr} {a : AS} {l : List Env} {p : Pos} {env : Env} {A : Around} {s : Shared} {Q : Value → Shared → Prop} {E : Value → Shared → Prop}
    (hk : kn.lookup ("BadOps" : Str) = some .globalImplicit) (hE : EOK C env kn vs ρ φ s.heap) (H : HOK C φ a l s.heap) (P : Q (.ref bc) s) : wpAny (model C.prog C.w) A (eval (.Name "BadOps" p) env) Q E s := by
  obtain ⟨pp, loose, mg, mb, T⟩ := G.top
  refine Calls.Name_function_global hE.kind (hE.glob _ hk) (Calls.loadGlobal_global (mg := mg) (v := .ref bc) ?_ (mg_of G.kin T.g BC.name) P) (by decide)
  rw [hE.globals]
  exact T.g.keeps H.stays

theorem stepTry_sound (G : GOK C Γ gs) (BC : BadCls C bc gs) (IE : SoundE C gs L n) (IR : SoundR C Γ bc L n) : SoundTry C Γ gs L n := by
  intro c i ρ a a' x e0 e1 hi kn vs st t env A l φ s Q E hT hA S H P
  obtain ⟨outer, rfl, hfr⟩ := hT
  cases t with
  | @tryc ex _ v p1 p2 p3 p4 p5 p6 p7 p8 hp k _ f te hk hf hx hk' hd =>
    subst hf
    refine wpAny_Try_except (wpAny_execs_cons (wpAny_Expr (x_raises G IE IR e1 te hA S.toE H fun ea B a0 φ' h' tk R fl => ?_) (by unfold interactive; rw [S.toE.kind]; rfl) (noswap te (by rintro _ _ _ _ _ rfl; exact no_some e1) _ _ _)))
    refine wpAny_looks_onW hA.frames hfr fl fun h₁ held u₁ => ?_
    have R₁ := R.move held.1 u₁ held.2.2.1
    refine wpAny_landsW held fun h₂ fl₂ u₂ => ?_
    have R₂ := R₁.move fl₂.1 u₂ fl₂.2.2.1
    refine wpAny_handleBy_cons (codeAny_handlers_test ?_) (by intro q; cases q)
    refine bad_name (s := { s with heap := h₂, toks := tk }) G BC hk (S.toE.aft R₂.aft H) R₂.hok ?_
    obtain ⟨nm, q, N, bs, bm, hdct, sn, sub, ab, col, dd, k0, k1, k2, k3, k5, newId, hC, hbase⟩ := BC.obj
    obtain ⟨ob, hob, hcl⟩ := fl₂.there
    refine wpAny_excMatches_sub_self (R₂.hok.stays _ _ hC) hob hcl hbase ?_
    refine codeAny_handlers_suite (lands_againW (s := { s with heap := h₂, toks := tk }) fl₂ fun h₃ fl₃ u₃ => ?_)
    have R₃ := R₂.move fl₃.1 u₃ fl₃.2.2.1
    have S₃ := S.aft R₃.aft H
    refine wpAny_execs_cons (wpAny_Assign_Name (binop_of (var_sound (s := { s with heap := h₃, toks := tk }) e0 hx hd S₃.toE fun u ru => ?_)) rfl)
    cases ru with
    | int _ tt =>
      refine show wpAny _ _ (mkInt _) _ _ _ from wpAny_mkInt (wpAny_add_int ?_)
      refine storeN_sound (F := frs (env :: outer)) (s := { s with heap := h₃, toks := tk + 1 + 1 }) hx (by unfold storeOkV; rw [hx]; simp [hk']) S₃ R₃.hok (.int _ _) fun h₄ tk₄ H₄ A₄ S₄ => wpAny_execs_nil ?_
      exact P φ' h₄ tk₄ .next trivial H₄ (R₃.aft.nil.trans A₄) S₄
end

end Mine
end

section
namespace Mine
open PySem PySem.W PyProof.Rows PySem.SeqAt

variable {C : Cfg} {Γ : Globs} {gs : List Str} {bc : Addr}

structure AllS (C : Cfg) (gs : List Str) (bc : Addr) (L : Lv) (n : Nat) : Prop where
  e : SoundE C gs L n
  t : SoundT C gs L n
  s : SoundS C gs L n
  f : SoundF C gs L n
  g : SoundG C gs L n
  x : SoundX C gs bc L n

/-- the evaluator tells what the run does -/
theorem all_sound (G : GOK C Γ gs) (FF : FnsOK C Γ gs) (SP : SoundSpin C Γ) (BD : SoundBad C gs bc) (BC : BadCls C bc gs) : ∀ n, AllS C gs bc (lvl Γ n) n
  | 0 => {
    e := fun _ _ _ _ _ e => by cases e
    t := fun _ _ _ _ _ e => by cases e
    s := fun _ _ _ _ _ _ e => by cases e
    f := fun _ _ _ _ _ _ _ _ e => by cases e
    g := fun _ _ _ _ _ _ _ _ e => by cases e
    x := fun _ _ _ _ e => by cases e }
  | n + 1 => by
    have I := all_sound G FF SP BD BC n
    have IC := stepC_sound G FF SP I.s
    have IK := stepK_sound G I.e I.g
    have IU := stepU_sound G I.e I.g
    have IR := stepR_sound G FF I.x
    have IY := stepTry_sound G BC I.e IR
    have E' := stepE_sound G I.e I.t IC IK
    exact ⟨E', stepT_sound G I.e I.t E', stepS_sound G I.e I.t I.s I.f IU IY, stepF_sound I.s I.f, stepG_sound I.e I.t I.g, stepX_sound G BD I.e I.t I.s I.f IU IY IR I.x⟩

end Mine
end

section
namespace Mine
open PySem PySem.W PyProof.Rows PySem.SeqAt

variable {C : Cfg} {Γ : Globs} {gs : List Str}

/-- what a draw gives -/
noncomputable def spinOf (ns : List Int) (c : Nat) (sz : Int) : Int := if c ≤ ns.length then (ns[c - 1]?.getD 0).fmod sz else ((c : Int) * c + 5 * c + (c : Int).fdiv 3).fmod sz

/-- the wheel is turned -/
theorem HOK.turn {φ : List Addr} {a : AS} {l : List Env} {h h' : Heap} {p : Int × D} {o : List (Int × D)} (H : HOK C φ a l h) (ho : a.o = p :: o) {c : Nat} {t t' : Tok} (hl : h.IsList C.W #[.ref C.S, .int (c : Int) t]) (hs : Heap.SameBut C.W h h')
    (hl' : h'.IsList C.W #[.ref C.S, .int ((c : Int) + 1) t']) : HOK C φ { a with o := o } l h' := by
  have k := hs.extBut
  have nt : ∀ ws, ¬ h.IsTuple C.W ws := fun ws ⟨o, ho, hc, _⟩ => by
    obtain ⟨o', ho', hc', _⟩ := hl
    rw [ho] at ho'; cases ho'; rw [hc] at hc'; simp at hc'
  have tk : TupK h h' := fun b ws ⟨o, ho, r⟩ => ⟨o, k b o (fun q => nt ws (q ▸ ⟨o, ho, r⟩)) ho, r⟩
  have neW : ∀ x ∈ φ, x ≠ C.W := fun x hx q => H.wout (q ▸ hx)
  refine ⟨fun b o e => k b o (fun q => by subst q; rw [H.wfresh] at e; cases e) (H.stays b o e), ?_, H.len, H.nodup, H.fresh, fun n xs e => ?_, ?_, fun x hx => ?_, H.fout, H.wfresh, H.wout, H.sout, H.sw⟩
  · exact frames_of H.frames fun L hL o ho hd => ⟨o, k _ _ (H.fout L hL).2.1 ho, hd⟩
  · obtain ⟨x, vs, e1, ⟨o, ho, r⟩, e3⟩ := H.cells n xs e
    exact ⟨x, vs, e1, ⟨o, k _ _ (neW x (List.mem_of_getElem? e1)) ho, r⟩, e3.mono tk List.prefix_rfl⟩
  · obtain ⟨c₁, t₁, vs, hW, ⟨o', ho', r'⟩, h1, h2, ⟨h3, h3'⟩, h4⟩ := H.wheel
    have hc : c₁ = c := by
      obtain ⟨o, ho, _, n, hd⟩ := hl
      obtain ⟨o₂, ho₂, _, n₂, hd₂⟩ := hW
      rw [ho] at ho₂; cases ho₂
      rw [hd] at hd₂
      have := (Data.seq.inj hd₂).1
      simp at this
      omega
    subst hc
    rw [ho] at h3 h4
    simp only [List.length_cons] at h3
    refine ⟨c₁ + 1, t', vs, by rw [show ((c₁ + 1 : Nat) : Int) = (c₁ : Int) + 1 by omega]; exact hl', ⟨o', k _ _ H.sw ho', r'⟩, h1, h2, ⟨by show c₁ + 1 + o.length = _; omega, h3'⟩, fun j sz d e => ?_⟩
    have := h4 (j + 1) sz d (by simpa using e)
    refine ⟨this.1, this.2.1, fun φ h u => ?_⟩
    have := this.2.2 φ h u
    rw [show c₁ + 1 + j + 1 = c₁ + (j + 1) + 1 by omega]; exact this
  · obtain ⟨vs, n, e⟩ := H.plain x hx
    exact ⟨vs, n, k _ _ (neW x hx) e⟩

theorem Aft.turn {φ X F : List Addr} {h h' : Heap} {ws ws' : Array Value} (hl : h.IsList C.W ws) (hs : Heap.SameBut C.W h h') (hl' : h'.IsList C.W ws') : Aft C φ φ X F h h' := by
  have k := hs.extBut
  have nt : ∀ ws, ¬ h.IsTuple C.W ws := fun ws ⟨o, ho, hc, _⟩ => by
    obtain ⟨o', ho', hc', _⟩ := hl
    rw [ho] at ho'; cases ho'; rw [hc] at hc'; simp at hc'
  refine ⟨fun b o e _ n2 _ => ⟨o.slots, k b o n2 e, fun _ => rfl⟩, List.prefix_rfl, fun _ h => .inl h, fun b e => ?_, fun b ws ⟨o, ho, r⟩ => ⟨o, k b o (fun q => nt ws (q ▸ ⟨o, ho, r⟩)) ho, r⟩⟩
  by_cases q : b = C.W
  · subst q; obtain ⟨o', ho', _⟩ := hl'; rw [ho']; rfl
  · obtain ⟨o, ho⟩ := Option.isSome_iff_exists.mp e
    rw [k b o q ho]; rfl

section
variable {kn : List (Str × NameKind)} {vs : List Str} {ρ : Rho} {env : Env} {A : Around} {φ : List Addr} {s : Shared} {E : Value → Shared → Prop}

/-- an item of the wheel -/
theorem wheel_item {x : Str} {i : Nat} {j : Nat} {p1 p2 p3 : Pos} {k : Nat} {ws : Array Value} {v : Value} {Q : Value → Shared → Prop} (hx : vs[i]? = some x) (e : getV ρ i = some .wheel) (hd : (x == ("__debug__" : Str)) = false) (hE : EOK C env kn vs ρ φ s.heap)
    (hl : s.heap.IsList C.W ws) (hj : j ≤ 10) (hv : ws[j]? = some v) (h : Q v { s with toks := s.toks + 1 }) : wpAny (model C.prog C.w) A (eval (.Subscript (.Name x p1) (.Constant (.int ((j : Nat) : Int)) k p2) p3) env) Q E s := by
  refine Subscript_ (var_sound e hx hd hE fun u ru => ?_)
  cases ru with
  | wheel =>
    refine show wpAny _ _ (mkInt _) _ _ _ from wpAny_mkInt ?_
    exact tail_any hl.typeIs slot_list_getitem.lookup (wpAny_getItem_list (k := ((j : Nat) : Int)) hl (by omega) (by omega) (by simpa using hv) h) (subscripted_notSlice rfl _ _)
end

theorem ints_get : ∀ {vs : List Value} {ns : List Int} {c : Nat}, IntsAre vs ns → c < vs.length → ∃ u, vs[c]? = some u ∧ ∃ t, u = .int (ns[c]?.getD 0) t
  | _, _, c, .nil, h => by simp at h
  | _, _, 0, .cons n t _, _ => ⟨_, rfl, t, rfl⟩
  | _, _, c + 1, .cons n t r, h => by
    obtain ⟨u, hu, t', e⟩ := ints_get r (c := c) (by simpa using h)
    exact ⟨u, by simpa using hu, t', by simpa using e⟩

/-- the shape of the drawing def's body -/
inductive SpinB : List Stmt → Prop
  | mk {k : Nat} {p0 p1 p2 p3 p4 p5 p6 p7 p8 p9 p10 p11 p12 p13 p14 p15 p16 p17 p18 p19 p20 p21 p22 p23 p24 p25 p26 p27 p28 p29 p30 p31 p32 p33 p34 p35 p36 p37 p38 p39 p40 p41 p42 p43 p44 p45 p46 p47 p48 p49 p50 p51 p52 : Pos} : SpinB [.Assign [(Expr.Subscript (.Name "wheel" p0) (.Constant (.int 1) k p1) p2)] (.BinOp (Expr.Subscript (.Name "wheel" p3) (.Constant (.int 1) k p4) p5) .Add (.Constant (.int 1) k p6) p7) p8,
   .If (.Compare (Expr.Subscript (.Name "wheel" p9) (.Constant (.int 1) k p10) p11) [.LtE] [.Call (.Name "len" p12) [(Expr.Subscript (.Name "wheel" p13) (.Constant (.int 0) k p14) p15)] [] p16] p17)
     [.Return (some (.BinOp (.Subscript (Expr.Subscript (.Name "wheel" p18) (.Constant (.int 0) k p19) p20) (.BinOp (Expr.Subscript (.Name "wheel" p21) (.Constant (.int 1) k p22) p23) .Sub (.Constant (.int 1) k p24) p25) p26) .Mod (.Name "size" p27) p28)) p29] [] p30,
   .Return (some (.BinOp (.BinOp (.BinOp (.BinOp (Expr.Subscript (.Name "wheel" p31) (.Constant (.int 1) k p32) p33) .Mult (Expr.Subscript (.Name "wheel" p34) (.Constant (.int 1) k p35) p36) p37) .Add (.BinOp (.Constant (.int 5) k p38) .Mult (Expr.Subscript (.Name "wheel" p39) (.Constant (.int 1) k p40) p41) p42) p43) .Add (.BinOp (Expr.Subscript (.Name "wheel" p44) (.Constant (.int 1) k p45) p46) .FloorDiv (.Constant (.int 3) k p47) p48) p49) .Mod (.Name "size" p50) p51)) p52]

section
variable {kn : List (Str × NameKind)} {env : Env} {A : Around} {φ : List Addr} {s : Shared} {E : Value → Shared → Prop} {l : List Env} {n : Nat} {a : AS}

theorem lte_eq {x y : Int} {t u : Tok} {Q : Value → Shared → Prop} (h : Q (.bool (decide (x ≤ y))) s) : wpAny (model C.prog C.w) A (compareOp .LtE (.int x t) (.int y u)) Q E s := PyProof.Rows.le_int h

theorem spin_body (G : GOK C Γ gs) (hsp : C.spinV = spinOf) {b : List Stmt} (B : SpinB b) {sz : Int} {d : D} {o : List (Int × D)} (ho : a.o = (sz, d) :: o) (hlen : kn.lookup ("len" : Str) = some .globalImplicit)
    (S : SOK C env kn ["wheel", "size"] [some .wheel, some (.int sz)] φ s.heap) (H : HOK C φ a l s.heap) {Q : Flow → Shared → Prop}
    (P : ∀ v h' tk, HOK C φ { a with o := o } l h' → Aft C φ φ (places kn env) (frs l) s.heap h' → Rd C φ h' v d → Q (.ret v) { s with heap := h', toks := tk }) : wpAny (model C.prog C.w) A (execs b env) Q E s := by
  obtain ⟨c, t, vs, hW, hS, hI, hns, ⟨hc1, hc2⟩, hd⟩ := H.wheel
  have hd0 := hd 0 sz d (by rw [ho]; rfl)
  obtain ⟨hsz, hsz', hrd⟩ := hd0
  rw [hsp] at hrd
  have hcb : (c : Int) ≤ 1000000 := by rw [ho] at hc1; simp only [List.length_cons] at hc1; omega
  have wd : (("wheel" : Str) == ("__debug__" : Str)) = false := by decide
  have zd : (("size" : Str) == ("__debug__" : Str)) = false := by decide
  cases B with
  | @mk k =>
  refine wpAny_execs_cons (wpAny_Assign_Subscript (binop_of (wheel_item (i := 0) (j := 1) rfl rfl wd S.toE hW (by omega) rfl ?_)) rfl)
  refine show wpAny _ _ (mkInt _) _ _ _ from wpAny_mkInt (wpAny_add_int ?_)
  have S1 : EOK C env kn ["wheel", "size"] [some .wheel, some (.int sz)] φ s.heap := S.toE
  refine var_sound (s := { s with toks := _ }) (i := 0) (d := .wheel) rfl rfl wd S1 fun u ru => ?_
  cases ru with
  | wheel =>
  refine show wpAny _ _ (mkInt _) _ _ _ from wpAny_mkInt ?_
  refine wpAny_setItem_list (k := 1) hW (by omega) (by omega) (by simp) fun h₁ hl₁ hs₁ => ?_
  have hl₁' : h₁.IsList C.W #[.ref C.S, .int ((c : Int) + 1) (s.toks + 1 + 1)] := hl₁
  have H₁ := H.turn ho hW hs₁ hl₁'
  have A₁ : Aft C φ φ (places kn env) (frs l) s.heap h₁ := Aft.turn hW hs₁ hl₁'
  have hS₁ : h₁.IsList C.S vs.toArray := let ⟨o', ho', r'⟩ := hS; ⟨o', hs₁.extBut _ _ H.sw ho', r'⟩
  have S₁ : SOK C env kn ["wheel", "size"] [some .wheel, some (.int sz)] φ h₁ := by
    refine S.own (Y := [C.W]) (fun b o hb => hs₁.extBut b o (by simpa using hb)) (fun y hy q => ?_) (fun y hy v hv => ?_) fun y hy ws hw => ?_
    · rw [List.mem_singleton.mp hy] at q
      obtain ⟨m, hn⟩ := S.ns
      exact ns_not_list hn _ (q ▸ hW)
    · rw [List.mem_singleton.mp hy] at hv
      exact cell_not_list hv _ hW
    · rw [List.mem_singleton.mp hy] at hw
      obtain ⟨o, ho, hc, _⟩ := hw
      obtain ⟨o', ho', hc', _⟩ := hW
      rw [ho] at ho'; cases ho'; rw [hc] at hc'; simp at hc'
  have w1 : ∀ {p1 p2 p3 : Pos} {tk : Nat} {Q : Value → Shared → Prop}, (∀ tk', Q (.int ((c : Int) + 1) (s.toks + 1 + 1)) { s with heap := h₁, toks := tk' }) →
      wpAny (model C.prog C.w) A (eval (.Subscript (.Name "wheel" p1) (.Constant (.int 1) k p2) p3) env) Q E { s with heap := h₁, toks := tk } := fun h => wheel_item (i := 0) (j := 1) rfl rfl wd S₁.toE hl₁' (by omega) rfl (h _)
  have w0 : ∀ {p1 p2 p3 : Pos} {tk : Nat} {Q : Value → Shared → Prop}, (∀ tk', Q (.ref C.S) { s with heap := h₁, toks := tk' }) →
      wpAny (model C.prog C.w) A (eval (.Subscript (.Name "wheel" p1) (.Constant (.int 0) k p2) p3) env) Q E { s with heap := h₁, toks := tk } := fun h => wheel_item (i := 0) (j := 0) rfl rfl wd S₁.toE hl₁' (by omega) rfl (h _)
  have num : ∀ {i : Int} {p : Pos} {tk : Nat} {Q : Value → Shared → Prop}, (∀ t tk', Q (.int i t) { s with heap := h₁, toks := tk' }) → wpAny (model C.prog C.w) A (eval (.Constant (.int i) k p) env) Q E { s with heap := h₁, toks := tk } := fun h =>
    show wpAny _ _ (mkInt _) _ _ _ from wpAny_mkInt (h _ _)
  have size : ∀ {p : Pos} {tk : Nat} {Q : Value → Shared → Prop}, (∀ t, Q (.int sz t) { s with heap := h₁, toks := tk }) → wpAny (model C.prog C.w) A (eval (.Name "size" p) env) Q E { s with heap := h₁, toks := tk } := fun h =>
    var_sound (i := 1) (d := .int sz) rfl rfl zd S₁.toE fun u ru => by cases ru with | int _ t => exact h t
  have fin : ∀ {x : Int} {u : Tok} {tk : Nat}, x = spinOf C.ns (c + 1) sz → Q (.ret (.int x u)) { s with heap := h₁, toks := tk } := fun {x u tk} e => by
    subst e
    exact P _ h₁ tk H₁ A₁ (hrd φ h₁ u)
  have hlenv : vs.length = C.ns.length := by have := hI.length; omega
  refine wpAny_execs_cons (wpAny_If (wpAny_isTrue_Compare1 (w1 fun tk₂ => ?_) rfl))
  refine Call_name1 rfl (builtin_sound (s := { s with heap := h₁, toks := tk₂ }) (v := .builtin "len") G (by simp) (by boot_fast) (by decide) hlen (by decide) S₁.toE H₁ ?_)
  refine callWith_builtin1 (w0 fun tk₃ => ?_)
  refine Calls.call_len_list hS₁ (by rw [List.size_toArray]; omega) (lte_eq (truthy_bool ?_))
  by_cases hle : ((c : Int) + 1 ≤ (vs.toArray.size : Int))
  · rw [if_pos (by simpa using hle)]
    have hlt : c < vs.length := by rw [List.size_toArray] at hle; omega
    refine wpAny_execs_cons (wpAny_Return_some (binop_of (Subscript_ (w0 fun tk₄ => binop_of (w1 fun tk₅ => num fun t₆ tk₆ => PyProof.Rows.sub_int ?_)))))
    obtain ⟨u, hu, hi⟩ : ∃ u, vs[c]? = some u ∧ ∃ t, u = .int (C.ns[c]?.getD 0) t := ints_get hI hlt
    obtain ⟨tt, rfl⟩ := hi
    refine tail_any hS₁.typeIs slot_list_getitem.lookup (wpAny_getItem_list hS₁ (by omega) (by omega) (x := .int (C.ns[c]?.getD 0) tt) (by rw [show ((c : Int) + 1 - 1).toNat = c by omega]; simpa using hu) (size fun t₇ => PyProof.Rows.mod_int (by omega) (fin ?_))) (subscripted_notSlice rfl _ _)
    unfold spinOf
    rw [if_pos (by omega)]
    rfl
  · rw [if_neg (by simpa using hle)]
    refine wpAny_execs_nil (wpAny_execs_cons (wpAny_Return_some (binop_of (binop_of (binop_of (binop_of (w1 fun tk₄ => w1 fun tk₅ => PyProof.Rows.mul_int ?_ (IntMulOk.of_left (intBits_le_64 (by omega) (by omega))))))))))
    refine binop_of (num fun t₆ tk₆ => w1 fun tk₇ => PyProof.Rows.mul_int ?_ (IntMulOk.of_left (intBits_le_64 (by omega) (by omega))))
    refine wpAny_add_int (binop_of (w1 fun tk₈ => num fun t₉ tk₉ => floordiv_int (by decide) ?_ (.inl (PyProof.noPylong_small (by decide)))))
    refine wpAny_add_int (size fun t₇ => PyProof.Rows.mod_int (by omega) (fin ?_))
    unfold spinOf
    rw [if_neg (by rw [List.size_toArray] at hle; omega)]
    rfl
end

end Mine
end

section
namespace Mine
open PySem PySem.W PyProof.Rows PySem.SeqAt

variable {C : Cfg} {Γ : Globs} {gs : List Str}

theorem spin_sound (G : GOK C Γ gs) (hsp : C.spinV = spinOf) (F : ∀ ad, C.fnA Γ.spin = some ad → ∃ o fd body, FnB C ad ⟨2, 2, []⟩ o fd body ["wheel", "size"] ∧ SpinB body ∧ fd.scope.names.lookup ("len" : Str) = some .globalImplicit) : SoundSpin C Γ := by
  intro ds a d a' L n e ad us A l φ s Q E had hA H r P
  unfold evCall at e
  rw [if_pos rfl] at e
  split at e
  · rename_i ds0 x0 sz sz' d' o' ho
    split at e
    · rename_i hq
      cases e
      subst hq
      obtain ⟨o, fd, body, FB, B, hlen⟩ := F ad had
      refine enter G FB (ρ := [some .wheel, some (.int sz)]) rfl hA H r fun env h₁ tk₁ hfr k₁ S H₁ hA₁ hdead => ?_
      refine spin_body (s := { s with heap := h₁, toks := tk₁ }) G hsp B ho hlen S H₁ fun v h' tk H' A' rv => ?_
      refine P v h' tk φ H'.pop (A'.back k₁ hdead fun x hx => ?_) rv
      have : x = env.locals ∨ x ∈ frs l := by
        unfold frs at hx
        rw [List.filterMap_cons, hfr] at hx
        exact List.mem_cons.mp hx
      rcases this with rfl | q
      · exact .inr (hdead _ (mem_places.mpr (.inl rfl)))
      · exact .inl q
    · cases e
  · cases e

end Mine
end

section
namespace Mine
open PySem PySem.W PyProof.Rows
open Builtin Builtin.ObjectAttr

noncomputable abbrev excM : List Value := [.type "Exception", .type "BaseException", .type "object"]

section
variable {prog : Program} {w : World} {A : Around} {E : Value → Shared → Prop} {h : Heap} {g : Array GenState} {d : Drawn} {t : Nat} {os : OsState} {K : Frag}
variable {nm q : Str} {B N P : Addr} {bs : List Value} {sn : List Str} {sub : List Value} {ab : Bool} {col : Option Bool} {dd : Option Addr} {k0 k1 k2 k3 k5 : Option Value}

/-- the own class of the exceptions, over an own class -/
noncomputable abbrev badObj (nm q : Str) (B N P : Addr) (bs : List Value) (sn : List Str) (sub : List Value) (ab : Bool) (col : Option Bool) (dd : Option Addr) (k0 k1 k2 k3 k5 : Option Value) : Obj :=
  excClassObj nm q B N bs (.ref P :: excM) true sn sub ab col dd k0 k1 k2 k3 k5 "Exception.__new__"

theorem bad_check_new {M : Model} {rest : List Value} {Q : Unit → Shared → Prop} (hC : h.get? B = some (badObj nm q B N P bs sn sub ab col dd k0 k1 k2 k3 k5))
    (hq : Q () ⟨h, g, d, t, os⟩) : wpAny M A (checkBuiltinCall "Exception.__new__" ⟨.ref B :: rest, []⟩) Q E ⟨h, g, d, t, os⟩ := by
  have F := PySem.F.excBase_Exception
  have hcont : (Value.ref B :: .ref P :: excM).contains (.type "Exception") = true := by simp
  have hstar := F.noStar
  simp only [checkBuiltinCall, F.newKind, F.newSplit, F.newRow]
  repeat (first | refine wpAny_loadPart_at hC ?_ | (refine wpAny_isSubtype_exc hC ?_; rw [hcont]) | refine wpAny_staticBase_exc hC ?_ | refine wpAny_madeBy_exc hC ?_ | simp only [bne_self_eq_false, Bool.false_eq_true, if_false] | wp_step)
  exact hq

theorem bad_new {R : Result → Shared → Prop} {rest : List Value} (hC : h.get? B = some (badObj nm q B N P bs sn sub ab col dd k0 k1 k2 k3 k5))
    (hq : R (.ok (.ret (.ref (h.objs.size + 1)))) ⟨(h.push { cls := .type "tuple", data := .seq rest.toArray }).push
      { cls := .ref B, data := .fields #[.ref h.objs.size, .none, .none, .none, .bool false, .none] }, g, d, t, os⟩) (hrest : rest.length ≤ sizeLine := by size_fits) :
    codeAny (model prog w) A (.builtin "Exception.__new__" ⟨.ref B :: rest, []⟩) R ⟨h, g, d, t, os⟩ := by
  have F := PySem.F.excBase_Exception
  have hends := F.ends
  have hcB : (Value.ref B :: .ref P :: excM).contains (.type "Exception") = true := by simp
  have hcA : (Value.ref B :: .ref P :: excM).contains (.type "AttributeError") = false := by simp
  have hcN : (Value.ref B :: .ref P :: excM).contains (.type "NameError") = false := by simp
  refine PySem.codeAny_builtinAt F.entry ?_
  unfold Builtin.«BaseException.__new__»
  refine PySem.wpAt_bind ?_
  show PySem.wpAt _ _ _ (stack >>= _) _ _ _
  refine PySem.wpAt_bind (PySem.wpAt_stack fun p below => PySem.wpAt_of_wpAny ?_)
  wp_walk
  refine PySem.wpAt_of_wpAny ?_
  rw [F.owner]
  repeat (first | with_reducible refine wpAny_madeHere_exc F.canon hC ?_ | with_reducible refine wpAny_loadPart_at hC ?_ | (with_reducible refine wpAny_isSubtype_exc hC ?_; first | rw [hcB] | rw [hcA] | rw [hcN]) | wp_step)
  show R _ _
  rw [Heap.size_push]
  exact hq

theorem bad_type_call {rest : List Value} {fI : Addr} {oI : Obj} {Q : Fin → Shared → Prop} (X : K.In h)
    (hC : h.get? B = some (badObj nm q B N P bs sn sub ab col dd k0 k1 k2 k3 k5)) (hi : findIn K (.ref B) "__init__" = some (some (.ref fI)))
    (hfI : h.get? fI = some oI) (hfc : oI.cls = .type "function")
    (hq : ∀ h' e, Heap.MadeExcOf h h' e (.ref B) rest →
      wpAny (model prog w) A (call (.ref fI) (.ref e :: rest)) (fun r s' => r = .none ∧ Q (.done (.ret (.ref e))) s') E ⟨h', g, d, t, os⟩) (hrest : rest.length ≤ sizeLine := by size_fits) :
    wpAny (model prog w) A (Builtin.«type.__call__» ⟨.ref B :: rest, []⟩) Q E ⟨h, g, d, t, os⟩ := by
  repeat (first | with_reducible refine wpAny_loadPart_at hC ?_ | with_reducible refine wpAny_madeBy_exc hC ?_ | wp_step)
  refine codeAny_call_builtin_code (Code.quiet_builtin _ PySem.F.excBase_Exception.quiet) (bad_check_new hC ?_)
  refine bad_new hC ?_ hrest
  show wpAny _ _ _ _ _ _
  have hk : ∀ b o, h.get? b = some o → ((h.push { cls := .type "tuple", data := .seq rest.toArray }).push { cls := .ref B, data := .fields #[.ref h.objs.size, .none, .none, .none, .bool false, .none] }).get? b = some o :=
    fun b o e => Heap.get?_push_of_some _ (Heap.get?_push_of_some _ e)
  have hC₁ := hk _ _ hC
  have hfI₁ := hk _ _ hfI
  have X₁ : K.In ((h.push { cls := .type "tuple", data := .seq rest.toArray }).push { cls := .ref B, data := .fields #[.ref h.objs.size, .none, .none, .none, .bool false, .none] }) := fun b o e => hk _ _ (X b o e)
  have hget : ((h.push { cls := .type "tuple", data := .seq rest.toArray }).push
      { cls := .ref B, data := .fields #[.ref h.objs.size, .none, .none, .none, .bool false, .none] }).get? (h.objs.size + 1) = some
      { cls := .ref B, data := .fields #[.ref h.objs.size, .none, .none, .none, .bool false, .none] } := by heap_get
  have hcC : (Value.ref B :: .ref P :: excM).contains (.ref B) = true := by simp
  unfold isInstance
  repeat (first | with_reducible refine wpAny_loadPart_at hget ?_ | (with_reducible refine wpAny_isSubtype_exc hC₁ ?_; rw [hcC]) | wp_step)
  show wpAny _ _ (typeLookup (.ref B) _) _ _ _
  refine looks_findIn X₁ hi _ _ _ _ (fun _ _ e => e) ?_
  refine wpAny_holding (wpAny_bind ?_)
  unfold bindSpecial
  refine wpAny_bind (wpAny_typeOf (T := "function") ⟨_, hfI₁, hfc⟩ ?_)
  rw [if_pos (by decide)]
  refine wpAny_pure (wpAny_bind (wpAny_mono (hq _ (h.objs.size + 1) ⟨hk, Heap.get?_none_of_le (Nat.le_succ _), h.objs.size, hget, Heap.get?_none_of_le (Nat.le_refl _), ?_⟩) (fun r s' hr => ?_) fun _ _ x => x))
  · exact Heap.get?_push_of_some _ (Heap.get?_push_at rfl rfl)
  · obtain ⟨rfl, hQ⟩ := hr
    wp_walk
    exact hQ

theorem bad_call {rest : List Value} {fI : Addr} {oI : Obj} {Q : Value → Shared → Prop} (X : K.In h)
    (hC : h.get? B = some (badObj nm q B N P bs sn sub ab col dd k0 k1 k2 k3 k5)) (hi : findIn K (.ref B) "__init__" = some (some (.ref fI)))
    (hfI : h.get? fI = some oI) (hfc : oI.cls = .type "function")
    (hq : ∀ h' e, Heap.MadeExcOf h h' e (.ref B) rest →
      wpAny (model prog w) (A.under (.builtin "type.__call__" ⟨.ref B :: rest, []⟩)) (call (.ref fI) (.ref e :: rest)) (fun r s' => r = .none ∧ Q (.ref e) s') E ⟨h', g, d, t, os⟩) (hrest : rest.length ≤ sizeLine := by size_fits) :
    wpAny (model prog w) A (call (.ref B) rest) Q E ⟨h, g, d, t, os⟩ := by
  have f1 := tc_lookup
  have f2 := tc_bind (.ref B)
  have hT : (⟨h, g, d, t, os⟩ : Shared).TypeIs (.ref B) "type" := ⟨_, hC, rfl⟩
  refine wpAny_call (codeAny_of_tree ?_)
  show wpAny _ _ (callAny (.ref B) _) _ _ _
  repeat (any_goals (first | assumption | with_reducible refine wpAny_loadPart_at hC ?_ | wp_step))
  refine ⟨rfl, ?_⟩
  refine codeAny_call_builtin_at (Code.quiet_builtin _ (by decide +kernel)) entry_typeCall (wpAny_check_type_call_sub hC (bad_type_call (hrest := hrest) X hC hi hfI hfc fun h' e hm => ?_))
  exact hq h' e hm

/-- Exception.__init__ on such an exception -/
theorem bad_init {e : Addr} {oe : Obj} {ws : Array Value} {t0 : Addr} {rest : List Value} {Q : Value → Shared → Prop} (hC : h.get? B = some (badObj nm q B N P bs sn sub ab col dd k0 k1 k2 k3 k5)) (he : h.get? e = some oe) (hcls : oe.cls = .ref B) (hd : oe.data = .fields ws)
    (h0 : ws[0]? = some (.ref t0))
    (hQ : Q .none ⟨(h.push { cls := .type "tuple", data := .seq rest.toArray }).update e (Obj.mapFields (·.setIfInBounds 0 (.ref h.objs.size))), g, d, t, os⟩) (hrest : rest.length ≤ sizeLine := by size_fits) :
    wpAny (model prog w) A (call (.builtin "Exception.__init__") (.ref e :: rest)) Q E ⟨h, g, d, t, os⟩ := by
  have F := PySem.F.excBase_Exception
  have hck : ∀ {A' : Around} {Q' : Unit → Shared → Prop} {E' : Value → Shared → Prop}, Q' () ⟨h, g, d, t, os⟩ → wpAny (model prog w) A' (checkBuiltinCall "Exception.__init__" ⟨.ref e :: rest, []⟩) Q' E' ⟨h, g, d, t, os⟩ := fun {A' Q' E'} hq => by
    have hcB : (Value.ref B :: .ref P :: excM).contains (.type "Exception") = true := by simp
    have hshort := F.noStar
    simp only [checkBuiltinCall, F.initKind, F.initSplit, F.initRow]
    repeat (first | (with_reducible refine wpAny_loadPart_at he ?_; rw [hcls]) | with_reducible refine wpAny_loadPart_at hC ?_ | (with_reducible refine wpAny_isSubtype_exc hC ?_; rw [hcB]) | wp_step)
    refine wpAny_onRaise ?_
    rw [show ∀ (a b : String) (n : Nat), Bind.check ⟨.positional, "*", "Exception", .self, [⟨"args", .varPos, false⟩]⟩ a b n (List.map (fun x => x.fst) ({ pos := Value.ref e :: rest } : Args).kw) = pure () from
      fun a b n => check_star_args _ _ _ _ _ _]
    exact wpAny_pure hq
  refine wpAny_call (codeAny_call_builtin F.init.plain F.initEntry (hck ?_))
  unfold Builtin.«BaseException.__init__»
  dsimp only
  rw [if_neg (by simp)]
  unfold newTuple Builtin.BaseException.bexcPut
  have hsz : 0 < ws.size := (Array.getElem?_eq_some_iff.mp h0).1
  have he₁ := Heap.get?_push_of_some (h := h) { cls := .type "tuple", data := .seq rest.toArray } he
  refine wpAny_bind (wpAny_newObj_type (wpAny_bind (wpAny_bind (wpAny_field he₁ hd h0 (wpAny_bind (wpAny_setField he₁ hd hsz ?_))))) (by show rest.toArray.size ≤ sizeLine; rw [List.size_toArray]; exact hrest))
  exact wpAny_letGo (wpAny_pure hQ)
end

end Mine
end

section
namespace Mine
open PySem PySem.W PyProof.Rows
open Builtin Builtin.ObjectAttr

section
variable {prog : Program} {w : World} {A : Around} {E : Value → Shared → Prop} {h : Heap} {g : Array GenState} {d : Drawn} {t : Nat} {os : OsState} {K : Frag}
variable {nm q : Str} {B N P : Addr} {bs : List Value} {sn : List Str} {sub : List Value} {ab : Bool} {col : Option Bool} {dd : Option Addr} {k0 k1 k2 k3 k5 : Option Value}

theorem bad_osa {tk : Tok} {name : Str} {v : Value} {e : Addr} {oe : Obj} {ws : Array Value} {Q : Fin → Shared → Prop} (X : K.In h) (hf : findIn K (.ref B) name = some none) (hC : h.get? B = some (badObj nm q B N P bs sn sub ab col dd k0 k1 k2 k3 k5))
    (he : h.get? e = some oe) (hc : oe.cls = .ref B) (hdt : oe.data = .fields ws) (hdn : oe.dict = none)
    (hq : ∀ h' tk' dx, (∀ b o, b ≠ e → h.get? b = some o → h'.get? b = some o) → h'.get? e = some { cls := oe.cls, dict := some dx, data := oe.data, slots := oe.slots } → Q (.done (.ret .none)) ⟨h', g, d, tk', os⟩) :
    wpAny (model prog w) A (Builtin.«object.__setattr__» ⟨[.ref e, .str name tk, v], []⟩) Q E ⟨h, g, d, t, os⟩ := by
  have SF := PySem.F.store_Exception
  have hpass := SF.passes (.ref e)
  have L : ∀ {Q' : Option Value → Shared → Prop}, Q' none ⟨h, g, d, t, os⟩ → wpAny (model prog w) A (typeLookup (.ref B) name) Q' E ⟨h, g, d, t, os⟩ := fun hq => looks_findIn X hf _ _ _ _ (fun _ _ e => e) hq
  unfold Builtin.«object.__setattr__»
  repeat (first | rw [refuse_eq] | (rw [refuseLoop_ref, refuseLoop_ref, hpass]) | (with_reducible refine wpAny_loadPart_at he ?_; rw [hc]) | with_reducible refine wpAny_mroOf_exc hC ?_ | (with_reducible refine L ?_) | wp_step)
  rw [hdn, if_neg (by simp [typeHasDict])]
  split
  · rename_i hcd
    cases hcd
  split
  · rename_i c hcd
    rw [hdt] at hcd; cases hcd
  · have he₁ : (h.push { cls := .type "dict", data := .dict #[] }).get? e = some oe := Heap.get?_push_of_some _ he
    have hes : e ≠ h.objs.size := Nat.ne_of_lt (Heap.lt_size he)
    refine wpAny_bind (wpAny_alloc' ?_)
    refine wpAny_bind (wpAny_update' he₁ ?_)
    refine wpAny_pure ?_
    have hgd : ((h.push { cls := .type "dict", data := .dict #[] }).update e fun o => { cls := o.cls, dict := some h.objs.size, data := o.data, slots := o.slots }).get? h.objs.size
        = some { cls := .type "dict", data := .dict #[] } :=
      (Heap.get?_update_ne _ _ _ _ hes.symm).trans (Heap.get?_push_at rfl rfl)
    have hnd : ((h.push { cls := .type "dict", data := .dict #[] }).update e fun o => { cls := o.cls, dict := some h.objs.size, data := o.data, slots := o.slots }).Ns h.objs.size (fun _ => none) :=
      ⟨_, #[], _, hgd, rfl, fun e he => absurd he (by simp), fun _ => rfl⟩
    show wpAny _ _ (storeInDict h.objs.size (.str name tk) name v) _ _ _
    unfold storeInDict newKeyGuard
    refine wpAny_bind (wpAny_pure (wpAny_bind (wpAny_nsSet1 (Heap.Ns1.of_empty hnd) fun h' hn' hs => ?_)))
    obtain ⟨oD, esD, epD, hoD, hdD, hcD⟩ := hn'.count (Within.cons name v Within.nil)
    refine wpAny_bind (wpAny_lookBehind hoD (by rw [hdD]; exact pastItsLine_dict (Nat.le_trans hcD (by rw [List.length_cons, List.length_nil, sizeLine_eq]; omega))) ?_)
    wp_walk
    refine hq h' _ h.objs.size (fun b ob hbx hb => ?_) ?_
    · exact (hs.2 b (Nat.ne_of_lt (Heap.lt_size hb))).trans ((Heap.get?_update_ne _ _ _ _ hbx).trans (Heap.get?_push_of_some _ hb))
    · refine (hs.2 e hes).trans (Heap.get?_update_self _ he₁ ?_)
      obtain ⟨oc, od, odt, osl⟩ := oe
      dsimp only at hdt
      subst hdt
      rfl

theorem bad_setattr {name : Str} {v : Value} {e : Addr} {oe : Obj} {ws : Array Value} {Q : Unit → Shared → Prop} (X : K.In h) (hs : findIn K (.ref B) "__setattr__" = some (some (.builtin "object.__setattr__"))) (hf : findIn K (.ref B) name = some none)
    (hC : h.get? B = some (badObj nm q B N P bs sn sub ab col dd k0 k1 k2 k3 k5)) (he : h.get? e = some oe) (hc : oe.cls = .ref B) (hdt : oe.data = .fields ws) (hdn : oe.dict = none)
    (hq : ∀ h' tk' dx, (∀ b o, b ≠ e → h.get? b = some o → h'.get? b = some o) → h'.get? e = some { cls := oe.cls, dict := some dx, data := oe.data, slots := oe.slots } → Q () ⟨h', g, d, tk', os⟩) :
    wpAny (model prog w) A (setAttr (.ref e) name v) Q E ⟨h, g, d, t, os⟩ := by
  have SF := PySem.F.store_Exception
  have I : InstAt h e oe B none := ⟨he, hc, by unfold notCls; rw [hdt], by rw [hdn]; trivial⟩
  refine set_plain (s := ⟨h, g, d, t, os⟩) X I hs ?_
  have hcB : (Value.ref B :: .ref P :: excM).contains (.type "object") = true := by simp
  have hck : ∀ {A' : Around} {Q' : Unit → Shared → Prop} {E' : Value → Shared → Prop}, Q' () ⟨h, g, d, t + 1, os⟩ → wpAny (model prog w) A' (checkBuiltinCall "object.__setattr__" ⟨[.ref e, .str name t, v], []⟩) Q' E' ⟨h, g, d, t + 1, os⟩ := fun {A' Q' E'} hq => by
    simp only [checkBuiltinCall, SF.kind, SF.split]
    refine wpAny_bind ?_
    unfold isInstance
    repeat (first | (with_reducible refine wpAny_loadPart_at he ?_; rw [hc]) | (with_reducible refine wpAny_isSubtype_exc hC ?_; rw [hcB]) | wp_step)
    exact hq
  refine codeAny_call_builtin SF.slot.plain SF.entry (hck ?_)
  exact bad_osa (tk := t) X hf hC he hc hdt hdn fun h' tk' dx hk hx => hq h' tk' dx hk hx
end

end Mine
end

section
namespace Mine
open PySem PySem.W PyProof.Rows PySem.SeqAt

inductive InitB : List Stmt → Prop
  | mk {p0 p1 p2 p3 p4 p5 p6 p7 p8 p9 : Pos} : (p1.endLine == p4.line) = true →
    InitB [.Expr (.Call (.Attribute (.Name "Exception" p0) "__init__" p1) [.Name "self" p2, .Name "text" p3] [] p4) p5, .Assign [.Attribute (.Name "self" p6) "text" p7] (.Name "text" p8) p9]

section
variable {prog : Program} {w : World} {A : Around} {E : Value → Shared → Prop} {s : Shared} {K : Frag}

theorem exc_method {pl : Sem Bool} {Q : Value × List Value → Shared → Prop} (X : K.In s.heap) (hf : findCls K (.type "Exception") (.type "type") "__init__" = some (.val (.builtin "Exception.__init__")))
    (h : Q (.builtin "Exception.__init__", []) { s with toks := s.toks + 1 }) : wpAny (model prog w) A (getMethod (.type "Exception") "__init__" pl) Q E s := by
  have L0 : Looks (model prog w) s.heap (typeOf (.type "Exception")) (.type "type") := Looks.of_pure (kitMeta_of (by decide +kernel))
  have hg : findIn K (.type "type") "__getattribute__" = some (some (.builtin "type.__getattribute__")) := type_tga
  have hstub : opaqueClassAbove (.type "Exception") = pure none := by unfold opaqueClassAbove; dsimp only; rw [show Manifest.isStub "Exception" = false by decide +kernel]; rfl
  have LO : Looks (model prog w) s.heap (opaqueClassAbove (.type "Exception")) none := Looks.of_pure hstub
  unfold getMethod
  refine wpAny_bind (wpAny_bind (L0.here ((looks_findIn X hg).here ?_)))
  dsimp only
  rw [if_pos canon_tga]
  refine wpAny_bind (cls_open X LO L0 hg (looks_hook X (r := none) (by rfl)) (by show subIn K _ _ = _; rfl) hf ?_)
  exact wpAny_pure (handed_on rfl (wpAny_pure h))
end

/-- what is known of the class of the exceptions, whole -/
structure BadFacts (C : Cfg) (bc fI : Addr) : Prop where
  obj : ∃ nm q N P bs sn sub ab col dd k0 k1 k2 k3 k5, C.base.get? bc = some (badObj nm q bc N P bs sn sub ab col dd k0 k1 k2 k3 k5)
  name : nsIn C.K mainGlobals "BadOps" = some (some (.ref bc))
  init : findIn C.K (.ref bc) "__init__" = some (some (.ref fI))
  initT : ∃ o, C.base.get? fI = some o ∧ o.cls = .type "function"
  sat : findIn C.K (.ref bc) "__setattr__" = some (some (.builtin "object.__setattr__"))
  text : findIn C.K (.ref bc) "text" = some none
  exc : nsIn C.K mainGlobals "Exception" = some none
  fnd : findCls C.K (.type "Exception") (.type "type") "__init__" = some (.val (.builtin "Exception.__init__"))
  fn : ∃ o fd body, FnB C fI ⟨2, 2, []⟩ o fd body ["self", "text"] ∧ InitB body ∧ fd.scope.names.lookup ("Exception" : Str) = some .globalImplicit ∧ fd.scope.names.lookup ("self" : Str) = some .local ∧ fd.scope.names.lookup ("text" : Str) = some .local

variable {C : Cfg} {Γ : Globs} {gs : List Str} {bc fI : Addr}

section
variable {A : Around} {E : Value → Shared → Prop} {s : Shared} {env : Env}

theorem init_body (G : GOK C Γ gs) (BF : BadFacts C bc fI) {b : List Stmt} (B : InitB b) (kind : env.scope.kind = .function) (globals : env.globals = mainGlobals) (builtins : env.builtins = builtinsNs)
    (he : env.kindOf "Exception" = some .globalImplicit) (hs : env.kindOf "self" = some .local) (ht : env.kindOf "text" = some .local) (st : C.base.StaysIn s.heap)
    {m : Str → Option Value} {e t : Addr} {v : Value} (hn : s.heap.Ns env.locals m) (m1 : m "self" = some (.ref e)) (m2 : m "text" = some v) (hv : ∀ a, v ≠ .ref a)
    (hob : s.heap.get? e = some { cls := .ref bc, data := .fields #[.ref t, .none, .none, .none, .bool false, .none] }) (hb : C.base.get? e = none) {Q : Flow → Shared → Prop}
    (P : ∀ h' tk, (∀ b o, b ≠ e → s.heap.get? b = some o → h'.get? b = some o) → (∃ t' dx, h'.get? e = some { cls := .ref bc, dict := some dx, data := .fields #[.ref t', .none, .none, .none, .bool false, .none] }) → Q .next { s with heap := h', toks := tk }) :
    wpAny (model C.prog C.w) A (execs b env) Q E s := by
  obtain ⟨pp, loose, mg, mb, T⟩ := G.top
  obtain ⟨nm, q, N, P', bs, sn, sub, ab, col, dd, k0, k1, k2, k3, k5, hC⟩ := BF.obj
  have hne : bc ≠ e := fun q => by rw [q, hb] at hC; cases hC
  cases B with
  | @mk p0 p1 p2 p3 p4 p5 p6 p7 p8 p9 hline =>
  have X : C.K.In s.heap := fun a o q => st _ _ (G.kin _ _ q)
  refine wpAny_execs_cons (wpAny_Expr ?_ (by unfold interactive; rw [kind]; rfl) rfl)
  rw [arm_eval_Call]
  refine wpAny_bind ?_
  show wpAny _ A (eval (.Name "Exception" p0) env) _ E s
  refine Calls.Name_function_global kind he (Calls.loadGlobal_builtin (mg := mg) (mb := mb) (v := .type "Exception") ?_ (mg_none_of G.kin T.g BF.exc) ?_ ((T.builtins "Exception" (by decide)).trans (by boot_fast)) ?_) (by decide)
  · rw [globals]; exact T.g.keeps st
  · rw [builtins]; exact T.b.keeps st
  refine wpAny_bind (wpAny_standAt ?_)
  have hform : methodCallForm ([Expr.Name "self" p2, .Name "text" p3].length + ([] : List Keyword).length) (backTo p4 (starEach [Expr.Name "self" p2, .Name "text" p3] env)) (backToKw p4 (keywordEach [] env)) = true := rfl
  have hpos : methodCallPos true (.Name "Exception" p0) env p1 p4 = pure p4 := by unfold methodCallPos; simp [hline]
  unfold methodCall
  rw [hform]
  refine wpAny_bind (wpAny_holding (exc_method X BF.fnd ?_))
  refine wpAny_bind (wpAny_of_eq hpos ?_)
  refine Calls.callWith_builtin rfl (Calls.evalArgs_plain (Calls.spliced_cons (wpAny_Name (wpAny_loadName_local kind hs hn m1 (Calls.spliced_cons (wpAny_Name (wpAny_loadName_local kind ht hn m2 (Calls.spliced_nil ?_)) (by decide)))) (by decide))))
  obtain ⟨hh, g, d, tk, os⟩ := s
  dsimp only at hn hob st X P ⊢
  refine bad_init (rest := [v]) (st _ _ hC) hob rfl rfl rfl ?_
  have hek : ∀ b o, b ≠ e → hh.get? b = some o → ((hh.push { cls := .type "tuple", data := .seq [v].toArray }).update e (Obj.mapFields (·.setIfInBounds 0 (.ref hh.objs.size)))).get? b = some o := fun b o hb e' =>
    (Heap.get?_update_other _ _ (Ne.symm hb)).trans (Heap.get?_push_of_some _ e')
  have hob' : ((hh.push { cls := .type "tuple", data := .seq [v].toArray }).update e (Obj.mapFields (·.setIfInBounds 0 (.ref hh.objs.size)))).get? e = some { cls := .ref bc, data := .fields #[.ref hh.objs.size, .none, .none, .none, .bool false, .none] } :=
    Heap.get?_update_self _ (Heap.get?_push_of_some _ hob) rfl
  generalize (hh.push { cls := .type "tuple", data := .seq [v].toArray }).update e (Obj.mapFields (·.setIfInBounds 0 (.ref hh.objs.size))) = h₂ at hek hob' ⊢
  have hLe : env.locals ≠ e := fun q => by
    obtain ⟨o, _, _, ho, hd, _⟩ := hn
    rw [q, hob] at ho; cases ho; cases hd
  have hn₂ : h₂.Ns env.locals m := let ⟨o, es, ep, ho, r⟩ := hn; ⟨o, es, ep, hek _ _ hLe ho, r⟩
  have st₂ : C.base.StaysIn h₂ := fun a o q => hek _ _ (fun z => by rw [z, hb] at q; cases q) (st _ _ q)
  have X₂ : C.K.In h₂ := fun a o q => st₂ _ _ (G.kin _ _ q)
  refine wpAny_execs_cons ?_
  rw [arm_exec_Assign]
  refine wpAny_bind (wpAny_standAt (wpAny_bind (wpAny_pure ?_)))
  rw [if_neg (by decide)]
  refine wpAny_bind (wpAny_Name (wpAny_loadName_local kind ht hn₂ m2 ?_) (by decide))
  refine wpAny_bind (wpAny_pure ?_)
  show wpAny _ A (assign (.Attribute (.Name "self" p6) "text" p7) env v >>= fun _ => pure Flow.next) _ E _
  refine wpAny_bind ?_
  rw [arm_assign_Attribute]
  refine wpAny_bind (wpAny_holding (wpAny_Name (wpAny_loadName_local kind hs hn₂ m1 ?_) (by decide)))
  refine wpAny_bind (wpAny_standAt (wpAny_bind (wpAny_holding ?_)))
  refine bad_setattr X₂ BF.sat BF.text (st₂ _ _ hC) hob' rfl rfl rfl fun h₃ tk₃ dx hk₃ he₃ => ?_
  refine wpAny_release (wpAny_pure (wpAny_execs_nil ?_))
  exact P h₃ tk₃ (fun b o hb e' => hk₃ b o hb (hek b o hb e')) ⟨_, dx, he₃⟩
end

end Mine
end

section
namespace Mine
open PySem PySem.W PyProof.Rows PySem.SeqAt

theorem weight_bad (b : Addr) (rest : List Value) : (Code.builtin "type.__call__" ⟨.ref b :: rest, []⟩).weight = 1 := by kernel_rfl

section
variable {M : Model} {A : Around} {E : Value → Shared → Prop} {env : Env}
variable {nm q : Str} {B N P : Addr} {bs : List Value} {sn : List Str} {sub : List Value} {ab : Bool} {col : Option Bool} {dd : Option Addr} {k0 k1 k2 k3 k5 : Option Value}

theorem bad_raiseStmt {s : Shared} {x : Sem Value} {Q : Flow → Shared → Prop} (hh : A.handled = none)
    (h : wpAny M A x (fun v s₁ => ∃ e t dx, v = .ref e ∧ s₁.heap.get? B = some (badObj nm q B N P bs sn sub ab col dd k0 k1 k2 k3 k5) ∧
      s₁.heap.get? e = some { cls := .ref B, dict := some dx, data := .fields #[.ref t, .none, .none, .none, .bool false, .none] } ∧ E (.ref e) s₁) E s) :
    wpAny M A (raiseStmt env (some x) none) Q E s := by
  have hcB : (Value.ref B :: .ref P :: excM).contains (.type "BaseException") = true := by simp
  unfold raiseStmt
  refine wpAny_bind (wpAny_mono h (fun v s₁ h₁ => ?_) fun _ _ x => x)
  obtain ⟨e, t, dx, rfl, hC, he, hE⟩ := h₁
  obtain ⟨hp, g, d, tk, os⟩ := s₁
  repeat (first | with_reducible refine wpAny_loadPart_at he ?_ | with_reducible refine wpAny_loadPart_at hC ?_ | (with_reducible refine wpAny_isSubtype_exc hC ?_; rw [hcB]) | wp_step)
  exact wpAny_raiseNew_none hh hE
end

variable {C : Cfg} {Γ : Globs} {gs : List Str} {bc fI : Addr}

theorem BadFacts.cls (BF : BadFacts C bc fI) : BadCls C bc gs := by
  obtain ⟨nm, q, N, P', bs, sn, sub, ab, col, dd, k0, k1, k2, k3, k5, hC⟩ := BF.obj
  exact ⟨⟨_, _, _, _, _, _, _, _, _, _, _, _, _, _, _, _, _, hC, by simp⟩, BF.name⟩

theorem bad_sound (G : GOK C Γ gs) (BF : BadFacts C bc fI) : SoundBad C gs bc := by
  intro kn vs st t ρ a n env A l φ s Q E hA hE H P
  cases t with
  | @raise_ p f str k p' p'' p''' hk hf hlen =>
  subst hf
  obtain ⟨pp, loose, mg, mb, T⟩ := G.top
  obtain ⟨nm, q, N, P', bs, sn, sub, ab, col, dd, k0, k1, k2, k3, k5, hC⟩ := BF.obj
  rw [arm_exec_Raise]
  refine wpAny_bind (wpAny_standAt ?_)
  show wpAny _ A (raiseStmt env (some (eval (.Call (.Name "BadOps" p) [.Constant (.str str) k p'] [] p'') env >>= fun v => standAt p''' >>= fun _ => pure v)) none) _ E s
  refine bad_raiseStmt (B := bc) (nm := nm) (q := q) (N := N) (P := P') (bs := bs) (sn := sn) (sub := sub) (ab := ab) (col := col) (dd := dd) (k0 := k0) (k1 := k1) (k2 := k2) (k3 := k3) (k5 := k5) hA.hand ?_
  refine wpAny_bind (wpAny_Call_Name_kw ?_)
  refine bad_name G BF.cls hk hE H ?_
  unfold callWith
  refine wpAny_bind (wpAny_holding (args_plain rfl (Calls.spliced_cons (Calls.Constant_str (k := k) (pos := p') (Calls.spliced_nil ?_)))))
  refine wpAny_bind (wpAny_standAt ?_)
  have hplain : (backTo p'' (starEach [Expr.Constant (.str str) k p'] env)).any (·.1) = false := rfl
  simp only [hplain]
  obtain ⟨hh, g, d, tk, os⟩ := s
  dsimp only at hE H P ⊢
  have stays := H.stays
  refine wpAny_bind (wpAny_keeperOf_exc (stays _ _ hC) ?_)
  obtain ⟨oI, hoI, hcI⟩ := BF.initT
  refine wpAny_bind ?_
  refine bad_call (fI := fI) (K := C.K) (fun a o q => stays _ _ (G.kin _ _ q)) (stays _ _ hC) BF.init (stays _ _ hoI) hcI fun h₁ e hm => ?_
  obtain ⟨tt, hob, htn, htt⟩ := hm.there
  obtain ⟨o, fd, body, F, IB, n1, n2, n3⟩ := BF.fn
  have st₁ : C.base.StaysIn h₁ := fun b o q => hm.keeps _ _ (stays _ _ q)
  have hb : C.base.get? e = none := by
    cases q : C.base.get? e with
    | none => rfl
    | some o => have := stays _ _ q; rw [hm.new] at this; cases this
  refine wpAny_call (codeAny_call_cells (fd := fd) (binds := [("self", .ref e), ("text", .str str tk)]) ?_ (st₁ _ _ F.obj) F.data (T.nolimit.keeps st₁)
    (by obtain ⟨c, o, ws, t, hc, ho, hd, hv⟩ := F.code; exact ⟨c, o, ws, t, hc, st₁ _ _ ho, hd, hv⟩) F.stm (F.bind [.ref e, .str str tk] rfl) F.clo (fun x hx => ?_) (fun s₁ ic => ?_) F.co F.gen F.kind)
  · have := hA.depth
    show A.depth + (Code.builtin "type.__call__" ⟨.ref bc :: [.str str tk], []⟩).weight < 1000
    rw [weight_bad]; omega
  · simp only [List.mem_cons, List.not_mem_nil, or_false] at hx
    rcases hx with rfl | rfl
    · exact .inl n2
    · exact .inl n3
  · obtain ⟨h₂, tk₂, rfl⟩ := ic.toInCall.same
    have k₂ := ic.toInCall.keep
    dsimp only at k₂
    generalize henv : callEnvC fd h₁.objs.size fI = en at ic ⊢
    have e1 : en.scope = fd.scope := by rw [← henv]; rfl
    have e4 : en.globals = mainGlobals := by rw [← henv]; exact F.globals
    have e5 : en.builtins = builtinsNs := by rw [← henv]; exact F.builtins
    have hkind : ∀ x, en.kindOf x = fd.scope.names.lookup x := fun x => by rw [← henv]; rfl
    have hn : h₂.Ns en.locals _ := ic.toInCall.ns
    have hnd : (([("self", .ref e), ("text", .str str tk)] : List (Str × Value)).map (·.1)).Nodup := show (["self", "text"] : List Str).Nodup by decide
    refine init_body (s := ⟨h₂, g, d, tk₂, os⟩) G BF IB (by rw [e1]; exact F.kind) e4 e5 ((hkind _).trans n1) ((hkind _).trans n2) ((hkind _).trans n3) (fun b o q => k₂ _ _ (st₁ _ _ q)) hn
      (bindL_get (v := .ref e) hnd (by simp) ((hkind _).trans n2)) (bindL_get (v := .str str tk) hnd (by simp) ((hkind _).trans n3)) (fun _ q => by cases q) (k₂ _ _ hob) hb fun h₃ tk₃ hk₃ ⟨t', dx, he₃⟩ => ?_
    refine ⟨rfl, wpAny_bind (wpAny_holding (wpAny_point (wpAny_pure ?_)))⟩
    have keepAll : ∀ b o, hh.get? b = some o → h₃.get? b = some o := fun b o q => hk₃ b o (fun z => by rw [z, hm.new] at q; cases q) (k₂ _ _ (hm.keeps _ _ q))
    refine wpAny_bind (wpAny_standAt (wpAny_pure ⟨e, t', dx, rfl, keepAll _ _ (stays _ _ hC), he₃, ?_⟩))
    exact P e (.ref t') h₃ tk₃ keepAll hm.new ⟨_, _, he₃, rfl, rfl, rfl, rfl⟩
end Mine
end

section
namespace Mine
open PySem PySem.W PyProof.Rows

noncomputable abbrev KH (w : World) : Frag := Q.KQ w.params

noncomputable def fdOf (K : Frag) (ad : Addr) : Option FuncData := match K.lookup ad with
  | some ⟨_, _, .func fd, _⟩ => some fd
  | _ => none

theorem fdOf_some {K : Frag} {ad : Addr} {fd : FuncData} (e : fdOf K ad = some fd) : ∃ o, K.lookup ad = some o ∧ o.data = .func fd := by
  unfold fdOf at e
  split at e
  · rename_i h; cases e; exact ⟨_, h, rfl⟩
  · cases e

theorem map_some {α β : Type} {o : Option α} {f : α → β} {b : β} (e : o.map f = some b) {a : α} (h : o = some a) : f a = b := by subst h; simpa using e

/-- what is looked up of a def -/
noncomputable abbrev defFacts (K : Frag) (fd : FuncData) := (fd.body, fd.scope.names, fd.closure, fd.globals, fd.builtins, fd.scope.isCoroutine, fd.scope.isGenerator, fd.scope.kind, codeIn K fd.code fd.qualname)

theorem fn_base {C : Cfg} (X : C.K.In C.base) {ad : Addr} {f : FnX} {vs : List Str} {body : List Stmt} {names : List (Str × NameKind)}
    (h1 : (fdOf C.K ad).map (defFacts C.K) = some (.stmts body, names, [], mainGlobals, builtinsNs, false, false, .function, true))
    (h2 : ∀ us : List Value, us.length = f.params → ((fdOf C.K ad).map fun fd => bindArgs fd ⟨us, []⟩) = some (pure ((vs.take f.params).zip us)))
    (h3 : vs.Nodup) (h4 : f.params ≤ vs.length) (h5 : ((vs.take f.params).all fun x => decide (names.lookup x = some .local) || decide (names.lookup x = some .cell)) = true) :
    ∃ o fd, FnB C ad f o fd body vs ∧ fd.scope.names = names := by
  cases hf : fdOf C.K ad with
  | none => rw [hf] at h1; cases h1
  | some fd =>
    have e := map_some h1 hf
    simp only [Prod.mk.injEq] at e
    obtain ⟨e1, e2, e3, e4, e5, e6, e7, e8, e9⟩ := e
    obtain ⟨o, ho, hd⟩ := fdOf_some hf
    refine ⟨o, fd, ⟨X _ _ ho, hd, e1, e3, e4, e5, codeRec_of X e9, e6, e7, e8, h3, h4, fun us hu => map_some (h2 us hu) hf, fun x hx => ?_⟩, e2⟩
    have := List.all_eq_true.mp h5 x hx
    rw [e2]
    simpa using this

theorem fn_whole {C : Cfg} (X : C.K.In C.base) {gs : List Str} {ad : Addr} {f : FnX} {vs : List Str} {body : List Stmt} {names : List (Str × NameKind)} (t : TrSs names vs gs body f.body)
    (h1 : (fdOf C.K ad).map (defFacts C.K) = some (.stmts body, names, [], mainGlobals, builtinsNs, false, false, .function, true))
    (h2 : ∀ us : List Value, us.length = f.params → ((fdOf C.K ad).map fun fd => bindArgs fd ⟨us, []⟩) = some (pure ((vs.take f.params).zip us)))
    (h3 : vs.Nodup) (h4 : f.params ≤ vs.length) (h5 : ((vs.take f.params).all fun x => decide (names.lookup x = some .local) || decide (names.lookup x = some .cell)) = true) :
    ∃ o fd body vs, FnOK C gs ad f o fd body vs := by
  obtain ⟨o, fd, B, e⟩ := fn_base X h1 h2 h3 h4 h5
  exact ⟨o, fd, body, vs, B, e ▸ t⟩

noncomputable def fnL : List (Option Addr) := [none, none, none, none, none, some 185, some 192, some 197, some 204, some 211, some 218, some 225, some 307, some 314, some 321, some 326, some 331, some 338, some 343, some 350, some 355]
noncomputable def fnH (k : Nat) : Option Addr := match fnL[k]? with | some (some a) => some a | _ => none
noncomputable def tabH (k : Nat) : Option Addr := match k with | 0 => some 47 | 1 => some 178 | _ => none

/-- what the walk of one call knows -/
noncomputable def cfg (prog : Program) (w : World) (base : Heap) (θ : Nat → Int) (W S : Addr) (ns : List Int) (c0 m : Nat) : Cfg :=
  { prog, w, K := KH w, base, θ, W, S, ns, c0, m, spinV := spinOf, fnA := fnH, tabA := tabH }

section
variable {prog : Program} {w : World} {base : Heap} {θ : Nat → Int} {W S : Addr} {ns : List Int} {c0 m : Nat}
theorem len0 {us : List Value} (h : us.length = 0) : us = [] := by cases us with | nil => rfl | cons a r => cases h
theorem lenS {us : List Value} {n : Nat} (h : us.length = n + 1) : ∃ a r, us = a :: r ∧ r.length = n := by cases us with | nil => cases h | cons a r => exact ⟨a, r, rfl, Nat.succ.inj h⟩
theorem len1 {us : List Value} (h : us.length = 1) : ∃ a, us = [a] := by obtain ⟨a, r, rfl, h'⟩ := lenS h; cases len0 h'; exact ⟨a, rfl⟩
theorem len2 {us : List Value} (h : us.length = 2) : ∃ a b, us = [a, b] := by obtain ⟨a, r, rfl, h'⟩ := lenS h; obtain ⟨b, rfl⟩ := len1 h'; exact ⟨a, b, rfl⟩
theorem len3 {us : List Value} (h : us.length = 3) : ∃ a b c, us = [a, b, c] := by obtain ⟨a, r, rfl, h'⟩ := lenS h; obtain ⟨b, c, rfl⟩ := len2 h'; exact ⟨a, b, c, rfl⟩
theorem len4 {us : List Value} (h : us.length = 4) : ∃ a b c d, us = [a, b, c, d] := by obtain ⟨a, r, rfl, h'⟩ := lenS h; obtain ⟨b, c, d, rfl⟩ := len3 h'; exact ⟨a, b, c, d, rfl⟩
theorem ok_5 (X : (KH w).In base) : ∃ o fd body vs, FnOK (cfg prog w base θ W S ns c0 m) gsN 185 x_shape_of o fd body vs :=
  fn_whole (C := cfg prog w base θ W S ns c0 m) X tr_shape_of (by kernel_rfl) (fun us h => by obtain ⟨a, rfl⟩ := len1 h; kernel_rfl) (by decide) (by decide) (by decide +kernel)
theorem ok_6 (X : (KH w).In base) : ∃ o fd body vs, FnOK (cfg prog w base θ W S ns c0 m) gsN 192 x_effect_of o fd body vs :=
  fn_whole (C := cfg prog w base θ W S ns c0 m) X tr_effect_of (by kernel_rfl) (fun us h => by obtain ⟨a, rfl⟩ := len1 h; kernel_rfl) (by decide) (by decide) (by decide +kernel)
theorem ok_7 (X : (KH w).In base) : ∃ o fd body vs, FnOK (cfg prog w base θ W S ns c0 m) gsN 197 x_jumps_of o fd body vs :=
  fn_whole (C := cfg prog w base θ W S ns c0 m) X tr_jumps_of (by kernel_rfl) (fun us h => by obtain ⟨a, rfl⟩ := len1 h; kernel_rfl) (by decide) (by decide) (by decide +kernel)
theorem ok_8 (X : (KH w).In base) : ∃ o fd body vs, FnOK (cfg prog w base θ W S ns c0 m) gsN 204 x_with_jumps o fd body vs :=
  fn_whole (C := cfg prog w base θ W S ns c0 m) X tr_with_jumps (by kernel_rfl) (fun us h => by obtain ⟨a, b, rfl⟩ := len2 h; kernel_rfl) (by decide) (by decide) (by decide +kernel)
theorem ok_9 (X : (KH w).In base) : ∃ o fd body vs, FnOK (cfg prog w base θ W S ns c0 m) gsN 211 x_goes_on o fd body vs :=
  fn_whole (C := cfg prog w base θ W S ns c0 m) X tr_goes_on (by kernel_rfl) (fun us h => by obtain ⟨a, rfl⟩ := len1 h; kernel_rfl) (by decide) (by decide) (by decide +kernel)
theorem ok_10 (X : (KH w).In base) : ∃ o fd body vs, FnOK (cfg prog w base θ W S ns c0 m) gsN 218 x_heights_at o fd body vs :=
  fn_whole (C := cfg prog w base θ W S ns c0 m) X tr_heights_at (by kernel_rfl) (fun us h => by obtain ⟨a, rfl⟩ := len1 h; kernel_rfl) (by decide) (by decide) (by decide +kernel)
theorem ok_11 (X : (KH w).In base) : ∃ o fd body vs, FnOK (cfg prog w base θ W S ns c0 m) gsN 225 x_subs_used o fd body vs :=
  fn_whole (C := cfg prog w base θ W S ns c0 m) X tr_subs_used (by kernel_rfl) (fun us h => by obtain ⟨a, rfl⟩ := len1 h; kernel_rfl) (by decide) (by decide) (by decide +kernel)
theorem ok_12 (X : (KH w).In base) : ∃ o fd body vs, FnOK (cfg prog w base θ W S ns c0 m) gsN 307 x_law_all o fd body vs :=
  fn_whole (C := cfg prog w base θ W S ns c0 m) X tr_law_all (by kernel_rfl) (fun us h => by cases len0 h; kernel_rfl) (by decide) (by decide) (by decide +kernel)
theorem ok_14 (X : (KH w).In base) : ∃ o fd body vs, FnOK (cfg prog w base θ W S ns c0 m) gsN 321 x_law_filled o fd body vs :=
  fn_whole (C := cfg prog w base θ W S ns c0 m) X tr_law_filled (by kernel_rfl) (fun us h => by obtain ⟨a, b, c, rfl⟩ := len3 h; kernel_rfl) (by decide) (by decide) (by decide +kernel)
theorem ok_15 (X : (KH w).In base) : ∃ o fd body vs, FnOK (cfg prog w base θ W S ns c0 m) gsN 326 x_law_of o fd body vs :=
  fn_whole (C := cfg prog w base θ W S ns c0 m) X tr_law_of (by kernel_rfl) (fun us h => by obtain ⟨a, b, c, rfl⟩ := len3 h; kernel_rfl) (by decide) (by decide) (by decide +kernel)
theorem ok_16 (X : (KH w).In base) : ∃ o fd body vs, FnOK (cfg prog w base θ W S ns c0 m) gsN 331 x_law_entries o fd body vs :=
  fn_whole (C := cfg prog w base θ W S ns c0 m) X tr_law_entries (by kernel_rfl) (fun us h => by obtain ⟨a, b, c, d, rfl⟩ := len4 h; kernel_rfl) (by decide) (by decide) (by decide +kernel)
theorem ok_17 (X : (KH w).In base) : ∃ o fd body vs, FnOK (cfg prog w base θ W S ns c0 m) gsN 338 x_law_ends o fd body vs :=
  fn_whole (C := cfg prog w base θ W S ns c0 m) X tr_law_ends (by kernel_rfl) (fun us h => by obtain ⟨a, rfl⟩ := len1 h; kernel_rfl) (by decide) (by decide) (by decide +kernel)
theorem ok_18 (X : (KH w).In base) : ∃ o fd body vs, FnOK (cfg prog w base θ W S ns c0 m) gsN 343 x_law_ways o fd body vs :=
  fn_whole (C := cfg prog w base θ W S ns c0 m) X tr_law_ways (by kernel_rfl) (fun us h => by obtain ⟨a, b, c, rfl⟩ := len3 h; kernel_rfl) (by decide) (by decide) (by decide +kernel)
theorem ok_19 (X : (KH w).In base) : ∃ o fd body vs, FnOK (cfg prog w base θ W S ns c0 m) gsN 350 x_law_refused o fd body vs :=
  fn_whole (C := cfg prog w base θ W S ns c0 m) X tr_law_refused (by kernel_rfl) (fun us h => by obtain ⟨a, rfl⟩ := len1 h; kernel_rfl) (by decide) (by decide) (by decide +kernel)
theorem ok_20 (X : (KH w).In base) : ∃ o fd body vs, FnOK (cfg prog w base θ W S ns c0 m) gsN 355 x_law_is_right o fd body vs :=
  fn_whole (C := cfg prog w base θ W S ns c0 m) X tr_law_is_right (by kernel_rfl) (fun us h => by obtain ⟨a, b, rfl⟩ := len2 h; kernel_rfl) (by decide) (by decide) (by decide +kernel)
theorem spin_fn (X : (KH w).In base) : ∃ o fd body, FnB (cfg prog w base θ W S ns c0 m) 314 ⟨2, 2, []⟩ o fd body ["wheel", "size"] ∧ SpinB body ∧ fd.scope.names.lookup ("len" : Str) = some .globalImplicit := by
  obtain ⟨o, fd, B, e⟩ := fn_base (C := cfg prog w base θ W S ns c0 m) (ad := 314) (f := ⟨2, 2, []⟩) (vs := ["wheel", "size"]) (body := bodyAt 18) (names := namesAt 18) X (by kernel_rfl) (fun us h => by obtain ⟨a, b, rfl⟩ := len2 h; kernel_rfl) (by decide) (by decide) (by decide +kernel)
  exact ⟨o, fd, _, B, .mk, by rw [e]; decide +kernel⟩

theorem fns_ok (X : (KH w).In base) : FnsOK (cfg prog w base θ W S ns c0 m) Γ0 gsN := by
  intro k f ad hk hf ha
  replace ha : fnH k = some ad := ha
  rcases k with _ | k
  · cases ha
  rcases k with _ | k
  · cases ha
  rcases k with _ | k
  · cases ha
  rcases k with _ | k
  · cases ha
  rcases k with _ | k
  · cases ha
  rcases k with _ | k
  · cases hf; cases ha; exact ok_5 X
  rcases k with _ | k
  · cases hf; cases ha; exact ok_6 X
  rcases k with _ | k
  · cases hf; cases ha; exact ok_7 X
  rcases k with _ | k
  · cases hf; cases ha; exact ok_8 X
  rcases k with _ | k
  · cases hf; cases ha; exact ok_9 X
  rcases k with _ | k
  · cases hf; cases ha; exact ok_10 X
  rcases k with _ | k
  · cases hf; cases ha; exact ok_11 X
  rcases k with _ | k
  · cases hf; cases ha; exact ok_12 X
  rcases k with _ | k
  · exact absurd rfl hk
  rcases k with _ | k
  · cases hf; cases ha; exact ok_14 X
  rcases k with _ | k
  · cases hf; cases ha; exact ok_15 X
  rcases k with _ | k
  · cases hf; cases ha; exact ok_16 X
  rcases k with _ | k
  · cases hf; cases ha; exact ok_17 X
  rcases k with _ | k
  · cases hf; cases ha; exact ok_18 X
  rcases k with _ | k
  · cases hf; cases ha; exact ok_19 X
  rcases k with _ | k
  · cases hf; cases ha; exact ok_20 X
  exact absurd ha (by show (match fnL[k + 21]? with | some (some a) => some a | _ => none) ≠ some ad; rw [List.getElem?_eq_none (by show 21 ≤ k + 21; omega)]; simp)
end

end Mine
end

section
namespace Mine
open PySem PySem.W PyProof.Rows

mutual
/-- does a value of the top stand for a datum? -/
noncomputable def rdOk (K : Frag) (fnA tabA : Nat → Option Addr) : Nat → Value → D → Bool
  | 0, _, _ => false
  | n + 1, v, d => match v, d with
    | .none, .none => true
    | .int i _, .int j => i == j
    | .str x _, .str l => x.cps.toList == l && okS l
    | .ref a, .tup xs => match K.lookup a with
      | some ⟨.type t, _, .seq vs _, _⟩ => t == "tuple" && rdOkL K fnA tabA n vs.toList xs
      | _ => false
    | .ref a, .clst xs => match K.lookup a with
      | some ⟨.type t, _, .seq vs _, _⟩ => t == "list" && rdOkL K fnA tabA n vs.toList xs
      | _ => false
    | .ref a, .fn k => fnA k == some a
    | .ref a, .tab k => tabA k == some a
    | _, _ => false
noncomputable def rdOkL (K : Frag) (fnA tabA : Nat → Option Addr) : Nat → List Value → List D → Bool
  | 0, _, _ => false
  | _ + 1, [], [] => true
  | n + 1, v :: vs, d :: ds => rdOk K fnA tabA n v d && rdOkL K fnA tabA n vs ds
  | _, _, _ => false
end

mutual
theorem rdOk_sound {C : Cfg} (X : C.K.In C.base) {φ : List Addr} {h : Heap} (B : C.base.StaysIn h) : ∀ {n : Nat} {v : Value} {d : D}, rdOk C.K C.fnA C.tabA n v d = true → Rd C φ h v d
  | 0, _, _, e => by simp [rdOk] at e
  | n + 1, v, d, e => by
    unfold rdOk at e
    split at e
    · exact .none
    · rename_i i t j
      have : i = j := by simpa using e
      subst this; exact .int _ _
    · rename_i x t l
      simp only [Bool.and_eq_true, beq_iff_eq] at e
      exact .str _ _ _ e.1 e.2
    · rename_i a xs
      split at e
      · rename_i t dd vs nn sl hl
        simp only [Bool.and_eq_true, beq_iff_eq] at e
        obtain ⟨rfl, e⟩ := e
        exact .tup ⟨_, B _ _ (X _ _ hl), rfl, _, rfl⟩ (rdOkL_sound X B e)
      · cases e
    · rename_i a xs
      split at e
      · rename_i t dd vs nn sl hl
        simp only [Bool.and_eq_true, beq_iff_eq] at e
        obtain ⟨rfl, e⟩ := e
        exact .clst ⟨_, X _ _ hl, rfl, _, rfl⟩ (rdOkL_sound X B e)
      · cases e
    · exact .fn (by simpa using e)
    · exact .tab (by simpa using e)
    · cases e
theorem rdOkL_sound {C : Cfg} (X : C.K.In C.base) {φ : List Addr} {h : Heap} (B : C.base.StaysIn h) : ∀ {n : Nat} {vs : List Value} {ds : List D}, rdOkL C.K C.fnA C.tabA n vs ds = true → RdL C φ h vs ds
  | 0, _, _, e => by simp [rdOkL] at e
  | _ + 1, [], [], _ => .nil
  | n + 1, v :: vs, d :: ds, e => by
    simp only [rdOkL, Bool.and_eq_true] at e
    exact .cons (rdOk_sound X B e.1) (rdOkL_sound X B e.2)
  | _ + 1, [], _ :: _, e => by simp [rdOkL] at e
  | _ + 1, _ :: _, [], e => by simp [rdOkL] at e
end

noncomputable def globChk (K : Frag) (fnA tabA : Nat → Option Addr) : List (Option D) → List Str → Bool
  | some d :: gd, x :: gs => (match nsIn K mainGlobals x with | some (some v) => rdOk K fnA tabA 100 v d | _ => false) && globChk K fnA tabA gd gs
  | none :: gd, _ :: gs => globChk K fnA tabA gd gs
  | _, _ => true

theorem globChk_sound {C : Cfg} (X : C.K.In C.base) : ∀ {gd : List (Option D)} {gs : List Str}, globChk C.K C.fnA C.tabA gd gs = true → ∀ {k : Nat} {d : D} {x : Str}, gd[k]? = some (some d) → gs[k]? = some x →
    ∃ v, nsIn C.K mainGlobals x = some (some v) ∧ ∀ φ h, C.base.StaysIn h → Rd C φ h v d := by
  intro gd
  induction gd with
  | nil => intro gs e k d x e1; simp at e1
  | cons g gd ih =>
    intro gs e k d' x e1 e2
    cases gs with
    | nil => simp at e2
    | cons y gs =>
      cases g with
      | none =>
        cases k with
        | zero => simp at e1
        | succ k =>
          simp only [globChk] at e
          exact ih e (by simpa using e1) (by simpa using e2)
      | some d =>
        simp only [globChk, Bool.and_eq_true] at e
        cases k with
        | zero =>
          simp only [List.getElem?_cons_zero, Option.some.injEq] at e1 e2
          subst e1 e2
          obtain ⟨e, _⟩ := e
          split at e
          · rename_i v hv; exact ⟨v, hv, fun φ h B => rdOk_sound X B e⟩
          · cases e
        | succ k => exact ih e.2 (by simpa using e1) (by simpa using e2)


noncomputable def tabChk (K : Frag) (fnA tabA : Nat → Option Addr) : List DictEntry → List (List Nat × D) → Bool
  | [], [] => true
  | e :: es, (k, d) :: r => (match e.key with | .str x _ => x.cps.toList == k | _ => false) && rdOk K fnA tabA 100 e.val d && tabChk K fnA tabA es r
  | _, _ => false

theorem tabChk_sound {C : Cfg} (X : C.K.In C.base) : ∀ {es : List DictEntry} {r : List (List Nat × D)}, tabChk C.K C.fnA C.tabA es r = true → TabL C es r
  | [], [], _ => .nil
  | e :: es, (k, d) :: r, h => by
    simp only [tabChk, Bool.and_eq_true] at h
    obtain ⟨⟨h1, h2⟩, h3⟩ := h
    split at h1
    · rename_i x t hk
      exact .cons hk (by simpa using h1) (fun φ h B => rdOk_sound X B h2) (tabChk_sound X h3)
    · cases h1
  | [], _ :: _, h => by simp [tabChk] at h
  | _ :: _, [], h => by simp [tabChk] at h

noncomputable def litOf (P : Params) (l : List (Str × Tok × Value)) : List DictEntry := l.map fun p => { hash := PyData.keyHash P p.1, key := .str p.1 p.2.1, val := p.2.2 }
theorem litOf_lit (P : Params) : ∀ l, KeysLit P (litOf P l)
  | [] => trivial
  | (x, t, v) :: r => ⟨⟨x, t, rfl, rfl⟩, litOf_lit P r⟩
noncomputable def stripE (l : List DictEntry) : List (Str × Tok × Value) := l.map fun e => match e.key with | .str x t => (x, t, e.val) | _ => (⟨#[]⟩, 0, e.val)

noncomputable def entOf (K : Frag) (ad : Addr) : Option (List DictEntry) := match K.lookup ad with
  | some ⟨.type t, none, .dict es _, sl⟩ => if t == "dict" && sl == #[] then some es.toList else none
  | _ => none
theorem entOf_some {K : Frag} {ad : Addr} {l : List DictEntry} (e : entOf K ad = some l) : ∃ es n, K.lookup ad = some ⟨.type "dict", none, .dict es n, #[]⟩ ∧ es.toList = l := by
  unfold entOf at e
  split at e
  · rename_i t es n sl hl
    split at e
    · rename_i hc
      simp only [Bool.and_eq_true, beq_iff_eq] at hc
      obtain ⟨rfl, rfl⟩ := hc
      cases e
      exact ⟨es, n, hl, rfl⟩
    · cases e
  · cases e

theorem tab_ok {C : Cfg} (X : C.K.In C.base) {k : Nat} {ad : Addr} {t : List (List Nat × D)} (h1 : C.tabA k = some ad) (h2 : (entOf C.K ad).map (fun l => tabChk C.K C.fnA C.tabA l t) = some true)
    (h3 : (entOf C.K ad).map (fun l => l) = (entOf C.K ad).map (fun l => litOf C.w.params (stripE l))) (h4 : (ad == sysModules) = false) : TabOk C k t := by
  cases he : entOf C.K ad with
  | none => rw [he] at h2; cases h2
  | some l =>
    obtain ⟨es, n, hl, rfl⟩ := entOf_some he
    rw [he] at h3
    simp only [Option.map_some, Option.some.injEq] at h3
    exact ⟨ad, es, n, h1, hl, by rw [h3]; exact litOf_lit _ _, h4, tabChk_sound X (map_some h2 he)⟩

section
variable {prog : Program} {w : World} {base : Heap} {θ : Nat → Int} {W S : Addr} {ns : List Int} {c0 m : Nat}

theorem glob_chk (w : World) : globChk (KH w) fnH tabH Γ0.gd gsN = true := by kernel_rfl

theorem fnObj_ok (X : (KH w).In base) {k : Nat} {ad : Addr} (e : fnH k = some ad) : ∃ o fd, base.get? ad = some o ∧ o.data = .func fd := by
  have hall : fnL.all (fun a => match a with | some a => (fdOf (KH w) a).isSome | none => true) = true := by kernel_rfl
  unfold fnH at e
  split at e
  · rename_i a ha
    cases e
    have := List.all_eq_true.mp hall _ (List.mem_of_getElem? ha)
    obtain ⟨fd, hf⟩ := Option.isSome_iff_exists.mp this
    obtain ⟨o, ho, hd⟩ := fdOf_some hf
    exact ⟨o, fd, X _ _ ho, hd⟩
  · cases e

theorem gok (X : (KH w).In base) (T : ∃ p loose mg mb, TopRead p loose mg mb base) : GOK (cfg prog w base θ W S ns c0 m) Γ0 gsN where
  kin := X
  top := T
  tabs := fun k t e => by
    match k, e with
    | 0, e => cases e; exact tab_ok (C := cfg prog w base θ W S ns c0 m) (ad := 47) X rfl (by kernel_rfl) (by kernel_rfl) (by decide +kernel)
    | 1, e => cases e; exact tab_ok (C := cfg prog w base θ W S ns c0 m) (ad := 178) X rfl (by kernel_rfl) (by kernel_rfl) (by decide +kernel)
    | k + 2, e => simp [Γ0] at e
  glob := fun k d x e1 e2 => globChk_sound (C := cfg prog w base θ W S ns c0 m) X (glob_chk w) e1 e2
  fnObj := fun k ad e => fnObj_ok X e
  bi := fun x hx => by
    simp only [List.mem_cons, List.not_mem_nil, or_false] at hx
    rcases hx with rfl | rfl | rfl | rfl | rfl <;> kernel_rfl

noncomputable def initSt : Stmt := match stAt 1 with
  | .ClassDef _ _ _ (st :: _) _ _ _ _ _ _ _ => st
  | st => st
noncomputable def initBody : List Stmt := match initSt with
  | .FunctionDef _ _ b _ _ _ _ _ _ _ => b
  | _ => []
noncomputable def initNames : List (Str × NameKind) := match initSt with
  | .FunctionDef _ _ _ _ _ _ sc _ _ _ => sc.names
  | _ => []

theorem bad_facts (X : (KH w).In base) : BadFacts (cfg prog w base θ W S ns c0 m) 44 28 where
  obj := ⟨"BadOps", "BadOps", 43, 31, [.ref 31], [], [], false, none, none, some (.ref 35), none, some (.str "BadOps" 218), some (.str "BadOps" 226), some (.bool true), X _ _ (by kernel_rfl)⟩
  name := by kernel_rfl
  init := by kernel_rfl
  initT := by
    obtain ⟨fd, hf⟩ := Option.isSome_iff_exists.mp (show (((KH w).lookup 28).isSome) = true by kernel_rfl)
    refine ⟨fd, X _ _ hf, ?_⟩
    have h1 : ((KH w).lookup 28).map (·.cls) = some (.type "function") := by kernel_rfl
    exact map_some h1 hf
  sat := by kernel_rfl
  text := by kernel_rfl
  exc := by kernel_rfl
  fnd := by kernel_rfl
  fn := by
    obtain ⟨o, fd, B, e⟩ := fn_base (C := cfg prog w base θ W S ns c0 m) (ad := 28) (f := ⟨2, 2, []⟩) (vs := ["self", "text"]) (body := initBody) (names := initNames) X (by kernel_rfl) (fun us h => by obtain ⟨a, b, rfl⟩ := len2 h; kernel_rfl) (by decide) (by decide) (by decide +kernel)
    exact ⟨o, fd, _, B, .mk rfl, by rw [e]; decide +kernel, by rw [e]; decide +kernel, by rw [e]; decide +kernel⟩
end

end Mine
end

section
namespace Mine
open PySem PySem.W PyProof.Rows

/-- the draws of a list of parts: places and numbers of codes stand as unknowns -/
noncomputable def draws : List Nat → Nat → List (List (Int × D))
  | [], _ => [[]]
  | 0 :: r, k => (draws r (k + 1)).map fun l => ((4 : Int), D.pick k) :: l
  | 1 :: r, k => (draws r (k + 1)).map fun l => ((40 : Int), D.sym k 0) :: l
  | 2 :: r, k => (draws r (k + 1)).flatMap fun l => (List.range 5).map fun (i : Nat) => ((5 : Int), D.int (i : Int)) :: l
  | 3 :: r, k => (draws r (k + 1)).flatMap fun l => (List.range 3).map fun (i : Nat) => ((3 : Int), D.int (i : Int)) :: l
  | 4 :: r, k => (draws r (k + 1)).flatMap fun l => (List.range 3).map fun (i : Nat) => ((3 : Int), D.int (i : Int)) :: l
  | 5 :: r, k => (draws r (k + 1)).map fun l => ((6 : Int), D.sym k 0) :: l
  | _ :: r, k => (draws r (k + 1)).flatMap fun l => (List.range 6).map fun (i : Nat) => ((6 : Int), D.int (i : Int)) :: l
noncomputable def partsOf : D → List Nat
  | .tup [_, _, _, .clst xs] => xs.map fun | .int i => i.toNat | _ => 99
  | _ => []

noncomputable def allW : List D := match evCall Γ0 (lvl Γ0 60) 12 [] ⟨[], []⟩ with
  | some (.lst n, a) => (a.σ[n]?).getD []
  | _ => []

/-- one run of the law's check -/
noncomputable def rightC (t : D) (o : List (Int × D)) : Bool := match evCall Γ0 (lvl Γ0 60) 20 [.wheel, t] ⟨[], o⟩ with
  | some (.bool true, a) => a.o.isEmpty
  | _ => false

noncomputable def rightAll (l : List D) : Bool := l.all fun t => decide ((partsOf t).length ≤ 5) && (draws (partsOf t) 0).all fun o => rightC t o

/-- the law's own words, as the evaluator tells them, in parts -/
noncomputable def wp0 : List D := [.tup [.str [101, 109, 112, 116, 121], .int 0, .int 1, .clst []],
  .tup [.str [119, 97, 110, 116, 101, 100], .int 0, .int 1, .clst []],
  .tup [.str [99, 111, 110, 115, 116], .int 0, .int 1, .clst [.int 0]],
  .tup [.str [114, 101, 102, 117, 115, 101], .int 0, .int 1, .clst [.int 0]],
  .tup [.str [109, 97, 116, 99, 104, 118, 97, 114], .int 0, .int 1, .clst [.int 0]]]
noncomputable def wp1 : List D := [.tup [.str [99, 111, 100, 101], .int 0, .int 1, .clst [.int 0]],
  .tup [.str [99, 111, 100, 101, 102, 111, 114], .int 0, .int 1, .clst [.int 0]],
  .tup [.str [99, 111, 100, 101, 116, 104, 101, 114, 101], .int 0, .int 1, .clst [.int 0]],
  .tup [.str [112, 97, 100], .int 0, .int 1, .clst [.int 0, .int 0]],
  .tup [.str [109, 121], .int 0, .int 1, .clst [.int 0, .int 0]]]
noncomputable def wp2 : List D := [.tup [.str [103, 108, 111, 98], .int 0, .int 1, .clst [.int 0, .int 0]],
  .tup [.str [108, 111, 99, 97, 108, 103, 108, 111, 98], .int 0, .int 1, .clst [.int 0, .int 0]],
  .tup [.str [97, 112, 112, 101, 110, 100], .int 0, .int 1, .clst [.int 2]],
  .tup [.str [115, 117, 98, 115, 116, 114, 108, 118], .int 0, .int 1, .clst [.int 2]],
  .tup [.str [99, 108, 111, 115, 117, 114, 101], .int 0, .int 1, .clst [.int 5]]]
noncomputable def wp3 : List D := [.tup [.str [100, 101, 102, 105, 110, 101, 115, 117, 98], .int 0, .int 0, .clst [.int 5]],
  .tup [.str [100, 114, 111, 112], .int 1, .int 0, .clst []],
  .tup [.str [114, 101, 116, 117, 114, 110, 49], .int 1, .int 0, .clst []],
  .tup [.str [114, 101, 116, 117, 114, 110, 50], .int 1, .int 0, .clst []],
  .tup [.str [100, 117, 112], .int 1, .int 2, .clst []]]
noncomputable def wp4 : List D := [.tup [.str [115, 119, 97, 112], .int 2, .int 2, .clst []],
  .tup [.str [118, 101, 99, 108, 118], .int 3, .int 1, .clst []],
  .tup [.str [118, 105, 118, 105, 102, 121], .int 1, .int 1, .clst [.int 0]],
  .tup [.str [100, 101, 114, 101, 102], .int 1, .int 1, .clst [.int 0]],
  .tup [.str [117, 110], .int 1, .int 1, .clst [.int 0]]]
noncomputable def wp5 : List D := [.tup [.str [119, 114, 97, 112], .int 1, .int 1, .clst []],
  .tup [.str [99, 111, 112, 121], .int 1, .int 1, .clst []],
  .tup [.str [99, 111, 117, 110, 116], .int 1, .int 1, .clst []],
  .tup [.str [102, 105, 110, 97, 108], .int 1, .int 1, .clst []],
  .tup [.str [102, 101, 116, 99, 104], .int 1, .int 1, .clst []]]
noncomputable def wp6 : List D := [.tup [.str [97, 115, 99, 97, 108, 97, 114], .int 1, .int 1, .clst []],
  .tup [.str [110, 101, 119, 115, 99, 97, 108, 97, 114], .int 1, .int 1, .clst []],
  .tup [.str [105, 116, 101, 109, 115], .int 1, .int 1, .clst []],
  .tup [.str [115, 105, 122, 101], .int 1, .int 1, .clst []],
  .tup [.str [112, 97, 105, 114, 115], .int 1, .int 1, .clst []]]
noncomputable def wp7 : List D := [.tup [.str [107, 101, 121, 99, 111, 117, 110, 116], .int 1, .int 1, .clst []],
  .tup [.str [108, 97, 115, 116, 105, 100, 120], .int 1, .int 1, .clst []],
  .tup [.str [112, 111, 115, 108, 118], .int 1, .int 1, .clst []],
  .tup [.str [114, 101, 102], .int 1, .int 1, .clst []],
  .tup [.str [114, 101, 102, 118, 97, 108, 117, 101], .int 1, .int 1, .clst []]]
noncomputable def wp8 : List D := [.tup [.str [101, 108, 101, 109, 114, 101, 102, 115], .int 1, .int 1, .clst []],
  .tup [.str [97, 110, 111, 110, 97], .int 1, .int 1, .clst []],
  .tup [.str [97, 110, 111, 110, 104], .int 1, .int 1, .clst []],
  .tup [.str [109, 101, 109, 98, 101, 114, 115], .int 1, .int 1, .clst []],
  .tup [.str [108, 97, 115, 116, 116, 97, 114, 103, 101, 116], .int 1, .int 1, .clst []]]
noncomputable def wp9 : List D := [.tup [.str [112, 114, 101, 105, 110, 99], .int 1, .int 1, .clst []],
  .tup [.str [112, 114, 101, 100, 101, 99], .int 1, .int 1, .clst []],
  .tup [.str [112, 111, 115, 116, 105, 110, 99], .int 1, .int 1, .clst []],
  .tup [.str [112, 111, 115, 116, 100, 101, 99], .int 1, .int 1, .clst []],
  .tup [.str [106, 111, 105, 110, 108, 105, 115, 116], .int 1, .int 1, .clst []]]
noncomputable def wp10 : List D := [.tup [.str [116, 101, 120, 116], .int 1, .int 1, .clst []],
  .tup [.str [105, 116, 101, 114], .int 1, .int 1, .clst []],
  .tup [.str [105, 115, 100, 101, 102], .int 1, .int 1, .clst []],
  .tup [.str [101, 108, 101, 109], .int 2, .int 1, .clst []],
  .tup [.str [104, 101, 108, 101, 109], .int 2, .int 1, .clst []]]
noncomputable def wp11 : List D := [.tup [.str [101, 108, 101, 109, 97, 116], .int 2, .int 1, .clst []],
  .tup [.str [104, 101, 108, 101, 109, 97, 116], .int 2, .int 1, .clst []],
  .tup [.str [101, 108, 101, 109, 108, 118], .int 2, .int 1, .clst []],
  .tup [.str [104, 101, 108, 101, 109, 108, 118], .int 2, .int 1, .clst []],
  .tup [.str [97, 115, 108, 105, 99, 101], .int 2, .int 1, .clst []]]
noncomputable def wp12 : List D := [.tup [.str [104, 115, 108, 105, 99, 101], .int 2, .int 1, .clst []],
  .tup [.str [97, 115, 108, 105, 99, 101, 108, 118], .int 2, .int 1, .clst []],
  .tup [.str [104, 115, 108, 105, 99, 101, 108, 118], .int 2, .int 1, .clst []],
  .tup [.str [108, 115, 108, 105, 99, 101], .int 2, .int 1, .clst []],
  .tup [.str [97, 115, 115, 105, 103, 110], .int 2, .int 1, .clst []]]
noncomputable def wp13 : List D := [.tup [.str [108, 111, 99, 97, 108, 101, 108, 101, 109], .int 2, .int 1, .clst []],
  .tup [.str [108, 111, 99, 97, 108, 104, 101, 108, 101, 109], .int 2, .int 1, .clst []],
  .tup [.str [108, 111, 99, 97, 108, 97, 115, 108, 105, 99, 101], .int 2, .int 1, .clst []],
  .tup [.str [108, 111, 99, 97, 108, 104, 115, 108, 105, 99, 101], .int 2, .int 1, .clst []],
  .tup [.str [120, 111, 114], .int 2, .int 1, .clst []]]
noncomputable def wp14 : List D := [.tup [.str [114, 101, 112, 101, 97, 116], .int 2, .int 1, .clst []],
  .tup [.str [114, 97, 110, 103, 101], .int 2, .int 1, .clst []],
  .tup [.str [111, 112, 97, 115, 115, 105, 103, 110], .int 2, .int 1, .clst [.int 0]],
  .tup [.str [98, 105, 110], .int 2, .int 1, .clst [.int 0]],
  .tup [.str [100, 101, 108, 101, 116, 101], .int 2, .int 1, .clst [.int 0]]]
noncomputable def wp15 : List D := [.tup [.str [101, 120, 105, 115, 116, 115], .int 2, .int 1, .clst [.int 0]],
  .tup [.str [97, 97, 115, 115, 105, 103, 110], .int 2, .int 1, .clst [.int 3]],
  .tup [.str [99, 97, 108, 108], .int 2, .int 1, .clst [.int 3]],
  .tup [.str [99, 97, 108, 108, 115, 97, 109, 101], .int 1, .int 1, .clst [.int 3]],
  .tup [.str [109, 101, 116, 104, 111, 100], .int 2, .int 1, .clst [.int 0, .int 3]]]
noncomputable def wp16 : List D := [.tup [.str [102, 117, 110, 99], .int 0, .int 1, .clst [.int 0, .int 2, .int 3]],
  .tup [.str [106, 117, 109, 112], .int 0, .int 0, .clst [.int 1]],
  .tup [.str [105, 102, 102, 97, 108, 115, 101], .int 1, .int 0, .clst [.int 1]],
  .tup [.str [105, 102, 116, 114, 117, 101], .int 1, .int 0, .clst [.int 1]],
  .tup [.str [105, 102, 100, 101, 102], .int 1, .int 0, .clst [.int 1]]]
noncomputable def wp17 : List D := [.tup [.str [111, 114, 106, 117, 109, 112], .int 1, .int 0, .clst [.int 1]],
  .tup [.str [97, 110, 100, 106, 117, 109, 112], .int 1, .int 0, .clst [.int 1]],
  .tup [.str [100, 111, 114, 106, 117, 109, 112], .int 1, .int 0, .clst [.int 1]],
  .tup [.str [98, 121, 119, 97, 110, 116], .int 0, .int 0, .clst [.int 1, .int 1, .int 1]],
  .tup [.str [110, 101, 120, 116], .int 1, .int 2, .clst [.int 1]]]
noncomputable def wp18 : List D := [.tup [.str [98, 105, 110, 100, 112, 97, 100], .int 1, .int 0, .clst [.int 0]],
  .tup [.str [98, 105, 110, 100, 103, 108, 111, 98], .int 1, .int 0, .clst [.int 0]],
  .tup [.str [114, 101, 116, 117, 114, 110, 48], .int 0, .int 0, .clst []],
  .tup [.str [101, 110, 116, 101, 114], .int 0, .int 0, .clst []],
  .tup [.str [108, 101, 97, 118, 101], .int 0, .int 0, .clst []]]
noncomputable def wp19 : List D := [.tup [.str [98, 101, 103, 105, 110], .int 0, .int 0, .clst []],
  .tup [.str [115, 101, 116, 116, 108, 101], .int 0, .int 0, .clst []],
  .tup [.str [114, 101, 115, 101, 116, 116, 108, 101], .int 0, .int 0, .clst []],
  .tup [.str [102, 111, 114, 103, 101, 116], .int 0, .int 0, .clst []],
  .tup [.str [101, 110, 100, 108, 111, 111, 112], .int 0, .int 0, .clst []]]
noncomputable def wp20 : List D := [.tup [.str [115, 117, 98, 114, 101, 116, 117, 114, 110], .int 0, .int 0, .clst [.int 4]],
  .tup [.str [108, 105, 110, 101], .int 0, .int 0, .clst [.int 0]],
  .tup [.str [112, 97, 99, 107, 97, 103, 101], .int 0, .int 0, .clst [.int 0]],
  .tup [.str [108, 111, 111, 112], .int 0, .int 0, .clst [.int 0, .int 1, .int 1, .int 1]],
  .tup [.str [117, 110, 119, 105, 110, 100], .int 0, .int 0, .clst [.int 0, .int 0, .int 0]]]
noncomputable def wp21 : List D := [.tup [.str [108, 111, 111, 112, 108, 101, 97, 118, 101], .int 0, .int 0, .clst [.int 0, .int 0]],
  .tup [.str [109, 97, 112], .int 1, .int 1, .clst [.int 5]],
  .tup [.str [103, 114, 101, 112], .int 1, .int 1, .clst [.int 5]],
  .tup [.str [115, 111, 114, 116], .int 1, .int 1, .clst [.int 6, .int 0]],
  .tup [.str [109, 97, 116, 99, 104], .int 2, .int 1, .clst [.int 0, .int 0, .int 3]]]
noncomputable def wp22 : List D := [.tup [.str [115, 117, 98, 115, 116], .int 2, .int 1, .clst [.int 0, .int 5]],
  .tup [.str [116, 114, 97, 110, 115], .int 1, .int 1, .clst [.int 0, .int 0, .int 0]],
  .tup [.str [115, 112, 108, 105, 116], .int 3, .int 1, .clst [.int 0, .int 3]],
  .tup [.str [101, 118, 97, 108, 98, 108, 111, 99, 107], .int 0, .int 1, .clst [.int 5, .int 3]],
  .tup [.str [101, 118, 97, 108, 115, 116, 114], .int 1, .int 1, .clst [.int 0, .int 0, .int 3]]]
noncomputable def allL : List D := wp0 ++ (wp1 ++ (wp2 ++ (wp3 ++ (wp4 ++ (wp5 ++ (wp6 ++ (wp7 ++ (wp8 ++ (wp9 ++ (wp10 ++ (wp11 ++ (wp12 ++ (wp13 ++ (wp14 ++ (wp15 ++ (wp16 ++ (wp17 ++ (wp18 ++ (wp19 ++ (wp20 ++ (wp21 ++ wp22)))))))))))))))))))))
theorem words_ev : (match evCall Γ0 (lvl Γ0 60) 12 [] ⟨[], []⟩ with
  | some (.lst n, a) => ((a.σ[n]?).isSome && a.o.isEmpty, (a.σ[n]?).getD [])
  | _ => (false, [])) = (true, allL) := by kernel_rfl
theorem words_ok : (match evCall Γ0 (lvl Γ0 60) 12 [] ⟨[], []⟩ with
  | some (.lst n, a) => (a.σ[n]?).isSome && a.o.isEmpty
  | _ => false) = true := by
  have e := words_ev
  revert e
  generalize evCall Γ0 (lvl Γ0 60) 12 [] ⟨[], []⟩ = r
  intro e
  split at e
  · exact congrArg Prod.fst e
  · exact absurd (congrArg Prod.fst e) Bool.false_ne_true
theorem allW_eq : allW = allL := by
  have e := words_ev
  unfold allW
  revert e
  generalize evCall Γ0 (lvl Γ0 60) 12 [] ⟨[], []⟩ = r
  intro e
  split at e
  · exact congrArg Prod.snd e
  · exact absurd (congrArg Prod.fst e) Bool.false_ne_true
theorem words_len : allW.length = 115 := by rw [allW_eq]; kernel_rfl

theorem right_0 : rightAll wp0 = true := by decide +kernel
theorem right_1 : rightAll wp1 = true := by decide +kernel
theorem right_2 : rightAll wp2 = true := by decide +kernel
theorem right_3 : rightAll wp3 = true := by decide +kernel
theorem right_4 : rightAll wp4 = true := by decide +kernel
theorem right_5 : rightAll wp5 = true := by decide +kernel
theorem right_6 : rightAll wp6 = true := by decide +kernel
theorem right_7 : rightAll wp7 = true := by decide +kernel
theorem right_8 : rightAll wp8 = true := by decide +kernel
theorem right_9 : rightAll wp9 = true := by decide +kernel
theorem right_10 : rightAll wp10 = true := by decide +kernel
theorem right_11 : rightAll wp11 = true := by decide +kernel
theorem right_12 : rightAll wp12 = true := by decide +kernel
theorem right_13 : rightAll wp13 = true := by decide +kernel
theorem right_14 : rightAll wp14 = true := by decide +kernel
theorem right_15 : rightAll wp15 = true := by decide +kernel
theorem right_16 : rightAll wp16 = true := by decide +kernel
theorem right_17 : rightAll wp17 = true := by decide +kernel
theorem right_18 : rightAll wp18 = true := by decide +kernel
theorem right_19 : rightAll wp19 = true := by decide +kernel
theorem right_20 : rightAll wp20 = true := by decide +kernel
theorem right_21 : rightAll wp21 = true := by decide +kernel
theorem right_22 : rightAll wp22 = true := by decide +kernel

end Mine
end

section
namespace Mine
open PySem PySem.W PyProof.Rows

theorem rightAll_append (a b : List D) : rightAll (a ++ b) = (rightAll a && rightAll b) := by unfold rightAll; rw [List.all_append]

theorem right_all : rightAll allW = true := by
  rw [allW_eq]
  unfold allL
  simp only [rightAll_append, right_0, right_1, right_2, right_3, right_4, right_5, right_6, right_7, right_8, right_9, right_10, right_11, right_12, right_13, right_14, right_15, right_16, right_17, right_18, right_19, right_20, right_21, right_22, Bool.and_self]
end Mine
end

section
namespace Mine
open PySem PySem.W PyProof.Rows PySem.SeqAt

mutual
/-- a datum that hangs on no draw and no mutable cell -/
noncomputable def plainD : Nat → D → Bool
  | 0, _ => false
  | n + 1, d => match d with
    | .none => true
    | .bool _ => true
    | .int _ => true
    | .str _ => true
    | .wheel => true
    | .fn _ => true
    | .tab _ => true
    | .tup xs => plainDL n xs
    | .clst xs => plainDL n xs
    | _ => false
noncomputable def plainDL : Nat → List D → Bool
  | 0, _ => false
  | _ + 1, [] => true
  | n + 1, d :: ds => plainD n d && plainDL n ds
end

mutual
theorem Rd.swap {C C' : Cfg} (hb : ∀ a vs, C.base.IsList a vs → C'.base.IsList a vs) (hW : C.W = C'.W) (hf : C.fnA = C'.fnA) (ht : C.tabA = C'.tabA) {φ φ' : List Addr} {h : Heap} : ∀ {n : Nat} {v : Value} {d : D}, plainD n d = true → Rd C φ h v d → Rd C' φ' h v d
  | 0, _, _, e, _ => by simp [plainD] at e
  | n + 1, _, _, e, r => by
    cases r with
    | none => exact .none
    | bool b => exact .bool b
    | int i t => exact .int i t
    | str x t l a b => exact .str x t l a b
    | tup h1 h2 => exact .tup h1 (RdL.swap hb hW hf ht (by simpa [plainD] using e) h2)
    | clst h1 h2 => exact .clst (hb _ _ h1) (RdL.swap hb hW hf ht (by simpa [plainD] using e) h2)
    | fn q => exact .fn (hf ▸ q)
    | tab q => exact .tab (ht ▸ q)
    | wheel => rw [hW]; exact .wheel
    | sym => simp [plainD] at e
    | lst => simp [plainD] at e
    | pick => simp [plainD] at e
    | any => simp [plainD] at e
theorem RdL.swap {C C' : Cfg} (hb : ∀ a vs, C.base.IsList a vs → C'.base.IsList a vs) (hW : C.W = C'.W) (hf : C.fnA = C'.fnA) (ht : C.tabA = C'.tabA) {φ φ' : List Addr} {h : Heap} : ∀ {n : Nat} {vs : List Value} {ds : List D}, plainDL n ds = true → RdL C φ h vs ds → RdL C' φ' h vs ds
  | 0, _, _, e, _ => by simp [plainDL] at e
  | _ + 1, _, _, _, .nil => .nil
  | n + 1, _, _, e, .cons a b => by
    simp only [plainDL, Bool.and_eq_true] at e
    exact .cons (a.swap hb hW hf ht e.1) (b.swap hb hW hf ht e.2)
end

theorem EOK.swap {C C' : Cfg} (hb : ∀ a vs, C.base.IsList a vs → C'.base.IsList a vs) (hW : C.W = C'.W) (hf : C.fnA = C'.fnA) (ht : C.tabA = C'.tabA) {env : Env} {kn : List (Str × NameKind)} {vs : List Str} {ρ ρ' : Rho} {φ φ' : List Addr} {h : Heap} (E : EOK C env kn vs ρ φ h)
    (hρ : ∀ i d, getV ρ' i = some d → getV ρ i = some d ∧ ∃ n, plainD n d = true) : EOK C' env kn vs ρ' φ' h :=
  ⟨E.kind, E.globals, E.builtins, E.glob, E.cell, E.loc, fun i x d e1 e2 => by
    obtain ⟨h1, _, h2⟩ := hρ i d e2
    obtain ⟨v, hl, r⟩ := E.vars i x d e1 h1
    exact ⟨v, hl, r.swap hb hW hf ht h2⟩⟩

theorem SOK.swap {C C' : Cfg} (hb : ∀ a vs, C.base.IsList a vs → C'.base.IsList a vs) (hW : C.W = C'.W) (hf : C.fnA = C'.fnA) (ht : C.tabA = C'.tabA) {env : Env} {kn : List (Str × NameKind)} {vs : List Str} {ρ ρ' : Rho} {φ φ' : List Addr} {h : Heap} (S : SOK C env kn vs ρ φ h)
    (hL : C'.base.get? env.locals = none) (hC : ∀ x c, (x, NameKind.cell) ∈ kn → env.cells.lookup x = some c → C'.base.get? c = none)
    (hρ : ∀ i d, getV ρ' i = some d → getV ρ i = some d ∧ ∃ n, plainD n d = true) : SOK C' env kn vs ρ' φ' h :=
  ⟨S.toE.swap hb hW hf ht hρ, S.ns, S.cs, S.apart, hL, hC, S.vnd⟩

theorem Aft.as {C C' : Cfg} (hW : C.W = C'.W) {φ φ' X F : List Addr} {h h' : Heap} (A : Aft C φ φ' X F h h') : Aft C' φ φ' X F h h' :=
  ⟨fun b o e n1 n2 n3 => A.keep b o e n1 (hW ▸ n2) n3, A.ext, A.new, A.alive, A.tup⟩
theorem Aft.reset {C : Cfg} {φ' X F : List Addr} {h h' : Heap} (A : Aft C [] φ' X F h h') : Aft C [] [] X F h h' :=
  ⟨A.keep, List.prefix_rfl, fun _ h => (List.not_mem_nil h).elim, A.alive, A.tup⟩

/-- the wheel is loaded with draws -/
theorem HOK.load {C C' : Cfg} {l : List Env} {h : Heap} (H : HOK C [] ⟨[], []⟩ l h) (hb : C.base = C'.base) (hW : C.W = C'.W) (hS : C.S = C'.S) (hns : C.ns = C'.ns) (hm : C.m = 0) (hc : C'.c0 = C.c0) {o : List (Int × D)} (hm' : C'.m = o.length) (hle : C.c0 + o.length ≤ 1000000)
    (hd : ∀ (j : Nat) (sz : Int) (d : D), o[j]? = some (sz, d) → 0 < sz ∧ sz ≤ 1000 ∧ ∀ φ h u, Rd C' φ h (.int (C'.spinV C'.ns (C.c0 + j + 1) sz) u) d) : HOK C' [] ⟨[], o⟩ l h where
  stays := hb ▸ H.stays
  frames := hb ▸ H.frames
  len := rfl
  nodup := .nil
  fresh := fun _ h => by cases h
  cells := fun n xs e => by cases e
  wheel := by
    obtain ⟨c, t, vs, h1, h2, h3, h4, ⟨h5, h5'⟩, _⟩ := H.wheel
    have hcc : c = C.c0 := by simp only [List.length_nil] at h5; omega
    subst hcc
    exact ⟨_, t, vs, by rw [← hW, ← hS]; exact h1, by rw [← hS]; exact h2, hns ▸ h3, hns ▸ h4, ⟨by show C.c0 + o.length = C'.c0 + C'.m; rw [hc, hm'], by rw [hc, hm']; exact hle⟩, hd⟩
  plain := fun _ h => by cases h
  fout := fun x hx => ⟨by simp, hW ▸ (H.fout x hx).2.1, hS ▸ (H.fout x hx).2.2⟩
  wfresh := by rw [← hb, ← hW]; exact H.wfresh
  wout := by simp
  sout := by simp
  sw := by rw [← hW, ← hS]; exact H.sw

/-- the draws are made -/
theorem HOK.unload {C C' : Cfg} {φ : List Addr} {a : AS} {l : List Env} {h : Heap} (H : HOK C φ a l h) (ho : a.o = []) (hb : C.base = C'.base) (hW : C.W = C'.W) (hS : C.S = C'.S) (hns : C.ns = C'.ns) (hm : C'.m = 0) (hc : C'.c0 = C.c0 + C.m) : HOK C' [] ⟨[], []⟩ l h where
  stays := hb ▸ H.stays
  frames := hb ▸ H.frames
  len := rfl
  nodup := .nil
  fresh := fun _ h => by cases h
  cells := fun n xs e => by cases e
  wheel := by
    obtain ⟨c, t, vs, h1, h2, h3, h4, ⟨h5, h5'⟩, _⟩ := H.wheel
    rw [ho] at h5
    simp only [List.length_nil] at h5
    exact ⟨c, t, vs, by rw [← hW, ← hS]; exact h1, by rw [← hS]; exact h2, hns ▸ h3, hns ▸ h4, ⟨by show c + 0 = _; rw [hc, hm]; omega, by rw [hc, hm]; omega⟩, fun j sz d e => by simp at e⟩
  plain := fun _ h => by cases h
  fout := fun x hx => ⟨by simp, hW ▸ (H.fout x hx).2.1, hS ▸ (H.fout x hx).2.2⟩
  wfresh := by rw [← hb, ← hW]; exact H.wfresh
  wout := by simp
  sout := by simp
  sw := by rw [← hW, ← hS]; exact H.sw

theorem spin_range (ns : List Int) (c : Nat) {sz : Int} (h : 0 < sz) : 0 ≤ spinOf ns c sz ∧ spinOf ns c sz < sz := by
  unfold spinOf
  split
  · exact ⟨Int.fmod_nonneg_of_pos _ h, Int.fmod_lt_of_pos _ h⟩
  · exact ⟨Int.fmod_nonneg_of_pos _ h, Int.fmod_lt_of_pos _ h⟩

end Mine
end

section
namespace Mine
open PySem PySem.W PyProof.Rows PySem.SeqAt

noncomputable def szP : Nat → Int
  | 0 => 4
  | 1 => 40
  | 2 => 5
  | 3 => 3
  | 4 => 3
  | _ => 6

theorem range_has {n : Nat} {x : Int} (h0 : 0 ≤ x) (h1 : x < n) : x.toNat ∈ List.range n := by rw [List.mem_range]; omega

/-- the draws that the wheel makes are among those looked at -/
theorem draws_has {C : Cfg} {c : Nat} : ∀ (parts : List Nat) (k : Nat), (∀ j s, parts[j]? = some s → C.θ (k + j) = spinOf C.ns (c + (k + j) + 1) (szP s)) →
    ∃ o ∈ draws parts k, o.length = parts.length ∧ ∀ (j : Nat) (sz : Int) (d : D), o[j]? = some (sz, d) → 0 < sz ∧ sz ≤ 1000 ∧ ∀ φ h u, Rd C φ h (.int (spinOf C.ns (c + (k + j) + 1) sz) u) d
  | [], k, _ => ⟨[], by simp [draws], rfl, fun j sz d e => by simp at e⟩
  | s :: r, k, hθ => by
    obtain ⟨o, ho, hl, hd⟩ := draws_has (C := C) (c := c) r (k + 1) fun j s e => by
      have := hθ (j + 1) s (by simpa using e)
      rw [show k + 1 + j = k + (j + 1) by omega]; exact this
    have h0 := hθ 0 s rfl
    rw [Nat.add_zero] at h0
    have mk : ∀ (sz : Int) (d0 : D), 0 < sz → sz ≤ 1000 → (∀ φ h u, Rd C φ h (.int (spinOf C.ns (c + k + 1) sz) u) d0) → ((sz, d0) :: o) ∈ draws (s :: r) k → ∃ o ∈ draws (s :: r) k, o.length = (s :: r).length ∧ ∀ (j : Nat) (sz : Int) (d : D), o[j]? = some (sz, d) → 0 < sz ∧ sz ≤ 1000 ∧ ∀ φ h u, Rd C φ h (.int (spinOf C.ns (c + (k + j) + 1) sz) u) d :=
      fun sz d0 h1 h2 h3 hm => ⟨_, hm, by simp [hl], fun j sz' d e => by
        cases j with
        | zero => simp at e; obtain ⟨rfl, rfl⟩ := e; exact ⟨h1, h2, h3⟩
        | succ j =>
          have := hd j sz' d (by simpa using e)
          rw [show k + (j + 1) = k + 1 + j by omega]; exact this⟩
    have int_ : ∀ (sz : Int), 0 < sz → ∀ φ h u, Rd C φ h (.int (spinOf C.ns (c + k + 1) sz) u) (.int ((spinOf C.ns (c + k + 1) sz).toNat : Nat)) := fun sz hs φ h u => by
      have := (spin_range C.ns (c + k + 1) hs).1
      rw [show (((spinOf C.ns (c + k + 1) sz).toNat : Nat) : Int) = spinOf C.ns (c + k + 1) sz by omega]
      exact .int _ _
    rcases s with _ | s
    · exact mk 4 (.pick k) (by decide) (by decide) (fun φ h u => .pick _ _ _ h0.symm (spin_range _ _ (by decide)).1 (spin_range _ _ (by decide)).2) (List.mem_map.mpr ⟨o, ho, rfl⟩)
    rcases s with _ | s
    · exact mk 40 (.sym k 0) (by decide) (by decide) (fun φ h u => .sym _ _ _ _ (by rw [h0]; simp [szP])) (List.mem_map.mpr ⟨o, ho, rfl⟩)
    rcases s with _ | s
    · exact mk 5 _ (by decide) (by decide) (int_ 5 (by decide)) (List.mem_flatMap.mpr ⟨o, ho, List.mem_map.mpr ⟨_, range_has (spin_range _ _ (by decide)).1 (spin_range _ _ (by decide)).2, rfl⟩⟩)
    rcases s with _ | s
    · exact mk 3 _ (by decide) (by decide) (int_ 3 (by decide)) (List.mem_flatMap.mpr ⟨o, ho, List.mem_map.mpr ⟨_, range_has (spin_range _ _ (by decide)).1 (spin_range _ _ (by decide)).2, rfl⟩⟩)
    rcases s with _ | s
    · exact mk 3 _ (by decide) (by decide) (int_ 3 (by decide)) (List.mem_flatMap.mpr ⟨o, ho, List.mem_map.mpr ⟨_, range_has (spin_range _ _ (by decide)).1 (spin_range _ _ (by decide)).2, rfl⟩⟩)
    rcases s with _ | s
    · exact mk 6 (.sym k 0) (by decide) (by decide) (fun φ h u => .sym _ _ _ _ (by rw [h0]; simp [szP])) (List.mem_map.mpr ⟨o, ho, rfl⟩)
    exact mk 6 _ (by decide) (by decide) (int_ 6 (by decide)) (List.mem_flatMap.mpr ⟨o, ho, List.mem_map.mpr ⟨_, range_has (spin_range _ _ (by decide)).1 (spin_range _ _ (by decide)).2, rfl⟩⟩)

end Mine
end

section
namespace Mine
open PySem PySem.W PyProof.Rows PySem.SeqAt

theorem plain_W : plainD 1000 (.clst allW) = true := by rw [allW_eq]; decide +kernel

theorem plainDL_mem : ∀ {n : Nat} {ds : List D} {d : D}, plainDL n ds = true → d ∈ ds → ∃ m, plainD m d = true
  | 0, _, _, e, _ => by simp [plainDL] at e
  | _ + 1, [], _, _, h => by cases h
  | n + 1, x :: ds, d, e, h => by
    simp only [plainDL, Bool.and_eq_true] at e
    rcases List.mem_cons.mp h with rfl | h
    · exact ⟨_, e.1⟩
    · exact plainDL_mem e.2 h

theorem plain_told {t : D} (h : t ∈ allW) : ∃ m, plainD m t = true := plainDL_mem (n := 999) (by have := plain_W; simpa [plainD] using this) h

section
variable {prog : Program} {w : World} {base : Heap} {θ : Nat → Int} {W S : Addr} {ns : List Int} {c0 m : Nat}

theorem sound (X : (KH w).In base) (T : ∃ p loose mg mb, TopRead p loose mg mb base) (n : Nat) : AllS (cfg prog w base θ W S ns c0 m) gsN 44 (lvl Γ0 n) n :=
  all_sound (gok X T) (fns_ok X) (spin_sound (gok X T) rfl (fun ad h => by cases h; exact spin_fn X)) (bad_sound (gok X T) (bad_facts X)) (bad_facts X).cls n

/-- one statement -/
theorem one_stmt (X : (KH w).In base) (T : ∃ p loose mg mb, TopRead p loose mg mb base) {n : Nat} {st : XS} {ρ ρ' : Rho} {a a' : AS} {f : Fl} (e : step1 Γ0 (lvl Γ0 n) st ρ a = some (f, ρ', a'))
    {kn : List (Str × NameKind)} {vs : List Str} {b : Stmt} (t : TrS kn vs gsN b st) {env : Env} {A : Around} {l : List Env} {φ : List Addr} {s : Shared} {Q : Flow → Shared → Prop} {E : Value → Shared → Prop} (hT : TopE env l) (hA : AOK A l (n + 1))
    (SO : SOK (cfg prog w base θ W S ns c0 m) env kn vs ρ φ s.heap) (H : HOK (cfg prog w base θ W S ns c0 m) φ a l s.heap)
    (P : PostS (cfg prog w base θ W S ns c0 m) φ env kn vs l s.heap s f ρ' a' Q) : wpAny (model prog w) A (exec b env) Q E s := by
  have I := sound (prog := prog) (θ := θ) (W := W) (S := S) (ns := ns) (c0 := c0) (m := m) X T n
  have G := gok (prog := prog) (θ := θ) (W := W) (S := S) (ns := ns) (c0 := c0) (m := m) X T
  exact step1_sound G I.e I.t I.s I.f (stepU_sound G I.e I.g) (stepTry_sound G (bad_facts X).cls I.e (stepR_sound G (fns_ok X) I.x)) e t hT hA SO H P
end

/-- the check of one word, as a statement -/
noncomputable def checkX : XS := .ite (.not (.call 20 [.var 1, .var 5])) [.ret (.bool false)] []

theorem check_step {ρ : Rho} {t : D} {o : List (Int × D)} (h1 : getV ρ 1 = some .wheel) (h5 : getV ρ 5 = some t) (hr : rightC t o = true) : ∃ a', a'.o = [] ∧ step1 Γ0 (lvl Γ0 62) checkX ρ ⟨[], o⟩ = some (.next, ρ, a') := by
  unfold rightC at hr
  split at hr
  · rename_i a' e
    refine ⟨a', by simpa using hr, ?_⟩
    have e1 : evEs (lvl Γ0 60) ρ [.var 1, .var 5] ⟨[], o⟩ = some ([.wheel, t], ⟨[], o⟩) := by
      simp only [evEs]
      have v1 : (lvl Γ0 60).e (.var 1) ρ ⟨[], o⟩ = some (.wheel, ⟨[], o⟩) := by show stepE Γ0 (lvl Γ0 59) (.var 1) ρ _ = _; delta stepE; simp [h1]
      have v5 : (lvl Γ0 60).e (.var 5) ρ ⟨[], o⟩ = some (t, ⟨[], o⟩) := by show stepE Γ0 (lvl Γ0 59) (.var 5) ρ _ = _; delta stepE; simp [h5]
      simp only [v1, v5]
    have e2 : (lvl Γ0 61).e (.call 20 [.var 1, .var 5]) ρ ⟨[], o⟩ = some (.bool true, a') := by
      show stepE Γ0 (lvl Γ0 60) (.call 20 [.var 1, .var 5]) ρ ⟨[], o⟩ = _
      delta stepE
      try dsimp only
      rw [show Γ0.gd[20]? = some (some (.fn 20)) from rfl]
      simp only [e1, e]
    have e3 : (lvl Γ0 62).e (.not (.call 20 [.var 1, .var 5])) ρ ⟨[], o⟩ = some (.bool false, a') := by
      show stepE Γ0 (lvl Γ0 61) (.not (.call 20 [.var 1, .var 5])) ρ ⟨[], o⟩ = _
      delta stepE
      simp only [evT, e2]
      rfl
    unfold checkX
    delta step1
    simp only [evT, e3]
    rfl
  · cases hr

/-- the wheel's turn, as a statement -/
noncomputable def placeX : XS := .assign 4 (.call 13 [.var 1, .len (.var 2)])

theorem place_step {ρ : Rho} {v : Int} (h1 : getV ρ 1 = some .wheel) (h2 : getV ρ 2 = some (.clst allW)) (hl : 4 < ρ.length) :
    step1 Γ0 (lvl Γ0 62) placeX ρ ⟨[], [(115, .int v)]⟩ = some (.next, setV ρ 4 (.int v), ⟨[], []⟩) := by
  have e0 : (lvl Γ0 60).e (.var 2) ρ ⟨[], [(115, .int v)]⟩ = some (.clst allW, ⟨[], [(115, .int v)]⟩) := by show stepE Γ0 (lvl Γ0 59) (.var 2) ρ _ = _; delta stepE; simp [h2]
  have e1 : (lvl Γ0 61).e (.len (.var 2)) ρ ⟨[], [(115, .int v)]⟩ = some (.int 115, ⟨[], [(115, .int v)]⟩) := by
    show stepE Γ0 (lvl Γ0 60) (.len (.var 2)) ρ _ = _
    delta stepE
    simp only [e0, dlen, words_len]
    rfl
  have v1 : (lvl Γ0 61).e (.var 1) ρ ⟨[], [(115, .int v)]⟩ = some (.wheel, ⟨[], [(115, .int v)]⟩) := by show stepE Γ0 (lvl Γ0 60) (.var 1) ρ _ = _; delta stepE; simp [h1]
  have e2 : (lvl Γ0 62).e (.call 13 [.var 1, .len (.var 2)]) ρ ⟨[], [(115, .int v)]⟩ = some (.int v, ⟨[], []⟩) := by
    show stepE Γ0 (lvl Γ0 61) (.call 13 [.var 1, .len (.var 2)]) ρ _ = _
    delta stepE
    try dsimp only
    rw [show Γ0.gd[13]? = some (some (.fn 13)) from rfl]
    simp only [evEs, v1, e1]
    unfold evCall
    rw [if_pos (show (13 : Nat) = Γ0.spin from rfl)]
    simp
  unfold placeX
  delta step1
  simp only [e2]
  rw [if_pos hl]

theorem words_step {ρ : Rho} (hl : 2 < ρ.length) : ∃ n a', a'.σ[n]? = some allW ∧ a'.o = [] ∧ step1 Γ0 (lvl Γ0 61) (.assign 2 (.call 12 [])) ρ ⟨[], []⟩ = some (.next, setV ρ 2 (.lst n), a') := by
  have hw := words_ok
  have ha : allW = (match evCall Γ0 (lvl Γ0 60) 12 [] ⟨[], []⟩ with
    | some (.lst n, a) => (a.σ[n]?).getD []
    | _ => []) := rfl
  split at hw
  · rename_i n a e
    rw [e] at ha
    simp only [Bool.and_eq_true] at hw
    obtain ⟨xs, hx⟩ := Option.isSome_iff_exists.mp hw.1
    have ha' : allW = xs := by rw [ha]; show (a.σ[n]?).getD [] = xs; rw [hx]; rfl
    refine ⟨n, a, by rw [hx, ha'], by simpa using hw.2, ?_⟩
    have e2 : (lvl Γ0 61).e (.call 12 []) ρ ⟨[], []⟩ = some (.lst n, a) := by
      show stepE Γ0 (lvl Γ0 60) (.call 12 []) ρ _ = _
      delta stepE
      try dsimp only
      rw [show Γ0.gd[12]? = some (some (.fn 12)) from rfl]
      simp only [evEs, e]
    delta step1
    simp only [e2]
    rw [if_pos hl]
  · cases hw

end Mine
end

section
namespace Mine
open PySem PySem.W PyProof.Rows PySem.SeqAt

/-- one turn of a loop -/
theorem for_turn {prog : Program} {w : World} {A : Around} {env : Env} {R : Result → Shared → Prop} {s : Shared} {target : Expr} {it : Value} {b : List Stmt}
    (h : ∀ E' : Value → Shared → Prop, wpAny (model prog w) A (pyNext it) (fun r s₁ => match r with
      | none => R (.ok .next) s₁
      | some v => wpAny (model prog w) A (letOwnedTupleGo target it v) (fun _ s₂ => wpAny (model prog w) A (assign target env v) (fun _ s₃ => wpAny (model prog w) A (execs b env) (fun f s₄ => match f with
          | .next => codeAny (model prog w) A (.forLoop target it b [] env) R s₄
          | .cont => codeAny (model prog w) A (.forLoop target it b [] env) R s₄
          | .brk => R (.ok .next) s₄
          | .ret v => R (.ok (.ret v)) s₄) E' s₃) E' s₂) E' s₁) E' s) : codeAny (model prog w) A (.forLoop target it b [] env) R s := by
  refine codeAny_of_tree ?_
  show wpAny _ A ((forTurn target it b [] env).onRaise (fun x => do noteFrame x env; theTreesLotGoes x)) _ _ s
  refine wpAny_noted ?_
  simp only [forTurn]
  refine wpAny_bind (wpAny_standAt (wpAny_bind (wpAny_onRaise (wpAny_mono (h _) (fun r s₁ h₁ => ?_) fun _ _ h' => wpAny_standAt h'))))
  cases r with
  | none => exact wpAny_pure ⟨rfl, codeAny_block (wpAny_execs_nil h₁)⟩
  | some v =>
    refine wpAny_bind (wpAny_mono h₁ (fun _ s₂ h₂ => wpAny_bind (wpAny_mono h₂ (fun _ s₃ h₃ => wpAny_bind (wpAny_mono h₃ (fun f s₄ h₄ => ?_) fun _ _ e => e)) fun _ _ e => e)) fun _ _ e => e)
    cases f with
    | next => exact wpAny_pure ⟨rfl, h₄⟩
    | cont => exact wpAny_pure ⟨rfl, h₄⟩
    | brk => exact wpAny_pure h₄
    | ret u => exact wpAny_pure h₄

theorem RdL.swapA {C C' : Cfg} (hb : ∀ a vs, C.base.IsList a vs → C'.base.IsList a vs) (hW : C.W = C'.W) (hf : C.fnA = C'.fnA) (ht : C.tabA = C'.tabA) {φ φ' : List Addr} {h : Heap} : ∀ {vs : List Value} {ds : List D}, (∀ d ∈ ds, ∃ n, plainD n d = true) → RdL C φ h vs ds → RdL C' φ' h vs ds := by
  intro vs ds
  induction ds generalizing vs with
  | nil => intro _ r; cases r; exact .nil
  | cons d ds ih =>
    intro e r
    cases r with
    | cons a b =>
      obtain ⟨n, q⟩ := e _ (.head _)
      exact .cons (a.swap hb hW hf ht q) (ih (fun d hd => e d (.tail _ hd)) b)

theorem ItR.swap {C C' : Cfg} (hb : C.base = C'.base) (hW : C.W = C'.W) (hf : C.fnA = C'.fnA) (ht : C.tabA = C'.tabA) {φ : List Addr} {h : Heap} {v : Addr} {i : ItS} {Y : List Addr} (R : ItR C φ h v i Y) (hp : ∀ xs, i = .vals xs → ∀ d ∈ xs, ∃ n, plainD n d = true) : ItR C' φ h v i Y := by
  have hb' : ∀ a vs, C.base.IsList a vs → C'.base.IsList a vs := fun a vs q => hb ▸ q
  cases R with
  | tup h1 h2 h3 => exact .tup h1 h2 (h3.swapA hb' hW hf ht (hp _ rfl))
  | clst h1 h2 h3 => exact .clst h1 (hb' _ _ h2) (h3.swapA hb' hW hf ht (hp _ rfl))
  | cell h1 h2 => exact .cell h1 h2
  | rng h1 h2 => exact .rng h1 h2
  | enum h1 h2 h3 h4 => exact .enum h1 h2 h3 h4

theorem From.as {C C' : Cfg} (hW : C.W = C'.W) {φ₀ φ X Y F : List Addr} {h₀ h : Heap} (R : From C φ₀ φ X Y F h₀ h) : From C' φ₀ φ X Y F h₀ h := ⟨R.aft.as hW, R.dead⟩

noncomputable abbrev knL : List (Str × NameKind) := namesAt 26
noncomputable def vsL : List Str := ["script", "wheel", "words", "_", "place", "told"]

theorem kn_cells : ∀ x, (x, NameKind.cell) ∉ knL := by
  intro x hx
  have : (knL.all fun y => decide (y.2 ≠ .cell)) = true := by decide +kernel
  have := List.all_eq_true.mp this _ hx
  simp at this

/-- what a frame of the law knows all the time -/
structure RhoOk (ρ : Rho) : Prop where
  len : ρ.length = 6
  w : getV ρ 1 = some .wheel
  d : getV ρ 2 = some (.clst allW)
  p : ∀ i d, getV ρ i = some d → ∃ n, plainD n d = true

theorem getV_set {ρ : Rho} {i : Nat} {d : D} (h : i < ρ.length) : getV (setV ρ i d) i = some d := by
  unfold getV setV; rw [List.getElem?_set_self h]
theorem getV_ne {ρ : Rho} {i j : Nat} {d : D} (h : j ≠ i) : getV (setV ρ i d) j = getV ρ j := by
  unfold getV setV; rw [List.getElem?_set_ne (fun e => h e.symm)]

theorem RhoOk.set {ρ : Rho} (R : RhoOk ρ) {i : Nat} {d : D} (hi : 2 < i) (hp : ∃ n, plainD n d = true) : RhoOk (setV ρ i d) where
  len := by unfold setV; rw [List.length_set]; exact R.len
  w := (getV_ne (by omega)).trans R.w
  d := (getV_ne (by omega)).trans R.d
  p := fun j d' e => by
    rcases get_setV e with ⟨rfl, rfl⟩ | ⟨_, e⟩
    · exact hp
    · exact R.p j d' e

section
variable {prog : Program} {w : World} {base : Heap} {W S : Addr} {ns : List Int} {env : Env} {A : Around} {l : List Env}

noncomputable abbrev C2 (prog : Program) (w : World) (base : Heap) (W S : Addr) (ns : List Int) (c : Nat) : Cfg := cfg prog w base (fun _ => 0) W S ns c 0

/-- the state between the steps -/
structure LawI (prog : Program) (w : World) (base : Heap) (W S : Addr) (ns : List Int) (env : Env) (l : List Env) (ρ : Rho) (c : Nat) (h : Heap) : Prop where
  H : HOK (C2 prog w base W S ns c) [] ⟨[], []⟩ l h
  S' : SOK (C2 prog w base W S ns c) env knL vsL ρ [] h
  r : RhoOk ρ

theorem LawI.own {ρ : Rho} {c : Nat} {h h' : Heap} {Y : List Addr} (I : LawI prog w base W S ns env l ρ c h) (H' : HOK (C2 prog w base W S ns c) [] ⟨[], []⟩ l h') (S'' : SOK (C2 prog w base W S ns c) env knL vsL ρ [] h') : LawI prog w base W S ns env l ρ c h' := ⟨H', S'', I.r⟩

theorem swapS {ρ ρ' : Rho} {c c' m' : Nat} {θ θ' : Nat → Int} {m : Nat} {φ φ' : List Addr} {h : Heap} (SO : SOK (cfg prog w base θ W S ns c m) env knL vsL ρ φ h) (hρ : ∀ i d, getV ρ' i = some d → getV ρ i = some d ∧ ∃ n, plainD n d = true) : SOK (cfg prog w base θ' W S ns c' m') env knL vsL ρ' φ' h :=
  SOK.swap (C := cfg prog w base θ W S ns c m) (C' := cfg prog w base θ' W S ns c' m') (fun _ _ q => q) rfl rfl rfl SO SO.freshL (fun x c hx => absurd hx (kn_cells x)) hρ

/-- one word is looked at -/
theorem check_sound (X : (KH w).In base) (T : ∃ p loose mg mb, TopRead p loose mg mb base) {st : Stmt} (t : TrS knL vsL gsN st checkX) {ρ : Rho} {c : Nat} {s : Shared} {d : D} {Q : Flow → Shared → Prop} {E : Value → Shared → Prop} (hT : TopE env l) (hA : AOK A l 63)
    (I : LawI prog w base W S ns env l ρ c s.heap) (h5 : getV ρ 5 = some d) (hd : d ∈ allW) (hc : c + 5 ≤ 1000000)
    (P : ∀ h' tk c', c' ≤ c + 5 → LawI prog w base W S ns env l ρ c' h' → Aft (C2 prog w base W S ns 0) [] [] (places knL env) (frs l) s.heap h' → Q .next { s with heap := h', toks := tk }) :
    wpAny (model prog w) A (exec st env) Q E s := by
  have hall := List.all_eq_true.mp right_all d hd
  simp only [Bool.and_eq_true, decide_eq_true_eq] at hall
  obtain ⟨hlen, hall⟩ := hall
  let θ : Nat → Int := fun j => spinOf ns (c + j + 1) (szP ((partsOf d)[j]?.getD 0))
  obtain ⟨o, ho, hol, hod⟩ := draws_has (C := cfg prog w base θ W S ns c 0) (c := c) (partsOf d) 0 fun j sx e => by
    show θ (0 + j) = spinOf ns (c + (0 + j) + 1) (szP sx)
    rw [Nat.zero_add]
    show spinOf ns (c + j + 1) (szP ((partsOf d)[j]?.getD 0)) = _
    rw [e]; rfl
  have hr := List.all_eq_true.mp hall o ho
  obtain ⟨a', ha', e⟩ := check_step I.r.w h5 hr
  have H' : HOK (cfg prog w base θ W S ns c o.length) [] ⟨[], o⟩ l s.heap := I.H.load (C' := cfg prog w base θ W S ns c o.length) rfl rfl rfl rfl rfl rfl rfl (by show c + o.length ≤ 1000000; omega) fun j sz d e => by
    obtain ⟨h1, h2, h3⟩ := hod j sz d e
    refine ⟨h1, h2, fun φ h u => ?_⟩
    have q := h3 φ h u
    rw [Nat.zero_add] at q
    show Rd _ φ h (.int (spinOf ns (c + j + 1) sz) u) d
    cases q with
    | int => exact .int _ _
    | sym v c t i q => exact .sym _ _ _ _ q
    | pick v t i a b c => exact .pick _ _ _ a b c
    | any r => exact .any r
  refine one_stmt (θ := θ) (c0 := c) (m := o.length) X T e t hT hA (swapS I.S' fun i d e => ⟨e, I.r.p i d e⟩) H' fun φ' h' tk fv rf Hn An Sn => ?_
  cases fv with
  | next =>
    refine P h' tk (c + o.length) (by omega) ⟨Hn.unload (C' := C2 prog w base W S ns (c + o.length)) ha' rfl rfl rfl rfl rfl rfl, swapS Sn fun i d e => ⟨e, I.r.p i d e⟩, I.r⟩ (Aft.as (C := cfg prog w base θ W S ns c o.length) (C' := C2 prog w base W S ns 0) rfl An.reset)
  | _ => exact rf.elim

/-- the wheel is turned for a place -/
theorem place_sound (X : (KH w).In base) (T : ∃ p loose mg mb, TopRead p loose mg mb base) {st : Stmt} (t : TrS knL vsL gsN st placeX) {ρ : Rho} {c : Nat} {s : Shared} {Q : Flow → Shared → Prop} {E : Value → Shared → Prop} (hT : TopE env l) (hA : AOK A l 63)
    (I : LawI prog w base W S ns env l ρ c s.heap) (hc : c + 1 ≤ 1000000)
    (P : ∀ h' tk (v : Int), 0 ≤ v → v < 115 → LawI prog w base W S ns env l (setV ρ 4 (.int v)) (c + 1) h' → Aft (C2 prog w base W S ns 0) [] [] (places knL env) (frs l) s.heap h' → Q .next { s with heap := h', toks := tk }) :
    wpAny (model prog w) A (exec st env) Q E s := by
  have hv := spin_range ns (c + 1) (sz := 115) (by decide)
  have e := place_step (v := spinOf ns (c + 1) 115) I.r.w I.r.d (by rw [I.r.len]; decide)
  have H' : HOK (cfg prog w base (fun _ => 0) W S ns c 1) [] ⟨[], [(115, .int (spinOf ns (c + 1) 115))]⟩ l s.heap := I.H.load (C' := cfg prog w base (fun _ => 0) W S ns c 1) rfl rfl rfl rfl rfl rfl rfl hc fun j sz d e => by
    cases j with
    | zero =>
      simp at e
      obtain ⟨rfl, rfl⟩ := e
      exact ⟨by decide, by decide, fun φ h u => .int _ _⟩
    | succ j => simp at e
  refine one_stmt X T e t hT hA (swapS I.S' fun i d e => ⟨e, I.r.p i d e⟩) H' fun φ' h' tk fv rf Hn An Sn => ?_
  have hR := I.r.set (i := 4) (d := .int (spinOf ns (c + 1) 115)) (by decide) ⟨1, rfl⟩
  cases fv with
  | next => exact P h' tk _ hv.1 hv.2 ⟨Hn.unload (C' := C2 prog w base W S ns (c + 1)) rfl rfl rfl rfl rfl rfl rfl, swapS Sn fun i d e => ⟨e, hR.p i d e⟩, hR⟩ (Aft.as (C := cfg prog w base (fun _ => 0) W S ns c 1) (C' := C2 prog w base W S ns 0) rfl An.reset)
  | _ => exact rf.elim
end

end Mine
end

section
namespace Mine
open PySem PySem.W PyProof.Rows PySem.SeqAt

section
variable {prog : Program} {w : World} {base : Heap} {W S : Addr} {ns : List Int} {env : Env} {A : Around} {l : List Env}

noncomputable abbrev AftL (prog : Program) (w : World) (base : Heap) (W S : Addr) (ns : List Int) (env : Env) (l : List Env) (h h' : Heap) : Prop := Aft (C2 prog w base W S ns 0) [] [] (places knL env) (frs l) h h'

theorem store5 : [5].all (storeOkV knL vsL) = true := by decide +kernel
theorem store3 : [3].all (storeOkV knL vsL) = true := by decide +kernel

theorem inner_loop (X : (KH w).In base) (T : ∃ p loose mg mb, TopRead p loose mg mb base) {target : Expr} (tt : TrT vsL target (.one 5)) {st : Stmt} (t : TrS knL vsL gsN st checkX) (hT : TopE env l) (hA : AOK A l 63) :
    ∀ (ds : List D) (c : Nat) (ρ : Rho) (s : Shared) (v : Addr) (h₀ : Heap) (R : Result → Shared → Prop), (∀ d ∈ ds, d ∈ allW) → LawI prog w base W S ns env l ρ c s.heap → ItR (C2 prog w base W S ns c) [] s.heap v (.vals ds) [v] →
      Sep (C2 prog w base W S ns c) knL env l [v] → From (C2 prog w base W S ns 0) [] [] (places knL env) [v] (frs l) h₀ s.heap → c + 5 * ds.length ≤ 1000000 →
      (∀ h' tk c' ρ', c' ≤ c + 5 * ds.length → LawI prog w base W S ns env l ρ' c' h' → AftL prog w base W S ns env l h₀ h' → R (.ok .next) { s with heap := h', toks := tk }) →
      codeAny (model prog w) A (.forLoop target (.ref v) [st] [] env) R s := by
  intro ds
  induction ds with
  | nil =>
    intro c ρ s v h₀ R hds I It Sp Fr hc P
    refine for_turn fun E' => ?_
    refine next_sound (C := C2 prog w base W S ns c) (E' := E') (r := none) (Q' := fun _ _ => False) tt rfl hA.hand I.H It Sp.fresh Sp.out (fun h' H' k => ?_) (fun _ _ q => by cases q)
    have Fr' := Fr.own k
    exact P h' s.toks c ρ (by omega) ⟨H', I.S'.own k (fun y hy q => Sp.apart y hy (mem_places.mpr (.inl q))) It.noCell fun y hy => (It.facts y hy).2, I.r⟩ Fr'.out
  | cons d ds ih =>
    intro c ρ s v h₀ R hds I It Sp Fr hc P
    have hd : d ∈ allW := hds d (.head _)
    simp only [List.length_cons] at hc P
    refine for_turn fun E' => ?_
    refine next_sound (C := C2 prog w base W S ns c) (E' := E') (r := some (d, .vals ds)) tt rfl hA.hand I.H It Sp.fresh Sp.out
      (Q' := fun u s₁ => wpAny (model prog w) A (assign target env u) (fun _ s₃ => wpAny (model prog w) A (execs [st] env) (fun f s₄ => match f with
          | .next => codeAny (model prog w) A (.forLoop target (.ref v) [st] [] env) R s₄
          | .cont => codeAny (model prog w) A (.forLoop target (.ref v) [st] [] env) R s₄
          | .brk => R (.ok .next) s₄
          | .ret v => R (.ok (.ret v)) s₄) E' s₃) E' s₁) (fun u h₁ tk₁ H₁ k₁ r₁ It₁ => ?_) (fun d₁ i₁ q u s' hq => hq)
    have S₁ := I.S'.own k₁ (fun y hy q => Sp.apart y hy (mem_places.mpr (.inl q))) It.noCell fun y hy => (It.facts y hy).2
    have Fr₁ := Fr.own k₁
    refine bind_sound (C := C2 prog w base W S ns c) (tgt := .one 5) (d := d) (ρ := ρ) (ρ' := setV ρ 5 d) (F := frs l) (by simp [bindT, I.r.len]) tt store5 hA.hand S₁ H₁ r₁ fun h₂ tk₂ H₂ A₂ S₂ => ?_
    have hR := I.r.set (i := 5) (d := d) (by decide) (plain_told hd)
    have Fr₂ := Fr₁.step (Aft.as (C := C2 prog w base W S ns c) (C' := C2 prog w base W S ns 0) rfl A₂) fun b hb => List.mem_append_right _ hb
    have It₂ := It₁.aft A₂ H₁ Sp.apart Sp.out
    refine wpAny_execs_cons (check_sound X T t hT hA ⟨H₂, S₂, hR⟩ (getV_set (by rw [I.r.len]; decide)) hd (by omega) fun h₃ tk₃ c₃ hc₃ I₃ A₃ => wpAny_execs_nil ?_)
    have Fr₃ := Fr₂.step A₃ fun b hb => List.mem_append_right _ hb
    have It₃ := It₂.aft (Aft.as (C := C2 prog w base W S ns 0) (C' := C2 prog w base W S ns c) rfl A₃) H₂ Sp.apart Sp.out
    refine ih c₃ _ _ v h₀ R (fun d hd => hds d (.tail _ hd)) I₃ (ItR.swap (C := C2 prog w base W S ns c) (C' := C2 prog w base W S ns c₃) rfl rfl rfl rfl It₃ fun xs q d hd => ?_) ⟨Sp.apart, Sp.fresh, Sp.out⟩ Fr₃ (by omega)
      fun h' tk c' ρ' hc' I' A' => P h' tk c' ρ' (by omega) I' A'
    cases q
    exact plain_told (hds d (.tail _ hd))

/-- an expression, where nothing is drawn -/
theorem expr_sound (KX : (KH w).In base) (T : ∃ p loose mg mb, TopRead p loose mg mb base) {n : Nat} {x : X} {ρ : Rho} {c : Nat} {d : D} (e : (lvl Γ0 n).e x ρ ⟨[], []⟩ = some (d, ⟨[], []⟩)) {ex : Expr} (t : TrE knL vsL gsN ex x) {s : Shared} {Q : Value → Shared → Prop} {E : Value → Shared → Prop} (hA : AOK A l n)
    (I : LawI prog w base W S ns env l ρ c s.heap)
    (P : ∀ u h' tk, LawI prog w base W S ns env l ρ c h' → Aft (C2 prog w base W S ns 0) [] [] [] (frs l) s.heap h' → Rd (C2 prog w base W S ns c) [] h' u d → Q u { s with heap := h', toks := tk }) :
    wpAny (model prog w) A (eval ex env) Q E s := by
  refine (sound (prog := prog) (θ := fun _ => 0) (W := W) (S := S) (ns := ns) (c0 := c) (m := 0) KX T n).e x ρ ⟨[], []⟩ d ⟨[], []⟩ e knL vsL ex t env A l [] s Q E hA I.S'.toE I.H fun u h' tk φ' H' A' r => ?_
  have hφ : φ' = [] := List.length_eq_zero_iff.mp H'.len
  subst hφ
  exact P u h' tk ⟨H', I.S'.aft A' I.H, I.r⟩ (Aft.as (C := C2 prog w base W S ns c) (C' := C2 prog w base W S ns 0) rfl A') r

end

end Mine
end

section
namespace Mine
open PySem PySem.W PyProof.Rows PySem.SeqAt

theorem var_step {ρ : Rho} {i n : Nat} {d : D} (h : getV ρ i = some d) : (lvl Γ0 (n + 1)).e (.var i) ρ ⟨[], []⟩ = some (d, ⟨[], []⟩) := by show stepE Γ0 (lvl Γ0 n) (.var i) ρ _ = _; delta stepE; simp [h]

theorem allW_get {v : Int} (h0 : 0 ≤ v) (h1 : v < 115) : ∃ d ∈ allW, allW[v.toNat]? = some d := by
  have hl := words_len
  have hi : v.toNat < allW.length := by omega
  exact ⟨_, List.getElem_mem hi, List.getElem?_eq_getElem hi⟩

theorem item_step {ρ : Rho} {v : Int} (h2 : getV ρ 2 = some (.clst allW)) (h4 : getV ρ 4 = some (.int v)) (h0 : 0 ≤ v) (h1 : v < 115) {d : D} (hd : allW[v.toNat]? = some d) : (lvl Γ0 3).e (.item (.var 2) (.var 4)) ρ ⟨[], []⟩ = some (d, ⟨[], []⟩) := by
  show stepE Γ0 (lvl Γ0 2) (.item (.var 2) (.var 4)) ρ _ = _
  have hb : (0 ≤ v && v ≤ 1000000) = true := by simp; omega
  delta stepE
  simp only [var_step h2, var_step h4, litem]
  have : (decide (0 ≤ v) && decide (v ≤ 1000000)) = true := by simp; omega
  rw [if_pos this, hd]
  rfl

theorem add_step {ρ : Rho} {v : Int} (h4 : getV ρ 4 = some (.int v)) : (lvl Γ0 3).e (.add (.var 4) (.int 1)) ρ ⟨[], []⟩ = some (.int (v + 1), ⟨[], []⟩) := by
  show stepE Γ0 (lvl Γ0 2) (.add (.var 4) (.int 1)) ρ _ = _
  have h1 : (lvl Γ0 2).e (.int 1) ρ ⟨[], []⟩ = some (.int 1, ⟨[], []⟩) := rfl
  delta stepE
  simp only [var_step h4, h1, addD]

theorem len_step {ρ : Rho} (h2 : getV ρ 2 = some (.clst allW)) : (lvl Γ0 3).e (.len (.var 2)) ρ ⟨[], []⟩ = some (.int 115, ⟨[], []⟩) := by
  show stepE Γ0 (lvl Γ0 2) (.len (.var 2)) ρ _ = _
  delta stepE
  simp only [var_step h2, dlen, words_len]
  rfl

inductive LawB : List Stmt → Prop
  | mk {p0 p1 p2 p3 p4 p5 p6 p7 p8 p9 p10 p11 p12 p13 p14 p15 p16 p17 p18 p19 p20 q0 q1 q2 : Pos} {k k' : Nat} {s2 s3 st : Stmt} {ep elen : Expr} :
    TrS knL vsL gsN s2 (.assign 2 (.call 12 [])) → TrS knL vsL gsN s3 placeX → TrS knL vsL gsN st checkX → TrE knL vsL gsN (.Subscript (.Name "words" q0) (.Name "place" q1) q2) (.item (.var 2) (.var 4)) →
    TrE knL vsL gsN ep (.add (.var 4) (.int 1)) → TrE knL vsL gsN elen (.len (.var 2)) →
    LawB [.Assign [.Name "wheel" p0] (.List [.Subscript (.Name "script" p1) (.Slice none (some (.Constant (.int 60) k p2)) none p3) p4, .Constant (.int 0) k p5] p6) p7,
      s2,
      .For (.Name "_" p8) (.Call (.Name "range" p9) [.Constant (.int 6) k p10] [] p11)
        [s3, .For (.Name "told" p12) (.Tuple [.Subscript (.Name "words" q0) (.Name "place" q1) q2, .Subscript (.Name "words" p13) (.BinOp ep .Mod elen p14) p15] k' p16) [st] [] p17] [] p18,
      .Return (some (.Constant (.bool true) k p19)) p20]

section
variable {prog : Program} {w : World} {base : Heap} {W S : Addr} {ns : List Int} {env : Env} {A : Around} {l : List Env}

theorem pair_sound (KX : (KH w).In base) (T : ∃ p loose mg mb, TopRead p loose mg mb base) {e1 ep elen : Expr} {p13 p14 p15 p16 : Pos} {k' : Nat} (hs1 : notStar e1 = true) (t1 : TrE knL vsL gsN e1 (.item (.var 2) (.var 4))) (tp : TrE knL vsL gsN ep (.add (.var 4) (.int 1))) (tl : TrE knL vsL gsN elen (.len (.var 2)))
    {ρ : Rho} {c : Nat} {s : Shared} {v : Int} (h4 : getV ρ 4 = some (.int v)) (h0 : 0 ≤ v) (h1 : v < 115) {Q : Value → Shared → Prop} {E : Value → Shared → Prop} (hA : AOK A l 63) (I : LawI prog w base W S ns env l ρ c s.heap)
    (P : ∀ t h' tk us d1 d2, d1 ∈ allW → d2 ∈ allW → LawI prog w base W S ns env l ρ c h' → Aft (C2 prog w base W S ns 0) [] [] [] (frs l) s.heap h' → h'.IsTuple t us → RdL (C2 prog w base W S ns c) [] h' us.toList [d1, d2] → Q (.ref t) { s with heap := h', toks := tk }) :
    wpAny (model prog w) A (eval (.Tuple [e1, .Subscript (.Name "words" p13) (.BinOp ep .Mod elen p14) p15] k' p16) env) Q E s := by
  have hA3 : AOK A l 3 := hA.le (by decide)
  obtain ⟨d1, hd1, hg1⟩ := allW_get h0 h1
  have hm0 : 0 ≤ (v + 1).fmod 115 := Int.fmod_nonneg_of_pos _ (by decide)
  have hm1 : (v + 1).fmod 115 < 115 := Int.fmod_lt_of_pos _ (by decide)
  obtain ⟨d2, hd2, hg2⟩ := allW_get hm0 hm1
  rw [arm_eval_Tuple]
  refine wpAny_bind (wpAny_standAt (wpAny_bind ?_))
  rw [starEach_cons hs1]
  show wpAny _ A (spliced ((false, eval e1 env) :: (false, eval (.Subscript (.Name "words" p13) (.BinOp ep .Mod elen p14) p15) env) :: [])) _ E s
  refine Calls.spliced_cons (expr_sound KX T (item_step I.r.d h4 h0 h1 hg1) t1 hA3 I fun u1 h₁ tk₁ I₁ A₁ r₁ => ?_)
  refine Calls.spliced_cons (Subscript_ (var_sound (C := C2 prog w base W S ns c) (s := { s with heap := h₁, toks := tk₁ }) (i := 2) I.r.d rfl (by decide) I₁.S'.toE fun uw rw_ => ?_))
  cases rw_ with
  | @clst wd us _ hb rl =>
  have hl₁ : h₁.IsList wd us := let ⟨o, ho, r⟩ := hb; ⟨o, I₁.H.stays _ _ ho, r⟩
  refine binop_of (C := C2 prog w base W S ns c) (expr_sound (s := { s with heap := h₁, toks := tk₁ }) KX T (add_step h4) tp hA3 I₁ fun up h₂ tk₂ I₂ A₂ r₂ => ?_)
  refine expr_sound (s := { s with heap := h₂, toks := tk₂ }) KX T (len_step I.r.d) tl hA3 I₂ fun ul h₃ tk₃ I₃ A₃ r₃ => ?_
  cases r₂ with
  | int _ ta =>
  cases r₃ with
  | int _ tb =>
  refine PyProof.Rows.mod_int (by decide) ?_
  have hl₃ : h₃.IsList wd us := let ⟨o, ho, r⟩ := hb; ⟨o, I₃.H.stays _ _ ho, r⟩
  obtain ⟨u2, hu2, ru2⟩ := rl.get hg2
  refine tail_any hl₃.typeIs slot_list_getitem.lookup (wpAny_getItem_list hl₃ hm0 (by omega) (by simpa using hu2) (Calls.spliced_nil ?_)) (subscripted_notSlice rfl _ _)
  refine wpAny_newObj_type ?_ (by show ([u1, u2] : List Value).toArray.size ≤ sizeLine; have := line_big; simp; omega)
  have kk := push_keeps h₃ { cls := .type "tuple", data := .seq ([u1, u2] : List Value).toArray }
  have AA : Aft (C2 prog w base W S ns 0) [] [] [] (frs l) s.heap _ := ((A₁.trans A₂).trans A₃).trans (Aft.of_keeps kk)
  have A₂₃ := (A₂.trans A₃).trans (Aft.of_keeps (C := C2 prog w base W S ns 0) (φ := []) (X := []) (F := frs l) kk)
  refine P _ _ _ _ d1 d2 hd1 hd2 ⟨I₃.H.keeps kk, I₃.S'.aft (Aft.of_keeps (C := C2 prog w base W S ns c) (φ := []) (X := []) (F := frs l) kk) I₃.H, I.r⟩ AA (isTuple_push _ _) ?_
  exact .cons (r₁.mono A₂₃.tup List.prefix_rfl) (.cons (ru2.mono A₂₃.tup List.prefix_rfl) .nil)
end

end Mine
end

section
namespace Mine
open PySem PySem.W PyProof.Rows PySem.SeqAt

theorem sep_of {C : Cfg} {kn : List (Str × NameKind)} {vs : List Str} {ρ : Rho} {φ : List Addr} {a : AS} {env : Env} {l : List Env} {h : Heap} {Y : List Addr} (H : HOK C φ a l h) (SO : SOK C env kn vs ρ φ h) (hd : ∀ y ∈ Y, h.get? y = none) : Sep C kn env l Y := by
  refine ⟨fun y hy q => ?_, fun y hy => ?_, fun y hy q => ?_⟩
  · rcases mem_places.mp q with rfl | ⟨x, hm, hc⟩
    · obtain ⟨m, o, _, _, ho, _⟩ := SO.ns; rw [hd _ hy] at ho; cases ho
    · obtain ⟨v, o, ho, _⟩ := SO.cs x y hm hc; rw [hd _ hy] at ho; cases ho
  · cases q : C.base.get? y with
    | none => rfl
    | some o => have := H.stays y o q; rw [hd y hy] at this; cases this
  · obtain ⟨_, o, ho, _⟩ := H.frames.mem q; rw [hd y hy] at ho; cases ho

section
variable {prog : Program} {w : World} {base : Heap} {W S : Addr} {ns : List Int} {env : Env} {A : Around} {l : List Env}

theorem turn_sound (KX : (KH w).In base) (T : ∃ p loose mg mb, TopRead p loose mg mb base) {s3 st : Stmt} {ep elen : Expr} {q0 q1 q2 p12 p13 p14 p15 p16 p17 : Pos} {k' : Nat} (t3 : TrS knL vsL gsN s3 placeX) (tst : TrS knL vsL gsN st checkX)
    (t1 : TrE knL vsL gsN (.Subscript (.Name "words" q0) (.Name "place" q1) q2) (.item (.var 2) (.var 4))) (tp : TrE knL vsL gsN ep (.add (.var 4) (.int 1))) (tl : TrE knL vsL gsN elen (.len (.var 2))) (hT : TopE env l) (hA : AOK A l 63)
    {ρ : Rho} {c : Nat} {s : Shared} {Q : Flow → Shared → Prop} {E : Value → Shared → Prop} (I : LawI prog w base W S ns env l ρ c s.heap) (hc : c + 11 ≤ 1000000)
    (P : ∀ h' tk c' ρ', c' ≤ c + 11 → LawI prog w base W S ns env l ρ' c' h' → AftL prog w base W S ns env l s.heap h' → Q .next { s with heap := h', toks := tk }) :
    wpAny (model prog w) A (execs [s3, .For (.Name "told" p12) (.Tuple [.Subscript (.Name "words" q0) (.Name "place" q1) q2, .Subscript (.Name "words" p13) (.BinOp ep .Mod elen p14) p15] k' p16) [st] [] p17] env) Q E s := by
  refine wpAny_execs_cons (place_sound KX T t3 hT hA I (by omega) fun h₁ tk₁ v h0 h1 I₁ A₁ => ?_)
  refine wpAny_execs_cons (wpAny_For (pair_sound (s := { s with heap := h₁, toks := tk₁ }) KX T rfl t1 tp tl (getV_set (by rw [I.r.len]; decide)) h0 h1 hA I₁ fun t h₂ tk₂ us d1 d2 m1 m2 I₂ A₂ ht r₂ => wpAny_pyIter_tuple ht ?_) (fun _ => rfl))
  dsimp only
  have kk := push_keeps h₂ { cls := .type "tuple_iterator", data := .fields #[.ref t, .int 0 0] }
  have A₃ : Aft (C2 prog w base W S ns (c + 1)) [] [] [] (frs l) h₂ _ := Aft.of_keeps kk
  have dd : ∀ y ∈ [h₂.objs.size], h₂.get? y = none := fun y hy => by rw [List.mem_singleton.mp hy]; exact get_size_none _
  refine inner_loop (s := { s with heap := _, toks := tk₂ }) KX T (.one rfl) tst hT hA [d1, d2] (c + 1) _ h₂.objs.size h₂ _ (fun d hd => ?_) ⟨I₂.H.keeps kk, I₂.S'.aft A₃ I₂.H, I₂.r⟩
    (.tup (k := 0) ⟨_, Heap.get?_push_size _ rfl, rfl, rfl⟩ (ht.push _) (by rw [List.drop_zero]; exact r₂.mono (TupK.of_keeps kk) List.prefix_rfl)) (sep_of I₂.H I₂.S' dd) ⟨Aft.of_keeps kk, dd⟩ (by show c + 1 + 5 * 2 ≤ 1000000; omega) fun h' tk' c' ρ' hc' I' A' => ?_
  · simp at hd; rcases hd with rfl | rfl <;> assumption
  · exact wpAny_execs_nil (P h' tk' c' ρ' (by simp at hc'; omega) I' ((A₁.trans A₂.nil).trans A'))

theorem outer_loop (KX : (KH w).In base) (T : ∃ p loose mg mb, TopRead p loose mg mb base) {s3 st : Stmt} {ep elen : Expr} {p8 q0 q1 q2 p12 p13 p14 p15 p16 p17 : Pos} {k' : Nat} (t3 : TrS knL vsL gsN s3 placeX) (tst : TrS knL vsL gsN st checkX)
    (t1 : TrE knL vsL gsN (.Subscript (.Name "words" q0) (.Name "place" q1) q2) (.item (.var 2) (.var 4))) (tp : TrE knL vsL gsN ep (.add (.var 4) (.int 1))) (tl : TrE knL vsL gsN elen (.len (.var 2))) (hT : TopE env l) (hA : AOK A l 63) :
    ∀ (j i c : Nat) (ρ : Rho) (s : Shared) (v : Addr) (Y : List Addr) (h₀ : Heap) (R : Result → Shared → Prop), i + j = 6 → LawI prog w base W S ns env l ρ c s.heap → ItR (C2 prog w base W S ns 0) [] s.heap v (.rng i 6) Y → Sep (C2 prog w base W S ns 0) knL env l Y →
      From (C2 prog w base W S ns 0) [] [] (places knL env) Y (frs l) h₀ s.heap → c + 11 * j ≤ 1000000 → (∀ h' tk c' ρ', LawI prog w base W S ns env l ρ' c' h' → R (.ok .next) { s with heap := h', toks := tk }) →
      codeAny (model prog w) A (.forLoop (.Name "_" p8) (.ref v) [s3, .For (.Name "told" p12) (.Tuple [.Subscript (.Name "words" q0) (.Name "place" q1) q2, .Subscript (.Name "words" p13) (.BinOp ep .Mod elen p14) p15] k' p16) [st] [] p17] [] env) R s := by
  intro j
  induction j with
  | zero =>
    intro i c ρ s v Y h₀ R hij I It Sp Fr hc P
    have It' : ItR (C2 prog w base W S ns c) [] s.heap v (.rng i 6) Y := ItR.swap (C := C2 prog w base W S ns 0) (C' := C2 prog w base W S ns c) rfl rfl rfl rfl It fun xs q => by cases q
    refine for_turn fun E' => ?_
    refine next_sound (C := C2 prog w base W S ns c) (vs := vsL) (E' := E') (r := none) (Q' := fun _ _ => False) (tgt := .one 3) (target := .Name "_" p8) (.one rfl) (by simp [nextI]; omega) hA.hand I.H It' Sp.fresh Sp.out (fun h' H' k => ?_) (fun _ _ q => by cases q)
    exact P h' s.toks c ρ ⟨H', I.S'.own k (fun y hy q => Sp.apart y hy (mem_places.mpr (.inl q))) It.noCell fun y hy => (It.facts y hy).2, I.r⟩
  | succ j ih =>
    intro i c ρ s v Y h₀ R hij I It Sp Fr hc P
    have It' : ItR (C2 prog w base W S ns c) [] s.heap v (.rng i 6) Y := ItR.swap (C := C2 prog w base W S ns 0) (C' := C2 prog w base W S ns c) rfl rfl rfl rfl It fun xs q => by cases q
    refine for_turn fun E' => ?_
    refine next_sound (C := C2 prog w base W S ns c) (vs := vsL) (E' := E') (r := some (.int (i : Int), .rng (i + 1) 6)) (tgt := .one 3) (target := .Name "_" p8) (.one rfl) (by simp [nextI]; omega) hA.hand I.H It' Sp.fresh Sp.out
      (Q' := fun u s₁ => wpAny (model prog w) A (assign (.Name "_" p8) env u) (fun _ s₃ => wpAny (model prog w) A (execs _ env) (fun f s₄ => match f with
          | .next => codeAny (model prog w) A (.forLoop (.Name "_" p8) (.ref v) _ [] env) R s₄
          | .cont => codeAny (model prog w) A (.forLoop (.Name "_" p8) (.ref v) _ [] env) R s₄
          | .brk => R (.ok .next) s₄
          | .ret v => R (.ok (.ret v)) s₄) E' s₃) E' s₁) (fun u h₁ tk₁ H₁ k₁ r₁ It₁ => ?_) (fun d₁ i₁ q u s' hq => hq)
    have S₁ := I.S'.own k₁ (fun y hy q => Sp.apart y hy (mem_places.mpr (.inl q))) It.noCell fun y hy => (It.facts y hy).2
    have Fr₁ := Fr.own k₁
    refine bind_sound (C := C2 prog w base W S ns c) (vs := vsL) (tgt := .one 3) (d := .int (i : Int)) (ρ := ρ) (ρ' := setV ρ 3 (.int (i : Int))) (F := frs l) (by simp [bindT, I.r.len]) (.one rfl) store3 hA.hand S₁ H₁ r₁ fun h₂ tk₂ H₂ A₂ S₂ => ?_
    have hR := I.r.set (i := 3) (d := .int (i : Int)) (by decide) ⟨1, rfl⟩
    have Fr₂ := Fr₁.step (Aft.as (C := C2 prog w base W S ns c) (C' := C2 prog w base W S ns 0) rfl A₂) fun b hb => List.mem_append_right _ hb
    have It₂ := It₁.aft A₂ H₁ Sp.apart Sp.out
    refine turn_sound (s := { s with heap := h₂, toks := tk₂ }) KX T t3 tst t1 tp tl hT hA ⟨H₂, S₂, hR⟩ (by omega) fun h₃ tk₃ c₃ ρ₃ hc₃ I₃ A₃ => ?_
    have Fr₃ := Fr₂.step A₃ fun b hb => List.mem_append_right _ hb
    have It₃ := It₂.aft (Aft.as (C := C2 prog w base W S ns 0) (C' := C2 prog w base W S ns c) rfl A₃) H₂ Sp.apart Sp.out
    exact ih (i + 1) c₃ ρ₃ _ v Y h₀ R (by omega) I₃ (ItR.swap (C := C2 prog w base W S ns c) (C' := C2 prog w base W S ns 0) rfl rfl rfl rfl It₃ fun xs q => by cases q) Sp Fr₃ (by omega) fun h' tk c' ρ' I' => P h' tk c' ρ' I'
end

end Mine
end

section
namespace Mine
open PySem PySem.W PyProof.Rows PySem.SeqAt

theorem ints_take : ∀ {vs : List Value} {ns : List Int} (n : Nat), IntsAre vs ns → IntsAre (vs.take n) (ns.take n)
  | _, _, 0, _ => by simpa using IntsAre.nil
  | _, _, _ + 1, .nil => .nil
  | _, _, n + 1, .cons i t r => .cons i t (ints_take n r)

section
variable {prog : Program} {w : World} {base : Heap} {W S : Addr} {ns : List Int} {env : Env} {A : Around}

/-- the words stand: from here on they belong to what stays -/
theorem phase (KX : (KH w).In base) (T : ∃ p loose mg mb, TopRead p loose mg mb base) {φ : List Addr} {a : AS} {h : Heap} {ρ : Rho} {n : Nat} (hf : env.frame = some env.locals) (hlen : ρ.length = 6)
    (H : HOK (cfg prog w base (fun _ => 0) W S ns 0 0) φ a [env] h) (ha : a.o = []) (hn : a.σ[n]? = some allW) (SO : SOK (cfg prog w base (fun _ => 0) W S ns 0 0) env knL vsL ρ φ h) (h1 : getV ρ 1 = some .wheel) (h2 : getV ρ 2 = some (.lst n)) :
    ∃ base₂, (KH w).In base₂ ∧ (∃ p loose mg mb, TopRead p loose mg mb base₂) ∧ base.StaysIn base₂ ∧ LawI prog w base₂ W S ns env [env] [none, some .wheel, some (.clst allW), none, none, none] 0 h := by
  have hfr : frs [env] = [env.locals] := by unfold frs; rw [List.filterMap_cons, hf]; rfl
  have hW : base.get? W = none := H.wfresh
  have hL : base.get? env.locals = none := SO.freshL
  have hb : ∀ b o, base.get? b = some o → (hideAll h [W, env.locals]).get? b = some o := fun b o e => hideAll_get _ (H.stays b o e) fun hm => by
    rcases List.mem_cons.mp hm with rfl | hm
    · rw [hW] at e; cases e
    · rw [List.mem_singleton.mp hm, hL] at e; cases e
  obtain ⟨pp, loose, mg, mb, T⟩ := T
  obtain ⟨m, hns⟩ := SO.ns
  obtain ⟨wd, us, e1, hl, rl⟩ := H.cells n allW hn
  have hwd : wd ∉ [W, env.locals] := fun hm => by
    rcases List.mem_cons.mp hm with q | hm
    · exact H.wout (q ▸ List.mem_of_getElem? e1)
    · rw [List.mem_singleton.mp hm] at hl; exact ns_not_list hns _ hl
  have hlb : (hideAll h [W, env.locals]).IsList wd us := let ⟨o, ho, r⟩ := hl; ⟨o, hideAll_get _ ho hwd, r⟩
  have hWn : (hideAll h [W, env.locals]).get? W = none := hideAll_none _ (.head _)
  have hLn : (hideAll h [W, env.locals]).get? env.locals = none := hideAll_none _ (.tail _ (.head _))
  have hbl : ∀ b vs, base.IsList b vs → (hideAll h [W, env.locals]).IsList b vs := fun b vs ⟨o, ho, r⟩ => ⟨o, hb b o ho, r⟩
  refine ⟨hideAll h [W, env.locals], fun b o e => hb b o (KX b o e), ⟨pp, loose, mg, mb, T.keeps hb⟩, hb, ⟨?_, ?_, ?_⟩⟩
  · refine ⟨fun b o e => of_hideAll _ e, funFrames_hide H.frames fun en hen b hb => ?_, rfl, .nil, (fun _ h => by cases h), (fun n xs e => by cases e), ?_, (fun _ h => by cases h), fun x hx => ⟨by simp, (H.fout x hx).2⟩, hWn, by simp, by simp, H.sw⟩
    · rw [List.mem_singleton.mp hen, hf] at hb; cases hb; exact .tail _ (.head _)
    · obtain ⟨c, t, vs, i1, i2, i3, i4, ⟨i5, i5'⟩, _⟩ := H.wheel
      rw [ha] at i5
      exact ⟨c, t, vs, i1, i2, i3, i4, ⟨i5, i5'⟩, fun j sz d e => by cases e⟩
  · refine ⟨⟨SO.toE.kind, SO.toE.globals, SO.toE.builtins, SO.toE.glob, SO.toE.cell, SO.toE.loc, fun i x d q1 q2 => ?_⟩, SO.ns, SO.cs, SO.apart, hLn, fun x c hx => absurd hx (kn_cells x), SO.vnd⟩
    match i, q1, q2 with
    | 0, _, q2 => cases q2
    | 1, q1, q2 =>
      cases q2
      obtain ⟨v, lv, r⟩ := SO.toE.vars 1 x _ q1 h1
      exact ⟨v, lv, Rd.swap (C := cfg prog w base (fun _ => 0) W S ns 0 0) (C' := C2 prog w (hideAll h [W, env.locals]) W S ns 0) (n := 1) hbl rfl rfl rfl rfl r⟩
    | 2, q1, q2 =>
      cases q2
      obtain ⟨v, lv, r⟩ := SO.toE.vars 2 x _ q1 h2
      refine ⟨v, lv, ?_⟩
      cases r with
      | lst q =>
        rw [e1] at q; cases q
        exact .clst hlb (RdL.swapA (C := cfg prog w base (fun _ => 0) W S ns 0 0) (C' := C2 prog w (hideAll h [W, env.locals]) W S ns 0) hbl rfl rfl rfl (fun d hd => plain_told hd) rl)
    | 3, _, q2 => cases q2
    | 4, _, q2 => cases q2
    | 5, _, q2 => cases q2
    | i + 6, _, q2 => simp [getV] at q2
  · refine ⟨rfl, rfl, rfl, fun i d e => ?_⟩
    match i, e with
    | 0, e => cases e
    | 1, e => cases e; exact ⟨1, rfl⟩
    | 2, e => cases e; exact ⟨1000, plain_W⟩
    | 3, e => cases e
    | 4, e => cases e
    | 5, e => cases e
    | i + 6, e => simp [getV] at e

/-- the law's own body -/
theorem law_run (KX : (KH w).In base) (T : ∃ p loose mg mb, TopRead p loose mg mb base) {s : Shared} {b : List Stmt} (B : LawB b) (hfr : A.frames = some [env]) (hh : A.handled = none) (hd : A.depth ≤ 400) (hu : A.units ≤ 400)
    (kind : env.scope.kind = .function) (globals : env.globals = mainGlobals) (builtins : env.builtins = builtinsNs) (hf : env.frame = some env.locals) (hk : ∀ x, env.kindOf x = knL.lookup x)
    (st : base.StaysIn s.heap) (hL : base.get? env.locals = none) {m : Str → Option Value} (hn : s.heap.Ns env.locals m) {ls : Addr} {vs : List Value} {ns : List Int} (hm : m "script" = some (.ref ls)) (hl : s.heap.IsList ls vs.toArray) (hI : IntsAre vs ns) (hlen : vs.length ≤ 63)
    {Q : Flow → Shared → Prop} {E : Value → Shared → Prop} (P : ∀ h' tk, base.StaysIn h' → Q (.ret (.bool true)) { s with heap := h', toks := tk }) : wpAny (model prog w) A (execs b env) Q E s := by
  have hA : ∀ n, n ≤ 63 → AOK A [env] n := fun n hn => ⟨hfr, hh, by omega, by omega⟩
  have hT : TopE env [env] := ⟨[], rfl, hf⟩
  cases B with
  | @mk p0 p1 p2 p3 p4 p5 p6 p7 p8 p9 p10 p11 p12 p13 p14 p15 p16 p17 p18 p19 p20 q0 q1 q2 k k' s2 s3 sc ep elen t2 t3 tst t1 tp tl =>
  refine wpAny_execs_cons (wpAny_Assign_Name ?_ rfl)
  rw [arm_eval_List]
  refine wpAny_bind (wpAny_standAt (wpAny_bind ?_))
  refine Calls.spliced_cons (wpAny_Subscript_list_slice (wpAny_Name (wpAny_loadName_local kind ((hk _).trans (by decide +kernel)) hn hm ?_) (by decide)))
  refine wpAny_pure ?_
  refine show wpAny _ _ (mkInt 60) _ _ _ from wpAny_mkInt ?_
  refine ⟨ls, vs.toArray, none, some 60, rfl, hl, by rw [List.size_toArray]; have := line_big; omega, .none, .int _ _, ?_⟩
  refine Calls.spliced_cons ?_
  refine show wpAny _ _ (mkInt 0) _ _ _ from wpAny_mkInt (Calls.spliced_nil ?_)
  refine wpAny_newObj_type ?_ (by show ([_, _] : List Value).toArray.size ≤ sizeLine; have := line_big; simp; omega)
  dsimp only
  have e60 : slicePick vs.toArray none (some 60) none = (vs.take 60).toArray := slicePick_upto' vs.toArray 60
  rw [e60]
  have k1 := push_keeps s.heap { cls := .type "slice", data := .fields #[.none, .int 60 s.toks, .none] }
  generalize hh1 : s.heap.push { cls := .type "slice", data := .fields #[.none, .int 60 s.toks, .none] } = h1 at k1 ⊢
  have hz1 : h1.objs.size = s.heap.objs.size + 1 := by rw [← hh1, Heap.size_push]
  rw [← hz1]
  have k2 := push_keeps h1 { cls := .type "list", data := .seq (vs.take 60).toArray }
  have lS := isList_push h1 (vs.take 60).toArray
  have dS := get_size_none h1
  generalize hS : h1.objs.size = S at lS dS ⊢
  generalize h1.push { cls := .type "list", data := .seq (vs.take 60).toArray } = h2 at k2 lS ⊢
  have k3 := push_keeps h2 { cls := .type "list", dict := none, data := .seq ([.ref S, .int 0 (s.toks + 1)] : List Value).toArray }
  have lW := isList_push h2 ([.ref S, .int 0 (s.toks + 1)] : List Value).toArray
  have dW := get_size_none h2
  generalize hW : h2.objs.size = W at lW dW ⊢
  generalize h2.push { cls := .type "list", dict := none, data := .seq ([.ref S, .int 0 (s.toks + 1)] : List Value).toArray } = h3 at k3 lW ⊢
  have hn3 : h3.Ns env.locals m := let ⟨o, es, ep, ho, r⟩ := hn; ⟨o, es, ep, k3 _ _ (k2 _ _ (k1 _ _ ho)), r⟩
  have hp : (env.scope.kind == .class || (env.scope.kind == .module && env.locals != env.globals)) = false := by rw [kind]; rfl
  refine wpAny_storeName_local ((hk _).trans (by decide +kernel)) hn3 (fun h4 hn4 hs4 => ?_) hp
  have LW : env.locals ≠ W := fun q => ns_not_list hn3 _ (q ▸ lW)
  have lS3 : h3.IsList S (vs.take 60).toArray := let ⟨o, ho, r⟩ := lS; ⟨o, k3 _ _ ho, r⟩
  have LS : env.locals ≠ S := fun q => ns_not_list hn3 _ (q ▸ lS3)
  have SW : S ≠ W := fun q => by
    obtain ⟨o, ho, _⟩ := lS
    rw [q, dW] at ho; cases ho
  have lW4 : h4.IsList W #[.ref S, .int ((0 : Nat) : Int) (s.toks + 1)] := let ⟨o, ho, r⟩ := lW; ⟨o, hs4.extBut _ _ (Ne.symm LW) ho, r⟩
  have lS4 : h4.IsList S (vs.take 60).toArray := let ⟨o, ho, r⟩ := lS3; ⟨o, hs4.extBut _ _ (Ne.symm LS) ho, r⟩
  have st4 : base.StaysIn h4 := fun b o e => hs4.extBut b o (fun q => by rw [q, hL] at e; cases e) (k3 _ _ (k2 _ _ (k1 _ _ (st b o e))))
  have hWb : base.get? W = none := by
    cases q : base.get? W with
    | none => rfl
    | some o => have := k2 _ _ (k1 _ _ (st _ _ q)); rw [dW] at this; cases this
  have hnl : ns.length = vs.length := hI.length ▸ rfl
  have H4 : HOK (cfg prog w base (fun _ => 0) W S (ns.take 60) 0 0) [] ⟨[], []⟩ [env] h4 := by
    refine ⟨st4, ⟨by rw [kind]; decide, ?_, trivial⟩, rfl, .nil, (fun _ h => by cases h), (fun n xs e => by cases e), ⟨0, _, vs.take 60, lW4, lS4, ints_take 60 hI, ?_, ⟨rfl, by show 0 + 0 ≤ 1000000; decide⟩, fun j sz d e => by cases e⟩, (fun _ h => by cases h), fun x hx => ?_, hWb, by simp, by simp, SW⟩
    · obtain ⟨o, es, ep, ho, hd', _⟩ := hn4
      exact ⟨_, o, hf, hL, ho, fun ws e => by rw [hd'] at e; cases e⟩
    · show (ns.take 60).length ≤ 60
      rw [List.length_take]; exact Nat.min_le_left _ _
    · rw [List.filterMap_cons, hf] at hx
      rw [List.mem_singleton.mp hx]
      exact ⟨by simp, LW, LS⟩
  have S4 : SOK (cfg prog w base (fun _ => 0) W S (ns.take 60) 0 0) env knL vsL [none, some .wheel, none, none, none, none] [] h4 := by
    refine ⟨⟨kind, globals, builtins, fun x hx => (hk x).trans hx, fun x hx => absurd (mem_of_lookup hx) (kn_cells x), fun x hx => (hk x).trans hx, fun i x d q1 q2 => ?_⟩, ⟨_, hn4⟩, fun x c hx => absurd hx (kn_cells x), fun x y c hx => absurd hx (kn_cells x), hL, fun x c hx => absurd hx (kn_cells x), by decide⟩
    match i, q1, q2 with
    | 0, _, q2 => cases q2
    | 1, q1, q2 =>
      cases q2
      cases q1
      exact ⟨.ref W, .inl ⟨(hk _).trans (by decide +kernel), _, hn4, by simp⟩, .wheel⟩
    | 2, _, q2 => cases q2
    | 3, _, q2 => cases q2
    | 4, _, q2 => cases q2
    | 5, _, q2 => cases q2
    | i + 6, _, q2 => simp [getV] at q2
  obtain ⟨n, a', hσ, ho', e2⟩ := words_step (ρ := [none, some .wheel, none, none, none, none]) (by decide)
  refine wpAny_execs_cons (one_stmt (s := { s with heap := h4, toks := _ }) KX T e2 t2 hT (hA 62 (by decide)) S4 H4 fun φ' h5 tk5 fv rf H5 A5 S5 => ?_)
  cases fv with
  | brk => exact rf.elim
  | cont => exact rf.elim
  | ret v => exact rf.elim
  | next =>
  obtain ⟨base₂, KX₂, T₂, hbb, I5⟩ := phase KX T hf rfl H5 ho' hσ S5 rfl rfl
  have IE := (sound (prog := prog) (θ := fun _ => 0) (W := W) (S := S) (ns := ns.take 60) (c0 := 0) (m := 0) KX₂ T₂ 2).e
  have hev : evIt (lvl Γ0 2) (.rng (.int 6)) [none, some .wheel, some (.clst allW), none, none, none] ⟨[], []⟩ = some (.rng 0 6, ⟨[], []⟩) := rfl
  refine wpAny_execs_cons (wpAny_For (it_sound (C := C2 prog w base₂ W S (ns.take 60) 0) (s := { s with heap := h5, toks := tk5 }) (gok KX₂ T₂) IE hev (.rng (by decide +kernel) .int rfl) (hA 2 (by decide)) I5.S'.toE I5.H fun ad Y h6 tk6 φ6 H6 A6 It6 d6 => ?_) (fun _ => rfl))
  have hφ : φ6 = [] := List.length_eq_zero_iff.mp H6.len
  subst hφ
  refine outer_loop (prog := prog) (base := base₂) (W := W) (S := S) (ns := ns.take 60) (s := { s with heap := h6, toks := tk6 }) KX₂ T₂ t3 tst t1 tp tl hT (hA 63 (by decide)) 6 0 0 _ ad Y h5 _ rfl ⟨H6, I5.S'.aft A6 I5.H, I5.r⟩ It6 (sep_of I5.H I5.S' d6) ⟨A6.nil, d6⟩ (by decide) fun h7 tk7 c7 ρ7 I7 => ?_
  refine wpAny_execs_cons (wpAny_Return_some ?_)
  refine show wpAny _ _ (pure (Value.bool true)) _ _ _ from wpAny_pure ?_
  exact P h7 tk7 fun b o e => I7.H.stays b o (hbb b o e)
end

end Mine
end

section
namespace Mine
open PySem PySem.W PyProof.Rows

theorem lawB : LawB (bodyAt 26) :=
  .mk (.assign rfl (by decide +kernel) (.call rfl (by decide +kernel) (by decide +kernel) .nil) (by intros; simp))
    (.assign rfl (by decide +kernel) (.call rfl (by decide +kernel) (by decide +kernel) (.cons (.var rfl (by decide +kernel)) rfl (.cons (.len (by decide +kernel) (.var rfl (by decide +kernel)) rfl) rfl .nil))) (by intros; simp))
    (.ite (.not (.call rfl (by decide +kernel) (by decide +kernel) (.cons (.var rfl (by decide +kernel)) rfl (.cons (.var rfl (by decide +kernel)) rfl .nil)))) (.cons (.ret .bool) .nil) .nil)
    (.item (.var rfl (by decide +kernel)) (.var rfl (by decide +kernel)) rfl)
    (.add (.var rfl (by decide +kernel)) .int)
    (.len (by decide +kernel) (.var rfl (by decide +kernel)) rfl)
end Mine
end

section
open PySem PySem.W PyProof.Rows
open Mine.Q
theorem PySem.Challenge.cw_rg0228_01_holds : PySem.Challenge.rw_rg0228_01.Holds := by
  refine holds_law said_law fun said => ?_
  refine holds_open (q := vw) (loose := loose) (Xt := xt) (XP := XL vw []) (Yf := HK.obs) (Ya := HK.val) (YP := HK.says) (N := 8000) left_q HK.of HK.keeps (fun s e => xl_of s (Bool.and_eq_true_iff.mp e).1) XL.keeps (by rfl) (by rfl) (by rfl) (fun s e => recFacts_of (Bool.and_eq_true_iff.mp e).2) (by rfl) said ok_q bare_q ?hw ?hc
  case hw => w_witness2
  case hc =>
    intro w s₀ s₁ mg mb G Y fa o pm cd doc dV kV ho hd hcd hD hmg hg args vals as hpre hlay hrd hwl hlo
    have KX := kIn_of Y
    have X := (Ground.X G).1
    have V := (Ground.X G).2
    refine Ground.open G ?_
    intro T B D TE TW
    try (refine guard_noD D (by decide +kernel) ?_; clear D)
    obtain ⟨_, _, M⟩ := bmod_of_top T
    have TA := at_of_top T
    try (obtain ⟨_, _, he, B0⟩ := based_of_top T rfl hmg ho hd; have he' : cd = _ := he; subst he'; clear he)
    clear hmg
    wrow_args hpre hlay hrd hwl hlo
    refine enter_call ?_
    w_top on
    try refine codeAny_mono ?_ (fun _ _ g => GoodW.toG g)
    have K0 := below_caller (Top.heap T)
    w_call any ho hd hcd hD T F
    clear hd TA
    k_drop
    rename_i wM oM c1 c2 nsI hs hlay0 hLay hr1 hl2 as3 as4 ls vs as5 hL ra w1 r0 hI hr2 hcond hcond' h1 N0
    have hl : h1.IsList ls vs.toArray := let ⟨o, ho, r⟩ := hL; ⟨o, F.keep _ _ ho, r⟩
    obtain ⟨m, hm, hns⟩ : ∃ m : Str → Option Value, m "script" = some (.ref ls) ∧ h1.Ns s₁.heap.objs.size m := ⟨_, rfl, F.ns⟩
    refine Mine.law_run (base := s₁.heap) (ns := nsI) (ls := ls) (vs := vs) (m := m) KX ⟨_, _, _, _, topRead_of T⟩ ?hB ?hfr ?hh ?hd ?hu ?kind ?gl ?bi ?hf ?hk ?st ?hL ?hn ?hm ?hl ?hI ?hlen (fun h' tk hst => ?fin)
    case hB => exact Mine.lawB
    case hfr => exact rfl
    case hh => exact rfl
    case hd => show callerA.depth + 1 ≤ 400; decide
    case hu => show callerA.units + 3 ≤ 400; decide
    case kind => exact rfl
    case gl => exact rfl
    case bi => exact rfl
    case hf => exact rfl
    case hk => intro x; kernel_rfl
    case st => exact F.keep
    case hL => exact Mine.get_size_none _
    case hn => exact hns
    case hm => exact hm
    case hl => exact hl
    case hI => exact hI
    case hlen => have := hI.length; omega
    case fin =>
      refine ⟨.inl ⟨_, .bool true, [], rfl, fun cls => rfl, .bool _, ?_, fun _ => ⟨.nil, fun _ h => by cases h⟩⟩, hst, rfl, hg⟩
      first | kernel_rfl | wrow_close | with_unfolding_all rfl
end
