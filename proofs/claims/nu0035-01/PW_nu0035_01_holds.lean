import PyProof.Rows.All
import Wide.All
import OpenK.AllK
import Wide.FinOn
import KE.KTryDeep
import Lean
import PySem.Challenge.RW_nu0035_01
set_option Elab.async false
set_option maxRecDepth 100000
set_option linter.all false
set_option genSizeOf false
section
open PySem PySem.W PyProof.Rows
set_option maxHeartbeats 0
noncomputable section
namespace Mine.Hd
noncomputable abbrev p : Program := PySem.Challenge.pw_nu0035_01
noncomputable def keepAt : List Nat := [1, 2, 4, 5, 6, 7, 8, 10, 11, 12, 13, 14, 15, 16, 18, 19, 20, 21, 22, 23, 24, 25, 26, 27, 28, 29, 30, 31, 32, 33, 34, 35, 36, 37, 38, 39, 40, 41, 42, 43, 44, 45, 47, 48, 49, 50, 51, 52, 53, 55, 57, 58, 59, 60, 61, 62, 63, 64, 65, 66, 67]
noncomputable def vw : Program := view p keepAt
noncomputable def oS (s : String) : Str := Str.ofString s
noncomputable def ls : List Str := [oS "Outline", oS "Part", oS "GlyphTable", oS "composite_octets"]
noncomputable def c (i : Nat) : Stmt := (p.main.body[i]?).getD default
noncomputable def cc (i j : Nat) : Stmt := match c i with
 | .ClassDef _ _ _ b _ _ _ _ _ _ _ => (b[j]?).getD default
 | _ => default
noncomputable def fD (s : Stmt) (q : String) (gl : Addr) (cl : List (Str × Addr)) (df kw doc pm : Value) (an : Option Addr) (cd ct : Value) (bi : Addr) : Data := match s with
 | .FunctionDef n a b _ _ _ sc _ _ _ => .func ⟨n, oS q, a, .stmts b, sc, gl, cl, df, kw, doc, pm, an, cd, ct, bi⟩
 | _ => .freed
noncomputable def ty (s : String) : Value := .type s
noncomputable def bl (s : String) : Value := .builtin s
noncomputable def sv (s : String) (t : Nat) : Value := .str (oS s) t
noncomputable def iv (i : Int) (t : Nat) : Value := .int i t
noncomputable def r (a : Nat) : Value := .ref a
noncomputable def sf (t : Nat) : Value := sv "/claim/cut.py" t
noncomputable def tq (l : Array Value) : Obj := ⟨ty "tuple", none, .seq l 0, #[]⟩
noncomputable def cq (l : Array Value) : Obj := ⟨ty "code", none, .fields l, #[]⟩
noncomputable def fq (d : Data) : Obj := ⟨ty "function", none, d, #[]⟩
noncomputable def de (P : Params) (s : String) (t : Nat) (v : Value) : DictEntry := ⟨PyData.keyHash P (oS s), sv s t, v⟩
noncomputable def o2 (P : Params) : Obj := ⟨.none, none, (.dict #[de P "type.__subclasses__.Exception.0" 214 (iv 31 0), de P "type.__subclasses__.Exception.n" 215 (iv 1 0)] 2), #[]⟩
noncomputable def o15 (P : Params) : Obj := tq #[ty "Exception"]
noncomputable def o22 (P : Params) : Obj := tq #[]
noncomputable def o24 (P : Params) : Obj := tq #[sv "self" 204, sv "message" 205]
noncomputable def o25 (P : Params) : Obj := tq #[]
noncomputable def o27 (P : Params) : Obj := cq #[sv "__init__" 201, sv "MillError.__init__" 202, sf 203, iv 4 0, iv 2 0, iv 0 0, iv 0 0, iv 3 0, r 22, .bool true, iv 181 0, r 23, .none, r 24, r 25, r 26, iv 206 0, iv 4 0, sf 207]
noncomputable def o28 (P : Params) : Obj := fq (fD (cc 1 0) "MillError.__init__" 3 [] .none .none .none (sv "outlinemill.errors" 187) none (r 27) .none 0)
noncomputable def o29 (P : Params) : Obj := tq #[sv "message" 209]
noncomputable def o30 (P : Params) : Obj := ⟨(ty "dict"), none, (.dict #[de P "__module__" 196 (sv "outlinemill.errors" 187), de P "__firstlineno__" 200 (iv 2 199), de P "__init__" 208 (r 28), de P "__static_attributes__" 210 (r 29), de P "__weakref__" 212 (r 32), de P "__doc__" 213 .none] 3), #[]⟩
noncomputable def o32 (P : Params) : Obj := ⟨(ty "getset_descriptor"), none, (.fields #[sv "__weakref__" 211, r 31, bl "ExceptionGroup.__weakref__", .none]), #[]⟩
noncomputable def o31 (P : Params) : Obj := ⟨(ty "type"), none, (.cls ⟨oS "MillError", [ty "Exception"], [r 31, ty "Exception", ty "BaseException", ty "object"], 30, oS "MillError", true, [], [Value.ref 44], false, none, false⟩), #[some (r 15), none, some (sv "MillError" 189), some (sv "MillError" 197), some (bl "Exception.__new__"), some (.bool true)]⟩
noncomputable def o35 (P : Params) : Obj := tq #[r 31]
noncomputable def o42 (P : Params) : Obj := tq #[]
noncomputable def o43 (P : Params) : Obj := ⟨(ty "dict"), none, (.dict #[de P "__module__" 225 (sv "outlinemill.errors" 187), de P "__firstlineno__" 229 (iv 6 228), de P "__static_attributes__" 230 (r 42), de P "__doc__" 231 .none] 2), #[]⟩
noncomputable def o44 (P : Params) : Obj := ⟨(ty "type"), none, (.cls ⟨oS "FontFault", [r 31], [r 44, r 31, ty "Exception", ty "BaseException", ty "object"], 43, oS "FontFault", true, [], [], false, none, false⟩), #[some (r 35), none, some (sv "FontFault" 218), some (sv "FontFault" 226), some (bl "Exception.__new__"), some (.bool true)]⟩
noncomputable def o54 (P : Params) : Obj := ⟨(ty "tuple"), none, (.seq #[.bytes #[] 248] 0), #[]⟩
noncomputable def o55 (P : Params) : Obj := tq #[]
noncomputable def o57 (P : Params) : Obj := tq #[sv "self" 252, sv "contours" 253, sv "instructions" 254]
noncomputable def o58 (P : Params) : Obj := tq #[]
noncomputable def o60 (P : Params) : Obj := cq #[sv "__init__" 249, sv "Outline.__init__" 250, sf 251, iv 11 0, iv 3 0, iv 0 0, iv 0 0, iv 3 0, r 55, .bool true, iv 181 0, r 56, .none, r 57, r 58, r 59, iv 255 0, iv 11 0, sf 256]
noncomputable def o61 (P : Params) : Obj := fq (fD (cc 4 0) "Outline.__init__" 3 [] (r 54) .none .none (sv "outlinemill.outlines" 234) none (r 60) .none 0)
noncomputable def o62 (P : Params) : Obj := tq #[]
noncomputable def o64 (P : Params) : Obj := tq #[sv "self" 261, sv "found" 262, sv "contour" 263]
noncomputable def o65 (P : Params) : Obj := tq #[]
noncomputable def o67 (P : Params) : Obj := cq #[sv "points" 258, sv "Outline.points" 259, sf 260, iv 15 0, iv 1 0, iv 0 0, iv 0 0, iv 3 0, r 62, .bool true, iv 181 0, r 63, .none, r 64, r 65, r 66, iv 264 0, iv 15 0, sf 265]
noncomputable def o68 (P : Params) : Obj := fq (fD (cc 4 1) "Outline.points" 3 [] .none .none .none (sv "outlinemill.outlines" 234) none (r 67) .none 0)
noncomputable def o69 (P : Params) : Obj := tq #[]
noncomputable def o71 (P : Params) : Obj := tq #[sv "self" 270, sv "found" 271, sv "at" 272, sv "contour" 273]
noncomputable def o72 (P : Params) : Obj := tq #[]
noncomputable def o74 (P : Params) : Obj := cq #[sv "ends" 267, sv "Outline.ends" 268, sf 269, iv 21 0, iv 1 0, iv 0 0, iv 0 0, iv 3 0, r 69, .bool true, iv 181 0, r 70, .none, r 71, r 72, r 73, iv 274 0, iv 21 0, sf 275]
noncomputable def o75 (P : Params) : Obj := fq (fD (cc 4 2) "Outline.ends" 3 [] .none .none .none (sv "outlinemill.outlines" 234) none (r 74) .none 0)
noncomputable def o76 (P : Params) : Obj := tq #[]
noncomputable def o79 (P : Params) : Obj := cq #[sv "row" 277, sv "Outline.row" 278, sf 279, iv 29 0, iv 1 0, iv 0 0, iv 0 0, iv 3 0, r 76, .bool true, iv 181 0, r 77, .none, .none, .none, r 78, iv 280 0, iv 29 0, sf 281]
noncomputable def o80 (P : Params) : Obj := fq (fD (cc 4 3) "Outline.row" 3 [] .none .none .none (sv "outlinemill.outlines" 234) none (r 79) .none 0)
noncomputable def o81 (P : Params) : Obj := tq #[]
noncomputable def o84 (P : Params) : Obj := cq #[sv "box" 283, sv "Outline.box" 284, sf 285, iv 32 0, iv 1 0, iv 0 0, iv 0 0, iv 3 0, r 81, .bool true, iv 181 0, r 82, .none, .none, .none, r 83, iv 286 0, iv 32 0, sf 287]
noncomputable def o85 (P : Params) : Obj := fq (fD (cc 4 4) "Outline.box" 3 [] .none .none .none (sv "outlinemill.outlines" 234) none (r 84) .none 0)
noncomputable def o86 (P : Params) : Obj := tq #[sv "contours" 289, sv "instructions" 290]
noncomputable def o87 (P : Params) : Obj := ⟨(ty "dict"), none, (.dict #[de P "__module__" 243 (sv "outlinemill.outlines" 234), de P "__firstlineno__" 247 (iv 9 246), de P "__init__" 257 (r 61), de P "points" 266 (r 68), de P "ends" 276 (r 75), de P "row" 282 (r 80), de P "box" 288 (r 85), de P "__static_attributes__" 291 (r 86), de P "__dict__" 293 (r 89), de P "__weakref__" 295 (r 90), de P "__doc__" 296 .none] 4), #[]⟩
noncomputable def o88 (P : Params) : Obj := ⟨(ty "type"), none, (.cls ⟨oS "Outline", [ty "object"], [r 88, ty "object"], 87, oS "Outline", true, [], [], false, none, false⟩), #[none, none, some (sv "Outline" 236), some (sv "Outline" 244), some (bl "object.__new__"), some (.bool true)]⟩
noncomputable def o89 (P : Params) : Obj := ⟨(ty "getset_descriptor"), none, (.fields #[sv "__dict__" 292, r 88, bl "function.__dict__", bl "function.__dict__#set"]), #[]⟩
noncomputable def o90 (P : Params) : Obj := ⟨(ty "getset_descriptor"), none, (.fields #[sv "__weakref__" 294, r 88, bl "ExceptionGroup.__weakref__", .none]), #[]⟩
noncomputable def o93 (P : Params) : Obj := tq #[]
noncomputable def o95 (P : Params) : Obj := tq #[sv "points" 302, sv "ends" 303, sv "found" 304, sv "begin" 305, sv "end" 306]
noncomputable def o96 (P : Params) : Obj := tq #[]
noncomputable def o98 (P : Params) : Obj := cq #[sv "contours_of" 299, sv "contours_of" 300, sf 301, iv 39 0, iv 2 0, iv 0 0, iv 0 0, iv 3 0, r 93, .bool true, iv 181 0, r 94, .none, r 95, r 96, r 97, iv 307 0, iv 39 0, sf 308]
noncomputable def o99 (P : Params) : Obj := fq (fD (c 5) "contours_of" 3 [] .none .none .none (sv "outlinemill.outlines" 234) none (r 98) .none 0)
noncomputable def o100 (P : Params) : Obj := tq #[]
noncomputable def o103 (P : Params) : Obj := cq #[sv "moved" 310, sv "moved" 311, sf 312, iv 46 0, iv 3 0, iv 0 0, iv 0 0, iv 3 0, r 100, .bool true, iv 181 0, r 101, .none, .none, .none, r 102, iv 313 0, iv 46 0, sf 314]
noncomputable def o104 (P : Params) : Obj := fq (fD (c 6) "moved" 3 [] .none .none .none (sv "outlinemill.outlines" 234) none (r 103) .none 0)
noncomputable def o105 (P : Params) : Obj := tq #[]
noncomputable def o107 (P : Params) : Obj := tq #[sv "number" 319]
noncomputable def o108 (P : Params) : Obj := tq #[]
noncomputable def o110 (P : Params) : Obj := cq #[sv "scaled_number" 316, sv "scaled_number" 317, sf 318, iv 48 0, iv 1 0, iv 0 0, iv 0 0, iv 3 0, r 105, .bool true, iv 181 0, r 106, .none, r 107, r 108, r 109, iv 320 0, iv 48 0, sf 321]
noncomputable def o111 (P : Params) : Obj := fq (fD (c 7) "scaled_number" 3 [] .none .none .none (sv "outlinemill.outlines" 234) none (r 110) .none 0)
noncomputable def o112 (P : Params) : Obj := tq #[]
noncomputable def o115 (P : Params) : Obj := cq #[sv "turned" 323, sv "turned" 324, sf 325, iv 50 0, iv 2 0, iv 0 0, iv 0 0, iv 3 0, r 112, .bool true, iv 181 0, r 113, .none, .none, .none, r 114, iv 326 0, iv 50 0, sf 327]
noncomputable def o116 (P : Params) : Obj := fq (fD (c 8) "turned" 3 [] .none .none .none (sv "outlinemill.outlines" 234) none (r 115) .none 0)
noncomputable def o117 (P : Params) : Obj := tq #[]
noncomputable def o119 (P : Params) : Obj := tq #[sv "octets" 334, sv "at" 335]
noncomputable def o120 (P : Params) : Obj := tq #[]
noncomputable def o122 (P : Params) : Obj := cq #[sv "u16" 331, sv "u16" 332, sf 333, iv 57 0, iv 2 0, iv 0 0, iv 0 0, iv 3 0, r 117, .bool true, iv 181 0, r 118, .none, r 119, r 120, r 121, iv 336 0, iv 57 0, sf 337]
noncomputable def o123 (P : Params) : Obj := fq (fD (c 10) "u16" 3 [] .none .none .none (sv "outlinemill.sfnt" 329) none (r 122) .none 0)
noncomputable def o124 (P : Params) : Obj := tq #[]
noncomputable def o126 (P : Params) : Obj := tq #[sv "octets" 342, sv "at" 343, sv "found" 344]
noncomputable def o127 (P : Params) : Obj := tq #[]
noncomputable def o129 (P : Params) : Obj := cq #[sv "s16" 339, sv "s16" 340, sf 341, iv 61 0, iv 2 0, iv 0 0, iv 0 0, iv 3 0, r 124, .bool true, iv 181 0, r 125, .none, r 126, r 127, r 128, iv 345 0, iv 61 0, sf 346]
noncomputable def o130 (P : Params) : Obj := fq (fD (c 11) "s16" 3 [] .none .none .none (sv "outlinemill.sfnt" 329) none (r 129) .none 0)
noncomputable def o131 (P : Params) : Obj := tq #[]
noncomputable def o133 (P : Params) : Obj := tq #[sv "octets" 351, sv "at" 352]
noncomputable def o134 (P : Params) : Obj := tq #[]
noncomputable def o136 (P : Params) : Obj := cq #[sv "u32" 348, sv "u32" 349, sf 350, iv 64 0, iv 2 0, iv 0 0, iv 0 0, iv 3 0, r 131, .bool true, iv 181 0, r 132, .none, r 133, r 134, r 135, iv 353 0, iv 64 0, sf 354]
noncomputable def o137 (P : Params) : Obj := fq (fD (c 12) "u32" 3 [] .none .none .none (sv "outlinemill.sfnt" 329) none (r 136) .none 0)
noncomputable def o138 (P : Params) : Obj := tq #[]
noncomputable def o140 (P : Params) : Obj := tq #[sv "number" 359]
noncomputable def o141 (P : Params) : Obj := tq #[]
noncomputable def o143 (P : Params) : Obj := cq #[sv "put16" 356, sv "put16" 357, sf 358, iv 66 0, iv 1 0, iv 0 0, iv 0 0, iv 3 0, r 138, .bool true, iv 181 0, r 139, .none, r 140, r 141, r 142, iv 360 0, iv 66 0, sf 361]
noncomputable def o144 (P : Params) : Obj := fq (fD (c 13) "put16" 3 [] .none .none .none (sv "outlinemill.sfnt" 329) none (r 143) .none 0)
noncomputable def o145 (P : Params) : Obj := tq #[]
noncomputable def o147 (P : Params) : Obj := tq #[sv "number" 366]
noncomputable def o148 (P : Params) : Obj := tq #[]
noncomputable def o150 (P : Params) : Obj := cq #[sv "put32" 363, sv "put32" 364, sf 365, iv 68 0, iv 1 0, iv 0 0, iv 0 0, iv 3 0, r 145, .bool true, iv 181 0, r 146, .none, r 147, r 148, r 149, iv 367 0, iv 68 0, sf 368]
noncomputable def o151 (P : Params) : Obj := fq (fD (c 14) "put32" 3 [] .none .none .none (sv "outlinemill.sfnt" 329) none (r 150) .none 0)
noncomputable def o152 (P : Params) : Obj := tq #[]
noncomputable def o154 (P : Params) : Obj := tq #[sv "octets" 373, sv "at" 374, sv "size" 375]
noncomputable def o155 (P : Params) : Obj := tq #[]
noncomputable def o157 (P : Params) : Obj := cq #[sv "part_of" 370, sv "part_of" 371, sf 372, iv 70 0, iv 3 0, iv 0 0, iv 0 0, iv 3 0, r 152, .bool true, iv 181 0, r 153, .none, r 154, r 155, r 156, iv 376 0, iv 70 0, sf 377]
noncomputable def o158 (P : Params) : Obj := fq (fD (c 15) "part_of" 3 [] .none .none .none (sv "outlinemill.sfnt" 329) none (r 157) .none 0)
noncomputable def o159 (P : Params) : Obj := tq #[]
noncomputable def o161 (P : Params) : Obj := tq #[sv "octets" 382]
noncomputable def o162 (P : Params) : Obj := tq #[]
noncomputable def o164 (P : Params) : Obj := cq #[sv "filled" 379, sv "filled" 380, sf 381, iv 74 0, iv 1 0, iv 0 0, iv 0 0, iv 3 0, r 159, .bool true, iv 181 0, r 160, .none, r 161, r 162, r 163, iv 383 0, iv 74 0, sf 384]
noncomputable def o165 (P : Params) : Obj := fq (fD (c 16) "filled" 3 [] .none .none .none (sv "outlinemill.sfnt" 329) none (r 164) .none 0)
noncomputable def o166 (P : Params) : Obj := tq #[]
noncomputable def o168 (P : Params) : Obj := tq #[sv "octets" 421, sv "is_long" 422, sv "count" 423, sv "size" 424, sv "found" 425, sv "number" 426, sv "place" 427]
noncomputable def o169 (P : Params) : Obj := tq #[]
noncomputable def o171 (P : Params) : Obj := cq #[sv "read_loca" 418, sv "read_loca" 419, sf 420, iv 92 0, iv 3 0, iv 0 0, iv 0 0, iv 3 0, r 166, .bool true, iv 181 0, r 167, .none, r 168, r 169, r 170, iv 428 0, iv 92 0, sf 429]
noncomputable def o172 (P : Params) : Obj := fq (fD (c 33) "read_loca" 3 [] .none .none .none (sv "outlinemill.glyf" 386) none (r 171) .none 0)
noncomputable def o180 (P : Params) : Obj := tq #[]
noncomputable def o182 (P : Params) : Obj := tq #[sv "self" 446, sv "octets" 447]
noncomputable def o183 (P : Params) : Obj := tq #[]
noncomputable def o185 (P : Params) : Obj := cq #[sv "__init__" 443, sv "Octets.__init__" 444, sf 445, iv 105 0, iv 2 0, iv 0 0, iv 0 0, iv 3 0, r 180, .bool true, iv 181 0, r 181, .none, r 182, r 183, r 184, iv 448 0, iv 105 0, sf 449]
noncomputable def o186 (P : Params) : Obj := fq (fD (cc 34 0) "Octets.__init__" 3 [] .none .none .none (sv "outlinemill.glyf" 386) none (r 185) .none 0)
noncomputable def o187 (P : Params) : Obj := tq #[]
noncomputable def o189 (P : Params) : Obj := tq #[sv "self" 454]
noncomputable def o190 (P : Params) : Obj := tq #[]
noncomputable def o192 (P : Params) : Obj := cq #[sv "byte" 451, sv "Octets.byte" 452, sf 453, iv 109 0, iv 1 0, iv 0 0, iv 0 0, iv 3 0, r 187, .bool true, iv 181 0, r 188, .none, r 189, r 190, r 191, iv 455 0, iv 109 0, sf 456]
noncomputable def o193 (P : Params) : Obj := fq (fD (cc 34 1) "Octets.byte" 3 [] .none .none .none (sv "outlinemill.glyf" 386) none (r 192) .none 0)
noncomputable def o194 (P : Params) : Obj := tq #[]
noncomputable def o196 (P : Params) : Obj := tq #[sv "self" 461]
noncomputable def o197 (P : Params) : Obj := tq #[]
noncomputable def o199 (P : Params) : Obj := cq #[sv "word" 458, sv "Octets.word" 459, sf 460, iv 113 0, iv 1 0, iv 0 0, iv 0 0, iv 3 0, r 194, .bool true, iv 181 0, r 195, .none, r 196, r 197, r 198, iv 462 0, iv 113 0, sf 463]
noncomputable def o200 (P : Params) : Obj := fq (fD (cc 34 2) "Octets.word" 3 [] .none .none .none (sv "outlinemill.glyf" 386) none (r 199) .none 0)
noncomputable def o201 (P : Params) : Obj := tq #[]
noncomputable def o203 (P : Params) : Obj := tq #[sv "self" 468]
noncomputable def o204 (P : Params) : Obj := tq #[]
noncomputable def o206 (P : Params) : Obj := cq #[sv "signed" 465, sv "Octets.signed" 466, sf 467, iv 117 0, iv 1 0, iv 0 0, iv 0 0, iv 3 0, r 201, .bool true, iv 181 0, r 202, .none, r 203, r 204, r 205, iv 469 0, iv 117 0, sf 470]
noncomputable def o207 (P : Params) : Obj := fq (fD (cc 34 3) "Octets.signed" 3 [] .none .none .none (sv "outlinemill.glyf" 386) none (r 206) .none 0)
noncomputable def o208 (P : Params) : Obj := tq #[]
noncomputable def o210 (P : Params) : Obj := tq #[sv "self" 475, sv "size" 476]
noncomputable def o211 (P : Params) : Obj := tq #[]
noncomputable def o213 (P : Params) : Obj := cq #[sv "part" 472, sv "Octets.part" 473, sf 474, iv 121 0, iv 2 0, iv 0 0, iv 0 0, iv 3 0, r 208, .bool true, iv 181 0, r 209, .none, r 210, r 211, r 212, iv 477 0, iv 121 0, sf 478]
noncomputable def o214 (P : Params) : Obj := fq (fD (cc 34 4) "Octets.part" 3 [] .none .none .none (sv "outlinemill.glyf" 386) none (r 213) .none 0)
noncomputable def o215 (P : Params) : Obj := tq #[sv "at" 480, sv "octets" 481]
noncomputable def o216 (P : Params) : Obj := ⟨(ty "dict"), none, (.dict #[de P "__module__" 438 (sv "outlinemill.glyf" 386), de P "__firstlineno__" 442 (iv 103 441), de P "__init__" 450 (r 186), de P "byte" 457 (r 193), de P "word" 464 (r 200), de P "signed" 471 (r 207), de P "part" 479 (r 214), de P "__static_attributes__" 482 (r 215), de P "__dict__" 484 (r 218), de P "__weakref__" 486 (r 219), de P "__doc__" 487 .none] 4), #[]⟩
noncomputable def o217 (P : Params) : Obj := ⟨(ty "type"), none, (.cls ⟨oS "Octets", [ty "object"], [r 217, ty "object"], 216, oS "Octets", true, [], [], false, none, false⟩), #[none, none, some (sv "Octets" 431), some (sv "Octets" 439), some (bl "object.__new__"), some (.bool true)]⟩
noncomputable def o218 (P : Params) : Obj := ⟨(ty "getset_descriptor"), none, (.fields #[sv "__dict__" 483, r 217, bl "function.__dict__", bl "function.__dict__#set"]), #[]⟩
noncomputable def o219 (P : Params) : Obj := ⟨(ty "getset_descriptor"), none, (.fields #[sv "__weakref__" 485, r 217, bl "ExceptionGroup.__weakref__", .none]), #[]⟩
noncomputable def o222 (P : Params) : Obj := tq #[]
noncomputable def o224 (P : Params) : Obj := tq #[sv "octets" 493, sv "count" 494, sv "found" 495, sv "flag" 496, sv "many" 497]
noncomputable def o225 (P : Params) : Obj := tq #[]
noncomputable def o227 (P : Params) : Obj := cq #[sv "read_flags" 490, sv "read_flags" 491, sf 492, iv 124 0, iv 2 0, iv 0 0, iv 0 0, iv 3 0, r 222, .bool true, iv 181 0, r 223, .none, r 224, r 225, r 226, iv 498 0, iv 124 0, sf 499]
noncomputable def o228 (P : Params) : Obj := fq (fD (c 35) "read_flags" 3 [] .none .none .none (sv "outlinemill.glyf" 386) none (r 227) .none 0)
noncomputable def o229 (P : Params) : Obj := tq #[]
noncomputable def o231 (P : Params) : Obj := tq #[sv "octets" 504, sv "flags" 505, sv "short" 506, sv "same" 507, sv "found" 508, sv "at" 509, sv "flag" 510, sv "step" 511]
noncomputable def o232 (P : Params) : Obj := tq #[]
noncomputable def o234 (P : Params) : Obj := cq #[sv "read_deltas" 501, sv "read_deltas" 502, sf 503, iv 135 0, iv 4 0, iv 0 0, iv 0 0, iv 3 0, r 229, .bool true, iv 181 0, r 230, .none, r 231, r 232, r 233, iv 512 0, iv 135 0, sf 513]
noncomputable def o235 (P : Params) : Obj := fq (fD (c 36) "read_deltas" 3 [] .none .none .none (sv "outlinemill.glyf" 386) none (r 234) .none 0)
noncomputable def o236 (P : Params) : Obj := tq #[]
noncomputable def o238 (P : Params) : Obj := tq #[sv "octets" 518, sv "many" 519, sv "found" 520, sv "number" 521, sv "end" 522]
noncomputable def o239 (P : Params) : Obj := tq #[]
noncomputable def o241 (P : Params) : Obj := cq #[sv "read_ends" 515, sv "read_ends" 516, sf 517, iv 146 0, iv 2 0, iv 0 0, iv 0 0, iv 3 0, r 236, .bool true, iv 181 0, r 237, .none, r 238, r 239, r 240, iv 523 0, iv 146 0, sf 524]
noncomputable def o242 (P : Params) : Obj := fq (fD (c 37) "read_ends" 3 [] .none .none .none (sv "outlinemill.glyf" 386) none (r 241) .none 0)
noncomputable def o243 (P : Params) : Obj := tq #[]
noncomputable def o246 (P : Params) : Obj := cq #[sv "read_simple" 526, sv "read_simple" 527, sf 528, iv 154 0, iv 2 0, iv 0 0, iv 0 0, iv 3 0, r 243, .bool true, iv 181 0, r 244, .none, .none, .none, r 245, iv 529 0, iv 154 0, sf 530]
noncomputable def o247 (P : Params) : Obj := fq (fD (c 38) "read_simple" 3 [] .none .none .none (sv "outlinemill.glyf" 386) none (r 246) .none 0)
noncomputable def o255 (P : Params) : Obj := tq #[iv 16384 416, iv 0 544, iv 0 545, iv 16384 416]
noncomputable def o256 (P : Params) : Obj := tq #[.bool true, r 255]
noncomputable def o257 (P : Params) : Obj := tq #[]
noncomputable def o259 (P : Params) : Obj := tq #[sv "self" 549, sv "glyph" 550, sv "first" 551, sv "second" 552, sv "is_move" 553, sv "scale" 554]
noncomputable def o260 (P : Params) : Obj := tq #[]
noncomputable def o262 (P : Params) : Obj := cq #[sv "__init__" 546, sv "Part.__init__" 547, sf 548, iv 165 0, iv 6 0, iv 0 0, iv 0 0, iv 3 0, r 257, .bool true, iv 181 0, r 258, .none, r 259, r 260, r 261, iv 555 0, iv 165 0, sf 556]
noncomputable def o263 (P : Params) : Obj := fq (fD (cc 39 0) "Part.__init__" 3 [] (r 256) .none .none (sv "outlinemill.glyf" 386) none (r 262) .none 0)
noncomputable def o264 (P : Params) : Obj := tq #[]
noncomputable def o266 (P : Params) : Obj := tq #[sv "self" 561]
noncomputable def o267 (P : Params) : Obj := tq #[]
noncomputable def o269 (P : Params) : Obj := cq #[sv "row" 558, sv "Part.row" 559, sf 560, iv 172 0, iv 1 0, iv 0 0, iv 0 0, iv 3 0, r 264, .bool true, iv 181 0, r 265, .none, r 266, r 267, r 268, iv 562 0, iv 172 0, sf 563]
noncomputable def o270 (P : Params) : Obj := fq (fD (cc 39 1) "Part.row" 3 [] .none .none .none (sv "outlinemill.glyf" 386) none (r 269) .none 0)
noncomputable def o271 (P : Params) : Obj := tq #[sv "first" 565, sv "glyph" 566, sv "is_move" 567, sv "scale" 568, sv "second" 569]
noncomputable def o272 (P : Params) : Obj := ⟨(ty "dict"), none, (.dict #[de P "__module__" 539 (sv "outlinemill.glyf" 386), de P "__firstlineno__" 543 (iv 163 542), de P "__init__" 557 (r 263), de P "row" 564 (r 270), de P "__static_attributes__" 570 (r 271), de P "__dict__" 572 (r 274), de P "__weakref__" 574 (r 275), de P "__doc__" 575 .none] 4), #[]⟩
noncomputable def o273 (P : Params) : Obj := ⟨(ty "type"), none, (.cls ⟨oS "Part", [ty "object"], [r 273, ty "object"], 272, oS "Part", true, [], [], false, none, false⟩), #[none, none, some (sv "Part" 532), some (sv "Part" 540), some (bl "object.__new__"), some (.bool true)]⟩
noncomputable def o274 (P : Params) : Obj := ⟨(ty "getset_descriptor"), none, (.fields #[sv "__dict__" 571, r 273, bl "function.__dict__", bl "function.__dict__#set"]), #[]⟩
noncomputable def o275 (P : Params) : Obj := ⟨(ty "getset_descriptor"), none, (.fields #[sv "__weakref__" 573, r 273, bl "ExceptionGroup.__weakref__", .none]), #[]⟩
noncomputable def o278 (P : Params) : Obj := tq #[]
noncomputable def o280 (P : Params) : Obj := tq #[sv "octets" 581, sv "flags" 582, sv "one" 583, sv "other" 584, sv "third" 585]
noncomputable def o281 (P : Params) : Obj := tq #[]
noncomputable def o283 (P : Params) : Obj := cq #[sv "read_scale" 578, sv "read_scale" 579, sf 580, iv 174 0, iv 2 0, iv 0 0, iv 0 0, iv 3 0, r 278, .bool true, iv 181 0, r 279, .none, r 280, r 281, r 282, iv 586 0, iv 174 0, sf 587]
noncomputable def o284 (P : Params) : Obj := fq (fD (c 40) "read_scale" 3 [] .none .none .none (sv "outlinemill.glyf" 386) none (r 283) .none 0)
noncomputable def o285 (P : Params) : Obj := tq #[]
noncomputable def o287 (P : Params) : Obj := tq #[sv "number" 592]
noncomputable def o288 (P : Params) : Obj := tq #[]
noncomputable def o290 (P : Params) : Obj := cq #[sv "signed_byte" 589, sv "signed_byte" 590, sf 591, iv 185 0, iv 1 0, iv 0 0, iv 0 0, iv 3 0, r 285, .bool true, iv 181 0, r 286, .none, r 287, r 288, r 289, iv 593 0, iv 185 0, sf 594]
noncomputable def o291 (P : Params) : Obj := fq (fD (c 41) "signed_byte" 3 [] .none .none .none (sv "outlinemill.glyf" 386) none (r 290) .none 0)
noncomputable def o292 (P : Params) : Obj := tq #[]
noncomputable def o294 (P : Params) : Obj := tq #[sv "octets" 599, sv "flags" 600, sv "is_move" 601, sv "first" 602, sv "second" 603]
noncomputable def o295 (P : Params) : Obj := tq #[]
noncomputable def o297 (P : Params) : Obj := cq #[sv "read_arguments" 596, sv "read_arguments" 597, sf 598, iv 187 0, iv 2 0, iv 0 0, iv 0 0, iv 3 0, r 292, .bool true, iv 181 0, r 293, .none, r 294, r 295, r 296, iv 604 0, iv 187 0, sf 605]
noncomputable def o298 (P : Params) : Obj := fq (fD (c 42) "read_arguments" 3 [] .none .none .none (sv "outlinemill.glyf" 386) none (r 297) .none 0)
noncomputable def o299 (P : Params) : Obj := tq #[]
noncomputable def o301 (P : Params) : Obj := tq #[sv "octets" 610, sv "found" 611, sv "flags" 612, sv "glyph" 613, sv "first" 614, sv "second" 615, sv "instructions" 616]
noncomputable def o302 (P : Params) : Obj := tq #[]
noncomputable def o304 (P : Params) : Obj := cq #[sv "read_parts" 607, sv "read_parts" 608, sf 609, iv 199 0, iv 1 0, iv 0 0, iv 0 0, iv 3 0, r 299, .bool true, iv 181 0, r 300, .none, r 301, r 302, r 303, iv 617 0, iv 199 0, sf 618]
noncomputable def o305 (P : Params) : Obj := fq (fD (c 43) "read_parts" 3 [] .none .none .none (sv "outlinemill.glyf" 386) none (r 304) .none 0)
noncomputable def o313 (P : Params) : Obj := tq #[]
noncomputable def o315 (P : Params) : Obj := tq #[sv "self" 635, sv "octets" 636, sv "places" 637]
noncomputable def o316 (P : Params) : Obj := tq #[]
noncomputable def o318 (P : Params) : Obj := cq #[sv "__init__" 632, sv "GlyphTable.__init__" 633, sf 634, iv 213 0, iv 3 0, iv 0 0, iv 0 0, iv 3 0, r 313, .bool true, iv 181 0, r 314, .none, r 315, r 316, r 317, iv 638 0, iv 213 0, sf 639]
noncomputable def o319 (P : Params) : Obj := fq (fD (cc 44 0) "GlyphTable.__init__" 3 [] .none .none .none (sv "outlinemill.glyf" 386) none (r 318) .none 0)
noncomputable def o320 (P : Params) : Obj := tq #[]
noncomputable def o322 (P : Params) : Obj := tq #[sv "self" 644]
noncomputable def o323 (P : Params) : Obj := tq #[]
noncomputable def o325 (P : Params) : Obj := cq #[sv "count" 641, sv "GlyphTable.count" 642, sf 643, iv 217 0, iv 1 0, iv 0 0, iv 0 0, iv 3 0, r 320, .bool true, iv 181 0, r 321, .none, r 322, r 323, r 324, iv 645 0, iv 217 0, sf 646]
noncomputable def o326 (P : Params) : Obj := fq (fD (cc 44 1) "GlyphTable.count" 3 [] .none .none .none (sv "outlinemill.glyf" 386) none (r 325) .none 0)
noncomputable def o327 (P : Params) : Obj := tq #[]
noncomputable def o329 (P : Params) : Obj := tq #[sv "self" 651, sv "glyph" 652]
noncomputable def o330 (P : Params) : Obj := tq #[]
noncomputable def o332 (P : Params) : Obj := cq #[sv "glyph_octets" 648, sv "GlyphTable.glyph_octets" 649, sf 650, iv 220 0, iv 2 0, iv 0 0, iv 0 0, iv 3 0, r 327, .bool true, iv 181 0, r 328, .none, r 329, r 330, r 331, iv 653 0, iv 220 0, sf 654]
noncomputable def o333 (P : Params) : Obj := fq (fD (cc 44 2) "GlyphTable.glyph_octets" 3 [] .none .none .none (sv "outlinemill.glyf" 386) none (r 332) .none 0)
noncomputable def o334 (P : Params) : Obj := tq #[]
noncomputable def o336 (P : Params) : Obj := tq #[sv "self" 659, sv "glyph" 660, sv "octets" 661]
noncomputable def o337 (P : Params) : Obj := tq #[]
noncomputable def o339 (P : Params) : Obj := cq #[sv "parts" 656, sv "GlyphTable.parts" 657, sf 658, iv 225 0, iv 2 0, iv 0 0, iv 0 0, iv 3 0, r 334, .bool true, iv 181 0, r 335, .none, r 336, r 337, r 338, iv 662 0, iv 225 0, sf 663]
noncomputable def o340 (P : Params) : Obj := fq (fD (cc 44 3) "GlyphTable.parts" 3 [] .none .none .none (sv "outlinemill.glyf" 386) none (r 339) .none 0)
noncomputable def o341 (P : Params) : Obj := tq #[]
noncomputable def o342 (P : Params) : Obj := tq #[r 341]
noncomputable def o343 (P : Params) : Obj := tq #[]
noncomputable def o345 (P : Params) : Obj := tq #[sv "self" 668, sv "glyph" 669, sv "above" 670, sv "octets" 671, sv "many" 672, sv "parts" 673, sv "instructions" 674, sv "contours" 675, sv "part" 676, sv "inner" 677]
noncomputable def o346 (P : Params) : Obj := tq #[]
noncomputable def o348 (P : Params) : Obj := cq #[sv "outline" 665, sv "GlyphTable.outline" 666, sf 667, iv 232 0, iv 3 0, iv 0 0, iv 0 0, iv 3 0, r 343, .bool true, iv 181 0, r 344, .none, r 345, r 346, r 347, iv 678 0, iv 232 0, sf 679]
noncomputable def o349 (P : Params) : Obj := fq (fD (cc 44 4) "GlyphTable.outline" 3 [] (r 342) .none .none (sv "outlinemill.glyf" 386) none (r 348) .none 0)
noncomputable def o350 (P : Params) : Obj := tq #[sv "octets" 681, sv "places" 682]
noncomputable def o351 (P : Params) : Obj := ⟨(ty "dict"), none, (.dict #[de P "__module__" 627 (sv "outlinemill.glyf" 386), de P "__firstlineno__" 631 (iv 211 630), de P "__init__" 640 (r 319), de P "count" 647 (r 326), de P "glyph_octets" 655 (r 333), de P "parts" 664 (r 340), de P "outline" 680 (r 349), de P "__static_attributes__" 683 (r 350), de P "__dict__" 685 (r 353), de P "__weakref__" 687 (r 354), de P "__doc__" 688 .none] 4), #[]⟩
noncomputable def o352 (P : Params) : Obj := ⟨(ty "type"), none, (.cls ⟨oS "GlyphTable", [ty "object"], [r 352, ty "object"], 351, oS "GlyphTable", true, [], [], false, none, false⟩), #[none, none, some (sv "GlyphTable" 620), some (sv "GlyphTable" 628), some (bl "object.__new__"), some (.bool true)]⟩
noncomputable def o353 (P : Params) : Obj := ⟨(ty "getset_descriptor"), none, (.fields #[sv "__dict__" 684, r 352, bl "function.__dict__", bl "function.__dict__#set"]), #[]⟩
noncomputable def o354 (P : Params) : Obj := ⟨(ty "getset_descriptor"), none, (.fields #[sv "__weakref__" 686, r 352, bl "ExceptionGroup.__weakref__", .none]), #[]⟩
noncomputable def o357 (P : Params) : Obj := tq #[]
noncomputable def o359 (P : Params) : Obj := tq #[sv "part" 694, sv "inner" 695, sv "outer" 696, sv "found" 697, sv "fixed" 698, sv "loose" 699, sv "anchor" 700, sv "own" 701]
noncomputable def o360 (P : Params) : Obj := tq #[]
noncomputable def o362 (P : Params) : Obj := cq #[sv "placed" 691, sv "placed" 692, sf 693, iv 250 0, iv 3 0, iv 0 0, iv 0 0, iv 3 0, r 357, .bool true, iv 181 0, r 358, .none, r 359, r 360, r 361, iv 702 0, iv 250 0, sf 703]
noncomputable def o363 (P : Params) : Obj := fq (fD (c 45) "placed" 3 [] .none .none .none (sv "outlinemill.glyf" 386) none (r 362) .none 0)
noncomputable def o364 (P : Params) : Obj := tq #[]
noncomputable def o366 (P : Params) : Obj := tq #[sv "step" 712, sv "short" 713, sv "same" 714]
noncomputable def o367 (P : Params) : Obj := tq #[]
noncomputable def o369 (P : Params) : Obj := cq #[sv "axis_flag" 709, sv "axis_flag" 710, sf 711, iv 261 0, iv 3 0, iv 0 0, iv 0 0, iv 3 0, r 364, .bool true, iv 181 0, r 365, .none, r 366, r 367, r 368, iv 715 0, iv 261 0, sf 716]
noncomputable def o370 (P : Params) : Obj := fq (fD (c 48) "axis_flag" 3 [] .none .none .none (sv "outlinemill.glyf_writer" 705) none (r 369) .none 0)
noncomputable def o371 (P : Params) : Obj := tq #[]
noncomputable def o373 (P : Params) : Obj := tq #[sv "flags" 721, sv "found" 722, sv "at" 723, sv "many" 724]
noncomputable def o374 (P : Params) : Obj := tq #[]
noncomputable def o376 (P : Params) : Obj := cq #[sv "flag_octets" 718, sv "flag_octets" 719, sf 720, iv 271 0, iv 1 0, iv 0 0, iv 0 0, iv 3 0, r 371, .bool true, iv 181 0, r 372, .none, r 373, r 374, r 375, iv 725 0, iv 271 0, sf 726]
noncomputable def o377 (P : Params) : Obj := fq (fD (c 49) "flag_octets" 3 [] .none .none .none (sv "outlinemill.glyf_writer" 705) none (r 376) .none 0)
noncomputable def o378 (P : Params) : Obj := tq #[]
noncomputable def o381 (P : Params) : Obj := cq #[sv "box_octets" 728, sv "box_octets" 729, sf 730, iv 284 0, iv 1 0, iv 0 0, iv 0 0, iv 3 0, r 378, .bool true, iv 181 0, r 379, .none, .none, .none, r 380, iv 731 0, iv 284 0, sf 732]
noncomputable def o382 (P : Params) : Obj := fq (fD (c 50) "box_octets" 3 [] .none .none .none (sv "outlinemill.glyf_writer" 705) none (r 381) .none 0)
noncomputable def o383 (P : Params) : Obj := tq #[]
noncomputable def o386 (P : Params) : Obj := cq #[sv "simple_octets" 734, sv "simple_octets" 735, sf 736, iv 286 0, iv 1 0, iv 0 0, iv 0 0, iv 3 0, r 383, .bool true, iv 181 0, r 384, .none, .none, .none, r 385, iv 737 0, iv 286 0, sf 738]
noncomputable def o387 (P : Params) : Obj := fq (fD (c 51) "simple_octets" 3 [] .none .none .none (sv "outlinemill.glyf_writer" 705) none (r 386) .none 0)
noncomputable def o388 (P : Params) : Obj := tq #[]
noncomputable def o390 (P : Params) : Obj := tq #[sv "scale" 743, sv "a" 744, sv "b" 745, sv "c" 746, sv "d" 747]
noncomputable def o391 (P : Params) : Obj := tq #[]
noncomputable def o393 (P : Params) : Obj := cq #[sv "scale_octets" 740, sv "scale_octets" 741, sf 742, iv 300 0, iv 1 0, iv 0 0, iv 0 0, iv 3 0, r 388, .bool true, iv 181 0, r 389, .none, r 390, r 391, r 392, iv 748 0, iv 300 0, sf 749]
noncomputable def o394 (P : Params) : Obj := fq (fD (c 52) "scale_octets" 3 [] .none .none .none (sv "outlinemill.glyf_writer" 705) none (r 393) .none 0)
noncomputable def o395 (P : Params) : Obj := tq #[]
noncomputable def o397 (P : Params) : Obj := tq #[sv "part" 754, sv "first" 755, sv "second" 756]
noncomputable def o398 (P : Params) : Obj := tq #[]
noncomputable def o400 (P : Params) : Obj := cq #[sv "argument_octets" 751, sv "argument_octets" 752, sf 753, iv 309 0, iv 1 0, iv 0 0, iv 0 0, iv 3 0, r 395, .bool true, iv 181 0, r 396, .none, r 397, r 398, r 399, iv 757 0, iv 309 0, sf 758]
noncomputable def o401 (P : Params) : Obj := fq (fD (c 53) "argument_octets" 3 [] .none .none .none (sv "outlinemill.glyf_writer" 705) none (r 400) .none 0)
noncomputable def o402 (P : Params) : Obj := ⟨(ty "tuple"), none, (.seq #[.bytes #[] 760] 0), #[]⟩
noncomputable def o403 (P : Params) : Obj := tq #[]
noncomputable def o405 (P : Params) : Obj := tq #[sv "parts" 764, sv "box" 765, sv "instructions" 766, sv "found" 767, sv "at" 768, sv "argument_flag" 769, sv "arguments" 770, sv "scale_flag" 771, sv "scale" 772, sv "flags" 773]
noncomputable def o406 (P : Params) : Obj := tq #[]
noncomputable def o408 (P : Params) : Obj := cq #[sv "composite_octets" 761, sv "composite_octets" 762, sf 763, iv 318 0, iv 3 0, iv 0 0, iv 0 0, iv 3 0, r 403, .bool true, iv 181 0, r 404, .none, r 405, r 406, r 407, iv 774 0, iv 318 0, sf 775]
noncomputable def o409 (P : Params) : Obj := fq (fD (c 54) "composite_octets" 3 [] (r 402) .none .none (sv "outlinemill.glyf_writer" 705) none (r 408) .none 0)
noncomputable def o410 (P : Params) : Obj := tq #[]
noncomputable def o412 (P : Params) : Obj := tq #[sv "rows" 780, sv "is_long" 781, sv "glyphs" 782, sv "places" 783, sv "octets" 784, sv "told" 785, sv "place" 786]
noncomputable def o413 (P : Params) : Obj := tq #[]
noncomputable def o415 (P : Params) : Obj := cq #[sv "write_glyphs" 777, sv "write_glyphs" 778, sf 779, iv 334 0, iv 2 0, iv 0 0, iv 0 0, iv 3 0, r 410, .bool true, iv 181 0, r 411, .none, r 412, r 413, r 414, iv 787 0, iv 334 0, sf 788]
noncomputable def o416 (P : Params) : Obj := fq (fD (c 55) "write_glyphs" 3 [] .none .none .none (sv "outlinemill.glyf_writer" 705) none (r 415) .none 0)
noncomputable def o417 (P : Params) : Obj := tq #[]
noncomputable def o419 (P : Params) : Obj := tq #[sv "script" 795, sv "k" 796, sv "cell" 797, sv "big" 798]
noncomputable def o420 (P : Params) : Obj := tq #[]
noncomputable def o422 (P : Params) : Obj := cq #[sv "_law_pool" 792, sv "_law_pool" 793, sf 794, iv 347 0, iv 2 0, iv 0 0, iv 0 0, iv 3 0, r 417, .bool true, iv 181 0, r 418, .none, r 419, r 420, r 421, iv 799 0, iv 347 0, sf 800]
noncomputable def o423 (P : Params) : Obj := fq (fD (c 57) "_law_pool" 3 [] .none .none .none (sv "law_nu0035_01" 790) none (r 422) .none 0)
noncomputable def o424 (P : Params) : Obj := tq #[]
noncomputable def o426 (P : Params) : Obj := tq #[sv "source" 805, sv "top" 806, sv "drawn" 807]
noncomputable def o427 (P : Params) : Obj := tq #[]
noncomputable def o429 (P : Params) : Obj := cq #[sv "_law_take" 802, sv "_law_take" 803, sf 804, iv 351 0, iv 2 0, iv 0 0, iv 0 0, iv 3 0, r 424, .bool true, iv 181 0, r 425, .none, r 426, r 427, r 428, iv 808 0, iv 351 0, sf 809]
noncomputable def o430 (P : Params) : Obj := fq (fD (c 58) "_law_take" 3 [] .none .none .none (sv "law_nu0035_01" 790) none (r 429) .none 0)
noncomputable def o431 (P : Params) : Obj := tq #[]
noncomputable def o433 (P : Params) : Obj := tq #[sv "source" 814, sv "things" 815]
noncomputable def o434 (P : Params) : Obj := tq #[]
noncomputable def o436 (P : Params) : Obj := cq #[sv "_law_one" 811, sv "_law_one" 812, sf 813, iv 358 0, iv 2 0, iv 0 0, iv 0 0, iv 3 0, r 431, .bool true, iv 181 0, r 432, .none, r 433, r 434, r 435, iv 816 0, iv 358 0, sf 817]
noncomputable def o437 (P : Params) : Obj := fq (fD (c 59) "_law_one" 3 [] .none .none .none (sv "law_nu0035_01" 790) none (r 436) .none 0)
noncomputable def o3 (P : Params) : Obj := ⟨(ty "dict"), none, (.dict #[de P "__name__" 165 (sv "law_nu0035_01" 790), de P "__doc__" 166 .none, de P "__package__" 167 .none, de P "__loader__" 168 (bl "__main__.__loader__#opaque"), de P "__spec__" 169 .none, de P "__annotations__" 170 (r 6), de P "__builtins__" 171 (r 4), de P "__file__" 173 (sf 172), de P "__cached__" 174 .none, de P "MillError" 217 (r 31), de P "FontFault" 233 (r 44), de P "Outline" 298 (r 88), de P "contours_of" 309 (r 99), de P "moved" 315 (r 104), de P "scaled_number" 322 (r 111), de P "turned" 328 (r 116), de P "u16" 338 (r 123), de P "s16" 347 (r 130), de P "u32" 355 (r 137), de P "put16" 362 (r 144), de P "put32" 369 (r 151), de P "part_of" 378 (r 158), de P "filled" 385 (r 165), de P "ON_CURVE" 389 (iv 1 388), de P "X_SHORT" 391 (iv 2 390), de P "Y_SHORT" 393 (iv 4 392), de P "REPEAT" 395 (iv 8 394), de P "X_SAME" 397 (iv 16 396), de P "Y_SAME" 399 (iv 32 398), de P "WORDS" 401 (iv 1 400), de P "MOVES" 403 (iv 2 402), de P "SCALE" 405 (iv 8 404), de P "MORE" 407 (iv 32 406), de P "TWO_SCALES" 409 (iv 64 408), de P "FOUR_SCALES" 411 (iv 128 410), de P "INSTRUCTIONS" 413 (iv 256 412), de P "MOST_DEPTH" 415 (iv 8 414), de P "UNIT" 417 (iv 16384 416), de P "read_loca" 430 (r 172), de P "Octets" 489 (r 217), de P "read_flags" 500 (r 228), de P "read_deltas" 514 (r 235), de P "read_ends" 525 (r 242), de P "read_simple" 531 (r 247), de P "Part" 577 (r 273), de P "read_scale" 588 (r 284), de P "signed_byte" 595 (r 291), de P "read_arguments" 606 (r 298), de P "read_parts" 619 (r 305), de P "GlyphTable" 690 (r 352), de P "placed" 704 (r 363), de P "MOST_REPEATS" 708 (iv 255 707), de P "axis_flag" 717 (r 370), de P "flag_octets" 727 (r 377), de P "box_octets" 733 (r 382), de P "simple_octets" 739 (r 387), de P "scale_octets" 750 (r 394), de P "argument_octets" 759 (r 401), de P "composite_octets" 776 (r 409), de P "write_glyphs" 789 (r 416), de P "_law_pool" 801 (r 423), de P "_law_take" 810 (r 430), de P "_law_one" 818 (r 437), de P "_law_contours" 827 (r 444), de P "_law_part" 836 (r 451), de P "_law_scaled" 847 (r 458), de P "_law_put" 853 (r 463), de P "_law_whole" 863 (r 470), de P "_law_octets" 869 (r 475), de P "_law_told" 875 (r 480), de P "law" 881 (r 485)] 71), #[]⟩
noncomputable def o438 (P : Params) : Obj := tq #[]
noncomputable def o440 (P : Params) : Obj := tq #[sv "source" 822, sv "points" 823, sv "turn" 824]
noncomputable def o441 (P : Params) : Obj := tq #[]
noncomputable def o443 (P : Params) : Obj := cq #[sv "_law_contours" 819, sv "_law_contours" 820, sf 821, iv 360 0, iv 1 0, iv 0 0, iv 0 0, iv 3 0, r 438, .bool true, iv 181 0, r 439, .none, r 440, r 441, r 442, iv 825 0, iv 360 0, sf 826]
noncomputable def o444 (P : Params) : Obj := fq (fD (c 60) "_law_contours" 3 [] .none .none .none (sv "law_nu0035_01" 790) none (r 443) .none 0)
noncomputable def o445 (P : Params) : Obj := tq #[]
noncomputable def o447 (P : Params) : Obj := tq #[sv "source" 831, sv "glyph" 832, sv "scale" 833]
noncomputable def o448 (P : Params) : Obj := tq #[]
noncomputable def o450 (P : Params) : Obj := cq #[sv "_law_part" 828, sv "_law_part" 829, sf 830, iv 365 0, iv 2 0, iv 0 0, iv 0 0, iv 3 0, r 445, .bool true, iv 181 0, r 446, .none, r 447, r 448, r 449, iv 834 0, iv 365 0, sf 835]
noncomputable def o451 (P : Params) : Obj := fq (fD (c 61) "_law_part" 3 [] .none .none .none (sv "law_nu0035_01" 790) none (r 450) .none 0)
noncomputable def o452 (P : Params) : Obj := tq #[]
noncomputable def o454 (P : Params) : Obj := tq #[sv "x" 840, sv "y" 841, sv "scale" 842, sv "across" 843, sv "up" 844]
noncomputable def o455 (P : Params) : Obj := tq #[]
noncomputable def o457 (P : Params) : Obj := cq #[sv "_law_scaled" 837, sv "_law_scaled" 838, sf 839, iv 370 0, iv 3 0, iv 0 0, iv 0 0, iv 3 0, r 452, .bool true, iv 181 0, r 453, .none, r 454, r 455, r 456, iv 845 0, iv 370 0, sf 846]
noncomputable def o458 (P : Params) : Obj := fq (fD (c 62) "_law_scaled" 3 [] .none .none .none (sv "law_nu0035_01" 790) none (r 457) .none 0)
noncomputable def o459 (P : Params) : Obj := tq #[]
noncomputable def o462 (P : Params) : Obj := cq #[sv "_law_put" 848, sv "_law_put" 849, sf 850, iv 373 0, iv 3 0, iv 0 0, iv 0 0, iv 3 0, r 459, .bool true, iv 181 0, r 460, .none, .none, .none, r 461, iv 851 0, iv 373 0, sf 852]
noncomputable def o463 (P : Params) : Obj := fq (fD (c 63) "_law_put" 3 [] .none .none .none (sv "law_nu0035_01" 790) none (r 462) .none 0)
noncomputable def o464 (P : Params) : Obj := tq #[]
noncomputable def o466 (P : Params) : Obj := tq #[sv "parts" 857, sv "known" 858, sv "found" 859, sv "part" 860]
noncomputable def o467 (P : Params) : Obj := tq #[]
noncomputable def o469 (P : Params) : Obj := cq #[sv "_law_whole" 854, sv "_law_whole" 855, sf 856, iv 385 0, iv 2 0, iv 0 0, iv 0 0, iv 3 0, r 464, .bool true, iv 181 0, r 465, .none, r 466, r 467, r 468, iv 861 0, iv 385 0, sf 862]
noncomputable def o470 (P : Params) : Obj := fq (fD (c 64) "_law_whole" 3 [] .none .none .none (sv "law_nu0035_01" 790) none (r 469) .none 0)
noncomputable def o471 (P : Params) : Obj := tq #[]
noncomputable def o474 (P : Params) : Obj := cq #[sv "_law_octets" 864, sv "_law_octets" 865, sf 866, iv 392 0, iv 1 0, iv 0 0, iv 0 0, iv 3 0, r 471, .bool true, iv 181 0, r 472, .none, .none, .none, r 473, iv 867 0, iv 392 0, sf 868]
noncomputable def o475 (P : Params) : Obj := fq (fD (c 65) "_law_octets" 3 [] .none .none .none (sv "law_nu0035_01" 790) none (r 474) .none 0)
noncomputable def o476 (P : Params) : Obj := tq #[]
noncomputable def o479 (P : Params) : Obj := cq #[sv "_law_told" 870, sv "_law_told" 871, sf 872, iv 395 0, iv 2 0, iv 0 0, iv 0 0, iv 3 0, r 476, .bool true, iv 181 0, r 477, .none, .none, .none, r 478, iv 873 0, iv 395 0, sf 874]
noncomputable def o480 (P : Params) : Obj := fq (fD (c 66) "_law_told" 3 [] .none .none .none (sv "law_nu0035_01" 790) none (r 479) .none 0)
noncomputable def o481 (P : Params) : Obj := tq #[]
noncomputable def o484 (P : Params) : Obj := cq #[sv "law" 876, sv "law" 877, sf 878, iv 400 0, iv 1 0, iv 0 0, iv 0 0, iv 3 0, r 481, .bool true, iv 181 0, r 482, .none, .none, .none, r 483, iv 879 0, iv 400 0, sf 880]
noncomputable def o485 (P : Params) : Obj := fq (fD (c 67) "law" 3 [] .none .none .none (sv "law_nu0035_01" 790) none (r 484) .none 0)
noncomputable def u0 (P : Params) : List (Nat × Obj) := [(0, boot_o_0 P), (1, boot_o_1 P), (2, boot_o_2 P), (3, boot_o_3 P), (4, boot_o_4 P), (5, boot_o_5 P), (6, boot_o_6 P), (7, boot_o_7 P), (8, boot_o_8 P), (9, boot_o_9 P), (10, boot_o_10 P), (11, tq #[]), (12, ⟨.none, none, (.fields #[]), #[]⟩), (13, cq #[sv "<module>" 182, sv "<module>" 183, sf 184, iv 1 0, iv 0 0, iv 0 0, iv 0 0, iv 0 0, r 11, .bool false, iv 181 0, r 12, .none, .none, .none, .none, iv 185 0, iv 1 0, sf 186]), (14, ⟨(ty "frame"), none, .plain, #[some (r 13), some (r 3), some (r 3), none, some (sv "__main__" 164), none, some (r 0)]⟩)]
noncomputable def u1 (P : Params) : List (Nat × Obj) := [(2, o2 P), (3, ⟨(ty "dict"), none, (.dict #[de P "__name__" 165 (sv "outlinemill.errors" 187), de P "__doc__" 166 .none, de P "__package__" 167 .none, de P "__loader__" 168 (bl "__main__.__loader__#opaque"), de P "__spec__" 169 .none, de P "__annotations__" 170 (r 6), de P "__builtins__" 171 (r 4), de P "__file__" 173 (sf 172), de P "__cached__" 174 .none, de P "MillError" 217 (r 31)] 10), #[]⟩), (12, ⟨.none, none, (.fields #[iv 2 0, iv 0 0, r 20]), #[]⟩), (15, o15 P), (16, ⟨(ty "builtin_function_or_method"), none, (.fields #[bl "type.__prepare__", ty "type"]), #[]⟩), (17, ⟨(ty "dict"), none, (.dict #[de P "__module__" 196 (sv "outlinemill.errors" 187), de P "__qualname__" 198 (sv "MillError" 197), de P "__firstlineno__" 200 (iv 2 199), de P "__init__" 208 (r 28), de P "__static_attributes__" 210 (r 29)] 5), #[]⟩), (18, tq #[]), (19, ⟨.none, none, (.fields #[iv 4 0, iv 4 0, r 27]), #[]⟩), (20, cq #[sv "MillError" 191, sv "MillError" 192, sf 193, iv 2 0, iv 0 0, iv 0 0, iv 0 0, iv 0 0, r 18, .bool false, iv 181 0, r 19, .none, .none, .none, .none, iv 194 0, iv 2 0, sf 195]), (21, ⟨(ty "frame"), none, .plain, #[some (r 20), some (r 3), some (r 17), none, some (sv "outlinemill.errors" 187), none, some (r 0)]⟩), (22, o22 P), (23, ⟨.none, none, (.fields #[]), #[]⟩), (24, o24 P), (25, o25 P), (26, ⟨.none, none, (fD (cc 1 0) "MillError.__init__" 0 [] .none .none .none .none none .none .none 0), #[]⟩), (27, o27 P), (28, o28 P), (29, o29 P), (30, o30 P), (31, ⟨(ty "type"), none, (.cls ⟨oS "MillError", [ty "Exception"], [r 31, ty "Exception", ty "BaseException", ty "object"], 30, oS "MillError", true, [], [], false, none, false⟩), #[some (r 15), none, some (sv "MillError" 189), some (sv "MillError" 197), some (bl "Exception.__new__"), some (.bool true)]⟩), (32, o32 P), (33, ⟨(ty "super"), none, (.fields #[r 31, r 31, r 31]), #[]⟩), (34, ⟨(ty "builtin_function_or_method"), none, (.fields #[bl "object.__init_subclass__", r 31]), #[]⟩)]
noncomputable def u2 (P : Params) : List (Nat × Obj) := [(3, ⟨(ty "dict"), none, (.dict #[de P "__name__" 165 (sv "outlinemill.outlines" 234), de P "__doc__" 166 .none, de P "__package__" 167 .none, de P "__loader__" 168 (bl "__main__.__loader__#opaque"), de P "__spec__" 169 .none, de P "__annotations__" 170 (r 6), de P "__builtins__" 171 (r 4), de P "__file__" 173 (sf 172), de P "__cached__" 174 .none, de P "MillError" 217 (r 31), de P "FontFault" 233 (r 44)] 11), #[]⟩), (12, ⟨.none, none, (.fields #[iv 2 0, iv 0 0, r 20, iv 6 0, iv 0 0, r 40]), #[]⟩), (31, o31 P), (35, o35 P), (36, ⟨(ty "builtin_function_or_method"), none, (.fields #[bl "type.__prepare__", ty "type"]), #[]⟩), (37, ⟨(ty "dict"), none, (.dict #[de P "__module__" 225 (sv "outlinemill.errors" 187), de P "__qualname__" 227 (sv "FontFault" 226), de P "__firstlineno__" 229 (iv 6 228), de P "__static_attributes__" 230 (r 42)] 4), #[]⟩), (38, tq #[]), (39, ⟨.none, none, (.fields #[]), #[]⟩), (40, cq #[sv "FontFault" 220, sv "FontFault" 221, sf 222, iv 6 0, iv 0 0, iv 0 0, iv 0 0, iv 0 0, r 38, .bool false, iv 181 0, r 39, .none, .none, .none, .none, iv 223 0, iv 6 0, sf 224]), (41, ⟨(ty "frame"), none, .plain, #[some (r 40), some (r 3), some (r 37), none, some (sv "outlinemill.errors" 187), none, some (r 0)]⟩), (42, o42 P), (43, o43 P), (44, o44 P), (45, ⟨(ty "super"), none, (.fields #[r 44, r 44, r 44]), #[]⟩), (46, ⟨(ty "builtin_function_or_method"), none, (.fields #[bl "object.__init_subclass__", r 44]), #[]⟩)]
noncomputable def u3 (P : Params) : List (Nat × Obj) := [(3, ⟨(ty "dict"), none, (.dict #[de P "__name__" 165 (sv "outlinemill.outlines" 234), de P "__doc__" 166 .none, de P "__package__" 167 .none, de P "__loader__" 168 (bl "__main__.__loader__#opaque"), de P "__spec__" 169 .none, de P "__annotations__" 170 (r 6), de P "__builtins__" 171 (r 4), de P "__file__" 173 (sf 172), de P "__cached__" 174 .none, de P "MillError" 217 (r 31), de P "FontFault" 233 (r 44), de P "Outline" 298 (r 88), de P "contours_of" 309 (r 99)] 13), #[]⟩), (12, ⟨.none, none, (.fields #[iv 2 0, iv 0 0, r 20, iv 6 0, iv 0 0, r 40, iv 9 0, iv 0 0, r 52, iv 39 0, iv 0 0, r 98]), #[]⟩), (47, tq #[]), (48, ⟨(ty "builtin_function_or_method"), none, (.fields #[bl "type.__prepare__", ty "type"]), #[]⟩), (49, ⟨(ty "dict"), none, (.dict #[de P "__module__" 243 (sv "outlinemill.outlines" 234), de P "__qualname__" 245 (sv "Outline" 244), de P "__firstlineno__" 247 (iv 9 246), de P "__init__" 257 (r 61), de P "points" 266 (r 68), de P "ends" 276 (r 75), de P "row" 282 (r 80), de P "box" 288 (r 85), de P "__static_attributes__" 291 (r 86)] 9), #[]⟩), (50, tq #[]), (51, ⟨.none, none, (.fields #[iv 11 0, iv 4 0, r 60, iv 15 0, iv 4 0, r 67, iv 21 0, iv 4 0, r 74, iv 29 0, iv 4 0, r 79, iv 32 0, iv 4 0, r 84]), #[]⟩), (52, cq #[sv "Outline" 238, sv "Outline" 239, sf 240, iv 9 0, iv 0 0, iv 0 0, iv 0 0, iv 0 0, r 50, .bool false, iv 181 0, r 51, .none, .none, .none, .none, iv 241 0, iv 9 0, sf 242]), (53, ⟨(ty "frame"), none, .plain, #[some (r 52), some (r 3), some (r 49), none, some (sv "outlinemill.outlines" 234), none, some (r 0)]⟩), (54, o54 P), (55, o55 P), (56, ⟨.none, none, (.fields #[]), #[]⟩), (57, o57 P), (58, o58 P), (59, ⟨.none, none, (fD (cc 4 0) "Outline.__init__" 0 [] .none .none .none .none none .none .none 0), #[]⟩), (60, o60 P), (61, o61 P), (62, o62 P), (63, ⟨.none, none, (.fields #[]), #[]⟩), (64, o64 P), (65, o65 P), (66, ⟨.none, none, (fD (cc 4 1) "Outline.points" 0 [] .none .none .none .none none .none .none 0), #[]⟩), (67, o67 P), (68, o68 P), (69, o69 P), (70, ⟨.none, none, (.fields #[]), #[]⟩), (71, o71 P), (72, o72 P), (73, ⟨.none, none, (fD (cc 4 2) "Outline.ends" 0 [] .none .none .none .none none .none .none 0), #[]⟩), (74, o74 P), (75, o75 P), (76, o76 P), (77, ⟨.none, none, (.fields #[]), #[]⟩), (78, ⟨.none, none, (fD (cc 4 3) "Outline.row" 0 [] .none .none .none .none none .none .none 0), #[]⟩), (79, o79 P), (80, o80 P), (81, o81 P), (82, ⟨.none, none, (.fields #[]), #[]⟩), (83, ⟨.none, none, (fD (cc 4 4) "Outline.box" 0 [] .none .none .none .none none .none .none 0), #[]⟩), (84, o84 P), (85, o85 P), (86, o86 P), (87, o87 P), (88, o88 P), (89, o89 P), (90, o90 P), (91, ⟨(ty "super"), none, (.fields #[r 88, r 88, r 88]), #[]⟩), (92, ⟨(ty "builtin_function_or_method"), none, (.fields #[bl "object.__init_subclass__", r 88]), #[]⟩), (93, o93 P), (94, ⟨.none, none, (.fields #[]), #[]⟩), (95, o95 P), (96, o96 P), (97, ⟨.none, none, (fD (c 5) "contours_of" 0 [] .none .none .none .none none .none .none 0), #[]⟩), (98, o98 P), (99, o99 P)]
noncomputable def u4 (P : Params) : List (Nat × Obj) := [(3, ⟨(ty "dict"), none, (.dict #[de P "__name__" 165 (sv "outlinemill.glyf" 386), de P "__doc__" 166 .none, de P "__package__" 167 .none, de P "__loader__" 168 (bl "__main__.__loader__#opaque"), de P "__spec__" 169 .none, de P "__annotations__" 170 (r 6), de P "__builtins__" 171 (r 4), de P "__file__" 173 (sf 172), de P "__cached__" 174 .none, de P "MillError" 217 (r 31), de P "FontFault" 233 (r 44), de P "Outline" 298 (r 88), de P "contours_of" 309 (r 99), de P "moved" 315 (r 104), de P "scaled_number" 322 (r 111), de P "turned" 328 (r 116), de P "u16" 338 (r 123), de P "s16" 347 (r 130), de P "u32" 355 (r 137), de P "put16" 362 (r 144), de P "put32" 369 (r 151), de P "part_of" 378 (r 158), de P "filled" 385 (r 165), de P "ON_CURVE" 389 (iv 1 388), de P "X_SHORT" 391 (iv 2 390), de P "Y_SHORT" 393 (iv 4 392), de P "REPEAT" 395 (iv 8 394), de P "X_SAME" 397 (iv 16 396), de P "Y_SAME" 399 (iv 32 398), de P "WORDS" 401 (iv 1 400), de P "MOVES" 403 (iv 2 402), de P "SCALE" 405 (iv 8 404), de P "MORE" 407 (iv 32 406)] 33), #[]⟩), (12, ⟨.none, none, (.fields #[iv 2 0, iv 0 0, r 20, iv 6 0, iv 0 0, r 40, iv 9 0, iv 0 0, r 52, iv 39 0, iv 0 0, r 98, iv 46 0, iv 0 0, r 103, iv 48 0, iv 0 0, r 110, iv 50 0, iv 0 0, r 115, iv 57 0, iv 0 0, r 122, iv 61 0, iv 0 0, r 129, iv 64 0, iv 0 0, r 136, iv 66 0, iv 0 0, r 143, iv 68 0, iv 0 0, r 150, iv 70 0, iv 0 0, r 157, iv 74 0, iv 0 0, r 164]), #[]⟩), (100, o100 P), (101, ⟨.none, none, (.fields #[]), #[]⟩), (102, ⟨.none, none, (fD (c 6) "moved" 0 [] .none .none .none .none none .none .none 0), #[]⟩), (103, o103 P), (104, o104 P), (105, o105 P), (106, ⟨.none, none, (.fields #[]), #[]⟩), (107, o107 P), (108, o108 P), (109, ⟨.none, none, (fD (c 7) "scaled_number" 0 [] .none .none .none .none none .none .none 0), #[]⟩), (110, o110 P), (111, o111 P), (112, o112 P), (113, ⟨.none, none, (.fields #[]), #[]⟩), (114, ⟨.none, none, (fD (c 8) "turned" 0 [] .none .none .none .none none .none .none 0), #[]⟩), (115, o115 P), (116, o116 P), (117, o117 P), (118, ⟨.none, none, (.fields #[]), #[]⟩), (119, o119 P), (120, o120 P), (121, ⟨.none, none, (fD (c 10) "u16" 0 [] .none .none .none .none none .none .none 0), #[]⟩), (122, o122 P), (123, o123 P), (124, o124 P), (125, ⟨.none, none, (.fields #[]), #[]⟩), (126, o126 P), (127, o127 P), (128, ⟨.none, none, (fD (c 11) "s16" 0 [] .none .none .none .none none .none .none 0), #[]⟩), (129, o129 P), (130, o130 P), (131, o131 P), (132, ⟨.none, none, (.fields #[]), #[]⟩), (133, o133 P), (134, o134 P), (135, ⟨.none, none, (fD (c 12) "u32" 0 [] .none .none .none .none none .none .none 0), #[]⟩), (136, o136 P), (137, o137 P), (138, o138 P), (139, ⟨.none, none, (.fields #[]), #[]⟩), (140, o140 P), (141, o141 P), (142, ⟨.none, none, (fD (c 13) "put16" 0 [] .none .none .none .none none .none .none 0), #[]⟩), (143, o143 P), (144, o144 P), (145, o145 P), (146, ⟨.none, none, (.fields #[]), #[]⟩), (147, o147 P), (148, o148 P), (149, ⟨.none, none, (fD (c 14) "put32" 0 [] .none .none .none .none none .none .none 0), #[]⟩), (150, o150 P), (151, o151 P), (152, o152 P), (153, ⟨.none, none, (.fields #[]), #[]⟩), (154, o154 P), (155, o155 P), (156, ⟨.none, none, (fD (c 15) "part_of" 0 [] .none .none .none .none none .none .none 0), #[]⟩), (157, o157 P), (158, o158 P), (159, o159 P), (160, ⟨.none, none, (.fields #[]), #[]⟩), (161, o161 P), (162, o162 P), (163, ⟨.none, none, (fD (c 16) "filled" 0 [] .none .none .none .none none .none .none 0), #[]⟩), (164, o164 P), (165, o165 P)]
noncomputable def u5 (P : Params) : List (Nat × Obj) := [(3, ⟨(ty "dict"), none, (.dict #[de P "__name__" 165 (sv "outlinemill.glyf" 386), de P "__doc__" 166 .none, de P "__package__" 167 .none, de P "__loader__" 168 (bl "__main__.__loader__#opaque"), de P "__spec__" 169 .none, de P "__annotations__" 170 (r 6), de P "__builtins__" 171 (r 4), de P "__file__" 173 (sf 172), de P "__cached__" 174 .none, de P "MillError" 217 (r 31), de P "FontFault" 233 (r 44), de P "Outline" 298 (r 88), de P "contours_of" 309 (r 99), de P "moved" 315 (r 104), de P "scaled_number" 322 (r 111), de P "turned" 328 (r 116), de P "u16" 338 (r 123), de P "s16" 347 (r 130), de P "u32" 355 (r 137), de P "put16" 362 (r 144), de P "put32" 369 (r 151), de P "part_of" 378 (r 158), de P "filled" 385 (r 165), de P "ON_CURVE" 389 (iv 1 388), de P "X_SHORT" 391 (iv 2 390), de P "Y_SHORT" 393 (iv 4 392), de P "REPEAT" 395 (iv 8 394), de P "X_SAME" 397 (iv 16 396), de P "Y_SAME" 399 (iv 32 398), de P "WORDS" 401 (iv 1 400), de P "MOVES" 403 (iv 2 402), de P "SCALE" 405 (iv 8 404), de P "MORE" 407 (iv 32 406), de P "TWO_SCALES" 409 (iv 64 408), de P "FOUR_SCALES" 411 (iv 128 410), de P "INSTRUCTIONS" 413 (iv 256 412), de P "MOST_DEPTH" 415 (iv 8 414), de P "UNIT" 417 (iv 16384 416), de P "read_loca" 430 (r 172)] 39), #[]⟩), (12, ⟨.none, none, (.fields #[iv 2 0, iv 0 0, r 20, iv 6 0, iv 0 0, r 40, iv 9 0, iv 0 0, r 52, iv 39 0, iv 0 0, r 98, iv 46 0, iv 0 0, r 103, iv 48 0, iv 0 0, r 110, iv 50 0, iv 0 0, r 115, iv 57 0, iv 0 0, r 122, iv 61 0, iv 0 0, r 129, iv 64 0, iv 0 0, r 136, iv 66 0, iv 0 0, r 143, iv 68 0, iv 0 0, r 150, iv 70 0, iv 0 0, r 157, iv 74 0, iv 0 0, r 164, iv 92 0, iv 0 0, r 171]), #[]⟩), (166, o166 P), (167, ⟨.none, none, (.fields #[]), #[]⟩), (168, o168 P), (169, o169 P), (170, ⟨.none, none, (fD (c 33) "read_loca" 0 [] .none .none .none .none none .none .none 0), #[]⟩), (171, o171 P), (172, o172 P)]
noncomputable def u6 (P : Params) : List (Nat × Obj) := [(3, ⟨(ty "dict"), none, (.dict #[de P "__name__" 165 (sv "outlinemill.glyf" 386), de P "__doc__" 166 .none, de P "__package__" 167 .none, de P "__loader__" 168 (bl "__main__.__loader__#opaque"), de P "__spec__" 169 .none, de P "__annotations__" 170 (r 6), de P "__builtins__" 171 (r 4), de P "__file__" 173 (sf 172), de P "__cached__" 174 .none, de P "MillError" 217 (r 31), de P "FontFault" 233 (r 44), de P "Outline" 298 (r 88), de P "contours_of" 309 (r 99), de P "moved" 315 (r 104), de P "scaled_number" 322 (r 111), de P "turned" 328 (r 116), de P "u16" 338 (r 123), de P "s16" 347 (r 130), de P "u32" 355 (r 137), de P "put16" 362 (r 144), de P "put32" 369 (r 151), de P "part_of" 378 (r 158), de P "filled" 385 (r 165), de P "ON_CURVE" 389 (iv 1 388), de P "X_SHORT" 391 (iv 2 390), de P "Y_SHORT" 393 (iv 4 392), de P "REPEAT" 395 (iv 8 394), de P "X_SAME" 397 (iv 16 396), de P "Y_SAME" 399 (iv 32 398), de P "WORDS" 401 (iv 1 400), de P "MOVES" 403 (iv 2 402), de P "SCALE" 405 (iv 8 404), de P "MORE" 407 (iv 32 406), de P "TWO_SCALES" 409 (iv 64 408), de P "FOUR_SCALES" 411 (iv 128 410), de P "INSTRUCTIONS" 413 (iv 256 412), de P "MOST_DEPTH" 415 (iv 8 414), de P "UNIT" 417 (iv 16384 416), de P "read_loca" 430 (r 172), de P "Octets" 489 (r 217), de P "read_flags" 500 (r 228)] 41), #[]⟩), (12, ⟨.none, none, (.fields #[iv 2 0, iv 0 0, r 20, iv 6 0, iv 0 0, r 40, iv 9 0, iv 0 0, r 52, iv 39 0, iv 0 0, r 98, iv 46 0, iv 0 0, r 103, iv 48 0, iv 0 0, r 110, iv 50 0, iv 0 0, r 115, iv 57 0, iv 0 0, r 122, iv 61 0, iv 0 0, r 129, iv 64 0, iv 0 0, r 136, iv 66 0, iv 0 0, r 143, iv 68 0, iv 0 0, r 150, iv 70 0, iv 0 0, r 157, iv 74 0, iv 0 0, r 164, iv 92 0, iv 0 0, r 171, iv 103 0, iv 0 0, r 178, iv 124 0, iv 0 0, r 227]), #[]⟩), (173, tq #[]), (174, ⟨(ty "builtin_function_or_method"), none, (.fields #[bl "type.__prepare__", ty "type"]), #[]⟩), (175, ⟨(ty "dict"), none, (.dict #[de P "__module__" 438 (sv "outlinemill.glyf" 386), de P "__qualname__" 440 (sv "Octets" 439), de P "__firstlineno__" 442 (iv 103 441), de P "__init__" 450 (r 186), de P "byte" 457 (r 193), de P "word" 464 (r 200), de P "signed" 471 (r 207), de P "part" 479 (r 214), de P "__static_attributes__" 482 (r 215)] 9), #[]⟩), (176, tq #[]), (177, ⟨.none, none, (.fields #[iv 105 0, iv 4 0, r 185, iv 109 0, iv 4 0, r 192, iv 113 0, iv 4 0, r 199, iv 117 0, iv 4 0, r 206, iv 121 0, iv 4 0, r 213]), #[]⟩), (178, cq #[sv "Octets" 433, sv "Octets" 434, sf 435, iv 103 0, iv 0 0, iv 0 0, iv 0 0, iv 0 0, r 176, .bool false, iv 181 0, r 177, .none, .none, .none, .none, iv 436 0, iv 103 0, sf 437]), (179, ⟨(ty "frame"), none, .plain, #[some (r 178), some (r 3), some (r 175), none, some (sv "outlinemill.glyf" 386), none, some (r 0)]⟩), (180, o180 P), (181, ⟨.none, none, (.fields #[]), #[]⟩), (182, o182 P), (183, o183 P), (184, ⟨.none, none, (fD (cc 34 0) "Octets.__init__" 0 [] .none .none .none .none none .none .none 0), #[]⟩), (185, o185 P), (186, o186 P), (187, o187 P), (188, ⟨.none, none, (.fields #[]), #[]⟩), (189, o189 P), (190, o190 P), (191, ⟨.none, none, (fD (cc 34 1) "Octets.byte" 0 [] .none .none .none .none none .none .none 0), #[]⟩), (192, o192 P), (193, o193 P), (194, o194 P), (195, ⟨.none, none, (.fields #[]), #[]⟩), (196, o196 P), (197, o197 P), (198, ⟨.none, none, (fD (cc 34 2) "Octets.word" 0 [] .none .none .none .none none .none .none 0), #[]⟩), (199, o199 P), (200, o200 P), (201, o201 P), (202, ⟨.none, none, (.fields #[]), #[]⟩), (203, o203 P), (204, o204 P), (205, ⟨.none, none, (fD (cc 34 3) "Octets.signed" 0 [] .none .none .none .none none .none .none 0), #[]⟩), (206, o206 P), (207, o207 P), (208, o208 P), (209, ⟨.none, none, (.fields #[]), #[]⟩), (210, o210 P), (211, o211 P), (212, ⟨.none, none, (fD (cc 34 4) "Octets.part" 0 [] .none .none .none .none none .none .none 0), #[]⟩), (213, o213 P), (214, o214 P), (215, o215 P), (216, o216 P), (217, o217 P), (218, o218 P), (219, o219 P), (220, ⟨(ty "super"), none, (.fields #[r 217, r 217, r 217]), #[]⟩), (221, ⟨(ty "builtin_function_or_method"), none, (.fields #[bl "object.__init_subclass__", r 217]), #[]⟩), (222, o222 P), (223, ⟨.none, none, (.fields #[]), #[]⟩), (224, o224 P), (225, o225 P), (226, ⟨.none, none, (fD (c 35) "read_flags" 0 [] .none .none .none .none none .none .none 0), #[]⟩), (227, o227 P), (228, o228 P)]
noncomputable def u7 (P : Params) : List (Nat × Obj) := [(3, ⟨(ty "dict"), none, (.dict #[de P "__name__" 165 (sv "outlinemill.glyf" 386), de P "__doc__" 166 .none, de P "__package__" 167 .none, de P "__loader__" 168 (bl "__main__.__loader__#opaque"), de P "__spec__" 169 .none, de P "__annotations__" 170 (r 6), de P "__builtins__" 171 (r 4), de P "__file__" 173 (sf 172), de P "__cached__" 174 .none, de P "MillError" 217 (r 31), de P "FontFault" 233 (r 44), de P "Outline" 298 (r 88), de P "contours_of" 309 (r 99), de P "moved" 315 (r 104), de P "scaled_number" 322 (r 111), de P "turned" 328 (r 116), de P "u16" 338 (r 123), de P "s16" 347 (r 130), de P "u32" 355 (r 137), de P "put16" 362 (r 144), de P "put32" 369 (r 151), de P "part_of" 378 (r 158), de P "filled" 385 (r 165), de P "ON_CURVE" 389 (iv 1 388), de P "X_SHORT" 391 (iv 2 390), de P "Y_SHORT" 393 (iv 4 392), de P "REPEAT" 395 (iv 8 394), de P "X_SAME" 397 (iv 16 396), de P "Y_SAME" 399 (iv 32 398), de P "WORDS" 401 (iv 1 400), de P "MOVES" 403 (iv 2 402), de P "SCALE" 405 (iv 8 404), de P "MORE" 407 (iv 32 406), de P "TWO_SCALES" 409 (iv 64 408), de P "FOUR_SCALES" 411 (iv 128 410), de P "INSTRUCTIONS" 413 (iv 256 412), de P "MOST_DEPTH" 415 (iv 8 414), de P "UNIT" 417 (iv 16384 416), de P "read_loca" 430 (r 172), de P "Octets" 489 (r 217), de P "read_flags" 500 (r 228), de P "read_deltas" 514 (r 235), de P "read_ends" 525 (r 242), de P "read_simple" 531 (r 247), de P "Part" 577 (r 273)] 45), #[]⟩), (12, ⟨.none, none, (.fields #[iv 2 0, iv 0 0, r 20, iv 6 0, iv 0 0, r 40, iv 9 0, iv 0 0, r 52, iv 39 0, iv 0 0, r 98, iv 46 0, iv 0 0, r 103, iv 48 0, iv 0 0, r 110, iv 50 0, iv 0 0, r 115, iv 57 0, iv 0 0, r 122, iv 61 0, iv 0 0, r 129, iv 64 0, iv 0 0, r 136, iv 66 0, iv 0 0, r 143, iv 68 0, iv 0 0, r 150, iv 70 0, iv 0 0, r 157, iv 74 0, iv 0 0, r 164, iv 92 0, iv 0 0, r 171, iv 103 0, iv 0 0, r 178, iv 124 0, iv 0 0, r 227, iv 135 0, iv 0 0, r 234, iv 146 0, iv 0 0, r 241, iv 154 0, iv 0 0, r 246, iv 163 0, iv 0 0, r 253]), #[]⟩), (229, o229 P), (230, ⟨.none, none, (.fields #[]), #[]⟩), (231, o231 P), (232, o232 P), (233, ⟨.none, none, (fD (c 36) "read_deltas" 0 [] .none .none .none .none none .none .none 0), #[]⟩), (234, o234 P), (235, o235 P), (236, o236 P), (237, ⟨.none, none, (.fields #[]), #[]⟩), (238, o238 P), (239, o239 P), (240, ⟨.none, none, (fD (c 37) "read_ends" 0 [] .none .none .none .none none .none .none 0), #[]⟩), (241, o241 P), (242, o242 P), (243, o243 P), (244, ⟨.none, none, (.fields #[]), #[]⟩), (245, ⟨.none, none, (fD (c 38) "read_simple" 0 [] .none .none .none .none none .none .none 0), #[]⟩), (246, o246 P), (247, o247 P), (248, tq #[]), (249, ⟨(ty "builtin_function_or_method"), none, (.fields #[bl "type.__prepare__", ty "type"]), #[]⟩), (250, ⟨(ty "dict"), none, (.dict #[de P "__module__" 539 (sv "outlinemill.glyf" 386), de P "__qualname__" 541 (sv "Part" 540), de P "__firstlineno__" 543 (iv 163 542), de P "__init__" 557 (r 263), de P "row" 564 (r 270), de P "__static_attributes__" 570 (r 271)] 6), #[]⟩), (251, tq #[]), (252, ⟨.none, none, (.fields #[iv 165 0, iv 4 0, r 262, iv 172 0, iv 4 0, r 269]), #[]⟩), (253, cq #[sv "Part" 534, sv "Part" 535, sf 536, iv 163 0, iv 0 0, iv 0 0, iv 0 0, iv 0 0, r 251, .bool false, iv 181 0, r 252, .none, .none, .none, .none, iv 537 0, iv 163 0, sf 538]), (254, ⟨(ty "frame"), none, .plain, #[some (r 253), some (r 3), some (r 250), none, some (sv "outlinemill.glyf" 386), none, some (r 0)]⟩), (255, o255 P), (256, o256 P), (257, o257 P), (258, ⟨.none, none, (.fields #[]), #[]⟩), (259, o259 P), (260, o260 P), (261, ⟨.none, none, (fD (cc 39 0) "Part.__init__" 0 [] .none .none .none .none none .none .none 0), #[]⟩), (262, o262 P), (263, o263 P), (264, o264 P), (265, ⟨.none, none, (.fields #[]), #[]⟩), (266, o266 P), (267, o267 P), (268, ⟨.none, none, (fD (cc 39 1) "Part.row" 0 [] .none .none .none .none none .none .none 0), #[]⟩), (269, o269 P), (270, o270 P), (271, o271 P), (272, o272 P), (273, o273 P), (274, o274 P), (275, o275 P), (276, ⟨(ty "super"), none, (.fields #[r 273, r 273, r 273]), #[]⟩), (277, ⟨(ty "builtin_function_or_method"), none, (.fields #[bl "object.__init_subclass__", r 273]), #[]⟩)]
noncomputable def u8 (P : Params) : List (Nat × Obj) := [(3, ⟨(ty "dict"), none, (.dict #[de P "__name__" 165 (sv "outlinemill.glyf" 386), de P "__doc__" 166 .none, de P "__package__" 167 .none, de P "__loader__" 168 (bl "__main__.__loader__#opaque"), de P "__spec__" 169 .none, de P "__annotations__" 170 (r 6), de P "__builtins__" 171 (r 4), de P "__file__" 173 (sf 172), de P "__cached__" 174 .none, de P "MillError" 217 (r 31), de P "FontFault" 233 (r 44), de P "Outline" 298 (r 88), de P "contours_of" 309 (r 99), de P "moved" 315 (r 104), de P "scaled_number" 322 (r 111), de P "turned" 328 (r 116), de P "u16" 338 (r 123), de P "s16" 347 (r 130), de P "u32" 355 (r 137), de P "put16" 362 (r 144), de P "put32" 369 (r 151), de P "part_of" 378 (r 158), de P "filled" 385 (r 165), de P "ON_CURVE" 389 (iv 1 388), de P "X_SHORT" 391 (iv 2 390), de P "Y_SHORT" 393 (iv 4 392), de P "REPEAT" 395 (iv 8 394), de P "X_SAME" 397 (iv 16 396), de P "Y_SAME" 399 (iv 32 398), de P "WORDS" 401 (iv 1 400), de P "MOVES" 403 (iv 2 402), de P "SCALE" 405 (iv 8 404), de P "MORE" 407 (iv 32 406), de P "TWO_SCALES" 409 (iv 64 408), de P "FOUR_SCALES" 411 (iv 128 410), de P "INSTRUCTIONS" 413 (iv 256 412), de P "MOST_DEPTH" 415 (iv 8 414), de P "UNIT" 417 (iv 16384 416), de P "read_loca" 430 (r 172), de P "Octets" 489 (r 217), de P "read_flags" 500 (r 228), de P "read_deltas" 514 (r 235), de P "read_ends" 525 (r 242), de P "read_simple" 531 (r 247), de P "Part" 577 (r 273), de P "read_scale" 588 (r 284), de P "signed_byte" 595 (r 291), de P "read_arguments" 606 (r 298), de P "read_parts" 619 (r 305)] 49), #[]⟩), (12, ⟨.none, none, (.fields #[iv 2 0, iv 0 0, r 20, iv 6 0, iv 0 0, r 40, iv 9 0, iv 0 0, r 52, iv 39 0, iv 0 0, r 98, iv 46 0, iv 0 0, r 103, iv 48 0, iv 0 0, r 110, iv 50 0, iv 0 0, r 115, iv 57 0, iv 0 0, r 122, iv 61 0, iv 0 0, r 129, iv 64 0, iv 0 0, r 136, iv 66 0, iv 0 0, r 143, iv 68 0, iv 0 0, r 150, iv 70 0, iv 0 0, r 157, iv 74 0, iv 0 0, r 164, iv 92 0, iv 0 0, r 171, iv 103 0, iv 0 0, r 178, iv 124 0, iv 0 0, r 227, iv 135 0, iv 0 0, r 234, iv 146 0, iv 0 0, r 241, iv 154 0, iv 0 0, r 246, iv 163 0, iv 0 0, r 253, iv 174 0, iv 0 0, r 283, iv 185 0, iv 0 0, r 290, iv 187 0, iv 0 0, r 297, iv 199 0, iv 0 0, r 304]), #[]⟩), (278, o278 P), (279, ⟨.none, none, (.fields #[]), #[]⟩), (280, o280 P), (281, o281 P), (282, ⟨.none, none, (fD (c 40) "read_scale" 0 [] .none .none .none .none none .none .none 0), #[]⟩), (283, o283 P), (284, o284 P), (285, o285 P), (286, ⟨.none, none, (.fields #[]), #[]⟩), (287, o287 P), (288, o288 P), (289, ⟨.none, none, (fD (c 41) "signed_byte" 0 [] .none .none .none .none none .none .none 0), #[]⟩), (290, o290 P), (291, o291 P), (292, o292 P), (293, ⟨.none, none, (.fields #[]), #[]⟩), (294, o294 P), (295, o295 P), (296, ⟨.none, none, (fD (c 42) "read_arguments" 0 [] .none .none .none .none none .none .none 0), #[]⟩), (297, o297 P), (298, o298 P), (299, o299 P), (300, ⟨.none, none, (.fields #[]), #[]⟩), (301, o301 P), (302, o302 P), (303, ⟨.none, none, (fD (c 43) "read_parts" 0 [] .none .none .none .none none .none .none 0), #[]⟩), (304, o304 P), (305, o305 P)]
noncomputable def u9 (P : Params) : List (Nat × Obj) := [(3, ⟨(ty "dict"), none, (.dict #[de P "__name__" 165 (sv "outlinemill.glyf" 386), de P "__doc__" 166 .none, de P "__package__" 167 .none, de P "__loader__" 168 (bl "__main__.__loader__#opaque"), de P "__spec__" 169 .none, de P "__annotations__" 170 (r 6), de P "__builtins__" 171 (r 4), de P "__file__" 173 (sf 172), de P "__cached__" 174 .none, de P "MillError" 217 (r 31), de P "FontFault" 233 (r 44), de P "Outline" 298 (r 88), de P "contours_of" 309 (r 99), de P "moved" 315 (r 104), de P "scaled_number" 322 (r 111), de P "turned" 328 (r 116), de P "u16" 338 (r 123), de P "s16" 347 (r 130), de P "u32" 355 (r 137), de P "put16" 362 (r 144), de P "put32" 369 (r 151), de P "part_of" 378 (r 158), de P "filled" 385 (r 165), de P "ON_CURVE" 389 (iv 1 388), de P "X_SHORT" 391 (iv 2 390), de P "Y_SHORT" 393 (iv 4 392), de P "REPEAT" 395 (iv 8 394), de P "X_SAME" 397 (iv 16 396), de P "Y_SAME" 399 (iv 32 398), de P "WORDS" 401 (iv 1 400), de P "MOVES" 403 (iv 2 402), de P "SCALE" 405 (iv 8 404), de P "MORE" 407 (iv 32 406), de P "TWO_SCALES" 409 (iv 64 408), de P "FOUR_SCALES" 411 (iv 128 410), de P "INSTRUCTIONS" 413 (iv 256 412), de P "MOST_DEPTH" 415 (iv 8 414), de P "UNIT" 417 (iv 16384 416), de P "read_loca" 430 (r 172), de P "Octets" 489 (r 217), de P "read_flags" 500 (r 228), de P "read_deltas" 514 (r 235), de P "read_ends" 525 (r 242), de P "read_simple" 531 (r 247), de P "Part" 577 (r 273), de P "read_scale" 588 (r 284), de P "signed_byte" 595 (r 291), de P "read_arguments" 606 (r 298), de P "read_parts" 619 (r 305), de P "GlyphTable" 690 (r 352), de P "placed" 704 (r 363)] 51), #[]⟩), (12, ⟨.none, none, (.fields #[iv 2 0, iv 0 0, r 20, iv 6 0, iv 0 0, r 40, iv 9 0, iv 0 0, r 52, iv 39 0, iv 0 0, r 98, iv 46 0, iv 0 0, r 103, iv 48 0, iv 0 0, r 110, iv 50 0, iv 0 0, r 115, iv 57 0, iv 0 0, r 122, iv 61 0, iv 0 0, r 129, iv 64 0, iv 0 0, r 136, iv 66 0, iv 0 0, r 143, iv 68 0, iv 0 0, r 150, iv 70 0, iv 0 0, r 157, iv 74 0, iv 0 0, r 164, iv 92 0, iv 0 0, r 171, iv 103 0, iv 0 0, r 178, iv 124 0, iv 0 0, r 227, iv 135 0, iv 0 0, r 234, iv 146 0, iv 0 0, r 241, iv 154 0, iv 0 0, r 246, iv 163 0, iv 0 0, r 253, iv 174 0, iv 0 0, r 283, iv 185 0, iv 0 0, r 290, iv 187 0, iv 0 0, r 297, iv 199 0, iv 0 0, r 304, iv 211 0, iv 0 0, r 311, iv 250 0, iv 0 0, r 362]), #[]⟩), (306, tq #[]), (307, ⟨(ty "builtin_function_or_method"), none, (.fields #[bl "type.__prepare__", ty "type"]), #[]⟩), (308, ⟨(ty "dict"), none, (.dict #[de P "__module__" 627 (sv "outlinemill.glyf" 386), de P "__qualname__" 629 (sv "GlyphTable" 628), de P "__firstlineno__" 631 (iv 211 630), de P "__init__" 640 (r 319), de P "count" 647 (r 326), de P "glyph_octets" 655 (r 333), de P "parts" 664 (r 340), de P "outline" 680 (r 349), de P "__static_attributes__" 683 (r 350)] 9), #[]⟩), (309, tq #[]), (310, ⟨.none, none, (.fields #[iv 213 0, iv 4 0, r 318, iv 217 0, iv 4 0, r 325, iv 220 0, iv 4 0, r 332, iv 225 0, iv 4 0, r 339, iv 232 0, iv 4 0, r 348]), #[]⟩), (311, cq #[sv "GlyphTable" 622, sv "GlyphTable" 623, sf 624, iv 211 0, iv 0 0, iv 0 0, iv 0 0, iv 0 0, r 309, .bool false, iv 181 0, r 310, .none, .none, .none, .none, iv 625 0, iv 211 0, sf 626]), (312, ⟨(ty "frame"), none, .plain, #[some (r 311), some (r 3), some (r 308), none, some (sv "outlinemill.glyf" 386), none, some (r 0)]⟩), (313, o313 P), (314, ⟨.none, none, (.fields #[]), #[]⟩), (315, o315 P), (316, o316 P), (317, ⟨.none, none, (fD (cc 44 0) "GlyphTable.__init__" 0 [] .none .none .none .none none .none .none 0), #[]⟩), (318, o318 P), (319, o319 P), (320, o320 P), (321, ⟨.none, none, (.fields #[]), #[]⟩), (322, o322 P), (323, o323 P), (324, ⟨.none, none, (fD (cc 44 1) "GlyphTable.count" 0 [] .none .none .none .none none .none .none 0), #[]⟩), (325, o325 P), (326, o326 P), (327, o327 P), (328, ⟨.none, none, (.fields #[]), #[]⟩), (329, o329 P), (330, o330 P), (331, ⟨.none, none, (fD (cc 44 2) "GlyphTable.glyph_octets" 0 [] .none .none .none .none none .none .none 0), #[]⟩), (332, o332 P), (333, o333 P), (334, o334 P), (335, ⟨.none, none, (.fields #[]), #[]⟩), (336, o336 P), (337, o337 P), (338, ⟨.none, none, (fD (cc 44 3) "GlyphTable.parts" 0 [] .none .none .none .none none .none .none 0), #[]⟩), (339, o339 P), (340, o340 P), (341, o341 P), (342, o342 P), (343, o343 P), (344, ⟨.none, none, (.fields #[]), #[]⟩), (345, o345 P), (346, o346 P), (347, ⟨.none, none, (fD (cc 44 4) "GlyphTable.outline" 0 [] .none .none .none .none none .none .none 0), #[]⟩), (348, o348 P), (349, o349 P), (350, o350 P), (351, o351 P), (352, o352 P), (353, o353 P), (354, o354 P), (355, ⟨(ty "super"), none, (.fields #[r 352, r 352, r 352]), #[]⟩), (356, ⟨(ty "builtin_function_or_method"), none, (.fields #[bl "object.__init_subclass__", r 352]), #[]⟩), (357, o357 P), (358, ⟨.none, none, (.fields #[]), #[]⟩), (359, o359 P), (360, o360 P), (361, ⟨.none, none, (fD (c 45) "placed" 0 [] .none .none .none .none none .none .none 0), #[]⟩), (362, o362 P), (363, o363 P)]
noncomputable def u10 (P : Params) : List (Nat × Obj) := [(3, ⟨(ty "dict"), none, (.dict #[de P "__name__" 165 (sv "law_nu0035_01" 790), de P "__doc__" 166 .none, de P "__package__" 167 .none, de P "__loader__" 168 (bl "__main__.__loader__#opaque"), de P "__spec__" 169 .none, de P "__annotations__" 170 (r 6), de P "__builtins__" 171 (r 4), de P "__file__" 173 (sf 172), de P "__cached__" 174 .none, de P "MillError" 217 (r 31), de P "FontFault" 233 (r 44), de P "Outline" 298 (r 88), de P "contours_of" 309 (r 99), de P "moved" 315 (r 104), de P "scaled_number" 322 (r 111), de P "turned" 328 (r 116), de P "u16" 338 (r 123), de P "s16" 347 (r 130), de P "u32" 355 (r 137), de P "put16" 362 (r 144), de P "put32" 369 (r 151), de P "part_of" 378 (r 158), de P "filled" 385 (r 165), de P "ON_CURVE" 389 (iv 1 388), de P "X_SHORT" 391 (iv 2 390), de P "Y_SHORT" 393 (iv 4 392), de P "REPEAT" 395 (iv 8 394), de P "X_SAME" 397 (iv 16 396), de P "Y_SAME" 399 (iv 32 398), de P "WORDS" 401 (iv 1 400), de P "MOVES" 403 (iv 2 402), de P "SCALE" 405 (iv 8 404), de P "MORE" 407 (iv 32 406), de P "TWO_SCALES" 409 (iv 64 408), de P "FOUR_SCALES" 411 (iv 128 410), de P "INSTRUCTIONS" 413 (iv 256 412), de P "MOST_DEPTH" 415 (iv 8 414), de P "UNIT" 417 (iv 16384 416), de P "read_loca" 430 (r 172), de P "Octets" 489 (r 217), de P "read_flags" 500 (r 228), de P "read_deltas" 514 (r 235), de P "read_ends" 525 (r 242), de P "read_simple" 531 (r 247), de P "Part" 577 (r 273), de P "read_scale" 588 (r 284), de P "signed_byte" 595 (r 291), de P "read_arguments" 606 (r 298), de P "read_parts" 619 (r 305), de P "GlyphTable" 690 (r 352), de P "placed" 704 (r 363), de P "MOST_REPEATS" 708 (iv 255 707), de P "axis_flag" 717 (r 370), de P "flag_octets" 727 (r 377), de P "box_octets" 733 (r 382), de P "simple_octets" 739 (r 387), de P "scale_octets" 750 (r 394), de P "argument_octets" 759 (r 401), de P "composite_octets" 776 (r 409), de P "write_glyphs" 789 (r 416), de P "_law_pool" 801 (r 423), de P "_law_take" 810 (r 430), de P "_law_one" 818 (r 437)] 63), #[]⟩), (12, ⟨.none, none, (.fields #[iv 2 0, iv 0 0, r 20, iv 6 0, iv 0 0, r 40, iv 9 0, iv 0 0, r 52, iv 39 0, iv 0 0, r 98, iv 46 0, iv 0 0, r 103, iv 48 0, iv 0 0, r 110, iv 50 0, iv 0 0, r 115, iv 57 0, iv 0 0, r 122, iv 61 0, iv 0 0, r 129, iv 64 0, iv 0 0, r 136, iv 66 0, iv 0 0, r 143, iv 68 0, iv 0 0, r 150, iv 70 0, iv 0 0, r 157, iv 74 0, iv 0 0, r 164, iv 92 0, iv 0 0, r 171, iv 103 0, iv 0 0, r 178, iv 124 0, iv 0 0, r 227, iv 135 0, iv 0 0, r 234, iv 146 0, iv 0 0, r 241, iv 154 0, iv 0 0, r 246, iv 163 0, iv 0 0, r 253, iv 174 0, iv 0 0, r 283, iv 185 0, iv 0 0, r 290, iv 187 0, iv 0 0, r 297, iv 199 0, iv 0 0, r 304, iv 211 0, iv 0 0, r 311, iv 250 0, iv 0 0, r 362, iv 261 0, iv 0 0, r 369, iv 271 0, iv 0 0, r 376, iv 284 0, iv 0 0, r 381, iv 286 0, iv 0 0, r 386, iv 300 0, iv 0 0, r 393, iv 309 0, iv 0 0, r 400, iv 318 0, iv 0 0, r 408, iv 334 0, iv 0 0, r 415, iv 347 0, iv 0 0, r 422, iv 351 0, iv 0 0, r 429, iv 358 0, iv 0 0, r 436]), #[]⟩), (364, o364 P), (365, ⟨.none, none, (.fields #[]), #[]⟩), (366, o366 P), (367, o367 P), (368, ⟨.none, none, (fD (c 48) "axis_flag" 0 [] .none .none .none .none none .none .none 0), #[]⟩), (369, o369 P), (370, o370 P), (371, o371 P), (372, ⟨.none, none, (.fields #[]), #[]⟩), (373, o373 P), (374, o374 P), (375, ⟨.none, none, (fD (c 49) "flag_octets" 0 [] .none .none .none .none none .none .none 0), #[]⟩), (376, o376 P), (377, o377 P), (378, o378 P), (379, ⟨.none, none, (.fields #[]), #[]⟩), (380, ⟨.none, none, (fD (c 50) "box_octets" 0 [] .none .none .none .none none .none .none 0), #[]⟩), (381, o381 P), (382, o382 P), (383, o383 P), (384, ⟨.none, none, (.fields #[]), #[]⟩), (385, ⟨.none, none, (fD (c 51) "simple_octets" 0 [] .none .none .none .none none .none .none 0), #[]⟩), (386, o386 P), (387, o387 P), (388, o388 P), (389, ⟨.none, none, (.fields #[]), #[]⟩), (390, o390 P), (391, o391 P), (392, ⟨.none, none, (fD (c 52) "scale_octets" 0 [] .none .none .none .none none .none .none 0), #[]⟩), (393, o393 P), (394, o394 P), (395, o395 P), (396, ⟨.none, none, (.fields #[]), #[]⟩), (397, o397 P), (398, o398 P), (399, ⟨.none, none, (fD (c 53) "argument_octets" 0 [] .none .none .none .none none .none .none 0), #[]⟩), (400, o400 P), (401, o401 P), (402, o402 P), (403, o403 P), (404, ⟨.none, none, (.fields #[]), #[]⟩), (405, o405 P), (406, o406 P), (407, ⟨.none, none, (fD (c 54) "composite_octets" 0 [] .none .none .none .none none .none .none 0), #[]⟩), (408, o408 P), (409, o409 P), (410, o410 P), (411, ⟨.none, none, (.fields #[]), #[]⟩), (412, o412 P), (413, o413 P), (414, ⟨.none, none, (fD (c 55) "write_glyphs" 0 [] .none .none .none .none none .none .none 0), #[]⟩), (415, o415 P), (416, o416 P), (417, o417 P), (418, ⟨.none, none, (.fields #[]), #[]⟩), (419, o419 P), (420, o420 P), (421, ⟨.none, none, (fD (c 57) "_law_pool" 0 [] .none .none .none .none none .none .none 0), #[]⟩), (422, o422 P), (423, o423 P), (424, o424 P), (425, ⟨.none, none, (.fields #[]), #[]⟩), (426, o426 P), (427, o427 P), (428, ⟨.none, none, (fD (c 58) "_law_take" 0 [] .none .none .none .none none .none .none 0), #[]⟩), (429, o429 P), (430, o430 P), (431, o431 P), (432, ⟨.none, none, (.fields #[]), #[]⟩), (433, o433 P), (434, o434 P), (435, ⟨.none, none, (fD (c 59) "_law_one" 0 [] .none .none .none .none none .none .none 0), #[]⟩), (436, o436 P), (437, o437 P)]
noncomputable def u11 (P : Params) : List (Nat × Obj) := [(3, o3 P), (12, ⟨.none, none, (.fields #[iv 2 0, iv 0 0, r 20, iv 6 0, iv 0 0, r 40, iv 9 0, iv 0 0, r 52, iv 39 0, iv 0 0, r 98, iv 46 0, iv 0 0, r 103, iv 48 0, iv 0 0, r 110, iv 50 0, iv 0 0, r 115, iv 57 0, iv 0 0, r 122, iv 61 0, iv 0 0, r 129, iv 64 0, iv 0 0, r 136, iv 66 0, iv 0 0, r 143, iv 68 0, iv 0 0, r 150, iv 70 0, iv 0 0, r 157, iv 74 0, iv 0 0, r 164, iv 92 0, iv 0 0, r 171, iv 103 0, iv 0 0, r 178, iv 124 0, iv 0 0, r 227, iv 135 0, iv 0 0, r 234, iv 146 0, iv 0 0, r 241, iv 154 0, iv 0 0, r 246, iv 163 0, iv 0 0, r 253, iv 174 0, iv 0 0, r 283, iv 185 0, iv 0 0, r 290, iv 187 0, iv 0 0, r 297, iv 199 0, iv 0 0, r 304, iv 211 0, iv 0 0, r 311, iv 250 0, iv 0 0, r 362, iv 261 0, iv 0 0, r 369, iv 271 0, iv 0 0, r 376, iv 284 0, iv 0 0, r 381, iv 286 0, iv 0 0, r 386, iv 300 0, iv 0 0, r 393, iv 309 0, iv 0 0, r 400, iv 318 0, iv 0 0, r 408, iv 334 0, iv 0 0, r 415, iv 347 0, iv 0 0, r 422, iv 351 0, iv 0 0, r 429, iv 358 0, iv 0 0, r 436, iv 360 0, iv 0 0, r 443, iv 365 0, iv 0 0, r 450, iv 370 0, iv 0 0, r 457, iv 373 0, iv 0 0, r 462, iv 385 0, iv 0 0, r 469, iv 392 0, iv 0 0, r 474, iv 395 0, iv 0 0, r 479, iv 400 0, iv 0 0, r 484]), #[]⟩), (438, o438 P), (439, ⟨.none, none, (.fields #[]), #[]⟩), (440, o440 P), (441, o441 P), (442, ⟨.none, none, (fD (c 60) "_law_contours" 0 [] .none .none .none .none none .none .none 0), #[]⟩), (443, o443 P), (444, o444 P), (445, o445 P), (446, ⟨.none, none, (.fields #[]), #[]⟩), (447, o447 P), (448, o448 P), (449, ⟨.none, none, (fD (c 61) "_law_part" 0 [] .none .none .none .none none .none .none 0), #[]⟩), (450, o450 P), (451, o451 P), (452, o452 P), (453, ⟨.none, none, (.fields #[]), #[]⟩), (454, o454 P), (455, o455 P), (456, ⟨.none, none, (fD (c 62) "_law_scaled" 0 [] .none .none .none .none none .none .none 0), #[]⟩), (457, o457 P), (458, o458 P), (459, o459 P), (460, ⟨.none, none, (.fields #[]), #[]⟩), (461, ⟨.none, none, (fD (c 63) "_law_put" 0 [] .none .none .none .none none .none .none 0), #[]⟩), (462, o462 P), (463, o463 P), (464, o464 P), (465, ⟨.none, none, (.fields #[]), #[]⟩), (466, o466 P), (467, o467 P), (468, ⟨.none, none, (fD (c 64) "_law_whole" 0 [] .none .none .none .none none .none .none 0), #[]⟩), (469, o469 P), (470, o470 P), (471, o471 P), (472, ⟨.none, none, (.fields #[]), #[]⟩), (473, ⟨.none, none, (fD (c 65) "_law_octets" 0 [] .none .none .none .none none .none .none 0), #[]⟩), (474, o474 P), (475, o475 P), (476, o476 P), (477, ⟨.none, none, (.fields #[]), #[]⟩), (478, ⟨.none, none, (fD (c 66) "_law_told" 0 [] .none .none .none .none none .none .none 0), #[]⟩), (479, o479 P), (480, o480 P), (481, o481 P), (482, ⟨.none, none, (.fields #[]), #[]⟩), (483, ⟨.none, none, (fD (c 67) "law" 0 [] .none .none .none .none none .none .none 0), #[]⟩), (484, o484 P), (485, o485 P)]
noncomputable def K (P : Params) : Frag := [(2, o2 P), (3, o3 P), (15, o15 P), (22, o22 P), (24, o24 P), (25, o25 P), (27, o27 P), (28, o28 P), (29, o29 P), (30, o30 P), (31, o31 P), (32, o32 P), (35, o35 P), (42, o42 P), (43, o43 P), (44, o44 P), (54, o54 P), (55, o55 P), (57, o57 P), (58, o58 P), (60, o60 P), (61, o61 P), (62, o62 P), (64, o64 P), (65, o65 P), (67, o67 P), (68, o68 P), (69, o69 P), (71, o71 P), (72, o72 P), (74, o74 P), (75, o75 P), (76, o76 P), (79, o79 P), (80, o80 P), (81, o81 P), (84, o84 P), (85, o85 P), (86, o86 P), (87, o87 P), (88, o88 P), (89, o89 P), (90, o90 P), (93, o93 P), (95, o95 P), (96, o96 P), (98, o98 P), (99, o99 P), (100, o100 P), (103, o103 P), (104, o104 P), (105, o105 P), (107, o107 P), (108, o108 P), (110, o110 P), (111, o111 P), (112, o112 P), (115, o115 P), (116, o116 P), (117, o117 P), (119, o119 P), (120, o120 P), (122, o122 P), (123, o123 P), (124, o124 P), (126, o126 P), (127, o127 P), (129, o129 P), (130, o130 P), (131, o131 P), (133, o133 P), (134, o134 P), (136, o136 P), (137, o137 P), (138, o138 P), (140, o140 P), (141, o141 P), (143, o143 P), (144, o144 P), (145, o145 P), (147, o147 P), (148, o148 P), (150, o150 P), (151, o151 P), (152, o152 P), (154, o154 P), (155, o155 P), (157, o157 P), (158, o158 P), (159, o159 P), (161, o161 P), (162, o162 P), (164, o164 P), (165, o165 P), (166, o166 P), (168, o168 P), (169, o169 P), (171, o171 P), (172, o172 P), (180, o180 P), (182, o182 P), (183, o183 P), (185, o185 P), (186, o186 P), (187, o187 P), (189, o189 P), (190, o190 P), (192, o192 P), (193, o193 P), (194, o194 P), (196, o196 P), (197, o197 P), (199, o199 P), (200, o200 P), (201, o201 P), (203, o203 P), (204, o204 P), (206, o206 P), (207, o207 P), (208, o208 P), (210, o210 P), (211, o211 P), (213, o213 P), (214, o214 P), (215, o215 P), (216, o216 P), (217, o217 P), (218, o218 P), (219, o219 P), (222, o222 P), (224, o224 P), (225, o225 P), (227, o227 P), (228, o228 P), (229, o229 P), (231, o231 P), (232, o232 P), (234, o234 P), (235, o235 P), (236, o236 P), (238, o238 P), (239, o239 P), (241, o241 P), (242, o242 P), (243, o243 P), (246, o246 P), (247, o247 P), (255, o255 P), (256, o256 P), (257, o257 P), (259, o259 P), (260, o260 P), (262, o262 P), (263, o263 P), (264, o264 P), (266, o266 P), (267, o267 P), (269, o269 P), (270, o270 P), (271, o271 P), (272, o272 P), (273, o273 P), (274, o274 P), (275, o275 P), (278, o278 P), (280, o280 P), (281, o281 P), (283, o283 P), (284, o284 P), (285, o285 P), (287, o287 P), (288, o288 P), (290, o290 P), (291, o291 P), (292, o292 P), (294, o294 P), (295, o295 P), (297, o297 P), (298, o298 P), (299, o299 P), (301, o301 P), (302, o302 P), (304, o304 P), (305, o305 P), (313, o313 P), (315, o315 P), (316, o316 P), (318, o318 P), (319, o319 P), (320, o320 P), (322, o322 P), (323, o323 P), (325, o325 P), (326, o326 P), (327, o327 P), (329, o329 P), (330, o330 P), (332, o332 P), (333, o333 P), (334, o334 P), (336, o336 P), (337, o337 P), (339, o339 P), (340, o340 P), (341, o341 P), (342, o342 P), (343, o343 P), (345, o345 P), (346, o346 P), (348, o348 P), (349, o349 P), (350, o350 P), (351, o351 P), (352, o352 P), (353, o353 P), (354, o354 P), (357, o357 P), (359, o359 P), (360, o360 P), (362, o362 P), (363, o363 P), (364, o364 P), (366, o366 P), (367, o367 P), (369, o369 P), (370, o370 P), (371, o371 P), (373, o373 P), (374, o374 P), (376, o376 P), (377, o377 P), (378, o378 P), (381, o381 P), (382, o382 P), (383, o383 P), (386, o386 P), (387, o387 P), (388, o388 P), (390, o390 P), (391, o391 P), (393, o393 P), (394, o394 P), (395, o395 P), (397, o397 P), (398, o398 P), (400, o400 P), (401, o401 P), (402, o402 P), (403, o403 P), (405, o405 P), (406, o406 P), (408, o408 P), (409, o409 P), (410, o410 P), (412, o412 P), (413, o413 P), (415, o415 P), (416, o416 P), (417, o417 P), (419, o419 P), (420, o420 P), (422, o422 P), (423, o423 P), (424, o424 P), (426, o426 P), (427, o427 P), (429, o429 P), (430, o430 P), (431, o431 P), (433, o433 P), (434, o434 P), (436, o436 P), (437, o437 P), (438, o438 P), (440, o440 P), (441, o441 P), (443, o443 P), (444, o444 P), (445, o445 P), (447, o447 P), (448, o448 P), (450, o450 P), (451, o451 P), (452, o452 P), (454, o454 P), (455, o455 P), (457, o457 P), (458, o458 P), (459, o459 P), (462, o462 P), (463, o463 P), (464, o464 P), (466, o466 P), (467, o467 P), (469, o469 P), (470, o470 P), (471, o471 P), (474, o474 P), (475, o475 P), (476, o476 P), (479, o479 P), (480, o480 P), (481, o481 P), (484, o484 P), (485, o485 P)]
noncomputable def at_ : List Addr := [2, 3, 15, 22, 24, 25, 27, 28, 29, 30, 31, 32, 35, 42, 43, 44, 54, 55, 57, 58, 60, 61, 62, 64, 65, 67, 68, 69, 71, 72, 74, 75, 76, 79, 80, 81, 84, 85, 86, 87, 88, 89, 90, 93, 95, 96, 98, 99, 100, 103, 104, 105, 107, 108, 110, 111, 112, 115, 116, 117, 119, 120, 122, 123, 124, 126, 127, 129, 130, 131, 133, 134, 136, 137, 138, 140, 141, 143, 144, 145, 147, 148, 150, 151, 152, 154, 155, 157, 158, 159, 161, 162, 164, 165, 166, 168, 169, 171, 172, 180, 182, 183, 185, 186, 187, 189, 190, 192, 193, 194, 196, 197, 199, 200, 201, 203, 204, 206, 207, 208, 210, 211, 213, 214, 215, 216, 217, 218, 219, 222, 224, 225, 227, 228, 229, 231, 232, 234, 235, 236, 238, 239, 241, 242, 243, 246, 247, 255, 256, 257, 259, 260, 262, 263, 264, 266, 267, 269, 270, 271, 272, 273, 274, 275, 278, 280, 281, 283, 284, 285, 287, 288, 290, 291, 292, 294, 295, 297, 298, 299, 301, 302, 304, 305, 313, 315, 316, 318, 319, 320, 322, 323, 325, 326, 327, 329, 330, 332, 333, 334, 336, 337, 339, 340, 341, 342, 343, 345, 346, 348, 349, 350, 351, 352, 353, 354, 357, 359, 360, 362, 363, 364, 366, 367, 369, 370, 371, 373, 374, 376, 377, 378, 381, 382, 383, 386, 387, 388, 390, 391, 393, 394, 395, 397, 398, 400, 401, 402, 403, 405, 406, 408, 409, 410, 412, 413, 415, 416, 417, 419, 420, 422, 423, 424, 426, 427, 429, 430, 431, 433, 434, 436, 437, 438, 440, 441, 443, 444, 445, 447, 448, 450, 451, 452, 454, 455, 457, 458, 459, 462, 463, 464, 466, 467, 469, 470, 471, 474, 475, 476, 479, 480, 481, 484, 485]
noncomputable def tput : Nat -> BT -> Nat -> Obj -> BT
 | 0, t, _, _ => t
 | _ + 1, .nil, _, o => .node o .nil .nil
 | f + 1, .node v l r, i, o => match Nat.beq i 0 with
  | true => .node o l r
  | false => match Nat.beq (i % 2) 1 with
   | true => .node v (tput f l (i / 2) o) r
   | false => .node v l (tput f r (i / 2 - 1) o)
noncomputable def upd (t : BT) (l : List (Nat × Obj)) : BT := l.foldl (fun t p => tput 20 t p.1 p.2) t
noncomputable def T0 (P : Params) : BT := upd .nil (u0 P)
noncomputable def T1 (P : Params) : BT := upd (T0 P) (u1 P)
noncomputable def T2 (P : Params) : BT := upd (T1 P) (u2 P)
noncomputable def T3 (P : Params) : BT := upd (T2 P) (u3 P)
noncomputable def T4 (P : Params) : BT := upd (T3 P) (u4 P)
noncomputable def T5 (P : Params) : BT := upd (T4 P) (u5 P)
noncomputable def T6 (P : Params) : BT := upd (T5 P) (u6 P)
noncomputable def T7 (P : Params) : BT := upd (T6 P) (u7 P)
noncomputable def T8 (P : Params) : BT := upd (T7 P) (u8 P)
noncomputable def T9 (P : Params) : BT := upd (T8 P) (u9 P)
noncomputable def T10 (P : Params) : BT := upd (T9 P) (u10 P)
noncomputable def T11 (P : Params) : BT := upd (T10 P) (u11 P)
noncomputable def S (t : BT) (n k : Nat) (os : OsState) : SharedT := ⟨t, n, {}, #[], {}, k, os⟩
noncomputable def e0 : Env := { scope := p.main.scope, locals := mainNs, globals := mainNs, cells := [], code := .ref 13, frame := some 14 }
noncomputable def bd : List Stmt := behindTheImports p
noncomputable def gs (a n : Nat) : List Stmt := (bd.drop a).take n
noncomputable def cE : Code := .body bd e0
noncomputable def z : Pos := ⟨0, 0, 0, 0⟩
noncomputable abbrev B : List Frame := [topFrame z]
noncomputable abbrev an : Option Value := some (.ref 6)
theorem pre : ∀ w : World, (fun os => topGo treeTable p w 11 an 12 ⟨boot_heap w.params, #[], boot_drawn, boot_toks, os⟩ (topStub p)) = fun os => some (⟨absHeap (T0 w.params) 15 {}, #[], {}, 187, os⟩, ⟨denote treeTable cE, cE, z, B⟩) := fun w => by kernel_rfl
theorem blk : ∀ w : World, (fun os => segRun treeTable p w 11 an 1 1 ⟨absHeap (T0 w.params) 15 {}, #[], {}, 187, os⟩ (blockOf bd e0 cE z B)) = fun os => some (.next, (S (T0 w.params) 15 187 os).abs, cE, z) := fun w => by kernel_rfl
theorem pc0 : ∀ w : World, (fun os => segRunT treeTable p w 11 an 1 238 (S (T0 w.params) 15 187 os) (piecesOf (gs 0 2) e0 cE ⟨0, 0, 0, 0⟩ B)) = fun os => some (.next, S (T1 w.params) 35 218 os, cE, ⟨2, 0, 5, 30⟩) := fun w => by kernel_rfl
theorem pc1 : ∀ w : World, (fun os => segRunT treeTable p w 11 an 1 223 (S (T1 w.params) 35 218 os) (piecesOf (gs 2 2) e0 cE ⟨2, 0, 5, 30⟩ B)) = fun os => some (.next, S (T2 w.params) 47 236 os, cE, ⟨8, 0, 8, 8⟩) := fun w => by kernel_rfl
theorem pc2 : ∀ w : World, (fun os => segRunT treeTable p w 11 an 1 383 (S (T2 w.params) 47 236 os) (piecesOf (gs 4 2) e0 cE ⟨8, 0, 8, 8⟩ B)) = fun os => some (.next, S (T3 w.params) 100 310 os, cE, ⟨39, 0, 45, 16⟩) := fun w => by kernel_rfl
theorem pc3 : ∀ w : World, (fun os => segRunT treeTable p w 11 an 1 399 (S (T3 w.params) 100 310 os) (piecesOf (gs 6 22) e0 cE ⟨39, 0, 45, 16⟩ B)) = fun os => some (.next, S (T4 w.params) 166 408 os, cE, ⟨86, 0, 86, 4⟩) := fun w => by kernel_rfl
theorem pc4 : ∀ w : World, (fun os => segRunT treeTable p w 11 an 1 81 (S (T4 w.params) 166 408 os) (piecesOf (gs 28 6) e0 cE ⟨86, 0, 86, 4⟩ B)) = fun os => some (.next, S (T5 w.params) 173 431 os, cE, ⟨92, 0, 102, 16⟩) := fun w => by kernel_rfl
theorem pc5 : ∀ w : World, (fun os => segRunT treeTable p w 11 an 1 382 (S (T5 w.params) 173 431 os) (piecesOf (gs 34 2) e0 cE ⟨92, 0, 102, 16⟩ B)) = fun os => some (.next, S (T6 w.params) 229 501 os, cE, ⟨124, 0, 134, 16⟩) := fun w => by kernel_rfl
theorem pc6 : ∀ w : World, (fun os => segRunT treeTable p w 11 an 1 370 (S (T6 w.params) 229 501 os) (piecesOf (gs 36 4) e0 cE ⟨124, 0, 134, 16⟩ B)) = fun os => some (.next, S (T7 w.params) 278 578 os, cE, ⟨163, 0, 173, 78⟩) := fun w => by kernel_rfl
theorem pc7 : ∀ w : World, (fun os => segRunT treeTable p w 11 an 1 131 (S (T7 w.params) 278 578 os) (piecesOf (gs 40 4) e0 cE ⟨163, 0, 173, 78⟩ B)) = fun os => some (.next, S (T8 w.params) 306 620 os, cE, ⟨199, 0, 210, 32⟩) := fun w => by kernel_rfl
theorem pc8 : ∀ w : World, (fun os => segRunT treeTable p w 11 an 1 400 (S (T8 w.params) 306 620 os) (piecesOf (gs 44 2) e0 cE ⟨199, 0, 210, 32⟩ B)) = fun os => some (.next, S (T9 w.params) 364 705 os, cE, ⟨250, 0, 258, 63⟩) := fun w => by kernel_rfl
theorem pc9 : ∀ w : World, (fun os => segRunT treeTable p w 11 an 1 375 (S (T9 w.params) 364 705 os) (piecesOf (gs 46 14) e0 cE ⟨250, 0, 258, 63⟩ B)) = fun os => some (.next, S (T10 w.params) 438 819 os, cE, ⟨358, 0, 359, 49⟩) := fun w => by kernel_rfl
theorem pc10 : ∀ w : World, (fun os => segRunT treeTable p w 11 an 1 232 (S (T10 w.params) 438 819 os) (piecesOf (gs 60 8) e0 cE ⟨358, 0, 359, 49⟩ B)) = fun os => some (.next, S (T11 w.params) 486 882 os, cE, ⟨400, 0, 421, 91⟩) := fun w => by kernel_rfl
theorem fin : ∀ w : World, (fun os => topRun treeTable p w 11 an 2 (S (T11 w.params) 486 882 os).abs ⟨doneF .next, cE, ⟨400, 0, 421, 91⟩, B⟩) = fun os => some ⟨absHeap (T11 w.params) 486 {}, #[], {}, 882, os⟩ := fun w => by kernel_rfl
theorem bd_is : bd = (gs 0 2 ++ (gs 2 2 ++ (gs 4 2 ++ (gs 6 22 ++ (gs 28 6 ++ (gs 34 2 ++ (gs 36 4 ++ (gs 40 4 ++ (gs 44 2 ++ (gs 46 14 ++ (gs 60 8 ++ []))))))))))) := by kernel_rfl
theorem rest_nil (w : World) (os : OsState) : topRun treeTable p w 11 an 2 (S (T11 w.params) 486 882 os).abs (restOf [] e0 cE ⟨400, 0, 421, 91⟩ B) = some ⟨absHeap (T11 w.params) 486 {}, #[], {}, 882, os⟩ := congrFun (fin w) os
theorem rests (w : World) (os : OsState) : topRun treeTable p w 11 an (238 + (223 + (383 + (399 + (81 + (382 + (370 + (131 + (400 + (375 + (232 + 2))))))))))) (S (T0 w.params) 15 187 os).abs (restOf (gs 0 2 ++ (gs 2 2 ++ (gs 4 2 ++ (gs 6 22 ++ (gs 28 6 ++ (gs 34 2 ++ (gs 36 4 ++ (gs 40 4 ++ (gs 44 2 ++ (gs 46 14 ++ (gs 60 8 ++ []))))))))))) e0 cE z B) = some ⟨absHeap (T11 w.params) 486 {}, #[], {}, 882, os⟩ := (piece_app (segRun_of (congrFun (pc0 w) os)) (piece_app (segRun_of (congrFun (pc1 w) os)) (piece_app (segRun_of (congrFun (pc2 w) os)) (piece_app (segRun_of (congrFun (pc3 w) os)) (piece_app (segRun_of (congrFun (pc4 w) os)) (piece_app (segRun_of (congrFun (pc5 w) os)) (piece_app (segRun_of (congrFun (pc6 w) os)) (piece_app (segRun_of (congrFun (pc7 w) os)) (piece_app (segRun_of (congrFun (pc8 w) os)) (piece_app (segRun_of (congrFun (pc9 w) os)) (piece_app (segRun_of (congrFun (pc10 w) os)) (rest_nil w os))))))))))))
theorem rests' (w : World) (os : OsState) : topRun treeTable p w 11 an (238 + (223 + (383 + (399 + (81 + (382 + (370 + (131 + (400 + (375 + (232 + 2))))))))))) (S (T0 w.params) 15 187 os).abs (restOf bd e0 cE z B) = some ⟨absHeap (T11 w.params) 486 {}, #[], {}, 882, os⟩ :=
 (congrArg (fun l => topRun treeTable p w 11 an (238 + (223 + (383 + (399 + (81 + (382 + (370 + (131 + (400 + (375 + (232 + 2))))))))))) (S (T0 w.params) 15 187 os).abs (restOf l e0 cE z B)) bd_is).trans (rests w os)
theorem run (w : World) (os : OsState) : topRun treeTable p w 11 an (12 + (1 + (238 + (223 + (383 + (399 + (81 + (382 + (370 + (131 + (400 + (375 + (232 + 2))))))))))))) ⟨boot_heap w.params, #[], boot_drawn, boot_toks, os⟩ (topStub p) = some ⟨absHeap (T11 w.params) 486 {}, #[], {}, 882, os⟩ :=
 go_top (congrFun (pre w) os) (piece_block (congrFun (blk w) os) (rests' w os))
noncomputable abbrev hs (w : World) (os : OsState) : Shared := ⟨absHeap (T11 w.params) 486 {}, #[], {}, 882, os⟩
noncomputable abbrev Xt : Shared -> Bool := fun s => xlAt vw [] s && recOk (RowW.records PySem.Challenge.rw_nu0035_01.row.toRowW) s
theorem op_is : opening p = plainProg p.main.scope.names := by kernel_rfl
theorem fence_is : ∀ s, fenceModules? p s = some s := fun s => by kernel_rfl
theorem size : ∀ w : World, ((boot_heap w.params).isNs mainGlobals && (#[] : Array GenState).size == 0, (boot_heap w.params).objs.size, (boot_heap w.params).nsMap mainGlobals "__annotations__") = (true, 11, an) := fun w => by kernel_rfl
theorem l1 : ∀ w : World, (fun os => staticsOk (importedModules p.main.body) (boot_heap w.params) (absHeap (T11 w.params) 486 {}) && namesBound p (absHeap (T11 w.params) 486 {}) && gensDone (hs w os) && laidKept (boot_heap w.params) (absHeap (T11 w.params) 486 {})) = fun _ => true := fun w => by kernel_rfl
theorem m1 : ∀ w : World, (fun os => seen ((recsOf vw).map (·.name)) (ownsOf vw) [] { hs w os with gens := #[] }) = fun _ => expectedOf vw := fun w => by kernel_rfl
theorem m2 : ∀ w : World, (fun os => (hs w os).heap.bltView) = fun _ => bltViewBooted := fun w => by kernel_rfl
theorem m3 : ∀ w : World, (fun os => (hs w os).heap.keysOk (looseW vw ls) ((recsOf vw).map (·.name)) ((litsOf vw).map (·.1)) ((clssOf vw (looseW vw ls)).map (·.name)) && (hs w os).heap.accountedOkI (importedModules p.main.body) && (hs w os).heap.isNs mainGlobals && (hs w os).heap.isNs builtinsNs && tablesOk vw (hs w os).heap && Xt (hs w os) && (if true then (hs w os).gens.size == 0 else !leftWithCleanup (hs w os).gens)) = fun _ => true := fun w => by kernel_rfl
theorem m4 : ∀ w : World, (fun os => tabsOk vw (hs w os)) = fun _ => true := fun w => by kernel_rfl
theorem m5 : ∀ w : World, (fun os => pinSeenD vw (drecsOf vw) (hs w os)) = fun _ => pinGoodD (drecsOf vw) := fun w => by kernel_rfl
theorem m6 : ∀ w : World, (fun os => plainSeenE vw (looseW vw ls) (hs w os)) = fun _ => plainGoodE vw (looseW vw ls) := fun w => by kernel_rfl
theorem m7 : ∀ w : World, (fun os => plainSeenD vw ls (hs w os)) = fun _ => plainGoodD vw ls := fun w => by kernel_rfl
theorem m8 : ∀ w : World, (fun os => wideSeen vw (hs w os)) = fun _ => wideGood vw := fun w => by kernel_rfl
theorem m9 : ∀ w : World, (fun os => clsSeenW vw ls (hs w os)) = fun _ => clsGoodW vw ls := fun w => by kernel_rfl
theorem looks (w : World) (os : OsState) : openSeen vw ls (importedModules p.main.body) Xt true (hs w os) = openGood vw ls :=
 looks_pair (congrFun (m1 w) os) (looks_pair (congrFun (m2 w) os) (looks_pair (congrFun (m3 w) os) (looks_pair (congrFun (m4 w) os) (looks_pair (congrFun (m5 w) os) (looks_pair (congrFun (m6 w) os) (looks_pair (congrFun (m7 w) os) (looks_pair (congrFun (m8 w) os) (congrFun (m9 w) os))))))))
theorem left {α : Type} {Yf : Shared -> α} {Ya : World -> α} (hY : ∀ w : World, (fun os => Yf (hs w os)) = fun _ => Ya w) : LeftO p vw ls Xt Yf Ya 6532 :=
 LeftO.of_pieces (H₀ := boot_heap) (H₁ := fun P => absHeap (T11 P) 486 {}) (gs₀ := #[]) (gs₁ := #[]) (d₀ := boot_drawn) (d₁ := {}) (k₀ := boot_toks) (k₁ := 882) (m₀ := 11) (ann := an) (M := 12 + (1 + (238 + (223 + (383 + (399 + (81 + (382 + (370 + (131 + (400 + (375 + (232 + 2)))))))))))))
  (boot_open op_is (by decide) fence_is) size run (by decide +kernel) fun w => funext fun os => looks_pair (congrFun (l1 w) os) (looks_pair (looks w os) (congrFun (hY w) os))
noncomputable abbrev H : Hook := kHook K at_ (fun _ => by kernel_rfl)
theorem obs_is : ∀ w : World, (fun os => Hook.obs H (hs w os)) = fun _ => Hook.val H w := fun w => by kernel_rfl
theorem said : PySem.Challenge.rw_nu0035_01.wellSaid = true := by decide +kernel
end Mine.Hd
end
set_option compiler.extract_closed false
local macro_rules | `(tactic| o_law) => `(tactic| refine holds_law Mine.Hd.said fun said => ?_)
local macro_rules | `(tactic| k_head) => `(tactic| refine holds_open (q := Mine.Hd.vw) (loose := Mine.Hd.ls) (Xt := Mine.Hd.Xt) (XP := XL Mine.Hd.vw []) (Yf := Hook.obs Mine.Hd.H) (Ya := Hook.val Mine.Hd.H) (YP := Hook.says Mine.Hd.H) (N := 6532) (Mine.Hd.left Mine.Hd.obs_is) (Hook.of Mine.Hd.H) (Hook.keeps Mine.Hd.H) (fun s e => xl_of s (Bool.and_eq_true_iff.mp e).1) XL.keeps (by rfl) (by rfl) (by rfl) (fun s e => recFacts_of (Bool.and_eq_true_iff.mp e).2) (by rfl) (by first | assumption | decide +kernel) (by decide +kernel) ⟨rfl, rfl, rfl, rfl, rfl, by decide +kernel⟩ ?hw ?hc)
namespace Mine
open_top hd for PySem.Challenge.rw_nu0035_01
end Mine
end
section
open PySem
namespace Mine
inductive D where
 | none
 | bool (b : Bool)
 | int (i : Int)
 | str (x : Str)
 | bytes (b : List UInt8)
 | tup (ds : List D)
 | lst (ds : List D)
 | inst (c : Str) (fs : List (Str × D))
 | cell (i : Nat)
 | rng (n : Nat)
 deriving Inhabited
inductive Cell where
 | lst (ds : List D)
 | inst (c : Str) (fs : List (Str × D))
 | dead
 deriving Inhabited
noncomputable abbrev Mem := List Cell
noncomputable abbrev Vars := List (Str × D)
inductive Res (α : Type) where
 | ok (a : α) (m : Mem)
 | exc (m : Mem)
 | stuck
noncomputable abbrev M (α : Type) := Mem -> Res α
noncomputable def ret {α : Type} (a : α) : M α := fun m => .ok a m
noncomputable def fail {α : Type} : M α := fun _ => .stuck
noncomputable def bind {α β : Type} (x : M α) (f : α -> M β) : M β := fun m => match x m with
 | .ok a m' => f a m'
 | .exc m' => .exc m'
 | .stuck => .stuck
noncomputable def lift {α : Type} : Option α -> M α
 | some a => ret a
 | none => fail
noncomputable def look {α : Type} (f : Mem -> Option α) : M α := fun m => match f m with
 | some a => .ok a m
 | none => .stuck
inductive Fl where
 | next (env : Vars)
 | ret (d : D)
noncomputable def setv (x : Str) (d : D) : Vars -> Vars
 | [] => [(x, d)]
 | (y, e) :: r => if y == x then (x, d) :: r else (y, e) :: setv x d r
noncomputable def items (m : Mem) : D -> Option (List D)
 | .lst ds => some ds
 | .cell i => match m[i]? with
  | some (.lst ds) => some ds
  | _ => none
 | _ => none
noncomputable def seq (m : Mem) : D -> Option (List D)
 | .tup ds => some ds
 | d => items m d
noncomputable def fields (m : Mem) : D -> Option (Str × List (Str × D))
 | .inst c fs => some (c, fs)
 | .cell i => match m[i]? with
  | some (.inst c fs) => some (c, fs)
  | _ => none
 | _ => none
noncomputable def rngItems (n : Nat) : List D := (List.range n).map fun (i : Nat) => D.int (i : Int)
noncomputable def subD (m : Mem) (o i : D) : Option D := match i with
 | .int k => (match o with
  | .bytes b => if 0 <= k /\ k < b.length then some (.int ((b.getD k.toNat 0).toNat : Int)) else none
  | _ => (seq m o).bind fun ds => (seqIndex? k ds.length).bind fun j => ds[j]?)
 | _ => none
noncomputable def cut {α : Type} (xs : List α) (a b : Int) : List α := (xs.drop a.toNat).take (b.toNat - a.toNat)
noncomputable def cutD (m : Mem) (o : D) (a b : Int) : Option D := match o with
 | .bytes x => if 0 <= a /\ a <= b /\ b <= x.length then some (.bytes (cut x a b)) else none
 | o => (items m o).bind fun ds => if 0 <= a /\ a <= b /\ b <= ds.length then some (.lst (cut ds a b)) else none
mutual
noncomputable def toPy : D -> PyData
 | .none => .none
 | .bool b => .bool b
 | .int i => .int i
 | .tup ds => .tuple (toPys ds)
 | .lst ds => .list (toPys ds)
 | _ => .none
noncomputable def toPys : List D -> List PyData
 | [] => []
 | d :: ds => toPy d :: toPys ds
end
noncomputable def okD : Nat -> D -> Bool
 | _, .none => true
 | _, .bool _ => true
 | _, .int _ => true
 | n + 1, .tup ds => ds.all (okD n)
 | n + 1, .lst ds => ds.all (okD n)
 | _, _ => false
noncomputable def frz (m : Mem) (d : D) : D := match d with
 | .cell i => match m[i]? with
  | some (.lst ds) => .lst ds
  | _ => d
 | d => d
noncomputable def eqF (a b : D) : Option Bool := if (okD 8 a && okD 8 b) = true then some (PyData.eqv (toPy a) (toPy b)) else none
noncomputable def eqG (ds : List D) (b : D) : Option Bool := match b with
 | .lst [] => some ds.isEmpty
 | b => eqF (.lst ds) b
noncomputable def eqD (a b : D) : Option Bool := match a with
 | .bytes x => (match b with
  | .bytes y => some (x == y)
  | _ => none)
 | .lst ds => eqG ds b
 | a => eqF a b
noncomputable def cmpD (m : Mem) (op : CmpOp) (a b : D) : Option Bool := match op with
 | .Eq => eqD (frz m a) (frz m b)
 | .NotEq => (eqD (frz m a) (frz m b)).map (!·)
 | .Lt => (match a, b with | .int a, .int b => some (decide (a < b)) | _, _ => none)
 | .LtE => (match a, b with | .int a, .int b => some (decide (a <= b)) | _, _ => none)
 | .Gt => (match a, b with | .int a, .int b => some (decide (b < a)) | _, _ => none)
 | .GtE => (match a, b with | .int a, .int b => some (decide (b <= a)) | _, _ => none)
 | .Is => (match b with | .none => some (match a with | .none => true | _ => false) | _ => none)
 | .IsNot => (match b with | .none => some (match a with | .none => false | _ => true) | _ => none)
 | .In => (match a, b with | .int a, .tup ds => if ds.all (okD 8) then some ((toPys ds).any fun y => PyData.eqv y (.int a)) else none | _, _ => none)
 | .NotIn => none
noncomputable def truth : D -> Option Bool
 | .bool b => some b
 | _ => none
noncomputable def toByte (d : D) : Option UInt8 := match d with
 | .int i => if 0 <= i /\ i < 256 then some (UInt8.ofNat i.toNat) else none
 | _ => none
noncomputable def toBytes : List D -> Option (List UInt8)
 | [] => some []
 | d :: r => match toByte d, toBytes r with
  | some b, some bs => some (b :: bs)
  | _, _ => none
noncomputable def toInts : List D -> Option (List Int)
 | [] => some []
 | .int i :: r => (toInts r).map (i :: ·)
 | _ => none
noncomputable def catBytes : List D -> Option (List UInt8)
 | [] => some []
 | .bytes b :: r => (catBytes r).map (b ++ ·)
 | _ => none
noncomputable def cap : Nat := 65536
noncomputable def mulOk (a b : Int) : Bool := decide (a.natAbs < 2 ^ 60) || decide (b.natAbs < 2 ^ 60)
noncomputable def intOp (op : Operator) (a b : Int) : Option Int := match op with
 | .Add => some (a + b)
 | .Sub => some (a - b)
 | .Mult => if mulOk a b then some (a * b) else none
 | .FloorDiv => if b ≠ 0 /\ b.natAbs < 1073741824 then some (a.fdiv b) else none
 | .Mod => if b = 0 then none else some (a.fmod b)
 | .BitAnd => some (Builtin.bitAnd a b)
 | .BitOr => some (Builtin.bitOr a b)
 | .Pow => if 0 <= a /\ a < 100 /\ 0 <= b /\ b < 100 then some (a ^ b.toNat) else none
 | _ => none
noncomputable def addL (m : Mem) (a b : D) : Option D := (items m a).bind fun xs => (items m b).bind fun ys => if xs.length + ys.length <= cap then some (.lst (xs ++ ys)) else none
noncomputable def addD (m : Mem) (a b : D) : Option D := match a with
 | .str a => (match b with
  | .str b => if a.length + b.length <= cap then some (.str (a ++ b)) else none
  | _ => none)
 | .bytes a => (match b with
  | .bytes b => if a.length + b.length <= cap then some (.bytes (a ++ b)) else none
  | _ => none)
 | .tup a => (match b with
  | .tup b => if a.length + b.length <= cap then some (.tup (a ++ b)) else none
  | _ => none)
 | a => addL m a b
noncomputable def mulD (m : Mem) (a : D) (k : Int) : Option D := match a with
 | .bytes a => if a ≠ [] /\ a.length <= 16 /\ 0 <= k /\ k <= cap then some (.bytes (List.replicate k.toNat a).flatten) else none
 | .lst ds => if ds.length <= 16 /\ 0 <= k /\ k <= cap then some (.lst (List.replicate k.toNat ds).flatten) else none
 | _ => none
noncomputable def isMult : Operator -> Bool
 | .Mult => true
 | _ => false
noncomputable def isAdd : Operator -> Bool
 | .Add => true
 | _ => false
noncomputable def binD (m : Mem) (op : Operator) (a b : D) : Option D := match b with
 | .int k => (match a with
  | .int i => (intOp op i k).map .int
  | a => if isMult op = true then mulD m a k else none)
 | b => if isAdd op = true then addD m a b else none
noncomputable def minL : List Int -> Option Int
 | [] => none
 | a :: r => some (r.foldl (fun m x => if x < m then x else m) a)
noncomputable def maxL : List Int -> Option Int
 | [] => none
 | a :: r => some (r.foldl (fun m x => if m < x then x else m) a)
noncomputable def lenD (m : Mem) : D -> Option Int
 | .bytes b => some b.length
 | d => (seq m d).map fun ds => (ds.length : Int)
noncomputable def bi1 (f : D -> Option D) : List D -> Option D
 | [d] => f d
 | _ => none
noncomputable def biInt : D -> Option D
 | .int i => some (.int i)
 | .bool b => some (.int (if b then 1 else 0))
 | _ => none
noncomputable def biMin (f : List Int -> Option Int) : D -> Option D
 | .lst ds => ((toInts ds).bind f).map .int
 | _ => none
noncomputable def max2 : D -> D -> Option D
 | .int a, .int b => some (.int (if a < b then b else a))
 | _, _ => none
noncomputable def biMax : List D -> Option D
 | [d] => biMin maxL d
 | [a, b] => max2 a b
 | _ => none
noncomputable def biRange : D -> Option D
 | .int i => if 0 <= i /\ i <= cap then some (.rng i.toNat) else none
 | _ => none
noncomputable def biBytes : D -> Option D
 | .bytes b => some (.bytes b)
 | .int n => if 0 <= n /\ n <= cap then some (.bytes (List.replicate n.toNat 0)) else none
 | .lst ds => (toBytes ds).map .bytes
 | _ => none
noncomputable def biStr : D -> Option D
 | .int i => if i.natAbs < 2 ^ 60 then some (.str (Str.ofString (toString i))) else none
 | _ => none
noncomputable def biD (m : Mem) (f : String) (as : List D) : Option D :=
 if f = "len" then bi1 (fun d => (lenD m d).map .int) as
 else if f = "int" then bi1 biInt as
 else if f = "max" then biMax as
 else if f = "min" then bi1 (biMin minL) as
 else if f = "range" then bi1 biRange as
 else if f = "list" then bi1 (fun d => (items m d).map .lst) as
 else if f = "bytes" then bi1 biBytes as
 else if f = "str" then bi1 biStr as
 else none
noncomputable def biNames : List String := ["len", "int", "max", "min", "range", "list", "bytes", "str"]
noncomputable def constD : Const -> Option D
 | .none => some .none
 | .bool b => some (.bool b)
 | .int i => some (.int i)
 | .str x => some (.str x)
 | .bytes b => if b.length <= cap then some (.bytes b) else none
 | _ => none
noncomputable def plain : D -> Bool
 | .cell _ => false
 | .tup ds => plains ds
 | .lst ds => plains ds
 | .inst _ fs => plainFs fs
 | _ => true
where
 plains : List D -> Bool
  | [] => true
  | d :: r => plain d && plains r
 plainFs : List (Str × D) -> Bool
  | [] => true
  | p :: r => plain p.2 && plainFs r
noncomputable def evList (f : Expr -> M D) : List Expr -> M (List D)
 | [] => ret []
 | e :: r => bind (f e) fun d => bind (evList f r) fun ds => ret (d :: ds)
noncomputable def assignNames : List Expr -> List D -> Vars -> Option Vars
 | [], [], env => some env
 | .Name x _ :: ts, d :: ds, env => assignNames ts ds (setv x d env)
 | _, _, _ => none
noncomputable def bindTo (t : Expr) (d : D) (env : Vars) : Option Vars := match t with
 | .Name x _ => some (setv x d env)
 | .Tuple ts _ _ => (match d with
  | .tup ds => assignNames ts ds env
  | _ => none)
 | _ => none
noncomputable def mapM {β : Type} (f : D -> M β) : List D -> M (List β)
 | [] => ret []
 | d :: r => bind (f d) fun e => bind (mapM f r) fun es => ret (e :: es)
structure Tabs where
 
 fn : Str -> List D -> M D
 isFn : Str -> Bool
 
 meth : Str -> Str -> List D -> M D
 methOk : Str -> Str -> Bool
 
 fieldOk : Str -> Str -> Bool
 setOk : Str -> Str -> Bool
 
 glob : Str -> Option D
noncomputable def kindOf (sc : Scope) (x : Str) : Option NameKind := sc.names.lookup x
noncomputable def notStar : Expr -> Bool
 | .Starred .. => false
 | _ => true
noncomputable def notSet : Expr -> Bool
 | .Set .. => false
 | _ => true
noncomputable def notSuper : Expr -> Bool
 | .Call (.Name _ _) [] [] _ => false
 | _ => true
noncomputable def calm {α : Type} (x : M α) : M α := fun m => match x m with
 | .ok a m' => .ok a m'
 | _ => .stuck
noncomputable def okComp (sc sc' : Scope) : Bool := sc'.kind == .function && sc'.names.all fun p =>
 p.2 != .cell && (p.1 == ("__debug__" : Str)) == false && (p.1 == ("__classdict__" : Str)) == false && (p.2 != .local || sc'.names.lookup p.1 == some .local) && (p.2 != .free || kindOf sc p.1 == some .cell || kindOf sc p.1 == some .free)
noncomputable def compVars (sc' : Scope) (env : Vars) : Vars := env.filter fun p => kindOf sc' p.1 == some .free
noncomputable def iterV : D -> Option (List D)
 | .rng n => some (rngItems n)
 | .tup ds => some ds
 | .lst ds => some ds
 | _ => none
noncomputable def ownTarget (sc : Scope) : Expr -> Bool
 | .Name x _ => kindOf sc x == some .local
 | .Tuple ts _ _ => ts.all fun | .Name x _ => kindOf sc x == some .local | _ => false
 | _ => false
mutual
noncomputable def ev (T : Tabs) : Nat -> Scope -> Expr -> Vars -> M D
 | 0, _, _, _ => fail
 | n + 1, sc, e, env => match e with
  | .Constant c _ _ => lift (constD c)
  | .Name x _ => (match kindOf sc x with
   | some .local => lift (env.lookup x)
   | some .cell => lift (env.lookup x)
   | some .free => lift (env.lookup x)
   | some .globalImplicit => lift (T.glob x)
   | _ => fail)
  | .BinOp l op r _ => bind (ev T n sc l env) fun a => bind (ev T n sc r env) fun b => look fun m => binD m op a b
  | .UnaryOp .USub x _ => bind (ev T n sc x env) fun a => (match a with | .int i => ret (.int (-i)) | _ => fail)
  | .IfExp t a b _ => bind (tst T n sc t env) fun c => cond c (ev T n sc a env) (ev T n sc b env)
  | .Tuple es _ _ => if es.all notStar then bind (evList (fun e => ev T n sc e env) es) fun ds => if ds.length <= cap then ret (.tup ds) else fail else fail
  | .List es _ => if es.all notStar then bind (evList (fun e => ev T n sc e env) es) fun ds => if ds.length <= cap then ret (.lst ds) else fail else fail
  | .Compare l [op] [r] _ => if notSet r then bind (ev T n sc l env) fun a => bind (ev T n sc r env) fun b => look fun m => (cmpD m op a b).map .bool else fail
  | .Attribute o x _ => if notSuper o then bind (ev T n sc o env) fun d => look fun m => (fields m d).bind fun p => if T.fieldOk p.1 x then p.2.lookup x else none else fail
  | .Subscript (.Name o op) (.Slice lo hi none _) _ => bind (ev T n sc (.Name o op) env) fun d => bind (match lo with | none => ret .none | some e => ev T n sc e env) fun a => bind (match hi with | none => ret .none | some e => ev T n sc e env) fun b =>
    (match a, b with
     | .int a, .int b => look fun m => cutD m d a b
     | .none, .int b => look fun m => cutD m d 0 b
     | _, _ => fail)
  | .Subscript o i _ => bind (ev T n sc o env) fun d => bind (ev T n sc i env) fun k => look fun m => subD m d k
  | .ListComp elt [⟨t, it, [], 0⟩] sc' _ => if okComp sc sc' && notSet it && ownTarget sc' t then bind (ev T n sc it env) fun d => bind (lift (iterV d)) fun ds =>
    if ds.length <= cap then
    bind (calm (mapM (fun d => bind (lift (bindTo t d (compVars sc' env))) fun env' => ev T n sc' elt env') ds)) fun es => ret (.lst es) else fail else fail
  | .ListComp elt [⟨t, it, [], 0⟩, ⟨t2, it2, [], 0⟩] sc' _ => if okComp sc sc' && notSet it && notSet it2 && ownTarget sc' t && ownTarget sc' t2 then bind (ev T n sc it env) fun d => bind (lift (iterV d)) fun ds =>
    if ds.length <= cap then
    bind (calm (mapM (fun d => bind (lift (bindTo t d (compVars sc' env))) fun env1 => bind (ev T n sc' it2 env1) fun d2 => bind (lift (iterV d2)) fun ds2 =>
     if ds2.length <= 200 then mapM (fun d2 => bind (lift (bindTo t2 d2 env1)) fun env2 => ev T n sc' elt env2) ds2 else fail) ds)) fun ess => ret (.lst ess.flatten) else fail else fail
  | .Call (.Attribute (.Constant (.bytes []) _ _) x ap) [a] [] p => if x == "join" && notStar a && ap.endLine == p.line then bind (ev T n sc a env) fun d =>
    look fun m => (items m d).bind fun ds => (catBytes ds).bind fun b => if b.length <= cap /\ ds.length <= cap then some (.bytes b) else none else fail
  | .Call (.Attribute o x ap) es [] p => if notSuper o && es.all notStar && decide (es.length < 30) && ap.endLine == p.line then bind (ev T n sc o env) fun d =>
    bind (look fun m => fields m d) fun q => if T.methOk q.1 x && (q.2.lookup x).isNone then bind (evList (fun e => ev T n sc e env) es) fun ds => T.meth q.1 x (d :: ds) else fail else fail
  | .Call (.Name f _) es [] _ => if kindOf sc f == some .globalImplicit && es.all notStar then
    if T.isFn f then bind (evList (fun e => ev T n sc e env) es) fun ds => T.fn f ds
    else match biNames.find? (fun b => Str.ofString b == f) with
     | some b => bind (evList (fun e => ev T n sc e env) es) fun ds => look fun m => biD m b ds
     | none => fail
    else fail
  | _ => fail
noncomputable def tst (T : Tabs) : Nat -> Scope -> Expr -> Vars -> M Bool
 | 0, _, _, _ => fail
 | n + 1, sc, e, env => match e with
  | .UnaryOp .Not x _ => bind (tst T n sc x env) fun b => ret (!b)
  | .BoolOp op es _ => tsts T n sc op es env
  | .Compare l ops rs _ => bind (ev T n sc l env) fun a => chain T n sc a ops rs env
  | .IfExp .. => fail
  | e => bind (ev T n sc e env) fun d => lift (truth d)
noncomputable def tsts (T : Tabs) : Nat -> Scope -> BoolOp -> List Expr -> Vars -> M Bool
 | 0, _, _, _, _ => fail
 | _ + 1, _, op, [], _ => ret (op == .And)
 | n + 1, sc, op, e :: es, env => bind (tst T n sc e env) fun b => match op with
  | .And => cond b (tsts T n sc op es env) (ret false)
  | .Or => cond b (ret true) (tsts T n sc op es env)
noncomputable def chain (T : Tabs) : Nat -> Scope -> D -> List CmpOp -> List Expr -> Vars -> M Bool
 | 0, _, _, _, _, _ => fail
 | n + 1, sc, a, [op], [r], env => if notSet r then bind (ev T n sc r env) fun b => look fun m => cmpD m op a b else fail
 | n + 1, sc, a, op :: op2 :: ops, r :: r2 :: rs, env => bind (ev T n sc r env) fun b => bind (look fun m => cmpD m op a b) fun c => cond c (chain T n sc b (op2 :: ops) (r2 :: rs) env) (ret false)
 | _ + 1, _, _, _, _, _ => fail
end
noncomputable def appendsTo : Stmt -> List Str
 | .Expr (.Call (.Attribute (.Name x _) a _) _ _ _) _ => if a == "append" then [x] else []
 | .For _ _ b _ _ => app b
 | .While _ b _ _ => app b
 | .If _ b c _ => app b ++ app c
 | _ => []
where
 app : List Stmt -> List Str
  | [] => []
  | s :: r => appendsTo s ++ app r
noncomputable def alloc (ds : List D) : M D := fun m => if plain.plains ds && decide (ds.length <= cap) then .ok (.cell m.length) (m ++ [.lst ds]) else .stuck
noncomputable def setCell (i : Nat) (c : Cell) : M Unit := fun m => if i < m.length then .ok () (m.set i c) else .stuck
noncomputable def evFor (f : Expr -> M D) (mt : List Str) (t e : Expr) : M D := match t, e with
 | .Name x _, .List es _ => if mt.contains x then (if es.all notStar then bind (evList f es) alloc else fail) else f e
 | _, _ => f e
noncomputable def evFors (f : Expr -> M D) (mt : List Str) : List Expr -> List Expr -> M (List D)
 | [], [] => ret []
 | t :: ts, e :: es => bind (evFor f mt t e) fun d => bind (evFors f mt ts es) fun ds => ret (d :: ds)
 | _, _ => fail
noncomputable def forL (f : D -> Vars -> M Fl) : List D -> Vars -> M Fl
 | [], env => ret (.next env)
 | d :: r, env => bind (f d env) fun
  | .next env' => forL f r env'
  | .ret d => ret (.ret d)
noncomputable def forC (f : D -> Vars -> M Fl) (i : Nat) : Nat -> Nat -> Vars -> M Fl
 | 0, _, _ => fail
 | k + 1, j, env => bind (look fun m => items m (.cell i)) fun ds => match ds[j]? with
  | none => ret (.next env)
  | some d => bind (f d env) fun
   | .next env' => forC f i k (j + 1) env'
   | .ret d => ret (.ret d)
noncomputable def whileL (t : Vars -> M Bool) (f : Vars -> M Fl) : Nat -> Vars -> M Fl
 | 0, _ => fail
 | n + 1, env => bind (calm (t env)) fun c => cond c (bind (calm (f env)) fun
  | .next env' => whileL t f n env'
  | .ret d => ret (.ret d)) (ret (.next env))
structure Fn where
 params : List Str
 defaults : List D
 body : List Stmt
 scope : Scope
 deriving Inhabited
noncomputable def whileTop : Nat := 64
noncomputable def excOf (T : Tabs) (n : Nat) (sc : Scope) (e : Expr) (env : Vars) : M Fl := match e with
 | .Call (.Name f _) [a] [] _ => if f == "FontFault" && kindOf sc f == some .globalImplicit && notStar a then bind (ev T n sc a env) fun d => (match d with | .str _ => fun m => .exc m | _ => fail) else fail
 | _ => fail
noncomputable def targetName : Expr -> Str
 | .Name x _ => x
 | _ => default
noncomputable def okName (sc : Scope) (x : Str) : Bool := kindOf sc x == some .local || kindOf sc x == some .cell
noncomputable def okTarget (sc : Scope) : Expr -> Bool
 | .Name x _ => okName sc x
 | .Tuple ts _ _ => ts.all fun | .Name x _ => okName sc x | _ => false
 | _ => false
noncomputable def retNone : Stmt -> Bool
 | .Return (some (.Constant .none _ _)) _ => true
 | _ => false
noncomputable def hdName : ExceptHandler -> Option Str
 | .ExceptHandler (some (.Name f _)) none b _ => (match b with
  | [r] => if retNone r then some f else none
  | _ => none)
 | _ => none
noncomputable def tryName (hs : List ExceptHandler) (o f : List Stmt) : Option Str := match hs with
 | [h] => if o.isEmpty && f.isEmpty then hdName h else none
 | _ => none
mutual
noncomputable def exec (T : Tabs) (mt : List Str) (retCell : Bool) : Nat -> Scope -> Stmt -> Vars -> M Fl
 | 0, _, _, _ => fail
 | n + 1, sc, s, env => match s with
  | .Return (some e) _ => (match retCell, e with
   | true, .List es _ => if es.all notStar then bind (bind (evList (fun e => ev T n sc e env) es) alloc) fun d => ret (.ret d) else fail
   | _, _ => bind (ev T n sc e env) fun d => ret (.ret d))
  | .Assign [.Tuple ts k p] (.Tuple es _ _) _ => if okTarget sc (.Tuple ts k p) && es.all notStar && decide (ts.length = es.length /\ es.length <= 30 /\ (ts.map targetName).Nodup) && (!es.all (constantsAlone 8) || es.all (foldedForSure 8)) then bind (evFors (fun e => ev T n sc e env) mt ts es) fun ds => bind (lift (assignNames ts ds env)) fun env' => ret (.next env') else fail
  | .Assign [.Name x p] e _ => if okName sc x then bind (evFor (fun e => ev T n sc e env) mt (.Name x p) e) fun d => ret (.next (setv x d env)) else fail
  | .Assign [.Tuple ts k p] e _ => if okTarget sc (.Tuple ts k p) then bind (ev T n sc e env) fun d => bind (lift (bindTo (.Tuple ts k p) d env)) fun env' => ret (.next env') else fail
  | .Assign [.Attribute o x _] e _ => bind (ev T n sc e env) fun d => bind (ev T n sc o env) fun od => (match od with
    | .cell i => bind (look fun m => fields m (.cell i)) fun p => if plain d && T.setOk p.1 x && decide (p.2.length <= 50) then bind (setCell i (.inst p.1 (setv x d p.2))) fun _ => ret (.next env) else fail
    | _ => fail)
  | .Assign [.Subscript o i _] e _ => bind (ev T n sc e env) fun d => bind (ev T n sc o env) fun od => bind (ev T n sc i env) fun k => (match od, k with
    | .cell i, .int k => bind (look fun m => items m (.cell i)) fun ds => if plain d && decide (0 <= k) && decide (k < ds.length) then bind (setCell i (.lst (ds.set k.toNat d))) fun _ => ret (.next env) else fail
    | _, _ => fail)
  | .Expr (.Call (.Attribute o a ap) [e] [] cp) _ => if a == "append" then (if notSuper o && notStar e && ap.endLine == cp.line then bind (ev T n sc o env) fun od => bind (look fun m => items m od) fun _ => bind (ev T n sc e env) fun d => (match od with
    | .cell i => bind (look fun m => items m (.cell i)) fun ds => if plain d && decide (ds.length < cap) then bind (setCell i (.lst (ds ++ [d]))) fun _ => ret (.next env) else fail
    | _ => fail) else fail) else bind (ev T n sc (.Call (.Attribute o a ap) [e] [] cp) env) fun d => (match d with | .bytes _ => ret (.next env) | _ => fail)
  | .If t a b _ => bind (tst T n sc t env) fun c => cond c (execs T mt retCell n sc a env) (execs T mt retCell n sc b env)
  | .While t b [] _ => whileL (fun env => tst T n sc t env) (fun env => execs T mt retCell n sc b env) whileTop env
  | .For t it b [] _ => if notSet it && okTarget sc t then bind (ev T n sc it env) fun d => (match d with
    | .cell i => forC (fun d env => bind (lift (bindTo t d env)) fun env' => execs T mt retCell n sc b env') i whileTop 0 env
    | d => bind (lift (iterV d)) fun ds => if ds.length <= cap then forL (fun d env => bind (lift (bindTo t d env)) fun env' => execs T mt retCell n sc b env') ds env else fail) else fail
  | .Raise (some e) none _ => excOf T n sc e env
  | .Try b hs o f _ => (match tryName hs o f with
    | some x => if x == "FontFault" && kindOf sc x == some .globalImplicit then (fun m => match execs T mt retCell n sc b env m with
     | .exc m' => .ok (.ret .none) m'
     | r => r) else fail
    | none => fail)
  | _ => fail
noncomputable def execs (T : Tabs) (mt : List Str) (retCell : Bool) : Nat -> Scope -> List Stmt -> Vars -> M Fl
 | 0, _, _, _ => fail
 | _ + 1, _, [], env => ret (.next env)
 | n + 1, sc, s :: r, env => bind (exec T mt retCell n sc s env) fun
  | .next env' => execs T mt retCell n sc r env'
  | .ret d => ret (.ret d)
end
noncomputable def freeze (m : Mem) (n : Nat) : D -> Option D
 | .cell i => if i < n then some (.cell i) else (match m[i]? with | some (.lst ds) => some (.lst ds) | _ => none)
 | .lst ds => (freezes m n ds).map .lst
 | .tup ds => (freezes m n ds).map .tup
 | .inst c fs => if plain (.inst c fs) then some (.inst c fs) else none
 | d => some d
where
 freezes (m : Mem) (n : Nat) : List D -> Option (List D)
  | [] => some []
  | d :: r => match freeze m n d, freezes m n r with
   | some d, some ds => some (d :: ds)
   | _, _ => none
noncomputable def fillArgs : List Str -> List D -> List D -> Option Vars
 | ps, as, ds =>
  if as.length <= ps.length /\ ps.length <= as.length + ds.length then some (ps.zip (as ++ ds.drop (as.length + ds.length - ps.length))) else none
noncomputable def retOf : Fl -> D
 | .next _ => .none
 | .ret d => d
noncomputable def body (T : Tabs) (f : Fn) (retCell : Bool) (args : List D) : M D := fun m => match fillArgs f.params args f.defaults with
 | none => .stuck
 | some env => match execs T (appendsTo.app f.body) retCell 60 f.scope f.body env m with
  | .ok fl m' => if retCell then .ok (retOf fl) m' else (match freeze m' m.length (retOf fl) with
   | some d => .ok d (m'.take m.length)
   | none => .stuck)
  | .exc m' => .exc (m'.take m.length)
  | .stuck => .stuck
noncomputable def dfltOf : Expr -> D
 | .Constant c _ _ => (constD c).getD .none
 | .Tuple es _ _ => .tup (es.map fun e => match e with | .Constant (.int i) _ _ => .int i | _ => .int 16384)
 | _ => .none
noncomputable def defOf : Stmt -> Option (Str × Fn)
 | .FunctionDef n a b _ _ _ sc _ _ _ => some (n, { params := a.args.map (·.arg), defaults := a.defaults.map dfltOf, body := b, scope := sc })
 | _ => none
noncomputable def globsOf : List Stmt -> List (Str × D)
 | [] => []
 | .Assign [.Name x _] (.Constant (.int i) _ _) _ :: r => (x, .int i) :: globsOf r
 | _ :: r => globsOf r
noncomputable def theGlobs : List (Str × D) := globsOf PySem.Challenge.pw_nu0035_01.main.body
noncomputable def mutCls : List Str := ["Octets"]
noncomputable def fieldsOf : List (Str × List Str) := [("Outline", ["contours", "instructions"]), ("Octets", ["octets", "at"]), ("Part", ["glyph", "first", "second", "is_move", "scale"]), ("GlyphTable", ["octets", "places"])]
noncomputable def isFld (c x : Str) : Bool := match fieldsOf.lookup c with
 | some l => l.contains x
 | none => false
noncomputable def cls : List Str := ["Outline", "Octets", "Part", "GlyphTable"]
section
variable {T : Tabs} {n : Nat} {sc sc' : Scope} {env : Vars} {mt : List Str} {rc : Bool}
theorem ev_const {c : Const} {k : Nat} {p : Pos} : ev T (n + 1) sc (.Constant c k p) env = lift (constD c) := rfl
theorem ev_name {x : Str} {p : Pos} : ev T (n + 1) sc (.Name x p) env = (match kindOf sc x with
   | some .local => lift (env.lookup x)
   | some .cell => lift (env.lookup x)
   | some .free => lift (env.lookup x)
   | some .globalImplicit => lift (T.glob x)
   | _ => fail) := rfl
theorem ev_bin {l r : Expr} {op : Operator} {p : Pos} : ev T (n + 1) sc (.BinOp l op r p) env = bind (ev T n sc l env) fun a => bind (ev T n sc r env) fun b => look fun m => binD m op a b := rfl
theorem ev_neg {x : Expr} {p : Pos} : ev T (n + 1) sc (.UnaryOp .USub x p) env = bind (ev T n sc x env) fun a => (match a with | .int i => ret (.int (-i)) | _ => fail) := rfl
theorem ev_ife {t a b : Expr} {p : Pos} : ev T (n + 1) sc (.IfExp t a b p) env = bind (tst T n sc t env) fun c => cond c (ev T n sc a env) (ev T n sc b env) := rfl
theorem ev_tup {es : List Expr} {k : Nat} {p : Pos} : ev T (n + 1) sc (.Tuple es k p) env = if es.all notStar then bind (evList (fun e => ev T n sc e env) es) fun ds => if ds.length <= cap then ret (.tup ds) else fail else fail := rfl
theorem ev_lst {es : List Expr} {p : Pos} : ev T (n + 1) sc (.List es p) env = if es.all notStar then bind (evList (fun e => ev T n sc e env) es) fun ds => if ds.length <= cap then ret (.lst ds) else fail else fail := rfl
theorem ev_cmp {l r : Expr} {op : CmpOp} {p : Pos} : ev T (n + 1) sc (.Compare l [op] [r] p) env = if notSet r then bind (ev T n sc l env) fun a => bind (ev T n sc r env) fun b => look fun m => (cmpD m op a b).map .bool else fail := rfl
theorem ev_att {o : Expr} {x : Str} {p : Pos} : ev T (n + 1) sc (.Attribute o x p) env = if notSuper o then bind (ev T n sc o env) fun d => look fun m => (fields m d).bind fun p => if T.fieldOk p.1 x then p.2.lookup x else none else fail := rfl
theorem ev_slice {x : Str} {op p q : Pos} {lo hi : Option Expr} : ev T (n + 1) sc (.Subscript (.Name x op) (.Slice lo hi none p) q) env = bind (ev T n sc (.Name x op) env) fun d => bind (match lo with | none => ret .none | some e => ev T n sc e env) fun a => bind (match hi with | none => ret .none | some e => ev T n sc e env) fun b =>
    (match a, b with
     | .int a, .int b => look fun m => cutD m d a b
     | .none, .int b => look fun m => cutD m d 0 b
     | _, _ => fail) := rfl
theorem ev_comp1 {elt t it : Expr} {p : Pos} : ev T (n + 1) sc (.ListComp elt [⟨t, it, [], 0⟩] sc' p) env = if okComp sc sc' && notSet it && ownTarget sc' t then bind (ev T n sc it env) fun d => bind (lift (iterV d)) fun ds =>
    if ds.length <= cap then
    bind (calm (mapM (fun d => bind (lift (bindTo t d (compVars sc' env))) fun env' => ev T n sc' elt env') ds)) fun es => ret (.lst es) else fail else fail := rfl
theorem ev_comp2 {elt t it t2 it2 : Expr} {p : Pos} : ev T (n + 1) sc (.ListComp elt [⟨t, it, [], 0⟩, ⟨t2, it2, [], 0⟩] sc' p) env = if okComp sc sc' && notSet it && notSet it2 && ownTarget sc' t && ownTarget sc' t2 then bind (ev T n sc it env) fun d => bind (lift (iterV d)) fun ds =>
    if ds.length <= cap then
    bind (calm (mapM (fun d => bind (lift (bindTo t d (compVars sc' env))) fun env1 => bind (ev T n sc' it2 env1) fun d2 => bind (lift (iterV d2)) fun ds2 =>
     if ds2.length <= 200 then mapM (fun d2 => bind (lift (bindTo t2 d2 env1)) fun env2 => ev T n sc' elt env2) ds2 else fail) ds)) fun ess => ret (.lst ess.flatten) else fail else fail := rfl
theorem ev_join {k : Nat} {cp ap p : Pos} {x : Str} {a : Expr} : ev T (n + 1) sc (.Call (.Attribute (.Constant (.bytes []) k cp) x ap) [a] [] p) env = if x == "join" && notStar a && ap.endLine == p.line then bind (ev T n sc a env) fun d =>
    look fun m => (items m d).bind fun ds => (catBytes ds).bind fun b => if b.length <= cap /\ ds.length <= cap then some (.bytes b) else none else fail := rfl
theorem exec_setattr {o e : Expr} {x : Str} {q p : Pos} : exec T mt rc (n + 1) sc (.Assign [.Attribute o x q] e p) env = bind (ev T n sc e env) fun d => bind (ev T n sc o env) fun od => (match od with
    | .cell i => bind (look fun m => fields m (.cell i)) fun p => if plain d && T.setOk p.1 x && decide (p.2.length <= 50) then bind (setCell i (.inst p.1 (setv x d p.2))) fun _ => ret (.next env) else fail
    | _ => fail) := rfl
theorem exec_setitem {o i e : Expr} {q p : Pos} : exec T mt rc (n + 1) sc (.Assign [.Subscript o i q] e p) env = bind (ev T n sc e env) fun d => bind (ev T n sc o env) fun od => bind (ev T n sc i env) fun k => (match od, k with
    | .cell i, .int k => bind (look fun m => items m (.cell i)) fun ds => if plain d && decide (0 <= k) && decide (k < ds.length) then bind (setCell i (.lst (ds.set k.toNat d))) fun _ => ret (.next env) else fail
    | _, _ => fail) := rfl
theorem exec_expr {o e : Expr} {a : Str} {ap cp p : Pos} : exec T mt rc (n + 1) sc (.Expr (.Call (.Attribute o a ap) [e] [] cp) p) env = if a == "append" then (if notSuper o && notStar e && ap.endLine == cp.line then bind (ev T n sc o env) fun od => bind (look fun m => items m od) fun _ => bind (ev T n sc e env) fun d => (match od with
    | .cell i => bind (look fun m => items m (.cell i)) fun ds => if plain d && decide (ds.length < cap) then bind (setCell i (.lst (ds ++ [d]))) fun _ => ret (.next env) else fail
    | _ => fail) else fail) else bind (ev T n sc (.Call (.Attribute o a ap) [e] [] cp) env) fun d => (match d with | .bytes _ => ret (.next env) | _ => fail) := rfl
theorem exec_lit {ts es : List Expr} {k k2 : Nat} {p p2 pos : Pos} : exec T mt rc (n + 1) sc (.Assign [.Tuple ts k p] (.Tuple es k2 p2) pos) env = if okTarget sc (.Tuple ts k p) && es.all notStar && decide (ts.length = es.length /\ es.length <= 30 /\ (ts.map targetName).Nodup) && (!es.all (constantsAlone 8) || es.all (foldedForSure 8)) then bind (evFors (fun e => ev T n sc e env) mt ts es) fun ds => bind (lift (assignNames ts ds env)) fun env' => ret (.next env') else fail := rfl
theorem exec_while {t : Expr} {b : List Stmt} {p : Pos} : exec T mt rc (n + 1) sc (.While t b [] p) env = whileL (fun env => tst T n sc t env) (fun env => execs T mt rc n sc b env) whileTop env := rfl
theorem exec_for {t it : Expr} {b : List Stmt} {p : Pos} : exec T mt rc (n + 1) sc (.For t it b [] p) env = if notSet it && okTarget sc t then bind (ev T n sc it env) fun d => (match d with
    | .cell i => forC (fun d env => bind (lift (bindTo t d env)) fun env' => execs T mt rc n sc b env') i whileTop 0 env
    | d => bind (lift (iterV d)) fun ds => if ds.length <= cap then forL (fun d env => bind (lift (bindTo t d env)) fun env' => execs T mt rc n sc b env') ds env else fail) else fail := rfl
theorem exec_try {b : List Stmt} {k : Nat} {np hp rp cp pos : Pos} {f : Str} : exec T mt rc (n + 1) sc (.Try b [.ExceptHandler (some (.Name f np)) none [.Return (some (.Constant .none k cp)) rp] hp] [] [] pos) env = (if f == "FontFault" && kindOf sc f == some .globalImplicit then (fun m => match execs T mt rc n sc b env m with
     | .exc m' => .ok (.ret .none) m'
     | r => r) else fail) := rfl
theorem exec_try0 {b : List Stmt} {hs : List ExceptHandler} {o f : List Stmt} {p : Pos} (e : tryName hs o f = none) : exec T mt rc (n + 1) sc (.Try b hs o f p) env = fail := by
 have h : exec T mt rc (n + 1) sc (.Try b hs o f p) env = (match tryName hs o f with
    | some x => if x == "FontFault" && kindOf sc x == some .globalImplicit then (fun m => match execs T mt rc n sc b env m with
     | .exc m' => .ok (.ret .none) m'
     | r => r) else fail
    | none => fail) := rfl
 rw [h, e]
end
end Mine
end
section
open PySem PySem.W PySem.Calls PyProof.Rows PySem.Spec
namespace Mine
theorem none_some {α : Type} {a : α} {G : Prop} (e : (none : Option α) = some a) : G := by contradiction
theorem if_some {α : Type} {c : Prop} [Decidable c] {x : Option α} {r : α} (e : (if c then x else none) = some r) : c /\ x = some r := by
 by_cases q : c
 ·rw [if_pos q] at e; exact ⟨q, e⟩
 ·rw [if_neg q] at e; contradiction
theorem some_if {α : Type} {c : Prop} [Decidable c] {a r : α} (e : (if c then some a else none) = some r) : c /\ a = r := (if_some e).imp_right Option.some.inj
theorem e0_2 {P0 P1 : Prop} {G : Prop} (h : P0 /\ P1) (k : P0 -> P1 -> G) : G := k h.1 h.2
theorem e0_3 {P0 P1 P2 : Prop} {G : Prop} (h : P0 /\ P1 /\ P2) (k : P0 -> P1 -> P2 -> G) : G := k h.1 h.2.1 h.2.2
theorem e0_4 {P0 P1 P2 P3 : Prop} {G : Prop} (h : P0 /\ P1 /\ P2 /\ P3) (k : P0 -> P1 -> P2 -> P3 -> G) : G := k h.1 h.2.1 h.2.2.1 h.2.2.2
theorem e0_5 {P0 P1 P2 P3 P4 : Prop} {G : Prop} (h : P0 /\ P1 /\ P2 /\ P3 /\ P4) (k : P0 -> P1 -> P2 -> P3 -> P4 -> G) : G := k h.1 h.2.1 h.2.2.1 h.2.2.2.1 h.2.2.2.2
theorem e1_1 {A0 : Type} {P0 : A0 -> Prop} {G : Prop} (h : ∃ x0, P0 x0) (k : ∀ x0, P0 x0 -> G) : G := h.elim fun x0 h => k x0 h
theorem e1_2 {A0 : Type} {P0 P1 : A0 -> Prop} {G : Prop} (h : ∃ x0, P0 x0 /\ P1 x0) (k : ∀ x0, P0 x0 -> P1 x0 -> G) : G := h.elim fun x0 h => k x0 h.1 h.2
theorem e1_3 {A0 : Type} {P0 P1 P2 : A0 -> Prop} {G : Prop} (h : ∃ x0, P0 x0 /\ P1 x0 /\ P2 x0) (k : ∀ x0, P0 x0 -> P1 x0 -> P2 x0 -> G) : G := h.elim fun x0 h => k x0 h.1 h.2.1 h.2.2
theorem e1_5 {A0 : Type} {P0 P1 P2 P3 P4 : A0 -> Prop} {G : Prop} (h : ∃ x0, P0 x0 /\ P1 x0 /\ P2 x0 /\ P3 x0 /\ P4 x0) (k : ∀ x0, P0 x0 -> P1 x0 -> P2 x0 -> P3 x0 -> P4 x0 -> G) : G := h.elim fun x0 h => k x0 h.1 h.2.1 h.2.2.1 h.2.2.2.1 h.2.2.2.2
theorem e2_1 {A0 A1 : Type} {P0 : A0 -> A1 -> Prop} {G : Prop} (h : ∃ x0 x1, P0 x0 x1) (k : ∀ x0 x1, P0 x0 x1 -> G) : G := h.elim fun x0 h => h.elim fun x1 h => k x0 x1 h
theorem e2_2 {A0 A1 : Type} {P0 P1 : A0 -> A1 -> Prop} {G : Prop} (h : ∃ x0 x1, P0 x0 x1 /\ P1 x0 x1) (k : ∀ x0 x1, P0 x0 x1 -> P1 x0 x1 -> G) : G := h.elim fun x0 h => h.elim fun x1 h => k x0 x1 h.1 h.2
theorem e2_3 {A0 A1 : Type} {P0 P1 P2 : A0 -> A1 -> Prop} {G : Prop} (h : ∃ x0 x1, P0 x0 x1 /\ P1 x0 x1 /\ P2 x0 x1) (k : ∀ x0 x1, P0 x0 x1 -> P1 x0 x1 -> P2 x0 x1 -> G) : G := h.elim fun x0 h => h.elim fun x1 h => k x0 x1 h.1 h.2.1 h.2.2
theorem e2_4 {A0 A1 : Type} {P0 P1 P2 P3 : A0 -> A1 -> Prop} {G : Prop} (h : ∃ x0 x1, P0 x0 x1 /\ P1 x0 x1 /\ P2 x0 x1 /\ P3 x0 x1) (k : ∀ x0 x1, P0 x0 x1 -> P1 x0 x1 -> P2 x0 x1 -> P3 x0 x1 -> G) : G := h.elim fun x0 h => h.elim fun x1 h => k x0 x1 h.1 h.2.1 h.2.2.1 h.2.2.2
theorem e2_5 {A0 A1 : Type} {P0 P1 P2 P3 P4 : A0 -> A1 -> Prop} {G : Prop} (h : ∃ x0 x1, P0 x0 x1 /\ P1 x0 x1 /\ P2 x0 x1 /\ P3 x0 x1 /\ P4 x0 x1) (k : ∀ x0 x1, P0 x0 x1 -> P1 x0 x1 -> P2 x0 x1 -> P3 x0 x1 -> P4 x0 x1 -> G) : G := h.elim fun x0 h => h.elim fun x1 h => k x0 x1 h.1 h.2.1 h.2.2.1 h.2.2.2.1 h.2.2.2.2
theorem e2_6 {A0 A1 : Type} {P0 P1 P2 P3 P4 P5 : A0 -> A1 -> Prop} {G : Prop} (h : ∃ x0 x1, P0 x0 x1 /\ P1 x0 x1 /\ P2 x0 x1 /\ P3 x0 x1 /\ P4 x0 x1 /\ P5 x0 x1) (k : ∀ x0 x1, P0 x0 x1 -> P1 x0 x1 -> P2 x0 x1 -> P3 x0 x1 -> P4 x0 x1 -> P5 x0 x1 -> G) : G := h.elim fun x0 h => h.elim fun x1 h => k x0 x1 h.1 h.2.1 h.2.2.1 h.2.2.2.1 h.2.2.2.2.1 h.2.2.2.2.2
theorem e3_1 {A0 A1 A2 : Type} {P0 : A0 -> A1 -> A2 -> Prop} {G : Prop} (h : ∃ x0 x1 x2, P0 x0 x1 x2) (k : ∀ x0 x1 x2, P0 x0 x1 x2 -> G) : G := h.elim fun x0 h => h.elim fun x1 h => h.elim fun x2 h => k x0 x1 x2 h
theorem e3_2 {A0 A1 A2 : Type} {P0 P1 : A0 -> A1 -> A2 -> Prop} {G : Prop} (h : ∃ x0 x1 x2, P0 x0 x1 x2 /\ P1 x0 x1 x2) (k : ∀ x0 x1 x2, P0 x0 x1 x2 -> P1 x0 x1 x2 -> G) : G := h.elim fun x0 h => h.elim fun x1 h => h.elim fun x2 h => k x0 x1 x2 h.1 h.2
theorem e3_3 {A0 A1 A2 : Type} {P0 P1 P2 : A0 -> A1 -> A2 -> Prop} {G : Prop} (h : ∃ x0 x1 x2, P0 x0 x1 x2 /\ P1 x0 x1 x2 /\ P2 x0 x1 x2) (k : ∀ x0 x1 x2, P0 x0 x1 x2 -> P1 x0 x1 x2 -> P2 x0 x1 x2 -> G) : G := h.elim fun x0 h => h.elim fun x1 h => h.elim fun x2 h => k x0 x1 x2 h.1 h.2.1 h.2.2
theorem e3_4 {A0 A1 A2 : Type} {P0 P1 P2 P3 : A0 -> A1 -> A2 -> Prop} {G : Prop} (h : ∃ x0 x1 x2, P0 x0 x1 x2 /\ P1 x0 x1 x2 /\ P2 x0 x1 x2 /\ P3 x0 x1 x2) (k : ∀ x0 x1 x2, P0 x0 x1 x2 -> P1 x0 x1 x2 -> P2 x0 x1 x2 -> P3 x0 x1 x2 -> G) : G := h.elim fun x0 h => h.elim fun x1 h => h.elim fun x2 h => k x0 x1 x2 h.1 h.2.1 h.2.2.1 h.2.2.2
theorem e3_5 {A0 A1 A2 : Type} {P0 P1 P2 P3 P4 : A0 -> A1 -> A2 -> Prop} {G : Prop} (h : ∃ x0 x1 x2, P0 x0 x1 x2 /\ P1 x0 x1 x2 /\ P2 x0 x1 x2 /\ P3 x0 x1 x2 /\ P4 x0 x1 x2) (k : ∀ x0 x1 x2, P0 x0 x1 x2 -> P1 x0 x1 x2 -> P2 x0 x1 x2 -> P3 x0 x1 x2 -> P4 x0 x1 x2 -> G) : G := h.elim fun x0 h => h.elim fun x1 h => h.elim fun x2 h => k x0 x1 x2 h.1 h.2.1 h.2.2.1 h.2.2.2.1 h.2.2.2.2
theorem e3_6 {A0 A1 A2 : Type} {P0 P1 P2 P3 P4 P5 : A0 -> A1 -> A2 -> Prop} {G : Prop} (h : ∃ x0 x1 x2, P0 x0 x1 x2 /\ P1 x0 x1 x2 /\ P2 x0 x1 x2 /\ P3 x0 x1 x2 /\ P4 x0 x1 x2 /\ P5 x0 x1 x2) (k : ∀ x0 x1 x2, P0 x0 x1 x2 -> P1 x0 x1 x2 -> P2 x0 x1 x2 -> P3 x0 x1 x2 -> P4 x0 x1 x2 -> P5 x0 x1 x2 -> G) : G := h.elim fun x0 h => h.elim fun x1 h => h.elim fun x2 h => k x0 x1 x2 h.1 h.2.1 h.2.2.1 h.2.2.2.1 h.2.2.2.2.1 h.2.2.2.2.2
theorem e3_7 {A0 A1 A2 : Type} {P0 P1 P2 P3 P4 P5 P6 : A0 -> A1 -> A2 -> Prop} {G : Prop} (h : ∃ x0 x1 x2, P0 x0 x1 x2 /\ P1 x0 x1 x2 /\ P2 x0 x1 x2 /\ P3 x0 x1 x2 /\ P4 x0 x1 x2 /\ P5 x0 x1 x2 /\ P6 x0 x1 x2) (k : ∀ x0 x1 x2, P0 x0 x1 x2 -> P1 x0 x1 x2 -> P2 x0 x1 x2 -> P3 x0 x1 x2 -> P4 x0 x1 x2 -> P5 x0 x1 x2 -> P6 x0 x1 x2 -> G) : G := h.elim fun x0 h => h.elim fun x1 h => h.elim fun x2 h => k x0 x1 x2 h.1 h.2.1 h.2.2.1 h.2.2.2.1 h.2.2.2.2.1 h.2.2.2.2.2.1 h.2.2.2.2.2.2
theorem e4_2 {A0 A1 A2 A3 : Type} {P0 P1 : A0 -> A1 -> A2 -> A3 -> Prop} {G : Prop} (h : ∃ x0 x1 x2 x3, P0 x0 x1 x2 x3 /\ P1 x0 x1 x2 x3) (k : ∀ x0 x1 x2 x3, P0 x0 x1 x2 x3 -> P1 x0 x1 x2 x3 -> G) : G := h.elim fun x0 h => h.elim fun x1 h => h.elim fun x2 h => h.elim fun x3 h => k x0 x1 x2 x3 h.1 h.2
theorem e4_4 {A0 A1 A2 A3 : Type} {P0 P1 P2 P3 : A0 -> A1 -> A2 -> A3 -> Prop} {G : Prop} (h : ∃ x0 x1 x2 x3, P0 x0 x1 x2 x3 /\ P1 x0 x1 x2 x3 /\ P2 x0 x1 x2 x3 /\ P3 x0 x1 x2 x3) (k : ∀ x0 x1 x2 x3, P0 x0 x1 x2 x3 -> P1 x0 x1 x2 x3 -> P2 x0 x1 x2 x3 -> P3 x0 x1 x2 x3 -> G) : G := h.elim fun x0 h => h.elim fun x1 h => h.elim fun x2 h => h.elim fun x3 h => k x0 x1 x2 x3 h.1 h.2.1 h.2.2.1 h.2.2.2
theorem e5_3 {A0 A1 A2 A3 A4 : Type} {P0 P1 P2 : A0 -> A1 -> A2 -> A3 -> A4 -> Prop} {G : Prop} (h : ∃ x0 x1 x2 x3 x4, P0 x0 x1 x2 x3 x4 /\ P1 x0 x1 x2 x3 x4 /\ P2 x0 x1 x2 x3 x4) (k : ∀ x0 x1 x2 x3 x4, P0 x0 x1 x2 x3 x4 -> P1 x0 x1 x2 x3 x4 -> P2 x0 x1 x2 x3 x4 -> G) : G := h.elim fun x0 h => h.elim fun x1 h => h.elim fun x2 h => h.elim fun x3 h => h.elim fun x4 h => k x0 x1 x2 x3 x4 h.1 h.2.1 h.2.2
theorem e5_5 {A0 A1 A2 A3 A4 : Type} {P0 P1 P2 P3 P4 : A0 -> A1 -> A2 -> A3 -> A4 -> Prop} {G : Prop} (h : ∃ x0 x1 x2 x3 x4, P0 x0 x1 x2 x3 x4 /\ P1 x0 x1 x2 x3 x4 /\ P2 x0 x1 x2 x3 x4 /\ P3 x0 x1 x2 x3 x4 /\ P4 x0 x1 x2 x3 x4) (k : ∀ x0 x1 x2 x3 x4, P0 x0 x1 x2 x3 x4 -> P1 x0 x1 x2 x3 x4 -> P2 x0 x1 x2 x3 x4 -> P3 x0 x1 x2 x3 x4 -> P4 x0 x1 x2 x3 x4 -> G) : G := h.elim fun x0 h => h.elim fun x1 h => h.elim fun x2 h => h.elim fun x3 h => h.elim fun x4 h => k x0 x1 x2 x3 x4 h.1 h.2.1 h.2.2.1 h.2.2.2.1 h.2.2.2.2
theorem e5_8 {A0 A1 A2 A3 A4 : Type} {P0 P1 P2 P3 P4 P5 P6 P7 : A0 -> A1 -> A2 -> A3 -> A4 -> Prop} {G : Prop} (h : ∃ x0 x1 x2 x3 x4, P0 x0 x1 x2 x3 x4 /\ P1 x0 x1 x2 x3 x4 /\ P2 x0 x1 x2 x3 x4 /\ P3 x0 x1 x2 x3 x4 /\ P4 x0 x1 x2 x3 x4 /\ P5 x0 x1 x2 x3 x4 /\ P6 x0 x1 x2 x3 x4 /\ P7 x0 x1 x2 x3 x4) (k : ∀ x0 x1 x2 x3 x4, P0 x0 x1 x2 x3 x4 -> P1 x0 x1 x2 x3 x4 -> P2 x0 x1 x2 x3 x4 -> P3 x0 x1 x2 x3 x4 -> P4 x0 x1 x2 x3 x4 -> P5 x0 x1 x2 x3 x4 -> P6 x0 x1 x2 x3 x4 -> P7 x0 x1 x2 x3 x4 -> G) : G := h.elim fun x0 h => h.elim fun x1 h => h.elim fun x2 h => h.elim fun x3 h => h.elim fun x4 h => k x0 x1 x2 x3 x4 h.1 h.2.1 h.2.2.1 h.2.2.2.1 h.2.2.2.2.1 h.2.2.2.2.2.1 h.2.2.2.2.2.2.1 h.2.2.2.2.2.2.2
theorem e5_9 {A0 A1 A2 A3 A4 : Type} {P0 P1 P2 P3 P4 P5 P6 P7 P8 : A0 -> A1 -> A2 -> A3 -> A4 -> Prop} {G : Prop} (h : ∃ x0 x1 x2 x3 x4, P0 x0 x1 x2 x3 x4 /\ P1 x0 x1 x2 x3 x4 /\ P2 x0 x1 x2 x3 x4 /\ P3 x0 x1 x2 x3 x4 /\ P4 x0 x1 x2 x3 x4 /\ P5 x0 x1 x2 x3 x4 /\ P6 x0 x1 x2 x3 x4 /\ P7 x0 x1 x2 x3 x4 /\ P8 x0 x1 x2 x3 x4) (k : ∀ x0 x1 x2 x3 x4, P0 x0 x1 x2 x3 x4 -> P1 x0 x1 x2 x3 x4 -> P2 x0 x1 x2 x3 x4 -> P3 x0 x1 x2 x3 x4 -> P4 x0 x1 x2 x3 x4 -> P5 x0 x1 x2 x3 x4 -> P6 x0 x1 x2 x3 x4 -> P7 x0 x1 x2 x3 x4 -> P8 x0 x1 x2 x3 x4 -> G) : G := h.elim fun x0 h => h.elim fun x1 h => h.elim fun x2 h => h.elim fun x3 h => h.elim fun x4 h => k x0 x1 x2 x3 x4 h.1 h.2.1 h.2.2.1 h.2.2.2.1 h.2.2.2.2.1 h.2.2.2.2.2.1 h.2.2.2.2.2.2.1 h.2.2.2.2.2.2.2.1 h.2.2.2.2.2.2.2.2
noncomputable abbrev tupOf (its : Array Value) (n : Nat) : Obj := { cls := .type "tuple", data := .seq its n }
noncomputable def clsA (K : Frag) (c : Str) : Option Addr := match nsIn K mainGlobals c with
 | some (some (.ref C)) => some C
 | _ => none
mutual
inductive DRep (K : Frag) (φ : List (List Addr)) (Z : List Addr) (h : Heap) : Value -> D -> Prop
 | none : DRep K φ Z h .none .none
 | bool (b : Bool) : DRep K φ Z h (.bool b) (.bool b)
 | int (i : Int) (t : Tok) : DRep K φ Z h (.int i t) (.int i)
 | str (x : Str) (t : Tok) : DRep K φ Z h (.str x t) (.str x)
 | bytes (b : List UInt8) (t : Tok) : b.length <= 16777216 -> DRep K φ Z h (.bytes b.toArray t) (.bytes b)
 | tup {a : Addr} {vs : List Value} {n : Nat} {ds : List D} : h.get? a = some (tupOf vs.toArray n) -> ds.length <= 16777216 -> a ∉ φ.flatten -> a ∉ Z -> DAll K φ Z h vs ds -> DRep K φ Z h (.ref a) (.tup ds)
 | lst {a : Addr} {vs : List Value} {n : Nat} {ds : List D} : h.get? a = some (listOf vs.toArray n) -> ds.length <= 16777216 -> a ∉ φ.flatten -> a ∉ Z -> DAll K φ Z h vs ds -> DRep K φ Z h (.ref a) (.lst ds)
 | inst {a dx C : Addr} {es : List DictEntry} {n : Nat} {c : Str} {fs : List (Str × D)} : clsA K c = some C -> h.get? a = some (instObj C dx) -> h.get? dx = some (dictOf es n) ->
   a ∉ φ.flatten -> a ∉ Z -> dx ∉ φ.flatten -> dx ∉ Z -> FAll K φ Z h es fs -> DRep K φ Z h (.ref a) (.inst c fs)
 | cell {i : Nat} {a : Addr} {r : List Addr} : φ[i]? = some (a :: r) -> DRep K φ Z h (.ref a) (.cell i)
 | rng {a : Addr} {n : Nat} {t u v : Tok} : IsRange h a 0 n 1 t u v -> a ∉ φ.flatten -> a ∉ Z -> DRep K φ Z h (.ref a) (.rng n)
inductive DAll (K : Frag) (φ : List (List Addr)) (Z : List Addr) (h : Heap) : List Value -> List D -> Prop
 | nil : DAll K φ Z h [] []
 | cons {v : Value} {vs : List Value} {d : D} {ds : List D} : DRep K φ Z h v d -> DAll K φ Z h vs ds -> DAll K φ Z h (v :: vs) (d :: ds)
inductive FAll (K : Frag) (φ : List (List Addr)) (Z : List Addr) (h : Heap) : List DictEntry -> List (Str × D) -> Prop
 | nil : FAll K φ Z h [] []
 | cons {e : DictEntry} {es : List DictEntry} {x : Str} {t : Tok} {d : D} {fs : List (Str × D)} : e.key = .str x t -> DRep K φ Z h e.val d -> FAll K φ Z h es fs -> FAll K φ Z h (e :: es) ((x, d) :: fs)
end
noncomputable def DInv (K : Frag) (φ : List (List Addr)) (Z : List Addr) (h : Heap) (v : Value) : D -> Prop
 | .none => v = .none
 | .bool b => v = .bool b
 | .int i => ∃ t, v = .int i t
 | .str x => ∃ t, v = .str x t
 | .bytes b => ∃ t, v = .bytes b.toArray t /\ b.length <= 16777216
 | .tup ds => ∃ a vs n, v = .ref a /\ h.get? a = some (tupOf vs.toArray n) /\ ds.length <= 16777216 /\ a ∉ φ.flatten /\ a ∉ Z /\ DAll K φ Z h vs ds
 | .lst ds => ∃ a vs n, v = .ref a /\ h.get? a = some (listOf vs.toArray n) /\ ds.length <= 16777216 /\ a ∉ φ.flatten /\ a ∉ Z /\ DAll K φ Z h vs ds
 | .inst c fs => ∃ a dx C es n, v = .ref a /\ clsA K c = some C /\ h.get? a = some (instObj C dx) /\ h.get? dx = some (dictOf es n) /\ a ∉ φ.flatten /\ a ∉ Z /\ dx ∉ φ.flatten /\ dx ∉ Z /\ FAll K φ Z h es fs
 | .cell i => ∃ a r, v = .ref a /\ φ[i]? = some (a :: r)
 | .rng n => ∃ a t u w, v = .ref a /\ IsRange h a 0 n 1 t u w /\ a ∉ φ.flatten /\ a ∉ Z
theorem DRep.inv {K : Frag} {φ : List (List Addr)} {Z : List Addr} {h : Heap} {v : Value} {d : D} (r : DRep K φ Z h v d) : DInv K φ Z h v d := by
 induction r using DRep.casesOn with
 | none => exact rfl
 | bool b => exact rfl
 | int i t => exact ⟨t, rfl⟩
 | str x t => exact ⟨t, rfl⟩
 | bytes b t z => exact ⟨t, rfl, z⟩
 | tup x z p q a => exact ⟨_, _, _, rfl, x, z, p, q, a⟩
 | lst x z p q a => exact ⟨_, _, _, rfl, x, z, p, q, a⟩
 | inst x1 x2 x3 x4 x5 x6 x7 x8 => exact ⟨_, _, _, _, _, rfl, x1, x2, x3, x4, x5, x6, x7, x8⟩
 | cell x => exact ⟨_, _, rfl, x⟩
 | rng x p q => exact ⟨_, _, _, _, rfl, x, p, q⟩
theorem DAll.inv0 {K : Frag} {φ : List (List Addr)} {Z : List Addr} {h : Heap} {vs : List Value} (r : DAll K φ Z h vs []) : vs = [] := by
 generalize e : ([] : List D) = l at r
 induction r using DAll.casesOn with
 | nil => rfl
 | cons _ _ => contradiction
theorem DAll.inv {K : Frag} {φ : List (List Addr)} {Z : List Addr} {h : Heap} {vs : List Value} {d : D} {ds : List D} (r : DAll K φ Z h vs (d :: ds)) : ∃ v ws, vs = v :: ws /\ DRep K φ Z h v d /\ DAll K φ Z h ws ds := by
 generalize e : d :: ds = l at r
 induction r using DAll.casesOn with
 | nil => contradiction
 | cons a b => exact ⟨_, _, rfl, (List.cons.inj e).1 ▸ a, (List.cons.inj e).2 ▸ b⟩
structure Keeps0 (φ : List (List Addr)) (Z : List Addr) (φ' : List (List Addr)) (Z' : List Addr) (h h' : Heap) : Prop where
 keep : ∀ a o, h.get? a = some o -> a ∉ φ.flatten -> a ∉ Z -> h'.get? a = some o /\ a ∉ φ'.flatten /\ a ∉ Z'
 cells : ∀ (i : Nat) (c : List Addr), φ[i]? = some c -> φ'[i]? = some c
section
variable {K : Frag} {φ φ' : List (List Addr)} {Z Z' : List Addr} {h h' : Heap}
theorem DRep.mono (k : Keeps0 φ Z φ' Z' h h') {v : Value} {d : D} (r : DRep K φ Z h v d) : DRep K φ' Z' h' v d :=
 DRep.rec (motive_1 := fun v d _ => DRep K φ' Z' h' v d) (motive_2 := fun vs ds _ => DAll K φ' Z' h' vs ds) (motive_3 := fun es fs _ => FAll K φ' Z' h' es fs)
  .none .bool .int .str .bytes (fun x sz a b _ r => let z := k.keep _ _ x a b; .tup z.1 sz z.2.1 z.2.2 r) (fun x sz a b _ r => let z := k.keep _ _ x a b; .lst z.1 sz z.2.1 z.2.2 r)
  (fun hc x y a b c d _ r => let z := k.keep _ _ x a b; let w := k.keep _ _ y c d; .inst hc z.1 w.1 z.2.1 z.2.2 w.2.1 w.2.2 r) (fun e => .cell (k.cells _ _ e)) (fun x a b => let z := k.keep _ _ x a b; .rng z.1 z.2.1 z.2.2)
  .nil (fun _ _ a r => .cons a r) .nil (fun e _ _ a r => .cons e a r) r
theorem DAll.ind {motive : ∀ (vs : List Value) (ds : List D), DAll K φ Z h vs ds -> Prop} (nil : motive [] [] .nil) (cons : ∀ {v : Value} {vs : List Value} {d : D} {ds : List D} (a : DRep K φ Z h v d) (r : DAll K φ Z h vs ds), motive vs ds r -> motive (v :: vs) (d :: ds) (.cons a r)) {vs : List Value} {ds : List D} (r : DAll K φ Z h vs ds) : motive vs ds r :=
 DAll.rec (motive_1 := fun _ _ _ => True) (motive_2 := motive) (motive_3 := fun _ _ _ => True) trivial (fun _ => trivial) (fun _ _ => trivial) (fun _ _ => trivial) (fun _ _ _ => trivial) (fun _ _ _ _ _ _ => trivial) (fun _ _ _ _ _ _ => trivial) (fun _ _ _ _ _ _ _ _ _ => trivial) (fun _ => trivial) (fun _ _ _ => trivial) nil (fun a r _ => cons a r) trivial (fun _ _ _ _ _ => trivial) r
theorem FAll.ind {motive : ∀ (es : List DictEntry) (fs : List (Str × D)), FAll K φ Z h es fs -> Prop} (nil : motive [] [] .nil) (cons : ∀ {e : DictEntry} {es : List DictEntry} {x : Str} {t : Tok} {d : D} {fs : List (Str × D)} (k : e.key = .str x t) (a : DRep K φ Z h e.val d) (r : FAll K φ Z h es fs), motive es fs r -> motive (e :: es) ((x, d) :: fs) (.cons k a r)) {es : List DictEntry} {fs : List (Str × D)} (r : FAll K φ Z h es fs) : motive es fs r :=
 FAll.rec (motive_1 := fun _ _ _ => True) (motive_2 := fun _ _ _ => True) (motive_3 := motive) trivial (fun _ => trivial) (fun _ _ => trivial) (fun _ _ => trivial) (fun _ _ _ => trivial) (fun _ _ _ _ _ _ => trivial) (fun _ _ _ _ _ _ => trivial) (fun _ _ _ _ _ _ _ _ _ => trivial) (fun _ => trivial) (fun _ _ _ => trivial) trivial (fun _ _ _ _ => trivial) nil (fun k a r _ => cons k a r) r
theorem DAll.mono (k : Keeps0 φ Z φ' Z' h h') {vs : List Value} {ds : List D} (r : DAll K φ Z h vs ds) : DAll K φ' Z' h' vs ds := by
 induction r using DAll.ind with
 | nil => exact .nil
 | cons a r ih => exact .cons (a.mono k) ih
theorem FAll.mono (k : Keeps0 φ Z φ' Z' h h') {es : List DictEntry} {fs : List (Str × D)} (r : FAll K φ Z h es fs) : FAll K φ' Z' h' es fs := by
 induction r using FAll.ind with
 | nil => exact .nil
 | cons e a r ih => exact .cons e (a.mono k) ih
end
section
variable {K : Frag} {φ : List (List Addr)} {Z : List Addr} {h : Heap} {v : Value} {d : D} {vs ws : List Value} {ds es : List D}
theorem DRep.handed (x : DRep K φ Z h v d) : handedIn v = true := by induction x using DRep.casesOn <;> rfl
theorem DAll.length (x : DAll K φ Z h vs ds) : vs.length = ds.length := by
 induction x using DAll.ind with
 | nil => rfl
 | cons _ r ih => exact congrArg Nat.succ ih
theorem DAll.append (x : DAll K φ Z h vs ds) (y : DAll K φ Z h ws es) : DAll K φ Z h (vs ++ ws) (ds ++ es) := by
 induction x using DAll.ind with
 | nil => exact y
 | cons a r ih => exact .cons a ih
theorem DAll.one (x : DRep K φ Z h v d) : DAll K φ Z h [v] [d] := .cons x .nil
theorem DAll.get (x : DAll K φ Z h vs ds) {k : Nat} {d : D} (hk : ds[k]? = some d) : ∃ v, vs[k]? = some v /\ DRep K φ Z h v d := by
 induction x using DAll.ind generalizing k with
 | nil => exact none_some hk
 | cons a r ih =>
  induction k using Nat.casesAuxOn with
  | zero => exact ⟨_, rfl, Option.some.inj hk ▸ a⟩
  | succ k => exact ih hk
theorem DAll.getV (x : DAll K φ Z h vs ds) {k : Nat} {v : Value} (hk : vs[k]? = some v) : ∃ d, ds[k]? = some d /\ DRep K φ Z h v d := by
 induction x using DAll.ind generalizing k with
 | nil => exact none_some hk
 | cons a r ih =>
  induction k using Nat.casesAuxOn with
  | zero => exact ⟨_, rfl, Option.some.inj hk ▸ a⟩
  | succ k => exact ih hk
theorem DAll.drop (x : DAll K φ Z h vs ds) (n : Nat) : DAll K φ Z h (vs.drop n) (ds.drop n) := by
 induction x using DAll.ind generalizing n with
 | nil => rw [List.drop_nil, List.drop_nil]; exact .nil
 | cons a r ih =>
  induction n using Nat.casesAuxOn with
  | zero => exact .cons a r
  | succ n => exact ih n
theorem DAll.take (x : DAll K φ Z h vs ds) (n : Nat) : DAll K φ Z h (vs.take n) (ds.take n) := by
 induction x using DAll.ind generalizing n with
 | nil => rw [List.take_nil, List.take_nil]; exact .nil
 | cons a r ih =>
  induction n using Nat.casesAuxOn with
  | zero => exact .nil
  | succ n => exact .cons a (ih n)
theorem DAll.set (x : DAll K φ Z h vs ds) (y : DRep K φ Z h v d) (n : Nat) : DAll K φ Z h (vs.set n v) (ds.set n d) := by
 induction x using DAll.ind generalizing n with
 | nil => exact .nil
 | cons a r ih =>
  induction n using Nat.casesAuxOn with
  | zero => exact .cons y r
  | succ n => exact .cons a (ih n)
theorem DAll.rep (x : DAll K φ Z h vs ds) (n : Nat) : DAll K φ Z h (List.replicate n vs).flatten (List.replicate n ds).flatten := by
 induction n with
 | zero => exact .nil
 | succ n ih => exact x.append ih
end
inductive CellAt (K : Frag) (φ : List (List Addr)) (Z : List Addr) (h : Heap) : List Addr -> Cell -> Prop
 | lst {a : Addr} {vs : List Value} {n : Nat} {ds : List D} : h.get? a = some (listOf vs.toArray n) -> ds.length <= 16777216 -> DAll K φ Z h vs ds -> plain.plains ds = true -> CellAt K φ Z h [a] (.lst ds)
 | inst {a dx C : Addr} {es : List DictEntry} {n : Nat} {c : Str} {fs : List (Str × D)} : clsA K c = some C -> h.get? a = some (instObj C dx) -> h.get? dx = some (dictOf es n) -> FAll K φ Z h es fs -> plain.plainFs fs = true ->
   CellAt K φ Z h [a, dx] (.inst c fs)
 | dead {l : List Addr} : CellAt K φ Z h l .dead
structure MemAt (K : Frag) (H0 : Heap) (φ : List (List Addr)) (Z : List Addr) (m : Mem) (h : Heap) : Prop where
 len : φ.length = m.length
 cell : ∀ (i : Nat) (c : Cell), m[i]? = some c -> ∃ l, φ[i]? = some l /\ CellAt K φ Z h l c
 nd : φ.flatten.Nodup
 apart : ∀ a ∈ φ.flatten, a ∉ Z /\ H0.get? a = none /\ ∃ o, h.get? a = some o
noncomputable def firmObj (o : Obj) : Bool := match o.data with
 | .seq .. => true
 | .fields .. => true
 | _ => false
structure NsKeep (h h' : Heap) (a : Addr) : Prop where
 ns : ∀ m, h.Ns a m -> h'.Ns a m
 cl : ∀ v, h.IsCell a v -> h'.IsCell a v
 live : (∃ o, h.get? a = some o) -> ∃ o, h'.get? a = some o
 firm : ∀ o, h.get? a = some o -> firmObj o = true -> h'.get? a = some o
theorem NsKeep.refl (h : Heap) (a : Addr) : NsKeep h h a := ⟨fun _ x => x, fun _ x => x, fun x => x, fun _ e _ => e⟩
theorem NsKeep.trans {h h' h'' : Heap} {a : Addr} (x : NsKeep h h' a) (y : NsKeep h' h'' a) : NsKeep h h'' a := ⟨fun m q => y.1 m (x.1 m q), fun v q => y.2 v (x.2 v q), fun q => y.3 (x.3 q), fun o q f => y.4 o (x.4 o q f) f⟩
theorem NsKeep.slots {h h' : Heap} {a : Addr} (k : ∀ o, h.get? a = some o -> ∃ sl, h'.get? a = some { o with slots := sl } /\ (firmObj o = true -> sl = o.slots)) : NsKeep h h' a := by
 refine ⟨fun m hn => ?_, fun v hn => ?_, fun ⟨o, ho⟩ => let ⟨sl, q, _⟩ := k o ho; ⟨_, q⟩, fun o ho f => ?_⟩
 ·refine e3_3 hn fun o es ep ho hd r => ?_
  refine e1_2 (k o ho) fun sl q _ => ?_
  exact ⟨_, es, ep, q, hd, r⟩
 ·refine e1_2 hn fun o ho hd => ?_
  refine e1_2 (k o ho) fun sl q _ => ?_
  exact ⟨_, q, hd⟩
 ·refine e1_2 (k o ho) fun sl q z => ?_
  rw [z f] at q; exact q
theorem NsKeep.same {h h' : Heap} {a : Addr} (k : ∀ o, h.get? a = some o -> h'.get? a = some o) : NsKeep h h' a := NsKeep.slots fun o e => ⟨o.slots, k o e, fun _ => rfl⟩
structure Step (φ : List (List Addr)) (Z : List Addr) (s : Shared) (φ' : List (List Addr)) (s' : Shared) : Prop where
 same : ∃ h tk, s' = { s with heap := h, toks := tk }
 pre : φ <+: φ'
 new : ∀ a, a ∈ φ'.flatten -> a ∉ φ.flatten -> a ∉ Z /\ s.heap.get? a = none
 keep : ∀ a o, s.heap.get? a = some o -> a ∉ φ.flatten -> a ∉ Z -> s'.heap.get? a = some o
 zs : ∀ a ∈ Z, NsKeep s.heap s'.heap a
theorem flatten_prefix {φ φ' : List (List Addr)} (p : φ <+: φ') {a : Addr} (h : a ∈ φ.flatten) : a ∈ φ'.flatten := by
 obtain ⟨r, rfl⟩ := p
 rw [List.flatten_append]
 exact List.mem_append_left _ h
theorem prefix_get {φ φ' : List (List Addr)} (p : φ <+: φ') {i : Nat} {c : List Addr} (h : φ[i]? = some c) : φ'[i]? = some c := by
 obtain ⟨r, rfl⟩ := p
 rw [List.getElem?_append_left (List.getElem?_eq_some_iff.mp h).1]; exact h
theorem live_ne {h : Heap} {a : Addr} {o : Obj} (e : h.get? a = some o) (n : h.get? a = none) : False := by rw [e] at n; contradiction
section
variable {K : Frag} {φ φ' φ'' : List (List Addr)} {Z Z' : List Addr} {s s' s'' : Shared}
theorem Step.refl (φ : List (List Addr)) (Z : List Addr) (s : Shared) : Step φ Z s φ s :=
 ⟨⟨_, _, rfl⟩, List.prefix_refl _, fun a h n => absurd h n, fun _ _ e _ _ => e, fun a _ => NsKeep.refl _ a⟩
theorem Step.grow (φ : List (List Addr)) (Z : List Addr) {h : Heap} {tk : Nat} (k : ∀ a o, s.heap.get? a = some o -> h.get? a = some o) : Step φ Z s φ { s with heap := h, toks := tk } :=
 ⟨⟨_, _, rfl⟩, List.prefix_refl _, fun a h n => absurd h n, fun a o e _ _ => k a o e, fun a _ => NsKeep.same (k a)⟩
theorem Step.tok {tk : Nat} (φ : List (List Addr)) (Z : List Addr) (s : Shared) : Step φ Z s φ { s with toks := tk } := Step.grow (s := s) φ Z fun _ _ e => e
theorem Step.push (φ : List (List Addr)) (Z : List Addr) (s : Shared) (o : Obj) (tk : Nat) : Step φ Z s φ { s with heap := s.heap.push o, toks := tk } := Step.grow φ Z fun _ _ e => Heap.get?_push_of_some _ e
theorem Step.trans (x : Step φ Z s φ' s') (y : Step φ' Z s' φ'' s'') : Step φ Z s φ'' s'' := by
 refine e2_1 x.same fun h1 t1 ee1 => ?_; subst ee1
 refine e2_1 y.same fun h2 t2 ee1 => ?_; subst ee1
 refine ⟨⟨_, _, rfl⟩, x.pre.trans y.pre, fun a ha hn => ?_, fun a o e n1 n2 => ?_, fun a hz => (x.zs a hz).trans (y.zs a hz)⟩
 ·by_cases q : a ∈ φ'.flatten
  ·exact x.new a q hn
  ·have z := y.new a ha q
   refine ⟨z.1, ?_⟩
   cases w : s.heap.get? a with
   | none => rfl
   | some o => exact (live_ne (x.keep a o w hn z.1) z.2).elim
 ·have e1 := x.keep a o e n1 n2
  refine y.keep a o e1 (fun q => ?_) n2
  exact live_ne e (x.new a q n1).2
theorem Step.keeps0 (x : Step φ Z s φ' s') : Keeps0 φ Z φ' Z s.heap s'.heap :=
 ⟨fun a o e n1 n2 => ⟨x.keep a o e n1 n2, fun q => live_ne e (x.new a q n1).2, n2⟩, fun _ _ e => prefix_get x.pre e⟩
theorem DRep.step {v : Value} {d : D} (r : DRep K φ Z s.heap v d) (x : Step φ Z s φ' s') : DRep K φ' Z s'.heap v d := r.mono x.keeps0
theorem DAll.step {vs : List Value} {ds : List D} (r : DAll K φ Z s.heap vs ds) (x : Step φ Z s φ' s') : DAll K φ' Z s'.heap vs ds := r.mono x.keeps0
theorem Step.less (x : Step φ Z s φ' s') : Step φ Z s φ s' :=
 ⟨x.same, List.prefix_refl _, fun a h n => absurd h n, x.keep, x.zs⟩
theorem CellAt.mono (k : Keeps0 φ Z φ' Z' s.heap s'.heap) {l : List Addr} {c : Cell} (x : CellAt K φ Z s.heap l c) (q : ∀ a o, a ∈ l -> s.heap.get? a = some o -> s'.heap.get? a = some o) : CellAt K φ' Z' s'.heap l c := by
 induction x with
 | lst e z r p => exact .lst (q _ _ (.head _) e) z (r.mono k) p
 | inst hc e e2 r p => exact .inst hc (q _ _ (.head _) e) (q _ _ (.tail _ (.head _)) e2) (r.mono k) p
 | dead => exact .dead
theorem MemAt.grow {H0 : Heap} {m : Mem} (x : MemAt K H0 φ Z m s.heap) (k : ∀ a o, s.heap.get? a = some o -> s'.heap.get? a = some o) : MemAt K H0 φ Z m s'.heap := by
 refine ⟨x.len, fun i c e => ?_, x.nd, fun a ha => ⟨(x.apart a ha).1, (x.apart a ha).2.1, let ⟨o, ho⟩ := (x.apart a ha).2.2; ⟨o, k a o ho⟩⟩⟩
 refine e1_2 (x.cell i c e) fun l hl r => ?_
 exact ⟨l, hl, r.mono ⟨fun a o e n1 n2 => ⟨k a o e, n1, n2⟩, fun _ _ e => e⟩ fun a o _ e => k a o e⟩
end
structure XStep (φ : List (List Addr)) (Z own : List Addr) (s : Shared) (φ' : List (List Addr)) (s' : Shared) : Prop where
 same : ∃ h tk, s' = { s with heap := h, toks := tk }
 pre : φ <+: φ'
 new : ∀ a, a ∈ φ'.flatten -> a ∉ φ.flatten -> a ∉ Z /\ s.heap.get? a = none
 keep : ∀ a o, s.heap.get? a = some o -> a ∉ φ.flatten -> a ∉ Z -> s'.heap.get? a = some o
 zs : ∀ a ∈ Z, a ∉ own -> NsKeep s.heap s'.heap a
structure Fly (φ : List (List Addr)) (Z own : List Addr) (s : Shared) (φ' : List (List Addr)) (B : Heap) (s' : Shared) : Prop where
 same : ∃ h tk, s' = { s with heap := h, toks := tk }
 pre : φ <+: φ'
 new : ∀ a, a ∈ φ'.flatten -> a ∉ φ.flatten -> a ∉ Z /\ s.heap.get? a = none
 keep : ∀ a o, s.heap.get? a = some o -> a ∉ φ.flatten -> a ∉ Z -> B.get? a = some o
 zs : ∀ a ∈ Z, a ∉ own -> NsKeep s.heap s'.heap a
theorem Step.x {φ φ' : List (List Addr)} {Z own : List Addr} {s s' : Shared} (x : Step φ Z s φ' s') : XStep φ Z own s φ' s' := ⟨x.same, x.pre, x.new, x.keep, fun a ha _ => x.zs a ha⟩
theorem XStep.fly {φ φ' φ'' : List (List Addr)} {Z Z' own own' : List Addr} {s s₁ s' : Shared} {B : Heap} (x : XStep φ Z own s φ' s₁) (y : Fly φ' Z' own' s₁ φ'' B s') (h1 : ∀ a ∈ Z', a ∈ Z \/ s.heap.get? a = none) (h2 : ∀ a ∈ Z, a ∈ Z') (h3 : ∀ a ∈ own', a ∈ Z -> a ∈ own) : Fly φ Z own s φ'' B s' where
 same := let ⟨_, _, e1⟩ := x.same; let ⟨_, _, e2⟩ := y.same; ⟨_, _, by rw [e2, e1]⟩
 pre := x.pre.trans y.pre
 new := fun a ha hn => by
  by_cases w : a ∈ φ'.flatten
  ·exact x.new a w hn
  ·have z := y.new a ha w
   refine ⟨fun q => z.1 (h2 a q), ?_⟩
   cases w : s.heap.get? a with
   | none => rfl
   | some o => exact (live_ne (x.keep a o w hn fun q => z.1 (h2 a q)) z.2).elim
 keep := fun a o e n1 n2 => y.keep a o (x.keep a o e n1 n2) (fun w => live_ne e (x.new a w n1).2) fun q => (h1 a q).elim n2 (live_ne e)
 zs := fun a hz ho => (x.zs a hz ho).trans (y.zs a (h2 a hz) fun q => ho (h3 a q hz))
structure Cst where
 prog : Program
 w : World
 K : Frag
 H0 : Heap
 p : Program
 loose : List Str
 mg : Str -> Option Value
 mb : Str -> Option Value
 X0 : K.In H0
 T0 : TopRead p loose mg mb H0
noncomputable def FrOk (Z : List Addr) (h : Heap) (e : Env) : Prop := e.scope.kind = .function /\ ∃ L m, e.frame = some L /\ L ∈ Z /\ h.Ns L m
theorem none_of_size {h : Heap} {a : Addr} (e : h.objs.size <= a) : h.get? a = none := by
 cases q : h.get? a with
 | none => rfl
 | some o => exact absurd (Heap.lt_size q) (Nat.not_lt.mpr e)
structure Inv (C : Cst) (A : Around) (fr : List Env) (φ : List (List Addr)) (Z : List Addr) (m : Mem) (s : Shared) : Prop where
 h0 : ∀ a o, C.H0.get? a = some o -> s.heap.get? a = some o
 z0 : ∀ a ∈ Z, C.H0.objs.size <= a /\ ∃ o, s.heap.get? a = some o
 mem : MemAt C.K C.H0 φ Z m s.heap
 frs : ∀ e ∈ fr, FrOk Z s.heap e
 frames : A.frames = some fr
 hand : A.handled = none
section
variable {C : Cst} {A : Around} {fr : List Env} {φ φ' : List (List Addr)} {Z : List Addr} {m m' : Mem} {s s' : Shared}
theorem FrOk.step {e : Env} (x : FrOk Z s.heap e) (y : Step φ Z s φ' s') : FrOk Z s'.heap e := by
 obtain ⟨hk, L, mm, hf, hz, hn⟩ := x
 exact ⟨hk, L, mm, hf, hz, (y.zs L hz).1 mm hn⟩
theorem Inv.step (x : Inv C A fr φ Z m s) (y : Step φ Z s φ' s') (q : MemAt C.K C.H0 φ' Z m' s'.heap) : Inv C A fr φ' Z m' s' := by
 refine ⟨fun a o e => y.keep a o (x.h0 a o e) (fun n => ?_) (fun n => ?_), fun a ha => ⟨(x.z0 a ha).1, (y.zs a ha).live (x.z0 a ha).2⟩, q, fun e he => (x.frs e he).step y, x.frames, x.hand⟩
 ·have := (x.mem.apart a n).2.1; rw [e] at this; contradiction
 ·have := none_of_size (x.z0 a n).1; rw [e] at this; contradiction
theorem Inv.K (x : Inv C A fr φ Z m s) : C.K.In s.heap := C.X0.keeps x.h0
theorem Inv.g (x : Inv C A fr φ Z m s) : s.heap.Ns mainGlobals C.mg := C.T0.g.keeps x.h0
theorem Inv.b (x : Inv C A fr φ Z m s) : s.heap.Ns builtinsNs C.mb := C.T0.b.keeps x.h0
theorem Inv.lim (x : Inv C A fr φ Z m s) : s.heap.NoLimit := C.T0.nolimit.keeps x.h0
end
noncomputable abbrev Zb (Z own : List Addr) (fr : List Env) (B h : Heap) : Prop := ∀ a ∈ Z, a ∉ own -> (∃ f ∈ fr, f.frame = some a /\ ∃ m, h.Ns a m) \/ ∃ o, B.get? a = some o
noncomputable def Lit (h B : Heap) (ea cf : Addr) (fr : List Env) : Prop :=
 (∃ a0 fl, (fl = .none \/ ∃ f r L, fr = f :: r /\ f.frame = some L /\ fl = rawInt L) /\ h.TracedAtW B ea (.ref cf) a0 fl) \/
 (∃ oe vs a0, h.get? ea = some oe /\ oe.cls = .ref cf /\ oe.data = .fields vs /\ vs[1]? = some Value.none /\ vs[0]? = some a0)
structure Thrown (C : Cst) (fr : List Env) (B : Heap) (ea cf : Addr) (h : Heap) : Prop where
 cls : clsA C.K "FontFault" = some cf
 stays : B.StaysIn h
 gone : B.get? ea = none
 frs : h.FunFrames B fr
inductive FlewX (C : Cst) (fr : List Env) (φ : List (List Addr)) (Z own : List Addr) (m' : Mem) (s : Shared) (e : Value) (s' : Shared) : Prop
 | mk (ea : Addr) (φ' : List (List Addr)) (B : Heap) (cf : Addr) : e = .ref ea -> Fly φ Z own s φ' B s' -> MemAt C.K C.H0 φ' Z m' B -> Thrown C fr B ea cf s'.heap -> Lit s'.heap B ea cf fr -> Zb Z own fr B s'.heap -> FlewX C fr φ Z own m' s e s'
noncomputable abbrev Flew (C : Cst) (fr : List Env) (φ : List (List Addr)) (Z : List Addr) (m' : Mem) (s : Shared) (e : Value) (s' : Shared) : Prop := FlewX C fr φ Z [] m' s e s'
theorem FlewX.trans {C : Cst} {fr : List Env} {φ φ' : List (List Addr)} {Z own : List Addr} {m' : Mem} {s s₁ s' : Shared} {e : Value} (x : XStep φ Z own s φ' s₁) (y : FlewX C fr φ' Z own m' s₁ e s') : FlewX C fr φ Z own m' s e s' :=
 let ⟨ea, φ₂, B, cf, e, f, q, t, l, z⟩ := y
 ⟨ea, φ₂, B, cf, e, x.fly f (fun _ h => .inl h) (fun _ h => h) (fun _ h _ => h), q, t, l, z⟩
theorem FlewX.mono {C : Cst} {fr : List Env} {φ : List (List Addr)} {Z own own' : List Addr} {m' : Mem} {s s' : Shared} {e : Value} (y : FlewX C fr φ Z own m' s e s') (h : ∀ a ∈ own, a ∈ own') : FlewX C fr φ Z own' m' s e s' :=
 let ⟨ea, φ₂, B, cf, e, f, q, t, l, z⟩ := y
 ⟨ea, φ₂, B, cf, e, ⟨f.same, f.pre, f.new, f.keep, fun a ha ho => f.zs a ha fun q => ho (h a q)⟩, q, t, l, fun a ha ho => z a ha fun q => ho (h a q)⟩
noncomputable def Post {α β : Type} (C : Cst) (R : List (List Addr) -> Heap -> β -> α -> Prop) (fr : List Env) (φ : List (List Addr)) (Z : List Addr) (s : Shared) (r : Res α) (Q : β -> Shared -> Prop) (E : Value -> Shared -> Prop) : Prop := match r with
 | .ok a m' => ∀ b φ' s', Step φ Z s φ' s' -> MemAt C.K C.H0 φ' Z m' s'.heap -> R φ' s'.heap b a -> Q b s'
 | .exc m' => ∀ e s', Flew C fr φ Z m' s e s' -> E e s'
 | .stuck => False
section
variable {α α' β β' : Type} {C : Cst} {R : List (List Addr) -> Heap -> β -> α -> Prop} {R' : List (List Addr) -> Heap -> β' -> α' -> Prop} {fr : List Env} {φ : List (List Addr)} {Z : List Addr} {s : Shared} {Q : β -> Shared -> Prop} {Q' : β' -> Shared -> Prop} {E : Value -> Shared -> Prop}
inductive Then (C : Cst) (R : List (List Addr) -> Heap -> β -> α -> Prop) (R' : List (List Addr) -> Heap -> β' -> α' -> Prop) (fr : List Env) (φ : List (List Addr)) (Z : List Addr) (s : Shared) (f : α -> M α') (Q' : β' -> Shared -> Prop) (E : Value -> Shared -> Prop) (b : β) (s₁ : Shared) : Prop
 | mk (a : α) (m₁ : Mem) (φ₁ : List (List Addr)) : Step φ Z s φ₁ s₁ -> MemAt C.K C.H0 φ₁ Z m₁ s₁.heap -> R φ₁ s₁.heap b a -> Post C R' fr φ₁ Z s₁ (f a m₁) Q' E -> Then C R R' fr φ Z s f Q' E b s₁
theorem Post.step {φ₁ : List (List Addr)} {s₁ : Shared} {r : Res α} (h : Post C R fr φ Z s r Q E) (x : Step φ Z s φ₁ s₁) : Post C R fr φ₁ Z s₁ r Q E := by
 induction r with
 | ok a m' => exact fun b φ' s' y q r => h b φ' s' (x.trans y) q r
 | exc m' => exact fun e s' y => h e s' (FlewX.trans x.x y)
 | stuck => exact h
theorem Post.bind {x : M α} {f : α -> M α'} {m : Mem} (h : Post C R' fr φ Z s (Mine.bind x f m) Q' E) : Post C R fr φ Z s (x m) (Then C R R' fr φ Z s f Q' E) E := by
 unfold Mine.bind at h
 cases hx : x m with
 | ok a m' =>
  rw [hx] at h
  exact fun b φ' s' y q r => ⟨a, m', φ', y, q, r, Post.step h y⟩
 | exc m' => rw [hx] at h; exact h
 | stuck => rw [hx] at h; exact h
theorem Post.lift {o : Option α} {m : Mem} (h : Post C R fr φ Z s (Mine.lift o m) Q E) : ∃ a, o = some a /\ Post C R fr φ Z s (.ok a m) Q E := by
 induction o with
 | none => exact h.elim
 | some a => exact ⟨a, rfl, h⟩
theorem Post.look {f : Mem -> Option α} {m : Mem} (h : Post C R fr φ Z s (Mine.look f m) Q E) : ∃ a, f m = some a /\ Post C R fr φ Z s (.ok a m) Q E := by
 unfold Mine.look at h
 cases e : f m with
 | none => rw [e] at h; exact h.elim
 | some a => rw [e] at h; exact ⟨a, rfl, h⟩
theorem Post.look_bind {f : Mem -> Option α'} {g : α' -> M α} {m : Mem} (h : Post C R fr φ Z s (Mine.bind (Mine.look f) g m) Q E) : ∃ a, f m = some a /\ Post C R fr φ Z s (g a m) Q E := by
 unfold Mine.bind Mine.look at h
 cases e : f m with
 | none => rw [e] at h; exact h.elim
 | some a => rw [e] at h; exact ⟨a, rfl, h⟩
theorem Post.lift_bind {o : Option α'} {g : α' -> M α} {m : Mem} (h : Post C R fr φ Z s (Mine.bind (Mine.lift o) g m) Q E) : ∃ a, o = some a /\ Post C R fr φ Z s (g a m) Q E := by
 cases o with
 | none => exact h.elim
 | some a => exact ⟨a, rfl, h⟩
theorem Post.at {a : α} {m : Mem} {φ' : List (List Addr)} {s' : Shared} (h : Post C R fr φ Z s (.ok a m) Q E) {b : β} (x : Step φ Z s φ' s') (q : MemAt C.K C.H0 φ' Z m s'.heap) (r : R φ' s'.heap b a) : Q b s' := h b φ' s' x q r
end
noncomputable abbrev RV (C : Cst) (Z : List Addr) : List (List Addr) -> Heap -> Value -> D -> Prop := fun φ h v d => DRep C.K φ Z h v d
noncomputable abbrev RL (C : Cst) (Z : List Addr) : List (List Addr) -> Heap -> List Value -> List D -> Prop := fun φ h v d => DAll C.K φ Z h v d
noncomputable abbrev RB : List (List Addr) -> Heap -> Bool -> Bool -> Prop := fun _ _ b c => b = c
structure EnvOk (E : Env) (sc : Scope) : Prop where
 kind : E.scope.kind = .function
 names : ∀ x, E.kindOf x = kindOf sc x \/ (kindOf sc x = some .free /\ E.kindOf x = some .cell)
 glob : E.globals = mainGlobals
 bltn : E.builtins = builtinsNs
 cells : ∀ x, kindOf sc x = some .cell \/ kindOf sc x = some .free -> ∃ c, E.cells.lookup x = some c
 inj : ∀ x y c, E.cells.lookup x = some c -> E.cells.lookup y = some c -> x = y
 dbg : ∀ p ∈ sc.names, (p.1 == ("__debug__" : Str)) = false /\ (p.1 == ("__classdict__" : Str)) = false
structure VarsAt (K : Frag) (φ : List (List Addr)) (Z : List Addr) (h : Heap) (E : Env) (sc : Scope) (vars : Vars) : Prop where
 ns : ∃ m, h.Ns E.locals m /\ ∀ x d, vars.lookup x = some d -> kindOf sc x = some .local -> ∃ v, m x = some v /\ DRep K φ Z h v d
 cl : ∀ x d, vars.lookup x = some d -> kindOf sc x = some .cell \/ kindOf sc x = some .free -> ∃ c v, E.cells.lookup x = some c /\ h.IsCell c (some v) /\ DRep K φ Z h v d
 ce : ∀ x, kindOf sc x = some .cell -> ∃ c v, E.cells.lookup x = some c /\ h.IsCell c v
 zl : E.locals ∈ Z
 zc : ∀ p ∈ E.cells, p.2 ∈ Z
theorem mem_of_lookup {β : Type} {l : List (Str × β)} {x : Str} {b : β} (h : l.lookup x = some b) : (x, b) ∈ l := by
 induction l with
 | nil => exact none_some h
 | cons p r ih =>
  rw [List.lookup_cons] at h
  generalize q : (x == p.1) = c at h
  induction c with
  | true => rw [show (x, b) = p from Prod.ext (eq_of_beq q) (Option.some.inj h).symm]; exact .head _
  | false => exact .tail _ (ih h)
section
variable {C : Cst} {K : Frag} {φ φ' : List (List Addr)} {Z : List Addr} {s s' : Shared} {E : Env} {sc : Scope} {vars : Vars}
theorem VarsAt.step (x : VarsAt K φ Z s.heap E sc vars) (y : Step φ Z s φ' s') : VarsAt K φ' Z s'.heap E sc vars := by
 obtain ⟨⟨m, hn, hv⟩, hc, ce, zl, zc⟩ := x
 refine ⟨⟨m, (y.zs _ zl).ns m hn, fun x d e k => ?_⟩, fun x d e k => ?_, fun x k => ?_, zl, zc⟩
 ·refine e1_2 (hv x d e k) fun v h1 h2 => ?_
  exact ⟨v, h1, h2.step y⟩
 ·refine e2_3 (hc x d e k) fun c v h1 h2 h3 => ?_
  exact ⟨c, v, h1, (y.zs _ (zc _ (mem_of_lookup h1))).cl _ h2, h3.step y⟩
 ·refine e2_2 (ce x k) fun c v h1 h2 => ?_
  exact ⟨c, v, h1, (y.zs _ (zc _ (mem_of_lookup h1))).cl _ h2⟩
theorem EnvOk.dbg_of (x : EnvOk E sc) {n : Str} {k : NameKind} (e : kindOf sc n = some k) : (n == ("__debug__" : Str)) = false /\ (n == ("__classdict__" : Str)) = false := x.dbg _ (mem_of_lookup e)
end
section
variable {C : Cst} {A : Around} {fr : List Env} {φ : List (List Addr)} {Z : List Addr} {m : Mem} {s : Shared} {E : Env} {sc : Scope} {vars : Vars} {Q : Value -> Shared -> Prop} {X : Value -> Shared -> Prop} {T : Tabs} {n : Nat}
theorem snd_var {x : Str} {pos : Pos} {d : D} (I : Inv C A fr φ Z m s) (ok : EnvOk E sc) (V : VarsAt C.K φ Z s.heap E sc vars) (hv : vars.lookup x = some d)
  (hk : kindOf sc x = some .local \/ kindOf sc x = some .cell \/ kindOf sc x = some .free) (h : Post C (RV C Z) fr φ Z s (.ok d m) Q X) : wpAny (model C.prog C.w) A (eval (.Name x pos) E) Q X s := by
 have fin : ∀ v, DRep C.K φ Z s.heap v d -> Q v s := fun v r => h.at (Step.refl ..) I.mem r
 have hd : ∃ k, kindOf sc x = some k := by rcases hk with e | e | e <;> exact ⟨_, e⟩
 refine e1_1 hd fun k hk' => ?_
 have dbg := ok.dbg_of hk'
 refine wpAny_Name ?_ dbg.1
 have cellcase : (kindOf sc x = some .cell \/ kindOf sc x = some .free) -> wpAny (model C.prog C.w) A (loadName E x) Q X s := fun e => by
  refine e2_3 (V.cl x d hv e) fun c v h1 h2 h3 => ?_
  have hh : E.kindOf x = some .cell \/ E.kindOf x = some .free := by
   rcases ok.names x with q | q
   ·rw [q]; exact e
   ·exact .inl q.2
  rcases hh with q | q
  ·exact wpAny_loadName_cell ok.kind q h1 h2 (fin v h3)
  ·exact wpAny_loadName_free ok.kind q h1 h2 (fin v h3) dbg.2
 rcases hk with e | e
 ·refine e1_2 V.ns fun mm hn hm => ?_
  refine e1_2 (hm x d hv e) fun v h1 h2 => ?_
  have q : E.kindOf x = some .local := by
   rcases ok.names x with q | q
   ·rw [q]; exact e
   ·rw [e] at q; cases q.1
  exact wpAny_loadName_local ok.kind q hn h1 (fin v h2)
 ·exact cellcase e
theorem snd_global {x : Str} {pos : Pos} {v : Value} (I : Inv C A fr φ Z m s) (ok : EnvOk E sc) (hk : kindOf sc x = some .globalImplicit) (hg : C.mg x = some v) (h : Q v s) : wpAny (model C.prog C.w) A (eval (.Name x pos) E) Q X s := by
 have dbg := ok.dbg_of hk
 have q : E.kindOf x = some .globalImplicit := by
  rcases ok.names x with q | q
  ·rw [q]; exact hk
  ·rw [hk] at q; cases q.1
 exact Name_function_global ok.kind q (loadGlobal_global (by rw [ok.glob]; exact I.g) hg h) dbg.1
theorem snd_builtin {x : Str} {pos : Pos} {v : Value} (I : Inv C A fr φ Z m s) (ok : EnvOk E sc) (hk : kindOf sc x = some .globalImplicit) (hg : C.mg x = none) (hb : C.mb x = some v) (h : Q v s) : wpAny (model C.prog C.w) A (eval (.Name x pos) E) Q X s := by
 have dbg := ok.dbg_of hk
 have q : E.kindOf x = some .globalImplicit := by
  rcases ok.names x with q | q
  ·rw [q]; exact hk
  ·rw [hk] at q; cases q.1
 exact Name_function_global ok.kind q (loadGlobal_builtin (by rw [ok.glob]; exact I.g) hg (by rw [ok.bltn]; exact I.b) hb h) dbg.1
end
noncomputable def restOf (H0 h : Heap) (L : Addr) : List (Addr × Obj) := (List.range h.objs.size).filterMap fun (a : Nat) => if a = L then none else if (H0.get? a).isSome then none else (h.get? a).map fun o => (a, o)
theorem rest_at {H0 h : Heap} {L b a : Addr} {o : Obj} (e : (if b = L then none else if (H0.get? b).isSome then none else (h.get? b).map fun o => (b, o)) = some (a, o)) : a ≠ L /\ H0.get? a = none /\ h.get? a = some o := by
 by_cases h1 : b = L
 ·rw [if_pos h1] at e; exact none_some e
 ·by_cases h2 : (H0.get? b).isSome = true
  ·rw [if_neg h1, if_pos h2] at e; exact none_some e
  ·rw [if_neg h1, if_neg h2] at e
   refine e1_2 (Option.map_eq_some_iff.mp e) fun o' ho q => ?_
   rw [<- (Prod.mk.inj q).1, <- (Prod.mk.inj q).2]
   exact ⟨h1, Option.not_isSome_iff_eq_none.mp h2, ho⟩
theorem mem_rest {H0 h : Heap} {L a : Addr} {o : Obj} : (a, o) ∈ restOf H0 h L ↔ a ≠ L /\ H0.get? a = none /\ h.get? a = some o := by
 refine ⟨fun q => e1_2 (List.mem_filterMap.mp q) fun b _ e => rest_at e, fun q => List.mem_filterMap.mpr ⟨a, List.mem_range.mpr (Heap.lt_size q.2.2), ?_⟩⟩
 rw [if_neg q.1, if_neg (by rw [q.2.1]; exact Bool.false_ne_true), q.2.2]; rfl
theorem Ns.fn {h : Heap} {a : Addr} {m m' : Str -> Option Value} (x : h.Ns a m) (y : h.Ns a m') : m = m' := by
 refine e3_4 x fun o es ep ho hd _ hf => ?_
 refine e3_4 y fun o' es' ep' ho' hd' _ hf' => ?_
 rw [ho] at ho'; obtain rfl := Option.some.inj ho'
 rw [hd] at hd'; obtain ⟨rfl, rfl⟩ := PySem.Data.dict.inj hd'
 funext n
 rw [<- hf n, <- hf' n]
section
variable {C : Cst} {A : Around} {fr : List Env} {φ : List (List Addr)} {Z : List Addr} {m : Mem} {s : Shared} {L : Addr} {mm : Str -> Option Value} {h' : Heap} {news' : List (Addr × Obj)} {tk : Nat}
theorem Inv.fr0 (I : Inv C A fr φ Z m s) (hL : L ∈ Z) (hn : s.heap.Ns L mm) : Fr C.H0 L s.heap mm := ⟨hn, I.h0, (I.z0 L hL).1⟩
theorem Inv.news (I : Inv C A fr φ Z m s) (hL : L ∈ Z) : News C.H0 L s.heap (restOf C.H0 s.heap L) := fun p hp => by
 obtain ⟨a, o⟩ := p
 have := mem_rest.mp hp
 exact ⟨this.2.2, this.1, this.2.1⟩
theorem Inv.grow (I : Inv C A fr φ Z m s) (hL : L ∈ Z) (hn : s.heap.Ns L mm) (hn' : h'.Ns L mm) (k : ∀ a o, a ≠ L -> s.heap.get? a = some o -> h'.get? a = some o) :
  Step φ Z s φ { s with heap := h', toks := tk } /\ MemAt C.K C.H0 φ Z m h' := by
 have nk : NsKeep s.heap h' L := by
  refine ⟨fun m' q => (Ns.fn hn q) ▸ hn', fun v q => ?_, fun _ => let ⟨o, _, _, ho, _⟩ := hn'; ⟨o, ho⟩, fun o' ho' f => by obtain ⟨o, es, ep, ho, hd, _⟩ := hn; rw [ho] at ho'; obtain rfl := Option.some.inj ho'; unfold firmObj at f; rw [hd] at f; contradiction⟩
  refine e3_3 hn fun o es ep ho hd _ => ?_
  refine e1_2 q fun o' ho' hd' => ?_
  rw [ho] at ho'; obtain rfl := Option.some.inj ho'
  rw [hd] at hd'; contradiction
 have ne : ∀ a, a ∈ φ.flatten -> a ≠ L := fun a ha e => (I.mem.apart a ha).1 (e ▸ hL)
 have st : Step φ Z s φ { s with heap := h', toks := tk } := by
  refine ⟨⟨_, _, rfl⟩, List.prefix_refl _, fun a x n => absurd x n, fun a o e _ n2 => k a o (fun q => n2 (q ▸ hL)) e, fun a ha => ?_⟩
  by_cases q : a = L
  ·subst q; exact nk
  ·exact NsKeep.same fun o e => k a o q e
 refine ⟨st, I.mem.len, fun i c e => ?_, I.mem.nd, fun a ha => ⟨(I.mem.apart a ha).1, (I.mem.apart a ha).2.1, let ⟨o, ho⟩ := (I.mem.apart a ha).2.2; ⟨o, k a o (ne a ha) ho⟩⟩⟩
 refine e1_2 (I.mem.cell i c e) fun l hl r => ?_
 refine ⟨l, hl, CellAt.mono (s := s) (s' := { s with heap := h', toks := tk }) st.keeps0 r fun a o ha e => k a o (ne a ?_) e⟩
 exact List.mem_flatten.mpr ⟨l, List.mem_of_getElem? hl, ha⟩
theorem Inv.back (I : Inv C A fr φ Z m s) (hL : L ∈ Z) (hn : s.heap.Ns L mm) (F : Fr C.H0 L h' mm) (N : News C.H0 L h' news') (hs : ∀ p ∈ restOf C.H0 s.heap L, p ∈ news') :
  Step φ Z s φ { s with heap := h', toks := tk } /\ MemAt C.K C.H0 φ Z m h' := by
 refine I.grow hL hn F.ns fun a o ne e => ?_
 cases q : C.H0.get? a with
 | none => exact (N (a, o) (hs _ (mem_rest.mpr ⟨ne, q, e⟩))).1
 | some o' =>
  have := I.h0 a o' q
  rw [e] at this; obtain rfl := Option.some.inj this
  exact F.keep a o q
theorem Inv.grow' (I : Inv C A fr φ Z m s) (k : ∀ a o, s.heap.get? a = some o -> h'.get? a = some o) : Step φ Z s φ { s with heap := h', toks := tk } /\ MemAt C.K C.H0 φ Z m h' :=
 ⟨Step.grow φ Z k, I.mem.grow (s := s) (s' := { s with heap := h', toks := tk }) k⟩
theorem Inv.new (I : Inv C A fr φ Z m s) : s.heap.objs.size ∉ φ.flatten /\ s.heap.objs.size ∉ Z := by
 refine ⟨fun q => ?_, fun q => ?_⟩
 ·refine e1_1 ((I.mem.apart _ q).2.2) fun o ho => ?_
  exact absurd (Heap.lt_size ho) (Nat.lt_irrefl _)
 ·refine e1_1 ((I.z0 _ q).2) fun o ho => ?_
  exact absurd (Heap.lt_size ho) (Nat.lt_irrefl _)
theorem Inv.fresh (I : Inv C A fr φ Z m s) {a : Addr} (e : s.heap.get? a = none) : a ∉ φ.flatten /\ a ∉ Z := by
 refine ⟨fun q => ?_, fun q => ?_⟩
 ·obtain ⟨o, ho⟩ := (I.mem.apart _ q).2.2
  exact live_ne ho e
 ·obtain ⟨o, ho⟩ := (I.z0 _ q).2
  exact live_ne ho e
end
section
variable {C : Cst} {A : Around} {fr : List Env} {φ : List (List Addr)} {Z : List Addr} {m : Mem} {s : Shared} {Q : Value -> Shared -> Prop} {X : Value -> Shared -> Prop} {v w : Value}
theorem end_val {d : D} {h' : Heap} {tk : Nat} (I : Inv C A fr φ Z m s) (k : ∀ a o, s.heap.get? a = some o -> h'.get? a = some o) (r : DRep C.K φ Z h' v d) (h : Post C (RV C Z) fr φ Z s (.ok d m) Q X) : Q v { s with heap := h', toks := tk } :=
 h _ _ _ (I.grow' k).1 (I.grow' (tk := tk) k).2 r
theorem end_tok {d : D} {tk : Nat} (I : Inv C A fr φ Z m s) (r : DRep C.K φ Z s.heap v d) (h : Post C (RV C Z) fr φ Z s (.ok d m) Q X) : Q v { s with toks := tk } := end_val (h' := s.heap) I (fun _ _ e => e) r h
theorem end_same {d : D} (I : Inv C A fr φ Z m s) (r : DRep C.K φ Z s.heap v d) (h : Post C (RV C Z) fr φ Z s (.ok d m) Q X) : Q v s := h _ _ _ (Step.refl ..) I.mem r
theorem DAll.push (I : Inv C A fr φ Z m s) {vs : List Value} {ds : List D} (o : Obj) (r : DAll C.K φ Z s.heap vs ds) : DAll C.K φ Z (s.heap.push o) vs ds := r.step (Step.push φ Z s o s.toks)
theorem end_list {vs : List Value} {ds : List D} {n tk : Nat} (I : Inv C A fr φ Z m s) (r : DAll C.K φ Z s.heap vs ds) (sz : ds.length <= 16777216) (h : Post C (RV C Z) fr φ Z s (.ok (.lst ds) m) Q X) : Q (.ref s.heap.objs.size) { s with heap := s.heap.push (listOf vs.toArray n), toks := tk } :=
 end_val I (fun _ _ e => Heap.get?_push_of_some _ e) (.lst (Heap.get?_push_size _ rfl) sz I.new.1 I.new.2 (DAll.push I _ r)) h
theorem end_tup {vs : List Value} {ds : List D} {n tk : Nat} (I : Inv C A fr φ Z m s) (r : DAll C.K φ Z s.heap vs ds) (sz : ds.length <= 16777216) (h : Post C (RV C Z) fr φ Z s (.ok (.tup ds) m) Q X) : Q (.ref s.heap.objs.size) { s with heap := s.heap.push (tupOf vs.toArray n), toks := tk } :=
 end_val I (fun _ _ e => Heap.get?_push_of_some _ e) (.tup (Heap.get?_push_size _ rfl) sz I.new.1 I.new.2 (DAll.push I _ r)) h
inductive LstAt (K : Frag) (φ : List (List Addr)) (Z : List Addr) (h : Heap) (ds : List D) : Value -> Prop
 | mk (a : Addr) (vs : List Value) (n : Nat) : h.get? a = some (listOf vs.toArray n) -> ds.length <= 16777216 -> DAll K φ Z h vs ds -> LstAt K φ Z h ds (.ref a)
inductive SeqOf (K : Frag) (φ : List (List Addr)) (Z : List Addr) (h : Heap) (ds : List D) : Value -> Prop
 | mk (a : Addr) (vs : List Value) (n : Nat) : h.get? a = some (listOf vs.toArray n) \/ h.get? a = some (tupOf vs.toArray n) -> ds.length <= 16777216 -> DAll K φ Z h vs ds -> SeqOf K φ Z h ds (.ref a)
theorem items_of {d : D} {ds : List D} (e : items m d = some ds) : d = .lst ds \/ ∃ i, d = .cell i /\ m[i]? = some (.lst ds) := by
 induction d using D.casesOn with
 | lst l => exact .inl (congrArg D.lst (Option.some.inj e))
 | cell i =>
  refine .inr ⟨i, rfl, ?_⟩
  replace e : (match m[i]? with | some (.lst ds) => some ds | _ => none) = some ds := e
  generalize m[i]? = o at e ⊢
  induction o with
  | none => exact none_some e
  | some c =>
   induction c using Cell.casesOn with
   | lst l => exact congrArg (fun x => some (Cell.lst x)) (Option.some.inj e)
   | _ => exact none_some e
 | _ => exact none_some e
theorem CellAt.lstOf {K : Frag} {h : Heap} {a : Addr} {r : List Addr} {c : Cell} {ds : List D} (x : CellAt K φ Z h (a :: r) c) (e : c = .lst ds) : LstAt K φ Z h ds (.ref a) := by
 generalize q : a :: r = l at x
 induction x with
 | lst ho z x _ => rw [(List.cons.inj q).1]; exact .mk _ _ _ ho ((D.lst.inj (congrArg (fun | .lst l => D.lst l | _ => .none) e)) ▸ z) ((D.lst.inj (congrArg (fun | .lst l => D.lst l | _ => .none) e)) ▸ x)
 | _ => contradiction
theorem MemAt.lst {i : Nat} {a : Addr} {r : List Addr} {ds : List D} {H0 h : Heap} {K : Frag} (M : MemAt K H0 φ Z m h) (hc : φ[i]? = some (a :: r)) (hm : m[i]? = some (.lst ds)) : LstAt K φ Z h ds (.ref a) := by
 refine e1_2 (M.cell i _ hm) fun l hl x => ?_
 rw [hc] at hl
 exact ((Option.some.inj hl).symm ▸ x : CellAt K φ Z h (a :: r) (.lst ds)).lstOf rfl
theorem items_at {d : D} {ds : List D} (I : Inv C A fr φ Z m s) (r : DRep C.K φ Z s.heap v d) (e : items m d = some ds) : LstAt C.K φ Z s.heap ds v := by
 rcases items_of e with e | ⟨i, e, hm⟩
 ·rw [e] at r
  refine e3_6 r.inv fun a vs n ee1 ho z _ _ x => ?_; subst ee1
  exact .mk _ _ _ ho z x
 ·rw [e] at r
  refine e2_2 r.inv fun a r' ee1 hc => ?_; subst ee1
  exact I.mem.lst hc hm
theorem seq_at {d : D} {ds : List D} (I : Inv C A fr φ Z m s) (r : DRep C.K φ Z s.heap v d) (e : seq m d = some ds) : SeqOf C.K φ Z s.heap ds v := by
 by_cases q : ∃ l, d = .tup l
 ·refine e1_1 q fun l q => ?_
  rw [q] at r e
  rw [Option.some.inj e] at r
  refine e3_6 r.inv fun a vs n ee1 ho z _ _ x => ?_; subst ee1
  exact .mk _ _ n (.inr ho) z x
 ·have e' : items m d = some ds := by
   induction d using D.casesOn with
   | tup l => exact absurd ⟨l, rfl⟩ q
   | _ => exact e
  obtain ⟨a, vs, n, ho, z, x⟩ := items_at I r e'
  exact .mk _ _ n (.inl ho) z x
theorem items_len {vs : List Value} {ds : List D} (x : DAll C.K φ Z s.heap vs ds) : vs.toArray.size = ds.length := by rw [List.size_toArray, x.length]
theorem mul_ok {a b : Int} (h : mulOk a b = true) : IntMulOk a b := by
 have small : ∀ x : Int, x.natAbs < 2 ^ 60 -> Builtin.Int.intBits x <= 64 := fun x hx => intBits_le_64 (by lia) (by lia)
 rcases (Bool.or_eq_true _ _).mp h with h | h
 ·exact IntMulOk.of_left (small a (of_decide_eq_true h))
 ·exact IntMulOk.of_right (small b (of_decide_eq_true h))
theorem pow_ok {a b : Int} (h1 : 0 <= a) (h2 : a < 100) (h3 : 0 <= b) (h4 : b < 100) : (Builtin.Int.intBits a : Int) * b <= 2 ^ 27 :=
 Int.le_trans (Int.mul_le_mul (Int.ofNat_le.mpr (intBits_le_64 (by lia) (by lia))) (Int.le_of_lt h4) h3 (by decide)) (by decide)
theorem snd_intOp {op : Operator} {a b i : Int} {t u : Tok} (I : Inv C A fr φ Z m s) (e : intOp op a b = some i) (h : Post C (RV C Z) fr φ Z s (.ok (.int i) m) Q X) : wpAny (model C.prog C.w) A (binaryOp op (.int a t) (.int b u)) Q X s := by
 have fin : ∀ j, j = i -> ∀ t' k, Q (.int j t') { s with toks := k } := fun j e t' k => e ▸ end_tok I (.int i t') h
 clear h I
 induction op with
 | Add => exact add_int (fin _ (Option.some.inj e) _ _)
 | Sub => exact sub_int (fin _ (Option.some.inj e) _ _)
 | Mult =>
  have q := some_if e
  exact PyProof.Rows.mul_int (fin _ q.2 _ _) (mul_ok q.1)
 | FloorDiv =>
  have q := some_if e
  exact floordiv_int q.1.1 (fin _ q.2 _ _) (.inl (PyProof.noPylong_small q.1.2))
 | Mod =>
  by_cases hb : b = 0
  ·rw [show intOp .Mod a b = none from if_pos hb] at e; contradiction
  ·exact mod_int' hb (fin _ (Option.some.inj ((if_neg hb).symm.trans e)) _ _)
 | BitAnd => exact PyProof.Rows.and_int (fin _ (Option.some.inj e) _ _)
 | BitOr => exact PyProof.Rows.or_int (fin _ (Option.some.inj e) _ _)
 | Pow =>
  have q := some_if e
  exact PyProof.Rows.pow_int q.1.2.2.1 (pow_ok q.1.1 q.1.2.1 q.1.2.2.1 q.1.2.2.2) (fin _ q.2 _ _)
 | _ => exact none_some e
end
section
variable {C : Cst} {A : Around} {fr : List Env} {φ : List (List Addr)} {Z : List Addr} {m : Mem} {s : Shared} {Q : Value -> Shared -> Prop} {X : Value -> Shared -> Prop} {v w : Value} {L : Addr} {mm : Str -> Option Value}
theorem cap_is : cap = 65536 := rfl
theorem le_line {α : Type} {x y : List α} (hz : x.length + y.length <= cap) : x.length + y.length <= sizeLine := Nat.le_trans hz (by rw [cap_is, sizeLine_eq]; decide)
theorem le_big {n : Nat} (hz : n <= cap) : n <= 16777216 := Nat.le_trans hz (by rw [cap_is]; decide)
theorem le_app {α : Type} {x y : List α} (hz : x.length + y.length <= cap) : (x ++ y).length <= 16777216 := by
 rw [List.length_append]; exact Nat.le_trans hz (by rw [cap_is]; decide)
theorem listAt {h : Heap} {a : Addr} {its : Array Value} {n : Nat} (e : h.get? a = some (listOf its n)) : h.IsList a its := ⟨_, e, rfl, n, rfl⟩
theorem tupAt {h : Heap} {a : Addr} {its : Array Value} {n : Nat} (e : h.get? a = some (tupOf its n)) : IsTup h a its := ⟨_, e, rfl, n, rfl⟩
theorem end_news {d : D} {h' : Heap} {tk : Nat} {news' : List (Addr × Obj)} (I : Inv C A fr φ Z m s) (hL : L ∈ Z) (hn : s.heap.Ns L mm) (F : Fr C.H0 L h' mm) (N : News C.H0 L h' news') (hs : ∀ p ∈ restOf C.H0 s.heap L, p ∈ news')
  (r : Step φ Z s φ { s with heap := h', toks := tk } -> DRep C.K φ Z h' v d) (h : Post C (RV C Z) fr φ Z s (.ok d m) Q X) : Q v { s with heap := h', toks := tk } :=
 have z := I.back (tk := tk) hL hn F N hs
 h _ _ _ z.1 z.2 (r z.1)
theorem snd_addLists {a b : Addr} {vs ws : List Value} {n k : Nat} {ds es : List D} (I : Inv C A fr φ Z m s) (hL : L ∈ Z) (hn : s.heap.Ns L mm) (ha : s.heap.get? a = some (listOf vs.toArray n)) (hb : s.heap.get? b = some (listOf ws.toArray k))
  (ra : DAll C.K φ Z s.heap vs ds) (rb : DAll C.K φ Z s.heap ws es) (hz : ds.length + es.length <= cap) (h : Post C (RV C Z) fr φ Z s (.ok (.lst (ds ++ es)) m) Q X) : wpAny (model C.prog C.w) A (binaryOp .Add (.ref a) (.ref b)) Q X s := by
 refine add_lists (I.fr0 hL hn) (I.news hL) (listAt ha) (listAt hb) (fun h' F N => ?_) (by rw [ra.length, rb.length]; exact le_line hz)
 exact end_news (tk := s.toks) I hL hn F N (fun p hp => .tail _ hp) (fun st => .lst (N _ (.head _)).1 (le_app hz) I.new.1 I.new.2 ((ra.append rb).step st)) h
theorem snd_addTups {a b : Addr} {vs ws : List Value} {n k : Nat} {ds es : List D} (I : Inv C A fr φ Z m s) (hL : L ∈ Z) (hn : s.heap.Ns L mm) (ha : s.heap.get? a = some (tupOf vs.toArray n)) (hb : s.heap.get? b = some (tupOf ws.toArray k))
  (ga : DRep C.K φ Z s.heap (.ref a) (.tup ds)) (gb : DRep C.K φ Z s.heap (.ref b) (.tup es))
  (ra : DAll C.K φ Z s.heap vs ds) (rb : DAll C.K φ Z s.heap ws es) (hz : ds.length + es.length <= cap) (h : Post C (RV C Z) fr φ Z s (.ok (.tup (ds ++ es)) m) Q X) : wpAny (model C.prog C.w) A (binaryOp .Add (.ref a) (.ref b)) Q X s := by
 refine add_tuples (I.fr0 hL hn) (I.news hL) (tupAt ha) (tupAt hb) (fun e => ?_) (fun _ e => ?_) (fun _ _ h' F N => ?_) (by rw [ra.length, rb.length]; exact le_line hz)
 ·subst e; cases ra; exact end_same I gb h
 ·subst e; cases rb; rw [List.append_nil] at h; exact end_same I ga h
 ·exact end_news (tk := s.toks) I hL hn F N (fun p hp => .tail _ hp) (fun st => .tup (n := 0) (N _ (.head _)).1 (le_app hz) I.new.1 I.new.2 ((ra.append rb).step st)) h
inductive AddOf (m : Mem) : D -> D -> D -> Prop
 | str (x y : Str) : x.length + y.length <= cap -> AddOf m (.str x) (.str y) (.str (x ++ y))
 | bytes (x y : List UInt8) : x.length + y.length <= cap -> AddOf m (.bytes x) (.bytes y) (.bytes (x ++ y))
 | tup (x y : List D) : x.length + y.length <= cap -> AddOf m (.tup x) (.tup y) (.tup (x ++ y))
 | lst (a b : D) (x y : List D) : items m a = some x -> items m b = some y -> x.length + y.length <= cap -> AddOf m a b (.lst (x ++ y))
theorem add_of {a b d : D} (e : addD m a b = some d) : AddOf m a b d := by
 have lst : ∀ {a}, addL m a b = some d -> AddOf m a b d := fun {a} e => by
  refine e1_2 (Option.bind_eq_some_iff.mp e) fun xs ex e => ?_
  refine e1_2 (Option.bind_eq_some_iff.mp e) fun ys ey e => ?_
  have q := some_if e
  exact q.2 ▸ .lst _ _ _ _ ex ey q.1
 induction a using D.casesOn with
 | str x =>
  induction b using D.casesOn with
  | str y => have q := some_if e; exact q.2 ▸ .str _ _ q.1
  | _ => exact none_some e
 | bytes x =>
  induction b using D.casesOn with
  | bytes y => have q := some_if e; exact q.2 ▸ .bytes _ _ q.1
  | _ => exact none_some e
 | tup x =>
  induction b using D.casesOn with
  | tup y => have q := some_if e; exact q.2 ▸ .tup _ _ q.1
  | _ => exact none_some e
 | _ => exact lst e
theorem snd_add {a b d : D} (I : Inv C A fr φ Z m s) (hL : L ∈ Z) (hn : s.heap.Ns L mm) (ra : DRep C.K φ Z s.heap v a) (rb : DRep C.K φ Z s.heap w b) (e : addD m a b = some d) (h : Post C (RV C Z) fr φ Z s (.ok d m) Q X) :
  wpAny (model C.prog C.w) A (binaryOp .Add v w) Q X s := by
 have e := add_of e
 induction e with
 | str x y hz =>
  refine e1_1 ra.inv fun t1 q1 => ?_
  refine e1_1 rb.inv fun t2 q2 => ?_
  rw [q1, q2]
  exact PyProof.Rows.add_str (fun t' tk => end_tok I (.str _ _) h) (le_line hz)
 | bytes x y hz =>
  refine e1_2 ra.inv fun t1 q1 _ => ?_
  refine e1_2 rb.inv fun t2 q2 _ => ?_
  rw [q1, q2]
  refine KBy.add_bytes (by rw [List.size_toArray, List.size_toArray]; exact le_big hz) fun t' k => ?_
  rw [List.append_toArray]
  exact end_tok I (.bytes _ _ (le_app hz)) h
 | tup x y hz =>
  refine e3_6 ra.inv fun a1 vs k1 q1 ha _ _ _ xa => ?_
  refine e3_6 rb.inv fun b1 ws k2 q2 hb _ _ _ xb => ?_
  rw [q1] at ra ⊢
  rw [q2] at rb ⊢
  exact snd_addTups I hL hn ha hb ra rb xa xb hz h
 | lst a b x y ex ey hz =>
  induction items_at I ra ex with | mk a' vs n ha _ xa => _
  induction items_at I rb ey with | mk b' ws k hb _ xb => _
  exact snd_addLists I hL hn ha hb xa xb hz h
theorem rep_len {α : Type} {l : List α} {n : Nat} (h1 : l.length <= 16) (h2 : n <= 65536) : ((List.replicate n l).flatten).length <= 16777216 := by
 rw [List.length_flatten, List.map_replicate, List.sum_replicate_nat]
 exact Nat.le_trans (Nat.mul_le_mul h2 h1) (by decide)
theorem foldl_flatten (items : Array Value) : ∀ (n : Nat) (acc : Array Value), List.foldl (fun x1 x2 => x1 ++ x2) acc (List.replicate n items) = acc ++ ((List.replicate n items.toList).flatten).toArray
 | 0, acc => by simp
 | n + 1, acc => by
  rw [List.replicate_succ, List.foldl_cons, foldl_flatten items n, List.replicate_succ, List.flatten_cons, Array.append_assoc]
  congr 1
  simp
theorem fold_rep {k : Nat} {vs : List Value} : List.foldl (fun x1 x2 => x1 ++ x2) #[] (List.replicate (if vs.toArray.isEmpty = true then 0 else k) vs.toArray) = (List.replicate k vs).flatten.toArray := by
 rw [foldl_flatten, Array.empty_append]
 induction vs using List.casesOn with
 | nil => exact congrArg List.toArray List.flatten_replicate_nil.symm
 | cons v vs => rfl
theorem mul_size {vs : List Value} {n k : Nat} (h1 : vs.length = n) (h2 : n <= 16) (h3 : k <= 65536) : vs.toArray.size * k <= 2 ^ 24 := by
 rw [List.size_toArray, h1]; exact Nat.le_trans (Nat.mul_le_mul h2 h3) (by decide)
theorem toNat_cap {k : Int} (h : k <= cap) : k.toNat <= 65536 := Int.toNat_le.mpr h
theorem k_lo {k c : Int} (h : 0 <= k) (hc : c <= 0) : c <= k := Int.le_trans hc h
theorem k_hi {k c : Int} (h : k <= cap) (hc : 65536 <= c) : k <= c := Int.le_trans h hc
theorem snd_mul {a d : D} {k : Int} {u : Tok} (I : Inv C A fr φ Z m s) (hL : L ∈ Z) (hn : s.heap.Ns L mm) (ra : DRep C.K φ Z s.heap v a) (e : mulD m a k = some d) (h : Post C (RV C Z) fr φ Z s (.ok d m) Q X) :
  wpAny (model C.prog C.w) A (binaryOp .Mult v (.int k u)) Q X s := by
 induction a using D.casesOn with
 | bytes a =>
  have q := some_if e
  refine e1_2 ra.inv fun t1 q1 _ => ?_
  rw [q1]
  rw [<- q.2] at h
  refine e0_4 q.1 fun z1 z2 z3 z4 => ?_
  exact bytes_mul_any z1 (k_lo z3 (by decide)) (k_hi z4 (by decide)) z2 fun t' k => end_tok I (.bytes _ _ (rep_len z2 (toNat_cap z4))) h
 | lst ds =>
  have q := some_if e
  refine e3_6 ra.inv fun a vs n q1 ha _ _ _ xa => ?_
  rw [q1]
  rw [<- q.2] at h
  refine e0_3 q.1 fun z1 z2 z3 => ?_
  refine mul_list (I.fr0 hL hn) (I.news hL) ha (k_lo z2 (by decide)) (Int.lt_of_le_of_lt z3 (by decide)) (mul_size xa.length z1 (toNat_cap z3)) fun h' F N => ?_
  refine end_news (tk := s.toks) I hL hn F N (fun p hp => .tail _ hp) (fun st => .lst (n := 0) (vs := (List.replicate k.toNat vs).flatten) ?_ (rep_len z1 (toNat_cap z3)) I.new.1 I.new.2 ((DAll.rep xa _).step st)) h
  exact (N _ (.head _)).1.trans (congrArg (fun x => some (W.listOf x 0)) fold_rep)
 | _ => exact none_some e
theorem isAdd_is {op : Operator} (h : isAdd op = true) : op = .Add := by induction op <;> first | rfl | contradiction
theorem isMult_is {op : Operator} (h : isMult op = true) : op = .Mult := by induction op <;> first | rfl | contradiction
theorem snd_bin {a b d : D} {op : Operator} (I : Inv C A fr φ Z m s) (hL : L ∈ Z) (hn : s.heap.Ns L mm) (ra : DRep C.K φ Z s.heap v a) (rb : DRep C.K φ Z s.heap w b) (e : binD m op a b = some d) (h : Post C (RV C Z) fr φ Z s (.ok d m) Q X) :
  wpAny (model C.prog C.w) A (binaryOp op v w) Q X s := by
 have addC : ∀ {b}, (if isAdd op = true then addD m a b else none) = some d -> DRep C.K φ Z s.heap w b -> wpAny (model C.prog C.w) A (binaryOp op v w) Q X s := fun {b} e rb => by
  have q := if_some e
  rw [isAdd_is q.1]
  exact snd_add I hL hn ra rb q.2 h
 have mulC : ∀ {k a}, (if isMult op = true then mulD m a k else none) = some d -> DRep C.K φ Z s.heap w (.int k) -> DRep C.K φ Z s.heap v a -> wpAny (model C.prog C.w) A (binaryOp op v w) Q X s := fun {k a} e rb ra => by
  have q := if_some e
  refine e1_1 rb.inv fun t2 q2 => ?_
  rw [q2, isMult_is q.1]
  exact snd_mul I hL hn ra q.2 h
 induction b using D.casesOn with
 | int k =>
  induction a using D.casesOn with
  | int i =>
   refine e1_2 (Option.map_eq_some_iff.mp e) fun i hi e => ?_
   refine e1_1 ra.inv fun t1 q1 => ?_
   refine e1_1 rb.inv fun t2 q2 => ?_
   rw [<- e] at h
   rw [q1, q2]
   exact snd_intOp I hi h
  | _ => exact mulC e rb ra
 | _ => exact addC e rb
theorem okD_no {n : Nat} {d : D} {G : Prop} (h : okD n d = true) (e0 : okD 0 d = false) (e1 : okD (n - 1 + 1) d = false) : G := by
 induction n using Nat.casesAuxOn with
 | zero => rw [e0] at h; contradiction
 | succ n => rw [show okD (n + 1) d = false from e1] at h; contradiction
theorem reads_in (h : Heap) {K : Frag} {φ : List (List Addr)} {Z : List Addr} {v : Value} {d : D} (n : Nat) (r : DRep K φ Z h v d) (hk : okD n d = true) : ∃ as, Reads h v (toPy d) as :=
 DRep.rec (motive_1 := fun v d _ => ∀ n, okD n d = true -> ∃ as, Reads h v (toPy d) as) (motive_2 := fun vs ds _ => ∀ n, (∀ d ∈ ds, okD n d = true) -> ∃ as, ReadsAll h vs (toPys ds) as) (motive_3 := fun _ _ _ => True)
  (fun _ _ => ⟨_, Reads.none⟩) (fun b _ _ => ⟨_, Reads.bool b⟩) (fun i t _ _ => ⟨_, Reads.int i t⟩) (fun _ _ _ hk => okD_no hk rfl rfl) (fun _ _ _ _ hk => okD_no hk rfl rfl)
  (fun ho _ _ _ _ ih n hk => by
   induction n using Nat.casesAuxOn with
   | zero => contradiction
   | succ n =>
    refine e1_1 (ih n (List.all_eq_true.mp hk)) fun as q => ?_
    exact ⟨as, reads_tuple_at ho rfl rfl q⟩)
  (fun ho _ _ _ _ ih n hk => by
   induction n using Nat.casesAuxOn with
   | zero => contradiction
   | succ n =>
    refine e1_1 (ih n (List.all_eq_true.mp hk)) fun as q => ?_
    exact ⟨_, reads_list_at ho rfl rfl q⟩)
  (fun _ _ _ _ _ _ _ _ _ _ hk => okD_no hk rfl rfl) (fun _ _ hk => okD_no hk rfl rfl) (fun _ _ _ _ hk => okD_no hk rfl rfl)
  (fun _ _ => ⟨_, ReadsAll.nil⟩)
  (fun _ _ ia ir n hk => by
   refine e1_1 (ia n (hk _ (.head _))) fun as q => ?_
   refine e1_1 (ir n fun d hm => hk d (.tail _ hm)) fun bs p => ?_
   exact ⟨_, ReadsAll.cons q p⟩)
  trivial (fun _ _ _ _ _ => trivial) r n hk
theorem reads_all (h : Heap) {K : Frag} {φ : List (List Addr)} {Z : List Addr} {vs : List Value} {ds : List D} (n : Nat) (r : DAll K φ Z h vs ds) (hk : ∀ d ∈ ds, okD n d = true) : ∃ as, ReadsAll h vs (toPys ds) as := by
 induction r using DAll.ind with
 | nil => exact ⟨_, ReadsAll.nil⟩
 | cons a _ ih =>
  refine e1_1 (reads_in h n a (hk _ (.head _))) fun as q => ?_
  refine e1_1 (ih fun d hm => hk d (.tail _ hm)) fun bs p => ?_
  exact ⟨_, ReadsAll.cons q p⟩
theorem okDs_all {n : Nat} (ih : ∀ d, okD n d = true -> (toPy d).canLay0 = true /\ (toPy d).depth <= n) {ds : List D} (h : ∀ d ∈ ds, okD n d = true) : PyData.canLayAll0 (toPys ds) = true /\ PyData.depthAll (toPys ds) <= n := by
 induction ds with
 | nil => exact ⟨rfl, Nat.zero_le _⟩
 | cons d ds hi =>
  have h1 := ih d (h d (.head _))
  have h2 := hi fun e he => h e (.tail _ he)
  exact ⟨(Bool.and_eq_true _ _).mpr ⟨h1.1, h2.1⟩, Nat.max_le.mpr ⟨h1.2, h2.2⟩⟩
theorem okD_lay (n : Nat) (d : D) (h : okD n d = true) : (toPy d).canLay0 = true /\ (toPy d).depth <= n := by
 induction n generalizing d with
 | zero => induction d using D.casesOn <;> first | exact ⟨rfl, Nat.le_refl _⟩ | contradiction
 | succ n ih =>
  induction d using D.casesOn with
  | tup ds => exact (okDs_all ih (List.all_eq_true.mp h)).imp_right Nat.succ_le_succ
  | lst ds => exact (okDs_all ih (List.all_eq_true.mp h)).imp_right Nat.succ_le_succ
  | _ => first | exact ⟨rfl, Nat.zero_le _⟩ | contradiction
theorem frz_at {a : D} (I : Inv C A fr φ Z m s) (ra : DRep C.K φ Z s.heap v a) : (∃ ds, frz m a = .lst ds /\ LstAt C.K φ Z s.heap ds v) \/ (frz m a = a /\ ∀ ds, a ≠ .lst ds) := by
 by_cases q : ∃ ds, items m a = some ds
 ·obtain ⟨ds, e⟩ := q
  refine .inl ⟨ds, ?_, items_at I ra e⟩
  rcases items_of e with e | ⟨i, e, hm⟩
  ·rw [e]; rfl
  ·rw [e]; show (match m[i]? with | some (.lst ds) => D.lst ds | _ => .cell i) = _; rw [hm]
 ·refine .inr ⟨?_, fun ds e => q ⟨ds, by rw [e]; rfl⟩⟩
  clear ra I
  induction a using D.casesOn with
  | cell i =>
   replace q : ¬ ∃ ds, (match m[i]? with | some (.lst ds) => some ds | _ => none) = some ds := q
   show (match m[i]? with | some (.lst ds) => D.lst ds | _ => .cell i) = _
   generalize m[i]? = o at q ⊢
   induction o with
   | none => rfl
   | some c =>
    induction c using Cell.casesOn with
    | lst ds => exact absurd ⟨ds, rfl⟩ q
    | _ => rfl
  | _ => rfl
theorem frz_reads {a : D} {n : Nat} (I : Inv C A fr φ Z m s) (ra : DRep C.K φ Z s.heap v a) (ok : okD n (frz m a) = true) : ∃ as, Reads s.heap v (toPy (frz m a)) as := by
 rcases frz_at I ra with ⟨ds, e, l, vs, k, ho, _, x⟩ | ⟨e, -⟩
 ·rw [e] at ok ⊢
  induction n using Nat.casesAuxOn with
  | zero => contradiction
  | succ n =>
   refine e1_1 (reads_all s.heap n x (List.all_eq_true.mp ok)) fun as q => ?_
   exact ⟨_, reads_list_at ho rfl rfl q⟩
 ·rw [e] at ok ⊢
  exact reads_in s.heap n ra ok
end
section
variable {C : Cst} {A : Around} {fr : List Env} {φ : List (List Addr)} {Z : List Addr} {m : Mem} {s : Shared} {Q : Value -> Shared -> Prop} {X : Value -> Shared -> Prop} {v w : Value} {L : Addr} {mm : Str -> Option Value}
inductive EqOf : D -> D -> Bool -> Prop
 | bytes (x y : List UInt8) : EqOf (.bytes x) (.bytes y) (x == y)
 | lst (d : D) (ds : List D) : EqOf (.lst (d :: ds)) (.lst []) false
 | data {a b : D} {r : Bool} : okD 8 a = true -> okD 8 b = true -> r = PyData.eqv (toPy a) (toPy b) -> EqOf a b r
theorem eqF_of {a b : D} {r : Bool} (e : eqF a b = some r) : EqOf a b r :=
 have q := some_if e
 have w := (Bool.and_eq_true _ _).mp q.1
 .data w.1 w.2 q.2.symm
theorem eqD_of {a b : D} {r : Bool} (e : eqD a b = some r) : EqOf a b r := by
 induction a using D.casesOn with
 | bytes x =>
  induction b using D.casesOn with
  | bytes y => exact Option.some.inj e ▸ .bytes x y
  | _ => exact none_some e
 | lst ds =>
  induction b using D.casesOn with
  | lst es =>
   induction es using List.casesOn with
   | nil =>
    induction ds using List.casesOn with
    | nil => exact .data rfl rfl (Option.some.inj e).symm
    | cons d ds => exact Option.some.inj e ▸ .lst d ds
   | cons _ _ => exact eqF_of e
  | _ => exact eqF_of e
 | _ => exact eqF_of e
theorem okD_shaped {d : D} (h : okD 8 d = true) : SeqAt.shaped (toPy d) = true := by
 have := okD_lay 8 d h
 unfold SeqAt.shaped
 rw [this.1, Bool.true_and]
 exact decide_eq_true (Nat.le_trans this.2 (by decide))
theorem snd_eq {a b : D} {r : Bool} (I : Inv C A fr φ Z m s) (hu : A.units + 64 < cLine) (ra : DRep C.K φ Z s.heap v a) (rb : DRep C.K φ Z s.heap w b) (e : eqD (frz m a) (frz m b) = some r) :
  (∀ Q : Value -> Shared -> Prop, Q (.bool r) s -> wpAny (model C.prog C.w) A (compareOp .Eq v w) Q X s) /\ (∀ Q : Value -> Shared -> Prop, Q (.bool (!r)) s -> wpAny (model C.prog C.w) A (compareOp .NotEq v w) Q X s) := by
 have E := eqD_of e
 generalize ea : frz m a = a' at E
 generalize eb : frz m b = b' at E
 induction E with
 | bytes x y =>
  have fa : a = .bytes x := (frz_at I ra).elim (fun ⟨_, q, _⟩ => by rw [ea] at q; contradiction) fun q => q.1.symm.trans ea
  have fb : b = .bytes y := (frz_at I rb).elim (fun ⟨_, q, _⟩ => by rw [eb] at q; contradiction) fun q => q.1.symm.trans eb
  rw [fa] at ra
  rw [fb] at rb
  refine e1_2 ra.inv fun t1 q1 _ => ?_
  refine e1_2 rb.inv fun t2 q2 _ => ?_
  rw [q1, q2]
  exact ⟨fun Q h => eq_bytes (by simpa using h), fun Q h => ne_bytes (by simpa [bne] using h)⟩
 | lst d ds =>
  obtain ⟨da, e1, la, vs, na, ha, _, xa⟩ := (frz_at I ra).resolve_right fun q => q.2 _ (q.1 ▸ ea)
  obtain ⟨db, e2, lb, ws, nb, hb, _, xb⟩ := (frz_at I rb).resolve_right fun q => q.2 _ (q.1 ▸ eb)
  rw [D.lst.inj (e1.symm.trans ea)] at xa
  rw [D.lst.inj (e2.symm.trans eb)] at xb
  have hne : (vs.toArray.size != ws.toArray.size) = true := by
   rw [List.size_toArray, List.size_toArray, xa.length, xb.length]; rfl
  exact ⟨fun Q h => SeqAt.RcAt.lists_lengths (listAt ha) (listAt hb) hne (by lia) _ _ _ _ h, fun Q h => SeqAt.RcNeAt.lists_lengths (listAt ha) (listAt hb) hne (by lia) _ _ _ _ h⟩
 | data ka kb er =>
  rw [er]
  rw [<- ea, <- eb]
  rw [<- ea] at ka
  rw [<- eb] at kb
  refine e1_1 (frz_reads I ra ka) fun as qa => ?_
  refine e1_1 (frz_reads I rb kb) fun bs qb => ?_
  exact ⟨fun Q h => eq_dataH qa qb (okD_shaped ka) (okD_shaped kb) hu h, fun Q h => ne_dataH qa qb (okD_shaped ka) (okD_shaped kb) hu h⟩
theorem okDs_lay {ds : List D} (h : ds.all (okD 8) = true) : PyData.canLayAll0 (toPys ds) = true /\ PyData.depthAll (toPys ds) <= 8 := okDs_all (okD_lay 8) (List.all_eq_true.mp h)
inductive TwoInts (f : Int -> Int -> Bool) : D -> D -> Bool -> Prop
 | mk (x y : Int) : TwoInts f (.int x) (.int y) (f x y)
theorem two_ints {f : Int -> Int -> Bool} {a b : D} {r : Bool} (e : (match a, b with | .int a, .int b => some (f a b) | _, _ => none) = some r) : TwoInts f a b r := by
 induction a using D.casesOn with
 | int x =>
  induction b using D.casesOn with
  | int y => exact Option.some.inj e ▸ .mk x y
  | _ => exact none_some e
 | _ => exact none_some e
theorem cmp_ints {op : CmpOp} {f : Int -> Int -> Bool} {a b : D} {r : Bool} (ra : DRep C.K φ Z s.heap v a) (rb : DRep C.K φ Z s.heap w b) (e : TwoInts f a b r) (k : ∀ {x y : Int} {t u : Tok}, Q (.bool (f x y)) s -> wpAny (model C.prog C.w) A (compareOp op (.int x t) (.int y u)) Q X s) (h : Q (.bool r) s) : wpAny (model C.prog C.w) A (compareOp op v w) Q X s := by
 induction e with | mk x y => _
 refine e1_1 ra.inv fun t1 q1 => ?_
 refine e1_1 rb.inv fun t2 q2 => ?_
 rw [q1, q2]
 exact k h
theorem is_of {b : D} {q r : Bool} (e : (match b with | .none => some q | _ => none) = some r) : b = .none /\ q = r := by
 induction b using D.casesOn with
 | none => exact ⟨rfl, Option.some.inj e⟩
 | _ => exact none_some e
noncomputable def noneD : D -> Bool
 | .none => true
 | _ => false
theorem none_b {h : Heap} {a : D} (ra : DRep C.K φ Z h v a) : (v == .none) = noneD a := by
 induction ra using DRep.casesOn <;> rfl
theorem some_b {a : D} : (match a with | .none => false | _ => true) = !noneD a := by
 induction a using D.casesOn <;> rfl
inductive InOf : D -> D -> Bool -> Prop
 | mk (x : Int) (ds : List D) : ds.all (okD 8) = true -> InOf (.int x) (.tup ds) ((toPys ds).any fun y => PyData.eqv y (.int x))
theorem in_of {a b : D} {r : Bool} (e : (match a, b with | .int a, .tup ds => if ds.all (okD 8) then some ((toPys ds).any fun y => PyData.eqv y (.int a)) else none | _, _ => none) = some r) : InOf a b r := by
 induction a using D.casesOn with
 | int x =>
  induction b using D.casesOn with
  | tup ds => have q := some_if e; exact q.2 ▸ .mk x ds q.1
  | _ => exact none_some e
 | _ => exact none_some e
theorem in_room {u a b c : Nat} (hu : u + 64 < c) (h : a <= 8) : u + 1 + min a b < c := Nat.lt_of_le_of_lt (Nat.add_le_add_left (Nat.le_trans (Nat.min_le_left a b) h) _) (Nat.lt_of_le_of_lt (Nat.add_le_add_left (by decide : 1 + 8 <= 64) u) hu)
theorem cmp_in {a b : D} {r : Bool} (hu : A.units + 64 < cLine) (ra : DRep C.K φ Z s.heap v a) (rb : DRep C.K φ Z s.heap w b) (e : InOf a b r) (h : Q (.bool r) s) : wpAny (model C.prog C.w) A (compareOp .In v w) Q X s := by
 induction e with | mk a₀ ds₀ hk => _
 refine e1_1 ra.inv fun t q1 => ?_
 refine e3_6 rb.inv fun a vs n q2 hb _ _ _ x => ?_
 rw [q1, q2]
 refine e1_1 (reads_all s.heap 8 x (List.all_eq_true.mp hk)) fun as q => ?_
 have l := okDs_lay hk
 refine SeqAt.in_tupleAt _ (tupAt hb) (SeqAt.items_eqAt (d := .int a₀) q (Reads.int a₀ t) l.1 rfl (in_room hu l.2)) ?_
 rw [SeqAt.any_by_data q l.1]
 exact h
theorem snd_cmp {a b : D} {op : CmpOp} {r : Bool} (I : Inv C A fr φ Z m s) (hu : A.units + 64 < cLine) (ra : DRep C.K φ Z s.heap v a) (rb : DRep C.K φ Z s.heap w b) (e : cmpD m op a b = some r)
  (h : Q (.bool r) s) : wpAny (model C.prog C.w) A (compareOp op v w) Q X s := by
 induction op with
 | Eq => exact (snd_eq I hu ra rb e).1 Q h
 | NotEq =>
  refine e1_2 (Option.map_eq_some_iff.mp e) fun q e' e2 => ?_
  exact (snd_eq I hu ra rb e').2 Q (e2 ▸ h)
 | Lt => exact cmp_ints ra rb (two_ints e) lt_int h
 | LtE => exact cmp_ints ra rb (two_ints e) le_int h
 | Gt => exact cmp_ints ra rb (two_ints e) gt_int h
 | GtE => exact cmp_ints ra rb (two_ints e) ge_int h
 | Is =>
  have q := is_of e
  rw [q.1] at rb
  rw [show w = .none from rb.inv]
  exact is_none (by rw [(none_b ra).trans q.2]; exact h)
 | IsNot =>
  have q := is_of e
  rw [q.1] at rb
  rw [show w = .none from rb.inv]
  exact isNot_none (by rw [none_b ra, some_b.symm.trans q.2]; exact h)
 | In => exact cmp_in hu ra rb (in_of e) h
 | NotIn => exact none_some e
structure IdxOf (k : Int) (n j : Nat) : Prop where
 lo : -(n : Int) <= k
 hi : k < n
 pos : 0 <= k -> j = k.toNat
theorem idx_of {k : Int} {n j : Nat} (e : seqIndex? k n = some j) : IdxOf k n j := by
 have e : (fun x : Int => if (decide (0 <= x) && decide (x < n)) = true then some x.toNat else none) (if k < 0 then k + n else k) = some j := e
 by_cases hk : k < 0
 ·rw [if_pos hk] at e
  have w := (Bool.and_eq_true _ _).mp (some_if e).1
  have w1 := of_decide_eq_true w.1
  exact ⟨by lia, Int.lt_of_lt_of_le hk (Int.natCast_nonneg n), fun h => absurd hk (Int.not_lt.mpr h)⟩
 ·rw [if_neg hk] at e
  have q := some_if e
  have w := (Bool.and_eq_true _ _).mp q.1
  have w1 := of_decide_eq_true w.1
  exact ⟨Int.le_trans (Int.neg_nonpos_of_nonneg (Int.natCast_nonneg n)) w1, of_decide_eq_true w.2, fun _ => q.2.symm⟩
theorem IdxOf.fits {k : Int} {n j : Nat} (h : IdxOf k n j) (z : n <= 16777216) : -(2 ^ 63) <= k /\ k < 2 ^ 63 := by
 have := h.lo
 have := h.hi
 lia
theorem snd_sub {o i d : D} {value slice : Expr} (I : Inv C A fr φ Z m s) (ra : DRep C.K φ Z s.heap v o) (rb : DRep C.K φ Z s.heap w i) (e : subD m o i = some d)
  (hs : subscripted slice false v w = operate [v, w] (getItem v w)) (h : Post C (RV C Z) fr φ Z s (.ok d m) Q X) : wpAny (model C.prog C.w) A (subscriptTail value slice v w) Q X s := by
 induction i using D.casesOn with
 | int k =>
  refine e1_1 rb.inv fun t q2 => ?_
  rw [q2] at hs ⊢
  clear q2 rb
  have sq : (seq m o).bind (fun ds => (seqIndex? k ds.length).bind fun j => ds[j]?) = some d -> wpAny (model C.prog C.w) A (subscriptTail value slice v (.int k t)) Q X s := fun e => by
   refine e1_2 (Option.bind_eq_some_iff.mp e) fun ds e1 e2 => ?_
   refine e1_2 (Option.bind_eq_some_iff.mp e2) fun j e3 e4 => ?_
   obtain ⟨a, vs, n, ho, z, x⟩ := seq_at I ra e1
   refine e1_2 (x.get e4) fun y hy ry => ?_
   have fin : Q y s := end_same I ry h
   have E := idx_of e3
   have hb := E.fits z
   rw [<- x.length] at e3
   rcases ho with ho | ho
   ·by_cases h0 : 0 <= k
    ·rw [E.pos h0] at hy
     exact tail_any (listAt ho).typeIs slot_list_getitem.lookup (wpAny_getItem_list (listAt ho) h0 hb.2 (by rw [List.getElem?_toArray]; exact hy) fin) hs
    ·exact kde_neg (listAt ho) (Int.not_le.mp h0) hb.1 e3 hy fin hs
   ·exact item_tupleT (tupAt ho) hb.1 hb.2 e3 hy fin hs
  induction o using D.casesOn with
  | bytes b =>
   refine e1_2 ra.inv fun u q1 z => ?_
   rw [q1] at hs ⊢
   have q := some_if e
   rw [<- q.2] at h
   exact tail_any (typeIs_bytes s _ _) FB.slot_bytes_getitem.lookup (getItem_bytes (Nat.le_trans z (by decide)) q.1.1 q.1.2 (end_tok I (.int _ _) h)) hs
  | _ => exact sq e
 | _ => exact none_some e
end
section
variable {C : Cst} {A : Around} {fr : List Env} {φ : List (List Addr)} {Z : List Addr} {m : Mem} {s : Shared} {Q : Value -> Shared -> Prop} {X : Value -> Shared -> Prop} {v w : Value} {L : Addr} {mm : Str -> Option Value}
theorem toInts_cons {d : D} {ds : List D} {ns : List Int} (e : toInts (d :: ds) = some ns) : ∃ i ms, d = .int i /\ toInts ds = some ms /\ ns = i :: ms := by
 induction d using D.casesOn with
 | int i =>
  obtain ⟨ms, h, q⟩ := Option.map_eq_some_iff.mp (show (toInts ds).map (i :: ·) = some ns from e)
  exact ⟨i, ms, rfl, h, q.symm⟩
 | _ => exact nomatch (show (none : Option (List Int)) = some ns from e)
theorem intsAre_of {h : Heap} {K : Frag} : ∀ (ds : List D) {vs : List Value} {ns : List Int}, DAll K φ Z h vs ds -> toInts ds = some ns -> IntsAre vs ns
 | [], _, _, r, e => by
  have e := Option.some.inj e
  subst e
  rw [r.inv0]
  exact .nil
 | d :: ds, vs, ns, r, e => by
  refine e2_3 (toInts_cons e) fun i ms e1 e2 e3 => ?_
  refine e2_3 r.inv fun v ws e4 r1 r2 => ?_
  rw [e1] at r1
  refine e1_1 r1.inv fun t e5 => ?_
  rw [e3, e4, e5]
  exact .cons i t (intsAre_of ds r2 e2)
theorem fold_pick {R : Int -> Int -> Prop} {f : Int -> Int -> Int} (tr : ∀ {a b c : Int}, R a b -> R b c -> R a c) (refl : ∀ a, R a a) (h1 : ∀ a b, (f a b = a \/ f a b = b) /\ R (f a b) a /\ R (f a b) b) (l : List Int) (a : Int) : l.foldl f a ∈ a :: l /\ ∀ x ∈ a :: l, R (l.foldl f a) x := by
 induction l generalizing a with
 | nil => exact ⟨.head _, fun x hx => (List.mem_singleton.mp hx).symm ▸ refl a⟩
 | cons b l ih =>
  have q := ih (f a b)
  have w := h1 a b
  refine ⟨(List.mem_cons.mp q.1).elim (fun h => ?_) fun h => .tail _ (.tail _ h), fun x hx => (List.mem_cons.mp hx).elim (fun e => ?_) fun hx => (List.mem_cons.mp hx).elim (fun e => ?_) fun hx => q.2 x (.tail _ hx)⟩
  ·rw [List.foldl_cons, h]
   exact w.1.elim (fun e => e.symm ▸ .head _) fun e => e.symm ▸ .tail _ (.head _)
  ·rw [e]; exact tr (q.2 _ (.head _)) w.2.1
  ·rw [e]; exact tr (q.2 _ (.head _)) w.2.2
theorem min_fold (l : List Int) (a : Int) : (l.foldl (fun m x => if x < m then x else m) a) ∈ a :: l /\ ∀ x ∈ a :: l, l.foldl (fun m x => if x < m then x else m) a <= x :=
 fold_pick (R := fun a b => a <= b) (f := fun m x => if x < m then x else m) Int.le_trans Int.le_refl (fun a b => by
  show ((if b < a then b else a) = a \/ (if b < a then b else a) = b) /\ (if b < a then b else a) <= a /\ (if b < a then b else a) <= b
  by_cases h : b < a
  ·rw [if_pos h]; exact ⟨.inr rfl, Int.le_of_lt h, Int.le_refl _⟩
  ·rw [if_neg h]; exact ⟨.inl rfl, Int.le_refl _, Int.not_lt.mp h⟩) l a
theorem max_fold (l : List Int) (a : Int) : (l.foldl (fun m x => if m < x then x else m) a) ∈ a :: l /\ ∀ x ∈ a :: l, x <= l.foldl (fun m x => if m < x then x else m) a :=
 fold_pick (R := fun a b => b <= a) (f := fun m x => if m < x then x else m) (fun x y => Int.le_trans y x) Int.le_refl (fun a b => by
  show ((if a < b then b else a) = a \/ (if a < b then b else a) = b) /\ a <= (if a < b then b else a) /\ b <= (if a < b then b else a)
  by_cases h : a < b
  ·rw [if_pos h]; exact ⟨.inr rfl, Int.le_of_lt h, Int.le_refl _⟩
  ·rw [if_neg h]; exact ⟨.inl rfl, Int.le_refl _, Int.not_lt.mp h⟩) l a
theorem toByte_is {d : D} {b : UInt8} (e : toByte d = some b) : ∃ i, d = .int i /\ (0 <= i /\ i < 256) /\ b = UInt8.ofNat i.toNat := by
 induction d using D.casesOn with
 | int i =>
  have e : (if 0 <= i /\ i < 256 then some (UInt8.ofNat i.toNat) else none) = some b := e
  by_cases h : 0 <= i /\ i < 256
  ·rw [if_pos h] at e; exact ⟨i, rfl, h, (Option.some.inj e).symm⟩
  ·rw [if_neg h] at e; exact none_some e
 | _ => exact none_some e
theorem toBytes_cons {d : D} {ds : List D} {b : List UInt8} (e : toBytes (d :: ds) = some b) : ∃ x xs, toByte d = some x /\ toBytes ds = some xs /\ b = x :: xs := by
 have e : (match toByte d, toBytes ds with | some b, some bs => some (b :: bs) | _, _ => none) = some b := e
 cases h1 : toByte d with
 | none => rw [h1] at e; exact none_some e
 | some x =>
  cases h2 : toBytes ds with
  | none => rw [h1, h2] at e; exact none_some e
  | some xs => rw [h1, h2] at e; exact ⟨x, xs, rfl, rfl, (Option.some.inj e).symm⟩
theorem toBytes_ints {h : Heap} {K : Frag} : ∀ (ds : List D) {vs : List Value} {b : List UInt8}, DAll K φ Z h vs ds -> toBytes ds = some b -> ∃ ns, IntsAre vs ns /\ (∀ n ∈ ns, 0 <= n /\ n < 256) /\ byteArr ns = b.toArray
 | [], _, _, r, e => by
  have e := Option.some.inj e
  subst e
  rw [r.inv0]
  exact ⟨[], .nil, (fun _ h => absurd h List.not_mem_nil), rfl⟩
 | d :: ds, vs, b, r, e => by
  refine e2_3 (toBytes_cons e) fun x xs e1 e2 e3 => ?_
  refine e1_3 (toByte_is e1) fun i e4 hi e5 => ?_
  refine e2_3 r.inv fun v ws e6 r1 r2 => ?_
  rw [e4] at r1
  refine e1_1 r1.inv fun t e7 => ?_
  refine e1_3 (toBytes_ints ds r2 e2) fun ns q1 q2 q3 => ?_
  refine ⟨i :: ns, ?_, fun n hn => ?_, ?_⟩
  ·rw [e6, e7]; exact .cons i t q1
  ·exact (List.mem_cons.mp hn).elim (fun q => q ▸ hi) (q2 n)
  ·have q4 : List.map (fun n => n.toNat.toUInt8) ns = xs := congrArg Array.toList q3
   rw [e3, e5, <- q4]; rfl
theorem toBytes_len {ds : List D} {b : List UInt8} (e : toBytes ds = some b) : b.length = ds.length := by
 induction ds generalizing b with
 | nil => rw [<- Option.some.inj e]; rfl
 | cons d r ih =>
  refine e2_3 (toBytes_cons e) fun x xs _ e2 e3 => ?_
  rw [e3]; exact congrArg Nat.succ (ih e2)
theorem len_of {d : D} {k : Int} (e : lenD m d = some k) : (∃ b, d = .bytes b /\ (b.length : Int) = k) \/ (seq m d).map (fun ds => (ds.length : Int)) = some k := by
 induction d using D.casesOn with
 | bytes b => exact .inl ⟨b, rfl, Option.some.inj e⟩
 | _ => exact .inr e
theorem snd_len {d : D} {k : Int} (I : Inv C A fr φ Z m s) (ra : DRep C.K φ Z s.heap v d) (e : lenD m d = some k) (h : Post C (RV C Z) fr φ Z s (.ok (.int k) m) Q X) : wpAny (model C.prog C.w) A (call (.builtin "len") [v]) Q X s := by
 rcases len_of e with ⟨b, e1, e2⟩ | e
 ·rw [e1] at ra
  refine e1_2 ra.inv fun t q z => ?_
  rw [q]
  refine len_bytes (by rw [List.size_toArray]; exact Nat.le_trans z (by decide)) ?_
  rw [List.size_toArray, e2]
  exact end_tok I (.int _ _) h
 ·refine e1_2 (Option.map_eq_some_iff.mp e) fun ds e1 e2 => ?_
  obtain ⟨a, vs, n, ho, z, x⟩ := seq_at I ra e1
  have hz : (vs.toArray.size : Int) < 2 ^ 63 := Int.lt_of_le_of_lt (Int.ofNat_le.mpr (show vs.toArray.size <= 16777216 by rw [items_len x]; exact z)) (by decide)
  have hk : ((vs.toArray.size : Nat) : Int) = k := by rw [items_len x, e2]
  have fin : Q (.int (vs.toArray.size : Nat) (s.toks + 1)) { s with toks := s.toks + 1 + 1 } := by rw [hk]; exact end_tok I (.int _ _) h
  rcases ho with ho | ho
  ·exact PyProof.Rows.len_list (listAt ho) hz fin
  ·exact PyProof.Rows.len_tuple (tupAt ho) hz fin
noncomputable def biV (f : String) : Value := if f = "len" \/ f = "max" \/ f = "min" then .builtin f else .type f
theorem snd_list {d : D} {ds : List D} (I : Inv C A fr φ Z m s) (ra : DRep C.K φ Z s.heap v d) (e : items m d = some ds) (h : Post C (RV C Z) fr φ Z s (.ok (.lst ds) m) Q X) : wpAny (model C.prog C.w) A (call (.type "list") [v]) Q X s := by
 obtain ⟨a, vs, n, ho, z, x⟩ := items_at I ra e
 refine call_list_seq a (.inl rfl) ho rfl rfl (fun h' c' hk hD => ?_) (by rw [List.size_toArray, x.length, sizeLine_eq]; exact z)
 exact end_val (tk := s.toks) I hk (.lst hD z I.new.1 I.new.2 (x.step (Step.grow (tk := s.toks) φ Z hk))) h
theorem snd_range {i : Int} {t : Tok} (I : Inv C A fr φ Z m s) (h0 : 0 <= i) (h : Post C (RV C Z) fr φ Z s (.ok (.rng i.toNat) m) Q X) : wpAny (model C.prog C.w) A (call (.type "range") [.int i t]) Q X s := by
 refine call_range_1 ?_
 have e : i = (i.toNat : Int) := by lia
 refine end_val I (fun _ _ q => Heap.get?_push_of_some _ q) (.rng (t := s.toks) (u := t) (v := s.toks + 1) ?_ I.new.1 I.new.2) h
 rw [<- e]
 exact IsRange.new ..
theorem snd_max2 {a b : Int} {t u : Tok} (I : Inv C A fr φ Z m s) (h : Post C (RV C Z) fr φ Z s (.ok (.int (if a < b then b else a)) m) Q X) : wpAny (model C.prog C.w) A (call (.builtin "max") [.int a t, .int b u]) Q X s := by
 refine max_two_ints I.hand fun h' tk hk => ?_
 by_cases q : a < b
 ·rw [if_pos q] at h ⊢
  exact end_val I hk (.int _ _) h
 ·rw [if_neg q] at h ⊢
  exact end_val I hk (.int _ _) h
theorem snd_minmax {ds : List D} {ns : List Int} {r : Int} (I : Inv C A fr φ Z m s) (hL : L ∈ Z) (hn : s.heap.Ns L mm) (ra : DRep C.K φ Z s.heap v (.lst ds)) (e : toInts ds = some ns) (h : Post C (RV C Z) fr φ Z s (.ok (.int r) m) Q X) :
  (minL ns = some r -> wpAny (model C.prog C.w) A (call (.builtin "min") [v]) Q X s) /\ (maxL ns = some r -> wpAny (model C.prog C.w) A (call (.builtin "max") [v]) Q X s) := by
 obtain ⟨a, vs, n, ho, z, x⟩ := items_at I ra rfl
 have hi := intsAre_of _ x e
 induction ns using List.casesOn with
 | nil => exact ⟨(fun q => by simp [minL] at q), (fun q => by simp [maxL] at q)⟩
 | cons b l =>
  refine ⟨fun q => ?_, fun q => ?_⟩
  ·simp only [minL, Option.some.injEq] at q
   refine e0_2 (min_fold l b) fun h1 h2 => ?_
   rw [q] at h1 h2
   refine min_list_N I.hand (I.fr0 hL hn) (I.news hL) (listAt ho) hi (by simp) fun h' M t tk F N hM hle => ?_
   have : M = r := Int.le_antisymm (hle r h1) (h2 M hM)
   subst this
   exact end_news (tk := tk) I hL hn F N (fun p hp => hp) (fun st => .int _ _) h
  ·simp only [maxL, Option.some.injEq] at q
   refine e0_2 (max_fold l b) fun h1 h2 => ?_
   rw [q] at h1 h2
   refine max_list_N I.hand (I.fr0 hL hn) (I.news hL) (listAt ho) hi (by simp) fun h' M t tk F N hM hle => ?_
   have : M = r := Int.le_antisymm (h2 M hM) (hle r h1)
   subst this
   exact end_news (tk := tk) I hL hn F N (fun p hp => hp) (fun st => .int _ _) h
theorem snd_bytesOf {ds : List D} {b : List UInt8} (I : Inv C A fr φ Z m s) (ra : DRep C.K φ Z s.heap v (.lst ds)) (e : toBytes ds = some b) (h : Post C (RV C Z) fr φ Z s (.ok (.bytes b) m) Q X) : wpAny (model C.prog C.w) A (call (.type "bytes") [v]) Q X s := by
 obtain ⟨a, vs, n, ho, z, x⟩ := items_at I ra rfl
 refine e1_3 (toBytes_ints _ x e) fun ns q1 q2 q3 => ?_
 refine call_bytes_ints (listAt ho) q1 q2 (by rw [x.length, sizeLine_eq]; exact z) I.hand fun h' t k hk => ?_
 rw [q3]
 exact end_val I hk (.bytes _ _ (by rw [toBytes_len e]; exact z)) h
theorem snd_str {i : Int} {t : Tok} (I : Inv C A fr φ Z m s) (hi : i.natAbs < 2 ^ 60) (h : Post C (RV C Z) fr φ Z s (.ok (.str (Str.ofString (toString i))) m) Q X) : wpAny (model C.prog C.w) A (call (.type "str") [.int i t]) Q X s := by
 refine PySem.P.str_of_int ?_ (end_tok I (.str _ _) h)
 by_cases h0 : i.natAbs = 0
 ·rw [h0]; decide
 ·have : i.natAbs.log2 < 60 := (Nat.log2_lt h0).mpr hi
  lia
end
theorem int_no_bytes : typeLookup (.type "int") "__bytes__" = pure none := by rw [typeLookup_type, builtinLookup_eq_fast]; kernel_rfl
theorem int_index : typeLookup (.type "int") "__index__" = pure (some (.builtin "int.__index__")) := by rw [typeLookup_type, builtinLookup_eq_fast]; kernel_rfl
theorem bytes_bytes : typeLookup (.type "bytes") "__bytes__" = pure (some (.builtin "bytes.__bytes__")) := by rw [typeLookup_type, builtinLookup_eq_fast]; kernel_rfl
section
variable {prog : Program} {w : World} {A : Around} {E : Value -> Shared -> Prop} {s : Shared}
theorem bn_bytes {b : Array UInt8} {t : Tok} {Q : Value -> Shared -> Prop} (hQ : Q (.bytes b t) s) :
  codeAny (model prog w) A (.call (.builtin "bytes.__new__") ⟨[.type "bytes", .bytes b t], []⟩) (wants Q E) s := by
 refine codeAny_of_tree ?_
 show wpAny _ A.in1 (do checkBuiltinCall "bytes.__new__" ⟨[.type "bytes", .bytes b t], []⟩; again (.builtin "bytes.__new__" ⟨[.type "bytes", .bytes b t], []⟩)) _ _ s
 refine wpAny_bind (wpAny_of_eq (F.bm_newCall _) (wpAny_pure ⟨plainId_quiet F.bm_plain _, codeAny_builtin F.bm_entry ?_⟩))
 rw [Around.under_plainId F.bm_plain _]
 have hT : s.TypeIs (.bytes b t) "bytes" := PySem.W.typeIs_bytes _ _ _
 unfold Builtin.«bytes.__new__»
 refine wpAny_bind (wpAny_of_eq (a := true) rfl ?_)
 refine bm_if_false rfl ?_
 refine wpAny_bind (wpAny_of_eq F.bm_sub ?_)
 refine bm_if_false rfl ?_
 refine wpAny_bind (wpAny_of_eq (F.bm_bind _) ?_)
 refine wpAny_bind (wpAny_of_eq (a := ()) rfl ?_)
 refine wpAny_bind (wpAny_of_eq (a := ()) rfl ?_)
 refine bm_if_false rfl ?_
 refine wpAny_bind (wpAny_specialOf hT bytes_bytes ?_)
 refine wpAny_bind (wpAny_rule ?_)
 refine wpAny_bind (wpAny_typeOf hT ?_)
 refine bm_if_true (by decide) ?_
 show wpAny _ _ (if (Value.type "bytes" == Value.type "bytes") = true then _ else _) _ _ _
 refine bm_if_true (by decide) ?_
 first
  | exact wpAny_pure hQ
  | exact wpAny_bind (wpAny_pure (wpAny_pure hQ))
theorem call_bytes_bytes {b : Array UInt8} {t : Tok} {Q : Value -> Shared -> Prop} (hQ : Q (.bytes b t) s) : wpAny (model prog w) A (call (.type "bytes") [.bytes b t]) Q E s := by
 refine callType_codes (Q₁ := fun obj s₁ => s₁.TypeIs obj "bytes" /\ Q obj s₁) F.bm_called (F.bm_typeCall _) F.entry_object_init
  (bn_bytes ⟨PySem.W.typeIs_bytes _ _ _, hQ⟩) fun obj s₁ h₁ => ?_
 exact ⟨h₁.1, F.args_object_init_2 obj _, object_init_meets F.bm_called.init.lookup F.bm_called.made (by decide) prog w A.in1 _ s₁ ⟨h₁.1, rfl, h₁.2⟩⟩
theorem bn_int {n : Int} {t : Tok} {Q : Value -> Shared -> Prop} (h0 : 0 <= n) (h1 : n <= 65536) (hQ : ∀ t, Q (.bytes (Array.replicate n.toNat 0) t) { s with toks := s.toks + 1 }) :
  codeAny (model prog w) A (.call (.builtin "bytes.__new__") ⟨[.type "bytes", .int n t], []⟩) (wants Q E) s := by
 refine codeAny_of_tree ?_
 show wpAny _ A.in1 (do checkBuiltinCall "bytes.__new__" ⟨[.type "bytes", .int n t], []⟩; again (.builtin "bytes.__new__" ⟨[.type "bytes", .int n t], []⟩)) _ _ s
 refine wpAny_bind (wpAny_of_eq (F.bm_newCall _) (wpAny_pure ⟨plainId_quiet F.bm_plain _, codeAny_builtin F.bm_entry ?_⟩))
 rw [Around.under_plainId F.bm_plain _]
 have hT : s.TypeIs (.int n t) "int" := typeIs_int _ _ _
 unfold Builtin.«bytes.__new__»
 refine wpAny_bind (wpAny_of_eq (a := true) rfl ?_)
 refine bm_if_false rfl ?_
 refine wpAny_bind (wpAny_of_eq F.bm_sub ?_)
 refine bm_if_false rfl ?_
 refine wpAny_bind (wpAny_of_eq (F.bm_bind _) ?_)
 refine wpAny_bind (wpAny_of_eq (a := ()) rfl ?_)
 refine wpAny_bind (wpAny_of_eq (a := ()) rfl ?_)
 refine bm_if_false rfl ?_
 refine wpAny_bind (wpAny_specialOf hT int_no_bytes ?_)
 refine wpAny_bind (wpAny_of_eq (a := false) rfl ?_)
 refine bm_if_false rfl ?_
 refine wpAny_bind (wpAny_specialOf hT int_index ?_)
 refine bm_if_false rfl ?_
 refine wpAny_bind (wpAny_attempt (wpAny_of_eq (a := n) rfl ?_))
 dsimp only
 have hfit : Builtin.Bytes.fitsIndex n = true := by unfold Builtin.Bytes.fitsIndex; simp; lia
 refine bm_if_false (by rw [hfit]; rfl) ?_
 have g1 : ¬ n < 0 := by lia
 rw [if_neg g1]
 have g2 : ¬ n > 2 ^ 63 - 34 := by lia
 rw [if_neg g2]
 have g3 : Builtin.Bytes.tooLong n.toNat = false := by
  unfold Builtin.Bytes.tooLong; rw [sizeLine_eq]; simp; lia
 refine bm_if_false g3 ?_
 refine wpAny_bind (wpAny_rule ?_)
 refine wpAny_bind (wpAny_mkBytes ?_ (by rw [sizeLine_eq]; simp; lia))
 show wpAny _ _ (if (Value.type "bytes" == Value.type "bytes") = true then _ else _) _ _ _
 refine bm_if_true (by decide) ?_
 first
  | exact wpAny_pure (hQ _)
  | exact wpAny_bind (wpAny_pure (wpAny_pure (hQ _)))
theorem call_bytes_int {n : Int} {t : Tok} {Q : Value -> Shared -> Prop} (h0 : 0 <= n) (h1 : n <= 65536) (hQ : ∀ t, Q (.bytes (Array.replicate n.toNat 0) t) { s with toks := s.toks + 1 }) : wpAny (model prog w) A (call (.type "bytes") [.int n t]) Q E s := by
 refine callType_codes (Q₁ := fun obj s₁ => s₁.TypeIs obj "bytes" /\ Q obj s₁) F.bm_called (F.bm_typeCall _) F.entry_object_init
  (bn_int h0 h1 fun t => ⟨PySem.W.typeIs_bytes _ _ _, hQ t⟩) fun obj s₁ h₁ => ?_
 exact ⟨h₁.1, F.args_object_init_2 obj _, object_init_meets F.bm_called.init.lookup F.bm_called.made (by decide) prog w A.in1 _ s₁ ⟨h₁.1, rfl, h₁.2⟩⟩
end
section
open PySem.W.FB
theorem slot_join : Slot "bytes" "join" "bytes.join" :=
 .of (owner := "bytes") (n := "join") (by rw [typeLookup_type, builtinLookup_eq_fast]; kernel_rfl) (by decide +kernel) (by decide +kernel) (by decide +kernel)
  (by first | exact .inl (by decide +kernel) | exact .inr (by decide +kernel)) (by rw [isSubtype_type]; kernel_rfl)
theorem type_join : typeOf (.builtin "bytes.join") = pure (.type "method_descriptor") := by show builtinType _ = _; rw [builtinType_eq_fast]; kernel_rfl
theorem entry_join : entryFor table "bytes.join" = some Builtin.«bytes.join» := entryFor_of_tree (by kernel_rfl)
theorem args_join (a b : Value) : argsOk "bytes.join" ⟨[a, b], []⟩ := by
 unfold argsOk; rw [signature?_of (id := "bytes.join") (n := ['n', 'i', 'o', 'j']) (o := ['s', 'e', 't', 'y', 'b']) (by kernel_rfl) owner_bytes]; kernel_rfl
end
theorem self_one (a b : Value) : selfAndOne "bytes.join" ⟨[a, b], []⟩ = pure (a, b) := by kernel_rfl
theorem take_quiet {id : String} {b : Array UInt8} {t : Tok} : Builtin.Bytes.takeBufferQuiet? id (.bytes b t) 0 = pure (some (b, none)) := by
 unfold Builtin.Bytes.takeBufferQuiet? Builtin.Bytes.takeBuffer?
 rw [KBy.special_eq KBy.look_buffer, KBy.own_buffer]
 show (((do return (<- Builtin.Bytes.buffer? id (.bytes b t) (full := (0 : Int) == Builtin.Bytes.fullReadOnly)).map (·, none)) : Sem (Option (Array UInt8 × Option Value))).attempt >>= _) = _
 rw [show ((0 : Int) == Builtin.Bytes.fullReadOnly) = false from by decide, KBy.buffer_eq]
 rfl
noncomputable abbrev byVals (ps : List (List UInt8 × Tok)) : List Value := ps.map fun p => .bytes p.1.toArray p.2
theorem joined_nil : ∀ (ps : List (Array UInt8)) (k : Nat) (acc : Array UInt8), (ps.zipIdx k).foldl (fun out (p, i) => (if i > 0 then out ++ (#[] : Array UInt8) else out) ++ p) acc = acc ++ (ps.map Array.toList).flatten.toArray
 | [], k, acc => by simp
 | p :: r, k, acc => by
  rw [List.zipIdx_cons, List.foldl_cons, joined_nil r]
  have h0 : (if k > 0 then acc ++ (#[] : Array UInt8) else acc) = acc := by rw [Array.append_empty]; exact ite_self _
  show ((if k > 0 then acc ++ (#[] : Array UInt8) else acc) ++ p) ++ _ = _
  rw [h0, List.map_cons, List.flatten_cons]
  apply Array.toList_inj.mp
  simp
theorem size_sum : ∀ (ps : List (Array UInt8)) (k : Nat), ps.foldl (fun a p => a + p.size) k = k + (ps.map Array.toList).flatten.length
 | [], k => by simp
 | p :: r, k => by rw [List.foldl_cons, size_sum r]; simp; lia
section
variable {prog : Program} {w : World} {A : Around} {E : Value -> Shared -> Prop} {s : Shared}
theorem wpAny_loopR {β : Type} {M : Model} (f : Nat -> β -> Sem (ForInStep β)) (I : Nat -> β -> Prop) (n : Nat) (step : ∀ k b (Q : ForInStep β -> Shared -> Prop), k < n -> I k b -> (∀ b', I (k + 1) b' -> Q (.yield b') s) -> wpAny M A (f k b) Q E s) :
  ∀ (j k : Nat) (b : β) (Q : β -> Shared -> Prop), I k b -> k + j = n -> (∀ b', I n b' -> Q b' s) -> wpAny M A (forIn (List.range' k j 1) b f) Q E s
 | 0, k, b, Q, hI, hk, hQ => by
  obtain rfl : k = n := by lia
  exact wpAny_pure (hQ b hI)
 | j + 1, k, b, Q, hI, hk, hQ => by
  rw [List.range'_succ, List.forIn_cons]
  refine wpAny_bind (step k b _ (by lia) hI fun b' hI' => ?_)
  exact wpAny_loopR f I n step j (k + 1) b' Q hI' (by lia) hQ
theorem match_eq {γ : Type} (its : Array Value) (f : Value -> γ) (g : γ) : its.size ≠ 1 -> (match its with | #[x] => f x | _ => g) = g := by
 obtain ⟨l⟩ := its
 intro h
 induction l using List.casesOn with
 | nil => rfl
 | cons a l =>
  induction l using List.casesOn with
  | nil => contradiction
  | cons b l => rfl
theorem match_ne {γ : Type} (its : Array Value) (P : γ -> Prop) (f : Value -> γ) (g : γ) (hg : P g) (h : its.size ≠ 1) : P (no_index (match (generalizing := false) its with | #[x] => f x | _ => g)) := (match_eq its f g h).symm ▸ hg
theorem joinLetGo_plain {M : Model} {keep : List Value} {Q : Unit -> Shared -> Prop} (h : Q () s) : ∀ (ps : List (List UInt8 × Tok)), wpAny M A (Builtin.Bytes.joinLetGo ((byVals ps).map fun v => (v, (none : Option Value))) keep) Q E s
 | [] => wpAny_pure h
 | p :: r => by
  show wpAny M A (Builtin.Bytes.joinLetGo ((Value.bytes p.1.toArray p.2, none) :: (byVals r).map fun v => (v, (none : Option Value))) keep) Q E s
  exact wpAny_bind (wpAny_letGo (joinLetGo_plain h r))
theorem call_join {l : Addr} {ps : List (List UInt8 × Tok)} {t : Tok} {Q : Value -> Shared -> Prop} (hl : s.heap.IsList l (byVals ps).toArray) (hz : ((ps.map (·.1)).flatten).length <= 65536) (hQ : ∀ t' k, Q (.bytes ((ps.map (·.1)).flatten).toArray t') { s with toks := k }) :
  wpAny (model prog w) A (call (.builtin "bytes.join") [.bytes #[] t, .ref l]) Q E s := by
 refine wpAny_call_entry slot_join (PySem.W.typeIs_bytes _ _ _) entry_join ?_ (args_join _ _)
 obtain ⟨ol, hol, hoc, nl, hod⟩ := id hl
 show wpAny _ _ (Builtin.Bytes.joinM .bytes ⟨[.bytes #[] t, .ref l], []⟩) _ _ s
 unfold Builtin.Bytes.joinM
 refine wpAny_bind (wpAny_of_eq (self_one _ _) ?_)
 refine bm_if_true (by decide) ?_
 unfold Builtin.Bytes.joinItems
 refine wpAny_bind (wpAny_bind (wpAny_typeOf hl.typeIs ?_))
 refine bm_if_true (by decide) ?_
 refine wpAny_pure ?_
 refine wpAny_bind (wpAny_seqItems hol hod ?_)
 dsimp only
 refine bm_if_true (by decide) ?_
 by_cases hone : ∃ p, ps = [p]
 ·obtain ⟨p, rfl⟩ := hone
  refine wpAny_bind (wpAny_typeOf (PySem.W.typeIs_bytes _ p.1.toArray p.2) ?_)
  refine bm_if_true (by decide) ?_
  refine wpAny_bind (wpAny_rule ?_)
  have hQ' := hQ p.2 s.toks
  simp only [List.map_cons, List.map_nil, List.flatten_cons, List.flatten_nil, List.append_nil] at hQ'
  exact wpAny_pure ⟨_, rfl, hQ'⟩
 ·have hne : (byVals ps).toArray.size ≠ 1 := fun h => by
   induction ps using List.casesOn with
   | nil => simp [byVals] at h
   | cons p r =>
    induction r using List.casesOn with
    | nil => exact hone ⟨p, rfl⟩
    | cons q r => simp [byVals] at h
  refine match_ne _ (fun c => wpAny (model prog w) A.in1 c (fun fin s' => ∃ v, fin = Fin.done (Flow.ret v) /\ Q v s') E s) _ _ ?_ hne
  refine wpAny_bind ?_
  rw [Std.Legacy.Range.forIn_eq_forIn_range']
  have hsz : Std.Legacy.Range.size [:(byVals ps).toArray.size] = ps.length := by simp [Std.Legacy.Range.size, byVals]
  rw [hsz]
  refine wpAny_loopR _ (fun k b => b.1.toList = (ps.take k).map (fun p => p.1.toArray) /\ b.2 = (byVals (ps.take k)).map fun v => (v, (none : Option Value))) ps.length ?_ ps.length 0 _ _ ⟨rfl, rfl⟩ (by simp) ?_
  ·intro k b Q' hk hb hQ'
   obtain ⟨parts, taken⟩ := b
   obtain ⟨hb1, hb2⟩ := hb
   dsimp only at hb1 hb2 ⊢
   obtain ⟨p, hp⟩ : ∃ p, ps[k]? = some p := ⟨ps[k], List.getElem?_eq_getElem hk⟩
   refine wpAny_bind (wpAny_seqItems hol hod ?_)
   dsimp only
   have hget : (byVals ps).toArray.getD k Value.none = .bytes p.1.toArray p.2 := by
    rw [Array.getD_eq_getD_getElem?]
    simp [byVals, hp]
   rw [hget]
   have hany : taken.any (fun x => x.1.onHeap) = false := by
    subst hb2
    rw [byVals, List.map_map]
    exact List.any_eq_false.mpr fun y hy => e1_2 (List.mem_map.mp hy) fun q _ e => by rw [<- e]; exact Bool.false_ne_true
   refine bm_if_false (by rw [hany]; rfl) ?_
   refine wpAny_bind (wpAny_holding (wpAny_of_eq take_quiet ?_))
   dsimp only
   refine wpAny_bind (wpAny_seqItems hol hod ?_)
   dsimp only
   refine bm_if_false (by simp) ?_
   refine wpAny_pure (hQ' _ ⟨?_, ?_⟩)
   ·rw [Array.toList_push, hb1, List.take_add_one, hp]; simp
   ·rw [hb2, List.take_add_one, hp]; simp [byVals]
  ·rintro ⟨parts, taken⟩ ⟨hb1, hb2⟩
   dsimp only at hb1 hb2 ⊢
   rw [List.take_length] at hb1 hb2
   refine wpAny_bind (wpAny_of_eq (a := #[]) rfl ?_)
   have hsum : (Array.foldl (fun x1 x2 => x1 + x2.size) ((#[] : Array UInt8).size * (parts.size - 1)) parts) = ((ps.map (·.1)).flatten).length := by
    rw [<- Array.foldl_toList, hb1, size_sum]
    simp [Function.comp_def]
   refine bm_if_false (by rw [hsum]; exact KBy.tooLong_not (by lia)) ?_
   have hj : Builtin.Bytes.joined #[] parts.toList = ((ps.map (·.1)).flatten).toArray := by
    rw [hb1]
    unfold Builtin.Bytes.joined
    rw [joined_nil]
    simp [Function.comp_def]
   rw [hj]
   refine wpAny_bind (wpAny_mkBytes ?_ (by rw [sizeLine_eq]; simp; simp at hz; lia))
   refine wpAny_bind (wpAny_holding (wpAny_point ?_))
   rw [hb2]
   refine wpAny_bind (joinLetGo_plain ?_ ps)
   exact wpAny_pure ⟨_, rfl, hQ _ _⟩
end
noncomputable def CallOk (C : Cst) (Rm : Around -> Prop) (a : Addr) (F : List D -> M D) : Prop :=
 ∀ {A : Around} {fr : List Env} {φ : List (List Addr)} {Z : List Addr} {m : Mem} {s : Shared} {args : List D} {vs : List Value} {Q X : Value -> Shared -> Prop}, Rm A -> (∃ L, L ∈ Z) -> Inv C A fr φ Z m s -> DAll C.K φ Z s.heap vs args ->
  Post C (RV C Z) fr φ Z s (F args m) Q X -> wpAny (model C.prog C.w) A (call (.ref a) vs) Q X s
structure TabOk (C : Cst) (T : Tabs) (Rm : Around -> Prop) : Prop where
 units : ∀ A, Rm A -> A.units + 64 < cLine
 glob : ∀ x d, T.glob x = some d -> ∃ i t, d = .int i /\ C.mg x = some (.int i t)
 fn : ∀ f, T.isFn f = true -> ∃ a, C.mg f = some (.ref a) /\ keepIn C.K (.ref a) = true /\ CallOk C Rm a (T.fn f)
 bi : ∀ b ∈ biNames, T.isFn (Str.ofString b) = false -> C.mg (Str.ofString b) = none /\ C.mb (Str.ofString b) = some (biV b)
 meth : ∀ c x, T.methOk c x = true -> ∃ Cc f, clsA C.K c = some Cc /\ plainGet C.K Cc x = true /\ findIn C.K (.ref Cc) x = some (some (.ref f)) /\ isFn C.K (.ref f) = true /\ keepIn C.K (.ref f) = true /\ CallOk C Rm f (T.meth c x)
 field : ∀ c x, T.fieldOk c x = true -> ∃ Cc attr, clsA C.K c = some Cc /\ plainGet C.K Cc x = true /\ hasDictIn C.K Cc = true /\ findIn C.K (.ref Cc) x = some attr /\ noGet C.K attr = true
section
variable {C : Cst} {T : Tabs} {Rm : Around -> Prop}
noncomputable def SE (C : Cst) (T : Tabs) (Rm : Around -> Prop) (n : Nat) : Prop :=
 ∀ {sc : Scope} {e : Expr} {E : Env} {A : Around} {fr : List Env} {φ : List (List Addr)} {Z : List Addr} {m : Mem} {s : Shared} {Q X : Value -> Shared -> Prop} {vars : Vars}, Rm A -> Inv C A fr φ Z m s -> EnvOk E sc -> VarsAt C.K φ Z s.heap E sc vars ->
  Post C (RV C Z) fr φ Z s (ev T n sc e vars m) Q X -> wpAny (model C.prog C.w) A (eval e E) Q X s
noncomputable def ST (C : Cst) (T : Tabs) (Rm : Around -> Prop) (n : Nat) : Prop :=
 ∀ {sc : Scope} {e : Expr} {E : Env} {A : Around} {fr : List Env} {φ : List (List Addr)} {Z : List Addr} {m : Mem} {s : Shared} {Q : Bool -> Shared -> Prop} {X : Value -> Shared -> Prop} {vars : Vars}, Rm A -> Inv C A fr φ Z m s -> EnvOk E sc -> VarsAt C.K φ Z s.heap E sc vars ->
  Post C RB fr φ Z s (tst T n sc e vars m) Q X -> wpAny (model C.prog C.w) A (isTrue e E (eval e E)) Q X s
noncomputable def STs (C : Cst) (T : Tabs) (Rm : Around -> Prop) (n : Nat) : Prop :=
 ∀ {sc : Scope} {op : BoolOp} {es : List Expr} {E : Env} {A : Around} {fr : List Env} {φ : List (List Addr)} {Z : List Addr} {m : Mem} {s : Shared} {Q : Bool -> Shared -> Prop} {X : Value -> Shared -> Prop} {vars : Vars}, Rm A -> Inv C A fr φ Z m s -> EnvOk E sc -> VarsAt C.K φ Z s.heap E sc vars ->
  Post C RB fr φ Z s (tsts T n sc op es vars m) Q X -> wpAny (model C.prog C.w) A (allTrue op es E) Q X s
noncomputable def SC (C : Cst) (T : Tabs) (Rm : Around -> Prop) (n : Nat) : Prop :=
 ∀ {sc : Scope} {a : D} {v : Value} {ops : List CmpOp} {rs : List Expr} {pos : Pos} {E : Env} {A : Around} {fr : List Env} {φ : List (List Addr)} {Z : List Addr} {m : Mem} {s : Shared} {Q : Bool -> Shared -> Prop} {X : Value -> Shared -> Prop} {vars : Vars}, Rm A -> Inv C A fr φ Z m s -> EnvOk E sc -> VarsAt C.K φ Z s.heap E sc vars ->
  DRep C.K φ Z s.heap v a -> Post C RB fr φ Z s (chain T n sc a ops rs vars m) Q X -> wpAny (model C.prog C.w) A (testChain pos v ops (markedEach ops rs (evalEach rs E))) Q X s
structure SAll (C : Cst) (T : Tabs) (Rm : Around -> Prop) (n : Nat) : Prop where
 e : SE C T Rm n
 t : ST C T Rm n
 ts : STs C T Rm n
 c : SC C T Rm n
theorem star_cons {e : Expr} {rest : List Expr} {E : Env} (h : notStar e = true) : starEach (e :: rest) E = (false, eval e E) :: starEach rest E := by
 induction e using Expr.casesOn <;> first | rfl | contradiction
theorem star_plain {E : Env} {pos : Pos} : ∀ {es : List Expr}, es.all notStar = true -> (backTo pos (starEach es E)).any (·.1) = false
 | [], _ => rfl
 | e :: r, h => by
  rw [List.all_cons, Bool.and_eq_true] at h
  rw [star_cons h.1]
  show (false || (backTo pos (starEach r E)).any (·.1)) = false
  rw [star_plain h.2]; rfl
section
variable {n : Nat} {sc : Scope} {E : Env} {A : Around} {fr : List Env} {φ : List (List Addr)} {Z : List Addr} {m : Mem} {s : Shared} {Q X : Value -> Shared -> Prop} {vars : Vars}
theorem snd_list' (hn : SE C T Rm n) (hR : Rm A) (ok : EnvOk E sc) {pos : Pos} : ∀ {es : List Expr} {φ : List (List Addr)} {m : Mem} {s : Shared} {Q : List Value -> Shared -> Prop}, es.all notStar = true -> Inv C A fr φ Z m s -> VarsAt C.K φ Z s.heap E sc vars ->
  Post C (RL C Z) fr φ Z s (evList (fun e => ev T n sc e vars) es m) Q X -> wpAny (model C.prog C.w) A (spliced (backTo pos (starEach es E))) Q X s
 | [], φ, m, s, Q, _, I, V, h => spliced_nil (h _ _ _ (Step.refl ..) I.mem .nil)
 | e :: r, φ, m, s, Q, hs, I, V, h => by
  rw [List.all_cons, Bool.and_eq_true] at hs
  refine wpAny_items_cons ?_ (star_cons hs.1)
  refine wpAny_mono (hn hR I ok V (Post.bind h)) (fun v s₁ hv => ?_) fun _ _ x => x
  obtain ⟨d, m₁, φ₁, st, q, r1, h₁⟩ := hv
  refine wpAny_mono (snd_list' hn hR ok hs.2 (I.step st q) (V.step st) (Post.bind h₁)) (fun vs s₂ hv => ?_) fun _ _ x => x
  obtain ⟨ds, m₂, φ₂, st₂, q₂, r2, h₂⟩ := hv
  exact h₂ _ _ _ (Step.refl ..) q₂ (.cons (r1.step st₂) r2)
theorem se_const {c : Const} {k : Nat} {pos : Pos} {d : D} (I : Inv C A fr φ Z m s) (e : constD c = some d) (h : Post C (RV C Z) fr φ Z s (.ok d m) Q X) : wpAny (model C.prog C.w) A (eval (.Constant c k pos) E) Q X s := by
 induction c with
 | none => rw [<- Option.some.inj e] at h; exact Constant_none (end_same I .none h)
 | bool => rw [<- Option.some.inj e] at h; exact Constant_bool (end_same I (.bool _) h)
 | int => rw [<- Option.some.inj e] at h; exact wpAny_Constant_int (end_tok I (.int _ _) h)
 | str => rw [<- Option.some.inj e] at h; exact wpAny_Constant_str (end_tok I (.str _ _) h)
 | bytes b =>
  have q := some_if e
  rw [<- q.2] at h
  exact Constant_bytes (end_tok I (.bytes _ _ (Nat.le_trans q.1 (by decide))) h)
 | _ => exact none_some e
inductive InstOf (K : Frag) (φ : List (List Addr)) (Z : List Addr) (h : Heap) (c : Str) (fs : List (Str × D)) : Value -> Prop
 | mk (a dx Cc : Addr) (es : List DictEntry) (k : Nat) : clsA K c = some Cc -> h.get? a = some (instObj Cc dx) -> h.get? dx = some (dictOf es k) -> FAll K φ Z h es fs -> InstOf K φ Z h c fs (.ref a)
theorem fields_of {d : D} {c : Str} {fs : List (Str × D)} (e : fields m d = some (c, fs)) : d = .inst c fs \/ ∃ i, d = .cell i /\ m[i]? = some (.inst c fs) := by
 induction d using D.casesOn with
 | inst c' fs' => exact .inl (congrArg (fun p : Str × List (Str × D) => D.inst p.1 p.2) (Option.some.inj e))
 | cell i =>
  refine .inr ⟨i, rfl, ?_⟩
  replace e : (match m[i]? with | some (.inst c fs) => some (c, fs) | _ => none) = some (c, fs) := e
  generalize m[i]? = o at e ⊢
  induction o with
  | none => exact none_some e
  | some x =>
   induction x using Cell.casesOn with
   | inst c' fs' => exact congrArg (fun p : Str × List (Str × D) => some (Cell.inst p.1 p.2)) (Option.some.inj e)
   | _ => exact none_some e
 | _ => exact none_some e
theorem CellAt.instOf {K : Frag} {h : Heap} {a : Addr} {r : List Addr} {x : Cell} {c : Str} {fs : List (Str × D)} (C : CellAt K φ Z h (a :: r) x) (e : x = .inst c fs) : InstOf K φ Z h c fs (.ref a) := by
 generalize q : a :: r = l at C
 induction C with
 | inst hc e1 e2 r p =>
  rw [(List.cons.inj q).1, <- (Cell.inst.inj e).1, <- (Cell.inst.inj e).2]
  exact .mk _ _ _ _ _ hc e1 e2 r
 | _ => contradiction
theorem fields_at {v : Value} {d : D} {c : Str} {fs : List (Str × D)} (I : Inv C A fr φ Z m s) (r : DRep C.K φ Z s.heap v d) (e : fields m d = some (c, fs)) : InstOf C.K φ Z s.heap c fs v := by
 rcases fields_of e with e | ⟨i, e, hm⟩
 ·rw [e] at r
  obtain ⟨a, dx, Cc, es, n, q, hc, h1, h2, _, _, _, _, x⟩ := r.inv
  rw [q]; exact .mk _ _ _ _ _ hc h1 h2 x
 ·rw [e] at r
  refine e2_2 r.inv fun a r' q hc => ?_
  refine e1_2 (I.mem.cell i _ hm) fun l hl x => ?_
  rw [hc] at hl
  rw [q]
  exact ((Option.some.inj hl).symm ▸ x : CellAt C.K φ Z s.heap (a :: r') (.inst c fs)).instOf rfl
theorem isStr_str {x y : Str} {t : Tok} : (Value.str x t).isStr y = (x == y) := rfl
theorem noRef {e : DictEntry} {y : Str} {t : Tok} (hk : e.key = .str y t) : DictEntry.refKey e = false := by rw [DictEntry.refKey, hk]
theorem getL_hit {e : DictEntry} {es : List DictEntry} {x y : Str} {t : Tok} (hk : e.key = .str y t) (q : (x == y) = true) : getL x (e :: es) = some (some e.val) := by
 have : e.key.isStr x = true := by rw [hk, isStr_str, eq_of_beq q]; exact beq_self_eq_true y
 unfold getL; rw [List.find?_cons, this]
theorem getL_miss {e : DictEntry} {es : List DictEntry} {x y : Str} {t : Tok} (hk : e.key = .str y t) (q : (x == y) = false) : getL x (e :: es) = getL x es := by
 have : e.key.isStr x = false := by rw [hk, isStr_str]; exact beq_eq_false_iff_ne.mpr fun z => beq_eq_false_iff_ne.mp q z.symm
 unfold getL
 rw [List.find?_cons, this, List.any_cons, noRef hk]; rfl
theorem FAll.get {x : Str} {d : D} {es : List DictEntry} {fs : List (Str × D)} (r : FAll C.K φ Z s.heap es fs) (h : fs.lookup x = some d) : ∃ v, getL x es = some (some v) /\ DRep C.K φ Z s.heap v d := by
 induction r using FAll.ind with
 | nil => exact none_some h
 | @cons e es y t d' fs hk hv r ih =>
  rw [List.lookup_cons] at h
  generalize q : (x == y) = c at h
  induction c with
  | true => exact ⟨_, getL_hit hk q, Option.some.inj h ▸ hv⟩
  | false => rw [getL_miss hk q]; exact ih h
theorem FAll.nope {x : Str} {es : List DictEntry} {fs : List (Str × D)} (r : FAll C.K φ Z s.heap es fs) (h : fs.lookup x = none) : getL x es = some none := by
 induction r using FAll.ind with
 | nil => rfl
 | @cons e es y t d' fs hk hv r ih =>
  rw [List.lookup_cons] at h
  generalize q : (x == y) = c at h
  induction c with
  | true => contradiction
  | false => rw [getL_miss hk q]; exact ih h
theorem inst_at {h : Heap} {a dx Cc : Addr} {es : List DictEntry} {k : Nat} (e1 : h.get? a = some (instObj Cc dx)) (e2 : h.get? dx = some (dictOf es k)) : InstAt h a (instObj Cc dx) Cc (some (dictOf es k)) :=
 ⟨e1, rfl, rfl, e2⟩
theorem base_whole {o : Expr} {x : Str} {w : Sem Value} (h : notSuper o = true) : attributeBase o x E w = w := by
 induction o using Expr.casesOn with
 | Call f es kws p =>
  induction f using Expr.casesOn with
  | Name y q =>
   induction es using List.casesOn with
   | nil =>
    induction kws using List.casesOn with
    | nil => contradiction
    | cons _ _ => rfl
   | cons _ _ => rfl
  | _ => rfl
 | _ => rfl
end
end
theorem cut_is {α : Type} (xs : List α) (lo : Option Int) (a b : Int) (hl : lo = some a \/ (lo = none /\ a = 0)) (h0 : 0 <= a) (h1 : a <= b) (h2 : b <= xs.length) : (xs.drop (kms_lo lo xs.length)).take (kms_hi (some b) xs.length - kms_lo lo xs.length) = cut xs a b := by
 unfold cut
 have e1 : kms_lo lo xs.length = a.toNat := by
  rcases hl with rfl | ⟨rfl, rfl⟩
  ·unfold kms_lo; simp only; rw [if_neg (by lia)]; lia
  ·rfl
 have e2 : kms_hi (some b) xs.length = b.toNat := by
  unfold kms_hi; simp only; rw [if_neg (by lia)]; lia
 rw [e1, e2]
theorem clip_is {n : Nat} {a : Int} (h0 : 0 <= a) (h1 : a <= n) : clipAt n a = a.toNat := by
 have : a = ((a.toNat : Nat) : Int) := by lia
 rw [this, clipAt_nat]
 lia
theorem cutb_is (xs : List UInt8) (lo : Option Int) (a b : Int) (hl : lo = some a \/ (lo = none /\ a = 0)) (h0 : 0 <= a) (h1 : a <= b) (h2 : b <= xs.length) : KBy.picked xs.toArray lo (some b) = (cut xs a b).toArray := by
 rw [KBc.picked_eq]
 unfold cut
 have hz : xs.toArray.size = xs.length := by simp
 rw [hz]
 have e1 : lo.elim 0 (clipAt xs.length) = a.toNat := by
  rcases hl with rfl | ⟨rfl, rfl⟩
  ·exact clip_is h0 (by lia)
  ·rfl
 have e2 : (some b).elim xs.length (clipAt xs.length) = b.toNat := clip_is (by lia) h2
 rw [e1, e2]
section
variable {C : Cst} {A : Around} {fr : List Env} {φ : List (List Addr)} {Z : List Addr} {m : Mem} {s : Shared} {Q : Value -> Shared -> Prop} {X : Value -> Shared -> Prop} {v vl vu : Value} {L : Addr} {mm : Str -> Option Value}
theorem cut_len {α : Type} (xs : List α) (a b : Int) : (cut xs a b).length <= xs.length := by
 unfold cut; rw [List.length_take, List.length_drop]; exact Nat.le_trans (Nat.min_le_right _ _) (Nat.sub_le _ _)
theorem cut_of {o d : D} {a b : Int} (n : ¬ ∃ xs, o = .bytes xs) (e : cutD m o a b = some d) : (items m o).bind (fun ds => if 0 <= a /\ a <= b /\ b <= ds.length then some (D.lst (cut ds a b)) else none) = some d := by
 induction o using D.casesOn with
 | bytes xs => exact absurd ⟨xs, rfl⟩ n
 | _ => exact e
theorem snd_cut {o : D} {d : D} {a b : Int} {lo : Option Int} {x : Str} {op : Pos} {slice : Expr} (I : Inv C A fr φ Z m s) (hL : L ∈ Z) (hn : s.heap.Ns L mm) (ra : DRep C.K φ Z s.heap v o) (pl : IsPart vl lo) (pu : IsPart vu (some b)) (hlo : lo = some a \/ (lo = none /\ a = 0))
  (e : cutD m o a b = some d) (h : Post C (RV C Z) fr φ Z s (.ok d m) Q X)
  (hs : ∀ o i, subscripted slice false o i = operate [i, o] (getItem o i)) :
  wpAny (model C.prog C.w) A (subscriptTail (.Name x op) slice v (.ref s.heap.objs.size)) Q X { s with heap := s.heap.push { cls := .type "slice", data := .fields #[vl, vu, .none] } } := by
 have other : ∀ (o : D), (items m o).bind (fun ds => if 0 <= a /\ a <= b /\ b <= ds.length then some (D.lst (cut ds a b)) else none) = some d -> DRep C.K φ Z s.heap v o ->
   wpAny (model C.prog C.w) A (subscriptTail (.Name x op) slice v (.ref s.heap.objs.size)) Q X { s with heap := s.heap.push { cls := .type "slice", data := .fields #[vl, vu, .none] } } := fun o e ra => by
  refine e1_2 (Option.bind_eq_some_iff.mp e) fun ds e1 e2 => ?_
  have q := if_some e2
  obtain ⟨l, vs, n, ho, z, xx⟩ := items_at I ra e1
  refine slice_list (I.fr0 hL hn) (I.news hL) (listAt ho) pl pu (fun h' F N => ?_) (hs _ _) (fun _ => rfl) (by rw [items_len xx, sizeLine_eq]; exact z)
  have hp : slicePick vs.toArray lo (some b) none = (cut vs a b).toArray := by
   rw [kms_pick_eq]
   unfold kms_pick
   rw [show vs.toArray.toList = vs from rfl, cut_is vs lo a b hlo q.1.1 q.1.2.1 (by rw [xx.length]; exact q.1.2.2)]
  have hD := (N _ (.head _)).1
  rw [hp] at hD
  rw [<- Option.some.inj q.2] at h
  have nw := I.fresh (none_of_size (Nat.le_succ s.heap.objs.size))
  exact end_news (tk := s.toks) I hL hn F N (fun p hp => .tail _ hp) (fun st => .lst (n := 0) hD (Nat.le_trans (cut_len ds a b) z) nw.1 nw.2 (((xx.drop a.toNat).take (b.toNat - a.toNat)).step st)) h
 by_cases hb : ∃ xs, o = .bytes xs
 ·obtain ⟨xs, q⟩ := hb
  rw [q] at ra e
  have q := some_if e
  rw [<- q.2] at h
  refine e1_2 ra.inv fun t q1 z => ?_
  rw [q1]
  refine KBc.slice_K (ks := KBw.bInts xs.toArray) (I.fr0 hL hn) (I.news hL) rfl pl pu (by rw [KBw.ints_length]; simpa using z) (fun h' t' k F N _ => ?_) (hs _ _) (fun _ => rfl)
  rw [cutb_is xs lo a b hlo q.1.1 q.1.2.1 q.1.2.2]
  exact end_news (tk := k) I hL hn F N (fun p hp => hp) (fun st => .bytes _ _ (Nat.le_trans (cut_len xs a b) z)) h
 ·exact other o (cut_of hb e) ra
end
section
variable {M : Model} {A : Around} {E : Value -> Shared -> Prop} {s : Shared} {env : Env}
theorem evalArgs_any {f : Value} {pos : Pos} {Q : Args -> Shared -> Prop} : ∀ {es : List Expr}, es.all notStar = true -> wpAny M A (spliced (backTo pos (starEach es env))) (fun vs s' => Q ⟨vs, []⟩ s') E s ->
  wpAny M A (evalArgs f true (backTo pos (starEach es env)) []) Q E s
 | [], _, h => by
  unfold evalArgs
  show wpAny M A (spliced [] >>= _) Q E s
  refine wpAny_bind (wpAny_mono h (fun vs s' h' => ?_) fun _ _ x => x)
  refine wpAny_bind (wpAny_pure ?_)
  refine wpAny_holding ?_
  exact wpAny_bind (wpAny_pure (wpAny_bind (wpAny_pure (wpAny_pure h'))))
 | e :: r, hs, h => by
  rw [List.all_cons, Bool.and_eq_true] at hs
  rw [star_cons hs.1] at h ⊢
  exact evalArgs_plain h
end
theorem callWith_bi {M : Model} {A : Around} {E : Value -> Shared -> Prop} {s : Shared} {env : Env} {pos : Pos} {b : String} {es : List Expr} {Q : Value -> Shared -> Prop} (hs : es.all notStar = true)
  (h : wpAny M A (spliced (backTo pos (starEach es env))) (fun vs s₁ => wpAny M A (call (biV b) vs) Q E s₁) E s) : wpAny M A (callWith pos (biV b) [] (backTo pos (starEach es env)) []) Q E s := by
 unfold biV at h ⊢
 by_cases q : b = "len" \/ b = "max" \/ b = "min"
 ·rw [if_pos q] at h ⊢
  exact callWith_builtin (star_plain hs) (evalArgs_any hs h)
 ·rw [if_neg q] at h ⊢
  exact PyProof.Rows.callWith_type (star_plain hs) (evalArgs_any hs h)
section
variable {C : Cst} {A : Around} {fr : List Env} {φ : List (List Addr)} {Z : List Addr} {m : Mem} {s : Shared} {Q : Value -> Shared -> Prop} {X : Value -> Shared -> Prop} {v w : Value} {L : Addr} {mm : Str -> Option Value}
theorem dall1 {vs : List Value} {d : D} {K : Frag} {h : Heap} (x : DAll K φ Z h vs [d]) : ∃ v, vs = [v] /\ DRep K φ Z h v d := by
 refine e2_3 x.inv fun v ws e r x => ?_
 exact ⟨v, by rw [e, x.inv0], r⟩
theorem dall2 {vs : List Value} {d e : D} {K : Frag} {h : Heap} (x : DAll K φ Z h vs [d, e]) : ∃ v w, vs = [v, w] /\ DRep K φ Z h v d /\ DRep K φ Z h w e := by
 refine e2_3 x.inv fun v ws e r x => ?_
 refine e1_2 (dall1 x) fun w e2 r2 => ?_
 exact ⟨v, w, by rw [e, e2], r, r2⟩
theorem bi1_is {f : D -> Option D} {ds : List D} {d : D} (e : bi1 f ds = some d) : ∃ x, ds = [x] /\ f x = some d := by
 induction ds using List.casesOn with
 | nil => exact none_some e
 | cons x r =>
  induction r using List.casesOn with
  | nil => exact ⟨x, rfl, e⟩
  | cons _ _ => exact none_some e
theorem biInt_is {x d : D} (e : biInt x = some d) : (∃ i, x = .int i /\ d = .int i) \/ ∃ b, x = .bool b /\ d = .int (if b then 1 else 0) := by
 induction x using D.casesOn with
 | int i => exact .inl ⟨i, rfl, (Option.some.inj e).symm⟩
 | bool b => exact .inr ⟨b, rfl, (Option.some.inj e).symm⟩
 | _ => exact none_some e
theorem biMin_is {f : List Int -> Option Int} {x d : D} (e : biMin f x = some d) : ∃ l ns r, x = .lst l /\ toInts l = some ns /\ f ns = some r /\ d = .int r := by
 induction x using D.casesOn with
 | lst l =>
  refine e1_2 (Option.map_eq_some_iff.mp (show ((toInts l).bind f).map D.int = some d from e)) fun k e1 e2 => ?_
  refine e1_2 (Option.bind_eq_some_iff.mp e1) fun ns e3 e4 => ?_
  exact ⟨l, ns, k, rfl, e3, e4, e2.symm⟩
 | _ => exact none_some e
theorem int_is {f : Int -> Option D} {x d : D} (e : (match x with | .int i => f i | _ => none) = some d) : ∃ i, x = .int i /\ f i = some d := by
 induction x using D.casesOn with
 | int i => exact ⟨i, rfl, e⟩
 | _ => exact none_some e
theorem ite_is {c : Prop} [Decidable c] {x d : D} (e : (if c then some x else none) = some d) : c /\ d = x := by
 by_cases h : c
 ·rw [if_pos h] at e; exact ⟨h, (Option.some.inj e).symm⟩
 ·rw [if_neg h] at e; exact nomatch e
theorem max2_is {x y d : D} (e : max2 x y = some d) : ∃ a b, x = .int a /\ y = .int b /\ d = .int (if a < b then b else a) := by
 induction x using D.casesOn with
 | int a =>
  refine e1_2 (int_is (x := y) (f := fun b => some (.int (if a < b then b else a))) (by induction y using D.casesOn <;> exact e)) fun b e1 e2 => ?_
  exact ⟨a, b, rfl, e1, (Option.some.inj e2).symm⟩
 | _ => exact none_some e
theorem biBytes_is {x d : D} (e : biBytes x = some d) : (∃ b, x = .bytes b /\ d = .bytes b) \/ (∃ n, x = .int n /\ (0 <= n /\ n <= cap) /\ d = .bytes (List.replicate n.toNat 0)) \/ ∃ l b, x = .lst l /\ toBytes l = some b /\ d = .bytes b := by
 induction x using D.casesOn with
 | bytes b => exact .inl ⟨b, rfl, (Option.some.inj e).symm⟩
 | int n => have e := ite_is (show (if 0 <= n /\ n <= cap then some (D.bytes (List.replicate n.toNat 0)) else none) = some d from e); exact .inr (.inl ⟨n, rfl, e.1, e.2⟩)
 | lst l =>
  refine e1_2 (Option.map_eq_some_iff.mp (show (toBytes l).map D.bytes = some d from e)) fun k e1 e2 => ?_
  exact .inr (.inr ⟨l, k, rfl, e1, e2.symm⟩)
 | _ => exact none_some e
section
variable {vs : List Value} {ds : List D} {d : D}
theorem bi_len (I : Inv C A fr φ Z m s) (ra : DAll C.K φ Z s.heap vs ds) (e : biD m "len" ds = some d) (h : Post C (RV C Z) fr φ Z s (.ok d m) Q X) : wpAny (model C.prog C.w) A (call (.builtin "len") vs) Q X s := by
 refine e1_2 (bi1_is (f := fun d => (lenD m d).map D.int) e) fun x e1 e2 => ?_
 refine e1_2 (Option.map_eq_some_iff.mp e2) fun k e3 e4 => ?_
 subst e1
 refine e1_2 (dall1 ra) fun v e5 r => ?_
 rw [e5]
 exact snd_len I r e3 (e4 ▸ h)
theorem bi_list (I : Inv C A fr φ Z m s) (ra : DAll C.K φ Z s.heap vs ds) (e : biD m "list" ds = some d) (h : Post C (RV C Z) fr φ Z s (.ok d m) Q X) : wpAny (model C.prog C.w) A (call (.type "list") vs) Q X s := by
 refine e1_2 (bi1_is (f := fun d => (items m d).map D.lst) e) fun x e1 e2 => ?_
 refine e1_2 (Option.map_eq_some_iff.mp e2) fun k e3 e4 => ?_
 subst e1
 refine e1_2 (dall1 ra) fun v e5 r => ?_
 rw [e5]
 exact snd_list I r e3 (e4 ▸ h)
theorem bi_int (I : Inv C A fr φ Z m s) (ra : DAll C.K φ Z s.heap vs ds) (e : biD m "int" ds = some d) (h : Post C (RV C Z) fr φ Z s (.ok d m) Q X) : wpAny (model C.prog C.w) A (call (.type "int") vs) Q X s := by
 refine e1_2 (bi1_is (f := biInt) e) fun x e1 e2 => ?_
 subst e1
 refine e1_2 (dall1 ra) fun v e5 r => ?_
 rw [e5]
 rcases biInt_is e2 with ⟨i, e3, e4⟩ | ⟨b, e3, e4⟩
 ·rw [e3] at r
  refine e1_1 r.inv fun t e6 => ?_
  rw [e6]
  exact call_int_int (end_same I (.int _ _) (e4 ▸ h))
 ·rw [e3] at r
  rw [show v = .bool b from r.inv]
  exact call_int_bool (end_tok I (.int _ _) (e4 ▸ h))
theorem bi_min (I : Inv C A fr φ Z m s) (hL : L ∈ Z) (hn : s.heap.Ns L mm) (ra : DAll C.K φ Z s.heap vs ds) (e : biD m "min" ds = some d) (h : Post C (RV C Z) fr φ Z s (.ok d m) Q X) : wpAny (model C.prog C.w) A (call (.builtin "min") vs) Q X s := by
 refine e1_2 (bi1_is (f := biMin minL) e) fun x e1 e2 => ?_
 subst e1
 refine e1_2 (dall1 ra) fun v e5 r => ?_
 refine e3_4 (biMin_is e2) fun l ns k e6 e7 e8 e9 => ?_
 rw [e6] at r
 rw [e5]
 exact (snd_minmax I hL hn r e7 (e9 ▸ h)).1 e8
theorem bi_max (I : Inv C A fr φ Z m s) (hL : L ∈ Z) (hn : s.heap.Ns L mm) (ra : DAll C.K φ Z s.heap vs ds) (e : biD m "max" ds = some d) (h : Post C (RV C Z) fr φ Z s (.ok d m) Q X) : wpAny (model C.prog C.w) A (call (.builtin "max") vs) Q X s := by
 have e : biMax ds = some d := e
 match ds, e, ra with
 | [], e, _ => exact nomatch (show (none : Option D) = some d from e)
 | [x], e, ra =>
  refine e1_2 (dall1 ra) fun v e5 r => ?_
  refine e3_4 (biMin_is (f := maxL) e) fun l ns k e6 e7 e8 e9 => ?_
  rw [e6] at r
  rw [e5]
  exact (snd_minmax I hL hn r e7 (e9 ▸ h)).2 e8
 | [x, y], e, ra =>
  refine e2_3 (dall2 ra) fun v w e5 r q => ?_
  refine e2_3 (max2_is e) fun a b e1 e2 e3 => ?_
  rw [e1] at r
  rw [e2] at q
  refine e1_1 r.inv fun t e6 => ?_
  refine e1_1 q.inv fun u e7 => ?_
  rw [e5, e6, e7]
  exact snd_max2 I (e3 ▸ h)
 | _ :: _ :: _ :: _, e, _ => exact nomatch (show (none : Option D) = some d from e)
theorem bi_range (I : Inv C A fr φ Z m s) (ra : DAll C.K φ Z s.heap vs ds) (e : biD m "range" ds = some d) (h : Post C (RV C Z) fr φ Z s (.ok d m) Q X) : wpAny (model C.prog C.w) A (call (.type "range") vs) Q X s := by
 refine e1_2 (bi1_is (f := biRange) e) fun x e1 e2 => ?_
 subst e1
 refine e1_2 (dall1 ra) fun v e5 r => ?_
 refine e1_2 (int_is (f := fun i => if 0 <= i /\ i <= cap then some (.rng i.toNat) else none) (x := x) (by induction x using D.casesOn <;> exact e2)) fun i e3 e4 => ?_
 refine e0_2 (ite_is e4) fun e6 e7 => ?_
 rw [e3] at r
 refine e1_1 r.inv fun t e8 => ?_
 rw [e5, e8]
 exact snd_range I e6.1 (e7 ▸ h)
theorem bi_str (I : Inv C A fr φ Z m s) (ra : DAll C.K φ Z s.heap vs ds) (e : biD m "str" ds = some d) (h : Post C (RV C Z) fr φ Z s (.ok d m) Q X) : wpAny (model C.prog C.w) A (call (.type "str") vs) Q X s := by
 refine e1_2 (bi1_is (f := biStr) e) fun x e1 e2 => ?_
 subst e1
 refine e1_2 (dall1 ra) fun v e5 r => ?_
 refine e1_2 (int_is (f := fun i => if i.natAbs < 2 ^ 60 then some (.str (Str.ofString (toString i))) else none) (x := x) (by cases x <;> exact e2)) fun i e3 e4 => ?_
 refine e0_2 (ite_is e4) fun e6 e7 => ?_
 rw [e3] at r
 refine e1_1 r.inv fun t e8 => ?_
 rw [e5, e8]
 exact snd_str I e6 (e7 ▸ h)
theorem bi_bytes (I : Inv C A fr φ Z m s) (ra : DAll C.K φ Z s.heap vs ds) (e : biD m "bytes" ds = some d) (h : Post C (RV C Z) fr φ Z s (.ok d m) Q X) : wpAny (model C.prog C.w) A (call (.type "bytes") vs) Q X s := by
 refine e1_2 (bi1_is (f := biBytes) e) fun x e1 e2 => ?_
 subst e1
 refine e1_2 (dall1 ra) fun v e5 r => ?_
 rw [e5]
 rcases biBytes_is e2 with ⟨b, e3, e4⟩ | ⟨n, e3, hi, e4⟩ | ⟨l, b, e3, e6, e4⟩
 ·rw [e3] at r
  refine e1_2 r.inv fun t e7 z => ?_
  rw [e7]
  exact call_bytes_bytes (end_same I (.bytes _ _ z) (e4 ▸ h))
 ·rw [e3] at r
  refine e1_1 r.inv fun t e7 => ?_
  rw [e7]
  have hc := cap_is
  have hz : (List.replicate n.toNat (0 : UInt8)).length <= 16777216 := by rw [List.length_replicate]; lia
  have hr : (Array.replicate n.toNat (0 : UInt8)) = (List.replicate n.toNat 0).toArray := (List.toArray_replicate ..).symm
  refine call_bytes_int hi.1 (by lia) fun t => ?_
  rw [hr]
  exact end_tok I (.bytes _ _ hz) (e4 ▸ h)
 ·rw [e3] at r
  exact snd_bytesOf I r e6 (e4 ▸ h)
theorem snd_bi {b : String} (hb : b ∈ biNames) (I : Inv C A fr φ Z m s) (hL : L ∈ Z) (hn : s.heap.Ns L mm) (ra : DAll C.K φ Z s.heap vs ds) (e : biD m b ds = some d) (h : Post C (RV C Z) fr φ Z s (.ok d m) Q X) :
  wpAny (model C.prog C.w) A (call (biV b) vs) Q X s := by
 have hc : b = "len" \/ b = "int" \/ b = "max" \/ b = "min" \/ b = "range" \/ b = "list" \/ b = "bytes" \/ b = "str" := by
  simpa only [biNames, List.mem_cons, List.not_mem_nil, or_false] using hb
 rcases hc with q | q | q | q | q | q | q | q <;> rw [q] at e ⊢
 ·exact bi_len I ra e h
 ·exact bi_int I ra e h
 ·exact bi_max I hL hn ra e h
 ·exact bi_min I hL hn ra e h
 ·exact bi_range I ra e h
 ·exact bi_list I ra e h
 ·exact bi_bytes I ra e h
 ·exact bi_str I ra e h
end
end
section
variable {C : Cst} {T : Tabs} {Rm : Around -> Prop}
noncomputable def SComp (C : Cst) (T : Tabs) (Rm : Around -> Prop) (n : Nat) : Prop :=
 ∀ {sc sc' : Scope} {elt : Expr} {gs : List Comprehension} {pos : Pos} {E : Env} {A : Around} {fr : List Env} {φ : List (List Addr)} {Z : List Addr} {m : Mem} {s : Shared} {Q X : Value -> Shared -> Prop} {vars : Vars}, Rm A -> Inv C A fr φ Z m s -> EnvOk E sc -> VarsAt C.K φ Z s.heap E sc vars ->
  Post C (RV C Z) fr φ Z s (ev T (n + 1) sc (.ListComp elt gs sc' pos) vars m) Q X -> wpAny (model C.prog C.w) A (eval (.ListComp elt gs sc' pos) E) Q X s
noncomputable def SJoin (C : Cst) (Rm : Around -> Prop) : Prop :=
 ∀ {A : Around} {fr : List Env} {φ : List (List Addr)} {Z : List Addr} {m : Mem} {s : Shared} {Q X : Value -> Shared -> Prop} {v : Value} {t : Tok} {d : D} {ds : List D} {b : List UInt8}, Rm A -> Inv C A fr φ Z m s -> DRep C.K φ Z s.heap v d -> items m d = some ds -> catBytes ds = some b -> b.length <= cap -> ds.length <= cap ->
  Post C (RV C Z) fr φ Z s (.ok (.bytes b) m) Q X -> wpAny (model C.prog C.w) A (call (.builtin "bytes.join") [.bytes #[] t, v]) Q X s
theorem cat_cons {d : D} {ds : List D} {b : List UInt8} (e : catBytes (d :: ds) = some b) : ∃ x y, d = .bytes x /\ catBytes ds = some y /\ b = x ++ y := by
 induction d using D.casesOn with
 | bytes x =>
  refine e1_2 (Option.map_eq_some_iff.mp (show (catBytes ds).map (x ++ ·) = some b from e)) fun y h q => ?_
  exact ⟨x, y, rfl, h, q.symm⟩
 | _ => exact nomatch (show (none : Option (List UInt8)) = some b from e)
theorem cat_vals {K : Frag} {φ : List (List Addr)} {Z : List Addr} {h : Heap} : ∀ (ds : List D) {vs : List Value} {b : List UInt8}, DAll K φ Z h vs ds -> catBytes ds = some b -> ∃ ps, vs = byVals ps /\ b = (ps.map (·.1)).flatten
 | [], _, _, r, e => by
  have e := Option.some.inj e
  subst e
  exact ⟨[], r.inv0, rfl⟩
 | d :: ds, vs, b, r, e => by
  refine e2_3 (cat_cons e) fun x y e1 e2 e3 => ?_
  refine e2_3 r.inv fun v ws e4 r1 r2 => ?_
  rw [e1] at r1
  refine e1_2 r1.inv fun t e5 z => ?_
  refine e1_2 (cat_vals ds r2 e2) fun ps q1 q2 => ?_
  exact ⟨(x, t) :: ps, by rw [e4, e5, q1]; rfl, by rw [e3, q2]; rfl⟩
theorem sjoin (C : Cst) (Rm : Around -> Prop) : SJoin C Rm := by
 intro A fr φ Z m s Q X v t d ds b hR I r h1 h2 h3 h4 h
 obtain ⟨a, vs, n, ho, z, x⟩ := items_at I r h1
 refine e1_2 (cat_vals _ x h2) fun ps ee1 ee2 => ?_; subst ee1; subst ee2
 have hc := cap_is
 exact call_join (listAt ho) (by lia) fun t' k => end_tok I (.bytes _ _ (by lia)) h
section
variable {n : Nat} {sc : Scope} {E : Env} {A : Around} {fr : List Env} {φ : List (List Addr)} {Z : List Addr} {m : Mem} {s : Shared} {Q X : Value -> Shared -> Prop} {vars : Vars}
theorem se_name {x : Str} {pos : Pos} (tb : TabOk C T Rm) (I : Inv C A fr φ Z m s) (ok : EnvOk E sc) (V : VarsAt C.K φ Z s.heap E sc vars) (h : Post C (RV C Z) fr φ Z s (ev T (n + 1) sc (.Name x pos) vars m) Q X) : wpAny (model C.prog C.w) A (eval (.Name x pos) E) Q X s := by
 rw [ev_name] at h
 have vv : (kindOf sc x = some .local \/ kindOf sc x = some .cell \/ kindOf sc x = some .free) -> Post C (RV C Z) fr φ Z s (lift (vars.lookup x) m) Q X -> wpAny (model C.prog C.w) A (eval (.Name x pos) E) Q X s := fun hk h => by
  refine e1_2 h.lift fun d hd h => ?_
  exact snd_var I ok V hd hk h
 generalize hk : kindOf sc x = k at h
 induction k with
 | none => exact h.elim
 | some k =>
  induction k with
  | «local» => exact vv (.inl hk) h
  | cell => exact vv (.inr (.inl hk)) h
  | free => exact vv (.inr (.inr hk)) h
  | globalExplicit => exact h.elim
  | globalImplicit =>
   refine e1_2 (Post.lift h) fun d hd h => ?_
   refine e2_2 (tb.glob x d hd) fun i t ee1 hg => ?_; subst ee1
   exact snd_global I ok hk hg (end_same I (.int i t) h)
theorem post_ite {α β : Type} {R : List (List Addr) -> Heap -> β -> α -> Prop} {c : Bool} {x : M α} {Q : β -> Shared -> Prop} (h : Post C R fr φ Z s ((if c = true then x else fail) m) Q X) : c = true /\ Post C R fr φ Z s (x m) Q X := by
 induction c with
 | true => exact ⟨rfl, h⟩
 | false => exact h.elim
theorem post_itep {α β : Type} {R : List (List Addr) -> Heap -> β -> α -> Prop} {c : Prop} [Decidable c] {x : M α} {Q : β -> Shared -> Prop} (h : Post C R fr φ Z s ((if c then x else fail) m) Q X) : c /\ Post C R fr φ Z s (x m) Q X := by
 by_cases q : c
 ·rw [if_pos q] at h; exact ⟨q, h⟩
 ·rw [if_neg q] at h; exact h.elim
theorem se_fn {f : Str} {p pos : Pos} {es : List Expr} (hn : SE C T Rm n) (tb : TabOk C T Rm) (hR : Rm A) (I : Inv C A fr φ Z m s) (ok : EnvOk E sc) (V : VarsAt C.K φ Z s.heap E sc vars)
  (h : Post C (RV C Z) fr φ Z s (ev T (n + 1) sc (.Call (.Name f p) es [] pos) vars m) Q X) : wpAny (model C.prog C.w) A (eval (.Call (.Name f p) es [] pos) E) Q X s := by
 have h' : Post C (RV C Z) fr φ Z s ((if kindOf sc f == some .globalImplicit && es.all notStar then
    if T.isFn f then bind (evList (fun e => ev T n sc e vars) es) fun ds => T.fn f ds
    else match biNames.find? (fun b => Str.ofString b == f) with
     | some b => bind (evList (fun e => ev T n sc e vars) es) fun ds => look fun m => biD m b ds
     | none => fail
    else fail) m) Q X := by
  induction es using List.casesOn <;> exact h
 clear h
 refine e0_2 (post_ite h') fun hc h => ?_
 rw [Bool.and_eq_true] at hc
 have hk : kindOf sc f = some .globalImplicit := by simpa using hc.1
 refine Call_Name rfl ?_
 by_cases hf : T.isFn f = true
 ·rw [if_pos hf] at h
  refine e1_3 (tb.fn f hf) fun a hg hkeep hcall => ?_
  refine snd_global I ok hk hg ?_
  refine callWith_of (P := fun h => C.K.In h) (by rw [star_plain hc.2]; rfl) (keeps_K hkeep) (evalArgs_any hc.2 ?_)
  refine wpAny_mono (snd_list' hn hR ok hc.2 I V (Post.bind h)) (fun vs s₁ hv => ?_) fun _ _ x => x
  obtain ⟨ds, m₁, φ₁, st, q, r, h₁⟩ := hv
  have I₁ := I.step st q
  exact ⟨I₁.K, hcall hR ⟨_, V.zl⟩ I₁ r h₁⟩
 ·rw [if_neg hf] at h
  generalize hb : biNames.find? (fun b => Str.ofString b == f) = ob at h
  induction ob with
  | none => exact h.elim
  | some b =>
   have hmem : b ∈ biNames := List.mem_of_find?_eq_some hb
   have he : Str.ofString b = f := by simpa using List.find?_some hb
   subst he
   refine e0_2 (tb.bi b hmem (by simpa using hf)) fun hg hbv => ?_
   refine snd_builtin I ok hk hg hbv (callWith_bi hc.2 ?_)
   refine wpAny_mono (snd_list' hn hR ok hc.2 I V (Post.bind h)) (fun vs s₁ hv => ?_) fun _ _ x => x
   obtain ⟨ds, m₁, φ₁, st, q, r, h₁⟩ := hv
   have I₁ := I.step st q
   refine e1_2 h₁.look fun d hd h₂ => ?_
   refine e1_2 ((V.step st).ns) fun mm hns _ => ?_
   exact snd_bi hmem I₁ V.zl hns r hd h₂
theorem se_meth {o : Expr} {x : Str} {ap pos : Pos} {es : List Expr} (hn : SE C T Rm n) (tb : TabOk C T Rm) (hR : Rm A) (I : Inv C A fr φ Z m s) (ok : EnvOk E sc) (V : VarsAt C.K φ Z s.heap E sc vars)
  (h : Post C (RV C Z) fr φ Z s ((if notSuper o && es.all notStar && decide (es.length < 30) && ap.endLine == pos.line then bind (ev T n sc o vars) fun d =>
    bind (look fun m => fields m d) fun q => if T.methOk q.1 x && (q.2.lookup x).isNone then bind (evList (fun e => ev T n sc e vars) es) fun ds => T.meth q.1 x (d :: ds) else fail else fail) m) Q X) : wpAny (model C.prog C.w) A (eval (.Call (.Attribute o x ap) es [] pos) E) Q X s := by
 refine e0_2 (post_ite h) fun hc h => ?_
 simp only [Bool.and_eq_true, decide_eq_true_eq, beq_iff_eq] at hc
 obtain ⟨⟨⟨hs, hst⟩, hlen⟩, hline⟩ := hc
 rw [arm_eval_Call, base_whole hs]
 refine wpAny_bind (wpAny_mono (hn hR I ok V (Post.bind h)) (fun v s₁ hv => ?_) fun _ _ x => x)
 obtain ⟨d, m₁, φ₁, st, q, r, h₁⟩ := hv
 have I₁ := I.step st q
 refine wpAny_bind (wpAny_standAt ?_)
 obtain ⟨⟨c, fs⟩, hf, h₁⟩ := h₁.look_bind
 refine e0_2 (post_ite h₁) fun hm h₁ => ?_
 rw [Bool.and_eq_true] at hm
 refine e2_6 (tb.meth c x hm.1) fun Cc f hcl hg hfi hfn hkeep hcall => ?_
 obtain ⟨a, dx, Cc', es', k, hc', e1, e2, F⟩ := fields_at I₁ r hf
 rw [hcl] at hc'
 obtain rfl := Option.some.inj hc'
 have hfew : methodCallForm (es.length + ([] : List Keyword).length) (backTo pos (starEach es E)) (backToKw pos (keywordEach [] E)) = true := by
  have e0 : (backTo pos (starEach es E)).all (fun x => !x.1) = true := by
   have := star_plain (E := E) (pos := pos) hst
   rw [List.any_eq_false] at this
   rw [List.all_eq_true]
   intro y hy
   have := this y hy
   simpa using this
  unfold methodCallForm
  show ((backTo pos (starEach es E)).all (fun x => !x.1) && true && decide (es.length + 0 + 0 < 30)) = true
  rw [e0]
  simpa using hlen
 unfold methodCall
 rw [hfew]
 refine wpAny_bind (wpAny_holding ?_)
 unfold calleeOf
 rw [if_pos rfl]
 refine method_fn I₁.K (inst_at e1 e2) (plainGet_of hg).1 (plainGet_of hg).2 hfi (beq_iff_eq.mp hfn) ?_ ?_
 ·show (lookIn x (dictOf es' k)).map _ = _
  rw [lookIn_dict, F.nope (by simpa using hm.2)]; rfl
 ·dsimp only
  have hpos : methodCallPos true o E ap pos = pure pos := by
   unfold methodCallPos
   rw [if_pos (by simp [hline])]
  rw [hpos]
  refine wpAny_bind (wpAny_pure ?_)
  show wpAny _ A (callWith pos (.ref f) [.ref a] (backTo pos (starEach es E)) []) Q X s₁
  refine callWith_of (P := fun h => C.K.In h) (by rw [star_plain hst]; rfl) (keeps_K hkeep) (evalArgs_any hst ?_)
  refine wpAny_mono (snd_list' hn hR ok hst I₁ (V.step st) (Post.bind h₁)) (fun vs s₂ hv => ?_) fun _ _ x => x
  obtain ⟨ds, m₂, φ₂, st₂, q₂, r₂, h₂⟩ := hv
  have I₂ := I₁.step st₂ q₂
  exact ⟨I₂.K, hcall hR ⟨_, V.zl⟩ I₂ (.cons (r.step st₂) r₂) h₂⟩
theorem se_attr {o : Expr} {x : Str} {pos : Pos} (hn : SE C T Rm n) (tb : TabOk C T Rm) (hR : Rm A) (I : Inv C A fr φ Z m s) (ok : EnvOk E sc) (V : VarsAt C.K φ Z s.heap E sc vars)
  (h : Post C (RV C Z) fr φ Z s (ev T (n + 1) sc (.Attribute o x pos) vars m) Q X) : wpAny (model C.prog C.w) A (eval (.Attribute o x pos) E) Q X s := by
 rw [ev_att] at h
 refine e0_2 (post_ite h) fun hs h => ?_
 rw [arm_eval_Attribute, base_whole hs]
 refine wpAny_bind (wpAny_mono (hn hR I ok V (Post.bind h)) (fun v s₁ hv => ?_) fun _ _ x => x)
 obtain ⟨d, m₁, φ₁, st, q, r, h₁⟩ := hv
 have I₁ := I.step st q
 refine wpAny_bind (wpAny_standAt (wpAny_bind (wpAny_holding ?_)))
 refine e1_2 h₁.look fun d' hd h₁ => ?_
 obtain ⟨⟨c, fs⟩, hf, hd⟩ := Option.bind_eq_some_iff.mp hd
 refine e0_2 (if_some hd) fun hok hd => ?_
 ·refine e2_5 (tb.field c x hok) fun Cc attr hcl hg hdict hfi hno => ?_
  obtain ⟨a, dx, Cc', es, k, hc', e1, e2, F⟩ := fields_at I₁ r hf
  rw [hcl] at hc'
  obtain rfl := Option.some.inj hc'
  refine e1_2 (F.get hd) fun v' hl rv => ?_
  refine get_value I₁.K (inst_at e1 e2) (plainGet_of hg).1 (findObj_own hdict hfi hno (by rw [lookIn_dict]; exact hl)) rv.handed ?_
  refine wpAny_bind (wpAny_letTemporaryGo (wpAny_pure ?_))
  exact end_tok I₁ rv h₁
end
end
section
variable {C : Cst} {T : Tabs} {Rm : Around -> Prop}
section
variable {n : Nat} {sc : Scope} {E : Env} {A : Around} {fr : List Env} {φ : List (List Addr)} {Z : List Addr} {m : Mem} {s : Shared} {Q X : Value -> Shared -> Prop} {vars : Vars}
theorem post_cond {α β : Type} {R : List (List Addr) -> Heap -> β -> α -> Prop} {c : Bool} {x y : M α} {Q : β -> Shared -> Prop} (h : Post C R fr φ Z s ((cond c x y) m) Q X) : if c = true then Post C R fr φ Z s (x m) Q X else Post C R fr φ Z s (y m) Q X := by
 induction c <;> exact h
theorem se_part {lo : Option Expr} (hn : SE C T Rm n) (hR : Rm A) (I : Inv C A fr φ Z m s) (ok : EnvOk E sc) (V : VarsAt C.K φ Z s.heap E sc vars)
  (h : Post C (RV C Z) fr φ Z s ((match lo with | Option.none => ret D.none | some e => ev T n sc e vars) m) Q X) : wpAny (model C.prog C.w) A (evalPart lo E) Q X s := by
 induction lo with
 | none => rw [evalPart_none]; exact wpAny_pure (end_same I .none h)
 | some e => rw [evalPart_some]; exact hn hR I ok V h
theorem rep_int {K : Frag} {φ : List (List Addr)} {Z : List Addr} {h : Heap} {v : Value} {i : Int} (r : DRep K φ Z h v (.int i)) : ∃ t, v = .int i t := r.inv
theorem rep_none {K : Frag} {φ : List (List Addr)} {Z : List Addr} {h : Heap} {v : Value} (r : DRep K φ Z h v D.none) : v = Value.none := r.inv
theorem se_slice {x : Str} {op p pos : Pos} {lo hi : Option Expr} (hn : SE C T Rm n) (hR : Rm A) (I : Inv C A fr φ Z m s) (ok : EnvOk E sc) (V : VarsAt C.K φ Z s.heap E sc vars)
  (h : Post C (RV C Z) fr φ Z s (ev T (n + 1) sc (.Subscript (.Name x op) (.Slice lo hi none p) pos) vars m) Q X) : wpAny (model C.prog C.w) A (eval (.Subscript (.Name x op) (.Slice lo hi none p) pos) E) Q X s := by
 rw [ev_slice] at h
 refine Subscript_ (wpAny_mono (hn hR I ok V (Post.bind h)) (fun v s₁ hv => ?_) fun _ _ x => x)
 obtain ⟨d, m₁, φ₁, st, q, r, h₁⟩ := hv
 have I₁ := I.step st q
 refine wpAny_Slice (wpAny_mono (se_part hn hR I₁ ok (V.step st) (Post.bind h₁)) (fun vl s₂ hv => ?_) fun _ _ x => x)
 obtain ⟨a, m₂, φ₂, st₂, q₂, r₂, h₂⟩ := hv
 have I₂ := I₁.step st₂ q₂
 refine wpAny_mono (se_part hn hR I₂ ok ((V.step st).step st₂) (Post.bind h₂)) (fun vu s₃ hv => ?_) fun _ _ x => x
 obtain ⟨b, m₃, φ₃, st₃, q₃, r₃, h₃⟩ := hv
 have I₃ := I₂.step st₃ q₃
 have V₃ := ((V.step st).step st₂).step st₃
 refine e1_2 V₃.ns fun mm hns _ => ?_
 rw [evalPart_none]
 refine wpAny_pure ?_
 have rr := (r.step st₂).step st₃
 have ra := r₂.step st₃
 induction a using D.casesOn with
 | int a =>
  induction b using D.casesOn with
  | int b =>
   refine e1_1 (rep_int ra) fun ta ee1 => ?_; subst ee1
   refine e1_1 (rep_int r₃) fun tb ee1 => ?_; subst ee1
   refine e1_2 (Post.look h₃) fun d' hd h₄ => ?_
   exact snd_cut I₃ V₃.zl hns rr (.int a ta) (.int b tb) (.inl rfl) hd h₄ (fun _ _ => rfl)
  | _ => exact h₃.elim
 | none =>
  induction b using D.casesOn with
  | int b =>
   obtain rfl := rep_none ra
   refine e1_1 (rep_int r₃) fun tb ee1 => ?_; subst ee1
   refine e1_2 (Post.look h₃) fun d' hd h₄ => ?_
   exact snd_cut I₃ V₃.zl hns rr IsPart.none (.int b tb) (.inr ⟨rfl, rfl⟩) hd h₄ (fun _ _ => rfl)
  | _ => exact h₃.elim
 | _ => exact h₃.elim
noncomputable def isSlice : Expr -> Bool
 | .Slice .. => true
 | _ => false
theorem ev_slice_stuck {lo hi st : Option Expr} {p : Pos} : ∀ n, ev T n sc (.Slice lo hi st p) vars = fail
 | 0 => rfl
 | n + 1 => rfl
theorem slice_stuck {i : Expr} (h : isSlice i = true) : ev T n sc i vars = fail := by
 induction i using Expr.casesOn <;> first | exact ev_slice_stuck _ | contradiction
theorem subscripted_plain {i : Expr} (h : isSlice i = false) (o v : Value) : subscripted i false o v = operate [o, v] (getItem o v) := by
 induction i using Expr.casesOn <;> first | rfl | contradiction
theorem se_subscript {o i : Expr} {pos : Pos} (hn : SE C T Rm n) (hR : Rm A) (I : Inv C A fr φ Z m s) (ok : EnvOk E sc) (V : VarsAt C.K φ Z s.heap E sc vars)
  (h : Post C (RV C Z) fr φ Z s ((bind (ev T n sc o vars) fun d => bind (ev T n sc i vars) fun k => look fun m => subD m d k) m) Q X) : wpAny (model C.prog C.w) A (eval (.Subscript o i pos) E) Q X s := by
 refine Subscript_ (wpAny_mono (hn hR I ok V (Post.bind h)) (fun v s₁ hv => ?_) fun _ _ x => x)
 obtain ⟨d, m₁, φ₁, st, q, r, h₁⟩ := hv
 have I₁ := I.step st q
 generalize hsl : isSlice i = sl
 induction sl with
 | true =>
  rw [slice_stuck hsl] at h₁
  exact h₁.elim
 | false =>
  refine wpAny_mono (hn hR I₁ ok (V.step st) (Post.bind h₁)) (fun k s₂ hv => ?_) fun _ _ x => x
  obtain ⟨b, m₂, φ₂, st₂, q₂, r₂, h₂⟩ := hv
  refine e1_2 (Post.look h₂) fun d' hd h₃ => ?_
  exact snd_sub (I₁.step st₂ q₂) (r.step st₂) r₂ hd (subscripted_plain hsl _ _) h₃
theorem se_bin {l r : Expr} {op : Operator} {pos : Pos} (hn : SE C T Rm n) (hR : Rm A) (I : Inv C A fr φ Z m s) (ok : EnvOk E sc) (V : VarsAt C.K φ Z s.heap E sc vars)
  (h : Post C (RV C Z) fr φ Z s (ev T (n + 1) sc (.BinOp l op r pos) vars m) Q X) : wpAny (model C.prog C.w) A (eval (.BinOp l op r pos) E) Q X s := by
 rw [ev_bin] at h
 refine wpAny_BinOp (wpAny_mono (hn hR I ok V (Post.bind h)) (fun v s₁ hv => ?_) fun _ _ x => x)
 obtain ⟨d, m₁, φ₁, st, q, r, h₁⟩ := hv
 have I₁ := I.step st q
 refine wpAny_mono (hn hR I₁ ok (V.step st) (Post.bind h₁)) (fun k s₂ hv => ?_) fun _ _ x => x
 obtain ⟨b, m₂, φ₂, st₂, q₂, r₂, h₂⟩ := hv
 refine e1_2 (Post.look h₂) fun d' hd h₃ => ?_
 have V₂ := (V.step st).step st₂
 refine e1_2 V₂.ns fun mm hns _ => ?_
 exact snd_bin (I₁.step st₂ q₂) V₂.zl hns (r.step st₂) r₂ hd h₃
theorem se_neg {x : Expr} {pos : Pos} (hn : SE C T Rm n) (hR : Rm A) (I : Inv C A fr φ Z m s) (ok : EnvOk E sc) (V : VarsAt C.K φ Z s.heap E sc vars)
  (h : Post C (RV C Z) fr φ Z s (ev T (n + 1) sc (.UnaryOp .USub x pos) vars m) Q X) : wpAny (model C.prog C.w) A (eval (.UnaryOp .USub x pos) E) Q X s := by
 rw [ev_neg] at h
 refine UnaryOp_ (wpAny_mono (hn hR I ok V (Post.bind h)) (fun v s₁ hv => ?_) fun _ _ x => x)
 obtain ⟨d, m₁, φ₁, st, q, r, h₁⟩ := hv
 have I₁ := I.step st q
 induction d using D.casesOn with
 | int i =>
  refine e1_1 (rep_int r) fun t ee1 => ?_; subst ee1
  exact PyProof.Rows.neg_int (end_tok I₁ (.int _ _) h₁)
 | _ => exact h₁.elim
theorem se_ifexp {t a b : Expr} {pos : Pos} (hn : SAll C T Rm n) (hR : Rm A) (I : Inv C A fr φ Z m s) (ok : EnvOk E sc) (V : VarsAt C.K φ Z s.heap E sc vars)
  (h : Post C (RV C Z) fr φ Z s (ev T (n + 1) sc (.IfExp t a b pos) vars m) Q X) : wpAny (model C.prog C.w) A (eval (.IfExp t a b pos) E) Q X s := by
 rw [ev_ife] at h
 refine wpAny_IfExp (wpAny_mono (hn.t hR I ok V (Post.bind h)) (fun v s₁ hv => ?_) fun _ _ x => x)
 obtain ⟨d, m₁, φ₁, st, q, r, h₁⟩ := hv
 have I₁ := I.step st q
 obtain rfl : v = d := r
 have h₂ := post_cond h₁
 induction v with
 | true => exact hn.e hR I₁ ok (V.step st) h₂
 | false => exact hn.e hR I₁ ok (V.step st) h₂
theorem se_tuple {es : List Expr} {k : Nat} {pos : Pos} (hn : SE C T Rm n) (hR : Rm A) (I : Inv C A fr φ Z m s) (ok : EnvOk E sc) (V : VarsAt C.K φ Z s.heap E sc vars)
  (h : Post C (RV C Z) fr φ Z s (ev T (n + 1) sc (.Tuple es k pos) vars m) Q X) : wpAny (model C.prog C.w) A (eval (.Tuple es k pos) E) Q X s := by
 rw [ev_tup] at h
 refine e0_2 (post_ite h) fun hc h => ?_
 refine wpAny_Tuple (wpAny_mono (snd_list' hn hR ok hc I V (Post.bind h)) (fun vs s₁ hv => ?_) fun _ _ x => x)
 obtain ⟨ds, m₁, φ₁, st, q, r, h₁⟩ := hv
 refine e0_2 (post_itep h₁) fun hl h₁ => ?_
 have hc1 := cap_is
 exact ⟨by rw [r.length, sizeLine_eq]; lia, end_tup (I.step st q) r (by lia) h₁⟩
theorem se_list {es : List Expr} {pos : Pos} (hn : SE C T Rm n) (hR : Rm A) (I : Inv C A fr φ Z m s) (ok : EnvOk E sc) (V : VarsAt C.K φ Z s.heap E sc vars)
  (h : Post C (RV C Z) fr φ Z s (ev T (n + 1) sc (.List es pos) vars m) Q X) : wpAny (model C.prog C.w) A (eval (.List es pos) E) Q X s := by
 rw [ev_lst] at h
 refine e0_2 (post_ite h) fun hc h => ?_
 refine wpAny_List (wpAny_mono (snd_list' hn hR ok hc I V (Post.bind h)) (fun vs s₁ hv => ?_) fun _ _ x => x)
 obtain ⟨ds, m₁, φ₁, st, q, r, h₁⟩ := hv
 refine e0_2 (post_itep h₁) fun hl h₁ => ?_
 have hc1 := cap_is
 exact ⟨by rw [r.length, sizeLine_eq]; lia, end_list (I.step st q) r (by lia) h₁⟩
theorem behind_plain {op : CmpOp} {r : Expr} (h : notSet r = true) : behindInMarks op r = false := by
 induction r using Expr.casesOn <;> first | rfl | contradiction
theorem se_cmp {l r : Expr} {op : CmpOp} {pos : Pos} (hn : SE C T Rm n) (tb : TabOk C T Rm) (hR : Rm A) (I : Inv C A fr φ Z m s) (ok : EnvOk E sc) (V : VarsAt C.K φ Z s.heap E sc vars)
  (h : Post C (RV C Z) fr φ Z s (ev T (n + 1) sc (.Compare l [op] [r] pos) vars m) Q X) : wpAny (model C.prog C.w) A (eval (.Compare l [op] [r] pos) E) Q X s := by
 rw [ev_cmp] at h
 refine e0_2 (post_ite h) fun hc h => ?_
 refine wpAny_Compare1 (wpAny_mono (hn hR I ok V (Post.bind h)) (fun v s₁ hv => ?_) fun _ _ x => x) (behind_plain hc)
 obtain ⟨d, m₁, φ₁, st, q, r, h₁⟩ := hv
 have I₁ := I.step st q
 refine wpAny_mono (hn hR I₁ ok (V.step st) (Post.bind h₁)) (fun k s₂ hv => ?_) fun _ _ x => x
 obtain ⟨b, m₂, φ₂, st₂, q₂, r₂, h₂⟩ := hv
 refine e1_2 (Post.look h₂) fun d' hd h₃ => ?_
 refine e1_2 (Option.map_eq_some_iff.mp hd) fun c hcmp ee1 => ?_; subst ee1
 have I₂ := I₁.step st₂ q₂
 exact snd_cmp I₂ (tb.units A hR) (r.step st₂) r₂ hcmp (end_same I₂ (.bool _) h₃)
theorem se_join {k : Nat} {x : Str} {cp ap pos : Pos} {a : Expr} (hn : SE C T Rm n) (sj : SJoin C Rm) (hR : Rm A) (I : Inv C A fr φ Z m s) (ok : EnvOk E sc) (V : VarsAt C.K φ Z s.heap E sc vars)
  (h : Post C (RV C Z) fr φ Z s (ev T (n + 1) sc (.Call (.Attribute (.Constant (.bytes []) k cp) x ap) [a] [] pos) vars m) Q X) : wpAny (model C.prog C.w) A (eval (.Call (.Attribute (.Constant (.bytes []) k cp) x ap) [a] [] pos) E) Q X s := by
 rw [ev_join] at h
 refine e0_2 (post_ite h) fun hc h' => ?_
 clear h
 simp only [Bool.and_eq_true, beq_iff_eq] at hc
 obtain ⟨⟨rfl, hst⟩, hline⟩ := hc
 rw [arm_eval_Call, base_whole rfl]
 refine wpAny_bind (Constant_bytes ?_)
 refine wpAny_bind (wpAny_standAt ?_)
 have hfew : methodCallForm (1 + ([] : List Keyword).length) (backTo pos (starEach [a] E)) (backToKw pos (keywordEach [] E)) = true := by
  rw [star_cons hst]; rfl
 show wpAny _ A (methodCall _ _ ap pos E _ (1 + 0) _ _) Q X _
 unfold methodCall
 have hfew' : methodCallForm (1 + 0) (backTo pos (starEach [a] E)) (backToKw pos (keywordEach [] E)) = true := hfew
 rw [hfew']
 refine wpAny_bind (wpAny_holding ?_)
 unfold calleeOf
 rw [if_pos rfl]
 refine KBd.method_of (.bytes #[] s.toks) (PySem.W.typeIs_bytes _ _ _) slot_join type_join KBd.noRef ?_
 dsimp only
 have hpos : methodCallPos true (.Constant (.bytes []) k cp) E ap pos = pure pos := by
  unfold methodCallPos
  rw [if_pos (by simp [hline])]
 rw [hpos]
 refine wpAny_bind (wpAny_pure ?_)
 show wpAny _ A (callWith pos (.builtin "bytes.join") [.bytes #[] s.toks] (backTo pos (starEach [a] E)) []) Q X _
 have st0 : Step φ Z s φ { s with toks := s.toks + 1 } := Step.tok φ Z s
 have hall : [a].all notStar = true := by simp [hst]
 refine callWith_builtin (star_plain hall) (evalArgs_any hall ?_)
 have I₀ := I.step st0 (I.mem.grow (s := s) (s' := { s with toks := s.toks + 1 }) fun _ _ e => e)
 rw [star_cons hst]
 refine spliced_cons (wpAny_mono (hn hR I₀ ok (V.step st0) (Post.bind (h'.step st0))) (fun v s₁ hv => ?_) fun _ _ x => x)
 obtain ⟨d, m₁, φ₁, st, q, r, h₁⟩ := hv
 refine spliced_nil ?_
 refine e1_2 (Post.look h₁) fun d' hd h₂ => ?_
 refine e1_2 (Option.bind_eq_some_iff.mp hd) fun ds h3 h4 => ?_
 refine e1_2 (Option.bind_eq_some_iff.mp h4) fun b h5 h6 => ?_
 have w := some_if h6
 rw [<- w.2] at h₂
 exact sj hR (I₀.step st q) r h3 h5 w.1.1 w.1.2 h₂
end
end
section
variable {C : Cst} {T : Tabs} {Rm : Around -> Prop} {n : Nat}
theorem rep_bool {K : Frag} {φ : List (List Addr)} {Z : List Addr} {h : Heap} {v : Value} {b : Bool} (r : DRep K φ Z h v (.bool b)) : v = .bool b := r.inv
theorem truth_is {d : D} {b : Bool} (e : truth d = some b) : d = .bool b := by
 induction d using D.casesOn with
 | bool c => exact congrArg D.bool (Option.some.inj e)
 | _ => exact none_some e
theorem st_plain {sc : Scope} {e : Expr} {E : Env} {A : Around} {fr : List Env} {φ : List (List Addr)} {Z : List Addr} {m : Mem} {s : Shared} {Q : Bool -> Shared -> Prop} {X : Value -> Shared -> Prop} {vars : Vars} (hn : SE C T Rm n) (hR : Rm A) (I : Inv C A fr φ Z m s) (ok : EnvOk E sc) (V : VarsAt C.K φ Z s.heap E sc vars)
  (he : isTrue e E (eval e E) = (do let v <- eval e E; standAt e.pos; holding [v] (truthy v)))
  (h : Post C RB fr φ Z s ((bind (ev T n sc e vars) fun d => lift (truth d)) m) Q X) : wpAny (model C.prog C.w) A (isTrue e E (eval e E)) Q X s := by
 refine wpAny_isTrue_value (wpAny_mono (hn hR I ok V (Post.bind h)) (fun v s₁ hv => ?_) fun _ _ x => x) he
 obtain ⟨d, m₁, φ₁, st, q, r, h₁⟩ := hv
 refine e1_2 h₁.lift fun b hb h₂ => ?_
 obtain rfl := truth_is hb
 obtain rfl := rep_bool r
 exact wpAny_truthy_bool (h₂ _ _ _ (Step.refl ..) q rfl)
theorem st_step (hn : SAll C T Rm n) : ST C T Rm (n + 1) := by
 intro sc e E A fr φ Z m s Q X vars hR I ok V h
 induction e using Expr.casesOn
 case UnaryOp op x pos =>
  induction op
  case Not =>
   replace h : Post C RB fr φ Z s ((bind (tst T n sc x vars) fun b => ret (!b)) m) Q X := h
   refine wpAny_isTrue_Not (wpAny_mono (hn.t hR I ok V (Post.bind h)) (fun b s₁ hv => ?_) fun _ _ x => x)
   obtain ⟨c, m₁, φ₁, st, q, r, h₁⟩ := hv
   obtain rfl : b = c := r
   exact h₁ _ _ _ (Step.refl ..) q rfl
  all_goals exact st_plain hn.e hR I ok V rfl h
 case BoolOp op es pos =>
  exact wpAny_isTrue_BoolOp (hn.ts hR I ok V h)
 case Compare l ops rs pos =>
  replace h : Post C RB fr φ Z s ((bind (ev T n sc l vars) fun a => chain T n sc a ops rs vars) m) Q X := h
  rw [arm_isTrue_Compare]
  refine wpAny_bind (wpAny_mono (hn.e hR I ok V (Post.bind h)) (fun v s₁ hv => ?_) fun _ _ x => x)
  obtain ⟨d, m₁, φ₁, st, q, r, h₁⟩ := hv
  exact hn.c hR (I.step st q) ok (V.step st) r h₁
 case IfExp => exact h.elim
 all_goals exact st_plain hn.e hR I ok V rfl h
theorem sts_step (hn : SAll C T Rm n) : STs C T Rm (n + 1) := by
 intro sc op es E A fr φ Z m s Q X vars hR I ok V h
 induction es using List.casesOn with
 | nil =>
  induction op
  ·exact wpAny_allTrue_And_nil (h _ _ _ (Step.refl ..) I.mem rfl)
  ·exact wpAny_allTrue_Or_nil (h _ _ _ (Step.refl ..) I.mem rfl)
 | cons e es =>
  induction op
  ·replace h : Post C RB fr φ Z s ((bind (tst T n sc e vars) fun b => cond b (tsts T n sc .And es vars) (ret false)) m) Q X := h
   refine wpAny_allTrue_And_cons (wpAny_mono (hn.t hR I ok V (Post.bind h)) (fun b s₁ hv => ?_) fun _ _ x => x)
   obtain ⟨c, m₁, φ₁, st, q, r, h₁⟩ := hv
   obtain rfl : b = c := r
   induction b with
   | true => exact hn.ts hR (I.step st q) ok (V.step st) h₁
   | false => exact h₁ _ _ _ (Step.refl ..) q rfl
  ·replace h : Post C RB fr φ Z s ((bind (tst T n sc e vars) fun b => cond b (ret true) (tsts T n sc .Or es vars)) m) Q X := h
   refine wpAny_allTrue_Or_cons (wpAny_mono (hn.t hR I ok V (Post.bind h)) (fun b s₁ hv => ?_) fun _ _ x => x)
   obtain ⟨c, m₁, φ₁, st, q, r, h₁⟩ := hv
   obtain rfl : b = c := r
   induction b with
   | true => exact h₁ _ _ _ (Step.refl ..) q rfl
   | false => exact hn.ts hR (I.step st q) ok (V.step st) h₁
theorem sc_step (hn : SAll C T Rm n) (tb : TabOk C T Rm) : SC C T Rm (n + 1) := by
 intro sc a v ops rs pos E A fr φ Z m s Q X vars hR I ok V ra h
 induction ops using List.casesOn with
 | nil => exact h.elim
 | cons op ops =>
  induction ops using List.casesOn with
  | nil =>
   induction rs using List.casesOn with
   | nil => exact h.elim
   | cons r rs =>
    induction rs using List.casesOn with
    | cons _ _ => exact h.elim
    | nil =>
     replace h : Post C RB fr φ Z s ((if notSet r then bind (ev T n sc r vars) fun b => look fun m => cmpD m op a b else fail) m) Q X := h
     refine e0_2 (post_ite h) fun hc h => ?_
     have e : markedEach [op] [r] (evalEach [r] E) = [eval r E] := by
      show [markedBehindIn op r (eval r E)] = _
      rw [markedBehindIn_of_false (behind_plain hc)]
     rw [e]
     refine test_last (wpAny_mono (hn.e hR I ok V (Post.bind h)) (fun b s₁ hv => ?_) fun _ _ x => x)
     obtain ⟨d, m₁, φ₁, st, q, r, h₁⟩ := hv
     refine e1_2 (Post.look h₁) fun c hc h₂ => ?_
     have I₁ := I.step st q
     exact snd_cmp I₁ (tb.units A hR) (ra.step st) r hc (wpAny_truthy_bool (h₂ _ _ _ (Step.refl ..) q rfl))
  | cons op2 ops =>
   induction rs using List.casesOn with
   | nil => exact h.elim
   | cons r rs =>
    induction rs using List.casesOn with
    | nil => exact h.elim
    | cons r2 rs =>
     replace h : Post C RB fr φ Z s ((bind (ev T n sc r vars) fun b => bind (look fun m => cmpD m op a b) fun c => cond c (chain T n sc b (op2 :: ops) (r2 :: rs) vars) (ret false)) m) Q X := h
     have e : markedEach (op :: op2 :: ops) (r :: r2 :: rs) (evalEach (r :: r2 :: rs) E) = eval r E :: markedEach (op2 :: ops) (r2 :: rs) (evalEach (r2 :: rs) E) := rfl
     rw [e]
     have e2 : ∃ x y, markedEach (op2 :: ops) (r2 :: rs) (evalEach (r2 :: rs) E) = x :: y := by
      induction ops using List.casesOn with
      | nil => induction rs using List.casesOn <;> exact ⟨_, _, rfl⟩
      | cons _ _ => exact ⟨_, _, rfl⟩
     refine e2_1 e2 fun x y e2 => ?_
     have key : ∀ {b : D} {v : Value} {φ : List (List Addr)} {m : Mem} {s : Shared}, Inv C A fr φ Z m s -> VarsAt C.K φ Z s.heap E sc vars -> DRep C.K φ Z s.heap v b -> Post C RB fr φ Z s (chain T n sc b (op2 :: ops) (r2 :: rs) vars m) Q X -> wpAny (model C.prog C.w) A (testChain pos v (op2 :: ops) (x :: y)) Q X s := fun I V ra h => e2 ▸ hn.c hR I ok V ra h
     rw [e2]
     refine test_link (wpAny_mono (hn.e hR I ok V (Post.bind h)) (fun b s₁ hv => ?_) fun _ _ x => x)
     obtain ⟨d, m₁, φ₁, st, q, r, h₁⟩ := hv
     refine e1_2 (Post.look_bind h₁) fun c hc h₂ => ?_
     have I₁ := I.step st q
     refine snd_cmp I₁ (tb.units A hR) (ra.step st) r hc (wpAny_truthy_bool ?_)
     induction c with
     | true => exact key I₁ (V.step st) r h₂
     | false => exact h₂ _ _ _ (Step.refl ..) q rfl
theorem ev_kw {sc : Scope} {f : Expr} {es : List Expr} {k : Keyword} {ks : List Keyword} {pos : Pos} {vars : Vars} : ev T (n + 1) sc (.Call f es (k :: ks) pos) vars = fail := by
 induction f using Expr.casesOn with
 | Attribute o x ap =>
  induction o using Expr.casesOn with
  | Constant c _ _ =>
   induction c with
   | bytes b =>
    induction b using List.casesOn with
    | nil =>
     induction es using List.casesOn with
     | nil => rfl
     | cons a es => induction es using List.casesOn <;> rfl
    | cons _ _ => rfl
   | _ => rfl
  | _ => rfl
 | Name _ _ => rfl
 | _ => rfl
theorem se_step (hn : SAll C T Rm n) (tb : TabOk C T Rm) (hc : SComp C T Rm n) : SE C T Rm (n + 1) := by
 intro sc e E A fr φ Z m s Q X vars hR I ok V h
 induction e using Expr.casesOn
 case Constant c k pos =>
  rw [ev_const] at h
  refine e1_2 h.lift fun d hd h => ?_
  exact se_const I hd h
 case Name x pos => exact se_name tb I ok V h
 case BinOp l op r pos => exact se_bin hn.e hR I ok V h
 case UnaryOp op x pos =>
  induction op
  case USub => exact se_neg hn.e hR I ok V h
  all_goals exact h.elim
 case IfExp => exact se_ifexp hn hR I ok V h
 case Tuple => exact se_tuple hn.e hR I ok V h
 case List => exact se_list hn.e hR I ok V h
 case Compare l ops rs pos =>
  induction ops using List.casesOn with
  | nil => exact h.elim
  | cons op ops =>
   induction ops using List.casesOn with
   | cons _ _ => exact h.elim
   | nil =>
    induction rs using List.casesOn with
    | nil => exact h.elim
    | cons r rs =>
     induction rs using List.casesOn with
     | nil => exact se_cmp hn.e tb hR I ok V h
     | cons _ _ => exact h.elim
 case Attribute => exact se_attr hn.e tb hR I ok V h
 case Subscript o i pos =>
  have gen : Post C (RV C Z) fr φ Z s ((bind (ev T n sc o vars) fun d => bind (ev T n sc i vars) fun k => look fun m => subD m d k) m) Q X -> wpAny (model C.prog C.w) A (eval (.Subscript o i pos) E) Q X s := se_subscript hn.e hR I ok V
  induction o using Expr.casesOn
  case Name x op =>
   induction i using Expr.casesOn
   case Slice lo hi st p =>
    induction st with
    | none => exact se_slice hn.e hR I ok V h
    | some st => exact gen h
   all_goals exact gen h
  all_goals exact gen h
 case ListComp elt gs sc' pos => exact hc hR I ok V h
 case Call f es kws pos =>
  induction kws using List.casesOn with
  | cons _ _ => rw [ev_kw] at h; exact h.elim
  | nil =>
   induction f using Expr.casesOn
   case Name f p => exact se_fn hn.e tb hR I ok V h
   case Attribute o x ap =>
    have gen := se_meth (x := x) (o := o) (ap := ap) (es := es) (pos := pos) hn.e tb hR I ok V (Q := Q) (X := X)
    have join : ∀ {k : Nat} {cp : Pos} {a : Expr}, o = .Constant (.bytes []) k cp -> es = [a] -> wpAny (model C.prog C.w) A (eval (.Call (.Attribute o x ap) es [] pos) E) Q X s := fun h1 h2 => by
     subst h1 h2
     exact se_join hn.e (sjoin C Rm) hR I ok V h
    induction o using Expr.casesOn
    case Constant c k cp =>
     induction c
     case bytes b =>
      induction b using List.casesOn with
      | nil =>
       induction es using List.casesOn with
       | nil => exact gen h
       | cons a es =>
        induction es using List.casesOn with
        | nil => exact join rfl rfl
        | cons _ _ => exact gen h
      | cons _ _ => exact gen h
     all_goals exact gen h
    all_goals exact gen h
   all_goals exact h.elim
 all_goals exact h.elim
end
structure Touch (own : List Addr) (h h' : Heap) : Prop where
 keep : ∀ a o, a ∉ own -> h.get? a = some o -> h'.get? a = some o
 live : ∀ a ∈ own, (∃ o, h.get? a = some o) -> ∃ o, h'.get? a = some o
theorem Touch.refl (own : List Addr) (h : Heap) : Touch own h h := ⟨fun _ _ _ e => e, fun _ _ e => e⟩
theorem Touch.trans {own : List Addr} {h h' h'' : Heap} (x : Touch own h h') (y : Touch own h' h'') : Touch own h h'' :=
 ⟨fun a o n e => y.keep a o n (x.keep a o n e), fun a m e => y.live a m (x.live a m e)⟩
theorem Touch.mono {own own' : List Addr} {h h' : Heap} (x : Touch own h h') (hs : ∀ a ∈ own, a ∈ own') : Touch own' h h' :=
 ⟨fun a o n e => x.keep a o (fun q => n (hs a q)) e, fun a _ e => by
  by_cases q : a ∈ own
  ·exact x.live a q e
  ·refine e1_1 e fun o ho => ?_; exact ⟨o, x.keep a o q ho⟩⟩
theorem Touch.all {own : List Addr} {h h' : Heap} (x : Touch own h h') {a : Addr} (e : ∃ o, h.get? a = some o) : ∃ o, h'.get? a = some o := by
 by_cases q : a ∈ own
 ·exact x.live a q e
 ·refine e1_1 e fun o ho => ?_; exact ⟨o, x.keep a o q ho⟩
section
variable {K : Frag} {φ φ' φ'' : List (List Addr)} {Z Z' own : List Addr} {s s' s'' : Shared} {h h' : Heap}
theorem Touch.keeps0 (x : Touch own h h') (ho : ∀ a ∈ own, a ∈ Z) : Keeps0 φ Z φ Z h h' :=
 ⟨fun a o e n1 n2 => ⟨x.keep a o (fun q => n2 (ho a q)) e, n1, n2⟩, fun _ _ e => e⟩
theorem DRep.touch {v : Value} {d : D} (r : DRep K φ Z h v d) (x : Touch own h h') (ho : ∀ a ∈ own, a ∈ Z) : DRep K φ Z h' v d := r.mono (x.keeps0 ho)
theorem DAll.touch {v : List Value} {d : List D} (r : DAll K φ Z h v d) (x : Touch own h h') (ho : ∀ a ∈ own, a ∈ Z) : DAll K φ Z h' v d := r.mono (x.keeps0 ho)
theorem MemAt.touch {H0 : Heap} {m : Mem} (x : MemAt K H0 φ Z m h) (t : Touch own h h') (ho : ∀ a ∈ own, a ∈ Z) : MemAt K H0 φ Z m h' := by
 have ne : ∀ a ∈ φ.flatten, a ∉ own := fun a ha q => (x.apart a ha).1 (ho a q)
 refine ⟨x.len, fun i c e => ?_, x.nd, fun a ha => ⟨(x.apart a ha).1, (x.apart a ha).2.1, t.all (x.apart a ha).2.2⟩⟩
 refine e1_2 (x.cell i c e) fun l hl r => ?_
 refine ⟨l, hl, ?_⟩
 have k := t.keeps0 (φ := φ) ho
 have q : ∀ a o, a ∈ l -> h.get? a = some o -> h'.get? a = some o := fun a o ha e => t.keep a o (ne a (List.mem_flatten.mpr ⟨l, List.mem_of_getElem? hl, ha⟩)) e
 induction r with
 | lst e1 z r p => exact .lst (q _ _ (.head _) e1) z (r.mono k) p
 | inst hc e1 e2 r p => exact .inst hc (q _ _ (.head _) e1) (q _ _ (.tail _ (.head _)) e2) (r.mono k) p
 | dead => exact .dead
theorem FrOk.touch {e : Env} (x : FrOk Z h e) (t : Touch own h h') (hn : ∀ L, e.frame = some L -> L ∉ own) : FrOk Z h' e := by
 obtain ⟨hk, L, mm, hf, hz, hns⟩ := x
 refine e3_2 hns fun o es ep ho r => ?_
 exact ⟨hk, L, mm, hf, hz, ⟨o, es, ep, t.keep L o (hn L hf) ho, r⟩⟩
theorem Inv.touch {C : Cst} {A : Around} {fr : List Env} {m : Mem} {tk : Nat} (I : Inv C A fr φ Z m s) (t : Touch own s.heap h') (ho : ∀ a ∈ own, a ∈ Z) (hf : ∀ e ∈ fr, FrOk Z h' e) : Inv C A fr φ Z m { s with heap := h', toks := tk } := by
 refine ⟨fun a o e => t.keep a o (fun q => ?_) (I.h0 a o e), fun a ha => ⟨(I.z0 a ha).1, t.all (I.z0 a ha).2⟩, I.mem.touch t ho, hf, I.frames, I.hand⟩
 have := none_of_size (I.z0 a (ho a q)).1
 rw [e] at this; contradiction
theorem Step.inner (x : Step φ Z s φ' s') (y : Step φ' Z' s' φ'' s'') (h1 : ∀ a ∈ Z', a ∈ Z \/ s.heap.get? a = Option.none) (h2 : ∀ a ∈ Z, a ∈ Z') : Step φ Z s φ'' s'' := by
 refine e2_1 x.same fun k1 t1 ee1 => ?_; subst ee1
 refine e2_1 y.same fun k2 t2 ee1 => ?_; subst ee1
 refine ⟨⟨_, _, rfl⟩, x.pre.trans y.pre, fun a ha hn => ?_, fun a o e n1 n2 => ?_, fun a hz => (x.zs a hz).trans (y.zs a (h2 a hz))⟩
 ·by_cases q : a ∈ φ'.flatten
  ·exact x.new a q hn
  ·have z := y.new a ha q
   refine ⟨fun q => z.1 (h2 a q), ?_⟩
   cases w : s.heap.get? a with
   | none => rfl
   | some o => exact (live_ne (x.keep a o w hn fun q => z.1 (h2 a q)) z.2).elim
 ·have e1 := x.keep a o e n1 n2
  refine y.keep a o e1 (fun q => live_ne e (x.new a q n1).2) fun q => ?_
  rcases h1 a q with q | q
  ·exact n2 q
  ·exact live_ne e q
theorem Step.touch {tk : Nat} (x : Step φ Z s φ' s') (t : Touch own s'.heap h') (h1 : ∀ a ∈ own, s.heap.get? a = none) (h2 : ∀ a ∈ own, a ∉ Z) : Step φ Z s φ' { s' with heap := h', toks := tk } := by
 refine e2_1 x.same fun k1 t1 ee1 => ?_; subst ee1
 refine ⟨⟨_, _, rfl⟩, x.pre, x.new, fun a o e n1 n2 => t.keep a o (fun q => live_ne e (h1 a q)) (x.keep a o e n1 n2), fun a hz => (x.zs a hz).trans (NsKeep.same fun o e => t.keep a o (fun q => h2 a q hz) e)⟩
theorem DRep.more {v : Value} {d : D} (r : DRep K φ Z h v d) (k : ∀ a o, h.get? a = some o -> h'.get? a = some o) (h1 : ∀ a ∈ Z', a ∈ Z \/ h.get? a = Option.none) : DRep K φ Z' h' v d :=
 r.mono ⟨fun a o e n1 n2 => ⟨k a o e, n1, fun q => (h1 a q).elim n2 fun q => live_ne e q⟩, fun _ _ e => e⟩
theorem DRep.fewer {v : Value} {d : D} (r : DRep K φ Z' h v d) (h2 : ∀ a ∈ Z, a ∈ Z') : DRep K φ Z h v d :=
 r.mono ⟨fun a o e n1 n2 => ⟨e, n1, fun q => n2 (h2 a q)⟩, fun _ _ e => e⟩
theorem MemAt.fewer {H0 : Heap} {m : Mem} (x : MemAt K H0 φ Z' m h) (h2 : ∀ a ∈ Z, a ∈ Z') : MemAt K H0 φ Z m h := by
 refine ⟨x.len, fun i c e => ?_, x.nd, fun a ha => ⟨fun q => (x.apart a ha).1 (h2 a q), (x.apart a ha).2⟩⟩
 refine e1_2 (x.cell i c e) fun l hl r => ?_
 have k : Keeps0 φ Z' φ Z h h := ⟨fun a o e n1 n2 => ⟨e, n1, fun q => n2 (h2 a q)⟩, fun _ _ e => e⟩
 refine ⟨l, hl, ?_⟩
 induction r with
 | lst e1 z r p => exact .lst e1 z (r.mono k) p
 | inst hc e1 e2 r p => exact .inst hc e1 e2 (r.mono k) p
 | dead => exact .dead
theorem MemAt.more {H0 : Heap} {m : Mem} (x : MemAt K H0 φ Z m h) (k : ∀ a o, h.get? a = some o -> h'.get? a = some o) (h1 : ∀ a ∈ Z', a ∈ Z \/ h.get? a = Option.none) : MemAt K H0 φ Z' m h' := by
 refine ⟨x.len, fun i c e => ?_, x.nd, fun a ha => ⟨fun q => ?_, (x.apart a ha).2.1, let ⟨o, ho⟩ := (x.apart a ha).2.2; ⟨o, k a o ho⟩⟩⟩
 ·refine e1_2 (x.cell i c e) fun l hl r => ?_
  have k' : Keeps0 φ Z φ Z' h h' := ⟨fun a o e n1 n2 => ⟨k a o e, n1, fun q => (h1 a q).elim n2 fun q => live_ne e q⟩, fun _ _ e => e⟩
  refine ⟨l, hl, ?_⟩
  induction r with
  | lst e1 z r p => exact .lst (k _ _ e1) z (r.mono k') p
  | inst hc e1 e2 r p => exact .inst hc (k _ _ e1) (k _ _ e2) (r.mono k') p
  | dead => exact .dead
 ·refine e1_1 ((x.apart a ha).2.2) fun o ho => ?_
  rcases h1 a q with q | q
  ·exact (x.apart a ha).1 q
  ·exact live_ne ho q
theorem Inv.more {C : Cst} {A : Around} {fr : List Env} {m : Mem} {tk : Nat} (I : Inv C A fr φ Z m s) (k : ∀ a o, s.heap.get? a = some o -> h'.get? a = some o) (h1 : ∀ a ∈ Z', a ∈ Z \/ s.heap.get? a = Option.none) (h2 : ∀ a ∈ Z, a ∈ Z') (h3 : ∀ a ∈ Z', C.H0.objs.size <= a /\ ∃ o, h'.get? a = some o) :
  Inv C A fr φ Z' m { s with heap := h', toks := tk } := by
 refine ⟨fun a o e => k a o (I.h0 a o e), h3, I.mem.more k h1, fun e he => ?_, I.frames, I.hand⟩
 obtain ⟨hk, L, mm, hf, hz, hns⟩ := I.frs e he
 refine e3_2 hns fun o es ep ho r => ?_
 exact ⟨hk, L, mm, hf, h2 L hz, ⟨o, es, ep, k L o ho, r⟩⟩
theorem Inv.big {C : Cst} {A : Around} {fr : List Env} {m : Mem} {L : Addr} (I : Inv C A fr φ Z m s) (hL : L ∈ Z) : C.H0.objs.size <= s.heap.objs.size := by
 obtain ⟨h1, o, ho⟩ := I.z0 L hL
 exact Nat.le_trans h1 (Nat.le_of_lt (Heap.lt_size ho))
end
structure Iter (C : Cst) (A : Around) (J : Addr) (ax : List Addr) (n : Nat) (P : Nat -> Value -> Prop) (St : Nat -> Heap -> Prop) : Prop where
 W : Walks C.prog C.w A J (J :: ax) [J] n P St
 firm : ∀ i h, St i h -> ∃ o, h.get? J = some o /\ firmObj o = true
 go : ∀ i (elts : List Expr) (k : Nat) (pos : Pos) (v : Value) (s : Shared) (Q : Unit -> Shared -> Prop) (E : Value -> Shared -> Prop), St i s.heap -> Q () s -> wpAny (model C.prog C.w) A (letOwnedTupleGo (.Tuple elts k pos) (.ref J) v) Q E s
theorem go_any {prog : Program} {w : World} {A : Around} {elts : List Expr} {k : Nat} {pos : Pos} {J : Addr} {v : Value} {s : Shared} {Q : Unit -> Shared -> Prop} {E : Value -> Shared -> Prop} {o : Obj} {n : String} {vs : Array Value}
  (ho : s.heap.get? J = some o) (hc : o.cls = .type n) (hd : o.data = .fields vs) (hn : ["enumerate", "zip", "dict_itemiterator", "dict_reverseitemiterator", "odict_iterator", "itertools.zip_longest", "itertools.pairwise"].contains n = false) (hQ : Q () s) :
  wpAny (model prog w) A (letOwnedTupleGo (.Tuple elts k pos) (.ref J) v) Q E s := by
 unfold letOwnedTupleGo
 induction v with
 | ref T =>
  refine wpAny_bind (wpAny_load ho ?_)
  rw [hc, hd]
  show wpAny _ A (if (["enumerate", "zip", "dict_itemiterator", "dict_reverseitemiterator", "odict_iterator", "itertools.zip_longest", "itertools.pairwise"].contains n &&
   vs[0]? == some (rawInt T)) = true then _ else _) Q E s
  rw [if_neg (by rw [hn, Bool.false_and]; decide)]
  exact wpAny_pure hQ
 | _ => exact wpAny_pure hQ
section
variable {C : Cst} {A : Around} {fr : List Env} {φ : List (List Addr)} {Z : List Addr} {m : Mem} {s : Shared} {X : Value -> Shared -> Prop} {v : Value}
theorem Iter.list (hh : A.handled = none) (J ax : Addr) (hne : ax ≠ J) (items : Array Value) : Iter C A J [ax] items.size (fun i v => items[i]? = some v) (fun i h => h.IsListIter J ax i /\ h.IsList ax items) :=
 ⟨Walks.list hh J ax hne items, fun i h st => by obtain ⟨o, ho, _, hd⟩ := st.1; exact ⟨o, ho, by unfold firmObj; rw [hd]⟩,
  fun i elts k pos v s Q E st hQ => by obtain ⟨o, ho, hc, hd⟩ := st.1; exact go_any ho hc hd (by decide) hQ⟩
theorem Iter.tuple (hh : A.handled = none) (J ax : Addr) (hne : ax ≠ J) (items : Array Value) : Iter C A J [ax] items.size (fun i v => items[i]? = some v) (fun i h => h.IsTupleIter J ax i /\ h.IsTuple ax items) :=
 ⟨Walks.tuple hh J ax hne items, fun i h st => by obtain ⟨o, ho, _, hd⟩ := st.1; exact ⟨o, ho, by unfold firmObj; rw [hd]⟩,
  fun i elts k pos v s Q E st hQ => by obtain ⟨o, ho, hc, hd⟩ := st.1; exact go_any ho hc hd (by decide) hQ⟩
theorem Iter.range (hh : A.handled = none) (J : Addr) (n : Nat) : Iter C A J [] n (fun i v => ∃ t, v = .int (0 + i * 1) t) (fun i h => IsRangeIter h J (0 + (i : Nat) * 1) ((n : Int) - (i : Nat)) 1) :=
 ⟨Walks.range hh J 0 1 n, fun i h st => ⟨_, st, rfl⟩, fun i elts k pos v s Q E st hQ => go_any st rfl rfl (by decide) hQ⟩
structure ItemsOf (C : Cst) (A : Around) (φ : List (List Addr)) (Z : List Addr) (s : Shared) (J : Addr) (ob : Obj) (ds : List D) (ax : List Addr) (P : Nat -> Value -> Prop) (St : Nat -> Heap -> Prop) : Prop where
 it : Iter C A J ax ds.length P St
 free : ob.isFreed = false
 st0 : St 0 (s.heap.push ob)
 ax : ∀ a ∈ ax, a ∉ φ.flatten /\ a ∉ Z /\ ∃ o, s.heap.get? a = some o
 rep : ∀ i v, i < ds.length -> P i v -> ∃ d, ds[i]? = some d /\ DRep C.K φ Z s.heap v d
theorem rngItems_get {n i : Nat} (h : i < n) : (rngItems n)[i]? = some (.int (i : Int)) := by
 unfold rngItems
 rw [List.getElem?_map, List.getElem?_range h]; rfl
theorem rngItems_len (n : Nat) : (rngItems n).length = n := by simp [rngItems]
theorem snd_iter {d : D} {ds : List D} {Q : Value -> Shared -> Prop} (I : Inv C A fr φ Z m s) (r : DRep C.K φ Z s.heap v d) (e : iterV d = some ds) (hz : ds.length <= cap)
  (h : ∀ ob ax P St, ItemsOf C A φ Z s s.heap.objs.size ob ds ax P St -> Q (.ref s.heap.objs.size) { s with heap := s.heap.push ob }) : wpAny (model C.prog C.w) A (pyIter v) Q X s := by
 induction r using DRep.casesOn <;> simp only [iterV, Option.some.injEq, reduceCtorEq] at e
 case tup a vs n ds' ho z n1 n2 x =>
  subst e
  have ht : s.heap.IsTuple a vs.toArray := ⟨_, ho, rfl, _, rfl⟩
  have hne : a ≠ s.heap.objs.size := Nat.ne_of_lt (Heap.lt_size ho)
  have hlen : vs.toArray.size = ds'.length := items_len x
  refine wpAny_pyIter_tuple ht (h _ [a] (fun i v => vs.toArray[i]? = some v) (fun i h => h.IsTupleIter s.heap.objs.size a i /\ h.IsTuple a vs.toArray) ⟨?_, rfl, ⟨⟨_, Heap.get?_push_size _ rfl, rfl, rfl⟩, ⟨_, Heap.get?_push_of_some _ ho, rfl, _, rfl⟩⟩, fun b hb => ?_, fun i v _ hv => x.getV (by simpa using hv)⟩)
  ·have := Iter.tuple (C := C) I.hand s.heap.objs.size a hne vs.toArray
   rw [hlen] at this; exact this
  ·rw [List.mem_singleton] at hb; subst hb; exact ⟨n1, n2, _, ho⟩
 case lst a vs n ds' ho z n1 n2 x =>
  subst e
  have hne : a ≠ s.heap.objs.size := Nat.ne_of_lt (Heap.lt_size ho)
  have hlen : vs.toArray.size = ds'.length := items_len x
  refine wpAny_pyIter_list (listAt ho) (h _ [a] (fun i v => vs.toArray[i]? = some v) (fun i h => h.IsListIter s.heap.objs.size a i /\ h.IsList a vs.toArray) ⟨?_, rfl, ⟨⟨_, Heap.get?_push_size _ rfl, rfl, rfl⟩, ⟨_, Heap.get?_push_of_some _ ho, rfl, _, rfl⟩⟩, fun b hb => ?_, fun i v _ hv => x.getV (by simpa using hv)⟩)
  ·have := Iter.list (C := C) I.hand s.heap.objs.size a hne vs.toArray
   rw [hlen] at this; exact this
  ·rw [List.mem_singleton] at hb; subst hb; exact ⟨n1, n2, _, ho⟩
 case rng a n t u w hr n1 n2 =>
  subst e
  rw [rngItems_len] at hz
  have hc := cap_is
  have hsz : Builtin.Range.rangeSize 0 n 1 = n := by
   unfold Builtin.Range.rangeSize
   rw [if_pos (by decide)]
   split <;> lia
  refine wpAny_pyIter_range hr ?_ (h _ [] (fun i v => ∃ t, v = .int (0 + i * 1) t) (fun i h => IsRangeIter h s.heap.objs.size (0 + (i : Nat) * 1) ((n : Int) - (i : Nat)) 1) ⟨by rw [rngItems_len]; exact Iter.range I.hand _ n, rfl, ?_, fun b hb => by contradiction, fun i v hi hv => ?_⟩)
  ·have f : ∀ x : Int, 0 <= x -> x <= 65536 -> Builtin.Range.rangeFitsLong x = true := fun x h1 h2 => by
    unfold Builtin.Range.rangeFitsLong
    rw [Bool.and_eq_true]
    exact ⟨decide_eq_true (by lia), decide_eq_true (by lia)⟩
   unfold Builtin.Range.small
   rw [hsz, if_pos (by decide), f 0 (by decide) (by decide), f n (by lia) (by lia), f 1 (by decide) (by decide), f _ (by lia) (by lia)]
   simp
  ·rw [hsz]
   show (s.heap.push _).get? _ = _
   rw [Heap.get?_push_size _ rfl]
   simp
  ·rw [rngItems_len] at hi
   obtain ⟨t, rfl⟩ := hv
   refine ⟨_, rngItems_get hi, ?_⟩
   have : (0 + (i : Int) * 1) = i := by lia
   rw [this]; exact .int _ _
end
theorem lookup_setv (x y : Str) (d : D) (vars : Vars) : (setv x d vars).lookup y = if y == x then some d else vars.lookup y := by
 induction vars with
 | nil => unfold setv; rw [List.lookup_cons]; generalize (y == x) = c; induction c <;> rfl
 | cons p r ih =>
  unfold setv
  by_cases q : (p.1 == x) = true
  ·rw [if_pos q, List.lookup_cons, List.lookup_cons, eq_of_beq q]
   generalize (y == x) = c
   induction c <;> rfl
  ·rw [if_neg q, List.lookup_cons, List.lookup_cons, ih]
   generalize w : (y == p.1) = c
   induction c with
   | true => show some p.2 = _; rw [eq_of_beq w, if_neg q]
   | false => rfl
theorem setv_ne {x y : Str} {d : D} {vars : Vars} (h : y ≠ x) : (setv x d vars).lookup y = vars.lookup y := by
 rw [lookup_setv, if_neg fun q => h (eq_of_beq q)]
theorem setv_eq {x : Str} {d : D} {vars : Vars} : (setv x d vars).lookup x = some d := by
 rw [lookup_setv, if_pos (beq_self_eq_true x)]
noncomputable def ownE (E : Env) (sc : Scope) : List Addr := E.locals :: (E.cells.filter fun p => kindOf sc p.1 == some .cell).map (·.2)
theorem own_cell {E : Env} {sc : Scope} {x : Str} {c : Addr} (hk : kindOf sc x = some .cell) (hc : E.cells.lookup x = some c) : c ∈ ownE E sc :=
 .tail _ (List.mem_map.mpr ⟨(x, c), List.mem_filter.mpr ⟨mem_of_lookup hc, by simp [hk]⟩, rfl⟩)
section
variable {C : Cst} {A : Around} {φ : List (List Addr)} {Z : List Addr} {m : Mem} {s : Shared} {X : Value -> Shared -> Prop} {v : Value} {E : Env} {sc : Scope} {vars : Vars}
theorem VarsAt.own {K : Frag} {h : Heap} (V : VarsAt K φ Z h E sc vars) : ∀ a ∈ ownE E sc, a ∈ Z := fun a ha => by
 cases ha with
 | head => exact V.zl
 | tail _ ha =>
  refine e1_2 (List.mem_map.mp ha) fun p hp ee1 => ?_; subst ee1
  exact V.zc p (List.mem_filter.mp hp).1
theorem cell_ne {h : Heap} {L c : Addr} {m : Str -> Option Value} {v : Option Value} (x : h.Ns L m) (y : h.IsCell c v) : c ≠ L := by
 rintro rfl
 refine e3_3 x fun o es ep ho hd _ => ?_
 refine e1_2 y fun o' ho' hd' => ?_
 rw [ho] at ho'; obtain rfl := Option.some.inj ho'
 rw [hd] at hd'; contradiction
theorem same_touch {own : List Addr} {a : Addr} {h h' : Heap} (hs : Heap.SameBut a h h') (ha : a ∈ own) (hl : ∃ o, h'.get? a = some o) : Touch own h h' :=
 ⟨fun b o n e => hs.extBut b o (fun q => n (q ▸ ha)) e, fun b hb e => by
  by_cases q : b = a
  ·rw [q]; exact hl
  ·refine e1_1 e fun o ho => ?_; exact ⟨o, hs.extBut b o q ho⟩⟩
theorem ns_at {h h' : Heap} {a b : Addr} {m : Str -> Option Value} (hs : Heap.SameBut a h h') (hn : h.Ns b m) (ne : b ≠ a) : h'.Ns b m :=
 let ⟨o, es, ep, ho, r⟩ := hn; ⟨o, es, ep, hs.extBut b o ne ho, r⟩
theorem cell_at {h h' : Heap} {a b : Addr} {v : Option Value} (hs : Heap.SameBut a h h') (hn : h.IsCell b v) (ne : b ≠ a) : h'.IsCell b v :=
 let ⟨o, ho, r⟩ := hn; ⟨o, hs.extBut b o ne ho, r⟩
theorem snd_store {x : Str} {d : D} {Q : Unit -> Shared -> Prop} (hk : okName sc x = true) (ok : EnvOk E sc) (V : VarsAt C.K φ Z s.heap E sc vars) (rv : DRep C.K φ Z s.heap v d)
  (h : ∀ h' tk, Touch (ownE E sc) s.heap h' -> VarsAt C.K φ Z h' E sc (setv x d vars) -> Q () { s with heap := h', toks := tk }) : wpAny (model C.prog C.w) A (storeName E x v) Q X s := by
 have own := V.own
 obtain ⟨⟨mm, hns, hv⟩, hc, ce, zl, zc⟩ := V
 unfold okName at hk
 rw [Bool.or_eq_true] at hk
 rcases hk with hk | hk
 ·have hk : kindOf sc x = some .local := beq_iff_eq.mp hk
  have q : E.kindOf x = some .local := (ok.names x).elim (fun q => q.trans hk) fun q => by rw [hk] at q; exact absurd (Option.some.inj q.1) nofun
  refine wpAny_storeName_local q hns (fun h' hn' hs => ?_) (by rw [ok.kind]; rfl)
  have T : Touch (ownE E sc) s.heap h' := same_touch hs (.head _) (let ⟨o, _, _, ho, _⟩ := hn'; ⟨o, ho⟩)
  refine h h' _ T ⟨⟨_, hn', fun y d' e k => ?_⟩, fun y d' e k => ?_, fun y k => ?_, zl, zc⟩
  ·by_cases w : y = x
   ·rw [w, setv_eq] at e
    exact ⟨v, by rw [w]; exact if_pos rfl, Option.some.inj e ▸ rv.touch T own⟩
   ·rw [setv_ne w] at e
    refine e1_2 (hv y d' e k) fun v' h1 h2 => ?_
    exact ⟨v', (if_neg w).trans h1, h2.touch T own⟩
  ·rw [setv_ne fun w => by rw [w, hk] at k; exact k.elim (fun q => absurd (Option.some.inj q) nofun) fun q => absurd (Option.some.inj q) nofun] at e
   refine e2_3 (hc y d' e k) fun c v' h1 h2 h3 => ?_
   exact ⟨c, v', h1, cell_at hs h2 (cell_ne hns h2), h3.touch T own⟩
  ·refine e2_2 (ce y k) fun c v' h1 h2 => ?_
   exact ⟨c, v', h1, cell_at hs h2 (cell_ne hns h2)⟩
 ·have hk : kindOf sc x = some .cell := beq_iff_eq.mp hk
  have q : E.kindOf x = some .cell := (ok.names x).elim (fun q => q.trans hk) fun q => by rw [hk] at q; exact absurd (Option.some.inj q.1) nofun
  refine e2_2 (ce x hk) fun c v0 h1 h2 => ?_
  refine wpAny_storeName_cell ok.kind q h1 h2 fun h' hn' hs => ?_
  have T : Touch (ownE E sc) s.heap h' := same_touch hs (own_cell hk h1) (let ⟨o, ho, _⟩ := hn'; ⟨o, ho⟩)
  have other : ∀ y c', E.cells.lookup y = some c' -> y ≠ x -> c' ≠ c := fun y c' e n q => n (ok.inj y x c (q ▸ e) h1)
  refine h h' s.toks T ⟨⟨mm, ns_at hs hns (Ne.symm (cell_ne hns h2)), fun y d' e k => ?_⟩, fun y d' e k => ?_, fun y k => ?_, zl, zc⟩
  ·rw [setv_ne fun w => by rw [w, hk] at k; exact absurd (Option.some.inj k) nofun] at e
   refine e1_2 (hv y d' e k) fun v' h1 h2 => ?_
   exact ⟨v', h1, h2.touch T own⟩
  ·by_cases w : y = x
   ·rw [w, setv_eq] at e
    rw [w]
    exact ⟨c, v, h1, hn', Option.some.inj e ▸ rv.touch T own⟩
   ·rw [setv_ne w] at e
    refine e2_3 (hc y d' e k) fun c' v' h3 h4 h5 => ?_
    exact ⟨c', v', h3, cell_at hs h4 (other y c' h3 w), h5.touch T own⟩
  ·by_cases w : y = x
   ·rw [w]; exact ⟨c, _, h1, hn'⟩
   ·refine e2_2 (ce y k) fun c' v' h3 h4 => ?_
    exact ⟨c', v', h3, cell_at hs h4 (other y c' h3 w)⟩
noncomputable def nameIn (sc : Scope) : Expr -> Bool
 | .Name x _ => okName sc x
 | _ => false
inductive ConsName (v v' : Vars) (ts : List Expr) : Expr -> List D -> Prop
 | mk (y : Str) (p : Pos) (d : D) (ds : List D) : assignNames ts ds (setv y d v) = some v' -> ConsName v v' ts (.Name y p) (d :: ds)
theorem cons_name {t : Expr} {ts : List Expr} {ds : List D} {v v' : Vars} (e : assignNames (t :: ts) ds v = some v') : ConsName v v' ts t ds := by
 induction t using Expr.casesOn with
 | Name y p =>
  induction ds using List.casesOn with
  | nil => exact none_some e
  | cons d ds => exact .mk y p d ds e
 | _ => exact none_some e
theorem nameIn_is {t : Expr} (h : nameIn sc t = true) : ∃ x p, t = .Name x p /\ okName sc x = true := by
 induction t using Expr.casesOn with
 | Name x p => exact ⟨x, p, rfl, h⟩
 | _ => contradiction
theorem names_static (ts : List Expr) (ds : List D) (vars vars' : Vars) (hs : ts.all (nameIn sc) = true) (e : assignNames ts ds vars = some vars') : (assignEach ts E).length = ds.length /\ (assignEach ts E).findIdx? (·.1) = none := by
 induction ts generalizing ds vars with
 | nil =>
  induction ds using List.casesOn with
  | nil => exact ⟨rfl, rfl⟩
  | cons _ _ => exact none_some e
 | cons t ts ih =>
  rw [List.all_cons, Bool.and_eq_true] at hs
  refine e2_2 (nameIn_is hs.1) fun x p e1 _ => ?_
  rw [e1] at e ⊢
  induction ds using List.casesOn with
  | nil => exact none_some e
  | cons d ds =>
   refine e0_2 (ih ds _ hs.2 e) fun h1 h2 => ?_
   rw [show assignEach (.Name x p :: ts) E = (false, assign (.Name x p) E) :: assignEach ts E from rfl]
   exact ⟨congrArg Nat.succ h1, by rw [List.findIdx?_cons, h2]; rfl⟩
theorem snd_names (ok : EnvOk E sc) (ts : List Expr) (ds : List D) (vs : List Value) (vars vars' : Vars) (s : Shared) (Q : Unit -> Shared -> Prop) (hs : ts.all (nameIn sc) = true) (e : assignNames ts ds vars = some vars') (V : VarsAt C.K φ Z s.heap E sc vars) (r : DAll C.K φ Z s.heap vs ds)
  (h : ∀ h' tk, Touch (ownE E sc) s.heap h' -> VarsAt C.K φ Z h' E sc vars' -> Q () { s with heap := h', toks := tk }) : wpAny (model C.prog C.w) A (assignInOrder ((assignEach ts E).map (·.2)) vs) Q X s := by
 induction ts generalizing ds vs vars s with
 | nil =>
  induction ds using List.casesOn with
  | nil =>
   rw [r.inv0]
   exact wpAny_pure (h s.heap s.toks (Touch.refl ..) (Option.some.inj e ▸ V))
  | cons _ _ => exact none_some e
 | cons t ts ih =>
  rw [List.all_cons, Bool.and_eq_true] at hs
  refine e2_2 (nameIn_is hs.1) fun x p e1 hx => ?_
  rw [e1] at e ⊢
  induction ds using List.casesOn with
  | nil => exact none_some e
  | cons d ds =>
   refine e2_3 r.inv fun v vs' e2 rv rr => ?_
   rw [e2]
   show wpAny _ A (do holding vs' (assign (.Name x p) E v); assignInOrder ((assignEach ts E).map (·.2)) vs') Q X s
   refine wpAny_bind (wpAny_holding (wpAny_assign_Name (snd_store hx ok V rv fun h' tk T V' => ?_)))
   exact ih ds vs' _ { s with heap := h', toks := tk } hs.2 e V' (rr.touch T V.own) fun h'' tk' T' V'' => h h'' tk' (T.trans T') V''
theorem okTarget_names {ts : List Expr} {k : Nat} {p : Pos} (h : okTarget sc (.Tuple ts k p) = true) : ts.all (nameIn sc) = true := by
 unfold okTarget at h
 rw [List.all_eq_true] at h ⊢
 intro t ht
 have := h t ht
 induction t using Expr.casesOn <;> exact this
theorem bind_of {t : Expr} {d : D} {vars' : Vars} (e : bindTo t d vars = some vars') : (∃ x p, t = .Name x p /\ setv x d vars = vars') \/ ∃ ts k p ds, t = .Tuple ts k p /\ d = .tup ds /\ assignNames ts ds vars = some vars' := by
 induction t using Expr.casesOn with
 | Name x p => exact .inl ⟨x, p, rfl, Option.some.inj e⟩
 | Tuple ts k p =>
  induction d using D.casesOn with
  | tup ds => exact .inr ⟨ts, k, p, ds, rfl, rfl, e⟩
  | _ => exact none_some e
 | _ => exact none_some e
theorem snd_target {fr : List Env} {t : Expr} {d : D} {vars' : Vars} {Q : Unit -> Shared -> Prop} (I : Inv C A fr φ Z m s) (ok : EnvOk E sc) (ht : okTarget sc t = true) (e : bindTo t d vars = some vars') (V : VarsAt C.K φ Z s.heap E sc vars) (rv : DRep C.K φ Z s.heap v d)
  (h : ∀ h' tk, Touch (ownE E sc) s.heap h' -> VarsAt C.K φ Z h' E sc vars' -> Q () { s with heap := h', toks := tk }) : wpAny (model C.prog C.w) A (assign t E v) Q X s := by
 rcases bind_of e with ⟨x, p, e1, e2⟩ | ⟨ts, k, p, ds, e1, e2, e3⟩
 ·rw [e1] at ht ⊢
  rw [<- e2] at h
  exact wpAny_assign_Name (snd_store ht ok V rv h)
 ·rw [e1] at ht ⊢
  rw [e2] at rv
  obtain ⟨a, vs, n, q, ho, _, _, _, x⟩ := rv.inv
  rw [q]
  have hs := okTarget_names ht
  refine e0_2 (names_static (E := E) ts ds _ _ hs e3) fun h1 h2 => ?_
  refine assign_Tuple_tuple I.hand (tupAt ho) (by rw [h1, items_len x]) h2 fun h' he => ?_
  have g : ∀ b o, s.heap.get? b = some o -> h'.get? b = some o := fun b o q => he b o (Nat.ne_of_lt (Heap.lt_size q)) q
  have T0 : Touch (ownE E sc) s.heap h' := ⟨fun b o _ q => g b o q, fun b _ ⟨o, q⟩ => ⟨o, g b o q⟩⟩
  have st := Step.grow (s := s) (tk := s.toks) φ Z g
  exact snd_names ok ts ds vs vars vars' { s with heap := h' } Q hs e3 (V.step st) (x.step st) fun h'' tk T V'' => h h'' tk (T0.trans T) V''
end
noncomputable def clOf (E : Env) : List (Str × NameKind) -> List (Str × Addr) -> List (Str × Addr)
 | [], acc => acc
 | p :: r, acc => clOf E r (if p.2 == .free then (p.1, (E.cells.lookup p.1).getD 0) :: acc else acc)
theorem clos_loop {E : Env} (f : Str × NameKind -> List (Str × Addr) -> Sem (ForInStep (List (Str × Addr)))) (hf : ∀ p acc, f p acc = (if p.2 == .free then (do let c <- cellOf E p.1; pure (.yield ((p.1, c) :: acc))) else pure (.yield acc))) :
  ∀ (l : List (Str × NameKind)) (acc : List (Str × Addr)), (∀ p ∈ l, p.2 = .free -> ∃ c, E.cells.lookup p.1 = some c) -> forIn l acc f = pure (clOf E l acc)
 | [], acc, _ => rfl
 | p :: r, acc, h => by
  rw [List.forIn_cons, hf]
  by_cases q : p.2 = .free
  ·obtain ⟨c, hc⟩ := h p (.head _) q
   have hq : (p.2 == NameKind.free) = true := by simp [q]
   rw [if_pos hq]
   unfold cellOf
   rw [hc]
   show forIn r ((p.1, c) :: acc) f = _
   rw [clos_loop f hf r _ fun p hp => h p (.tail _ hp)]
   simp only [clOf, hq, if_true, hc, Option.getD_some]
  ·have hq : (p.2 == NameKind.free) = false := by simpa using q
   rw [hq]
   show forIn r acc f = _
   rw [clos_loop f hf r _ fun p hp => h p (.tail _ hp)]
   simp only [clOf, hq, Bool.false_eq_true, if_false]
theorem clos_is {E : Env} {sc' : Scope} (h : ∀ p ∈ sc'.names, p.2 = .free -> ∃ c, E.cells.lookup p.1 = some c) : closureFor sc' E = pure (clOf E sc'.names []) := by
 unfold closureFor
 simp only []
 rw [clos_loop (E := E) _ (fun p acc => ?_) sc'.names [] h]
 ·rfl
 ·obtain ⟨n, k⟩ := p
  dsimp only
theorem clOf_mem {E : Env} : ∀ (l : List (Str × NameKind)) (acc : List (Str × Addr)), (∀ p ∈ l, p.2 = .free -> ∃ c, E.cells.lookup p.1 = some c) -> (∀ p ∈ acc, E.cells.lookup p.1 = some p.2) -> ∀ p ∈ clOf E l acc, E.cells.lookup p.1 = some p.2
 | [], acc, _, ha, p, hp => ha p hp
 | q :: r, acc, h, ha, p, hp => by
  refine clOf_mem r _ (fun p hp => h p (.tail _ hp)) (fun x hx => ?_) p hp
  by_cases w : (q.2 == NameKind.free) = true
  ·rw [if_pos w] at hx
   cases hx with
   | head =>
    obtain ⟨c, hc⟩ := h q (.head _) (by simpa using w)
    simp [hc]
   | tail _ hx => exact ha x hx
  ·rw [if_neg w] at hx; exact ha x hx
theorem clOf_has {E : Env} {x : Str} : ∀ (l : List (Str × NameKind)) (acc : List (Str × Addr)), ((x, NameKind.free) ∈ l \/ ∃ c, (x, c) ∈ acc) -> ∃ c, (x, c) ∈ clOf E l acc
 | [], acc, h => by rcases h with h | h; exact absurd h List.not_mem_nil; exact h
 | q :: r, acc, h => by
  refine clOf_has r _ ?_
  rcases h with h | ⟨c, h⟩
  ·cases h with
   | head => exact .inr ⟨_, by simp; exact .inl rfl⟩
   | tail _ h => exact .inl h
  ·by_cases w : (q.2 == NameKind.free) = true
   ·rw [if_pos w]; exact .inr ⟨c, .tail _ h⟩
   ·rw [if_neg w]; exact .inr ⟨c, h⟩
theorem lookup_of_mem {β : Type} {x : Str} : ∀ {l : List (Str × β)} {c : β}, (x, c) ∈ l -> ∃ c', l.lookup x = some c'
 | (y, d) :: r, c, h => by
  rw [List.lookup_cons]
  by_cases q : (x == y) = true
  ·rw [q]; exact ⟨d, rfl⟩
  ·have q' : (x == y) = false := by simpa using q
   rw [q']
   cases h with
   | head => simp at q
   | tail _ h => exact lookup_of_mem h
theorem relabel_names {E : Env} {x : Str} : ∀ (l : List (Str × NameKind)),
  (l.map fun (n, k) => if (k == NameKind.free && E.scope.kind == .function && E.kindOf n == some .cell) then (n, NameKind.cell) else (n, k)).lookup x = l.lookup x \/
  (l.lookup x = some .free /\ (l.map fun (n, k) => if (k == NameKind.free && E.scope.kind == .function && E.kindOf n == some .cell) then (n, NameKind.cell) else (n, k)).lookup x = some .cell)
 | [] => .inl rfl
 | (n, k) :: r => by
  have ih := relabel_names (E := E) (x := x) r
  rw [List.map_cons]
  by_cases hc : (k == NameKind.free && E.scope.kind == .function && E.kindOf n == some .cell) = true
  ·simp only [hc, if_true, List.lookup_cons]
   by_cases q : (x == n) = true
   ·rw [q]
    have : k = .free := by simp only [Bool.and_eq_true, beq_iff_eq] at hc; exact hc.1.1
    exact .inr ⟨by rw [this], rfl⟩
   ·have q' : (x == n) = false := by simpa using q
    rw [q']; exact ih
  ·simp only [hc, Bool.false_eq_true, if_false, List.lookup_cons]
   by_cases q : (x == n) = true
   ·rw [q]; exact .inl rfl
   ·have q' : (x == n) = false := by simpa using q
    rw [q']; exact ih
section
variable {C : Cst} {E : Env} {sc sc' : Scope} {Ca : Addr}
structure CompSc (sc sc' : Scope) : Prop where
 kind : sc'.kind = .function
 noCell : ∀ p ∈ sc'.names, p.2 ≠ .cell
 dbg : ∀ p ∈ sc'.names, (p.1 == ("__debug__" : Str)) = false /\ (p.1 == ("__classdict__" : Str)) = false
 loc : ∀ p ∈ sc'.names, p.2 = .local -> sc'.names.lookup p.1 = some .local
 free : ∀ p ∈ sc'.names, p.2 = .free -> kindOf sc p.1 = some .cell \/ kindOf sc p.1 = some .free
theorem compSc_of (h : okComp sc sc' = true) : CompSc sc sc' := by
 unfold okComp at h
 rw [Bool.and_eq_true, List.all_eq_true] at h
 refine e0_2 h fun hk ha => ?_
 have g : ∀ p ∈ sc'.names, _ := fun p hp => ha p hp
 simp only [Bool.and_eq_true, Bool.or_eq_true, bne_iff_ne, beq_iff_eq, ne_eq] at g
 refine ⟨by simpa using hk, fun p hp => (g p hp).1.1.1.1, fun p hp => ⟨?_, ?_⟩, fun p hp hl => ?_, fun p hp hf => ?_⟩
 ·have := (g p hp).1.1.1.2; simpa using this
 ·have := (g p hp).1.1.2; simpa using this
 ·rcases (g p hp).1.2 with q | q
  ·exact absurd hl q
  ·exact q
 ·rcases (g p hp).2 with (q | q) | q
  ·exact absurd hf q
  ·exact .inl q
  ·exact .inr q
theorem comp_free (ok : EnvOk E sc) (hs : CompSc sc sc') : ∀ p ∈ sc'.names, p.2 = .free -> ∃ c, E.cells.lookup p.1 = some c := fun p hp hf => ok.cells _ (hs.free p hp hf)
theorem comp_cl (ok : EnvOk E sc) (hs : CompSc sc sc') {x : Str} {c : Addr} (e : (clOf E sc'.names []).lookup x = some c) : E.cells.lookup x = some c :=
 clOf_mem _ _ (comp_free ok hs) (fun p hp => by exact absurd hp List.not_mem_nil) _ (mem_of_lookup e)
theorem comp_has (ok : EnvOk E sc) (hs : CompSc sc sc') {x : Str} (hf : kindOf sc' x = some .free) : ∃ c, (clOf E sc'.names []).lookup x = some c /\ E.cells.lookup x = some c := by
 refine e1_1 (clOf_has (E := E) sc'.names [] (.inl (mem_of_lookup hf))) fun c hc => ?_
 refine e1_1 (lookup_of_mem hc) fun c' hc' => ?_
 exact ⟨c', hc', comp_cl ok hs hc'⟩
theorem comp_env (ok : EnvOk E sc) (hs : CompSc sc sc') : EnvOk (compEnvC sc' (clOf E sc'.names []) Ca E) sc' := by
 refine ⟨hs.kind, fun x => ?_, ok.glob, ok.bltn, fun x hx => ?_, fun x y c h1 h2 => ok.inj x y c (comp_cl ok hs h1) (comp_cl ok hs h2), hs.dbg⟩
 ·exact relabel_names sc'.names
 ·rcases hx with hx | hx
  ·exact absurd rfl (hs.noCell _ (mem_of_lookup hx))
  ·refine e1_2 (comp_has ok hs hx) fun c h1 _ => ?_; exact ⟨c, h1⟩
theorem comp_own (hs : CompSc sc sc') : ownE (compEnvC sc' (clOf E sc'.names []) Ca E) sc' = [Ca] := by
 unfold ownE
 have : ((compEnvC sc' (clOf E sc'.names []) Ca E).cells.filter fun p => kindOf sc' p.1 == some .cell) = [] := by
  rw [List.filter_eq_nil_iff]
  intro p _ hp
  have hp : kindOf sc' p.1 = some .cell := by simpa using hp
  exact hs.noCell _ (mem_of_lookup hp) rfl
 rw [this]; rfl
theorem compVars_lookup {vars : Vars} {x : Str} {d : D} : (compVars sc' vars).lookup x = some d -> kindOf sc' x = some .free /\ vars.lookup x = some d := by
 unfold compVars
 induction vars with
 | nil => intro h; exact none_some h
 | cons p r ih =>
  obtain ⟨y, e⟩ := p
  intro h
  rw [List.filter_cons] at h
  by_cases q : (kindOf sc' y == some NameKind.free) = true
  ·rw [if_pos q, List.lookup_cons] at h
   rw [List.lookup_cons]
   by_cases w : (x == y) = true
   ·rw [w] at h ⊢
    obtain rfl := eq_of_beq w
    exact ⟨by simpa using q, h⟩
   ·have w' : (x == y) = false := by simpa using w
    rw [w'] at h ⊢
    exact ih h
  ·rw [if_neg q] at h
   refine e0_2 (ih h) fun h1 h2 => ?_
   refine ⟨h1, ?_⟩
   rw [List.lookup_cons]
   by_cases w : (x == y) = true
   ·obtain rfl := eq_of_beq w
    rw [h1] at q; contradiction
   ·have w' : (x == y) = false := by simpa using w
    rw [w']; exact h2
theorem comp_vars {K : Frag} {φ : List (List Addr)} {Z Z' : List Addr} {h h' : Heap} {vars : Vars} {mC : Str -> Option Value} (ok : EnvOk E sc) (hs : CompSc sc sc') (V : VarsAt K φ Z h E sc vars) (k : ∀ a o, h.get? a = some o -> h'.get? a = some o) (h1 : ∀ a ∈ Z', a ∈ Z \/ h.get? a = none) (h2 : ∀ a ∈ Z, a ∈ Z')
  (hC : h'.Ns Ca mC) (hz : Ca ∈ Z') : VarsAt K φ Z' h' (compEnvC sc' (clOf E sc'.names []) Ca E) sc' (compVars sc' vars) := by
 refine ⟨⟨mC, hC, fun x d e q => ?_⟩, fun x d e q => ?_, fun x q => absurd rfl (hs.noCell _ (mem_of_lookup q)), hz, fun p hp => ?_⟩
 ·have := (compVars_lookup e).1; rw [q] at this; exact absurd (Option.some.inj this) nofun
 ·refine e0_2 (compVars_lookup e) fun hf e' => ?_
  refine e1_2 (comp_has ok hs hf) fun c hc1 hc2 => ?_
  refine e2_3 (V.cl x d e' (hs.free _ (mem_of_lookup hf) rfl)) fun c' v g1 g2 g3 => ?_
  rw [hc2] at g1; obtain rfl := Option.some.inj g1
  refine ⟨c, v, hc1, ?_, g3.more k h1⟩
  refine e1_2 g2 fun o ho r => ?_
  exact ⟨o, k c o ho, r⟩
 ·have := clOf_mem _ _ (comp_free ok hs) (fun p hp => by exact absurd hp List.not_mem_nil) p hp
  exact h2 _ (V.zc _ (mem_of_lookup this))
theorem loc_is {t : Expr} (h : (match t with | .Name x _ => kindOf sc' x == some NameKind.local | _ => false) = true) : ∃ x p, t = .Name x p /\ kindOf sc' x = some .local := by
 induction t using Expr.casesOn with
 | Name x p => exact ⟨x, p, rfl, beq_iff_eq.mp h⟩
 | _ => contradiction
theorem own_is {t : Expr} (h : ownTarget sc' t = true) : (∃ x p, t = .Name x p /\ kindOf sc' x = some .local) \/ ∃ ts k p, t = .Tuple ts k p /\ ∀ u ∈ ts, ∃ x p, u = .Name x p /\ kindOf sc' x = some .local := by
 induction t using Expr.casesOn with
 | Name x p => exact .inl ⟨x, p, rfl, beq_iff_eq.mp h⟩
 | Tuple ts k p => exact .inr ⟨ts, k, p, rfl, fun u hu => loc_is (List.all_eq_true.mp h u hu)⟩
 | _ => contradiction
theorem ok_loc {x : Str} (h : kindOf sc' x = some .local) : okName sc' x = true := (Bool.or_eq_true _ _).mpr (.inl (beq_iff_eq.mpr h))
theorem own_target {t : Expr} (h : ownTarget sc' t = true) : okTarget sc' t = true := by
 rcases own_is h with ⟨x, p, e, hx⟩ | ⟨ts, k, p, e, hx⟩
 ·rw [e]; exact ok_loc hx
 ·rw [e]
  refine List.all_eq_true.mpr fun u hu => ?_
  refine e2_2 (hx u hu) fun x p e hx => ?_
  rw [e]; exact ok_loc hx
end
theorem mapM_cons {β : Type} {f : D -> M β} {d : D} {r : List D} {m m' : Mem} {es : List β} (h : mapM f (d :: r) m = .ok es m') : ∃ e m₁ es', f d m = .ok e m₁ /\ mapM f r m₁ = .ok es' m' /\ es = e :: es' := by
 simp only [mapM, bind] at h
 cases h1 : f d m with
 | ok e m₁ =>
  rw [h1] at h
  dsimp only at h
  cases h2 : mapM f r m₁ with
  | ok es' m₂ =>
   rw [h2] at h
   simp only [ret, Res.ok.injEq] at h
   exact ⟨e, m₁, es', rfl, by rw [h2, h.2], h.1.symm⟩
  | exc _ => rw [h2] at h; contradiction
  | stuck => rw [h2] at h; contradiction
 | exc _ => rw [h1] at h; contradiction
 | stuck => rw [h1] at h; contradiction
theorem bind_ok {α β : Type} {x : M α} {f : α -> M β} {m m' : Mem} {b : β} (h : bind x f m = .ok b m') : ∃ a m₁, x m = .ok a m₁ /\ f a m₁ = .ok b m' := by
 unfold bind at h
 cases h1 : x m with
 | ok a m₁ => rw [h1] at h; exact ⟨a, m₁, rfl, h⟩
 | exc _ => rw [h1] at h; contradiction
 | stuck => rw [h1] at h; contradiction
theorem lift_ok {α : Type} {o : Option α} {m m' : Mem} {a : α} (h : lift o m = .ok a m') : o = some a /\ m' = m := by
 induction o with
 | none => contradiction
 | some b => simp only [lift, ret, Res.ok.injEq] at h; exact ⟨by rw [h.1], h.2.symm⟩
section
variable {C : Cst} {T : Tabs} {Rm : Around -> Prop} {n : Nat} {A : Around} {fr : List Env} {φ : List (List Addr)} {Z : List Addr} {m : Mem} {s : Shared}
theorem Post.calm_bind {α β γ : Type} {R : List (List Addr) -> Heap -> γ -> β -> Prop} {x : M α} {k : α -> M β} {Q : γ -> Shared -> Prop} {X : Value -> Shared -> Prop} (h : Post C R fr φ Z s (Mine.bind (calm x) k m) Q X) : ∃ a m', x m = .ok a m' /\ Post C R fr φ Z s (k a m') Q X := by
 unfold Mine.bind calm at h
 cases h1 : x m with
 | ok a m₁ => rw [h1] at h; exact ⟨a, m₁, rfl, h⟩
 | exc _ => rw [h1] at h; exact h.elim
 | stuck => rw [h1] at h; exact h.elim
theorem SE.ok {sc : Scope} {e : Expr} {E : Env} {Q X : Value -> Shared -> Prop} {vars : Vars} {d : D} {m' : Mem} (hn : SE C T Rm n) (hR : Rm A) (I : Inv C A fr φ Z m s) (ok : EnvOk E sc) (V : VarsAt C.K φ Z s.heap E sc vars) (hev : ev T n sc e vars m = .ok d m')
  (h : ∀ v φ' s', Step φ Z s φ' s' -> MemAt C.K C.H0 φ' Z m' s'.heap -> DRep C.K φ' Z s'.heap v d -> Q v s') : wpAny (model C.prog C.w) A (eval e E) Q X s :=
 hn hR I ok V (by rw [hev]; exact h)
theorem MemAt.leave {K : Frag} {H0 h h' : Heap} {Z' own : List Addr} (x : MemAt K H0 φ Z' m h) (k : ∀ a o, a ∉ own -> h.get? a = some o -> h'.get? a = some o) (ho : ∀ a ∈ own, a ∈ Z') (h2 : ∀ a ∈ Z, a ∈ Z') : MemAt K H0 φ Z m h' := by
 have ne : ∀ a ∈ φ.flatten, a ∉ own := fun a ha q => (x.apart a ha).1 (ho a q)
 have kk : Keeps0 φ Z' φ Z h h' := ⟨fun a o e n1 n2 => ⟨k a o (fun q => n2 (ho a q)) e, n1, fun q => n2 (h2 a q)⟩, fun _ _ e => e⟩
 refine ⟨x.len, fun i c e => ?_, x.nd, fun a ha => ⟨fun q => (x.apart a ha).1 (h2 a q), (x.apart a ha).2.1, let ⟨o, q⟩ := (x.apart a ha).2.2; ⟨o, k a o (ne a ha) q⟩⟩⟩
 refine e1_2 (x.cell i c e) fun l hl r => ?_
 refine ⟨l, hl, ?_⟩
 have q : ∀ a o, a ∈ l -> h.get? a = some o -> h'.get? a = some o := fun a o ha e => k a o (ne a (List.mem_flatten.mpr ⟨l, List.mem_of_getElem? hl, ha⟩)) e
 induction r with
 | lst e1 z r p => exact .lst (q _ _ (.head _) e1) z (r.mono kk) p
 | inst hc e1 e2 r p => exact .inst hc (q _ _ (.head _) e1) (q _ _ (.tail _ (.head _)) e2) (r.mono kk) p
 | dead => exact .dead
theorem DAll.leave {K : Frag} {h h' : Heap} {Z' own : List Addr} {vs : List Value} {ds : List D} (x : DAll K φ Z' h vs ds) (k : ∀ a o, a ∉ own -> h.get? a = some o -> h'.get? a = some o) (ho : ∀ a ∈ own, a ∈ Z') (h2 : ∀ a ∈ Z, a ∈ Z') : DAll K φ Z h' vs ds :=
 x.mono ⟨fun a o e n1 n2 => ⟨k a o (fun q => n2 (ho a q)) e, n1, fun q => n2 (h2 a q)⟩, fun _ _ e => e⟩
theorem compLoop_any {elt iter target : Expr} {scope : Scope} {pos : Pos} {it acc : Value} {env : Env} {R : Result -> Shared -> Prop} {prog : Program} {w : World} (I : Nat -> Shared -> Prop)
  (turn : ∀ n s, I n s -> wpAny (model prog w) A (pyNext it) (fun r s₁ => match r with
   | none => R (.ok .next) s₁
   | some v => wpAny (model prog w) A (letOwnedTupleGo target it v) (fun _ s₁' => wpAny (model prog w) A (assign target env v) (fun _ s₂ =>
     wpAny (model prog w) A (eval elt env) (fun x s₄ =>
       wpAny (model prog w) A (call (.builtin "list.append") [acc, x]) (fun _ s₅ => ∃ m, m < n /\ I m s₅) (notedBy (model prog w) A env fun e s' => R (.error e) s') s₄) (notedBy (model prog w) A env fun e s' => R (.error e) s') s₂)
     (notedBy (model prog w) A env fun e s' => R (.error e) s') s₁') (notedBy (model prog w) A env fun e s' => R (.error e) s') s₁) (notedBy (model prog w) A env fun e s' => R (.error e) s') s)
  (n : Nat) (h : I n s) : codeAny (model prog w) A (.compLoop (.ListComp elt [⟨target, iter, [], 0⟩] scope pos) 0 it acc env) R s := by
 refine codeAny_loop rfl I (fun n s hI => ?_) n h
 show wpAny _ A ((compTurn (.ListComp elt [⟨target, iter, [], 0⟩] scope pos) 0 it acc env).onRaise (fun x => do noteFrame x env; theTreesLotGoes x)) _ _ s
 refine wpAny_noted ?_
 rw [compTurn_list]
 refine wpAny_bind (wpAny_standAt (wpAny_bind (wpAny_mono (turn n s hI) (fun r s₁ h₁ => ?_) fun _ _ h' => h')))
 induction r with
 | none => exact wpAny_pure h₁
 | some v =>
  refine wpAny_bind (wpAny_mono h₁ (fun _ s₁' h₁' => ?_) fun _ _ h' => h')
  refine wpAny_bind (wpAny_mono h₁' (fun _ s₂ h₂ => wpAny_bind (wpAny_mono (wpAny_tests_nil (Q := fun ok s₃ => ok = true /\ s₃ = s₂) ⟨rfl, rfl⟩) (fun ok s₃ h₃ => ?_) fun _ _ h' => h')) fun _ _ h' => h')
  obtain ⟨rfl, rfl⟩ := h₃
  exact wpAny_bind (wpAny_bind (wpAny_mono h₂ (fun x s₄ h₄ => wpAny_bind (wpAny_mono h₄ (fun _ s₅ h₅ => wpAny_pure (wpAny_pure ⟨rfl, h₅⟩)) fun _ _ h' => h')) fun _ _ h' => h'))
theorem Iter.goAny {J : Addr} {ax : List Addr} {k : Nat} {P : Nat -> Value -> Prop} {St : Nat -> Heap -> Prop} (it : Iter C A J ax k P St) {i : Nat} {t : Expr} {sc : Scope} {v : Value} {s : Shared} {Q : Unit -> Shared -> Prop} {X : Value -> Shared -> Prop} (ht : okTarget sc t = true) (st : St i s.heap) (h : Q () s) :
  wpAny (model C.prog C.w) A (letOwnedTupleGo t (.ref J) v) Q X s := by
 induction t using Expr.casesOn with
 | Name => exact wpAny_pure h
 | Tuple => exact it.go i _ _ _ _ _ _ _ st h
 | _ => contradiction
end
section
variable {C : Cst} {T : Tabs} {Rm : Around -> Prop} {n : Nat} {A : Around} {fr : List Env} {φ : List (List Addr)} {Z : List Addr} {m : Mem} {s : Shared} {E : Env} {sc sc' : Scope} {vars : Vars}
structure News3 (s : Shared) (Z : List Addr) (J Da Ca : Addr) : Prop where
 j : s.heap.get? J = none
 d : s.heap.get? Da = none
 c : s.heap.get? Ca = none
 jd : J ≠ Da
 jc : J ≠ Ca
 dc : Da ≠ Ca
 z : ∀ a ∈ Z, ∃ o, s.heap.get? a = some o
theorem News3.own (N : News3 s Z J Da Ca) : ∀ a ∈ J :: Da :: Ca :: Z, a ∈ Z \/ s.heap.get? a = none := fun a ha => by
 simp only [List.mem_cons] at ha
 rcases ha with rfl | rfl | rfl | h
 ·exact .inr N.j
 ·exact .inr N.d
 ·exact .inr N.c
 ·exact .inl h
theorem News3.sub {J Da Ca : Addr} : ∀ a ∈ Z, a ∈ J :: Da :: Ca :: Z := fun a h => by simp [h]
theorem News3.ne (N : News3 s Z J Da Ca) {a : Addr} (h : ∃ o, s.heap.get? a = some o) : a ≠ J /\ a ≠ Da /\ a ≠ Ca := by
 refine e1_1 h fun o ho => ?_
 exact ⟨fun q => live_ne ho (q ▸ N.j), fun q => live_ne ho (q ▸ N.d), fun q => live_ne ho (q ▸ N.c)⟩
structure AtTurn (C : Cst) (A : Around) (fr : List Env) (φ : List (List Addr)) (Z : List Addr) (s : Shared) (E : Env) (sc' : Scope) (base : Vars) (J Da Ca : Addr) (ds : List D) (P : Nat -> Value -> Prop) (St : Nat -> Heap -> Prop) (i : Nat) (acc : List D) (φi : List (List Addr)) (mi : Mem) (s' : Shared) : Prop where
 st : St i s'.heap
 inv : Inv C A fr φi (J :: Da :: Ca :: Z) mi s'
 frs : ∀ e ∈ fr, FrOk Z s'.heap e
 step : Step φ Z s φi s'
 res : ∃ ws k, s'.heap.get? Da = some (W.listOf ws.toArray k) /\ DAll C.K φi (J :: Da :: Ca :: Z) s'.heap ws acc
 rep : ∀ j v, j < ds.length -> P j v -> ∃ d, ds[j]? = some d /\ DRep C.K φi (J :: Da :: Ca :: Z) s'.heap v d
 vars : VarsAt C.K φi (J :: Da :: Ca :: Z) s'.heap (compEnvC sc' (clOf E sc'.names []) Ca E) sc' base
theorem FrOk.more {Z Z' : List Addr} {h : Heap} {e : Env} (x : FrOk Z h e) (h2 : ∀ a ∈ Z, a ∈ Z') : FrOk Z' h e := by
 obtain ⟨hk, L, mm, hf, hz, hn⟩ := x
 exact ⟨hk, L, mm, hf, h2 L hz, hn⟩
theorem FrOk.out {Z own : List Addr} {h h' : Heap} {e : Env} (x : FrOk Z h e) (t : Touch own h h') (hn : ∀ a ∈ own, a ∉ Z) : FrOk Z h' e := by
 refine x.touch t fun L hL q => ?_
 obtain ⟨_, L', _, hf, hz, _⟩ := x
 rw [hf] at hL; obtain rfl := Option.some.inj hL
 exact hn _ q hz
theorem VarsAt.touch {K : Frag} {h h' : Heap} {own : List Addr} (V : VarsAt K φ Z h E sc vars) (t : Touch own h h') (ho : ∀ a ∈ own, a ∈ Z) (h1 : E.locals ∉ own) (h2 : ∀ p ∈ E.cells, p.2 ∉ own) : VarsAt K φ Z h' E sc vars := by
 obtain ⟨⟨mm, hns, hv⟩, hc, ce, zl, zc⟩ := V
 refine ⟨⟨mm, ?_, fun x d e k => ?_⟩, fun x d e k => ?_, fun x k => ?_, zl, zc⟩
 ·refine e3_2 hns fun o es ep q r => ?_
  exact ⟨o, es, ep, t.keep _ o h1 q, r⟩
 ·refine e1_2 (hv x d e k) fun v q1 q2 => ?_
  exact ⟨v, q1, q2.touch t ho⟩
 ·obtain ⟨c, v, q1, ⟨o, q2, q2'⟩, q3⟩ := hc x d e k
  exact ⟨c, v, q1, ⟨o, t.keep c o (h2 _ (mem_of_lookup q1)) q2, q2'⟩, q3.touch t ho⟩
 ·obtain ⟨c, v, q1, o, q2, q2'⟩ := ce x k
  exact ⟨c, v, q1, o, t.keep c o (h2 _ (mem_of_lookup q1)) q2, q2'⟩
theorem VarsAt.weaken {K : Frag} {h : Heap} {vars' : Vars} (V : VarsAt K φ Z h E sc vars') (hk : ∀ x d0, vars.lookup x = some d0 -> vars'.lookup x = some d0) : VarsAt K φ Z h E sc vars := by
 obtain ⟨⟨mm, hns, hv⟩, hc, ce, zl, zc⟩ := V
 exact ⟨⟨mm, hns, fun x d e k => hv x d (hk x d e) k⟩, fun x d e k => hc x d (hk x d e) k, ce, zl, zc⟩
theorem comp_turn {elt t : Expr} {J Da Ca : Addr} {ax : List Addr} {ds acc : List D} {base env' : Vars} {P : Nat -> Value -> Prop} {St : Nat -> Heap -> Prop} {i : Nat} {φi : List (List Addr)} {mi m₁ : Mem} {s' : Shared} {d e : D} {Fin : Shared -> Prop} {X X' X'' X''' X4 : Value -> Shared -> Prop}
  (hn : SE C T Rm n) (hR : Rm A) (ok : EnvOk E sc) (hs : CompSc sc sc') (V0 : VarsAt C.K φ Z s.heap E sc vars) (it : Iter C A J ax ds.length P St) (N : News3 s Z J Da Ca) (hax : ∀ a ∈ ax, a ∉ φ.flatten /\ a ∉ Z /\ ∃ o, s.heap.get? a = some o) (ht : okTarget sc' t = true)
  (hi : AtTurn C A fr φ Z s E sc' base J Da Ca ds P St i acc φi mi s') (hd : ds[i]? = some d) (hb : bindTo t d base = some env') (hev : ev T n sc' elt env' mi = .ok e m₁) (hz : acc.length <= 65536) (hkeep : ∀ x d0, base.lookup x = some d0 -> env'.lookup x = some d0)
  (k : ∀ φ'' s'', AtTurn C A fr φ Z s E sc' base J Da Ca ds P St (i + 1) (acc ++ [e]) φ'' m₁ s'' -> Fin s'') :
  wpAny (model C.prog C.w) A (pyNext (.ref J)) (fun r s₁ => match r with
   | none => False
   | some v => wpAny (model C.prog C.w) A (letOwnedTupleGo t (.ref J) v) (fun _ s₁' => wpAny (model C.prog C.w) A (assign t (compEnvC sc' (clOf E sc'.names []) Ca E) v) (fun _ s₂ =>
     wpAny (model C.prog C.w) A (eval elt (compEnvC sc' (clOf E sc'.names []) Ca E)) (fun x s₄ => wpAny (model C.prog C.w) A (call (.builtin "list.append") [.ref Da, x]) (fun _ s₅ => Fin s₅) X s₄) X' s₂) X'' s₁') X''' s₁) X4 s' := by
 have hlt : i < ds.length := (List.getElem?_eq_some_iff.mp hd).1
 have ok' := comp_env (Ca := Ca) ok hs
 have hJ : ∀ a ∈ [J], a ∈ J :: Da :: Ca :: Z := fun a h => by simp at h; simp [h]
 have hC : ∀ a ∈ [Ca], a ∈ J :: Da :: Ca :: Z := fun a h => by simp at h; simp [h]
 have hD : ∀ a ∈ [Da], a ∈ J :: Da :: Ca :: Z := fun a h => by simp at h; simp [h]
 have nz : ∀ a ∈ Z, a ≠ J /\ a ≠ Da /\ a ≠ Ca := fun a ha => N.ne (N.z a ha)
 have cz : ∀ p ∈ (compEnvC sc' (clOf E sc'.names []) Ca E).cells, p.2 ∈ Z := fun p hp => by
  have := clOf_mem _ _ (comp_free ok hs) (fun p hp => by exact absurd hp List.not_mem_nil) p hp
  exact V0.zc _ (mem_of_lookup this)
 obtain ⟨hst, I, frs, stp, ⟨ws, kk, hres, hall⟩, rep, V⟩ := hi
 refine it.W.item i s' _ _ hlt hst fun v h1 tk1 hP hst1 hk1 => ?_
 dsimp only
 
 have T1 : Touch [J] s'.heap h1 := ⟨fun a o q e => hk1 a o q e, fun a ha _ => by
  obtain rfl := List.mem_singleton.mp ha
  refine e1_2 (it.firm _ _ hst1) fun o ho _ => ?_; exact ⟨o, ho⟩⟩
 have frs1 : ∀ e ∈ fr, FrOk Z h1 e := fun e he => (frs e he).out T1 fun a ha q => by obtain rfl := List.mem_singleton.mp ha; exact (nz _ q).1 rfl
 have I1 : Inv C A fr φi (J :: Da :: Ca :: Z) mi { s' with heap := h1, toks := tk1 } := I.touch T1 hJ fun e he => (frs1 e he).more News3.sub
 have S1 : Step φ Z s φi { s' with heap := h1, toks := tk1 } := stp.touch T1 (fun a ha => by obtain rfl := List.mem_singleton.mp ha; exact N.j) fun a ha q => by obtain rfl := List.mem_singleton.mp ha; exact (nz _ q).1 rfl
 refine e1_2 (rep i v hlt hP) fun d' hd' rv => ?_
 rw [hd] at hd'; obtain rfl := Option.some.inj hd'
 have V1 : VarsAt C.K φi (J :: Da :: Ca :: Z) h1 (compEnvC sc' (clOf E sc'.names []) Ca E) sc' base := V.touch T1 hJ (by show Ca ∉ [J]; simp; exact fun q => N.jc q.symm) fun p hp q => (nz _ (cz p hp)).1 (by simpa using q)
 refine it.goAny (s := { s' with heap := h1, toks := tk1 }) ht hst1 ?_
 refine snd_target (s := { s' with heap := h1, toks := tk1 }) I1 ok' ht hb V1 (rv.touch T1 hJ) fun h2 tk2 T2 V2 => ?_
 rw [comp_own hs] at T2
 dsimp only at T2
 have frs2 : ∀ e ∈ fr, FrOk Z h2 e := fun e he => (frs1 e he).out T2 fun a ha q => by obtain rfl := List.mem_singleton.mp ha; exact (nz _ q).2.2 rfl
 have I2 : Inv C A fr φi (J :: Da :: Ca :: Z) mi { s' with heap := h2, toks := tk2 } := I1.touch (tk := tk2) T2 hC fun e he => (frs2 e he).more News3.sub
 have S2 : Step φ Z s φi { s' with heap := h2, toks := tk2 } := S1.touch (tk := tk2) T2 (fun a ha => by obtain rfl := List.mem_singleton.mp ha; exact N.c) fun a ha q => by obtain rfl := List.mem_singleton.mp ha; exact (nz _ q).2.2 rfl
 refine hn.ok hR I2 ok' V2 hev fun x φ3 s3 st3 q3 r3 => ?_
 have I3 := I2.step st3 q3
 have S3 : Step φ Z s φ3 s3 := S2.inner st3 N.own News3.sub
 refine e2_1 st3.same fun h3 tk3 ee1 => ?_; subst ee1
 have frs3 : ∀ e ∈ fr, FrOk Z h3 e := fun e he => by
  obtain ⟨hk, L, mm, hf, hz, hns⟩ := frs2 e he
  exact ⟨hk, L, mm, hf, hz, (st3.zs L (News3.sub L hz)).ns mm hns⟩
 have hres3 : h3.get? Da = some (W.listOf ws.toArray kk) := (st3.zs Da (by simp)).firm _ (T2.keep _ _ (by simp; exact N.dc) (T1.keep _ _ (by simp; exact fun q => N.jd q.symm) hres)) rfl
 have hall3 : DAll C.K φ3 (J :: Da :: Ca :: Z) h3 ws acc := ((hall.touch T1 hJ).touch T2 hC).step st3
 refine wpAny_list_append_plain (s := { s' with heap := h3, toks := tk3 }) ⟨kk, hres3⟩ (fun h5 hl5 hs5 => ?_) (by rw [List.size_toArray, hall.length, sizeLine_eq]; lia)
 refine e1_1 hl5 fun k5 hl5 => ?_
 have T5 : Touch [Da] h3 h5 := same_touch hs5 (by simp) ⟨_, hl5⟩
 have frs5 : ∀ e ∈ fr, FrOk Z h5 e := fun e he => (frs3 e he).out T5 fun a ha q => by obtain rfl := List.mem_singleton.mp ha; exact (nz _ q).2.1 rfl
 have axk : ∀ a ∈ ax, a ≠ J /\ a ≠ Da /\ a ≠ Ca /\ a ∉ φi.flatten /\ a ∉ J :: Da :: Ca :: Z := fun a ha => by
  obtain ⟨g1, g2, o, g3⟩ := hax a ha
  refine e0_3 (N.ne ⟨o, g3⟩) fun n1 n2 n3 => ?_
  refine ⟨n1, n2, n3, fun q => live_ne g3 (stp.new a q g1).2, fun q => ?_⟩
  simp only [List.mem_cons] at q
  rcases q with q | q | q | q
  ·exact n1 q
  ·exact n2 q
  ·exact n3 q
  ·exact g2 q
 refine k φ3 { s' with heap := h5, toks := tk3 } ⟨?_, ?_, frs5, ?_, ?_, ?_, ?_⟩
 ·refine it.W.frame _ _ _ hst1 fun b hb o e => ?_
  rcases List.mem_cons.mp hb with rfl | hb
  ·refine e1_2 (it.firm _ _ hst1) fun o' ho' hf => ?_
   rw [e] at ho'; obtain rfl := Option.some.inj ho'
   exact T5.keep _ _ (by simp; exact N.jd) ((st3.zs b (by simp)).firm _ (T2.keep _ _ (by simp; exact N.jc) e) hf)
  ·refine e0_5 (axk b hb) fun n1 n2 n3 n4 n5 => ?_
   exact T5.keep _ _ (by simp; exact n2) (st3.keep _ _ (T2.keep _ _ (by simp; exact n3) e) n4 n5)
 ·exact I3.touch (tk := tk3) T5 hD fun e he => (frs5 e he).more News3.sub
 ·exact S3.touch (tk := tk3) T5 (fun a ha => by obtain rfl := List.mem_singleton.mp ha; exact N.d) fun a ha q => by obtain rfl := List.mem_singleton.mp ha; exact (nz _ q).2.1 rfl
 ·refine ⟨ws ++ [x], k5, ?_, (hall3.append (.one r3)).touch T5 hD⟩
  have e5 : ws.toArray.push x = (ws ++ [x]).toArray := by simp
  rw [e5] at hl5; exact hl5
 ·intro j v hj hP
  refine e1_2 (rep j v hj hP) fun d g1 g2 => ?_
  exact ⟨d, g1, (((g2.touch T1 hJ).touch T2 hC).step st3).touch T5 hD⟩
 ·have Vb : VarsAt C.K φi (J :: Da :: Ca :: Z) h2 (compEnvC sc' (clOf E sc'.names []) Ca E) sc' base := V2.weaken hkeep
  exact (Vb.step st3).touch T5 hD (by show Ca ∉ [Da]; simp; exact fun q => N.dc q.symm) fun p hp q => (nz _ (cz p hp)).2.1 (by simpa using q)
end
section
variable {C : Cst} {T : Tabs} {Rm : Around -> Prop} {n : Nat} {A : Around} {fr : List Env} {φ : List (List Addr)} {Z : List Addr} {m : Mem} {s : Shared} {E : Env} {sc sc' : Scope} {vars : Vars}
theorem names_keep {ts : List Expr} {ds : List D} {vars vars' : Vars} (hs : ∀ u ∈ ts, ∃ x p, u = .Name x p /\ kindOf sc x = some .local) (e : assignNames ts ds vars = some vars') (x : Str) (d0 : D) (hk : kindOf sc x ≠ some .local) (h : vars.lookup x = some d0) : vars'.lookup x = some d0 := by
 induction ts generalizing ds vars with
 | nil =>
  induction ds using List.casesOn with
  | nil => exact Option.some.inj e ▸ h
  | cons _ _ => exact none_some e
 | cons t ts ih =>
  refine e2_2 (hs t (.head _)) fun y p e1 hy => ?_
  rw [e1] at e
  induction ds using List.casesOn with
  | nil => exact none_some e
  | cons d ds => exact ih (fun u hu => hs u (.tail _ hu)) e ((setv_ne fun q : x = y => hk (q ▸ hy)).trans h)
theorem bind_keep {t : Expr} {d : D} {vars vars' : Vars} (ht : ownTarget sc t = true) (e : bindTo t d vars = some vars') {x : Str} {d0 : D} (hk : kindOf sc x ≠ some .local) (h : vars.lookup x = some d0) : vars'.lookup x = some d0 := by
 rcases own_is ht with ⟨y, p, e1, hy⟩ | ⟨ts, k, p, e1, hy⟩
 ·rw [e1] at e
  rw [<- Option.some.inj e]
  exact (setv_ne fun q : x = y => hk (q ▸ hy)).trans h
 ·rw [e1] at e
  rcases bind_of e with ⟨y, p, e2, _⟩ | ⟨ts', k', p', ds, e2, e3, e4⟩
  ·contradiction
  ·rw [<- (Expr.Tuple.inj e2).1] at e4
   exact names_keep hy e4 x d0 hk h
structure CompEnd (C : Cst) (φ : List (List Addr)) (Z : List Addr) (s : Shared) (m' : Mem) (es : List D) (Da Ca : Addr) (φ' : List (List Addr)) (s' : Shared) : Prop where
 step : Step φ Z s φ' s'
 mem : MemAt C.K C.H0 φ' (Ca :: Z) m' s'.heap
 rep : DRep C.K φ' (Ca :: Z) s'.heap (.ref Da) (.lst es)
 ns : ∃ mC, s'.heap.Ns Ca mC
 c : s.heap.get? Ca = none
 dc : Da ≠ Ca
theorem comp_begin {e : Expr} {J : Addr} {ob : Obj} {ax : List Addr} {ds : List D} {P : Nat -> Value -> Prop} {St : Nat -> Heap -> Prop} {X : Value -> Shared -> Prop} {RR : Value -> Addr -> Result -> Shared -> Prop} (hJ : s.heap.objs.size = J)
  (ok : EnvOk E sc) (hs : CompSc sc sc') (I : Inv C A fr φ Z m s) (V : VarsAt C.K φ Z s.heap E sc vars) (IO : ItemsOf C A φ Z s J ob ds ax P St)
  (loop : ∀ Da Ca s₃, News3 s Z J Da Ca -> AtTurn C A fr φ Z s E sc' (compVars sc' vars) J Da Ca ds P St 0 [] φ m s₃ -> codeAny (model C.prog C.w) A (.compStart e 0 (.ref J) (.ref Da) (compEnvC sc' (clOf E sc'.names []) Ca E)) (RR (.ref Da) Ca) s₃) :
  wpAny (model C.prog C.w) A (newList []) (fun acc s₃ => wpAny (model C.prog C.w) A (newFunctionEnv sc' E.globals (clOf E sc'.names []) [] E.qual none .none (some E)) (fun cenv s₄ =>
   codeAny (model C.prog C.w) A (.compStart e 0 (.ref J) acc { cenv with scope := relabel sc' E }) (RR acc cenv.locals) s₄) X s₃) X { s with heap := s.heap.push ob } := by
 refine wpAny_newObj_type (wpAny_newFunctionEnv hs.noCell (fun y hy => absurd hy List.not_mem_nil) (fun h₁ hns₁ hsb₁ => ?_) hs.kind)
 show codeAny (model C.prog C.w) A (.compStart e 0 (.ref J) (.ref (s.heap.push ob).objs.size) (compEnvC sc' (clOf E sc'.names []) ((s.heap.push ob).push { cls := .type "list", dict := none, data := .seq ([] : List Value).toArray }).objs.size E)) (RR (.ref (s.heap.push ob).objs.size) ((s.heap.push ob).push { cls := .type "list", dict := none, data := .seq ([] : List Value).toArray }).objs.size) { s with heap := h₁, toks := s.toks + ([] : List (Str × Value)).length }
 dsimp only at hns₁ hsb₁
 have z1 : (s.heap.push ob).objs.size = J + 1 := hJ ▸ Heap.size_push _ _
 generalize hL : ({ cls := .type "list", dict := none, data := .seq ([] : List Value).toArray } : Obj) = lo at hns₁ hsb₁ ⊢
 have z2 : ((s.heap.push ob).push lo).objs.size = J + 2 := by rw [Heap.size_push, z1]
 generalize hCa : ((s.heap.push ob).push lo).objs.size = Ca at hns₁ hsb₁ z2 ⊢
 generalize hDa : (s.heap.push ob).objs.size = Da at z1 ⊢
 have nJ : ∀ a, J <= a -> s.heap.get? a = none := fun a ha => none_of_size (hJ ▸ ha)
 have l1 : J < Da := z1 ▸ Nat.lt_succ_self J
 have l2 : Da < Ca := by rw [z1, z2]; exact Nat.lt_succ_self (J + 1)
 have l3 : J < Ca := Nat.lt_trans l1 l2
 have N : News3 s Z J Da Ca := ⟨nJ _ (Nat.le_refl _), nJ _ (Nat.le_of_lt l1), nJ _ (Nat.le_of_lt l3), Nat.ne_of_lt l1, Nat.ne_of_lt l3, Nat.ne_of_lt l2, fun a ha => (I.z0 a ha).2⟩
 have old : ∀ a o, s.heap.get? a = some o -> h₁.get? a = some o := fun a o e => hsb₁.extBut a o (fun q => live_ne e (q ▸ N.c)) (Heap.get?_push_of_some _ (Heap.get?_push_of_some _ (Heap.get?_push_of_some _ e)))
 have hob1 : (s.heap.push ob).get? J = some ob := by rw [<- hJ]; exact Heap.get?_push_size _ IO.free
 have hob : h₁.get? J = some ob := hsb₁.extBut _ ob N.jc (Heap.get?_push_of_some _ (Heap.get?_push_of_some _ hob1))
 have hres : h₁.get? Da = some (W.listOf ([] : List Value).toArray 0) := by
  refine hsb₁.extBut _ _ N.dc (Heap.get?_push_of_some _ ?_)
  rw [<- hDa, <- hL]
  exact Heap.get?_push_size _ rfl
 have hCa : ∃ o, h₁.get? Ca = some o := let ⟨o, _, _, ho, _⟩ := hns₁; ⟨o, ho⟩
 have big : C.H0.objs.size <= J := hJ ▸ I.big V.zl
 have I1 : Inv C A fr φ (J :: Da :: Ca :: Z) m { s with heap := h₁, toks := s.toks + ([] : List (Str × Value)).length } :=
  I.more old N.own News3.sub (List.forall_mem_cons.mpr ⟨⟨big, _, hob⟩, List.forall_mem_cons.mpr ⟨⟨Nat.le_trans big (Nat.le_of_lt l1), _, hres⟩, List.forall_mem_cons.mpr ⟨⟨Nat.le_trans big (Nat.le_of_lt l3), hCa⟩, fun a h => ⟨(I.z0 a h).1, let ⟨o, q⟩ := (I.z0 a h).2; ⟨o, old a o q⟩⟩⟩⟩⟩)
 have st1 : St 0 h₁ := IO.it.W.frame _ _ _ IO.st0 (List.forall_mem_cons.mpr ⟨fun o e => by rw [hob, <- hob1]; exact e, fun b hb o e => by
  obtain ⟨_, _, o', ho'⟩ := IO.ax b hb
  rw [old b o' ho', <- Heap.get?_push_of_some ob ho']; exact e⟩)
 exact loop Da Ca _ N ⟨st1, I1, fun e he =>
    let ⟨hk, L, mm, hf, hz, o, es, ep, ho, r⟩ := I.frs e he
    ⟨hk, L, mm, hf, hz, o, es, ep, old L o ho, r⟩,
   Step.grow φ Z old, ⟨[], 0, hres, .nil⟩, fun j v hj hP =>
    let ⟨d, g1, g2⟩ := IO.rep j v hj hP
    ⟨d, g1, g2.more old N.own⟩,
   comp_vars ok hs V old N.own News3.sub hns₁ (by simp)⟩
theorem comp_end {J Da Ca : Addr} {ds es : List D} {P : Nat -> Value -> Prop} {St : Nat -> Heap -> Prop} {i tk : Nat} {φi : List (List Addr)} {m' : Mem} {s' : Shared} {h₂ : Heap} {base : Vars} (N : News3 s Z J Da Ca) (hA : AtTurn C A fr φ Z s E sc' base J Da Ca ds P St i es φi m' s') (hz : es.length <= 16777216)
  (k : ∀ a o, a ∉ [J] -> s'.heap.get? a = some o -> h₂.get? a = some o) : CompEnd C φ Z s m' es Da Ca φi { s' with heap := h₂, toks := tk } := by
 refine e2_2 hA.res fun ws kk hr1 hr2 => ?_
 refine e1_2 hA.vars.ns fun mm hmm _ => ?_
 have sub : ∀ a ∈ [J], a ∈ J :: Da :: Ca :: Z := fun a ha => List.mem_singleton.mp ha ▸ .head _
 have sub2 : ∀ a ∈ Ca :: Z, a ∈ J :: Da :: Ca :: Z := fun a ha => .tail _ (.tail _ ha)
 have one : ∀ {a}, a ≠ J -> a ∉ [J] := fun n q => n (List.mem_singleton.mp q)
 refine e2_1 hA.step.same fun k1 t1 hsame => ?_
 refine ⟨⟨⟨h₂, tk, by rw [hsame]⟩, hA.step.pre, hA.step.new, fun a o e n1 n2 => k a o (one fun q => live_ne e (q ▸ N.j)) (hA.step.keep a o e n1 n2), fun a ha => (hA.step.zs a ha).trans (NsKeep.same fun o e => k a o (one (N.ne (N.z a ha)).1) e)⟩,
  hA.inv.mem.leave k sub sub2, .lst (k _ _ (one N.jd.symm) hr1) hz (fun q => (hA.inv.mem.apart _ q).1 (.tail _ (.head _))) (fun q => ?_) (hr2.leave k sub sub2), ?_, N.c, N.dc⟩
 ·exact (List.mem_cons.mp q).elim N.dc fun q => (N.ne (N.z _ q)).2.1 rfl
 ·refine e3_2 hmm fun o es ep ho r => ?_
  exact ⟨mm, o, es, ep, k _ o (one N.jc.symm) ho, r⟩
inductive CompAt (C : Cst) (A : Around) (fr : List Env) (φ : List (List Addr)) (Z : List Addr) (s : Shared) (E : Env) (sc' : Scope) (base : Vars) (J Da Ca : Addr) (ds : List D) (P : Nat -> Value -> Prop) (St : Nat -> Heap -> Prop) {β : Type} (f : D -> M β) (g : List β -> List D) (es : List D) (w : Nat) (m' : Mem) (k : Nat) (s' : Shared) : Prop
 | mk (i : Nat) (acc : List D) (φi : List (List Addr)) (mi : Mem) (rest : List β) : AtTurn C A fr φ Z s E sc' base J Da Ca ds P St i acc φi mi s' -> mapM f (ds.drop i) mi = .ok rest m' -> acc ++ g rest = es -> i <= ds.length -> acc.length <= w * i -> k = ds.length + 1 - i -> CompAt C A fr φ Z s E sc' base J Da Ca ds P St f g es w m' k s'
theorem drop_cons {ds : List D} {i : Nat} {d : D} (h : ds[i]? = some d) : ds.drop i = d :: ds.drop (i + 1) := by
 obtain ⟨w, rfl⟩ := List.getElem?_eq_some_iff.mp h
 exact List.drop_eq_getElem_cons w
theorem mapM_nil {β : Type} {f : D -> M β} {m m' : Mem} {r : List β} (h : mapM f [] m = .ok r m') : r = [] /\ m' = m := by
 have h : Res.ok [] m = Res.ok r m' := h
 exact ⟨(Res.ok.inj h).1.symm, (Res.ok.inj h).2.symm⟩
theorem comp_core {elt t it : Expr} {pos : Pos} {ob : Obj} {ax : List Addr} {ds es : List D} {P : Nat -> Value -> Prop} {St : Nat -> Heap -> Prop} {m' : Mem} {X : Value -> Shared -> Prop} {RR : Value -> Addr -> Result -> Shared -> Prop}
  (hn : SE C T Rm n) (hR : Rm A) (ok : EnvOk E sc) (hs : CompSc sc sc') (I : Inv C A fr φ Z m s) (V : VarsAt C.K φ Z s.heap E sc vars) (IO : ItemsOf C A φ Z s s.heap.objs.size ob ds ax P St) (ht : ownTarget sc' t = true) (hz : ds.length <= cap)
  (hrun : mapM (fun d => bind (lift (bindTo t d (compVars sc' vars))) fun env' => ev T n sc' elt env') ds m = .ok es m')
  (fin : ∀ Da Ca φ' s', CompEnd C φ Z s m' es Da Ca φ' s' -> RR (.ref Da) Ca (.ok .next) s') :
  wpAny (model C.prog C.w) A (newList []) (fun acc s₃ => wpAny (model C.prog C.w) A (newFunctionEnv sc' E.globals (clOf E sc'.names []) [] E.qual none .none (some E)) (fun cenv s₄ =>
   codeAny (model C.prog C.w) A (.compStart (.ListComp elt [⟨t, it, [], 0⟩] sc' pos) 0 (.ref s.heap.objs.size) acc { cenv with scope := relabel sc' E }) (RR acc cenv.locals) s₄) X s₃) X { s with heap := s.heap.push ob } := by
 generalize hJ : s.heap.objs.size = J at IO
 refine comp_begin hJ ok hs I V IO fun Da Ca s₃ N A0 => ?_
 have hc := cap_is
 generalize hB : compVars sc' vars = base at A0 hrun
 generalize hf : (fun d => bind (lift (bindTo t d base)) fun env' => ev T n sc' elt env') = f at hrun
 have loop : codeAny (model C.prog C.w) A (.compLoop (.ListComp elt [⟨t, it, [], 0⟩] sc' pos) 0 (.ref J) (.ref Da) (compEnvC sc' (clOf E sc'.names []) Ca E)) (RR (.ref Da) Ca) s₃ := by
  refine compLoop_any (CompAt C A fr φ Z s E sc' base J Da Ca ds P St f id es 1 m') ?_ (ds.length + 1) (.mk 0 [] φ m es A0 hrun rfl (Nat.zero_le _) (Nat.zero_le _) rfl)
  intro k s' ⟨i, acc, φi, mi, rest, hA, hrest, hes, hi, hai, hk⟩
  clear hrun A0
  cases hd : ds[i]? with
  | some d =>
   have hlt : i < ds.length := (List.getElem?_eq_some_iff.mp hd).1
   rw [drop_cons hd] at hrest
   refine e3_3 (mapM_cons hrest) fun e m₁ es' he hr hr2 => ?_
   rw [<- hf] at he
   refine e2_2 (bind_ok he) fun env' m₂ hl hev => ?_
   refine e0_2 (lift_ok hl) fun hb hm => ?_
   rw [hm] at hev
   rw [hr2] at hes
   generalize hN : (notedBy (model C.prog C.w) A (compEnvC sc' (clOf E sc'.names []) Ca E) fun e s' => RR (.ref Da) Ca (.error e) s') = NB
   refine wpAny_mono (comp_turn (X := NB) (X' := NB) (X'' := NB) (X''' := NB) (X4 := NB)
    (Fin := fun s' => ∃ k', k' < k /\ CompAt C A fr φ Z s E sc' base J Da Ca ds P St f id es 1 m' k' s')
    hn hR ok hs V IO.it N IO.ax (own_target ht) hA hd hb hev (by lia)
    (fun x d0 h0 => bind_keep ht hb (by rw [(compVars_lookup (hB ▸ h0)).1]; intro q; exact absurd (Option.some.inj q) nofun) h0)
    fun φ'' s'' hA' => ⟨ds.length + 1 - (i + 1), by lia, .mk (i + 1) (acc ++ [e]) φ'' m₁ es' hA' hr (by rw [List.append_assoc]; exact hes) hlt (by rw [List.length_append, Nat.mul_succ]; exact Nat.succ_le_succ hai) rfl⟩) (fun r s₁ h₁ => ?_) fun _ _ x => x
   induction r with
   | none => exact h₁.elim
   | some v => exact h₁
  | none =>
   have hin : ds.length = i := Nat.le_antisymm (List.getElem?_eq_none_iff.mp hd) hi
   rw [<- hin, List.drop_length] at hrest
   refine e0_2 (mapM_nil hrest) fun e1 e2 => ?_
   have hes : acc = es := by rw [<- hes, e1]; exact (List.append_nil acc).symm
   rw [e2, <- hes] at fin
   exact IO.it.W.done s' _ _ (hin ▸ hA.st) fun h₂ tk₂ hk₂ => fin _ _ φi _ (comp_end N hA (by lia) fun a o q e => hk₂ a o q e)
 exact codeAny_compStart_list loop (IO.it.W.self 0 _ _ _ A0.st loop)
theorem set_folded {it : Expr} (h : notSet it = true) (x : Value) : foldedSetIterable it E x = pure x := by
 induction it using Expr.casesOn <;> first | rfl | contradiction
theorem CompEnd.close {m' : Mem} {es : List D} {Da Ca : Addr} {φ' : List (List Addr)} {s' : Shared} {h' : Heap} (c : CompEnd C φ Z s m' es Da Ca φ' s') (hz : ∀ a ∈ Z, ∃ o, s.heap.get? a = some o) (hs : Heap.SameBut Ca s'.heap h') :
  Step φ Z s φ' { s' with heap := h' } /\ MemAt C.K C.H0 φ' Z m' h' /\ DRep C.K φ' Z h' (.ref Da) (.lst es) := by
 have k : ∀ a o, a ∉ [Ca] -> s'.heap.get? a = some o -> h'.get? a = some o := fun a o n e => hs.extBut a o (by simpa using n) e
 have sub : ∀ a ∈ [Ca], a ∈ Ca :: Z := fun a ha => by simp at ha; simp [ha]
 have sub2 : ∀ a ∈ Z, a ∈ Ca :: Z := fun a ha => .tail _ ha
 have nz : ∀ a ∈ Z, a ∉ [Ca] := fun a ha q => by obtain ⟨o, ho⟩ := hz a ha; exact live_ne ho (by simp at q; rw [q]; exact c.c)
 refine ⟨?_, c.mem.leave k sub sub2, ?_⟩
 ·refine e2_1 c.step.same fun k1 t1 hsame => ?_
  exact ⟨⟨h', t1, by rw [hsame]⟩, c.step.pre, c.step.new, fun a o e n1 n2 => k a o (fun q => live_ne e (by simp at q; rw [q]; exact c.c)) (c.step.keep a o e n1 n2), fun a ha => (c.step.zs a ha).trans (NsKeep.same fun o e => k a o (nz a ha) e)⟩
 ·exact c.rep.mono ⟨fun a o e n1 n2 => ⟨k a o (fun q => n2 (sub a q)) e, n1, fun q => n2 (sub2 a q)⟩, fun _ _ e => e⟩
theorem scomp_one {elt t it : Expr} {pos : Pos} {Q X : Value -> Shared -> Prop} (hn : SE C T Rm n) (hR : Rm A) (I : Inv C A fr φ Z m s) (ok : EnvOk E sc) (V : VarsAt C.K φ Z s.heap E sc vars)
  (h : Post C (RV C Z) fr φ Z s (ev T (n + 1) sc (.ListComp elt [⟨t, it, [], 0⟩] sc' pos) vars m) Q X) : wpAny (model C.prog C.w) A (eval (.ListComp elt [⟨t, it, [], 0⟩] sc' pos) E) Q X s := by
 rw [ev_comp1] at h
 refine e0_2 (post_ite h) fun hc h => ?_
 simp only [Bool.and_eq_true] at hc
 obtain ⟨⟨hsc, hset⟩, ht⟩ := hc
 have hs := compSc_of hsc
 rw [eval_ListComp]
 refine wpAny_comprehension_free (use := none) (cl := clOf E sc'.names []) rfl (set_folded hset) (clos_is (comp_free ok hs)) hs.kind hs.loc (wpAny_mono (hn hR I ok V (Post.bind h)) (fun xv s₁ hv => ?_) fun _ _ x => x)
 obtain ⟨d, m₁, φ₁, st, q, r, h₁⟩ := hv
 have I₁ := I.step st q
 refine e1_2 (Post.lift_bind h₁) fun ds hds h₁ => ?_
 refine e0_2 (post_itep h₁) fun hz h₁ => ?_
 refine e2_2 (Post.calm_bind h₁) fun es m' hrun h₂ => ?_
 refine snd_iter I₁ r hds hz fun ob ax P St IO => ?_
 refine comp_core (RR := fun acc Ca => compPost (model C.prog C.w) A X none Q acc Ca) hn hR ok hs I₁ (V.step st) IO ht hz hrun fun Da Ca φ' s' c => ?_
 refine e1_1 c.ns fun mC hmC => ?_
 refine ⟨mC, hmC, fun h' hsb => ?_⟩
 refine e0_3 (c.close (fun a ha => (I₁.z0 a ha).2) hsb) fun g1 g2 g3 => ?_
 exact h₂ _ _ _ g1 g2 g3
end
section
variable {K : Frag} {φ φ' φ'' : List (List Addr)} {Z Z' own own' : List Addr} {s s' s'' : Shared} {h h' : Heap}
theorem XStep.refl : XStep φ Z own s φ s := (Step.refl φ Z s).x
theorem XStep.keeps0 (x : XStep φ Z own s φ' s') : Keeps0 φ Z φ' Z s.heap s'.heap :=
 ⟨fun a o e n1 n2 => ⟨x.keep a o e n1 n2, fun q => live_ne e (x.new a q n1).2, n2⟩, fun _ _ e => prefix_get x.pre e⟩
theorem DRep.xstep {v : Value} {d : D} (r : DRep K φ Z s.heap v d) (x : XStep φ Z own s φ' s') : DRep K φ' Z s'.heap v d := r.mono x.keeps0
theorem XStep.trans (x : XStep φ Z own s φ' s') (y : XStep φ' Z own s' φ'' s'') : XStep φ Z own s φ'' s'' := by
 refine e2_1 x.same fun h1 t1 ee1 => ?_; subst ee1
 refine e2_1 y.same fun h2 t2 ee1 => ?_; subst ee1
 refine ⟨⟨_, _, rfl⟩, x.pre.trans y.pre, fun a ha hn => ?_, fun a o e n1 n2 => ?_, fun a hz ho => (x.zs a hz ho).trans (y.zs a hz ho)⟩
 ·by_cases q : a ∈ φ'.flatten
  ·exact x.new a q hn
  ·have z := y.new a ha q
   refine ⟨z.1, ?_⟩
   cases w : s.heap.get? a with
   | none => rfl
   | some o => exact (live_ne (x.keep a o w hn z.1) z.2).elim
 ·have e1 := x.keep a o e n1 n2
  exact y.keep a o e1 (fun q => live_ne e (x.new a q n1).2) n2
theorem Touch.x {tk : Nat} (t : Touch own s.heap h') (ho : ∀ a ∈ own, a ∈ Z) : XStep φ Z own s φ { s with heap := h', toks := tk } :=
 ⟨⟨_, _, rfl⟩, List.prefix_refl _, fun a h n => absurd h n, fun a o e _ n2 => t.keep a o (fun q => n2 (ho a q)) e, fun a _ hn => NsKeep.same fun o e => t.keep a o hn e⟩
theorem XStep.inner (x : XStep φ Z own s φ' s') (y : XStep φ' Z' own' s' φ'' s'') (h1 : ∀ a ∈ Z', a ∈ Z \/ s.heap.get? a = none) (h2 : ∀ a ∈ Z, a ∈ Z') (h3 : ∀ a ∈ own', a ∈ Z -> a ∈ own) : XStep φ Z own s φ'' s'' := by
 refine e2_1 x.same fun k1 t1 ee1 => ?_; subst ee1
 refine e2_1 y.same fun k2 t2 ee1 => ?_; subst ee1
 refine ⟨⟨_, _, rfl⟩, x.pre.trans y.pre, fun a ha hn => ?_, fun a o e n1 n2 => ?_, fun a hz ho => (x.zs a hz ho).trans (y.zs a (h2 a hz) fun q => ho (h3 a q hz))⟩
 ·by_cases q : a ∈ φ'.flatten
  ·exact x.new a q hn
  ·have z := y.new a ha q
   refine ⟨fun q => z.1 (h2 a q), ?_⟩
   cases w : s.heap.get? a with
   | none => rfl
   | some o => exact (live_ne (x.keep a o w hn fun q => z.1 (h2 a q)) z.2).elim
 ·have e1 := x.keep a o e n1 n2
  refine y.keep a o e1 (fun q => live_ne e (x.new a q n1).2) fun q => ?_
  rcases h1 a q with q | q
  ·exact n2 q
  ·exact live_ne e q
theorem XStep.toStep (x : XStep φ Z own s φ' s') (h : ∀ a ∈ own, a ∉ Z) : Step φ Z s φ' s' := ⟨x.same, x.pre, x.new, x.keep, fun a ha => x.zs a ha fun q => h a q ha⟩
theorem Inv.xtouch {C : Cst} {A : Around} {fr : List Env} {m : Mem} {tk : Nat} (I : Inv C A fr φ Z m s) (t : Touch own s.heap h') (ho : ∀ a ∈ own, a ∈ Z) (hf : ∀ e ∈ fr, ∀ L, e.frame = some L -> L ∉ own) : Inv C A fr φ Z m { s with heap := h', toks := tk } :=
 I.touch t ho fun e he => (I.frs e he).touch t (hf e he)
section
variable {C : Cst} {T : Tabs} {Rm : Around -> Prop} {n : Nat} {A : Around} {fr : List Env} {m : Mem} {E : Env} {sc : Scope}
theorem one_mem {a : Addr} (h : a ∈ Z) : ∀ b ∈ [a], b ∈ Z := fun b hb => by obtain rfl := List.mem_singleton.mp hb; exact h
theorem adv_x {t : Expr} {J : Addr} {ax : List Addr} {len : Nat} {base env' : Vars} {P : Nat -> Value -> Prop} {St : Nat -> Heap -> Prop} {i : Nat} {d : D} {Q : Unit -> Shared -> Prop} {X X' X'' : Value -> Shared -> Prop}
  (it : Iter C A J ax len P St) (I : Inv C A fr φ Z m s) (hJ : J ∈ Z) (hfr : ∀ e ∈ fr, (∀ L, e.frame = some L -> L ≠ J /\ L ∉ ownE E sc) \/ (e = E /\ E.frame = some E.locals)) (ok : EnvOk E sc) (hJo : J ∉ ownE E sc) (hJc : ∀ p ∈ E.cells, p.2 ≠ J) (V : VarsAt C.K φ Z s.heap E sc base)
  (hax : ∀ a ∈ ax, a ∉ Z) (ht : okTarget sc t = true) (hst : St i s.heap) (hi : i < len) (hd : ∀ v, P i v -> DRep C.K φ Z s.heap v d) (hb : bindTo t d base = some env')
  (k : ∀ h' tk, Touch (J :: ownE E sc) s.heap h' -> Inv C A fr φ Z m { s with heap := h', toks := tk } -> St (i + 1) h' -> VarsAt C.K φ Z h' E sc env' -> Q () { s with heap := h', toks := tk }) :
  wpAny (model C.prog C.w) A (pyNext (.ref J)) (fun r s₁ => match r with
   | none => False
   | some v => wpAny (model C.prog C.w) A (letOwnedTupleGo t (.ref J) v) (fun _ s₁' => wpAny (model C.prog C.w) A (assign t E v) Q X s₁') X' s₁) X'' s := by
 have hJl : E.locals ≠ J := fun q => hJo (by rw [<- q]; exact .head _)
 refine it.W.item i s _ _ hi hst fun v h1 tk1 hP hst1 hk1 => ?_
 dsimp only
 have T1 : Touch [J] s.heap h1 := ⟨fun a o q e => hk1 a o q e, fun a ha _ => by
  obtain rfl := List.mem_singleton.mp ha
  refine e1_2 (it.firm _ _ hst1) fun o ho _ => ?_; exact ⟨o, ho⟩⟩
 have I1 : Inv C A fr φ Z m { s with heap := h1, toks := tk1 } := I.xtouch T1 (one_mem hJ) fun e he L hL q => by
  have q : L = J := by simpa using q
  rcases hfr e he with w | ⟨rfl, w⟩
  ·exact (w L hL).1 q
  ·rw [w] at hL; obtain rfl := Option.some.inj hL; exact hJl q
 have V1 : VarsAt C.K φ Z h1 E sc base := V.touch T1 (one_mem hJ) (fun q => hJl (by simpa using q)) fun p hp q => hJc p hp (by simpa using q)
 refine it.goAny (s := { s with heap := h1, toks := tk1 }) ht hst1 ?_
 refine snd_target (s := { s with heap := h1, toks := tk1 }) I1 ok ht hb V1 ((hd v hP).touch T1 (one_mem hJ)) fun h2 tk2 T2 V2 => ?_
 dsimp only at T2
 refine k h2 tk2 ((T1.mono fun a ha => by obtain rfl := List.mem_singleton.mp ha; exact .head _).trans (T2.mono fun a ha => .tail _ ha)) (I1.touch (tk := tk2) T2 V1.own fun e he => ?_) ?_ V2
 ·rcases hfr e he with w | ⟨rfl, w⟩
  ·exact (I1.frs e he).touch T2 fun L hL => (w L hL).2
  ·obtain ⟨⟨mm, hns, _⟩, _, _, zl, _⟩ := V2
   exact ⟨ok.kind, _, mm, w, zl, hns⟩
 refine it.W.frame _ _ _ hst1 fun b hb o e => T2.keep b o (fun q => ?_) e
 rcases List.mem_cons.mp hb with rfl | hb
 ·exact hJo q
 ·exact hax b hb (V1.own b q)
end
end
theorem FlewX.x {C : Cst} {fr : List Env} {φ : List (List Addr)} {Z own : List Addr} {m' : Mem} {s s' : Shared} {e : Value} (x : Flew C fr φ Z m' s e s') : FlewX C fr φ Z own m' s e s' := x.mono fun _ h => absurd h List.not_mem_nil
noncomputable def PostX {α β : Type} (C : Cst) (R : List (List Addr) -> Heap -> β -> α -> Prop) (fr : List Env) (φ : List (List Addr)) (Z own : List Addr) (s : Shared) (r : Res α) (Q : β -> Shared -> Prop) (E : Value -> Shared -> Prop) : Prop := match r with
 | .ok a m' => ∀ b φ' s', XStep φ Z own s φ' s' -> MemAt C.K C.H0 φ' Z m' s'.heap -> R φ' s'.heap b a -> Q b s'
 | .exc m' => ∀ e s', FlewX C fr φ Z own m' s e s' -> E e s'
 | .stuck => False
section
variable {α α' β β' : Type} {C : Cst} {R : List (List Addr) -> Heap -> β -> α -> Prop} {R' : List (List Addr) -> Heap -> β' -> α' -> Prop} {fr : List Env} {φ : List (List Addr)} {Z own : List Addr} {s : Shared} {Q : β -> Shared -> Prop} {Q' : β' -> Shared -> Prop} {E : Value -> Shared -> Prop}
inductive ThenX (C : Cst) (R : List (List Addr) -> Heap -> β -> α -> Prop) (R' : List (List Addr) -> Heap -> β' -> α' -> Prop) (fr : List Env) (φ : List (List Addr)) (Z own : List Addr) (s : Shared) (f : α -> M α') (Q' : β' -> Shared -> Prop) (E : Value -> Shared -> Prop) (b : β) (s₁ : Shared) : Prop
 | mk (a : α) (m₁ : Mem) (φ₁ : List (List Addr)) : XStep φ Z own s φ₁ s₁ -> MemAt C.K C.H0 φ₁ Z m₁ s₁.heap -> R φ₁ s₁.heap b a -> PostX C R' fr φ₁ Z own s₁ (f a m₁) Q' E -> ThenX C R R' fr φ Z own s f Q' E b s₁
inductive ThenS (C : Cst) (R : List (List Addr) -> Heap -> β -> α -> Prop) (R' : List (List Addr) -> Heap -> β' -> α' -> Prop) (fr : List Env) (φ : List (List Addr)) (Z own : List Addr) (s : Shared) (f : α -> M α') (Q' : β' -> Shared -> Prop) (E : Value -> Shared -> Prop) (b : β) (s₁ : Shared) : Prop
 | mk (a : α) (m₁ : Mem) (φ₁ : List (List Addr)) : Step φ Z s φ₁ s₁ -> MemAt C.K C.H0 φ₁ Z m₁ s₁.heap -> R φ₁ s₁.heap b a -> PostX C R' fr φ₁ Z own s₁ (f a m₁) Q' E -> ThenS C R R' fr φ Z own s f Q' E b s₁
theorem PostX.step {φ₁ : List (List Addr)} {s₁ : Shared} {r : Res α} (h : PostX C R fr φ Z own s r Q E) (x : XStep φ Z own s φ₁ s₁) : PostX C R fr φ₁ Z own s₁ r Q E := by
 induction r with
 | ok a m' => exact fun b φ' s' y q r => h b φ' s' (x.trans y) q r
 | exc m' => exact fun e s' y => h e s' (FlewX.trans x y)
 | stuck => exact h
theorem PostX.bind {x : M α} {f : α -> M α'} {m : Mem} (h : PostX C R' fr φ Z own s (Mine.bind x f m) Q' E) : PostX C R fr φ Z own s (x m) (ThenX C R R' fr φ Z own s f Q' E) E := by
 unfold Mine.bind at h
 cases hx : x m with
 | ok a m' =>
  rw [hx] at h
  exact fun b φ' s' y q r => ⟨a, m', φ', y, q, r, PostX.step h y⟩
 | exc m' => rw [hx] at h; exact h
 | stuck => rw [hx] at h; exact h
theorem PostX.ebind {x : M α} {f : α -> M α'} {m : Mem} (h : PostX C R' fr φ Z own s (Mine.bind x f m) Q' E) : Post C R fr φ Z s (x m) (ThenS C R R' fr φ Z own s f Q' E) E := by
 unfold Mine.bind at h
 cases hx : x m with
 | ok a m' =>
  rw [hx] at h
  exact fun b φ' s' y q r => ⟨a, m', φ', y, q, r, PostX.step h y.x⟩
 | exc m' => rw [hx] at h; exact fun e s' y => h e s' y.x
 | stuck => rw [hx] at h; exact h
theorem PostX.look_bind {f : Mem -> Option α'} {g : α' -> M α} {m : Mem} (h : PostX C R fr φ Z own s (Mine.bind (Mine.look f) g m) Q E) : ∃ a, f m = some a /\ PostX C R fr φ Z own s (g a m) Q E := by
 unfold Mine.bind Mine.look at h
 cases e : f m with
 | none => rw [e] at h; exact h.elim
 | some a => rw [e] at h; exact ⟨a, rfl, h⟩
theorem PostX.lift_bind {o : Option α'} {g : α' -> M α} {m : Mem} (h : PostX C R fr φ Z own s (Mine.bind (Mine.lift o) g m) Q E) : ∃ a, o = some a /\ PostX C R fr φ Z own s (g a m) Q E := by
 induction o with
 | none => exact h.elim
 | some a => exact ⟨a, rfl, h⟩
theorem PostX.calm_bind {x : M α'} {k : α' -> M α} {m : Mem} (h : PostX C R fr φ Z own s (Mine.bind (calm x) k m) Q E) : ∃ a m', x m = .ok a m' /\ PostX C R fr φ Z own s (k a m') Q E := by
 unfold Mine.bind calm at h
 cases h1 : x m with
 | ok a m₁ => rw [h1] at h; exact ⟨a, m₁, rfl, h⟩
 | exc _ => rw [h1] at h; exact h.elim
 | stuck => rw [h1] at h; exact h.elim
theorem postx_ite {c : Bool} {x : M α} {m : Mem} (h : PostX C R fr φ Z own s ((if c = true then x else fail) m) Q E) : c = true /\ PostX C R fr φ Z own s (x m) Q E := by
 induction c with
 | true => exact ⟨rfl, h⟩
 | false => exact h.elim
theorem postx_cond {c : Bool} {x y : M α} {m : Mem} (h : PostX C R fr φ Z own s ((cond c x y) m) Q E) : if c = true then PostX C R fr φ Z own s (x m) Q E else PostX C R fr φ Z own s (y m) Q E := by
 induction c <;> exact h
end
noncomputable def RF (C : Cst) (E : Env) (sc : Scope) (Z : List Addr) : List (List Addr) -> Heap -> Flow -> Fl -> Prop := fun φ h fl fl' => match fl, fl' with
 | .next, .next vars => VarsAt C.K φ Z h E sc vars
 | .ret v, .ret d => DRep C.K φ Z h v d
 | _, _ => False
structure FrameOk (E : Env) (sc : Scope) (fr : List Env) : Prop where
 env : EnvOk E sc
 own : E.frame = some E.locals
 look : ∀ p ∈ E.cells, E.cells.lookup p.1 = some p.2
 apart : ∀ e ∈ fr, ∀ L, e.frame = some L -> L ∉ ownE E sc
section
variable {C : Cst} {T : Tabs} {Rm : Around -> Prop}
noncomputable def SX (C : Cst) (T : Tabs) (Rm : Around -> Prop) (mt : List Str) (rc : Bool) (n : Nat) : Prop :=
 ∀ {sc : Scope} {st : Stmt} {E : Env} {A : Around} {fr : List Env} {φ : List (List Addr)} {Z : List Addr} {m : Mem} {s : Shared} {Q : Flow -> Shared -> Prop} {X : Value -> Shared -> Prop} {vars : Vars}, Rm A -> Inv C A (E :: fr) φ Z m s -> FrameOk E sc fr -> VarsAt C.K φ Z s.heap E sc vars ->
  PostX C (RF C E sc Z) (E :: fr) φ Z (ownE E sc) s (exec T mt rc n sc st vars m) Q X -> wpAny (model C.prog C.w) A (PySem.exec st E) Q X s
noncomputable def SXs (C : Cst) (T : Tabs) (Rm : Around -> Prop) (mt : List Str) (rc : Bool) (n : Nat) : Prop :=
 ∀ {sc : Scope} {st : List Stmt} {E : Env} {A : Around} {fr : List Env} {φ : List (List Addr)} {Z : List Addr} {m : Mem} {s : Shared} {Q : Flow -> Shared -> Prop} {X : Value -> Shared -> Prop} {vars : Vars}, Rm A -> Inv C A (E :: fr) φ Z m s -> FrameOk E sc fr -> VarsAt C.K φ Z s.heap E sc vars ->
  PostX C (RF C E sc Z) (E :: fr) φ Z (ownE E sc) s (execs T mt rc n sc st vars m) Q X -> wpAny (model C.prog C.w) A (PySem.execs st E) Q X s
variable {mt : List Str} {rc : Bool} {n : Nat} {sc : Scope} {E : Env} {A : Around} {fr : List Env} {φ : List (List Addr)} {Z : List Addr} {m : Mem} {s : Shared} {Q : Flow -> Shared -> Prop} {X : Value -> Shared -> Prop} {vars : Vars}
theorem Inv.framed {φ' : List (List Addr)} {m' : Mem} {s' : Shared} {vars' : Vars} (I : Inv C A (E :: fr) φ Z m s) (F : FrameOk E sc fr) (V0 : VarsAt C.K φ Z s.heap E sc vars) (x : XStep φ Z (ownE E sc) s φ' s') (q : MemAt C.K C.H0 φ' Z m' s'.heap) (V : VarsAt C.K φ' Z s'.heap E sc vars') : Inv C A (E :: fr) φ' Z m' s' := by
 refine ⟨fun a o e => x.keep a o (I.h0 a o e) (fun n => ?_) (fun n => ?_), fun a ha => ⟨(I.z0 a ha).1, ?_⟩, q, fun e he => ?_, I.frames, I.hand⟩
 ·have := (I.mem.apart a n).2.1; rw [e] at this; contradiction
 ·have := none_of_size (I.z0 a n).1; rw [e] at this; contradiction
 ·by_cases w : a ∈ ownE E sc
  ·cases w with
   | head => obtain ⟨⟨mm, ⟨o, _, _, ho, _⟩, _⟩, _⟩ := V; exact ⟨o, ho⟩
   | tail _ w =>
    refine e1_2 (List.mem_map.mp w) fun p hp ee1 => ?_; subst ee1
    refine e0_2 (List.mem_filter.mp hp) fun hp1 hp2 => ?_
    obtain ⟨c, v, h1, o, ho, _⟩ := V.ce p.1 (by simpa using hp2)
    rw [F.look p hp1] at h1; obtain rfl := Option.some.inj h1
    exact ⟨o, ho⟩
  ·exact (x.zs a ha w).live (I.z0 a ha).2
 ·rcases List.mem_cons.mp he with rfl | he
  ·obtain ⟨⟨mm, hns, _⟩, _, _, zl, _⟩ := V
   exact ⟨F.env.kind, _, mm, F.own, zl, hns⟩
  ·obtain ⟨hk, L, mm, hf, hz, hns⟩ := I.frs e (.tail _ he)
   exact ⟨hk, L, mm, hf, hz, (x.zs L hz (F.apart e he L hf)).ns mm hns⟩
end
section
variable {C : Cst} {T : Tabs} {Rm : Around -> Prop} {mt : List Str} {rc : Bool} {n : Nat} {sc : Scope} {E : Env} {A : Around} {fr : List Env} {φ : List (List Addr)} {Z : List Addr} {m : Mem} {s : Shared} {vars : Vars}
theorem flatten_snoc {α : Type} (l : List (List α)) (x : List α) : (l ++ [x]).flatten = l.flatten ++ x := by simp
theorem MemAt.snoc {K : Frag} {H0 h h' : Heap} {l : List Addr} {c : Cell} (x : MemAt K H0 φ Z m h) (k : ∀ a o, h.get? a = some o -> h'.get? a = some o) (hl : ∀ a ∈ l, h.get? a = none /\ a ∉ Z /\ H0.get? a = none /\ ∃ o, h'.get? a = some o) (nd : l.Nodup)
  (hc : CellAt K (φ ++ [l]) Z h' l c) : MemAt K H0 (φ ++ [l]) Z (m ++ [c]) h' := by
 have kk : Keeps0 φ Z (φ ++ [l]) Z h h' := ⟨fun a o e n1 n2 => ⟨k a o e, fun q => by
  rw [flatten_snoc, List.mem_append] at q
  rcases q with q | q
  ·exact n1 q
  ·exact live_ne e (hl a q).1, n2⟩, fun i c e => by rw [List.getElem?_append_left (List.getElem?_eq_some_iff.mp e).1]; exact e⟩
 refine ⟨by simp [x.len], fun i c' e => ?_, ?_, fun a ha => ?_⟩
 ·by_cases w : i < m.length
  ·rw [List.getElem?_append_left w] at e
   refine e1_2 (x.cell i c' e) fun l' hl' r => ?_
   refine ⟨l', kk.cells _ _ hl', ?_⟩
   induction r with
   | lst e1 z r p => exact .lst (k _ _ e1) z (r.mono kk) p
   | inst hc e1 e2 r p => exact .inst hc (k _ _ e1) (k _ _ e2) (r.mono kk) p
   | dead => exact .dead
  ·have hi : i = m.length := by
    have := (List.getElem?_eq_some_iff.mp e).1
    simp at this; lia
   subst hi
   rw [List.getElem?_append_right (Nat.le_refl _), Nat.sub_self] at e
   obtain rfl := Option.some.inj e
   refine ⟨l, ?_, hc⟩
   rw [<- x.len, List.getElem?_append_right (Nat.le_refl _), Nat.sub_self]; rfl
 ·rw [flatten_snoc, List.nodup_append]
  exact ⟨x.nd, nd, fun a ha b hb q => by
   subst q
   refine e1_1 ((x.apart a ha).2.2) fun o ho => ?_
   exact live_ne ho (hl a hb).1⟩
 ·rw [flatten_snoc, List.mem_append] at ha
  rcases ha with ha | ha
  ·obtain ⟨h1, h2, o, h3⟩ := x.apart a ha
   exact ⟨h1, h2, o, k a o h3⟩
  ·exact (hl a ha).2
theorem Step.snoc {h' : Heap} {tk : Nat} {l : List Addr} (k : ∀ a o, s.heap.get? a = some o -> h'.get? a = some o) (hl : ∀ a ∈ l, s.heap.get? a = none /\ a ∉ Z) : Step φ Z s (φ ++ [l]) { s with heap := h', toks := tk } :=
 ⟨⟨_, _, rfl⟩, List.prefix_append _ _, fun a ha hn => by
  rw [flatten_snoc, List.mem_append] at ha
  rcases ha with ha | ha
  ·exact absurd ha hn
  ·exact ⟨(hl a ha).2, (hl a ha).1⟩, fun a o e _ _ => k a o e, fun a _ => NsKeep.same (k a)⟩
theorem snd_alloc {ds : List D} {vs : List Value} {k : Nat} {Q X : Value -> Shared -> Prop} {fr : List Env} (I : Inv C A fr φ Z m s) (hb : C.H0.objs.size <= s.heap.objs.size) (r : DAll C.K φ Z s.heap vs ds) (h : Post C (RV C Z) fr φ Z s (alloc ds m) Q X) :
  vs.length <= sizeLine /\ Q (.ref s.heap.objs.size) { s with heap := s.heap.push (W.listOf vs.toArray k) } := by
 unfold alloc at h
 by_cases hp : (plain.plains ds && decide (ds.length <= cap)) = true
 ·rw [if_pos hp] at h
  rw [Bool.and_eq_true, decide_eq_true_eq] at hp
  have hc := cap_is
  have kk : ∀ a o, s.heap.get? a = some o -> (s.heap.push (W.listOf vs.toArray k)).get? a = some o := fun a o e => Heap.get?_push_of_some _ e
  have nw := I.new
  have hn : s.heap.get? s.heap.objs.size = none := none_of_size (Nat.le_refl _)
  have hh : (s.heap.push (W.listOf vs.toArray k)).get? s.heap.objs.size = some (W.listOf vs.toArray k) := Heap.get?_push_size _ rfl
  have st : Step φ Z s (φ ++ [[s.heap.objs.size]]) { s with heap := s.heap.push (W.listOf vs.toArray k), toks := s.toks } := Step.snoc kk fun a ha => by obtain rfl := List.mem_singleton.mp ha; exact ⟨hn, nw.2⟩
  refine ⟨by rw [r.length, sizeLine_eq]; lia, h _ (φ ++ [[s.heap.objs.size]]) _ st ?_ ?_⟩
  ·refine I.mem.snoc kk (fun a ha => ?_) (by simp) (.lst hh (by lia) (r.step st) hp.1)
   obtain rfl := List.mem_singleton.mp ha
   exact ⟨hn, nw.2, none_of_size hb, _, hh⟩
  ·have hlen : φ.length = m.length := I.mem.len
   refine .cell (r := []) ?_
   rw [<- hlen, List.getElem?_append_right (Nat.le_refl _), Nat.sub_self]; rfl
 ·rw [if_neg hp] at h; exact h.elim
theorem se_alloc {es : List Expr} {pos : Pos} {Q X : Value -> Shared -> Prop} {fr : List Env} (hn : SE C T Rm n) (hR : Rm A) (I : Inv C A fr φ Z m s) (ok : EnvOk E sc) (V : VarsAt C.K φ Z s.heap E sc vars) (hs : es.all notStar = true)
  (h : Post C (RV C Z) fr φ Z s ((bind (evList (fun e => ev T n sc e vars) es) alloc) m) Q X) : wpAny (model C.prog C.w) A (eval (.List es pos) E) Q X s := by
 refine wpAny_List (wpAny_mono (snd_list' hn hR ok hs I V (Post.bind h)) (fun vs s₁ hv => ?_) fun _ _ x => x)
 obtain ⟨ds, m₁, φ₁, st, q, r, h₁⟩ := hv
 have I₁ := I.step st q
 exact snd_alloc I₁ (I₁.big V.zl) r h₁
theorem se_for {t e : Expr} {Q X : Value -> Shared -> Prop} {fr : List Env} (hn : SE C T Rm n) (hR : Rm A) (I : Inv C A fr φ Z m s) (ok : EnvOk E sc) (V : VarsAt C.K φ Z s.heap E sc vars)
  (h : Post C (RV C Z) fr φ Z s (evFor (fun e => ev T n sc e vars) mt t e m) Q X) : wpAny (model C.prog C.w) A (eval e E) Q X s := by
 induction t using Expr.casesOn
 case Name x p =>
  induction e using Expr.casesOn
  case List es pos =>
   have h' : Post C (RV C Z) fr φ Z s ((if mt.contains x then (if es.all notStar then bind (evList (fun e => ev T n sc e vars) es) alloc else fail) else ev T n sc (.List es pos) vars) m) Q X := h
   by_cases q : mt.contains x = true
   ·rw [if_pos q] at h'
    refine e0_2 (post_ite h') fun hs h' => ?_
    exact se_alloc hn hR I ok V hs h'
   ·rw [if_neg q] at h'
    exact hn hR I ok V h'
  all_goals exact hn hR I ok V h
 all_goals exact hn hR I ok V h
theorem se_fors (hn : SE C T Rm n) (hR : Rm A) (ok : EnvOk E sc) {pos : Pos} {X : Value -> Shared -> Prop} {fr : List Env} : ∀ (ts es : List Expr) (φ : List (List Addr)) (m : Mem) (s : Shared) (Q : List Value -> Shared -> Prop), es.all notStar = true -> Inv C A fr φ Z m s -> VarsAt C.K φ Z s.heap E sc vars ->
  Post C (RL C Z) fr φ Z s (evFors (fun e => ev T n sc e vars) mt ts es m) Q X -> wpAny (model C.prog C.w) A (spliced (backTo pos (starEach es E))) Q X s := by
 intro ts
 induction ts with
 | nil =>
  intro es φ m s Q hs I V h
  induction es using List.casesOn with
  | nil => exact spliced_nil (h _ _ _ (Step.refl ..) I.mem .nil)
  | cons _ _ => exact h.elim
 | cons t ts ih =>
  intro es φ m s Q hs I V h
  induction es using List.casesOn with
  | nil => exact h.elim
  | cons e es =>
   rw [List.all_cons, Bool.and_eq_true] at hs
   refine wpAny_items_cons ?_ (star_cons hs.1)
   refine wpAny_mono (se_for hn hR I ok V (Post.bind h)) (fun v s₁ hv => ?_) fun _ _ x => x
   obtain ⟨d, m₁, φ₁, st, q, r1, h₁⟩ := hv
   refine wpAny_mono (ih es φ₁ m₁ s₁ _ hs.2 (I.step st q) (V.step st) (Post.bind h₁)) (fun vs s₂ hv => ?_) fun _ _ x => x
   obtain ⟨ds, m₂, φ₂, st₂, q₂, r2, h₂⟩ := hv
   exact h₂ _ _ _ (Step.refl ..) q₂ (.cons (r1.step st₂) r2)
variable {Q : Flow -> Shared -> Prop} {X : Value -> Shared -> Prop}
theorem sx_ret {e : Expr} {pos : Pos} (hn : SE C T Rm n) (hR : Rm A) (I : Inv C A (E :: fr) φ Z m s) (F : FrameOk E sc fr) (V : VarsAt C.K φ Z s.heap E sc vars)
  (h : PostX C (RF C E sc Z) (E :: fr) φ Z (ownE E sc) s (exec T mt rc (n + 1) sc (.Return (some e) pos) vars m) Q X) : wpAny (model C.prog C.w) A (PySem.exec (.Return (some e) pos) E) Q X s := by
 have gen : PostX C (RF C E sc Z) (E :: fr) φ Z (ownE E sc) s ((bind (ev T n sc e vars) fun d => ret (Fl.ret d)) m) Q X -> wpAny (model C.prog C.w) A (PySem.exec (.Return (some e) pos) E) Q X s := fun h => by
  refine wpAny_Return_some (wpAny_mono (hn hR I F.env V (PostX.ebind h)) (fun v s₁ hv => ?_) fun _ _ x => x)
  obtain ⟨d, m₁, φ₁, st, q, r, h₁⟩ := hv
  exact h₁ (.ret v) _ _ XStep.refl q r
 induction rc with
 | false => exact gen h
 | true =>
  induction e using Expr.casesOn
  case List es p =>
   have h' : PostX C (RF C E sc Z) (E :: fr) φ Z (ownE E sc) s ((if es.all notStar then bind (bind (evList (fun e => ev T n sc e vars) es) alloc) fun d => ret (Fl.ret d) else fail) m) Q X := h
   refine e0_2 (postx_ite h') fun hs h' => ?_
   refine wpAny_Return_some (wpAny_mono (se_alloc hn hR I F.env V hs (PostX.ebind h')) (fun v s₁ hv => ?_) fun _ _ x => x)
   obtain ⟨d, m₁, φ₁, st, q, r, h₁⟩ := hv
   exact h₁ (.ret v) _ _ XStep.refl q r
  all_goals exact gen h
theorem sx_name {x : Str} {e : Expr} {p pos : Pos} (hn : SE C T Rm n) (hR : Rm A) (I : Inv C A (E :: fr) φ Z m s) (F : FrameOk E sc fr) (V : VarsAt C.K φ Z s.heap E sc vars) (hk : okName sc x = true) (hsw : swapsWith e (some (.Name x p)) pos.line E = pure false)
  (h : PostX C (RF C E sc Z) (E :: fr) φ Z (ownE E sc) s ((bind (evFor (fun e => ev T n sc e vars) mt (.Name x p) e) fun d => ret (.next (setv x d vars))) m) Q X) : wpAny (model C.prog C.w) A (PySem.exec (.Assign [.Name x p] e pos) E) Q X s := by
 refine wpAny_Assign_Name (wpAny_mono (se_for hn hR I F.env V (PostX.ebind h)) (fun v s₁ hv => ?_) fun _ _ x => x) hsw
 obtain ⟨d, m₁, φ₁, st, q, r, h₁⟩ := hv
 have V₁ := V.step st
 refine snd_store hk F.env V₁ r fun h' tk T V' => ?_
 exact h₁ .next φ₁ _ (T.x V₁.own) (q.touch T V₁.own) V'
end
section
variable {C : Cst} {T : Tabs} {Rm : Around -> Prop} {mt : List Str} {rc : Bool} {n : Nat} {sc sc' : Scope} {E : Env} {A : Around} {fr : List Env} {φ : List (List Addr)} {Z : List Addr} {m : Mem} {s : Shared} {vars : Vars} {Q : Flow -> Shared -> Prop} {X : Value -> Shared -> Prop}
theorem VarsAt.more {K : Frag} {Z Z' : List Addr} {h h' : Heap} (V : VarsAt K φ Z h E sc vars) (k : ∀ a o, h.get? a = some o -> h'.get? a = some o) (h1 : ∀ a ∈ Z', a ∈ Z \/ h.get? a = none) (h2 : ∀ a ∈ Z, a ∈ Z') : VarsAt K φ Z' h' E sc vars := by
 obtain ⟨⟨mm, ⟨o, es, ep, ho, r⟩, hv⟩, hc, ce, zl, zc⟩ := V
 refine ⟨⟨mm, ⟨o, es, ep, k _ _ ho, r⟩, fun x d e q => ?_⟩, fun x d e q => ?_, fun x q => ?_, h2 _ zl, fun p hp => h2 _ (zc p hp)⟩
 ·refine e1_2 (hv x d e q) fun v q1 q2 => ?_; exact ⟨v, q1, q2.more k h1⟩
 ·obtain ⟨c, v, q1, ⟨o, q2, q2'⟩, q3⟩ := hc x d e q; exact ⟨c, v, q1, ⟨o, k _ _ q2, q2'⟩, q3.more k h1⟩
 ·obtain ⟨c, v, q1, o, q2, q2'⟩ := ce x q; exact ⟨c, v, q1, o, k _ _ q2, q2'⟩
theorem VarsAt.leave {K : Frag} {Z Z' own : List Addr} {h h' : Heap} (V : VarsAt K φ Z' h E sc vars) (k : ∀ a o, a ∉ own -> h.get? a = some o -> h'.get? a = some o) (ho : ∀ a ∈ own, a ∈ Z') (h2 : ∀ a ∈ Z, a ∈ Z') (h3 : ∀ a ∈ own, a ∉ Z) (zl : E.locals ∈ Z) (zc : ∀ p ∈ E.cells, p.2 ∈ Z) : VarsAt K φ Z h' E sc vars := by
 obtain ⟨⟨mm, ⟨o, es, ep, ho', r⟩, hv⟩, hc, ce, _, _⟩ := V
 have kk : Keeps0 φ Z' φ Z h h' := ⟨fun a o e n1 n2 => ⟨k a o (fun q => n2 (ho a q)) e, n1, fun q => n2 (h2 a q)⟩, fun _ _ e => e⟩
 refine ⟨⟨mm, ⟨o, es, ep, k _ _ (fun q => h3 _ q zl) ho', r⟩, fun x d e q => ?_⟩, fun x d e q => ?_, fun x q => ?_, zl, zc⟩
 ·obtain ⟨v, q1, q2⟩ := hv x d e q; exact ⟨v, q1, q2.mono kk⟩
 ·obtain ⟨c, v, q1, ⟨o, q2, q2'⟩, q3⟩ := hc x d e q; exact ⟨c, v, q1, ⟨o, k _ _ (fun w => h3 _ w (zc _ (mem_of_lookup q1))) q2, q2'⟩, q3.mono kk⟩
 ·obtain ⟨c, v, q1, o, q2, q2'⟩ := ce x q; exact ⟨c, v, q1, o, k _ _ (fun w => h3 _ w (zc _ (mem_of_lookup q1))) q2, q2'⟩
theorem comp_store {x : Str} {p : Pos} {m' : Mem} {es : List D} {Da Ca : Addr} {φ' : List (List Addr)} {s' : Shared} {Q' : Value -> Shared -> Prop} (c : CompEnd C φ Z s m' es Da Ca φ' s') (I : Inv C A (E :: fr) φ Z m s) (F : FrameOk E sc fr) (V : VarsAt C.K φ Z s.heap E sc vars) (hk : okName sc x = true)
  (h : ∀ φ' s', XStep φ Z (ownE E sc) s φ' s' -> MemAt C.K C.H0 φ' Z m' s'.heap -> VarsAt C.K φ' Z s'.heap E sc (setv x (.lst es) vars) -> Q' .none s') :
  wpAny (model C.prog C.w) A (assign (.Name x p) E (.ref Da)) (fun _ s'' => ∃ m, s''.heap.Ns Ca m /\ ∀ h', Heap.SameBut Ca s''.heap h' -> Q' .none { s'' with heap := h' }) X s' := by
 have nz : ∀ a ∈ Z, a ≠ Ca := fun a ha q => by obtain ⟨o, ho⟩ := (I.z0 a ha).2; exact live_ne ho (q ▸ c.c)
 have nCa : Ca ∉ ownE E sc := fun q => nz _ (V.own _ q) rfl
 have V1 : VarsAt C.K φ' (Ca :: Z) s'.heap E sc vars := by
  have V0 : VarsAt C.K φ (Ca :: Z) s.heap E sc vars := V.more (fun _ _ e => e) (fun a ha => by
   rcases List.mem_cons.mp ha with rfl | q
   ·exact .inr c.c
   ·exact .inl q) fun a ha => .tail _ ha
  obtain ⟨⟨mm, hns, hv⟩, hc, ce, zl, zc⟩ := V0
  have k0 : Keeps0 φ (Ca :: Z) φ' (Ca :: Z) s.heap s'.heap := ⟨fun a o e n1 n2 => ⟨c.step.keep a o e n1 (fun q => n2 (.tail _ q)), fun q => live_ne e (c.step.new a q n1).2, n2⟩, fun _ _ e => prefix_get c.step.pre e⟩
  have zl' := V.zl
  refine ⟨⟨mm, (c.step.zs _ zl').ns mm hns, fun y d e q => ?_⟩, fun y d e q => ?_, fun y q => ?_, zl, zc⟩
  ·refine e1_2 (hv y d e q) fun v q1 q2 => ?_; exact ⟨v, q1, q2.mono k0⟩
  ·refine e2_3 (hc y d e q) fun c' v q1 q2 q3 => ?_; exact ⟨c', v, q1, (c.step.zs _ (V.zc _ (mem_of_lookup q1))).cl _ q2, q3.mono k0⟩
  ·refine e2_2 (ce y q) fun c' v q1 q2 => ?_; exact ⟨c', v, q1, (c.step.zs _ (V.zc _ (mem_of_lookup q1))).cl _ q2⟩
 refine wpAny_assign_Name (snd_store hk F.env V1 c.rep fun h' tk Tt V2 => ?_)
 refine e4_2 c.ns fun mC o es' ep ho r => ?_
 refine ⟨mC, ⟨o, es', ep, Tt.keep _ _ nCa ho, r⟩, fun h'' hsb => ?_⟩
 have k : ∀ a o, a ∉ [Ca] -> h'.get? a = some o -> h''.get? a = some o := fun a o n e => hsb.extBut a o (by simpa using n) e
 have sub : ∀ a ∈ [Ca], a ∈ Ca :: Z := fun a ha => by simp at ha; simp [ha]
 have sub2 : ∀ a ∈ Z, a ∈ Ca :: Z := fun a ha => .tail _ ha
 have own2 : ∀ a ∈ ownE E sc, a ∈ Ca :: Z := fun a ha => .tail _ (V.own a ha)
 refine h φ' _ ?_ ((c.mem.touch Tt own2).leave k sub sub2) (V2.leave k sub sub2 (fun a ha q => nz a q (by simpa using ha)) V.zl V.zc)
 refine e2_1 c.step.same fun k1 t1 hsame => ?_
 refine ⟨⟨h'', tk, by rw [hsame]⟩, c.step.pre, c.step.new, fun a o e n1 n2 => ?_, fun a hz hn => ?_⟩
 ·exact k a o (fun q => live_ne e (by simp at q; rw [q]; exact c.c)) (Tt.keep a o (fun q => n2 (V.own a q)) (c.step.keep a o e n1 n2))
 ·exact (c.step.zs a hz).trans (NsKeep.same fun o e => k a o (fun q => nz a hz (by simpa using q)) (Tt.keep a o hn e))
theorem bind_assoc {α β γ : Type} (x : M α) (f : α -> M β) (g : β -> M γ) : bind (bind x f) g = bind x fun a => bind (f a) g := by
 funext m
 unfold bind
 cases x m <;> rfl
theorem ret_bind {α β : Type} (a : α) (g : α -> M β) : bind (ret a) g = g a := rfl
theorem bind_ite {α β : Type} {c : Prop} [Decidable c] (x : M α) (g : α -> M β) : bind (if c then x else fail) g = if c then bind x g else fail := by
 by_cases q : c
 ·rw [if_pos q, if_pos q]
 ·rw [if_neg q, if_neg q]; rfl
theorem postx_itep {α β : Type} {R : List (List Addr) -> Heap -> β -> α -> Prop} {fr : List Env} {own : List Addr} {c : Prop} [Decidable c] {x : M α} {Q : β -> Shared -> Prop} (h : PostX C R fr φ Z own s ((if c then x else fail) m) Q X) : c /\ PostX C R fr φ Z own s (x m) Q X := by
 by_cases q : c
 ·rw [if_pos q] at h; exact ⟨q, h⟩
 ·rw [if_neg q] at h; exact h.elim
theorem sx_comp_one {x : Str} {elt t it : Expr} {p cp pos : Pos} (hn : SE C T Rm n) (hR : Rm A) (I : Inv C A (E :: fr) φ Z m s) (F : FrameOk E sc fr) (V : VarsAt C.K φ Z s.heap E sc vars) (hk : okName sc x = true) (hsw : swapsWith (.ListComp elt [⟨t, it, [], 0⟩] sc' cp) (some (.Name x p)) pos.line E = pure true)
  (h : PostX C (RF C E sc Z) (E :: fr) φ Z (ownE E sc) s ((bind (ev T (n + 1) sc (.ListComp elt [⟨t, it, [], 0⟩] sc' cp) vars) fun d => ret (.next (setv x d vars))) m) Q X) : wpAny (model C.prog C.w) A (PySem.exec (.Assign [.Name x p] (.ListComp elt [⟨t, it, [], 0⟩] sc' cp) pos) E) Q X s := by
 rw [ev_comp1] at h
 simp only [bind_assoc, bind_ite, ret_bind] at h
 refine e0_2 (postx_ite h) fun hc h => ?_
 simp only [Bool.and_eq_true] at hc
 obtain ⟨⟨hsc, hset⟩, ht⟩ := hc
 have hs := compSc_of hsc
 rw [exec_Assign_Name_used _ _ _ _ hsw]
 refine wpAny_bind (wpAny_standAt (wpAny_bind ?_))
 show wpAny _ A (do let _ <- comprehension (.ListComp elt [⟨t, it, [], 0⟩] sc' cp) sc' E _ (newList []) false (eval it E) (some (assign (.Name x p) E))) _ _ s
 refine wpAny_bind (wpAny_mono (wpAny_comprehension_free (use := some (assign (.Name x p) E)) (cl := clOf E sc'.names []) (Q := fun _ s' => Q .next s') rfl (set_folded hset) (clos_is (comp_free F.env hs)) hs.kind hs.loc
  (wpAny_mono (hn hR I F.env V (PostX.ebind h)) (fun xv s₁ hv => ?_) fun _ _ x => x)) (fun _ s' hq => wpAny_pure (wpAny_pure hq)) fun _ _ x => x)
 obtain ⟨d, m₁, φ₁, st, q, r, h₁⟩ := hv
 have I₁ := I.step st q
 refine e1_2 (PostX.lift_bind h₁) fun ds hds h₁ => ?_
 refine e0_2 (postx_itep h₁) fun hz h₁ => ?_
 refine e2_2 (PostX.calm_bind h₁) fun es m' hrun h₂ => ?_
 refine snd_iter I₁ r hds hz fun ob ax P St IO => ?_
 refine comp_core (RR := fun acc Ca => compPost (model C.prog C.w) A X (some (assign (.Name x p) E)) (fun _ s' => Q .next s') acc Ca) hn hR F.env hs I₁ (V.step st) IO ht hz hrun fun Da Ca φ' s' c => ?_
 exact comp_store (Q' := fun _ s' => Q .next s') c I₁ F (V.step st) hk fun φ'' s'' x1 x2 x3 => h₂ .next φ'' s'' x1 x2 x3
theorem sxs_step (hx : SX C T Rm mt rc n) (hxs : SXs C T Rm mt rc n) : SXs C T Rm mt rc (n + 1) := by
 intro sc st E A fr φ Z m s Q X vars hR I F V h
 induction st using List.casesOn with
 | nil => exact wpAny_execs_nil (h .next _ _ XStep.refl I.mem V)
 | cons st r =>
  refine wpAny_execs_cons (wpAny_mono (hx hR I F V (PostX.bind h)) (fun f s₁ hv => ?_) fun _ _ x => x)
  obtain ⟨fl, m₁, φ₁, x, q, r1, h₁⟩ := hv
  induction f <;> cases fl <;> try exact (show False from r1).elim
  ·have V₁ : VarsAt C.K φ₁ Z s₁.heap E sc _ := r1
   exact hxs hR (I.framed F V x q V₁) F V₁ h₁
  ·exact h₁ _ _ _ XStep.refl q r1
theorem sx_if {t : Expr} {a b : List Stmt} {pos : Pos} (ha : SAll C T Rm n) (hxs : SXs C T Rm mt rc n) (hR : Rm A) (I : Inv C A (E :: fr) φ Z m s) (F : FrameOk E sc fr) (V : VarsAt C.K φ Z s.heap E sc vars)
  (h : PostX C (RF C E sc Z) (E :: fr) φ Z (ownE E sc) s (exec T mt rc (n + 1) sc (.If t a b pos) vars m) Q X) : wpAny (model C.prog C.w) A (PySem.exec (.If t a b pos) E) Q X s := by
 have h' : PostX C (RF C E sc Z) (E :: fr) φ Z (ownE E sc) s ((bind (tst T n sc t vars) fun c => cond c (execs T mt rc n sc a vars) (execs T mt rc n sc b vars)) m) Q X := h
 refine wpAny_If (wpAny_mono (ha.t hR I F.env V (PostX.ebind h')) (fun c s₁ hv => ?_) fun _ _ x => x)
 obtain ⟨c', m₁, φ₁, st, q, r, h₁⟩ := hv
 obtain rfl : c = c' := r
 have h₂ := postx_cond h₁
 induction c with
 | true => exact hxs hR (I.step st q) F (V.step st) h₂
 | false => exact hxs hR (I.step st q) F (V.step st) h₂
end
section
variable {prog : Program} {w : World} {A : Around} {E : Value -> Shared -> Prop} {s : Shared}
theorem setItem_exact {l : Addr} {its : Array Value} {n : Nat} {k : Int} {t : Tok} {v : Value} {Q : Unit -> Shared -> Prop} (ho : s.heap.get? l = some (W.listOf its n)) (h0 : 0 <= k) (hfit : k < 2 ^ 63) (hn : k < its.size)
  (hQ : ∀ h' n', h'.get? l = some (W.listOf (its.setIfInBounds k.toNat v) n') -> Heap.SameBut l s.heap h' -> Q () { s with heap := h' }) : wpAny (model prog w) A (setItem (.ref l) (.int k t) v) Q E s := by
 have hl := listAt ho
 have hd : (W.listOf its n).data = .seq its n := rfl
 unfold setItem
 try with_reducible refine wpAny_holding ?_
 first | refine wpAny_bind (wpAny_pure ?_) | skip
 refine wpAny_bind (wpAny_sequenceKey hl.typeIs (by decide) ?_)
 refine wpAny_bind (wpAny_callSpecial?_slot (name := Str.ofString "__setitem__") hl.typeIs PySem.slot_list_setitem (wpAny_call_entry PySem.slot_list_setitem hl.typeIs PySem.entry_list_setitem ?_ (PySem.args_list_setitem _ _ _)))
 show wpAny _ _ (Builtin.List.listSubscript? (.int k t) >>= _) _ _ s
 refine wpAny_bind (wpAny_listSubscript_int (fitsIndex_of h0 hfit) ?_)
 clear hfit
 obtain ⟨j, rfl⟩ := Int.eq_ofNat_of_zero_le h0
 have hj : j < its.size := by omega
 have hx : its[j]? = some its[j] := Array.getElem?_eq_getElem hj
 show wpAny _ _ ((seqItemAt l j >>= fun r => pure (r.map (j, ·))) >>= _) _ _ s
 refine wpAny_bind (wpAny_bind (wpAny_seqItemAt ho hd (wpAny_pure ?_)))
 rw [hx]
 show wpAny _ _ (setSeqItemAt l j v >>= _) _ _ s
 have hobj : ∃ n', Obj.mapSeq (·.setIfInBounds j v) (W.listOf its n) = W.listOf (its.setIfInBounds j v) n' := ⟨_, by simp [Obj.mapSeq, W.listOf]; rfl⟩
 obtain ⟨n', hn'⟩ := hobj
 have hfin : (s.heap.update l (Obj.mapSeq (·.setIfInBounds j v))).get? l = some (W.listOf (its.setIfInBounds j v) n') := by
  rw [Heap.get?_update_self _ ho (by rw [hn']; rfl), hn']
 refine wpAny_bind (wpAny_setSeqItemAt ho hd ?_)
 first
  | exact wpAny_bind (wpAny_pure (wpAny_pure ⟨.none, rfl, wpAny_pure (hQ _ n' hfin (Heap.SameBut.update ..))⟩))
  | exact wpAny_pure ⟨.none, rfl, wpAny_pure (hQ _ n' hfin (Heap.SameBut.update ..))⟩
end
theorem nodup_at {α : Type} : ∀ {l : List (List α)} {i j : Nat} {x y : List α} {b : α}, l.flatten.Nodup -> l[i]? = some x -> l[j]? = some y -> b ∈ x -> b ∈ y -> i = j
 | [], i, j, x, y, b, _, h, _, _, _ => by exact none_some h
 | c :: r, i, j, x, y, b, nd, hi, hj, hx, hy => by
  rw [List.flatten_cons, List.nodup_append] at nd
  refine e0_3 nd fun n1 n2 n3 => ?_
  induction i using Nat.casesAuxOn with
  | zero =>
   induction j using Nat.casesAuxOn with
   | zero => rfl
   | succ j =>
    simp at hi hj
    subst hi
    exact absurd rfl (n3 b hx b (List.mem_flatten.mpr ⟨y, List.mem_of_getElem? hj, hy⟩))
  | succ i =>
   induction j using Nat.casesAuxOn with
   | zero =>
    simp at hi hj
    subst hj
    exact absurd rfl (n3 b hy b (List.mem_flatten.mpr ⟨x, List.mem_of_getElem? hi, hx⟩))
   | succ j =>
    simp at hi hj
    rw [nodup_at n2 hi hj hx hy]
section
variable {C : Cst} {T : Tabs} {Rm : Around -> Prop} {mt : List Str} {rc : Bool} {n : Nat} {sc sc' : Scope} {E : Env} {A : Around} {fr : List Env} {φ : List (List Addr)} {Z : List Addr} {m : Mem} {s : Shared} {vars : Vars} {Q : Flow -> Shared -> Prop} {X : Value -> Shared -> Prop}
theorem CellAt.by0 {K : Frag} {h h' : Heap} {Z' : List Addr} {φ' : List (List Addr)} {l : List Addr} {c : Cell} (r : CellAt K φ Z h l c) (kk : Keeps0 φ Z φ' Z' h h') (q : ∀ a o, a ∈ l -> h.get? a = some o -> h'.get? a = some o) : CellAt K φ' Z' h' l c := by
 induction r with
 | lst e1 z r p => exact .lst (q _ _ (.head _) e1) z (r.mono kk) p
 | inst hc e1 e2 r p => exact .inst hc (q _ _ (.head _) e1) (q _ _ (.tail _ (.head _)) e2) (r.mono kk) p
 | dead => exact .dead
theorem cell_change {fr : List Env} {i : Nat} {l : List Addr} {b : Addr} {c : Cell} {h' : Heap} {tk : Nat} (I : Inv C A fr φ Z m s) (hi : φ[i]? = some l) (hb : b ∈ l) (hs : ∀ a o, a ≠ b -> a ∉ Z -> s.heap.get? a = some o -> h'.get? a = some o) (nk : ∀ a ∈ Z, NsKeep s.heap h' a) (hl : ∃ o, h'.get? b = some o)
  (hc : CellAt C.K φ Z h' l c) : Step φ Z s φ { s with heap := h', toks := tk } /\ MemAt C.K C.H0 φ Z (m.set i c) h' := by
 have bm : b ∈ φ.flatten := List.mem_flatten.mpr ⟨l, List.mem_of_getElem? hi, hb⟩
 have kk : Keeps0 φ Z φ Z s.heap h' := ⟨fun a o e n1 n2 => ⟨hs a o (fun q => n1 (q ▸ bm)) n2 e, n1, n2⟩, fun _ _ e => e⟩
 refine ⟨⟨⟨_, _, rfl⟩, List.prefix_refl _, fun a h n => absurd h n, fun a o e n1 n2 => hs a o (fun q => n1 (q ▸ bm)) n2 e, nk⟩, ?_⟩
 refine ⟨by rw [I.mem.len, List.length_set], fun j c' e => ?_, I.mem.nd, fun a ha => ⟨(I.mem.apart a ha).1, (I.mem.apart a ha).2.1, ?_⟩⟩
 ·by_cases w : j = i
  ·subst w
   have hlt : j < m.length := by
    have := (List.getElem?_eq_some_iff.mp e).1
    rwa [List.length_set] at this
   rw [List.getElem?_set_self hlt] at e
   obtain rfl := Option.some.inj e
   exact ⟨l, hi, hc⟩
  ·rw [List.getElem?_set_ne (Ne.symm w)] at e
   refine e1_2 (I.mem.cell j c' e) fun l' hl' r => ?_
   exact ⟨l', hl', r.by0 kk fun a o ha q => hs a o (fun z => w (nodup_at I.mem.nd hl' hi ha (z ▸ hb))) (I.mem.apart a (List.mem_flatten.mpr ⟨l', List.mem_of_getElem? hl', ha⟩)).1 q⟩
 ·by_cases w : a = b
  ·rw [w]; exact hl
  ·refine e1_1 ((I.mem.apart a ha).2.2) fun o ho => ?_; exact ⟨o, hs a o w (I.mem.apart a ha).1 ho⟩
theorem same_ns {b : Addr} {h' : Heap} (I : Inv C A fr φ Z m s) (hb : b ∈ φ.flatten) (hs : Heap.SameBut b s.heap h') : ∀ a ∈ Z, NsKeep s.heap h' a := fun a ha => NsKeep.same fun o e => hs.extBut a o (fun q => (I.mem.apart b hb).1 (q ▸ ha)) e
theorem swaps_sub {e o i : Expr} {p : Pos} {line : Nat} : swapsWith e (some (.Subscript o i p)) line E = pure false := by induction e using Expr.casesOn <;> rfl
theorem swaps_att {e o : Expr} {x : Str} {p : Pos} {line : Nat} : swapsWith e (some (.Attribute o x p)) line E = pure false := by induction e using Expr.casesOn <;> rfl
theorem swaps_tup {e : Expr} {ts : List Expr} {k : Nat} {p : Pos} {line : Nat} : swapsWith e (some (.Tuple ts k p)) line E = pure false := by induction e using Expr.casesOn <;> rfl
theorem wpAny_assign_one {t e : Expr} {pos : Pos} {M : Model} {X : Value -> Shared -> Prop} (hsw : swapsWith e (some t) pos.line E = pure false) (hsn : swappedStores [t] e E = pure none) (he : (assignEach [t] E).map (·.2) = [assign t E])
  (h : wpAny M A (eval e E) (fun v s₁ => wpAny M A (assign t E v) (fun _ s₂ => Q .next s₂) X s₁) X s) : wpAny M A (PySem.exec (.Assign [t] e pos) E) Q X s := by
 rw [arm_exec_Assign]
 refine wpAny_bind (wpAny_standAt ?_)
 refine wpAny_bind (wpAny_of_eq (a := false) hsw ?_)
 refine bm_if_false rfl ?_
 refine wpAny_bind (wpAny_mono h (fun v s₁ h₁ => ?_) fun _ _ x => x)
 rw [hsn, he]
 refine wpAny_bind (wpAny_pure ?_)
 show wpAny M A (assign t E v >>= fun _ => pure .next) Q X s₁
 exact wpAny_bind (wpAny_mono h₁ (fun _ s₂ h₂ => wpAny_pure h₂) fun _ _ x => x)
theorem plain_set {ds : List D} {d : D} : ∀ {k : Nat}, plain.plains ds = true -> plain d = true -> plain.plains (ds.set k d) = true := by
 induction ds with
 | nil => intro k h _; exact h
 | cons e r ih =>
  intro k h hd
  simp only [plain.plains, Bool.and_eq_true] at h
  induction k using Nat.casesAuxOn with
  | zero => simp [plain.plains, h.2, hd]
  | succ k => simp [plain.plains, h.1, ih h.2 hd]
theorem plain_snoc {ds : List D} {d : D} (h : plain.plains ds = true) (hd : plain d = true) : plain.plains (ds ++ [d]) = true := by
 induction ds with
 | nil => simp [plain.plains, hd]
 | cons e r ih =>
  simp only [plain.plains, Bool.and_eq_true] at h
  simp [plain.plains, h.1, ih h.2]
theorem CellAt.lst_inv {K : Frag} {h : Heap} {l : List Addr} {x : Cell} {ds : List D} (C : CellAt K φ Z h l x) (e : x = .lst ds) : ∃ a vs k, l = [a] /\ h.get? a = some (W.listOf vs.toArray k) /\ ds.length <= 16777216 /\ DAll K φ Z h vs ds /\ plain.plains ds = true := by
 induction C with
 | lst ho z x p =>
  rw [<- Cell.lst.inj e]
  exact ⟨_, _, _, rfl, ho, z, x, p⟩
 | _ => contradiction
theorem cell_list {fr : List Env} {v : Value} {i : Nat} {ds : List D} (I : Inv C A fr φ Z m s) (r : DRep C.K φ Z s.heap v (.cell i)) (e : items m (.cell i) = some ds) :
  ∃ a vs k, v = .ref a /\ φ[i]? = some [a] /\ s.heap.get? a = some (W.listOf vs.toArray k) /\ ds.length <= 16777216 /\ DAll C.K φ Z s.heap vs ds /\ plain.plains ds = true /\ m[i]? = some (.lst ds) := by
 refine e2_2 r.inv fun a r' q hc => ?_
 rcases items_of e with w | ⟨j, w, hm⟩
 ·contradiction
 ·rw [<- D.cell.inj w] at hm
  refine e1_2 (I.mem.cell i _ hm) fun l hl x => ?_
  refine e3_5 (x.lst_inv rfl) fun a' vs k w g1 g2 g3 g4 => ?_
  rw [w] at hl
  exact ⟨a', vs, k, q.trans (congrArg Value.ref (List.cons.inj (Option.some.inj (hc.symm.trans hl))).1), hl, g1, g2, g3, g4, hm⟩
theorem PostX.set_bind {α β : Type} {R : List (List Addr) -> Heap -> β -> α -> Prop} {fr : List Env} {own : List Addr} {i : Nat} {c : Cell} {k : Unit -> M α} {Q : β -> Shared -> Prop} (h : PostX C R fr φ Z own s (Mine.bind (setCell i c) k m) Q X) : PostX C R fr φ Z own s (k () (m.set i c)) Q X := by
 unfold Mine.bind setCell at h
 by_cases w : i < m.length
 ·rw [if_pos w] at h; exact h
 ·rw [if_neg w] at h; exact h.elim
theorem sx_setitem {o i e : Expr} {ip pos : Pos} (hn : SE C T Rm n) (hR : Rm A) (I : Inv C A (E :: fr) φ Z m s) (F : FrameOk E sc fr) (V : VarsAt C.K φ Z s.heap E sc vars)
  (h : PostX C (RF C E sc Z) (E :: fr) φ Z (ownE E sc) s (exec T mt rc (n + 1) sc (.Assign [.Subscript o i ip] e pos) vars m) Q X) : wpAny (model C.prog C.w) A (PySem.exec (.Assign [.Subscript o i ip] e pos) E) Q X s := by
 rw [exec_setitem] at h
 refine wpAny_assign_one swaps_sub rfl rfl ?_
 refine wpAny_mono (hn hR I F.env V (PostX.ebind h)) (fun v s₁ hv => ?_) fun _ _ x => x
 obtain ⟨d, m₁, φ₁, st, q, r, h₁⟩ := hv
 have I₁ := I.step st q
 rw [arm_assign_Subscript]
 refine wpAny_bind (wpAny_holding (wpAny_mono (hn hR I₁ F.env (V.step st) (PostX.ebind h₁)) (fun ov s₂ hv => ?_) fun _ _ x => x))
 obtain ⟨od, m₂, φ₂, st₂, q₂, r₂, h₂⟩ := hv
 have I₂ := I₁.step st₂ q₂
 refine wpAny_bind (wpAny_holding (wpAny_mono (hn hR I₂ F.env ((V.step st).step st₂) (PostX.ebind h₂)) (fun iv s₃ hv => ?_) fun _ _ x => x))
 obtain ⟨k, m₃, φ₃, st₃, q₃, r₃, h₃⟩ := hv
 have I₃ := I₂.step st₃ q₃
 have V₃ := ((V.step st).step st₂).step st₃
 refine wpAny_bind (wpAny_standAt ?_)
 induction od using D.casesOn with
 | cell j =>
  induction k using D.casesOn with
  | int k =>
   refine e1_2 (PostX.look_bind h₃) fun ds hds h₃ => ?_
   refine e0_2 (postx_ite h₃) fun hc h₃ => ?_
   simp only [Bool.and_eq_true, decide_eq_true_eq] at hc
   refine e1_1 (rep_int r₃) fun tk ee1 => ?_; subst ee1
   refine e3_7 (cell_list I₃ (r₂.step st₃) hds) fun a vs nn ee1 hφ ho z x p hm => ?_; subst ee1
   have hlen := items_len x
   refine wpAny_bind (wpAny_holding (setItem_exact ho hc.1.2 (by omega) (by rw [hlen]; exact hc.2) fun h' n' ho' hs => ?_))
   refine wpAny_release ?_
   have e1 : vs.toArray.setIfInBounds k.toNat v = (vs.set k.toNat v).toArray := by simp
   rw [e1] at ho'
   have kk : Keeps0 φ₃ Z φ₃ Z s₃.heap h' := ⟨fun b o e n1 n2 => ⟨hs.extBut b o (fun q => n1 (by rw [q]; exact List.mem_flatten.mpr ⟨_, List.mem_of_getElem? hφ, .head _⟩)) e, n1, n2⟩, fun _ _ e => e⟩
   have hset : (ds.set k.toNat d).length = ds.length := by simp
   refine e0_2 (cell_change (tk := s₃.toks) (c := .lst (ds.set k.toNat d)) I₃ hφ (.head _) (fun b o n _ e => hs.extBut b o n e) (same_ns I₃ (List.mem_flatten.mpr ⟨_, List.mem_of_getElem? hφ, .head _⟩) hs) ⟨_, ho'⟩ (.lst ho' (by omega) ((x.mono kk).set (((r.step st₂).step st₃).mono kk) _) (plain_set p hc.1.1))) fun S M' => ?_
   have hlt : j < m₃.length := (List.getElem?_eq_some_iff.mp hm).1
   exact (PostX.set_bind h₃) .next φ₃ _ S.x M' (V₃.step S)
  | _ => exact h₃.elim
 | _ => induction k using D.casesOn <;> exact h₃.elim
end
noncomputable def SetTab (C : Cst) (T : Tabs) : Prop := ∀ c x, T.setOk c x = true -> ∃ Cc, clsA C.K c = some Cc /\ findIn C.K (.ref Cc) "__setattr__" = some (some (.builtin "object.__setattr__")) /\ plainOver C.K Cc = true /\ takerIn C.K Cc x = some none /\ hasDictIn C.K Cc = true
theorem rest_nodup (H0 h : Heap) (L : Addr) : ((restOf H0 h L).map (·.1)).Nodup := by
 have key : ∀ (l : List Nat) (f : Nat -> Option (Addr × Obj)), (∀ a p, f a = some p -> p.1 = a) -> ((l.filterMap f).map (·.1)).Sublist l := by
  intro l f hf
  induction l with
  | nil => exact List.Sublist.slnil
  | cons a r ih =>
   rw [List.filterMap_cons]
   cases q : f a with
   | none => exact ih.cons a
   | some p =>
    rw [List.map_cons, hf a p q]
    exact ih.cons₂ a
 refine List.Nodup.sublist (key _ _ fun a p e => ?_) List.nodup_range
 split at e
 ·exact none_some e
 ·split at e
  ·exact none_some e
  ·refine e1_2 (Option.map_eq_some_iff.mp e) fun o _ ee1 => ?_; subst ee1
   rfl
theorem upd_of {d : Addr} {o o' : Obj} : ∀ {l : List (Addr × Obj)}, (d, o) ∈ l -> (l.map (·.1)).Nodup -> ∃ l', Upd d o o' l l' /\ (∀ p ∈ l, p.1 ≠ d -> p ∈ l') /\ (d, o') ∈ l'
 | p :: r, hm, nd => by
  rw [List.map_cons, List.nodup_cons] at nd
  cases hm with
  | head => exact ⟨(d, o') :: r, .head (fun q hq e => nd.1 (List.mem_map.mpr ⟨q, hq, e⟩)), fun q hq hn => by
    cases hq with
    | head => exact absurd rfl hn
    | tail _ hq => exact .tail _ hq, .head _⟩
  | tail _ hm =>
   obtain ⟨l', h1, h2, h3⟩ := upd_of hm nd.2
   refine ⟨p :: l', .tail (fun e => nd.1 (List.mem_map.mpr ⟨(d, o), hm, e.symm⟩)) h1, fun q hq hn => ?_, .tail _ h3⟩
   cases hq with
   | head => exact .head _
   | tail _ hq => exact .tail _ (h2 q hq hn)
section
variable {C : Cst} {T : Tabs} {Rm : Around -> Prop} {mt : List Str} {rc : Bool} {n : Nat} {sc sc' : Scope} {E : Env} {A : Around} {fr : List Env} {φ : List (List Addr)} {Z : List Addr} {m : Mem} {s : Shared} {vars : Vars} {Q : Flow -> Shared -> Prop} {X : Value -> Shared -> Prop}
theorem FAll.put {h : Heap} {K : Frag} {x : Str} {hsh : Int} {t : Tok} {v : Value} {d : D} (rv : DRep K φ Z h v d) {es : List DictEntry} {fs : List (Str × D)} (r : FAll K φ Z h es fs) : FAll K φ Z h (putL x hsh (.str x t) v es) (setv x d fs) := by
 induction r using FAll.ind with
 | nil => exact .cons rfl rv .nil
 | @cons e es y t' d' fs hk hv r ih =>
  unfold putL setv
  by_cases q : (y == x) = true
  ·have : e.key.isStr x = true := by rw [hk]; exact q
   rw [if_pos q, if_pos this, <- eq_of_beq q]
   exact .cons (e := ⟨e.hash, e.key, v⟩) hk rv r
  ·have : ¬ e.key.isStr x = true := by rw [hk]; exact q
   rw [if_neg q, if_neg this]
   exact .cons hk hv ih
theorem put_len {x : Str} {hsh : Int} {k v : Value} (es : List DictEntry) : (putL x hsh k v es).length <= es.length + 1 := by
 induction es with
 | nil => exact Nat.le_refl _
 | cons e r ih =>
  unfold putL
  by_cases q : e.key.isStr x = true
  ·rw [if_pos q]; exact Nat.le_succ _
  ·rw [if_neg q]; exact Nat.succ_le_succ ih
theorem FAll.length {h : Heap} {K : Frag} {es : List DictEntry} {fs : List (Str × D)} (r : FAll K φ Z h es fs) : es.length = fs.length := by
 induction r using FAll.ind with
 | nil => rfl
 | cons _ _ _ ih => exact congrArg Nat.succ ih
theorem plain_setv {x : Str} {d : D} (hd : plain d = true) {fs : List (Str × D)} (h : plain.plainFs fs = true) : plain.plainFs (setv x d fs) = true := by
 induction fs with
 | nil => exact (Bool.and_eq_true _ _).mpr ⟨hd, rfl⟩
 | cons p r ih =>
  have w := (Bool.and_eq_true _ _).mp h
  unfold setv
  by_cases q : (p.1 == x) = true
  ·rw [if_pos q]; exact (Bool.and_eq_true _ _).mpr ⟨hd, w.2⟩
  ·rw [if_neg q]; exact (Bool.and_eq_true _ _).mpr ⟨w.1, ih w.2⟩
theorem CellAt.inst_inv {K : Frag} {h : Heap} {l : List Addr} {x : Cell} {c : Str} {fs : List (Str × D)} (C : CellAt K φ Z h l x) (e : x = .inst c fs) : ∃ a dx Cc es k, l = [a, dx] /\ clsA K c = some Cc /\ h.get? a = some (instObj Cc dx) /\ h.get? dx = some (dictOf es k) /\ FAll K φ Z h es fs /\ plain.plainFs fs = true := by
 induction C with
 | inst hc e1 e2 r p =>
  rw [<- (Cell.inst.inj e).1, <- (Cell.inst.inj e).2]
  exact ⟨_, _, _, _, _, rfl, hc, e1, e2, r, p⟩
 | _ => contradiction
theorem cell_inst {fr : List Env} {v : Value} {i : Nat} {c : Str} {fs : List (Str × D)} (I : Inv C A fr φ Z m s) (r : DRep C.K φ Z s.heap v (.cell i)) (e : fields m (.cell i) = some (c, fs)) :
  ∃ a dx Cc es k, v = .ref a /\ φ[i]? = some [a, dx] /\ clsA C.K c = some Cc /\ s.heap.get? a = some (instObj Cc dx) /\ s.heap.get? dx = some (dictOf es k) /\ FAll C.K φ Z s.heap es fs /\ plain.plainFs fs = true /\ m[i]? = some (.inst c fs) := by
 refine e2_2 r.inv fun a r' q hc => ?_
 rcases fields_of e with w | ⟨j, w, hm⟩
 ·contradiction
 ·rw [<- D.cell.inj w] at hm
  refine e1_2 (I.mem.cell i _ hm) fun l hl x => ?_
  obtain ⟨a', dx, Cc, es, k, w, g1, g2, g3, g4, g5⟩ := x.inst_inv rfl
  rw [w] at hl
  exact ⟨a', dx, Cc, es, k, q.trans (congrArg Value.ref (List.cons.inj (Option.some.inj (hc.symm.trans hl))).1), hl, g1, g2, g3, g4, g5, hm⟩
theorem sx_setattr {o e : Expr} {x : Str} {ip pos : Pos} (tb : SetTab C T) (hn : SE C T Rm n) (hR : Rm A) (I : Inv C A (E :: fr) φ Z m s) (F : FrameOk E sc fr) (V : VarsAt C.K φ Z s.heap E sc vars)
  (h : PostX C (RF C E sc Z) (E :: fr) φ Z (ownE E sc) s (exec T mt rc (n + 1) sc (.Assign [.Attribute o x ip] e pos) vars m) Q X) : wpAny (model C.prog C.w) A (PySem.exec (.Assign [.Attribute o x ip] e pos) E) Q X s := by
 rw [exec_setattr] at h
 refine wpAny_assign_one swaps_att rfl rfl ?_
 refine wpAny_mono (hn hR I F.env V (PostX.ebind h)) (fun v s₁ hv => ?_) fun _ _ x => x
 obtain ⟨d, m₁, φ₁, st, q, r, h₁⟩ := hv
 have I₁ := I.step st q
 rw [arm_assign_Attribute]
 refine wpAny_bind (wpAny_holding (wpAny_mono (hn hR I₁ F.env (V.step st) (PostX.ebind h₁)) (fun ov s₂ hv => ?_) fun _ _ x => x))
 obtain ⟨od, m₂, φ₂, st₂, q₂, r₂, h₂⟩ := hv
 have I₂ := I₁.step st₂ q₂
 have V₂ := (V.step st).step st₂
 refine wpAny_bind (wpAny_standAt ?_)
 induction od using D.casesOn with
 | cell j =>
  obtain ⟨⟨c, fs⟩, hfs, h₂⟩ := PostX.look_bind h₂
  refine e0_2 (postx_ite h₂) fun hc h₂ => ?_
  simp only [Bool.and_eq_true, decide_eq_true_eq] at hc
  obtain ⟨⟨hpl, hok⟩, hlen⟩ := hc
  refine e5_8 (cell_inst I₂ r₂ hfs) fun a dx Cc es k ee1 hφ hcl e1 e2 FA p hm => ?_; subst ee1
  refine e1_5 (tb c x hok) fun Cc' hcl' g1 g2 g3 g4 => ?_
  rw [hcl] at hcl'; obtain rfl := Option.some.inj hcl'
  refine e1_2 V₂.ns fun mm hns _ => ?_
  have zl := V₂.zl
  have dm : dx ∈ φ₂.flatten := List.mem_flatten.mpr ⟨_, List.mem_of_getElem? hφ, by simp⟩
  have ap := I₂.mem.apart dx dm
  have hin : (dx, dictOf es k) ∈ restOf C.H0 s₂.heap E.locals := mem_rest.mpr ⟨fun q => ap.1 (q ▸ zl), ap.2.1, e2⟩
  refine e1_3 (upd_of (o' := dictOf (putL x (PyData.keyHash C.w.params x) (.str x (s₂.toks + 1)) v es) (putN x es k)) hin (rest_nodup _ _ _)) fun news' U hU1 hU2 => ?_
  have hget : (getL x es).isSome = true := by
   cases w : fs.lookup x with
   | none => rw [FA.nope w]; rfl
   | some d' => refine e1_2 (FA.get w) fun v' hv' _ => ?_; rw [hv']; rfl
  refine wpAny_bind (wpAny_holding ?_)
  refine set_dict (I₂.fr0 zl hns) C.X0 (I₂.news zl) (inst_at e1 e2) rfl g1 g2 g3 g4 hget rfl U (by have := put_len (x := x) (hsh := PyData.keyHash C.w.params x) (k := .str x (s₂.toks + 1)) (v := v) es; have := FA.length; omega) fun h' F' N' => ?_
  refine wpAny_release ?_
  have hdx : h'.get? dx = some (dictOf (putL x (PyData.keyHash C.w.params x) (.str x (s₂.toks + 1)) v es) (putN x es k)) := (N' _ hU2).1
  have keep : ∀ b o, b ≠ dx -> b ≠ E.locals -> s₂.heap.get? b = some o -> h'.get? b = some o := fun b o n1 n2 e => by
   cases q : C.H0.get? b with
   | none => exact (N' _ (hU1 (b, o) (mem_rest.mpr ⟨n2, q, e⟩) n1)).1
   | some o' =>
    have := I₂.h0 b o' q
    rw [e] at this; obtain rfl := Option.some.inj this
    exact F'.keep b o q
  have ks : ∀ b o, b ≠ dx -> b ∉ Z -> s₂.heap.get? b = some o -> h'.get? b = some o := fun b o n1 n2 e => keep b o n1 (fun q => n2 (q ▸ zl)) e
  have nk : ∀ b ∈ Z, NsKeep s₂.heap h' b := fun b hb => by
   by_cases w : b = E.locals
   ·subst w
    refine ⟨fun m' q => (Ns.fn hns q) ▸ F'.ns, fun v q => ?_, fun _ => let ⟨o, _, _, ho, _⟩ := F'.ns; ⟨o, ho⟩, fun o' ho' f => by obtain ⟨o, es, ep, ho, hd, _⟩ := hns; rw [ho] at ho'; obtain rfl := Option.some.inj ho'; unfold firmObj at f; rw [hd] at f; contradiction⟩
    exact absurd rfl (cell_ne hns q)
   ·exact NsKeep.same fun o e => keep b o (fun q => ap.1 (q ▸ hb)) w e
  have kk : Keeps0 φ₂ Z φ₂ Z s₂.heap h' := ⟨fun b o e n1 n2 => ⟨ks b o (fun q => n1 (q ▸ dm)) n2 e, n1, n2⟩, fun _ _ e => e⟩
  have ne : a ≠ dx := by
   have := I₂.mem.nd
   intro q
   have hl : [a, dx].Nodup := List.Nodup.sublist (List.sublist_flatten_of_mem (List.mem_of_getElem? hφ)) this
   simp [q] at hl
  have am : a ∈ φ₂.flatten := List.mem_flatten.mpr ⟨_, List.mem_of_getElem? hφ, by simp⟩
  refine e0_2 (cell_change (tk := s₂.toks + 2) (c := .inst c (setv x d fs)) I₂ hφ (by simp) ks nk ⟨_, hdx⟩ (.inst hcl (ks a _ ne (I₂.mem.apart a am).1 e1) hdx (FAll.put ((r.step st₂).mono kk) (FA.mono kk)) (plain_setv hpl p))) fun S M' => ?_
  exact (PostX.set_bind h₂) .next φ₂ _ S.x M' (V₂.step S)
 | _ => exact h₂.elim
end
section
variable {C : Cst} {T : Tabs} {Rm : Around -> Prop} {mt : List Str} {rc : Bool} {n : Nat} {sc sc' : Scope} {E : Env} {A : Around} {fr : List Env} {φ : List (List Addr)} {Z : List Addr} {m : Mem} {s : Shared} {vars : Vars} {Q : Flow -> Shared -> Prop} {X : Value -> Shared -> Prop}
theorem not_interactive (ok : EnvOk E sc) : interactive E = false := by
 unfold interactive
 rw [ok.kind]; rfl
theorem list_at {fr : List Env} {v : Value} {d : D} {ds : List D} (I : Inv C A fr φ Z m s) (r : DRep C.K φ Z s.heap v d) (e : items m d = some ds) : ∃ a its k, v = .ref a /\ s.heap.get? a = some (W.listOf its k) := by
 obtain ⟨a, vs, k, ho, _⟩ := items_at I r e
 exact ⟨a, _, k, rfl, ho⟩
theorem sx_append {o e : Expr} {ap cp pos : Pos} (hn : SE C T Rm n) (hR : Rm A) (I : Inv C A (E :: fr) φ Z m s) (F : FrameOk E sc fr) (V : VarsAt C.K φ Z s.heap E sc vars)
  (h : PostX C (RF C E sc Z) (E :: fr) φ Z (ownE E sc) s ((if notSuper o && notStar e && ap.endLine == cp.line then bind (ev T n sc o vars) fun od => bind (look fun m => items m od) fun _ => bind (ev T n sc e vars) fun d => (match od with
    | .cell i => bind (look fun m => items m (.cell i)) fun ds => if plain d && decide (ds.length < cap) then bind (setCell i (.lst (ds ++ [d]))) fun _ => ret (.next vars) else fail
    | _ => fail) else fail) m) Q X) : wpAny (model C.prog C.w) A (PySem.exec (.Expr (.Call (.Attribute o "append" ap) [e] [] cp) pos) E) Q X s := by
 refine e0_2 (postx_ite h) fun hc h => ?_
 simp only [Bool.and_eq_true, beq_iff_eq] at hc
 obtain ⟨⟨hs, hst⟩, hline⟩ := hc
 have hall : [e].all notStar = true := by simp [hst]
 refine wpAny_Expr ?_ (not_interactive F.env) rfl
 rw [arm_eval_Call, base_whole hs]
 refine wpAny_bind (wpAny_mono (hn hR I F.env V (PostX.ebind h)) (fun ov s₁ hv => ?_) fun _ _ x => x)
 obtain ⟨od, m₁, φ₁, st, q, r, h₁⟩ := hv
 have I₁ := I.step st q
 refine wpAny_bind (wpAny_standAt ?_)
 refine e1_2 (PostX.look_bind h₁) fun ds0 hds0 h₁ => ?_
 refine e3_2 (list_at I₁ r hds0) fun a its k ee1 ho => ?_; subst ee1
 unfold methodCall
 have hfew : methodCallForm ([e].length + ([] : List Keyword).length) (backTo cp (starEach [e] E)) (backToKw cp (keywordEach [] E)) = true := by
  rw [star_cons hst]; rfl
 rw [hfew]
 refine wpAny_bind (wpAny_holding ?_)
 unfold calleeOf
 rw [if_pos rfl]
 refine getMethod_list_append ho rfl rfl ?_
 dsimp only
 have hpos : methodCallPos true o E ap cp = pure cp := by
  unfold methodCallPos
  rw [if_pos (by simp [hline])]
 rw [hpos]
 refine wpAny_bind (wpAny_pure ?_)
 show wpAny _ A (callWith cp (.builtin "list.append") [.ref a] (backTo cp (starEach [e] E)) []) _ X s₁
 refine callWith_builtin (star_plain hall) (evalArgs_any hall ?_)
 rw [star_cons hst]
 refine spliced_cons (wpAny_mono (hn hR I₁ F.env (V.step st) (PostX.ebind h₁)) (fun v s₂ hv => ?_) fun _ _ x => x)
 obtain ⟨d, m₂, φ₂, st₂, q₂, r₂, h₂⟩ := hv
 have I₂ := I₁.step st₂ q₂
 have V₂ := (V.step st).step st₂
 refine spliced_nil ?_
 induction od using D.casesOn with
 | cell i =>
  refine e1_2 (PostX.look_bind h₂) fun ds hds h₂ => ?_
  refine e0_2 (postx_ite h₂) fun hc h₂ => ?_
  simp only [Bool.and_eq_true, decide_eq_true_eq] at hc
  refine e3_7 (cell_list I₂ (r.step st₂) hds) fun a' vs k' e' hφ ho' z x p hm => ?_
  obtain rfl := PySem.Value.ref.inj e'
  have hcap := cap_is
  have hlen := items_len x
  refine wpAny_list_append_plain ⟨k', ho'⟩ (fun h' hl hsb => ?_) (by rw [hlen, sizeLine_eq]; exact z)
  refine e1_1 hl fun k'' hl => ?_
  have e1 : vs.toArray.push v = (vs ++ [v]).toArray := by simp
  rw [e1] at hl
  have am : a ∈ φ₂.flatten := List.mem_flatten.mpr ⟨_, List.mem_of_getElem? hφ, .head _⟩
  have kk : Keeps0 φ₂ Z φ₂ Z s₂.heap h' := ⟨fun b o e n1 n2 => ⟨hsb.extBut b o (fun q => n1 (by rw [q]; exact am)) e, n1, n2⟩, fun _ _ e => e⟩
  refine e0_2 (cell_change (tk := s₂.toks) (c := .lst (ds ++ [d])) I₂ hφ (.head _) (fun b o n _ e => hsb.extBut b o n e) (same_ns I₂ am hsb) ⟨_, hl⟩ (.lst hl (by simp; lia) ((x.mono kk).append (.one (r₂.mono kk))) (plain_snoc p hc.1))) fun S M' => ?_
  exact (PostX.set_bind h₂) .next φ₂ _ S.x M' (V₂.step S)
 | _ => exact h₂.elim
theorem sx_expr {o e : Expr} {a : Str} {ap cp pos : Pos} (hn : SE C T Rm n) (hR : Rm A) (I : Inv C A (E :: fr) φ Z m s) (F : FrameOk E sc fr) (V : VarsAt C.K φ Z s.heap E sc vars)
  (h : PostX C (RF C E sc Z) (E :: fr) φ Z (ownE E sc) s (exec T mt rc (n + 1) sc (.Expr (.Call (.Attribute o a ap) [e] [] cp) pos) vars m) Q X) : wpAny (model C.prog C.w) A (PySem.exec (.Expr (.Call (.Attribute o a ap) [e] [] cp) pos) E) Q X s := by
 by_cases w : a = "append"
 ·subst w
  exact sx_append hn hR I F V h
 ·have w' : ¬ (a == ("append" : Str)) = true := by simpa using w
  have h' : PostX C (RF C E sc Z) (E :: fr) φ Z (ownE E sc) s ((bind (ev T n sc (.Call (.Attribute o a ap) [e] [] cp) vars) fun d => (match d with | .bytes _ => ret (Fl.next vars) | _ => fail)) m) Q X := by
   rw [exec_expr] at h
   rw [if_neg w'] at h
   exact h
  refine wpAny_Expr ?_ (not_interactive F.env) rfl
  refine wpAny_mono (hn hR I F.env V (PostX.ebind h')) (fun v s₁ hv => ?_) fun _ _ x => x
  obtain ⟨d, m₁, φ₁, st, q, r, h₁⟩ := hv
  induction d using D.casesOn with
  | bytes b =>
   cases r with
   | bytes _ t z => exact h₁ .next φ₁ s₁ XStep.refl q (V.step st)
  | _ => exact h₁.elim
theorem sx_unpack {ts : List Expr} {k : Nat} {p pos : Pos} {e : Expr} (hn : SE C T Rm n) (hR : Rm A) (I : Inv C A (E :: fr) φ Z m s) (F : FrameOk E sc fr) (V : VarsAt C.K φ Z s.heap E sc vars) (he : ∀ es k p, e ≠ .Tuple es k p) (hk : okTarget sc (.Tuple ts k p) = true)
  (h : PostX C (RF C E sc Z) (E :: fr) φ Z (ownE E sc) s ((bind (ev T n sc e vars) fun d => bind (lift (bindTo (.Tuple ts k p) d vars)) fun env' => ret (Fl.next env')) m) Q X) : wpAny (model C.prog C.w) A (PySem.exec (.Assign [.Tuple ts k p] e pos) E) Q X s := by
 have hsn : swappedStores [.Tuple ts k p] e E = pure none := by
  induction e using Expr.casesOn <;> first | rfl | exact absurd rfl (he _ _ _)
 refine wpAny_assign_one swaps_tup hsn rfl ?_
 refine wpAny_mono (hn hR I F.env V (PostX.ebind h)) (fun v s₁ hv => ?_) fun _ _ x => x
 obtain ⟨d, m₁, φ₁, st, q, r, h₁⟩ := hv
 refine e1_2 (PostX.lift_bind h₁) fun env' hb h₁ => ?_
 have V₁ := V.step st
 refine snd_target (I.step st q) F.env hk hb V₁ r fun h' tk Tt V' => ?_
 exact h₁ .next φ₁ _ (Tt.x V₁.own) (q.touch Tt V₁.own) V'
end
noncomputable def storeAll (ps : List (Str × D)) (vars : Vars) : Vars := ps.foldl (fun v p => setv p.1 p.2 v) vars
theorem store_out {x : Str} {ps : List (Str × D)} {vars : Vars} (h : x ∉ ps.map (·.1)) : (storeAll ps vars).lookup x = vars.lookup x := by
 induction ps generalizing vars with
 | nil => rfl
 | cons p r ih => exact (ih (vars := setv p.1 p.2 vars) fun q => h (.tail _ q)).trans (setv_ne fun q => h (q ▸ .head _))
theorem store_in {x : Str} {d : D} {ps : List (Str × D)} {vars : Vars} (nd : (ps.map (·.1)).Nodup) (h : (x, d) ∈ ps) : (storeAll ps vars).lookup x = some d := by
 induction ps generalizing vars with
 | nil => contradiction
 | cons p r ih =>
  rw [List.map_cons, List.nodup_cons] at nd
  show (storeAll r (setv p.1 p.2 vars)).lookup x = _
  rcases List.mem_cons.mp h with h | h
  ·rw [<- h] at nd ⊢
   exact (store_out nd.1).trans setv_eq
  ·exact ih nd.2 h
theorem store_same {ps qs : List (Str × D)} {vars : Vars} (nd : (ps.map (·.1)).Nodup) (nd2 : (qs.map (·.1)).Nodup) (h : ∀ p, p ∈ ps ↔ p ∈ qs) (x : Str) : (storeAll ps vars).lookup x = (storeAll qs vars).lookup x := by
 by_cases w : x ∈ ps.map (·.1)
 ·refine e1_2 (List.mem_map.mp w) fun p hp ee1 => ?_; subst ee1
  rw [store_in nd hp, store_in nd2 ((h p).mp hp)]
 ·have w' : x ∉ qs.map (·.1) := fun q => by
   refine e1_2 (List.mem_map.mp q) fun p hp ee1 => ?_; subst ee1
   exact w (List.mem_map.mpr ⟨p, (h p).mpr hp, rfl⟩)
  rw [store_out w, store_out w']
theorem assign_store {ts : List Expr} {ds : List D} {vars vars' : Vars} (e : assignNames ts ds vars = some vars') : vars' = storeAll ((ts.map targetName).zip ds) vars /\ ts.length = ds.length := by
 induction ts generalizing ds vars with
 | nil =>
  induction ds using List.casesOn with
  | nil => exact ⟨(Option.some.inj e).symm, rfl⟩
  | cons _ _ => exact none_some e
 | cons t ts ih =>
  have c := cons_name e
  clear e
  induction c with | mk y p d ds e => _
  exact (ih e).imp_right (congrArg Nat.succ)
section
variable {C : Cst} {T : Tabs} {Rm : Around -> Prop} {mt : List Str} {rc : Bool} {n : Nat} {sc sc' : Scope} {E : Env} {A : Around} {fr : List Env} {φ : List (List Addr)} {Z : List Addr} {m : Mem} {s : Shared} {vars : Vars} {Q : Flow -> Shared -> Prop} {X : Value -> Shared -> Prop}
theorem snd_binds (ok : EnvOk E sc) : ∀ (ps : List (Str × D)) (vs : List Value) (vars : Vars) (s : Shared) (Q : Unit -> Shared -> Prop), (∀ p ∈ ps, okName sc p.1 = true) -> VarsAt C.K φ Z s.heap E sc vars -> DAll C.K φ Z s.heap vs (ps.map (·.2)) ->
  (∀ h' tk, Touch (ownE E sc) s.heap h' -> VarsAt C.K φ Z h' E sc (storeAll ps vars) -> Q () { s with heap := h', toks := tk }) -> wpAny (model C.prog C.w) A (assignInOrder ((ps.map (·.1)).map fun n => bindName E n) vs) Q X s := by
 intro ps
 induction ps with
 | nil =>
  intro vs vars s Q _ V r h
  cases r
  exact wpAny_pure (h s.heap s.toks (Touch.refl ..) V)
 | cons p ps ih =>
  intro vs vars s Q hk V r h
  rw [List.map_cons] at r
  cases r with
  | cons rv rr =>
   rename_i v vs
   show wpAny _ A (do holding vs (bindName E p.1 v); assignInOrder ((ps.map (·.1)).map fun n => bindName E n) vs) Q X s
   refine wpAny_bind (wpAny_holding (wpAny_bindName (snd_store (hk p (.head _)) ok V rv fun h' tk Tt V' => ?_)))
   exact ih vs _ { s with heap := h', toks := tk } Q (fun q hq => hk q (.tail _ hq)) V' (rr.touch Tt V.own) fun h'' tk' T' V'' => h h'' tk' (Tt.trans T') V''
theorem DAll.reverse {K : Frag} {h : Heap} {vs : List Value} {ds : List D} (r : DAll K φ Z h vs ds) : DAll K φ Z h vs.reverse ds.reverse := by
 induction r using DAll.ind with
 | nil => exact .nil
 | cons a _ ih => rw [List.reverse_cons, List.reverse_cons]; exact ih.append (.one a)
theorem or_if {α : Type} {c : Prop} [Decidable c] {b y z : α} (h : ¬c -> b = y \/ b = z) : (if c then y else b) = y \/ (if c then y else b) = z := by
 by_cases q : c
 ·exact .inl (if_pos q)
 ·rw [if_neg q]; exact h q
theorem swapped_lit {ts es : List Expr} {k k2 : Nat} {p p2 : Pos} (hc : (!es.all (constantsAlone 8) || es.all (foldedForSure 8)) = true) (hn : ts.length = es.length) (hs : ts.all (nameIn sc) = true) :
  swappedStores [.Tuple ts k p] (.Tuple es k2 p2) E = pure none \/ swappedStores [.Tuple ts k p] (.Tuple es k2 p2) E = pure (some (ts.map targetName)) := by
 have key : ∀ (f : Expr -> Option Str), (∀ t, f t = none \/ ∃ x p, t = .Name x p /\ f t = some x) -> ∀ l : List Expr, (l.filterMap f).length = l.length -> l.filterMap f = l.map targetName := by
  intro f hf l
  induction l with
  | nil => intro _; rfl
  | cons t l ih =>
   intro h
   rcases hf t with q | ⟨x, p, rfl, q⟩
   ·rw [List.filterMap_cons, q] at h
    have h' : (l.filterMap f).length = l.length + 1 := h
    have := List.length_filterMap_le f l
    lia
   ·rw [List.filterMap_cons, q] at h ⊢
    simp only [List.map_cons, targetName]
    rw [ih (Nat.succ.inj h)]
 unfold swappedStores
 dsimp only
 refine or_if fun h1 => or_if fun h2 => or_if fun h3 => or_if fun h4 => .inr ?_
 rw [if_neg fun h5 => ?_, key]
 ·intro t
  induction t using Expr.casesOn <;> first | exact .inl rfl | skip
  exact if w : _ then .inr ⟨_, _, rfl, if_pos w⟩ else .inl (if_neg w)
 ·simp only [Bool.or_eq_true, bne_iff_ne, ne_eq, not_or, Decidable.not_not] at h3
  exact h3.1
 ·rw [h5] at hc
  exact h4 ((Bool.or_eq_true _ _).mp hc |>.resolve_left nofun)
theorem sx_lit {ts es : List Expr} {k k2 : Nat} {p p2 pos : Pos} (hn : SE C T Rm n) (hR : Rm A) (I : Inv C A (E :: fr) φ Z m s) (F : FrameOk E sc fr) (V : VarsAt C.K φ Z s.heap E sc vars)
  (h : PostX C (RF C E sc Z) (E :: fr) φ Z (ownE E sc) s (exec T mt rc (n + 1) sc (.Assign [.Tuple ts k p] (.Tuple es k2 p2) pos) vars m) Q X) : wpAny (model C.prog C.w) A (PySem.exec (.Assign [.Tuple ts k p] (.Tuple es k2 p2) pos) E) Q X s := by
 rw [exec_lit] at h
 refine e0_2 (postx_ite h) fun hc h => ?_
 simp only [Bool.and_eq_true, decide_eq_true_eq] at hc
 obtain ⟨⟨⟨hk, hst⟩, hlen, hsm, hnd⟩, hcst⟩ := hc
 have hnames := okTarget_names hk
 rw [arm_exec_Assign]
 refine wpAny_bind (wpAny_standAt ?_)
 refine wpAny_bind (wpAny_of_eq (a := false) (swaps_tup (E := E) (line := pos.line) (e := .Tuple es k2 p2) (ts := ts) (k := k) (p := p)) ?_)
 refine bm_if_false rfl ?_
 refine wpAny_bind (wpAny_Tuple (wpAny_mono (se_fors hn hR F.env ts es φ m s _ hst I V (PostX.ebind h)) (fun vs s₁ hv => ?_) fun _ _ x => x))
 obtain ⟨ds, m₁, φ₁, st, q, r, h₁⟩ := hv
 refine e1_2 (PostX.lift_bind h₁) fun vars' hb h₁ => ?_
 have I₁ := I.step st q
 have V₁ := V.step st
 refine e0_2 (assign_store hb) fun hst' hlen' => ?_
 refine ⟨by rw [r.length, <- hlen', hlen, sizeLine_eq]; lia, ?_⟩
 have g1 : ∀ a o, s₁.heap.get? a = some o -> (s₁.heap.push (tupOf vs.toArray 0)).get? a = some o := fun _ _ e => Heap.get?_push_of_some _ e
 have htup : IsTup (s₁.heap.push (tupOf vs.toArray 0)) s₁.heap.objs.size vs.toArray := ⟨_, Heap.get?_push_size _ rfl, rfl, _, rfl⟩
 have G1 : Step φ₁ Z s₁ φ₁ { s₁ with heap := s₁.heap.push (tupOf vs.toArray 0) } := Step.grow (tk := s₁.toks) φ₁ Z g1
 have I₂ := I₁.step G1 (I₁.mem.grow (s' := { s₁ with heap := s₁.heap.push (tupOf vs.toArray 0) }) g1)
 have V₂ := V₁.step G1
 have r₂ := r.step G1
 have fin : ∀ vars'' h' tk, (∀ x, vars''.lookup x = vars'.lookup x) -> Touch (ownE E sc) (s₁.heap.push (tupOf vs.toArray 0)) h' -> VarsAt C.K φ₁ Z h' E sc vars'' -> Q .next { s₁ with heap := h', toks := tk } := fun vars'' h' tk hx Tt V' => by
  refine h₁ .next φ₁ _ (G1.x.trans (Tt.x (s := { s₁ with heap := s₁.heap.push (tupOf vs.toArray 0) }) V₂.own)) (I₂.mem.touch Tt V₂.own) ?_
  exact V'.weaken fun x d e => by rw [hx]; exact e
 rcases swapped_lit (E := E) (k := k) (k2 := k2) (p := p) (p2 := p2) hcst hlen hnames with e | e
 ·refine wpAny_bind (wpAny_of_eq e ?_)
  show wpAny _ A (assign (.Tuple ts k p) E _ >>= fun _ => pure .next) Q X _
  refine e0_2 (names_static (E := E) ts ds _ _ hnames hb) fun hst1 hst2 => ?_
  refine wpAny_bind (assign_Tuple_tuple I₂.hand htup (by rw [hst1, items_len r]) hst2 fun h' he => ?_)
  have g2 : ∀ b o, (s₁.heap.push (tupOf vs.toArray 0)).get? b = some o -> h'.get? b = some o := fun b o q => he b o (Nat.ne_of_lt (Heap.lt_size q)) q
  have G2 := Step.grow (s := { s₁ with heap := s₁.heap.push (tupOf vs.toArray 0) }) (tk := s₁.toks) φ₁ Z g2
  refine snd_names F.env ts ds vs vars vars' { s₁ with heap := h' } _ hnames hb (V₂.step G2) (r₂.step G2) fun h'' tk Tt V' => wpAny_pure ?_
  exact fin vars' h'' tk (fun _ => rfl) (((Touch.mk (fun b o _ q => g2 b o q) fun b _ ⟨o, q⟩ => ⟨o, g2 b o q⟩) : Touch (ownE E sc) _ _).trans Tt) V'
 ·refine wpAny_bind (wpAny_of_eq e ?_)
  show wpAny _ A (do rule "assign.swapped-stores"; let items <- unpackItems (.ref s₁.heap.objs.size) (ts.map targetName).length none; assignInOrder ((ts.map targetName).reverse.map fun n => bindName E n) items.reverse; pure .next) Q X _
  refine wpAny_bind (wpAny_rule ?_)
  have hsz : (ts.map targetName).length = vs.toArray.size := by rw [List.length_map, items_len r, hlen']
  rw [hsz]
  refine wpAny_bind (unpackItems_tuple I₂.hand htup fun h' he => ?_)
  have g2 : ∀ b o, (s₁.heap.push (tupOf vs.toArray 0)).get? b = some o -> h'.get? b = some o := fun b o q => he b o (Nat.ne_of_lt (Heap.lt_size q)) q
  have G2 := Step.grow (s := { s₁ with heap := s₁.heap.push (tupOf vs.toArray 0) }) (tk := s₁.toks) φ₁ Z g2
  have hz1 : (((ts.map targetName).zip ds).map (·.1)) = ts.map targetName := List.map_fst_zip (by rw [List.length_map]; lia)
  have hz2 : (((ts.map targetName).zip ds).map (·.2)) = ds := List.map_snd_zip (by rw [List.length_map]; lia)
  have e1 : (ts.map targetName).reverse = (((ts.map targetName).zip ds).reverse.map (·.1)) := by rw [List.map_reverse, hz1]
  rw [e1]
  have rr : DAll C.K φ₁ Z h' vs.reverse (((ts.map targetName).zip ds).reverse.map (·.2)) := by rw [List.map_reverse, hz2]; exact (r₂.step G2).reverse
  refine wpAny_bind (snd_binds F.env ((ts.map targetName).zip ds).reverse vs.reverse vars { s₁ with heap := h' } _ (fun p hp => ?_) (V₂.step G2) rr fun h'' tk Tt V' => wpAny_pure ?_)
  ·have hp1 : p.1 ∈ ts.map targetName := by rw [<- hz1]; exact List.mem_map.mpr ⟨p, List.mem_reverse.mp hp, rfl⟩
   refine e1_2 (List.mem_map.mp hp1) fun t ht hte => ?_
   refine e2_2 (nameIn_is (List.all_eq_true.mp hnames t ht)) fun x p e hx => ?_
   rw [<- hte, e]
   exact hx
  ·refine fin _ h'' tk (fun x => ?_) (((Touch.mk (fun b o _ q => g2 b o q) fun b _ ⟨o, q⟩ => ⟨o, g2 b o q⟩) : Touch (ownE E sc) _ _).trans Tt) V'
   rw [hst']
   exact store_same (by rw [List.map_reverse, hz1]; exact (List.reverse_perm _).nodup_iff.mpr hnd) (by rw [hz1]; exact hnd) (fun p => by simp) x
end
section
variable {C : Cst} {T : Tabs} {Rm : Around -> Prop} {mt : List Str} {rc : Bool} {n : Nat} {sc sc' : Scope} {E : Env} {A : Around} {fr : List Env} {φ : List (List Addr)} {Z : List Addr} {m : Mem} {s : Shared} {vars : Vars} {Q : Flow -> Shared -> Prop} {X : Value -> Shared -> Prop}
theorem ST.ok {e : Expr} {b : Bool} {m' : Mem} {Q : Bool -> Shared -> Prop} (hn : ST C T Rm n) (hR : Rm A) (I : Inv C A fr φ Z m s) (ok : EnvOk E sc) (V : VarsAt C.K φ Z s.heap E sc vars) (hev : tst T n sc e vars m = .ok b m')
  (h : ∀ φ' s', Step φ Z s φ' s' -> MemAt C.K C.H0 φ' Z m' s'.heap -> Q b s') : wpAny (model C.prog C.w) A (isTrue e E (eval e E)) Q X s :=
 hn hR I ok V (by rw [hev]; exact fun b' φ' s' st q r => by obtain rfl : b' = b := r; exact h φ' s' st q)
theorem SXs.ok {st : List Stmt} {fl : Fl} {m' : Mem} (hn : SXs C T Rm mt rc n) (hR : Rm A) (I : Inv C A (E :: fr) φ Z m s) (F : FrameOk E sc fr) (V : VarsAt C.K φ Z s.heap E sc vars) (hev : execs T mt rc n sc st vars m = .ok fl m')
  (h : ∀ f φ' s', XStep φ Z (ownE E sc) s φ' s' -> MemAt C.K C.H0 φ' Z m' s'.heap -> RF C E sc Z φ' s'.heap f fl -> Q f s') : wpAny (model C.prog C.w) A (PySem.execs st E) Q X s :=
 hn hR I F V (by rw [hev]; exact h)
theorem sx_while {t : Expr} {b : List Stmt} {pos : Pos} (ha : SAll C T Rm n) (hxs : SXs C T Rm mt rc n) (hR : Rm A) (I : Inv C A (E :: fr) φ Z m s) (F : FrameOk E sc fr) (V : VarsAt C.K φ Z s.heap E sc vars)
  (h : PostX C (RF C E sc Z) (E :: fr) φ Z (ownE E sc) s (exec T mt rc (n + 1) sc (.While t b [] pos) vars m) Q X) : wpAny (model C.prog C.w) A (PySem.exec (.While t b [] pos) E) Q X s := by
 rw [exec_while] at h
 refine wpAny_While (codeAny_whileLoop (fun k s' => ∃ φ' m' vars', Inv C A (E :: fr) φ' Z m' s' /\ VarsAt C.K φ' Z s'.heap E sc vars' /\
  PostX C (RF C E sc Z) (E :: fr) φ' Z (ownE E sc) s' (whileL (fun env => tst T n sc t env) (fun env => execs T mt rc n sc b env) k vars' m') Q X) ?_ whileTop ⟨φ, m, vars, I, V, h⟩)
 rintro k s' ⟨φ', m', vars', I', V', h'⟩
 induction k using Nat.casesAuxOn with
 | zero => exact h'.elim
 | succ k =>
  simp only [whileL] at h'
  refine e2_2 (PostX.calm_bind h') fun c m₁ hev h₁ => ?_
  refine ST.ok ha.t hR I' F.env V' hev fun φ₁ s₁ st q => ?_
  have I₁ := I'.step st q
  have V₁ := V'.step st
  have h₂ := PostX.step h₁ st.x
  induction c with
  | false =>
   simp only [Bool.false_eq_true, if_false]
   exact wpAny_execs_nil (h₂ .next φ₁ s₁ XStep.refl q V₁)
  | true =>
   simp only [if_true]
   refine e2_2 (PostX.calm_bind h₂) fun fl m₂ hev2 h₃ => ?_
   refine SXs.ok hxs hR I₁ F V₁ hev2 fun f φ₂ s₂ x q₂ r => ?_
   have h₄ := PostX.step h₃ x
   induction f <;> cases fl <;> try exact (show False from r).elim
   ·have V₂ : VarsAt C.K φ₂ Z s₂.heap E sc _ := r
    exact ⟨k, Nat.lt_succ_self k, φ₂, m₂, _, I₁.framed F V₁ x q₂ V₂, V₂, h₄⟩
   ·exact h₄ _ φ₂ s₂ XStep.refl q₂ r
noncomputable def NoteOk (C : Cst) : Prop := ∀ {A : Around} {E : Env} {sc : Scope} {fr : List Env} {φ : List (List Addr)} {Z own : List Addr} {m' : Mem} {s s' : Shared} {e : Value} {X : Value -> Shared -> Prop}, A.frames = some (E :: fr) -> FrameOk E sc fr -> FlewX C (E :: fr) φ Z own m' s e s' -> (∀ e s', FlewX C (E :: fr) φ Z own m' s e s' -> X e s') ->
 notedBy (model C.prog C.w) A E (cameBackBy (model C.prog C.w) A E X) e s'
theorem FlewX.inner {Z' own own' : List Addr} {φ' : List (List Addr)} {m' : Mem} {s₁ s' : Shared} {e : Value} (x : XStep φ Z own s φ' s₁) (y : FlewX C fr φ' Z' own' m' s₁ e s') (h1 : ∀ a ∈ Z', a ∈ Z \/ s.heap.get? a = none) (h2 : ∀ a ∈ Z, a ∈ Z') (h3 : ∀ a ∈ own', a ∈ Z -> a ∈ own) : FlewX C fr φ Z own m' s e s' :=
 let ⟨ea, φ₂, B, cf, e, f, q, t, l, z⟩ := y
 ⟨ea, φ₂, B, cf, e, x.fly f h1 h2 h3, q.fewer h2, t, l, fun a hz ho => z a (h2 a hz) fun q => ho (h3 a q hz)⟩
theorem own_sub {J : Addr} : ∀ a ∈ Z, a ∈ J :: Z := fun a h => .tail _ h
theorem all_cons {p : Addr -> Prop} {J : Addr} {Z : List Addr} (hJ : p J) (hZ : ∀ a ∈ Z, p a) : ∀ a ∈ J :: Z, p a := fun a ha => (List.mem_cons.mp ha).elim (fun e => e ▸ hJ) (hZ a)
theorem all_one {p : Addr -> Prop} {J : Addr} (hJ : p J) : ∀ a ∈ [J], p a := fun a ha => List.mem_singleton.mp ha ▸ hJ
structure NewIt (C : Cst) (A : Around) (E : Env) (fr : List Env) (φ : List (List Addr)) (Z : List Addr) (m : Mem) (s : Shared) (sc : Scope) (vars : Vars) (J : Addr) (h : Heap) : Prop where
 n : s.heap.get? J = none
 more : ∀ a ∈ J :: Z, a ∈ Z \/ s.heap.get? a = none
 g : ∀ a o, s.heap.get? a = some o -> h.get? a = some o
 I : Inv C A (E :: fr) φ (J :: Z) m { s with heap := h }
 V : VarsAt C.K φ (J :: Z) h E sc vars
 z : J ∉ Z
 o : J ∉ ownE E sc
 c : ∀ p ∈ E.cells, p.2 ≠ J
 nb : ∀ e ∈ E :: fr, (∀ L, e.frame = some L -> L ≠ J /\ L ∉ ownE E sc) \/ (e = E /\ E.frame = some E.locals)
 o2 : ∀ a ∈ J :: ownE E sc, a ∈ J :: Z
 inn : ∀ a ∈ J :: ownE E sc, a ∈ Z -> a ∈ ownE E sc
theorem newIt {ob : Obj} {J : Addr} (I : Inv C A (E :: fr) φ Z m s) (F : FrameOk E sc fr) (V : VarsAt C.K φ Z s.heap E sc vars) (hJ : s.heap.objs.size = J) (hob : (s.heap.push ob).get? J = some ob) : NewIt C A E fr φ Z m s sc vars J (s.heap.push ob) := by
 have hJn : s.heap.get? J = none := none_of_size (Nat.le_of_eq hJ)
 have more : ∀ a ∈ J :: Z, a ∈ Z \/ s.heap.get? a = none := all_cons (.inr hJn) fun a q => .inl q
 have g : ∀ a o, s.heap.get? a = some o -> (s.heap.push ob).get? a = some o := fun _ _ e => Heap.get?_push_of_some _ e
 have JZ : J ∉ Z := fun q => let ⟨_, w⟩ := (I.z0 J q).2; live_ne w hJn
 have JO : J ∉ ownE E sc := fun q => JZ (V.own J q)
 refine ⟨hJn, more, g, I.more (tk := s.toks) g more own_sub (all_cons ⟨by rw [<- hJ]; exact I.big V.zl, _, hob⟩ fun a q => ⟨(I.z0 a q).1, let ⟨o, w⟩ := (I.z0 a q).2; ⟨o, g a o w⟩⟩), V.more g more own_sub, JZ, JO,
  fun p hp q => JZ (by rw [<- q]; exact V.zc p hp), fun e he => ?_, all_cons (.head _) fun a q => .tail _ (V.own a q), all_cons (fun q => absurd q JZ) fun a q _ => q⟩
 rcases List.mem_cons.mp he with h | he
 ·exact .inr ⟨h, F.own⟩
 ·refine .inl fun L hL => ⟨fun q => ?_, F.apart e he L hL⟩
  obtain ⟨_, L', _, hf, hz', _⟩ := I.frs e (.tail _ he)
  exact JZ (q ▸ Option.some.inj (hf.symm.trans hL) ▸ hz')
noncomputable def ForEnd (G : Nat -> Shared -> Prop) (k : Nat) (Q : Flow -> Shared -> Prop) (f : Flow) (s₃ : Shared) : Prop := match f with
 | .next | .cont => ∃ k', k' < k /\ G k' s₃
 | .brk => Q .next s₃
 | .ret v => Q (.ret v) s₃
theorem body_end {G : Nat -> Shared -> Prop} {kk : Nat} {J : Addr} {h0 : Heap} {φ' : List (List Addr)} {s2 : Shared} {vars2 : Vars} {m' : Mem} {b : List Stmt} {k : Fl -> M Fl} (note : NoteOk C) (N : NewIt C A E fr φ Z m s sc vars J h0) (F : FrameOk E sc fr) (fe : A.frames = some (E :: fr))
  (xs2 : XStep φ Z (ownE E sc) s φ' s2) (h' : PostX C (RF C E sc Z) (E :: fr) φ Z (ownE E sc) s (Mine.bind (execs T mt rc n sc b vars2) k m') Q X) (hk : ∀ d, k (.ret d) = ret (.ret d))
  (next : ∀ φ₃ m₂ s₃ vars₃, XStep φ' (J :: Z) (ownE E sc) s2 φ₃ s₃ -> MemAt C.K C.H0 φ₃ (J :: Z) m₂ s₃.heap -> VarsAt C.K φ₃ (J :: Z) s₃.heap E sc vars₃ -> XStep φ Z (ownE E sc) s φ₃ s₃ ->
   PostX C (RF C E sc Z) (E :: fr) φ Z (ownE E sc) s (k (.next vars₃) m₂) Q X -> ∃ k', k' < kk /\ G k' s₃) :
  PostX C (RF C E sc (J :: Z)) (E :: fr) φ' (J :: Z) (ownE E sc) s2 (execs T mt rc n sc b vars2 m') (ForEnd G kk Q) (notedBy (model C.prog C.w) A E (cameBackBy (model C.prog C.w) A E X)) := by
 unfold Mine.bind at h'
 generalize execs T mt rc n sc b vars2 m' = x at h' ⊢
 have keep : ∀ a ∈ ownE E sc, a ∈ Z -> a ∈ ownE E sc := fun a ha _ => ha
 induction x with
 | stuck => exact h'.elim
 | exc m₂ => exact fun e s₃ hf => note fe F (FlewX.inner xs2 hf N.more own_sub keep) h'
 | ok fl m₂ =>
  intro f φ₃ s₃ x3 q3 r3
  have xs3 : XStep φ Z (ownE E sc) s φ₃ s₃ := xs2.inner x3 N.more own_sub keep
  induction fl with
  | next vars₃ =>
   induction f with
   | next => exact next φ₃ m₂ s₃ vars₃ x3 q3 r3 xs3 h'
   | _ => exact (show False from r3).elim
  | ret d =>
   induction f with
   | ret v =>
    have h' : PostX C (RF C E sc Z) (E :: fr) φ Z (ownE E sc) s (k (.ret d) m₂) Q X := h'
    rw [hk] at h'
    exact h' (.ret v) φ₃ s₃ xs3 (q3.fewer own_sub) (DRep.fewer (show DRep C.K φ₃ (J :: Z) s₃.heap v d from r3) own_sub)
   | _ => exact (show False from r3).elim
theorem it_end {J : Addr} {h0 h₂ : Heap} {tk : Nat} {φ' : List (List Addr)} {m' : Mem} {s' : Shared} {vars' : Vars} (N : NewIt C A E fr φ Z m s sc vars J h0) (V : VarsAt C.K φ Z s.heap E sc vars) (I' : MemAt C.K C.H0 φ' (J :: Z) m' s'.heap) (V' : VarsAt C.K φ' (J :: Z) s'.heap E sc vars') (xs : XStep φ Z (ownE E sc) s φ' s')
  (k : ∀ a o, a ∉ [J] -> s'.heap.get? a = some o -> h₂.get? a = some o) (h' : PostX C (RF C E sc Z) (E :: fr) φ Z (ownE E sc) s (ret (.next vars') m') Q X) : Q .next { s' with heap := h₂, toks := tk } := by
 have sub : ∀ a ∈ [J], a ∈ J :: Z := all_one (.head _)
 have nz : ∀ a ∈ [J], a ∉ Z := all_one N.z
 refine h' .next φ' _ ?_ (I'.leave k sub own_sub) (V'.leave k sub own_sub nz V.zl V.zc)
 refine e2_1 xs.same fun k1 t1 hsame => ?_
 exact ⟨⟨h₂, tk, by rw [hsame]⟩, xs.pre, xs.new, fun a o e n1 n2 => k a o (fun q => live_ne e (List.mem_singleton.mp q ▸ N.n)) (xs.keep a o e n1 n2), fun a ha ho => (xs.zs a ha ho).trans (NsKeep.same fun o e => k a o (fun q => nz a q ha) e)⟩
inductive ForAt (C : Cst) (T : Tabs) (mt : List Str) (rc : Bool) (n : Nat) (sc : Scope) (E : Env) (A : Around) (fr : List Env) (φ : List (List Addr)) (Z : List Addr) (s : Shared) (t : Expr) (b : List Stmt) (ds : List D) (P : Nat -> Value -> Prop) (St : Nat -> Heap -> Prop) (J : Addr) (Q : Flow -> Shared -> Prop) (X : Value -> Shared -> Prop) (k : Nat) (s' : Shared) : Prop
 | mk (i : Nat) (φ' : List (List Addr)) (m' : Mem) (vars' : Vars) : St i s'.heap -> Inv C A (E :: fr) φ' (J :: Z) m' s' -> VarsAt C.K φ' (J :: Z) s'.heap E sc vars' -> XStep φ Z (ownE E sc) s φ' s' ->
  (∀ j v, j < ds.length -> P j v -> ∃ d, ds[j]? = some d /\ DRep C.K φ' (J :: Z) s'.heap v d) -> i <= ds.length -> k = ds.length + 1 - i ->
  PostX C (RF C E sc Z) (E :: fr) φ Z (ownE E sc) s (forL (fun d env => bind (lift (bindTo t d env)) fun env' => execs T mt rc n sc b env') (ds.drop i) vars' m') Q X -> ForAt C T mt rc n sc E A fr φ Z s t b ds P St J Q X k s'
theorem drop_at {ds : List D} {i : Nat} {d : D} (h : ds[i]? = some d) : ds.drop i = d :: ds.drop (i + 1) := by
 obtain ⟨w, rfl⟩ := List.getElem?_eq_some_iff.mp h
 exact List.drop_eq_getElem_cons w
theorem forL_cons {f : D -> Vars -> M Fl} {d : D} {r : List D} {env : Vars} : forL f (d :: r) env = bind (f d env) fun
  | .next env' => forL f r env'
  | .ret d => ret (.ret d) := rfl
theorem sx_for {t it : Expr} {b : List Stmt} {pos : Pos} {d : D} {ds : List D} {xv : Value} (note : NoteOk C) (hxs : SXs C T Rm mt rc n) (hR : Rm A) (I : Inv C A (E :: fr) φ Z m s) (F : FrameOk E sc fr) (V : VarsAt C.K φ Z s.heap E sc vars) (ht : okTarget sc t = true)
  (r : DRep C.K φ Z s.heap xv d) (hd : iterV d = some ds) (hz : ds.length <= cap)
  (h : PostX C (RF C E sc Z) (E :: fr) φ Z (ownE E sc) s (forL (fun d env => bind (lift (bindTo t d env)) fun env' => execs T mt rc n sc b env') ds vars m) Q X) :
  wpAny (model C.prog C.w) A (pyIter xv) (fun it s₂ => codeAny (model C.prog C.w) A (.forLoop t it b [] E) (fun r s' => match r with | .ok f => Q f s' | .error e => cameBackBy (model C.prog C.w) A E X e s') s₂) X s := by
 refine snd_iter I r hd hz fun ob ax P St IO => ?_
 generalize hJ : s.heap.objs.size = J at IO
 have N : NewIt C A E fr φ Z m s sc vars J (s.heap.push ob) := newIt I F V hJ (by rw [<- hJ]; exact Heap.get?_push_size _ IO.free)
 have axz : ∀ a ∈ ax, a ∉ φ.flatten /\ a ∉ J :: Z /\ ∃ o, s.heap.get? a = some o := fun a ha =>
  let ⟨h1, h2, o, h3⟩ := IO.ax a ha
  ⟨h1, fun q => (N.more a q).elim h2 (live_ne h3), o, h3⟩
 refine codeAny_forLoop_any (ForAt C T mt rc n sc E A fr φ Z s t b ds P St J Q X) ?_ (ds.length + 1)
  (.mk 0 φ m vars IO.st0 N.I N.V (Step.grow (tk := s.toks) φ Z N.g).x (fun j v hj hP =>
   let ⟨d, e1, e2⟩ := IO.rep j v hj hP
   ⟨d, e1, e2.more N.g N.more⟩) (Nat.zero_le _) rfl h)
 intro k s' ⟨i, φ', m', vars', hst, I', V', xs, rep, hi, hk, h'⟩
 clear h
 cases hd' : ds[i]? with
 | some d' =>
  have hlt : i < ds.length := (List.getElem?_eq_some_iff.mp hd').1
  rw [drop_at hd', forL_cons, bind_assoc] at h'
  refine e1_2 (PostX.lift_bind h') fun env' hb h' => ?_
  have adv := adv_x (C := C) (A := A) (fr := E :: fr) (φ := φ') (Z := J :: Z) (m := m') (s := s') (E := E) (sc := sc) (X := notedBy (model C.prog C.w) A E (cameBackBy (model C.prog C.w) A E X)) (X' := notedBy (model C.prog C.w) A E (cameBackBy (model C.prog C.w) A E X)) (X'' := notedBy (model C.prog C.w) A E (cameBackBy (model C.prog C.w) A E X))
   (Q := fun _ s₂ => wpAny (model C.prog C.w) A (PySem.execs b E) (ForEnd (ForAt C T mt rc n sc E A fr φ Z s t b ds P St J Q X) k Q) (notedBy (model C.prog C.w) A E (cameBackBy (model C.prog C.w) A E X)) s₂)
   (d := d') (base := vars') (env' := env') IO.it I' (.head _) N.nb F.env N.o N.c V' (fun a ha => (axz a ha).2.1) ht hst hlt (fun v hP => ?_) hb (fun h2 tk2 T2 I2 st2 V2 => ?_)
  ·refine wpAny_mono adv (fun r s₁ hr => ?_) fun _ _ x => x
   induction r with
   | none => exact hr.elim
   | some v =>
    refine wpAny_mono hr (fun _ s₂ h₂ => wpAny_mono h₂ (fun _ s₃ h₃ => wpAny_mono h₃ (fun f s₄ h₄ => ?_) fun _ _ x => x) fun _ _ x => x) fun _ _ x => x
    induction f <;> exact h₄
  ·refine e1_2 (rep i v hlt hP) fun d'' e1 e2 => ?_
   exact Option.some.inj (hd'.symm.trans e1) ▸ e2
  ·have xs2 : XStep φ Z (ownE E sc) s φ' { s' with heap := h2, toks := tk2 } := xs.inner (T2.x (tk := tk2) N.o2) N.more own_sub N.inn
   refine hxs hR I2 F V2 (body_end note N F I.frames xs2 h' (fun _ => rfl) fun φ₃ m₂ s₃ vars₃ x3 q3 V3 xs3 h' => ?_)
   refine ⟨ds.length + 1 - (i + 1), by lia, .mk (i + 1) φ₃ m₂ vars₃ ?_ (I2.framed F V2 x3 q3 V3) V3 xs3 (fun j v hj hP => ?_) hlt rfl h'⟩
   ·refine IO.it.W.frame _ _ _ st2 (all_cons (fun o e => ?_) fun a ha o e => ?_)
    ·refine e1_2 (IO.it.firm _ _ st2) fun o' ho' hf => ?_
     rw [e] at ho'; obtain rfl := Option.some.inj ho'
     exact (x3.zs J (.head _) N.o).firm _ e hf
    ·obtain ⟨n1, n2, o', n3⟩ := axz a ha
     exact x3.keep a o e (fun q => live_ne n3 (xs2.new a q n1).2) n2
   ·refine e1_2 (rep j v hj hP) fun d e1 e2 => ?_
    exact ⟨d, e1, (e2.touch T2 N.o2).xstep x3⟩
 | none =>
  have hin : ds.length = i := Nat.le_antisymm (List.getElem?_eq_none_iff.mp hd') hi
  rw [<- hin, List.drop_length] at h'
  refine IO.it.W.done s' _ _ (hin ▸ hst) fun h₂ tk₂ hk₂ => ?_
  exact wpAny_execs_nil (it_end N V I'.mem V' xs (fun a o q e => hk₂ a o q e) h')
end
section
variable {C : Cst} {T : Tabs} {Rm : Around -> Prop} {mt : List Str} {rc : Bool} {n : Nat} {sc sc' : Scope} {E : Env} {A : Around} {fr : List Env} {φ : List (List Addr)} {Z : List Addr} {m : Mem} {s : Shared} {vars : Vars} {Q : Flow -> Shared -> Prop} {X : Value -> Shared -> Prop}
inductive ForCAt (C : Cst) (T : Tabs) (mt : List Str) (rc : Bool) (n : Nat) (sc : Scope) (E : Env) (A : Around) (fr : List Env) (φ : List (List Addr)) (Z : List Addr) (s : Shared) (t : Expr) (b : List Stmt) (a : Addr) (i : Nat) (J : Addr) (Q : Flow -> Shared -> Prop) (X : Value -> Shared -> Prop) (k : Nat) (s' : Shared) : Prop
 | mk (j : Nat) (φ' : List (List Addr)) (m' : Mem) (vars' : Vars) : s'.heap.IsListIter J a j -> Inv C A (E :: fr) φ' (J :: Z) m' s' -> VarsAt C.K φ' (J :: Z) s'.heap E sc vars' -> XStep φ Z (ownE E sc) s φ' s' ->
  PostX C (RF C E sc Z) (E :: fr) φ Z (ownE E sc) s (forC (fun d env => bind (lift (bindTo t d env)) fun env' => execs T mt rc n sc b env') i k j vars' m') Q X -> ForCAt C T mt rc n sc E A fr φ Z s t b a i J Q X k s'
theorem go_target {p : Program} {w : World} {t : Expr} {J : Addr} {o : Obj} {v : Value} {Q' : Unit -> Shared -> Prop} (ht : okTarget sc t = true) (ho : s.heap.get? J = some o) (hc : o.cls = .type "list_iterator") (hd : ∃ vs, o.data = .fields vs) (q : Q' () s) : wpAny (model p w) A (letOwnedTupleGo t (.ref J) v) Q' X s := by
 induction t using Expr.casesOn with
 | Name _ _ => exact wpAny_pure q
 | Tuple _ _ _ => refine e1_1 hd fun vs hd => ?_; exact go_any ho hc hd (by decide) q
 | _ => exact Bool.noConfusion ht
theorem cell_seat {fr : List Env} {xv : Value} {i : Nat} {ds : List D} (I : Inv C A fr φ Z m s) (r : DRep C.K φ Z s.heap xv (.cell i)) (e : items m (.cell i) = some ds) : ∃ a vs k r', xv = .ref a /\ φ[i]? = some (a :: r') /\ s.heap.get? a = some (W.listOf vs.toArray k) /\ DAll C.K φ Z s.heap vs ds := by
 refine e3_6 (cell_list I r e) fun a vs k e0 hφ ho _ x _ => ?_
 exact ⟨a, vs, k, _, e0, hφ, ho, x⟩
theorem forC_succ {f : D -> Vars -> M Fl} {i k j : Nat} {env : Vars} : forC f i (k + 1) j env = bind (look fun m => items m (.cell i)) fun ds => match ds[j]? with
  | none => ret (.next env)
  | some d => bind (f d env) fun
   | .next env' => forC f i k (j + 1) env'
   | .ret d => ret (.ret d) := rfl
theorem sx_forC {t : Expr} {b : List Stmt} {i : Nat} {xv : Value} (note : NoteOk C) (hxs : SXs C T Rm mt rc n) (hR : Rm A) (I : Inv C A (E :: fr) φ Z m s) (F : FrameOk E sc fr) (V : VarsAt C.K φ Z s.heap E sc vars) (ht : okTarget sc t = true)
  (r : DRep C.K φ Z s.heap xv (.cell i))
  (h : PostX C (RF C E sc Z) (E :: fr) φ Z (ownE E sc) s (forC (fun d env => bind (lift (bindTo t d env)) fun env' => execs T mt rc n sc b env') i whileTop 0 vars m) Q X) :
  wpAny (model C.prog C.w) A (pyIter xv) (fun it s₂ => codeAny (model C.prog C.w) A (.forLoop t it b [] E) (fun r s' => match r with | .ok f => Q f s' | .error e => cameBackBy (model C.prog C.w) A E X e s') s₂) X s := by
 refine e1_2 (PostX.look_bind (show PostX C (RF C E sc Z) (E :: fr) φ Z (ownE E sc) s (bind (look fun m => items m (.cell i)) _ m) Q X from h)) fun ds0 hds0 _ => ?_
 refine e4_4 (cell_seat I r hds0) fun a vs0 k0 r' e0 hc ho0 _ => ?_
 rw [e0]
 refine wpAny_pyIter_list (listAt ho0) ?_
 generalize hob : ({ cls := .type "list_iterator", data := .fields #[.ref a, .int 0 0] } : Obj) = ob
 generalize hJ : s.heap.objs.size = J
 have hobJ : (s.heap.push ob).get? J = some ob := by rw [<- hJ]; exact Heap.get?_push_size _ (by rw [<- hob]; rfl)
 have N : NewIt C A E fr φ Z m s sc vars J (s.heap.push ob) := newIt I F V hJ hobJ
 refine codeAny_forLoop_any (ForCAt C T mt rc n sc E A fr φ Z s t b a i J Q X) ?_ whileTop (.mk 0 φ m vars ⟨_, hobJ, by rw [<- hob], by rw [<- hob]; rfl⟩ N.I N.V (Step.grow (tk := s.toks) φ Z N.g).x h)
 clear h hobJ hob ho0 hds0 e0 r
 intro k s' ⟨j, φ', m', vars', hit, I', V', xs, h'⟩
 induction k using Nat.casesAuxOn with
 | zero => exact h'.elim
 | succ k =>
  rw [forC_succ] at h'
  refine e1_2 (PostX.look_bind h') fun ds hds h' => ?_
  have hc' : φ'[i]? = some (a :: r') := prefix_get xs.pre hc
  refine e4_4 (cell_seat I' (.cell hc') hds) fun a' vs kk r2 e' hφ ho x => ?_
  have e' : a = a' := Value.ref.inj e'
  rw [<- e'] at ho
  have haJ : a ≠ J := fun q => (I'.mem.apart a (List.mem_flatten.mpr ⟨_, List.mem_of_getElem? hc', .head _⟩)).1 (by rw [q]; exact .head _)
  cases hj : ds[j]? with
  | none =>
   rw [hj] at h'
   have hjs : vs[j]? = none := List.getElem?_eq_none_iff.mpr (x.length ▸ List.getElem?_eq_none_iff.mp hj)
   exact wpAny_pyNext_list_end I'.hand hit (listAt ho) (by rw [List.getElem?_toArray]; exact hjs) fun h₂ he => wpAny_execs_nil (it_end N V I'.mem V' xs (fun a o q e => he a o (fun z => q (List.mem_singleton.mpr z)) e) h')
  | some d =>
   rw [hj] at h'
   refine e1_2 (PostX.lift_bind (show PostX C (RF C E sc Z) (E :: fr) φ Z (ownE E sc) s (bind (lift (bindTo t d vars')) (fun env' => bind (execs T mt rc n sc b env') _) m') Q X by rw [<- bind_assoc]; exact h')) fun env' hb h' => ?_
   refine e1_2 (x.get hj) fun v hv rv => ?_
   refine wpAny_pyNext_list_item hit (listAt ho) (x := v) (by rw [List.getElem?_toArray]; exact hv) fun h1 hit1 hs1 => ?_
   dsimp only
   have T1 : Touch [J] s'.heap h1 := same_touch hs1 (List.mem_singleton.mpr rfl) (let ⟨o, q, _⟩ := hit1; ⟨o, q⟩)
   have I1 : Inv C A (E :: fr) φ' (J :: Z) m' { s' with heap := h1 } := I'.xtouch (tk := s'.toks) T1 (all_one (.head _)) fun e he L hL q => (N.nb e he).elim (fun w => (w L hL).1 (List.mem_singleton.mp q)) fun w => N.o (List.mem_singleton.mp q ▸ Option.some.inj (w.2.symm.trans (w.1 ▸ hL)) ▸ .head _)
   have V1 : VarsAt C.K φ' (J :: Z) h1 E sc vars' := V'.touch T1 (all_one (.head _)) (fun q => N.o (List.mem_singleton.mp q ▸ .head _)) fun p hp q => N.c p hp (List.mem_singleton.mp q)
   refine e1_3 hit1 fun o1 ho1 hc1 hd1 => ?_
   refine go_target (s := { s' with heap := h1 }) ht ho1 hc1 ⟨_, hd1⟩ ?_
   refine snd_target (s := { s' with heap := h1 }) I1 F.env ht hb V1 (rv.touch T1 (all_one (.head _))) fun h2 tk2 T2 V2 => ?_
   have I2 : Inv C A (E :: fr) φ' (J :: Z) m' { s' with heap := h2, toks := tk2 } := I1.touch (tk := tk2) T2 V1.own fun e he => (N.nb e he).elim (fun w => (I1.frs e he).touch T2 fun L hL => (w L hL).2) fun w => w.1 ▸ (let ⟨⟨mm, hns, _⟩, _, _, zl, _⟩ := V2; ⟨F.env.kind, _, mm, w.2, zl, hns⟩)
   have T12 : Touch (J :: ownE E sc) s'.heap h2 := (T1.mono (all_one (.head _))).trans (T2.mono fun a ha => .tail _ ha)
   have xs2 : XStep φ Z (ownE E sc) s φ' { s' with heap := h2, toks := tk2 } := xs.inner (T12.x (tk := tk2) N.o2) N.more own_sub N.inn
   refine wpAny_mono (hxs hR I2 F V2 (body_end (G := ForCAt C T mt rc n sc E A fr φ Z s t b a i J Q X) (kk := k + 1) note N F I.frames xs2 h' (fun _ => rfl) fun φ₃ m₂ s₃ vars₃ x3 q3 V3 xs3 h' => ?_)) (fun f s₄ h₄ => ?_) fun _ _ x => x
   ·have ho2 : h2.get? J = some o1 := T2.keep J o1 N.o ho1
    exact ⟨k, Nat.lt_succ_self k, .mk (j + 1) φ₃ m₂ vars₃ ⟨o1, (x3.zs J (.head _) N.o).firm o1 ho2 (by unfold firmObj; rw [hd1]), hc1, hd1⟩ (I2.framed F V2 x3 q3 V3) V3 xs3 h'⟩
   ·induction f <;> exact h₄
end
structure Simple (p : Arguments) (ps : List Str) : Prop where
 pos : p.posonlyargs = []
 names : p.args.map (·.arg) = ps
 var : p.vararg = none
 kwo : p.kwonlyargs = []
 kw : p.kwarg = none
 nd : ps.Nodup
noncomputable def addDflt (slots : List (Str × Value)) (p : Str × Value) : List (Str × Value) := if (slots.lookup p.1).isNone then slots ++ [(p.1, p.2)] else slots
theorem dflt_loop (f : Str × Value -> List (Str × Value) -> Sem (ForInStep (List (Str × Value)))) (hf : ∀ p slots, f p slots = pure (.yield (addDflt slots p))) :
  ∀ (l slots : List (Str × Value)), forIn l slots f = pure (l.foldl addDflt slots)
 | [], slots => rfl
 | p :: r, slots => by
  rw [List.forIn_cons, hf]
  show forIn r (addDflt slots p) f = _
  rw [dflt_loop f hf r]; rfl
theorem lookup_zip_none {x : Str} : ∀ {ps : List Str} {vs : List Value}, x ∉ ps.take vs.length -> (ps.zip vs).lookup x = none
 | [], _, _ => rfl
 | _ :: _, [], _ => rfl
 | p :: ps, v :: vs, h => by
  simp only [List.length_cons, List.take_succ_cons, List.mem_cons, not_or] at h
  rw [List.zip_cons_cons, List.lookup_cons]
  have : (x == p) = false := by simpa using h.1
  rw [this]; exact lookup_zip_none h.2
theorem lookup_zip_some {x : Str} : ∀ {ps : List Str} {vs : List Value}, x ∈ ps.take vs.length -> ((ps.zip vs).lookup x).isSome = true
 | [], _, h => by simp at h
 | _ :: _, [], h => by simp at h
 | p :: ps, v :: vs, h => by
  rw [List.zip_cons_cons, List.lookup_cons]
  by_cases q : (x == p) = true
  ·rw [q]; rfl
  ·have q' : (x == p) = false := by simpa using q
   rw [q']
   simp only [List.length_cons, List.take_succ_cons, List.mem_cons] at h
   rcases h with h | h
   ·rw [h] at q; simp at q
   ·exact lookup_zip_some h
theorem dflt_fold {vs : List Value} : ∀ (qs : List Str) (ds : List Value) (slots : List (Str × Value)), qs.length = ds.length -> qs.Nodup -> (∀ q ∈ qs, slots.lookup q = none) -> (qs.zip ds).foldl addDflt slots = slots ++ qs.zip ds
 | [], _, slots, _, _, _ => by simp
 | q :: qs, [], slots, h, _, _ => by contradiction
 | q :: qs, d :: ds, slots, h, nd, hn => by
  rw [List.nodup_cons] at nd
  rw [List.zip_cons_cons, List.foldl_cons]
  have e1 : addDflt slots (q, d) = slots ++ [(q, d)] := by unfold addDflt; rw [hn q (.head _)]; rfl
  rw [e1, dflt_fold (vs := vs) qs ds _ (by simpa using h) nd.2 fun x hx => ?_]
  ·simp
  ·rw [List.lookup_append, hn x (.tail _ hx)]
   have : (x == q) = false := by
    cases w : x == q with
    | false => rfl
    | true => exact absurd (eq_of_beq w ▸ hx) nd.1
   simp [List.lookup_cons, this]
theorem dflt_skip : ∀ (l : List (Str × Value)) (slots : List (Str × Value)), (∀ p ∈ l, (slots.lookup p.1).isSome = true) -> l.foldl addDflt slots = slots
 | [], _, _ => rfl
 | p :: r, slots, h => by
  have e : addDflt slots p = slots := by
   unfold addDflt
   have := h p (.head _)
   rw [Option.isSome_iff_ne_none] at this
   cases w : slots.lookup p.1 with
   | none => exact absurd w this
   | some _ => rfl
  rw [List.foldl_cons, e]
  exact dflt_skip r slots fun p hp => h p (.tail _ hp)
theorem filter_zip : ∀ (ps : List Str) (ws : List Value), ps.Nodup -> ps.length = ws.length -> ps.filterMap (fun n => ((ps.zip ws).lookup n).map (n, ·)) = ps.zip ws := by
 have gen : ∀ (qs ps : List Str) (us ws : List Value), (qs ++ ps).Nodup -> qs.length = us.length -> ps.length = ws.length -> ps.filterMap (fun n => (((qs ++ ps).zip (us ++ ws)).lookup n).map (n, ·)) = ps.zip ws := by
  intro qs ps
  induction ps generalizing qs with
  | nil => intro us ws _ _ _; rfl
  | cons p ps ih =>
   intro us ws nd h1 h2
   induction ws using List.casesOn with
   | nil => contradiction
   | cons w ws =>
    have hp : p ∉ qs := by
     rw [List.nodup_append] at nd
     intro q
     exact nd.2.2 p q p (.head _) rfl
    have e1 : ((qs ++ p :: ps).zip (us ++ w :: ws)).lookup p = some w := by
     rw [List.zip_append h1, List.lookup_append]
     have : (qs.zip us).lookup p = none := lookup_zip_none (by rw [<- h1, List.take_length]; exact hp)
     rw [this]; simp [List.lookup_cons]
    rw [List.filterMap_cons, e1]
    show (p, w) :: _ = _
    rw [List.zip_cons_cons]
    have e2 := ih (qs ++ [p]) (us ++ [w]) ws (by simpa using nd) (by simp [h1]) (by simpa using h2)
    simp only [List.append_assoc, List.singleton_append] at e2
    rw [e2]
 intro ps ws nd h
 exact gen [] ps [] ws nd rfl h
theorem zip_drop {α β : Type} : ∀ (n : Nat) (a : List α) (b : List β), (a.zip b).drop n = (a.drop n).zip (b.drop n)
 | 0, _, _ => rfl
 | n + 1, [], _ => by simp
 | n + 1, _ :: _, [] => by simp
 | n + 1, x :: a, y :: b => by rw [List.zip_cons_cons]; exact zip_drop n a b
theorem zip_take {α β : Type} : ∀ (n : Nat) (a : List α) (b : List β), (a.zip b).take n = (a.take n).zip (b.take n)
 | 0, _, _ => by simp
 | n + 1, [], _ => by simp
 | n + 1, _ :: _, [] => by simp
 | n + 1, x :: a, y :: b => by rw [List.zip_cons_cons, List.take_succ_cons, zip_take n a b]; rfl
noncomputable abbrev Bs := List (Str × Value)
noncomputable def skel (ps : List Str) (vs : List Value) (e1 e2 : Sem Bs) (ds : List Value) : Sem Bs :=
 if (decide (vs.length > ps.length) && true) = true then e1 else
 if (!((ps.take (ps.length - (ds.drop (ds.length - ps.length)).length)).filter fun n => ((ps.zip vs).lookup n).isNone).isEmpty) = true then e2 else
 forIn ((ps.drop (ps.length - (ds.drop (ds.length - ps.length)).length)).zip (ds.drop (ds.length - ps.length))) (ps.zip vs)
    (fun p slots => if (slots.lookup p.1).isNone = true then pure (.yield (slots ++ [(p.1, p.2)])) else pure (.yield slots)) >>= fun slots =>
   pure ((ps ++ []).filterMap fun n => (slots.lookup n).map (n, ·))
inductive SkelOf (X : Sem Bs) (Y : Sem (Option (Array Value))) (ps : List Str) (vs : List Value) : Prop
 | mk (e1 e2 : Option (Array Value) -> Sem Bs) : X = (Y >>= fun o => skel ps vs (e1 o) (e2 o) (o.getD #[]).toList) -> SkelOf X Y ps vs
theorem bind_skel (fd : FuncData) (ar kd df) (vs : List Value) : SkelOf (bindArgs { fd with params := ⟨[], ar, none, [], kd, none, df⟩ } ⟨vs, []⟩) (seqItems? fd.defaults) (ar.map (·.arg)) vs := .mk _ _ rfl
theorem Simple.is {p : Arguments} {ps : List Str} (h : Simple p ps) : p = ⟨[], p.args, none, [], p.kw_defaults, none, p.defaults⟩ := by
 have h1 := h.pos; have h2 := h.var; have h3 := h.kwo; have h4 := h.kw
 clear h
 induction p using PySem.Arguments.casesOn with | mk a b c d e f g => _
 show Arguments.mk a b c d e f g = ⟨[], b, none, [], e, none, g⟩
 rw [show a = [] from h1, show c = none from h2, show d = [] from h3, show f = none from h4]
theorem len_nat {a b c : Nat} (h1 : a <= c) (h2 : c <= a + b) : c = a + (b - (a + b - c)) := by
 refine e1_1 (Nat.le.dest h1) fun k ee1 => ?_; subst ee1
 rw [Nat.add_sub_add_left, Nat.sub_sub_self (Nat.le_of_add_le_add_left h2)]
theorem drop_nat {a b c j : Nat} (e : c - b + j = a) (h3 : b <= c) : c - a = b - j := by rw [<- e, Nat.sub_add_eq, Nat.sub_sub_self h3]
theorem binds_simple {s : Shared} {fd : FuncData} {ps : List Str} {vs dvs : List Value} (hS : Simple fd.params ps) (hd : ∀ (M : Model) (A : Around) (E : Value -> Shared -> Prop) (Q : Option (Array Value) -> Shared -> Prop), (∀ o, ((o.getD #[]).toList = dvs) -> Q o s) -> wpAny M A (seqItems? fd.defaults) Q E s)
  (h1 : vs.length <= ps.length) (h2 : ps.length <= vs.length + dvs.length) (h3 : dvs.length <= ps.length) : BindsTo s fd ⟨vs, []⟩ (ps.zip (vs ++ dvs.drop (vs.length + dvs.length - ps.length))) := by
 intro M A E Q hQ
 have sk := bind_skel fd fd.params.args fd.params.kw_defaults fd.params.defaults vs
 rw [hS.names, <- hS.is] at sk
 induction sk with | mk e1 e2 sk => _
 rw [sk]
 refine wpAny_bind (hd _ _ _ _ fun o ho => ?_)
 rw [ho]
 generalize e1 o = e1
 generalize e2 o = e2
 unfold skel
 have c1 : (decide (vs.length > ps.length) && true) = false := by
  rw [decide_eq_false (Nat.not_lt.mpr h1)]; rfl
 refine bm_if_false c1 ?_
 have hdrop : dvs.drop (dvs.length - ps.length) = dvs := by rw [Nat.sub_eq_zero_of_le h3]; rfl
 rw [hdrop]
 have hmiss : ((ps.take (ps.length - dvs.length)).filter fun n => ((ps.zip vs).lookup n).isNone) = [] := by
  rw [List.filter_eq_nil_iff]
  intro x hx
  have hx2 : x ∈ ps.take vs.length := by
   have : ps.take (ps.length - dvs.length) = (ps.take vs.length).take (ps.length - dvs.length) := by rw [List.take_take]; rw [Nat.min_eq_left (Nat.sub_le_of_le_add h2)]
   rw [this] at hx
   exact List.mem_of_mem_take hx
  have := lookup_zip_some (vs := vs) hx2
  cases w : (ps.zip vs).lookup x with
  | none => rw [w] at this; contradiction
  | some _ => simp
 rw [hmiss]
 refine bm_if_false rfl ?_
 rw [dflt_loop _ (fun p slots => by unfold addDflt; split <;> rfl)]
 refine wpAny_bind (wpAny_pure (wpAny_pure ?_))
 have hk : ps.length - dvs.length <= vs.length := Nat.sub_le_of_le_add h2
 have key : ((ps.drop (ps.length - dvs.length)).zip dvs).foldl addDflt (ps.zip vs) = ps.zip (vs ++ dvs.drop (vs.length + dvs.length - ps.length)) := by
  have hn : vs.length + dvs.length - ps.length = vs.length - (ps.length - dvs.length) := (Nat.sub_sub_right _ h3).symm
  rw [hn]
  generalize hj : vs.length - (ps.length - dvs.length) = j
  have e1 : (ps.drop (ps.length - dvs.length)).zip dvs = ((ps.drop (ps.length - dvs.length)).zip dvs).take j ++ ((ps.drop (ps.length - dvs.length)).zip dvs).drop j := (List.take_append_drop _ _).symm
  rw [e1, List.foldl_append]
  rw [dflt_skip (((ps.drop (ps.length - dvs.length)).zip dvs).take j) (ps.zip vs) (fun p hp => ?_)]
  ·rw [zip_drop, List.drop_drop]
   have e2 : (ps.length - dvs.length) + j = vs.length := by rw [<- hj]; exact Nat.add_sub_of_le hk
   rw [e2]
   rw [dflt_fold (vs := vs) (ps.drop vs.length) (dvs.drop j) (ps.zip vs) (by rw [List.length_drop, List.length_drop]; exact drop_nat e2 h3) (List.Nodup.sublist (List.drop_sublist _ _) hS.nd) (fun q hq => lookup_zip_none fun hq2 => ?_)]
   ·have e3 : ps = ps.take vs.length ++ ps.drop vs.length := (List.take_append_drop _ _).symm
    have e4 : (ps.take vs.length).length = vs.length := by rw [List.length_take]; exact Nat.min_eq_left h1
    have e5 : ps.zip (vs ++ dvs.drop j) = (ps.take vs.length).zip vs ++ (ps.drop vs.length).zip (dvs.drop j) := by
     rw [<- List.zip_append e4, <- e3]
    rw [e5]
    congr 1
    have e6 : ps.zip vs = (ps.take vs.length ++ ps.drop vs.length).zip (vs ++ []) := by rw [<- e3, List.append_nil]
    rw [e6, List.zip_append e4]; simp
   ·have nd := hS.nd
    rw [<- List.take_append_drop vs.length ps, List.nodup_append] at nd
    exact nd.2.2 q hq2 q hq rfl
  ·obtain ⟨x, d⟩ := p
   have hx : x ∈ ((ps.drop (ps.length - dvs.length)).take j) := by
    rw [zip_take] at hp
    exact (List.of_mem_zip hp).1
   refine lookup_zip_some ?_
   have : (ps.drop (ps.length - dvs.length)).take j = (ps.take vs.length).drop (ps.length - dvs.length) := by
    rw [List.drop_take, hj]
   rw [this] at hx
   exact List.mem_of_mem_drop hx
 have hz : ps.length = (vs ++ dvs.drop (vs.length + dvs.length - ps.length)).length := by
  rw [List.length_append, List.length_drop]; exact len_nat h1 h2
 rw [key, List.append_nil, filter_zip ps _ hS.nd hz]
 exact hQ
section
variable {K : Frag} {φ φ' : List (List Addr)} {Z : List Addr} {h : Heap}
theorem plain_two {d : D} {ds : List D} (h : plain.plains (d :: ds) = true) : Mine.plain d = true /\ plain.plains ds = true := Bool.and_eq_true_iff.mp h
theorem plain_twoF {p : Str × D} {fs : List (Str × D)} (h : plain.plainFs (p :: fs) = true) : Mine.plain p.2 = true /\ plain.plainFs fs = true := Bool.and_eq_true_iff.mp h
theorem DRep.plain (k : ∀ a, a ∈ φ.flatten -> a ∈ φ'.flatten) {v : Value} {d : D} (p : Mine.plain d = true) (r : DRep K φ' Z h v d) : DRep K φ Z h v d :=
 DRep.rec (motive_1 := fun v d _ => Mine.plain d = true -> DRep K φ Z h v d) (motive_2 := fun vs ds _ => plain.plains ds = true -> DAll K φ Z h vs ds) (motive_3 := fun es fs _ => plain.plainFs fs = true -> FAll K φ Z h es fs)
  (fun _ => .none) (fun b _ => .bool b) (fun i t _ => .int i t) (fun x t _ => .str x t) (fun b t z _ => .bytes b t z) (fun x sz a b _ r p => .tup x sz (fun q => a (k _ q)) b (r p)) (fun x sz a b _ r p => .lst x sz (fun q => a (k _ q)) b (r p))
  (fun hc x y a b c d _ r p => .inst hc x y (fun q => a (k _ q)) b (fun q => c (k _ q)) d (r p)) (fun _ p => Bool.noConfusion p) (fun x a b _ => .rng x (fun q => a (k _ q)) b)
  (fun _ => .nil) (fun _ _ a r p => .cons (a (plain_two p).1) (r (plain_two p).2)) (fun _ => .nil) (fun e _ _ a r p => .cons e (a (plain_twoF p).1) (r (plain_twoF p).2)) r p
theorem DAll.plain (k : ∀ a, a ∈ φ.flatten -> a ∈ φ'.flatten) {vs : List Value} {ds : List D} (p : plain.plains ds = true) (r : DAll K φ' Z h vs ds) : DAll K φ Z h vs ds := by
 induction vs generalizing ds with
 | nil => cases r; exact .nil
 | cons v vs ih => cases r with | cons a r => exact .cons (a.plain k (plain_two p).1) (ih (plain_two p).2 r)
theorem FAll.plain (k : ∀ a, a ∈ φ.flatten -> a ∈ φ'.flatten) {es : List DictEntry} {fs : List (Str × D)} (p : plain.plainFs fs = true) (r : FAll K φ' Z h es fs) : FAll K φ Z h es fs := by
 induction es generalizing fs with
 | nil => cases r; exact .nil
 | cons v vs ih => cases r with | cons e a r => exact .cons e (a.plain k (plain_twoF p).1) (ih (plain_twoF p).2 r)
theorem flatten_take_sub {n : Nat} {a : Addr} (h : a ∈ (φ'.take n).flatten) : a ∈ φ'.flatten := by
 refine e1_2 (List.mem_flatten.mp h) fun l hl ha => ?_
 exact List.mem_flatten.mpr ⟨l, List.mem_of_mem_take hl, ha⟩
theorem MemAt.take {H0 : Heap} {m : Mem} (x : MemAt K H0 φ' Z m h) (n : Nat) : MemAt K H0 (φ'.take n) Z (m.take n) h := by
 refine ⟨by rw [List.length_take, List.length_take, x.len], fun i c e => ?_, ?_, fun a ha => x.apart a (flatten_take_sub ha)⟩
 ·by_cases w : i < n
  ·rw [List.getElem?_take_of_lt w] at e
   refine e1_2 (x.cell i c e) fun l hl r => ?_
   refine ⟨l, by rw [List.getElem?_take_of_lt w]; exact hl, ?_⟩
   induction r with
   | lst e1 z r p => exact .lst e1 z (r.plain (fun a q => flatten_take_sub q) p) p
   | inst hc e1 e2 r p => exact .inst hc e1 e2 (r.plain (fun a q => flatten_take_sub q) p) p
   | dead => exact .dead
  ·rw [List.getElem?_take_eq_none (by lia)] at e; exact none_some e
 ·have := x.nd
  rw [<- List.take_append_drop n φ', List.flatten_append, List.nodup_append] at this
  exact this.1
theorem freezes_cons {m : Mem} {n : Nat} {d : D} {r ds' : List D} (e : freeze.freezes m n (d :: r) = some ds') : ∃ d1 ds1, freeze m n d = some d1 /\ freeze.freezes m n r = some ds1 /\ ds' = d1 :: ds1 := by
 replace e : (match freeze m n d, freeze.freezes m n r with | some d, some ds => some (d :: ds) | _, _ => none) = some ds' := e
 generalize freeze m n d = o1 at e ⊢
 generalize freeze.freezes m n r = o2 at e ⊢
 induction o1 with
 | none => exact none_some e
 | some x =>
  induction o2 with
  | none => exact none_some e
  | some xs => exact ⟨x, xs, rfl, rfl, (Option.some.inj e).symm⟩
theorem freeze_cell {m : Mem} {n i : Nat} {d' : D} (e : freeze m n (.cell i) = some d') : (i < n /\ d' = .cell i) \/ (n <= i /\ ∃ ds, m[i]? = some (.lst ds) /\ d' = .lst ds) := by
 replace e : (if i < n then some (D.cell i) else (match m[i]? with | some (.lst ds) => some (.lst ds) | _ => none)) = some d' := e
 by_cases w : i < n
 ·rw [if_pos w] at e; exact .inl ⟨w, (Option.some.inj e).symm⟩
 ·rw [if_neg w] at e
  refine .inr ⟨Nat.not_lt.mp w, ?_⟩
  generalize m[i]? = o at e ⊢
  induction o with
  | none => exact none_some e
  | some c =>
   induction c using Cell.casesOn with
   | lst l => exact ⟨l, rfl, (Option.some.inj e).symm⟩
   | _ => exact none_some e
theorem freeze_rep {H0 : Heap} {m : Mem} (x : MemAt K H0 φ' Z m h) (n : Nat) {v : Value} {d d' : D} (r : DRep K φ' Z h v d) (e : freeze m n d = some d') : DRep K (φ'.take n) Z h v d' :=
 DRep.rec (motive_1 := fun v d _ => ∀ d', freeze m n d = some d' -> DRep K (φ'.take n) Z h v d') (motive_2 := fun vs ds _ => ∀ ds', freeze.freezes m n ds = some ds' -> DAll K (φ'.take n) Z h vs ds' /\ ds'.length = ds.length) (motive_3 := fun _ _ _ => True)
  (fun _ e => Option.some.inj e ▸ .none) (fun b _ e => Option.some.inj e ▸ .bool b) (fun i t _ e => Option.some.inj e ▸ .int i t) (fun y t _ e => Option.some.inj e ▸ .str y t) (fun b t z _ e => Option.some.inj e ▸ .bytes b t z)
  (@fun _ _ _ ds o sz a b _ ih d' e => e1_2 (Option.map_eq_some_iff.mp (show (freeze.freezes m n ds).map D.tup = some d' from e)) fun ds' e1 e2 => by
   have q := ih ds' e1
   rw [<- e2]
   exact .tup o (q.2 ▸ sz) (fun w => a (flatten_take_sub w)) b q.1)
  (@fun _ _ _ ds o sz a b _ ih d' e => e1_2 (Option.map_eq_some_iff.mp (show (freeze.freezes m n ds).map D.lst = some d' from e)) fun ds' e1 e2 => by
   have q := ih ds' e1
   rw [<- e2]
   exact .lst o (q.2 ▸ sz) (fun w => a (flatten_take_sub w)) b q.1)
  (@fun _ _ _ _ _ c fs hc o1 o2 a b c1 d1 r _ d' e => by
   have q := some_if (show (if plain (.inst c fs) = true then some (D.inst c fs) else none) = some d' from e)
   rw [<- q.2]
   exact DRep.plain (fun a q => flatten_take_sub q) q.1 (.inst hc o1 o2 a b c1 d1 r))
  (@fun i a r hi d' e => by
   rcases freeze_cell e with ⟨w, q⟩ | ⟨w, ds, hm, q⟩
   ·rw [q]; exact .cell (r := r) (by rw [List.getElem?_take_of_lt w]; exact hi)
   ·rw [q]
    refine e1_2 (x.cell i _ hm) fun l hl y => ?_
    refine e3_5 (y.lst_inv rfl) fun a' vs k w1 e1 z r' p => ?_
    rw [w1] at hl
    have ea : a = a' := (List.cons.inj (Option.some.inj (hi.symm.trans hl))).1
    rw [ea]
    have am : a' ∈ φ'.flatten := List.mem_flatten.mpr ⟨_, List.mem_of_getElem? hl, .head _⟩
    refine .lst e1 z (fun q => ?_) (x.apart a' am).1 (r'.plain (fun a q => flatten_take_sub q) p)
    refine e1_2 (List.mem_flatten.mp q) fun l' hl' ha => ?_
    refine e1_1 (List.mem_iff_getElem?.mp hl') fun j hj => ?_
    have hjn : j < n := Nat.lt_of_lt_of_le (List.getElem?_eq_some_iff.mp hj).1 (List.length_take_le n φ')
    rw [List.getElem?_take_of_lt hjn] at hj
    have := nodup_at x.nd hl hj (.head _) ha
    exact absurd (this ▸ w) (Nat.not_le.mpr hjn))
  (fun g a b _ e => Option.some.inj e ▸ .rng g (fun q => a (flatten_take_sub q)) b)
  (fun _ e => Option.some.inj e ▸ ⟨.nil, rfl⟩)
  (fun _ _ ia ir ds' e => e2_3 (freezes_cons e) fun d1 ds1 h1 h2 h3 => by
   have q := ir ds1 h2
   rw [h3]
   exact ⟨.cons (ia d1 h1) q.1, congrArg Nat.succ q.2⟩)
  trivial (fun _ _ _ _ _ => trivial) r d' e
theorem take_prefix {m : Mem} {H0 : Heap} (p : φ <+: φ') (x : MemAt K H0 φ Z m h) : φ'.take m.length = φ := by
 obtain ⟨r, rfl⟩ := p
 rw [<- x.len, List.take_left]
end
noncomputable def Room (k : Nat) (A : Around) : Prop := A.depth + 2 * k + 4 < recursionLimit /\ A.units + 8 * k + 100 < cLine
structure ScOk (sc : Scope) (ps : List Str) : Prop where
 kind : sc.kind = .function
 co : sc.isCoroutine = false
 gen : sc.isGenerator = false
 nd : (sc.names.map (·.1)).Nodup
 noFree : ∀ p ∈ sc.names, p.2 ≠ .free
 dbg : ∀ p ∈ sc.names, (p.1 == ("__debug__" : Str)) = false /\ (p.1 == ("__classdict__" : Str)) = false
 ps : ∀ x ∈ ps, kindOf sc x = some .local \/ kindOf sc x = some .cell
structure FnFact (C : Cst) (f : Fn) (a : Addr) : Prop where
 sc : ScOk f.scope f.params
 at_ : ∃ oc od fd osl, C.K.lookup a = some ⟨oc, od, .func fd, osl⟩ /\ codeIn C.K fd.code fd.qualname = true /\ fd.body = .stmts f.body /\ fd.scope = f.scope /\ fd.closure = [] /\ fd.globals = mainGlobals /\ fd.builtins = builtinsNs /\ Simple fd.params f.params /\ f.defaults.length <= f.params.length /\
  ∃ dvs, (∀ {A : Around} {fr : List Env} {φ : List (List Addr)} {Z : List Addr} {m : Mem} {s : Shared}, Inv C A fr φ Z m s -> DAll C.K φ Z s.heap dvs f.defaults) /\
   (∀ {s : Shared}, C.K.In s.heap -> ∀ (M : Model) (A : Around) (E : Value -> Shared -> Prop) (Q : Option (Array Value) -> Shared -> Prop), (∀ o, ((o.getD #[]).toList = dvs) -> Q o s) -> wpAny M A (seqItems? fd.defaults) Q E s)
inductive FlewN (C : Cst) (fr : List Env) (φ : List (List Addr)) (Z own : List Addr) (m' : Mem) (s : Shared) (e : Value) (s' : Shared) : Prop
 | mk (ea : Addr) (φ' : List (List Addr)) (B : Heap) (cf : Addr) (a0 : Value) : e = .ref ea -> Fly φ Z own s φ' B s' -> MemAt C.K C.H0 φ' Z m' B -> Thrown C fr B ea cf s'.heap -> s'.heap.TracedAtW B ea (.ref cf) a0 .none -> Zb Z own fr B s'.heap -> FlewN C fr φ Z own m' s e s'
theorem FlewN.out {C : Cst} {fr : List Env} {φ φ₁ : List (List Addr)} {Z Z' own' : List Addr} {m m' : Mem} {s s₁ s' : Shared} {e : Value} (x : XStep φ Z [] s φ₁ s₁) (y : FlewN C fr φ₁ Z' own' m' s₁ e s') (h1 : ∀ a ∈ Z', a ∈ Z \/ s.heap.get? a = none) (h2 : ∀ a ∈ Z, a ∈ Z') (h3 : ∀ a ∈ own', a ∉ Z) (hm : MemAt C.K C.H0 φ Z m s.heap) : Flew C fr φ Z (m'.take m.length) s e s' := by
 obtain ⟨ea, φ₂, B, cf, a0, e1, f, q, t, tr, z⟩ := y
 have f' := x.fly f h1 h2 fun a h hz => absurd hz (h3 a h)
 have q2 := (q.fewer h2).take m.length
 rw [take_prefix f'.pre hm] at q2
 exact ⟨ea, φ, B, cf, e1, ⟨f'.same, List.prefix_refl _, fun a ha hn => absurd ha hn, f'.keep, f'.zs⟩, q2, t, .inl ⟨a0, .none, .inl rfl, tr⟩, fun a hz _ => z a (h2 a hz) fun q => h3 a q hz⟩
noncomputable def LeaveOk (C : Cst) : Prop := ∀ {A : Around} {E : Env} {sc : Scope} {fr : List Env} {φ : List (List Addr)} {Z : List Addr} {m' : Mem} {s s' : Shared} {e : Value} {X : Value -> Shared -> Prop}, A.frames = some (E :: fr) -> FrameOk E sc fr -> FlewX C (E :: fr) φ Z (ownE E sc) m' s e s' ->
 (∀ e s', FlewN C fr φ Z (ownE E sc) m' s e s' -> X e s') -> wpAny (model C.prog C.w) A (leaving E e) (fun _ s'' => X e s'') X s'
theorem cellsFrom_mem : ∀ (l : List (Str × NameKind)) (n : Nat) (acc : List (Str × Addr)) (x : Str) (c : Addr), (x, c) ∈ cellsFrom n l acc -> (x, c) ∈ acc \/ ((x, NameKind.cell) ∈ l)
 | [], n, acc, x, c, h => .inl h
 | (y, k) :: r, n, acc, x, c, h => by
  unfold cellsFrom at h
  by_cases q : (k == NameKind.cell) = true
  ·rw [if_pos q] at h
   have hk : k = .cell := by simpa using q
   rcases cellsFrom_mem r _ _ x c h with h | h
   ·cases h with
    | head => exact .inr (hk ▸ .head _)
    | tail _ h => exact .inl h
   ·exact .inr (.tail _ h)
  ·rw [if_neg q] at h
   rcases cellsFrom_mem r _ _ x c h with h | h
   ·exact .inl h
   ·exact .inr (.tail _ h)
theorem cellsFrom_has : ∀ (l : List (Str × NameKind)) (n : Nat) (acc : List (Str × Addr)) (x : Str), ((x, NameKind.cell) ∈ l \/ ∃ c, (x, c) ∈ acc) -> ∃ c, (x, c) ∈ cellsFrom n l acc
 | [], n, acc, x, h => by rcases h with h | h; exact absurd h List.not_mem_nil; exact h
 | (y, k) :: r, n, acc, x, h => by
  unfold cellsFrom
  by_cases q : (k == NameKind.cell) = true
  ·rw [if_pos q]
   refine cellsFrom_has r _ _ x ?_
   rcases h with h | ⟨c, h⟩
   ·cases h with
    | head => exact .inr ⟨n, .head _⟩
    | tail _ h => exact .inl h
   ·exact .inr ⟨c, .tail _ h⟩
  ·rw [if_neg q]
   refine cellsFrom_has r _ _ x ?_
   rcases h with h | h
   ·cases h with
    | head => contradiction
    | tail _ h => exact .inl h
   ·exact .inr h
theorem lookup_nd {β : Type} {x : Str} {k : β} : ∀ {l : List (Str × β)}, (l.map (·.1)).Nodup -> (x, k) ∈ l -> l.lookup x = some k
 | (y, e) :: r, nd, h => by
  rw [List.map_cons, List.nodup_cons] at nd
  rw [List.lookup_cons]
  cases h with
  | head => simp
  | tail _ h =>
   have : (x == y) = false := by
    cases w : x == y with
    | false => rfl
    | true => exact absurd (List.mem_map.mpr ⟨(x, k), h, (eq_of_beq w)⟩) nd.1
   rw [this]; exact lookup_nd nd.2 h
theorem cellsFrom_nd : ∀ (l : List (Str × NameKind)) (n : Nat) (acc : List (Str × Addr)), (l.map (·.1)).Nodup -> (acc.map (·.1)).Nodup -> (∀ x ∈ l.map (·.1), x ∉ acc.map (·.1)) -> ((cellsFrom n l acc).map (·.1)).Nodup
 | [], n, acc, _, h, _ => h
 | (y, k) :: r, n, acc, nd, h, dj => by
  rw [List.map_cons, List.nodup_cons] at nd
  unfold cellsFrom
  by_cases q : (k == NameKind.cell) = true
  ·rw [if_pos q]
   refine cellsFrom_nd r _ _ nd.2 ?_ fun x hx hx2 => ?_
   ·rw [List.map_cons, List.nodup_cons]; exact ⟨dj y (by simp), h⟩
   ·rw [List.map_cons, List.mem_cons] at hx2
    rcases hx2 with rfl | hx2
    ·exact nd.1 hx
    ·exact dj x (by rw [List.map_cons]; exact .tail _ hx) hx2
  ·rw [if_neg q]
   exact cellsFrom_nd r _ _ nd.2 h fun x hx => dj x (by rw [List.map_cons]; exact .tail _ hx)
theorem bindL_other {kd : Str -> Option NameKind} {x : Str} : ∀ (l : List (Str × Value)) (m : Str -> Option Value), x ∉ l.map (·.1) -> bindL kd l m x = m x
 | [], m, _ => rfl
 | (y, v) :: r, m, h => by
  simp only [List.map_cons, List.mem_cons, not_or] at h
  unfold bindL
  rw [bindL_other r _ h.2]
  split
  ·simp [h.1]
  ·rfl
theorem bindL_at {kd : Str -> Option NameKind} {x : Str} {v : Value} (hk : kd x = some .local) : ∀ (l : List (Str × Value)) (m : Str -> Option Value), (l.map (·.1)).Nodup -> (x, v) ∈ l -> bindL kd l m x = some v
 | (y, u) :: r, m, nd, h => by
  rw [List.map_cons, List.nodup_cons] at nd
  unfold bindL
  cases h with
  | head => rw [bindL_other r _ nd.1, if_pos hk]; simp
  | tail _ h => exact bindL_at hk r _ nd.2 h
theorem bindC_other {kd : Str -> Option NameKind} {x : Str} : ∀ (l : List (Str × Value)) (m : Str -> Option Value), x ∉ l.map (·.1) -> bindC kd l m x = m x
 | [], m, _ => rfl
 | (y, v) :: r, m, h => by
  simp only [List.map_cons, List.mem_cons, not_or] at h
  unfold bindC
  rw [bindC_other r _ h.2]
  split
  ·rfl
  ·simp [h.1]
theorem bindC_at {kd : Str -> Option NameKind} {x : Str} {v : Value} (hk : kd x = some .cell) : ∀ (l : List (Str × Value)) (m : Str -> Option Value), (l.map (·.1)).Nodup -> (x, v) ∈ l -> bindC kd l m x = some v
 | (y, u) :: r, m, nd, h => by
  rw [List.map_cons, List.nodup_cons] at nd
  unfold bindC
  cases h with
  | head => rw [bindC_other r _ nd.1, if_neg (by rw [hk]; decide)]; simp
  | tail _ h => exact bindC_at hk r _ nd.2 h
theorem zip_rep {K : Frag} {φ : List (List Addr)} {Z : List Addr} {h : Heap} {x : Str} {d : D} : ∀ {ps : List Str} {ws : List Value} {ds : List D}, DAll K φ Z h ws ds -> (ps.zip ds).lookup x = some d -> ∃ v, (x, v) ∈ ps.zip ws /\ DRep K φ Z h v d
 | [], _, _, _, e => by exact none_some e
 | _ :: _, _, _, .nil, e => by exact none_some e
 | p :: ps, _, _, .cons (v := v) (d := d0) a r, e => by
  rw [List.zip_cons_cons, List.lookup_cons] at e
  by_cases q : (x == p) = true
  ·rw [q] at e; obtain rfl := Option.some.inj e
   obtain rfl := eq_of_beq q
   exact ⟨v, .head _, a⟩
  ·have q' : (x == p) = false := by simpa using q
   rw [q'] at e
   refine e1_2 (zip_rep r e) fun v' h1 h2 => ?_
   exact ⟨v', .tail _ h1, h2⟩
section
variable {C : Cst} {T : Tabs} {A : Around} {fr : List Env} {φ : List (List Addr)} {Z : List Addr} {m : Mem} {s : Shared}
noncomputable def frameE (f : Fn) (L a : Addr) (qual : Str) (cd : Value) : Env := newEnv f.scope L mainGlobals (cellsFrom (L + 1) f.scope.names []) qual (some a) cd none builtinsNs
theorem frame_ok {f : Fn} {L a : Addr} {qual : Str} {cd : Value} (hs : ScOk f.scope f.params) (ap : (cellsFrom (L + 1) f.scope.names []).Pairwise fun x y => x.2 ≠ y.2) (hfr : ∀ e ∈ fr, ∀ L', e.frame = some L' -> L' < L) (ab : ∀ n c, (n, c) ∈ cellsFrom (L + 1) f.scope.names [] -> L < c) : FrameOk (frameE f L a qual cd) f.scope fr := by
 have has : ∀ x, kindOf f.scope x = some .cell -> ∃ c, (cellsFrom (L + 1) f.scope.names []).lookup x = some c := fun x hx => by
  refine e1_1 (cellsFrom_has f.scope.names (L + 1) [] x (.inl (mem_of_lookup hx))) fun c hc => ?_
  exact lookup_of_mem hc
 have look : ∀ p ∈ cellsFrom (L + 1) f.scope.names [], (cellsFrom (L + 1) f.scope.names []).lookup p.1 = some p.2 := fun p hp => lookup_nd (cellsFrom_nd _ _ _ hs.nd (by simp) fun x _ hx => by simp at hx) hp
 refine ⟨⟨hs.kind, fun x => .inl rfl, rfl, rfl, fun x hx => ?_, fun x y c h1 h2 => ?_, hs.dbg⟩, rfl, look, fun e he L' hL' q => ?_⟩
 ·rcases hx with hx | hx
  ·exact has x hx
  ·exact absurd rfl (hs.noFree _ (mem_of_lookup hx))
 ·exact name_of_addr ap (mem_of_lookup h1) (mem_of_lookup h2)
 ·have := hfr e he L' hL'
  rcases List.mem_cons.mp q with q | q
  ·exact absurd this (by rw [q]; exact Nat.lt_irrefl _)
  ·refine e1_2 (List.mem_map.mp q) fun p hp ee1 => ?_; subst ee1
   have := ab p.1 p.2 (List.mem_filter.mp hp).1
   exact absurd (Nat.lt_trans ‹_› this) (Nat.lt_irrefl _)
theorem SXs_room {k : Nat} {E : Env} (h : Room (k + 1) A) : Room k (A.deeper E) := by
 refine e0_2 h fun h1 h2 => ?_
 have e1 : (A.deeper E).depth = A.depth + 1 := rfl
 have e2 : (A.deeper E).units = A.units + 3 := rfl
 exact ⟨by rw [e1]; lia, by rw [e2]; lia⟩
theorem fill_is {ps : List Str} {as ds : List D} {env : Vars} (h : fillArgs ps as ds = some env) : as.length <= ps.length /\ ps.length <= as.length + ds.length /\ env = ps.zip (as ++ ds.drop (as.length + ds.length - ps.length)) := by
 have h : (if as.length <= ps.length /\ ps.length <= as.length + ds.length then some (ps.zip (as ++ ds.drop (as.length + ds.length - ps.length))) else none) = some env := h
 by_cases w : as.length <= ps.length /\ ps.length <= as.length + ds.length
 ·rw [if_pos w] at h
  exact ⟨w.1, w.2, (Option.some.inj h).symm⟩
 ·rw [if_neg w] at h; exact none_some h
theorem call_fn {f : Fn} {a : Addr} {k : Nat} {rc : Bool} {args : List D} {vs : List Value} {Q X : Value -> Shared -> Prop} (FF : FnFact C f a) (lv : LeaveOk C) (hxs : SXs C T (Room k) (appendsTo.app f.body) rc 60) (hdep : A.depth < recursionLimit) (hR : ∀ E, Room k (A.deeper E)) (I : Inv C A fr φ Z m s) (zn : C.H0.objs.size <= s.heap.objs.size) (ra : DAll C.K φ Z s.heap vs args)
  (h : Post C (RV C Z) fr φ Z s (body T f rc args m) Q X) : codeAny (model C.prog C.w) A (.call (.ref a) ⟨vs, []⟩) (fun r s' => match r with | .ok (.ret v) => Q v s' | .ok _ => False | .error e => X e s') s := by
 obtain ⟨hs, oc, od, fd, osl, hlook, hcd, hbody, hsc, hclo, hgl, hbl, hS, hdl, dvs, hdv, hseq⟩ := FF
 unfold body at h
 cases hfill : fillArgs f.params args f.defaults with
 | none => rw [hfill] at h; exact h.elim
 | some env =>
  rw [hfill] at h
  dsimp only at h
  refine e0_3 (fill_is hfill) fun g1 g2 ee1 => ?_; subst ee1
  have rd := hdv I
  have hlen : vs.length = args.length := ra.length
  have hdlen : dvs.length = f.defaults.length := rd.length
  have hbind := binds_simple (s := s) (fd := fd) (vs := vs) (dvs := dvs) hS (hseq I.K) (by lia) (by lia) (by lia)
  have rall : DAll C.K φ Z s.heap (vs ++ dvs.drop (vs.length + dvs.length - f.params.length)) (args ++ f.defaults.drop (args.length + f.defaults.length - f.params.length)) := by
   rw [hlen, hdlen]
   exact ra.append (rd.drop _)
  generalize hws : vs ++ dvs.drop (vs.length + dvs.length - f.params.length) = ws at hbind rall
  generalize hes : args ++ f.defaults.drop (args.length + f.defaults.length - f.params.length) = es at h rall
  have hwl : f.params.length = ws.length := by
   rw [<- hws, List.length_append, List.length_drop]; lia
  have hkeys : (f.params.zip ws).map (·.1) = f.params := List.map_fst_zip (by lia)
  refine (codeAny_call_function (fd := fd) (body := f.body) hdep (I.K _ _ hlook) rfl (by rw [hsc]; exact hs.co) (by rw [hsc]; exact hs.gen) hbody (codeRec_of I.K hcd) (hbind _ _ _ _ ?_))
  rw [hclo, hgl, hbl, hsc]
  refine wpAny_newFunctionEnv_cells hs.kind (fun x hx => ?_) fun E hE s₁ ic => ?_
  ·have hx1 : x.1 ∈ f.params := by rw [<- hkeys]; exact List.mem_map.mpr ⟨x, hx, rfl⟩
   rcases hs.ps x.1 hx1 with q | q
   ·exact .inl q
   ·refine .inr ⟨q, ?_⟩
    refine e1_1 (cellsFrom_has f.scope.names (s.heap.objs.size + 1) [] x.1 (.inl (mem_of_lookup q))) fun c hc => ?_
    refine e1_1 (lookup_of_mem hc) fun c' hc' => ?_
    rw [hc']; rfl
  ·obtain ⟨⟨hsame, hns, hkeep, hfresh⟩, hcell, hap, hab⟩ := ic
   have hE' : E = frameE f s.heap.objs.size a (fd.qualname ++ ".<locals>.") fd.code := hE
   have hEl : E.locals = s.heap.objs.size := by rw [hE]; rfl
   have hEc : E.cells = cellsFrom (s.heap.objs.size + 1) f.scope.names [] := by rw [hE]; rfl
   have hlt : ∀ e ∈ fr, ∀ L', e.frame = some L' -> L' < s.heap.objs.size := fun e he L' hL' => by
    obtain ⟨_, L, mm, hf, hz, o, es, ep, ho, _⟩ := I.frs e he
    rw [hf] at hL'; obtain rfl := Option.some.inj hL'
    exact Heap.lt_size ho
   have F : FrameOk E f.scope fr := by
    rw [hE']
    exact frame_ok hs (hEc ▸ hap) hlt fun n c hc => by
     have := hab n c (by rw [hEc]; exact hc)
     rwa [hEl] at this
   have hown : ∀ b ∈ ownE E f.scope, s.heap.get? b = none := fun b hb => by
    rcases List.mem_cons.mp hb with q | q
    ·rw [q, hEl]; exact none_of_size (Nat.le_refl _)
    ·refine e1_2 (List.mem_map.mp q) fun p hp ee1 => ?_; subst ee1
     have := hab p.1 p.2 (List.mem_filter.mp hp).1
     rw [hEl] at this
     exact none_of_size (Nat.le_of_lt this)
   have more : ∀ b ∈ ownE E f.scope ++ Z, b ∈ Z \/ s.heap.get? b = none := fun b hb => by
    rcases List.mem_append.mp hb with q | q
    ·exact .inr (hown b q)
    ·exact .inl q
   have subZ : ∀ b ∈ Z, b ∈ ownE E f.scope ++ Z := fun b hb => List.mem_append_right _ hb
   have kinds : ∀ x, E.kindOf x = kindOf f.scope x := fun x => by rw [hE']; rfl
   have cellAt : ∀ x, kindOf f.scope x = some .cell -> ∃ c, E.cells.lookup x = some c := fun x hx => F.env.cells x (.inl hx)
   refine e2_1 hsame fun h₁ tk₁ ee1 => ?_; subst ee1
   dsimp only at hns hkeep hcell
   have V : VarsAt C.K φ (ownE E f.scope ++ Z) h₁ E f.scope (f.params.zip es) := by
    refine ⟨⟨_, hns, fun x d e q => ?_⟩, fun x d e q => ?_, fun x q => ?_, List.mem_append_left _ (.head _), fun p hp => ?_⟩
    ·refine e1_2 (zip_rep rall e) fun v hv rv => ?_
     exact ⟨v, bindL_at (by rw [kinds]; exact q) _ _ (by rw [hkeys]; exact hS.nd) hv, rv.more hkeep more⟩
    ·have q : kindOf f.scope x = some .cell := by
      rcases q with q | q
      ·exact q
      ·exact absurd rfl (hs.noFree _ (mem_of_lookup q))
     refine e1_2 (zip_rep rall e) fun v hv rv => ?_
     refine e1_1 (cellAt x q) fun c hc => ?_
     refine ⟨c, v, hc, ?_, rv.more hkeep more⟩
     have := hcell x c hc
     rwa [bindC_at (by rw [kinds]; exact q) _ _ (by rw [hkeys]; exact hS.nd) hv] at this
    ·refine e1_1 (cellAt x q) fun c hc => ?_
     exact ⟨c, _, hc, hcell x c hc⟩
    ·refine List.mem_append_left _ ?_
     rw [hEc] at hp
     have hk : (p.1, NameKind.cell) ∈ f.scope.names := by
      rcases cellsFrom_mem _ _ _ p.1 p.2 hp with w | w
      ·exact absurd w List.not_mem_nil
      ·exact w
     exact .tail _ (List.mem_map.mpr ⟨p, List.mem_filter.mpr ⟨by rw [hEc]; exact hp, by simp [kindOf, lookup_nd hs.nd hk]⟩, rfl⟩)
   have big : C.H0.objs.size <= s.heap.objs.size := zn
   have live1 : ∀ b ∈ ownE E f.scope ++ Z, C.H0.objs.size <= b /\ ∃ o, h₁.get? b = some o := fun b hb => by
    rcases List.mem_append.mp hb with q | q
    ·refine ⟨?_, ?_⟩
     ·rcases List.mem_cons.mp q with w | w
      ·rw [w, hEl]; exact big
      ·refine e1_2 (List.mem_map.mp w) fun p hp ee1 => ?_; subst ee1
       have := hab p.1 p.2 (List.mem_filter.mp hp).1
       rw [hEl] at this
       exact Nat.le_trans big (Nat.le_of_lt this)
     ·rcases List.mem_cons.mp q with w | w
      ·refine e3_2 hns fun o _ _ ho _ => ?_; rw [w]; exact ⟨o, ho⟩
      ·refine e1_2 (List.mem_map.mp w) fun p hp ee1 => ?_; subst ee1
       refine e1_2 (hcell p.1 p.2 (F.look p (List.mem_filter.mp hp).1)) fun o ho _ => ?_
       exact ⟨o, ho⟩
    ·exact ⟨(I.z0 b q).1, let ⟨o, w⟩ := (I.z0 b q).2; ⟨o, hkeep b o w⟩⟩
   have I₁ : Inv C A fr φ (ownE E f.scope ++ Z) m { s with heap := h₁, toks := tk₁ } := I.more hkeep more subZ live1
   have I₂ : Inv C (A.deeper E) (E :: fr) φ (ownE E f.scope ++ Z) m { s with heap := h₁, toks := tk₁ } := by
    refine ⟨I₁.h0, I₁.z0, I₁.mem, fun e he => ?_, ?_, I₁.hand⟩
    ·rcases List.mem_cons.mp he with rfl | he
     ·exact ⟨F.env.kind, _, _, F.own, List.mem_append_left _ (.head _), hns⟩
     ·exact I₁.frs e he
    ·show A.frames.map (E :: ·) = _
     rw [I.frames]; rfl
   have X1 : XStep φ Z [] s φ { s with heap := h₁, toks := tk₁ } := (Step.grow φ Z hkeep).x
   refine ⟨I₁.lim, codeAny_func ?_⟩
   refine hxs (hR E) I₂ F V ?_
   cases hex : execs T (appendsTo.app f.body) rc 60 f.scope f.body (f.params.zip es) m with
   | stuck => rw [hex] at h; exact h.elim
   | exc m' =>
    rw [hex] at h
    intro e s' hf
    refine lv (X := fun e s'' => X e s'') I₂.frames F hf fun e' s'' hf' => ?_
    exact h e' s'' (hf'.out X1 more subZ (fun b hb hz => by obtain ⟨o, ho⟩ := (I.z0 b hz).2; exact live_ne ho (hown b hb)) I.mem)
   | ok fl m' =>
    rw [hex] at h
    dsimp only at h
    intro fw φ' s' x q r
    have X2 : XStep φ Z [] s φ' s' := X1.inner x more subZ fun b hb hz => by
     exfalso
     refine e1_1 ((I.z0 b hz).2) fun o ho => ?_; exact live_ne ho (hown b hb)
    have S2 : Step φ Z s φ' s' := X2.toStep fun b hb => by contradiction
    have q' : MemAt C.K C.H0 φ' Z m' s'.heap := q.fewer subZ
    have fin : ∀ v, DRep C.K φ' Z s'.heap v (retOf fl) -> Q v s' := fun v rv => by
     induction rc with
     | true => exact h v φ' s' S2 q' rv
     | false =>
      simp only [Bool.false_eq_true, if_false] at h
      cases hfz : freeze m' m.length (retOf fl) with
      | none => rw [hfz] at h; exact h.elim
      | some d =>
       rw [hfz] at h
       have ht : φ'.take m.length = φ := take_prefix S2.pre I.mem
       have r3 := freeze_rep q' m.length rv hfz
       have q3 := q'.take m.length
       rw [ht] at r3 q3
       exact h v φ s' S2.less q3 r3
    induction fw <;> cases fl <;> try exact (show False from r).elim
    ·exact fin _ .none
    ·exact fin _ (DRep.fewer (show DRep C.K φ' (ownE E f.scope ++ Z) s'.heap _ _ from r) subZ)
end
structure ClsFact (C : Cst) (q : Str) (Cc fI : Addr) : Prop where
 cls : clsA C.K q = some Cc
 makes : makesIn C.K Cc = true
 init : findIn C.K (.ref Cc) "__init__" = some (some (.ref fI))
 fn : typeIn C.K (.ref fI) = some (.type "function")
section
variable {C : Cst} {T : Tabs} {A : Around} {fr : List Env} {φ : List (List Addr)} {Z : List Addr} {m : Mem} {s : Shared}
theorem under_frames {rest : List Value} {Cc : Addr} : (A.under (.builtin "type.__call__" ⟨.ref Cc :: rest, []⟩)).frames = A.frames := by
 cases h : A.frames <;> simp [Around.under, h] <;> rfl
theorem call_cls {q : Str} {f : Fn} {Cc fI : Addr} {k : Nat} {args : List D} {vs : List Value} {Q X : Value -> Shared -> Prop} (CF : ClsFact C q Cc fI) (FF : FnFact C f fI) (lv : LeaveOk C) (hxs : SXs C T (Room k) (appendsTo.app f.body) false 60) (hR : Room (k + 1) A) (I : Inv C A fr φ Z m s) (zn : C.H0.objs.size <= s.heap.objs.size) (ra : DAll C.K φ Z s.heap vs args)
  (h : Post C (RV C Z) fr φ Z s (match body T f false (.cell m.length :: args) (m ++ [.inst q []]) with
    | .ok .none m' => if mutCls.contains q then .ok (.cell m.length) m' else (match m'[m.length]? with
     | some (.inst c fs) => .ok (.inst c fs) (m'.take m.length)
     | _ => .stuck)
    | _ => .stuck) Q X) : wpAny (model C.prog C.w) A (call (.ref Cc) vs) Q X s := by
 refine wpAny_call ?_
 obtain ⟨hh, g, d, t, os⟩ := s
 dsimp only at ra zn
 have hdx : hh.get? hh.objs.size = none := none_of_size (Nat.le_refl _)
 have hxn : hh.get? (hh.objs.size + 1) = none := none_of_size (Nat.le_succ _)
 have hk : ∀ b o, hh.get? b = some o -> ((hh.push emptyDict).push (instObj Cc hh.objs.size)).get? b = some o := fun b o e => Heap.get?_push_of_some _ (Heap.get?_push_of_some _ e)
 have hsz : (hh.push emptyDict).objs.size = hh.objs.size + 1 := Heap.size_push _ _
 have hx : ((hh.push emptyDict).push (instObj Cc hh.objs.size)).get? (hh.objs.size + 1) = some (instObj Cc hh.objs.size) := by rw [<- hsz]; exact Heap.get?_push_size _ rfl
 have hd : ((hh.push emptyDict).push (instObj Cc hh.objs.size)).get? hh.objs.size = some (dictOf [] 0) := Heap.get?_push_of_some _ (Heap.get?_push_size _ rfl)
 have zl : ∀ a ∈ [hh.objs.size + 1, hh.objs.size], hh.get? a = none /\ a ∉ Z /\ C.H0.get? a = none /\ ∃ o, ((hh.push emptyDict).push (instObj Cc hh.objs.size)).get? a = some o := fun a ha => by
  simp only [List.mem_cons, List.not_mem_nil, or_false] at ha
  rcases ha with rfl | rfl
  ·exact ⟨hxn, fun q => by obtain ⟨o, ho⟩ := (I.z0 _ q).2; exact live_ne ho hxn, none_of_size (Nat.le_trans zn (Nat.le_succ _)), _, hx⟩
  ·exact ⟨hdx, fun q => by obtain ⟨o, ho⟩ := (I.z0 _ q).2; exact live_ne ho hdx, none_of_size zn, _, hd⟩
 have hl : φ.length = m.length := I.mem.len
 have S1 : Step φ Z ⟨hh, g, d, t, os⟩ (φ ++ [[hh.objs.size + 1, hh.objs.size]]) ⟨(hh.push emptyDict).push (instObj Cc hh.objs.size), g, d, t, os⟩ := Step.snoc (s := ⟨hh, g, d, t, os⟩) (tk := t) hk fun a ha => ⟨(zl a ha).1, (zl a ha).2.1⟩
 have hi : (φ ++ [[hh.objs.size + 1, hh.objs.size]])[m.length]? = some [hh.objs.size + 1, hh.objs.size] := by rw [<- hl, List.getElem?_append_right (Nat.le_refl _), Nat.sub_self]; rfl
 have M1 : MemAt C.K C.H0 (φ ++ [[hh.objs.size + 1, hh.objs.size]]) Z (m ++ [.inst q []]) ((hh.push emptyDict).push (instObj Cc hh.objs.size)) :=
  I.mem.snoc hk zl (by simp) (.inst CF.cls hx hd .nil rfl)
 have I1 := I.step S1 M1
 have I2 : Inv C (A.under (.builtin "type.__call__" ⟨.ref Cc :: vs, []⟩)) fr (φ ++ [[hh.objs.size + 1, hh.objs.size]]) Z (m ++ [.inst q []]) ⟨(hh.push emptyDict).push (instObj Cc hh.objs.size), g, d, t, os⟩ := ⟨I1.h0, I1.z0, I1.mem, I1.frs, by rw [under_frames]; exact I1.frames, I1.hand⟩
 refine make_core (makes_of I.K CF.makes) (looks_findIn I.K CF.init) (fun self => bind_fn I.K self CF.fn) (.inl rfl) ?_
 have ra1 : DAll C.K (φ ++ [[hh.objs.size + 1, hh.objs.size]]) Z ((hh.push emptyDict).push (instObj Cc hh.objs.size)) (.ref (hh.objs.size + 1) :: vs) (.cell m.length :: args) := .cons (.cell (r := [hh.objs.size]) hi) (ra.step S1)
 have dep : (A.under (.builtin "type.__call__" ⟨.ref Cc :: vs, []⟩)).depth = A.depth + 1 := rfl
 have uni : (A.under (.builtin "type.__call__" ⟨.ref Cc :: vs, []⟩)).units = A.units + 1 := rfl
 refine e0_2 hR fun hR1 hR2 => ?_
 refine codeAny_mono (call_fn (Q := fun v s' => v = Value.none /\ Q (.ref (hh.objs.size + 1)) s') (X := X) FF lv hxs (by rw [dep]; omega) (fun E => ⟨by show (A.under _).depth + 1 + 2 * k + 4 < _; rw [dep]; omega, by show (A.under _).units + 3 + 8 * k + 100 < _; rw [uni]; omega⟩) I2
  (by show C.H0.objs.size <= ((hh.push emptyDict).push (instObj Cc hh.objs.size)).objs.size; rw [Heap.size_push, hsz]; omega) ra1 ?_) fun r s' z => by rcases r with e | (v | _ | _ | _) <;> exact z
 cases hb : body T f false (.cell m.length :: args) (m ++ [.inst q []]) with
 | stuck => rw [hb] at h; exact h.elim
 | exc m' => rw [hb] at h; exact h.elim
 | ok dr m' =>
  rw [hb] at h
  induction dr using D.casesOn with
  | none =>
   intro v φ' s' st mm rv
   refine ⟨rep_none rv, ?_⟩
   have S2 := S1.trans st
   have hi' := prefix_get st.pre hi
   dsimp only at h
   by_cases hm : mutCls.contains q = true
   ·rw [if_pos hm] at h
    exact h (.ref (hh.objs.size + 1)) φ' s' S2 mm (.cell hi')
   ·rw [if_neg hm] at h
    cases hc : m'[m.length]? with
    | none => rw [hc] at h; exact h.elim
    | some c =>
     rw [hc] at h
     induction c with
     | inst c fs =>
      dsimp only at h
      have ht : φ'.take m.length = φ := take_prefix S2.pre I.mem
      have q3 := mm.take m.length
      rw [ht] at q3
      refine e1_2 (mm.cell m.length _ hc) fun l hl' r => ?_
      rw [hi'] at hl'
      obtain rfl := Option.some.inj hl'
      cases r with
      | inst hc1 e1 e2 r p =>
       have sub : ∀ a, a ∈ φ.flatten -> a ∈ φ'.flatten := fun a => flatten_prefix S2.pre
       have notin : ∀ a ∈ [hh.objs.size + 1, hh.objs.size], a ∉ φ.flatten := fun a ha q => by
        refine e1_1 ((I.mem.apart a q).2.2) fun o ho => ?_
        exact live_ne ho (zl a ha).1
       exact h _ φ s' S2.less q3 (.inst hc1 e1 e2 (notin _ (by simp)) (zl _ (by simp)).2.1 (notin _ (by simp)) (zl _ (by simp)).2.1 (r.plain sub p))
     | lst _ => exact h.elim
     | dead => exact h.elim
  | _ => exact h.elim
end
section
variable {C : Cst} {A : Around} {E : Env} {sc : Scope} {fr : List Env} {φ : List (List Addr)} {Z own : List Addr} {m' : Mem} {s s' : Shared} {e : Value} {X : Value -> Shared -> Prop}
theorem Zb.up {B h h' : Heap} (z : Zb Z own fr B h) (u : h.UpToSlots h') : Zb Z own fr B h' := fun a ha ho => by
 rcases z a ha ho with ⟨f, h1, h2, m, h3⟩ | q
 ·exact .inl ⟨f, h1, h2, m, u.ns h3⟩
 ·exact .inr q
theorem Zb.keep {B h h' : Heap} (z : Zb Z own fr B h) (k : B.StaysIn h) (k' : B.StaysIn h') (u : h.UpToSlots h') {a : Addr} (ha : a ∈ Z) (ho : a ∉ own) : NsKeep h h' a := by
 rcases z a ha ho with ⟨f, h1, h2, m, o, es, ep, h3, h4, _⟩ | ⟨o, q⟩
 ·refine NsKeep.slots fun o' ho' => ?_
  rw [h3] at ho'; obtain rfl := Option.some.inj ho'
  obtain ⟨sl, w⟩ := u a o h3 fun vs q => by rw [h4] at q; contradiction
  exact ⟨sl, w, fun hf => by unfold firmObj at hf; rw [h4] at hf; contradiction⟩
 ·refine NsKeep.same fun o' ho' => ?_
  rw [k a o q] at ho'; obtain rfl := Option.some.inj ho'
  exact k' a o q
theorem leave_ok (C : Cst) : LeaveOk C := by
 intro A E sc fr φ Z m' s s' e X hA F hf hX
 obtain ⟨ea, φ', B, cf, rfl, ⟨⟨h0, tk0, rfl⟩, p, n, k, zs⟩, q, ⟨r1, r2, r3, r4⟩, lit, zb⟩ := hf
 have zb : Zb Z (ownE E sc) (E :: fr) B h0 := zb
 have fin : ∀ h' a0, B.StaysIn h' -> h'.FunFrames B fr -> h'.TracedW B ea (.ref cf) a0 -> h0.UpToSlots h' -> X (.ref ea) { s with heap := h', toks := tk0 } := fun h' a0 g1 g2 g3 g4 => by
  refine hX _ _ ⟨ea, φ', B, cf, a0, rfl, ⟨⟨_, _, rfl⟩, p, n, k, fun a ha ho => (zs a ha ho).trans (zb.keep r2 g1 g4 ha ho)⟩, q, ⟨r1, g1, r3, g2⟩, g3, fun a ha ho => ?_⟩
  rcases zb.up g4 a ha ho with ⟨f, h1, h2, h3⟩ | w
  ·rcases List.mem_cons.mp h1 with rfl | h1
   ·rw [F.own] at h2; obtain rfl := Option.some.inj h2
    exact absurd (.head _) ho
   ·exact .inl ⟨f, h1, h2, h3⟩
  ·exact .inr w
 rcases lit with ⟨a0, fl, hfl, tr⟩ | ⟨oe, vs, a0, he, hc, hd, h1, h2⟩
 ·rcases hfl with rfl | ⟨f, r, L, e1, e2, rfl⟩
  ·exact wpAny_leaves_onW hA F.own ⟨r2, r3, r4, tr⟩ fun h' fly up => fin h' a0 fly.1 fly.2.2.1 fly.2.2.2 up
  ·obtain ⟨rfl, rfl⟩ := List.cons.inj e1
   rw [F.own] at e2; obtain rfl := Option.some.inj e2
   unfold leaving
   refine wpAny_bind (wpAny_noteFrame_againW F.own tr ?_)
   refine wpAny_landsW ⟨r2, r3, r4, tr⟩ fun h' fly up => ?_
   obtain ⟨f1, f2, ⟨_, _, f3⟩, f4⟩ := fly
   exact fin h' a0 f1 f3 f4 up
 ·refine wpAny_leaving_firstW hA r4 F.own he r2 r3 hd h1 h2 fun h' left => ?_
  obtain ⟨f1, ⟨_, _, f3⟩, f4, up⟩ := left
  rw [hc] at f4
  exact fin h' a0 f1 f3 f4 up
theorem setFlight_some {M : Model} {base : Heap} {l : List Env} {e L : Addr} {cls a0 fl : Value} {Q : Unit -> Shared -> Prop} {s : Shared}
  (hkb : base.StaysIn s.heap) (hl : s.heap.FunFrames base l) (ht : s.heap.TracedAtW base e cls a0 fl)
  (h : ∀ h', base.StaysIn h' -> h'.FunFrames base l -> h'.TracedAtW base e cls a0 (rawInt L) -> s.heap.UpToSlots h' -> Q () { s with heap := h' }) :
  wpAny M A (do
   if (<- field (.ref e) 1) == .none then unsupported "frame.own-activation:exception-without-traceback"
   setFlight (.ref e) (some L)) Q X s := by
 refine e5_9 ht fun oe vs T oT ts he hcls hd h1 hnT hTe hT hdT h3 => ?_
 have hsz3 : 3 < ts.size := (Array.getElem?_eq_some_iff.mp h3).1
 have other : ∀ b, b ≠ T -> (s.heap.update T (Obj.mapFields (·.setIfInBounds 3 ((some L : Option Addr).elim Value.none fun f => rawInt f)))).get? b = s.heap.get? b := fun b hb => Heap.get?_update_other _ _ (Ne.symm hb)
 have noRecord : ∀ b o, s.heap.get? b = some o -> (∀ vs, o.data ≠ .fields vs) -> b ≠ T := fun b o hb hnf q => by
  rw [q, hT] at hb; injection hb with hb; subst hb; exact hnf ts hdT
 refine wpAny_bind (wpAny_field he hd h1 ?_)
 rw [if_neg (show ¬ ((Value.ref T == Value.none) = true) from by simp)]
 unfold setFlight
 refine wpAny_bind (wpAny_field he hd h1 ?_)
 rw [if_pos (show (Value.ref T != Value.none) = true from by simp)]
 refine wpAny_setField hT hdT hsz3 (h _ (fun b o hbo => (other b fun q => by rw [q, hnT] at hbo; exact none_some hbo).trans (hkb b o hbo))
  (hl.of_keeps fun b o hb hnf => ⟨o, (other b (noRecord b o hb hnf)).trans hb, rfl⟩) ?_ fun b o hb hnf => ⟨o.slots, (other b (noRecord b o hb hnf)).trans hb⟩)
 exact ⟨oe, vs, T, _, _, (other e (Ne.symm hTe)).trans he, hcls, hd, h1, hnT, hTe, Heap.get?_update_self _ hT (Obj.isFreed_of_fields (Obj.data_mapFields hdT _)), Obj.data_mapFields hdT _, by simp [hsz3]⟩
theorem note_ok (C : Cst) : NoteOk C := by
 intro A E sc fr φ Z own m' s s' e X hA F hf hX
 obtain ⟨ea, φ', B, cf, rfl, ⟨⟨h0, tk0, rfl⟩, p, n, k, zs⟩, q, ⟨r1, r2, r3, r4⟩, lit, zb⟩ := hf
 have zb : Zb Z own (E :: fr) B h0 := zb
 have fin : ∀ h' a0, B.StaysIn h' -> h'.FunFrames B (E :: fr) -> h'.TracedAtW B ea (.ref cf) a0 (rawInt E.locals) -> h0.UpToSlots h' -> cameBackBy (model C.prog C.w) A E X (.ref ea) { s with heap := h', toks := tk0 } := fun h' a0 g1 g2 g3 g4 => by
  unfold cameBackBy
  rw [F.own]
  refine setFlight_some (s := { s with heap := h', toks := tk0 }) g1 g2 g3 fun h'' k1 k2 k3 k4 => ?_
  have up := g4.trans k4
  exact hX _ _ ⟨ea, φ', B, cf, rfl, ⟨⟨_, _, rfl⟩, p, n, k, fun a ha ho => (zs a ha ho).trans (zb.keep r2 k1 up ha ho)⟩, q, ⟨r1, k1, r3, k2⟩, .inl ⟨a0, _, .inr ⟨E, fr, _, rfl, F.own, rfl⟩, k3⟩, zb.up up⟩
 unfold notedBy
 rcases lit with ⟨a0, fl, hfl, tr⟩ | ⟨oe, vs, a0, he, hc, hd, h1, h2⟩
 ·rcases hfl with rfl | ⟨f, r, L, e1, e2, rfl⟩
  ·exact wpAny_looks_onW hA F.own ⟨r2, r3, r4, tr⟩ fun h' held up => fin h' a0 held.1 held.2.2.1 held.2.2.2 up
  ·refine e0_2 (List.cons.inj e1) fun ee1 ee2 => ?_; subst ee1; subst ee2
   rw [F.own] at e2; obtain rfl := Option.some.inj e2
   exact wpAny_noteFrame_againW F.own tr (fin h0 a0 r2 r4 tr (Heap.UpToSlots.refl h0))
 ·unfold noteFrame
  simp only [F.own]
  refine wpAny_bind (wpAny_field he hd h1 ?_)
  rw [if_neg (by decide)]
  refine wpAny_entryW hA r4 F.own he r2 r3 hd (Array.getElem?_eq_some_iff.mp h1).1 h2 fun h' noted => ?_
  refine e0_4 noted fun k1 k2 k3 up => ?_
  rw [hc] at k3
  exact fin h' a0 k1 k2 k3 up
end
structure ExcFact (C : Cst) (cf : Addr) : Prop where
 cls : clsA C.K "FontFault" = some cf
 glob : C.mg (Str.ofString "FontFault") = some (.ref cf)
 base : ktsIn C.K cf "BaseException" = true
section
variable {C : Cst} {T : Tabs} {Rm : Around -> Prop} {mt : List Str} {rc : Bool} {n : Nat} {A : Around} {E : Env} {sc : Scope} {fr : List Env} {φ : List (List Addr)} {Z own : List Addr} {m m' : Mem} {s s' : Shared} {e : Value} {vars : Vars} {Q : Flow -> Shared -> Prop} {X : Value -> Shared -> Prop}
theorem note_held {h0 B : Heap} {ea cf : Addr} {tk0 : Nat} {Q : Unit -> Shared -> Prop} (hA : A.frames = some (E :: fr)) (F : FrameOk E sc fr) (r2 : B.StaysIn h0) (r3 : B.get? ea = none) (r4 : h0.FunFrames B (E :: fr)) (lit : Lit h0 B ea cf (E :: fr))
  (fin : ∀ h' a0, B.StaysIn h' -> h'.FunFrames B (E :: fr) -> h'.TracedAtW B ea (.ref cf) a0 (rawInt E.locals) -> h0.UpToSlots h' -> Q () { s with heap := h', toks := tk0 }) : wpAny (model C.prog C.w) A (noteFrame (.ref ea) E) Q X { s with heap := h0, toks := tk0 } := by
 rcases lit with ⟨a0, fl, hfl, tr⟩ | ⟨oe, vs, a0, he, hc, hd, h1, h2⟩
 ·rcases hfl with rfl | ⟨f, r, L, e1, e2, rfl⟩
  ·exact wpAny_looks_onW hA F.own ⟨r2, r3, r4, tr⟩ fun h' held up => fin h' a0 held.1 held.2.2.1 held.2.2.2 up
  ·refine e0_2 (List.cons.inj e1) fun ee1 ee2 => ?_; subst ee1; subst ee2
   rw [F.own] at e2; obtain rfl := Option.some.inj e2
   exact wpAny_noteFrame_againW F.own tr (fin h0 a0 r2 r4 tr (Heap.UpToSlots.refl h0))
 ·unfold noteFrame
  simp only [F.own]
  refine wpAny_bind (wpAny_field he hd h1 ?_)
  rw [if_neg (by decide)]
  refine wpAny_entryW hA r4 F.own he r2 r3 hd (Array.getElem?_eq_some_iff.mp h1).1 h2 fun h' noted => ?_
  refine e0_4 noted fun k1 k2 k3 up => ?_
  rw [hc] at k3
  exact fin h' a0 k1 k2 k3 up
theorem sx_try {b : List Stmt} {k : Nat} {np hp rp cp pos : Pos} {f : Str} {cf : Addr} (ef : ExcFact C cf) (hxs : SXs C T Rm mt rc n) (hR : Rm A) (I : Inv C A (E :: fr) φ Z m s) (F : FrameOk E sc fr) (V : VarsAt C.K φ Z s.heap E sc vars)
  (h : PostX C (RF C E sc Z) (E :: fr) φ Z (ownE E sc) s (exec T mt rc (n + 1) sc (.Try b [.ExceptHandler (some (.Name f np)) none [.Return (some (.Constant .none k cp)) rp] hp] [] [] pos) vars m) Q X) :
  wpAny (model C.prog C.w) A (PySem.exec (.Try b [.ExceptHandler (some (.Name f np)) none [.Return (some (.Constant .none k cp)) rp] hp] [] [] pos) E) Q X s := by
 rw [exec_try] at h
 refine e0_2 (postx_ite h) fun hc h1 => ?_
 clear h
 simp only [Bool.and_eq_true, beq_iff_eq] at hc
 refine e0_2 hc fun hfn hk => ?_
 subst hfn
 have h : PostX C (RF C E sc Z) (E :: fr) φ Z (ownE E sc) s (match execs T mt rc n sc b vars m with | .exc m' => Res.ok (Fl.ret D.none) m' | r => r) Q X := h1
 clear h1
 refine wpAny_Try_except (hxs hR I F V ?_)
 cases hx : execs T mt rc n sc b vars m with
 | stuck => rw [hx] at h; exact h.elim
 | ok fl m' =>
  rw [hx] at h
  intro f φ' s' x q r
  induction f <;> cases fl <;> try exact (show False from r).elim
  ·exact wpAny_execs_nil (h .next φ' s' x q r)
  ·exact h _ φ' s' x q r
 | exc m' =>
  rw [hx] at h
  intro e s' hf
  obtain ⟨ea, φ', B, cf', rfl, ⟨⟨h0, tk0, rfl⟩, p, nn, kp, zs⟩, q, ⟨r1, r2, r3, r4⟩, lit, zb⟩ := hf
  rw [ef.cls] at r1; obtain rfl := Option.some.inj r1
  have zb : Zb Z (ownE E sc) (E :: fr) B h0 := zb
  refine note_held (s := s) I.frames F r2 r3 r4 lit fun h4 a0 g1 g2 g3 g4 => ?_
  refine wpAny_landsW (s := { s with heap := h4, toks := tk0 }) ⟨g1, r3, g2, g3⟩ fun h5 fly up5 => ?_
  have H5 : ∀ a o, C.H0.get? a = some o -> h5.get? a = some o := fun a o ho => fly.1 a o (kp a o (I.h0 a o ho) (fun w => by
   have := (I.mem.apart a w).2.1; rw [ho] at this; contradiction) fun w => by
   have := none_of_size (I.z0 a w).1; rw [ho] at this; contradiction)
  have X5 : C.K.In h5 := C.X0.keeps H5
  refine e1_2 fly.there fun ob hob hobc => ?_
  obtain ⟨nm, q', N, bs, bm, hdct, sn, sub, ab, col, dd, k0, k1, k2, k3, k5, newId, hC, hbase, hbT⟩ := kts_cls X5 ef.base
  have kd : E.kindOf ("FontFault" : Str) = some .globalImplicit := by
   rcases F.env.names ("FontFault" : Str) with w | w
   ·rw [w]; exact hk
   ·rw [hk] at w; cases w.1
  refine wpAny_handleBy_cons (codeAny_handlers_test (Name_function_global F.env.kind kd (loadGlobal_global (by rw [F.env.glob]; exact C.T0.g.keeps H5) ef.glob ?_) (F.env.dbg_of hk).1)) (by intro q; cases q)
  refine wpAny_excMatches_sub_self hC hob hobc hbase (codeAny_handlers_suite ?_)
  refine lands_againW (s := { s with heap := h5, toks := tk0 }) fly fun h6 fly6 up6 => ?_
  refine wpAny_execs_cons (wpAny_Return_some (Constant_none ?_))
  have up := (g4.trans up5).trans up6
  refine h (.ret .none) φ' _ ⟨⟨h6, tk0, rfl⟩, p, nn, fun a o e n1 n2 => fly6.1 a o (kp a o e n1 n2), fun a ha ho => (zs a ha ho).trans (zb.keep r2 fly6.1 up ha ho)⟩ ?_ .none
  exact q.grow (s := { s with heap := B }) (s' := { s with heap := h6 }) fly6.1
theorem retNone_is {r : Stmt} (h : retNone r = true) : ∃ k cp rp, r = .Return (some (.Constant .none k cp)) rp := by
 induction r using Stmt.casesOn with
 | Return v p =>
  induction v with
  | none => exact Bool.noConfusion h
  | some e =>
   induction e using Expr.casesOn with
   | Constant c k q =>
    induction c with
    | none => exact ⟨_, _, _, rfl⟩
    | _ => exact Bool.noConfusion h
   | _ => exact Bool.noConfusion h
 | _ => exact Bool.noConfusion h
theorem hdName_is {h : ExceptHandler} {x : Str} (e : hdName h = some x) : ∃ np hp r, h = .ExceptHandler (some (.Name x np)) none [r] hp /\ retNone r = true := by
 obtain ⟨t, nm, b, p⟩ := h
 induction t with
 | none => exact nomatch (show (none : Option Str) = some x from e)
 | some t =>
  induction t using Expr.casesOn with
  | Name f q =>
   induction nm with
   | some _ => exact nomatch (show (none : Option Str) = some x from e)
   | none =>
    match b, e with
    | [], e => exact nomatch (show (none : Option Str) = some x from e)
    | _ :: _ :: _, e => exact nomatch (show (none : Option Str) = some x from e)
    | [r], e =>
     have e : (if retNone r then some f else none) = some x := e
     by_cases w : retNone r = true
     ·rw [if_pos w] at e
      exact ⟨q, p, r, by rw [Option.some.inj e], w⟩
     ·rw [if_neg w] at e; exact nomatch e
  | _ => exact nomatch (show (none : Option Str) = some x from e)
theorem tryName_is {hs : List ExceptHandler} {o f : List Stmt} {x : Str} (h : tryName hs o f = some x) : ∃ np k cp rp hp, hs = [.ExceptHandler (some (.Name x np)) none [.Return (some (.Constant .none k cp)) rp] hp] /\ o = [] /\ f = [] := by
 match hs, h with
 | [], h => exact nomatch (show (none : Option Str) = some x from h)
 | _ :: _ :: _, h => exact nomatch (show (none : Option Str) = some x from h)
 | [d], h =>
  have h : (if o.isEmpty && f.isEmpty then hdName d else none) = some x := h
  by_cases w : (o.isEmpty && f.isEmpty) = true
  ·rw [if_pos w] at h
   rw [Bool.and_eq_true] at w
   refine e3_2 (hdName_is h) fun np hp r e1 e2 => ?_
   refine e3_1 (retNone_is e2) fun k cp rp e3 => ?_
   exact ⟨np, k, cp, rp, hp, by rw [e1, e3], List.isEmpty_iff.mp w.1, List.isEmpty_iff.mp w.2⟩
  ·rw [if_neg w] at h; exact nomatch h
end
section
variable {C : Cst} {T : Tabs} {Rm : Around -> Prop} {mt : List Str} {rc : Bool} {n : Nat}
noncomputable def Two (C : Cst) (T : Tabs) (Rm : Around -> Prop) (n : Nat) : Prop :=
 ∀ {sc sc' : Scope} {elt t it t2 it2 : Expr} {pos : Pos} {E : Env} {A : Around} {fr : List Env} {φ : List (List Addr)} {Z : List Addr} {m : Mem} {s : Shared} {Q X : Value -> Shared -> Prop} {vars : Vars}, Rm A -> Inv C A fr φ Z m s -> EnvOk E sc -> VarsAt C.K φ Z s.heap E sc vars ->
  Post C (RV C Z) fr φ Z s (ev T (n + 1) sc (.ListComp elt [⟨t, it, [], 0⟩, ⟨t2, it2, [], 0⟩] sc' pos) vars m) Q X -> wpAny (model C.prog C.w) A (eval (.ListComp elt [⟨t, it, [], 0⟩, ⟨t2, it2, [], 0⟩] sc' pos) E) Q X s
noncomputable def TwoUse (C : Cst) (T : Tabs) (Rm : Around -> Prop) (n : Nat) : Prop :=
 ∀ {sc sc' : Scope} {x : Str} {elt t it t2 it2 : Expr} {p cp pos : Pos} {E : Env} {A : Around} {fr : List Env} {φ : List (List Addr)} {Z : List Addr} {m : Mem} {s : Shared} {Q : Flow -> Shared -> Prop} {X : Value -> Shared -> Prop} {vars : Vars}, Rm A -> Inv C A (E :: fr) φ Z m s -> FrameOk E sc fr -> VarsAt C.K φ Z s.heap E sc vars -> okName sc x = true ->
  swapsWith (.ListComp elt [⟨t, it, [], 0⟩, ⟨t2, it2, [], 0⟩] sc' cp) (some (.Name x p)) pos.line E = pure true ->
  PostX C (RF C E sc Z) (E :: fr) φ Z (ownE E sc) s ((bind (ev T (n + 1) sc (.ListComp elt [⟨t, it, [], 0⟩, ⟨t2, it2, [], 0⟩] sc' cp) vars) fun d => ret (.next (setv x d vars))) m) Q X ->
  wpAny (model C.prog C.w) A (PySem.exec (.Assign [.Name x p] (.ListComp elt [⟨t, it, [], 0⟩, ⟨t2, it2, [], 0⟩] sc' cp) pos) E) Q X s
noncomputable def RaiseOk (C : Cst) (T : Tabs) (Rm : Around -> Prop) (n : Nat) : Prop :=
 ∀ {sc : Scope} {e : Expr} {pos : Pos} {E : Env} {A : Around} {fr : List Env} {φ : List (List Addr)} {Z : List Addr} {m : Mem} {s : Shared} {Q : Flow -> Shared -> Prop} {X : Value -> Shared -> Prop} {vars : Vars}, Rm A -> Inv C A (E :: fr) φ Z m s -> FrameOk E sc fr -> VarsAt C.K φ Z s.heap E sc vars ->
  PostX C (RF C E sc Z) (E :: fr) φ Z (ownE E sc) s (excOf T n sc e vars m) Q X -> wpAny (model C.prog C.w) A (PySem.exec (.Raise (some e) none pos) E) Q X s
inductive GsOf (T : Tabs) : List Comprehension -> Prop
 | one (t it : Expr) : GsOf T [⟨t, it, [], 0⟩]
 | two (t it t2 it2 : Expr) : GsOf T [⟨t, it, [], 0⟩, ⟨t2, it2, [], 0⟩]
 | bad {gs : List Comprehension} : (∀ n sc elt sc' p vars, ev T (n + 1) sc (.ListComp elt gs sc' p) vars = fail) -> GsOf T gs
theorem gs_of {gs : List Comprehension} : GsOf T gs := by
 induction gs using List.casesOn with
 | nil => exact .bad fun _ _ _ _ _ _ => rfl
 | cons g gs =>
  induction g using Comprehension.casesOn with | mk t it ifs a => _
  induction gs using List.casesOn with
  | nil =>
   induction ifs using List.casesOn with
   | cons _ _ => exact .bad fun _ _ _ _ _ _ => rfl
   | nil =>
    induction a with
    | ofNat k =>
     induction k using Nat.casesAuxOn with
     | zero => exact .one t it
     | succ k => exact .bad fun _ _ _ _ _ _ => rfl
    | negSucc k => exact .bad fun _ _ _ _ _ _ => rfl
  | cons g gs =>
   induction ifs using List.casesOn with
   | cons _ _ => exact .bad fun _ _ _ _ _ _ => rfl
   | nil =>
    induction a with
    | ofNat k =>
     induction k using Nat.casesAuxOn with
     | succ k => exact .bad fun _ _ _ _ _ _ => rfl
     | zero =>
      induction g using Comprehension.casesOn with | mk t2 it2 ifs a => _
      induction ifs using List.casesOn with
      | cons _ _ => exact .bad fun _ _ _ _ _ _ => rfl
      | nil =>
       induction a with
       | ofNat k =>
        induction k using Nat.casesAuxOn with
        | succ k => exact .bad fun _ _ _ _ _ _ => rfl
        | zero =>
         induction gs using List.casesOn with
         | nil => exact .two t it t2 it2
         | cons _ _ => exact .bad fun _ _ _ _ _ _ => rfl
       | negSucc k => exact .bad fun _ _ _ _ _ _ => rfl
    | negSucc k => exact .bad fun _ _ _ _ _ _ => rfl
theorem scomp_all (hn : SE C T Rm n) (two : Two C T Rm n) : SComp C T Rm n := by
 intro sc sc' elt gs pos E A fr φ Z m s Q X vars hR I ok V h
 have g : GsOf T gs := gs_of
 induction g with
 | one t it => exact scomp_one hn hR I ok V h
 | two t it t2 it2 => exact two hR I ok V h
 | bad hb => rw [hb] at h; exact h.elim
theorem sall (tb : TabOk C T Rm) (two : ∀ n, SE C T Rm n -> Two C T Rm n) : ∀ n, SAll C T Rm n
 | 0 => ⟨fun _ _ _ _ h => h.elim, fun _ _ _ _ h => h.elim, fun _ _ _ _ h => h.elim, fun _ _ _ _ _ h => h.elim⟩
 | n + 1 => by
  have ih := sall tb two n
  exact ⟨se_step ih tb (scomp_all ih.e (two n ih.e)), st_step ih, sts_step ih, sc_step ih tb⟩
end
section
variable {C : Cst} {T : Tabs} {Rm : Around -> Prop} {mt : List Str} {rc : Bool} {n : Nat} {sc : Scope} {E : Env} {A : Around} {fr : List Env} {φ : List (List Addr)} {Z : List Addr} {m : Mem} {s : Shared} {vars : Vars} {Q : Flow -> Shared -> Prop} {X : Value -> Shared -> Prop}
theorem sx_asgname {x : Str} {p pos : Pos} {e : Expr} (ha : ∀ k, SAll C T Rm k) (tu : ∀ k, TwoUse C T Rm k) (hR : Rm A) (I : Inv C A (E :: fr) φ Z m s) (F : FrameOk E sc fr) (V : VarsAt C.K φ Z s.heap E sc vars)
  (h : PostX C (RF C E sc Z) (E :: fr) φ Z (ownE E sc) s ((if okName sc x then bind (evFor (fun e => ev T n sc e vars) mt (.Name x p) e) fun d => ret (.next (setv x d vars)) else fail) m) Q X) : wpAny (model C.prog C.w) A (PySem.exec (.Assign [.Name x p] e pos) E) Q X s := by
 obtain ⟨hk, h1⟩ := postx_ite h
 clear h
 have h := h1
 clear h1
 have gen : swapsWith e (some (.Name x p)) pos.line E = pure false -> wpAny (model C.prog C.w) A (PySem.exec (.Assign [.Name x p] e pos) E) Q X s := fun hsw => sx_name (ha n).e hR I F V hk hsw h
 induction e using Expr.casesOn
 case ListComp elt gs sc' cp =>
  have hsw : ∃ b, swapsWith (.ListComp elt gs sc' cp) (some (.Name x p)) pos.line E = pure b := ⟨_, rfl⟩
  obtain ⟨b, hsw⟩ := hsw
  induction b with
  | false => exact gen hsw
  | true =>
   induction n using Nat.casesAuxOn with
   | zero => exact h.elim
   | succ n =>
    have h' : PostX C (RF C E sc Z) (E :: fr) φ Z (ownE E sc) s ((bind (ev T (n + 1) sc (.ListComp elt gs sc' cp) vars) fun d => ret (.next (setv x d vars))) m) Q X := h
    clear gen
    have g : GsOf T gs := gs_of
    induction g with
    | one t it => exact sx_comp_one (ha n).e hR I F V hk hsw h'
    | two t it t2 it2 => exact tu n hR I F V hk hsw h'
    | bad hb => rw [hb] at h'; exact h'.elim
 case SetComp => induction n using Nat.casesAuxOn <;> exact h.elim
 case DictComp => induction n using Nat.casesAuxOn <;> exact h.elim
 all_goals exact gen rfl
theorem sx_forall {t it : Expr} {b : List Stmt} {pos : Pos} (ha : ∀ k, SAll C T Rm k) (hxs : SXs C T Rm mt rc n) (hR : Rm A) (I : Inv C A (E :: fr) φ Z m s) (F : FrameOk E sc fr) (V : VarsAt C.K φ Z s.heap E sc vars)
  (h : PostX C (RF C E sc Z) (E :: fr) φ Z (ownE E sc) s (exec T mt rc (n + 1) sc (.For t it b [] pos) vars m) Q X) : wpAny (model C.prog C.w) A (PySem.exec (.For t it b [] pos) E) Q X s := by
 rw [exec_for] at h
 refine e0_2 (postx_ite h) fun hc h => ?_
 rw [Bool.and_eq_true] at hc
 refine wpAny_For ?_ (set_folded hc.1)
 refine wpAny_mono ((ha n).e hR I F.env V (PostX.ebind h)) (fun xv s₁ hv => ?_) fun _ _ x => x
 obtain ⟨d, m₁, φ₁, st, q, r, h₁⟩ := hv
 have I₁ := I.step st q
 have V₁ := V.step st
 have data : ∀ {d : D}, DRep C.K φ₁ Z s₁.heap xv d -> PostX C (RF C E sc Z) (E :: fr) φ₁ Z (ownE E sc) s₁ ((bind (lift (iterV d)) fun ds => if ds.length <= cap then forL (fun d env => bind (lift (bindTo t d env)) fun env' => execs T mt rc n sc b env') ds vars else fail) m₁) Q X ->
   wpAny (model C.prog C.w) A (pyIter xv) (fun it s₂ => codeAny (model C.prog C.w) A (.forLoop t it b [] E) (fun r s' => match r with | .ok f => Q f s' | .error e => cameBackBy (model C.prog C.w) A E X e s') s₂) X s₁ := fun r h => by
  refine e1_2 (PostX.lift_bind h) fun ds hds h => ?_
  refine e0_2 (postx_itep h) fun hz h => ?_
  exact sx_for (it := it) (pos := pos) (note_ok C) hxs hR I₁ F V₁ hc.2 r hds hz h
 induction d using D.casesOn with
 | cell i => exact sx_forC (note_ok C) hxs hR I₁ F V₁ hc.2 r h₁
 | _ => exact data r h₁
theorem asg_many {a b : Expr} {l : List Expr} {e : Expr} {pos : Pos} {R : List (List Addr) -> Heap -> Flow -> Fl -> Prop} {own : List Addr} {G : Prop} (h : PostX C R (E :: fr) φ Z own s (exec T mt rc (n + 1) sc (.Assign (a :: b :: l) e pos) vars m) Q X) : G := by
 rw [show exec T mt rc (n + 1) sc (.Assign (a :: b :: l) e pos) vars = fail from by induction a using Expr.casesOn <;> first | rfl | (induction e using Expr.casesOn <;> rfl)] at h
 exact h.elim
theorem sx_step {cf : Addr} (ha : ∀ k, SAll C T Rm k) (tu : ∀ k, TwoUse C T Rm k) (ts : SetTab C T) (ef : ExcFact C cf) (rs : RaiseOk C T Rm n) (hxs : SXs C T Rm mt rc n) : SX C T Rm mt rc (n + 1) := by
 intro sc st E A fr φ Z m s Q X vars hR I F V h
 have hn : SE C T Rm n := (ha n).e
 induction st using Stmt.casesOn
 case Return e pos =>
  induction e with
  | none => exact h.elim
  | some e => exact sx_ret hn hR I F V h
 case Assign targets e pos =>
  induction targets using List.casesOn with
  | nil => exact h.elim
  | cons a l =>
   induction l using List.casesOn with
   | cons _ _ => exact asg_many h
   | nil =>
    induction a using Expr.casesOn with
    | Name x p => exact sx_asgname ha tu hR I F V h
    | Attribute o x ip => exact sx_setattr ts hn hR I F V h
    | Subscript o i ip => exact sx_setitem hn hR I F V h
    | Tuple ts k p =>
     have gen : (∀ es k p, e ≠ .Tuple es k p) -> PostX C (RF C E sc Z) (E :: fr) φ Z (ownE E sc) s ((if okTarget sc (.Tuple ts k p) then bind (ev T n sc e vars) fun d => bind (lift (bindTo (.Tuple ts k p) d vars)) fun env' => ret (Fl.next env') else fail) m) Q X -> wpAny (model C.prog C.w) A (PySem.exec (.Assign [.Tuple ts k p] e pos) E) Q X s := fun he h => by
      refine e0_2 (postx_ite h) fun hk h => ?_
      exact sx_unpack hn hR I F V he hk h
     induction e using Expr.casesOn
     case Tuple es k2 p2 => exact sx_lit hn hR I F V h
     all_goals exact gen (by intro _ _ _ q; contradiction) h
    | _ => exact h.elim
 case Expr e pos =>
  induction e using Expr.casesOn
  case Call f es ks cp =>
   induction f using Expr.casesOn
   case Attribute o a ap =>
    induction es using List.casesOn with
    | nil => exact h.elim
    | cons e es =>
     induction es using List.casesOn with
     | cons _ _ => exact h.elim
     | nil =>
      induction ks using List.casesOn with
      | nil => exact sx_expr hn hR I F V h
      | cons _ _ => exact h.elim
   all_goals exact h.elim
  all_goals exact h.elim
 case If t a b pos => exact sx_if (ha n) hxs hR I F V h
 case While t b o pos =>
  induction o using List.casesOn with
  | nil => exact sx_while (ha n) hxs hR I F V h
  | cons _ _ => exact h.elim
 case For t it b o pos =>
  induction o using List.casesOn with
  | nil => exact sx_forall ha hxs hR I F V h
  | cons _ _ => exact h.elim
 case Raise e c pos =>
  match e, c, h with
  | some e, none, h => exact rs hR I F V h
  | none, _, h => exact h.elim
  | some _, some _, h => exact h.elim
 case Try b hs o f' pos =>
  cases ht : tryName hs o f' with
  | none =>
   rw [exec_try0 ht] at h
   exact h.elim
  | some x =>
   refine e5_3 (tryName_is ht) fun np k cp rp hp ee1 ee2 ee3 => ?_; subst ee1; subst ee2; subst ee3
   exact sx_try ef hxs hR I F V h
 all_goals exact h.elim
end
structure Txt where
 fns : List (Str × Fn)
 meths : List (Str × List (Str × Fn))
 globs : List (Str × D)
inductive Key where
 | top (f : Str)
 | meth (c x : Str)
noncomputable def Txt.methOf (t : Txt) (c x : Str) : Option Fn := (t.meths.lookup c).bind fun l => l.lookup x
noncomputable def Txt.isTop (t : Txt) (f : Str) : Bool := (t.meths.lookup f).isSome || (t.fns.lookup f).isSome
noncomputable def Txt.tabs (t : Txt) (call : Key -> List D -> M D) : Tabs :=
 { fn := fun f => call (.top f), isFn := t.isTop, meth := fun c x => call (.meth c x), methOk := fun c x => (t.methOf c x).isSome, fieldOk := isFld, setOk := isFld, glob := fun x => t.globs.lookup x }
noncomputable def makeInst (T : Tabs) (q : Str) (f : Fn) (args : List D) : M D := fun m => match body T f false (.cell m.length :: args) (m ++ [.inst q []]) with
 | .ok .none m' => if mutCls.contains q then .ok (.cell m.length) m' else (match m'[m.length]? with
  | some (.inst c fs) => .ok (.inst c fs) (m'.take m.length)
  | _ => .stuck)
 | _ => .stuck
noncomputable def Txt.run (t : Txt) : Nat -> Key -> List D -> M D
 | 0, _, _ => fail
 | k + 1, .meth c x, args => (match t.methOf c x with
  | some f => body (t.tabs (t.run k)) f false args
  | none => fail)
 | k + 1, .top q, args => (match t.methOf q "__init__" with
  | some f => makeInst (t.tabs (t.run k)) q f args
  | none => match t.fns.lookup q with
   | some f => body (t.tabs (t.run k)) f (q == "_law_pool") args
   | none => fail)
structure TxtOk (C : Cst) (t : Txt) : Prop where
 glob : ∀ x d, t.globs.lookup x = some d -> ∃ i u, d = .int i /\ C.mg x = some (.int i u)
 fn : ∀ f g, t.fns.lookup f = some g -> t.methOf f "__init__" = none /\ ∃ a, C.mg f = some (.ref a) /\ keepIn C.K (.ref a) = true /\ FnFact C g a
 cls : ∀ c l, t.meths.lookup c = some l -> ∃ a g fI, C.mg c = some (.ref a) /\ keepIn C.K (.ref a) = true /\ l.lookup ("__init__" : Str) = some g /\ ClsFact C c a fI /\ FnFact C g fI
 bi : ∀ b ∈ biNames, t.isTop (Str.ofString b) = false -> C.mg (Str.ofString b) = none /\ C.mb (Str.ofString b) = some (biV b)
 meth : ∀ c l x g, t.meths.lookup c = some l -> l.lookup x = some g -> ∃ Cc f, clsA C.K c = some Cc /\ plainGet C.K Cc x = true /\ findIn C.K (.ref Cc) x = some (some (.ref f)) /\ isFn C.K (.ref f) = true /\ keepIn C.K (.ref f) = true /\ FnFact C g f
 field : ∀ c x, isFld c x = true -> ∃ Cc attr, clsA C.K c = some Cc /\ plainGet C.K Cc x = true /\ hasDictIn C.K Cc = true /\ findIn C.K (.ref Cc) x = some attr /\ noGet C.K attr = true
 set : ∀ c x, isFld c x = true -> ∃ Cc, clsA C.K c = some Cc /\ findIn C.K (.ref Cc) "__setattr__" = some (some (.builtin "object.__setattr__")) /\ plainOver C.K Cc = true /\ takerIn C.K Cc x = some none /\ hasDictIn C.K Cc = true
 exc : ∃ cf, ExcFact C cf
structure Rest (C : Cst) : Prop where
 raise : ∀ (T : Tabs) (Rm : Around -> Prop) (n : Nat), (∀ A, Rm A -> A.units + 64 < cLine /\ A.depth + 4 < recursionLimit) -> SE C T Rm n -> RaiseOk C T Rm n
 two : ∀ (T : Tabs) (Rm : Around -> Prop) (n : Nat), SE C T Rm n -> Two C T Rm n
 use : ∀ (T : Tabs) (Rm : Around -> Prop) (n : Nat), SE C T Rm n -> TwoUse C T Rm n
theorem room_units {k : Nat} {A : Around} (h : Room k A) : A.units + 64 < cLine /\ A.depth + 4 < recursionLimit := ⟨by have := h.2; lia, by have := h.1; lia⟩
section
variable {C : Cst} {t : Txt}
theorem sx_all {T : Tabs} {Rm : Around -> Prop} (hu : ∀ A, Rm A -> A.units + 64 < cLine /\ A.depth + 4 < recursionLimit) (tb : TabOk C T Rm) (ts : SetTab C T) (re : Rest C) (ex : ∃ cf, ExcFact C cf) (mt : List Str) (rc : Bool) : ∀ n, SX C T Rm mt rc n /\ SXs C T Rm mt rc n
 | 0 => ⟨fun _ _ _ _ h => h.elim, fun _ _ _ _ h => h.elim⟩
 | n + 1 => by
  have ih := sx_all hu tb ts re ex mt rc n
  have ha := sall tb fun n hn => re.two T Rm n hn
  refine e1_1 ex fun cf ef => ?_
  exact ⟨sx_step ha (fun k => re.use T Rm k (ha k).e) ts ef (re.raise T Rm n hu (ha n).e) ih.2, sxs_step ih.1 ih.2⟩
theorem run_ok (re : Rest C) (ok : TxtOk C t) : ∀ k, TabOk C (t.tabs (t.run k)) (Room k) := by
 have lv : LeaveOk C := leave_ok C
 have st : ∀ k, SetTab C (t.tabs (t.run k)) := fun k c x h => ok.set c x h
 have sx : ∀ k, TabOk C (t.tabs (t.run k)) (Room k) -> ∀ mt rc, SXs C (t.tabs (t.run k)) (Room k) mt rc 60 := fun k tb mt rc => (sx_all (Rm := Room k) (fun A h => room_units h) tb (st k) re ok.exc mt rc 60).2
 have fnCall : ∀ k, (∀ k', k' < k -> TabOk C (t.tabs (t.run k')) (Room k')) -> ∀ f g a, t.fns.lookup f = some g -> t.methOf f "__init__" = none -> FnFact C g a -> CallOk C (Room k) a (t.run k (.top f)) := by
  intro k ih f g a hl hn FF
  induction k using Nat.casesAuxOn with
  | zero => exact fun _ _ _ _ h => h.elim
  | succ k =>
   intro A fr φ Z m s args vs Q X hR hz I ra h
   simp only [Txt.run, hn, hl] at h
   refine e1_1 hz fun L hL => ?_
   exact wpAny_call (call_fn FF lv (sx k (ih k (Nat.lt_succ_self k)) _ _) (by have := hR.1; lia) (fun E => SXs_room hR) I (I.big hL) ra h)
 have methCall : ∀ k, (∀ k', k' < k -> TabOk C (t.tabs (t.run k')) (Room k')) -> ∀ c x g a, t.methOf c x = some g -> FnFact C g a -> CallOk C (Room k) a (t.run k (.meth c x)) := by
  intro k ih c x g a hl FF
  induction k using Nat.casesAuxOn with
  | zero => exact fun _ _ _ _ h => h.elim
  | succ k =>
   intro A fr φ Z m s args vs Q X hR hz I ra h
   simp only [Txt.run, hl] at h
   refine e1_1 hz fun L hL => ?_
   exact wpAny_call (call_fn FF lv (sx k (ih k (Nat.lt_succ_self k)) _ _) (by have := hR.1; lia) (fun E => SXs_room hR) I (I.big hL) ra h)
 have clsCall : ∀ k, (∀ k', k' < k -> TabOk C (t.tabs (t.run k')) (Room k')) -> ∀ c g a fI, t.methOf c "__init__" = some g -> ClsFact C c a fI -> FnFact C g fI -> CallOk C (Room k) a (t.run k (.top c)) := by
  intro k ih c g a fI hl CF FF
  induction k using Nat.casesAuxOn with
  | zero => exact fun _ _ _ _ h => h.elim
  | succ k =>
   intro A fr φ Z m s args vs Q X hR hz I ra h
   simp only [Txt.run, hl] at h
   refine e1_1 hz fun L hL => ?_
   exact call_cls CF FF lv (sx k (ih k (Nat.lt_succ_self k)) _ _) hR I (I.big hL) ra h
 intro k
 induction k using Nat.strongRecOn with
 | ind k ih =>
  refine ⟨fun A h => (room_units h).1, ok.glob, fun f hf => ?_, ok.bi, fun c x hm => ?_, ok.field⟩
  ·have hf : ((t.meths.lookup f).isSome || (t.fns.lookup f).isSome) = true := hf
   cases hm : t.meths.lookup f with
   | some l =>
    refine e3_5 (ok.cls f l hm) fun a g fI h1 h2 h3 CF FF => ?_
    exact ⟨a, h1, h2, clsCall k ih f g a fI (by unfold Txt.methOf; rw [hm]; exact h3) CF FF⟩
   | none =>
    rw [hm, Option.isSome_none, Bool.false_or] at hf
    refine e1_1 (Option.isSome_iff_exists.mp hf) fun g hg => ?_
    obtain ⟨hn, a, h1, h2, FF⟩ := ok.fn f g hg
    exact ⟨a, h1, h2, fnCall k ih f g a hg hn FF⟩
  ·refine e1_1 (Option.isSome_iff_exists.mp (show (t.methOf c x).isSome = true from hm)) fun g hg => ?_
   refine e1_2 (Option.bind_eq_some_iff.mp hg) fun l hl hx => ?_
   refine e2_6 (ok.meth c l x g hl hx) fun Cc f h1 h2 h3 h4 h5 FF => ?_
   exact ⟨Cc, f, h1, h2, h3, h4, h5, methCall k ih c x g f hg FF⟩
end
noncomputable def scB (sc : Scope) (ps : List Str) : Bool := decide (sc.kind = .function) && !sc.isCoroutine && !sc.isGenerator && decide ((sc.names.map (·.1)).Nodup) &&
 sc.names.all (fun p => p.2 != .free && (p.1 == ("__debug__" : Str)) == false && (p.1 == ("__classdict__" : Str)) == false) && ps.all (fun x => kindOf sc x == some .local || kindOf sc x == some .cell)
theorem scOk_of {sc : Scope} {ps : List Str} (h : scB sc ps = true) : ScOk sc ps := by
 simp only [scB, Bool.and_eq_true, decide_eq_true_eq, Bool.not_eq_true', List.all_eq_true, bne_iff_ne, ne_eq, beq_iff_eq, Bool.or_eq_true] at h
 obtain ⟨⟨⟨⟨⟨h1, h2⟩, h3⟩, h4⟩, h5⟩, h6⟩ := h
 refine ⟨h1, h2, h3, h4, fun p hp => (h5 p hp).1.1, fun p hp => ⟨?_, ?_⟩, h6⟩
 ·have := (h5 p hp).1.2; simpa using this
 ·have := (h5 p hp).2; simpa using this
noncomputable def fdOf (K : Frag) (a : Addr) : Option FuncData := match K.lookup a with
 | some ⟨_, _, .func fd, _⟩ => some fd
 | _ => none
theorem fdOf_is {K : Frag} {a : Addr} {fd : FuncData} (h : fdOf K a = some fd) : ∃ oc od osl, K.lookup a = some ⟨oc, od, .func fd, osl⟩ := by
 unfold fdOf at h
 split at h
 ·rename_i oc od fd' osl e
  obtain rfl := Option.some.inj h
  exact ⟨oc, od, osl, e⟩
 ·exact none_some h
noncomputable def fdB (K : Frag) (f : Fn) (fd : FuncData) : Bool := codeIn K fd.code fd.qualname && decide (fd.scope = f.scope) && fd.closure.isEmpty && decide (fd.globals = mainGlobals) && decide (fd.builtins = builtinsNs) &&
 fd.params.posonlyargs.isEmpty && decide (fd.params.args.map (·.arg) = f.params) && fd.params.vararg.isNone && fd.params.kwonlyargs.isEmpty && fd.params.kwarg.isNone && decide f.params.Nodup && decide (f.defaults.length <= f.params.length) && scB f.scope f.params
noncomputable def fnB (K : Frag) (f : Fn) (a : Addr) : Bool := match fdOf K a with
 | some fd => fdB K f fd
 | none => false
noncomputable def bodyAt (K : Frag) (a : Addr) : Option FuncBody := (fdOf K a).map (·.body)
noncomputable def dfltAt (K : Frag) (a : Addr) : Option Value := (fdOf K a).map (·.defaults)
section
variable {C : Cst} {f : Fn} {a : Addr}
theorem fnFact_of {dv : Value} {dvs : List Value} (h1 : fnB C.K f a = true) (h2 : bodyAt C.K a = some (.stmts f.body)) (h3 : dfltAt C.K a = some dv)
  (h4 : ∀ {A : Around} {fr : List Env} {φ : List (List Addr)} {Z : List Addr} {m : Mem} {s : Shared}, Inv C A fr φ Z m s -> DAll C.K φ Z s.heap dvs f.defaults)
  (h5 : ∀ {s : Shared}, C.K.In s.heap -> ∀ (M : Model) (A : Around) (E : Value -> Shared -> Prop) (Q : Option (Array Value) -> Shared -> Prop), (∀ o, ((o.getD #[]).toList = dvs) -> Q o s) -> wpAny M A (seqItems? dv) Q E s) : FnFact C f a := by
 unfold fnB at h1
 unfold bodyAt at h2
 unfold dfltAt at h3
 cases hfd : fdOf C.K a with
 | none => rw [hfd] at h1; contradiction
 | some fd =>
  rw [hfd] at h1 h2 h3
  simp only [Option.map_some, Option.some.injEq] at h2 h3
  subst h3
  refine e3_1 (fdOf_is hfd) fun oc od osl hl => ?_
  simp only [fdB, Bool.and_eq_true, decide_eq_true_eq, List.isEmpty_iff, Option.isNone_iff_eq_none] at h1
  obtain ⟨⟨⟨⟨⟨⟨⟨⟨⟨⟨⟨⟨g1, g2⟩, g3⟩, g4⟩, g5⟩, g6⟩, g7⟩, g8⟩, g9⟩, g10⟩, g11⟩, g12⟩, g13⟩ := h1
  exact ⟨scOk_of g13, oc, od, fd, osl, hl, g1, h2, g2, g3, g4, g5, ⟨g6, g7, g8, g9, g10, g11⟩, g12, dvs, h4, h5⟩
theorem fnFact0 (h1 : fnB C.K f a = true) (h2 : bodyAt C.K a = some (.stmts f.body)) (h3 : dfltAt C.K a = some .none) (h4 : f.defaults = []) : FnFact C f a := by
 refine fnFact_of (dvs := []) h1 h2 h3 (fun _ => by rw [h4]; exact .nil) fun _ M A E Q hQ => ?_
 show wpAny M A (pure none) Q E _
 exact wpAny_pure (hQ none rfl)
theorem fnFactT {T : Addr} {o : Obj} {its : Array Value} {n : Nat} (h1 : fnB C.K f a = true) (h2 : bodyAt C.K a = some (.stmts f.body)) (h3 : dfltAt C.K a = some (.ref T)) (h4 : C.K.lookup T = some o) (h5 : o.data = .seq its n)
  (h6 : ∀ {A : Around} {fr : List Env} {φ : List (List Addr)} {Z : List Addr} {m : Mem} {s : Shared}, Inv C A fr φ Z m s -> DAll C.K φ Z s.heap its.toList f.defaults) : FnFact C f a := by
 refine fnFact_of (dvs := its.toList) h1 h2 h3 h6 fun X M A E Q hQ => ?_
 exact wpAny_seqItems (X _ _ h4) h5 (hQ _ rfl)
theorem lies_tup {T : Addr} {vs : List Value} {n : Nat} {ds : List D} (h4 : C.K.lookup T = some (tupOf vs.toArray n)) (hz : ds.length <= 16777216) {A : Around} {fr : List Env} {φ : List (List Addr)} {Z : List Addr} {m : Mem} {s : Shared} (I : Inv C A fr φ Z m s) (r : DAll C.K φ Z s.heap vs ds) : DRep C.K φ Z s.heap (.ref T) (.tup ds) := by
 have h0 := C.X0 _ _ h4
 refine .tup (I.K _ _ h4) hz (fun q => ?_) (fun q => ?_) r
 ·have := (I.mem.apart _ q).2.1; rw [h0] at this; contradiction
 ·have := none_of_size (I.z0 _ q).1; rw [h0] at this; contradiction
end
noncomputable def topFns : List Stmt -> List (Str × Fn)
 | [] => []
 | s :: r => (defOf s).toList ++ topFns r
noncomputable def clsOf : List Stmt -> List (Str × List (Str × Fn))
 | [] => []
 | .ClassDef c _ _ b _ _ _ _ _ _ _ :: r => if cls.contains c then (c, b.filterMap defOf) :: clsOf r else clsOf r
 | _ :: r => clsOf r
noncomputable def txt : Txt := { fns := topFns PySem.Challenge.pw_nu0035_01.main.body, meths := clsOf PySem.Challenge.pw_nu0035_01.main.body, globs := theGlobs }
theorem compTurn_two1 (elt t it t2 it2 : Expr) (sc : Scope) (pos : Pos) (J acc : Value) (env : Env) :
  compTurn (.ListComp elt [⟨t, it, [], 0⟩, ⟨t2, it2, [], 0⟩] sc pos) 1 J acc env = (standAt it2.pos >>= fun _ => pyNext J >>= fun r => match r with
   | none => pure (.done .next)
   | some v => letOwnedTupleGo t2 J v >>= fun _ => assign t2 env v >>= fun _ =>
    (eval elt env >>= fun x => call (.builtin "list.append") [acc, x] >>= fun _ => pure ()) >>= fun _ =>
     again (.compLoop (.ListComp elt [⟨t, it, [], 0⟩, ⟨t2, it2, [], 0⟩] sc pos) 1 J acc env)) := by rfl
theorem compTurn_two0 (elt t it t2 it2 : Expr) (sc : Scope) (pos : Pos) (J acc : Value) (env : Env) :
  compTurn (.ListComp elt [⟨t, it, [], 0⟩, ⟨t2, it2, [], 0⟩] sc pos) 0 J acc env = (standAt it.pos >>= fun _ => pyNext J >>= fun r => match r with
   | none => pure (.done .next)
   | some v => letOwnedTupleGo t J v >>= fun _ => assign t env v >>= fun _ =>
    eval it2 env >>= fun x => standAt it2.pos >>= fun _ => foldedSetIterable it2 env x >>= fun x => holding [x] (pyIter x) >>= fun y =>
     runOwn (.compStart (.ListComp elt [⟨t, it, [], 0⟩, ⟨t2, it2, [], 0⟩] sc pos) 1 y acc env) env >>= fun _ =>
     again (.compLoop (.ListComp elt [⟨t, it, [], 0⟩, ⟨t2, it2, [], 0⟩] sc pos) 0 J acc env)) := by rfl
section
variable {prog : Program} {w : World} {A : Around} {R : Result -> Shared -> Prop} {s : Shared} {elt t it t2 it2 : Expr} {sc : Scope} {pos : Pos} {J acc : Value} {env : Env}
theorem compStart_two1
  (h0 : codeAny (model prog w) A (.compLoop (.ListComp elt [⟨t, it, [], 0⟩, ⟨t2, it2, [], 0⟩] sc pos) 1 J acc env) R s)
  (h : wpAny (model prog w) A (pyIter J) (fun J' s' => codeAny (model prog w) A (.compLoop (.ListComp elt [⟨t, it, [], 0⟩, ⟨t2, it2, [], 0⟩] sc pos) 1 J' acc env) R s')
   (notedBy (model prog w) A env fun x s' => R (.error x) s') s) :
  codeAny (model prog w) A (.compStart (.ListComp elt [⟨t, it, [], 0⟩, ⟨t2, it2, [], 0⟩] sc pos) 1 J acc env) R s := by
 refine codeAny_of_tree ?_
 show wpAny _ _ ((compStart (.ListComp elt [⟨t, it, [], 0⟩, ⟨t2, it2, [], 0⟩] sc pos) 1 J acc env).onRaise (fun x => do noteFrame x env; standAt theWindowsPlace)) _ _ s
 refine wpAny_notedAt ?_
 unfold compStart
 show wpAny _ _ (ask >>= _) _ _ s
 refine wpAny_bind (wpAny_askSetting (wpAny_ite ?_))
 split
 ·first
   | exact wpAny_bind (wpAny_pure (wpAny_pure (And.intro rfl h0)))
   | exact wpAny_pure (And.intro rfl h0)
 ·first
   | exact wpAny_bind (wpAny_rule (wpAny_bind (wpAny_standAt (wpAny_bind (wpAny_mono h (fun it' s' h' => wpAny_pure (And.intro rfl h')) fun _ _ x => x)))))
   | (refine wpAny_bind (wpAny_rule ?_); show wpAny _ _ (standAt it2.pos >>= _) _ _ s; exact wpAny_bind (wpAny_standAt (wpAny_bind (wpAny_mono h (fun it' s' h' => wpAny_pure (And.intro rfl h')) fun _ _ x => x))))
theorem compLoop_two1 (I : Nat -> Shared -> Prop)
  (turn : ∀ n s, I n s -> wpAny (model prog w) A (pyNext J) (fun r s₁ => match r with
   | none => R (.ok .next) s₁
   | some v => wpAny (model prog w) A (letOwnedTupleGo t2 J v) (fun _ s₁' => wpAny (model prog w) A (assign t2 env v) (fun _ s₂ =>
     wpAny (model prog w) A (eval elt env) (fun x s₄ =>
       wpAny (model prog w) A (call (.builtin "list.append") [acc, x]) (fun _ s₅ => ∃ m, m < n /\ I m s₅) (notedBy (model prog w) A env fun e s' => R (.error e) s') s₄) (notedBy (model prog w) A env fun e s' => R (.error e) s') s₂)
     (notedBy (model prog w) A env fun e s' => R (.error e) s') s₁') (notedBy (model prog w) A env fun e s' => R (.error e) s') s₁) (notedBy (model prog w) A env fun e s' => R (.error e) s') s)
  (n : Nat) (h : I n s) : codeAny (model prog w) A (.compLoop (.ListComp elt [⟨t, it, [], 0⟩, ⟨t2, it2, [], 0⟩] sc pos) 1 J acc env) R s := by
 refine codeAny_loop rfl I (fun n s hI => ?_) n h
 show wpAny _ A ((compTurn (.ListComp elt [⟨t, it, [], 0⟩, ⟨t2, it2, [], 0⟩] sc pos) 1 J acc env).onRaise (fun x => do noteFrame x env; theTreesLotGoes x)) _ _ s
 refine wpAny_noted ?_
 rw [compTurn_two1]
 refine wpAny_bind (wpAny_standAt (wpAny_bind (wpAny_mono (turn n s hI) (fun r s₁ h₁ => ?_) fun _ _ h' => h')))
 induction r with
 | none => exact wpAny_pure h₁
 | some v =>
  refine wpAny_bind (wpAny_mono h₁ (fun _ s₁' h₁' => ?_) fun _ _ h' => h')
  exact wpAny_bind (wpAny_mono h₁' (fun _ s₂ h₂ => wpAny_bind (wpAny_bind (wpAny_mono h₂ (fun x s₄ h₄ => wpAny_bind (wpAny_mono h₄ (fun _ s₅ h₅ => wpAny_pure (wpAny_pure ⟨rfl, h₅⟩)) fun _ _ h' => h')) fun _ _ h' => h'))) fun _ _ h' => h')
end
section
variable {prog : Program} {w : World} {A : Around} {R : Result -> Shared -> Prop} {s : Shared} {elt t it t2 it2 : Expr} {sc : Scope} {pos : Pos} {J acc : Value} {env : Env}
theorem compLoop_two0 (I : Nat -> Shared -> Prop) (hfold : ∀ x, foldedSetIterable it2 env x = pure x)
  (turn : ∀ n s, I n s -> wpAny (model prog w) A (pyNext J) (fun r s₁ => match r with
   | none => R (.ok .next) s₁
   | some v => wpAny (model prog w) A (letOwnedTupleGo t J v) (fun _ s₁' => wpAny (model prog w) A (assign t env v) (fun _ s₂ =>
     wpAny (model prog w) A (eval it2 env) (fun x s₃ => wpAny (model prog w) A (pyIter x) (fun y s₄ =>
      codeAny (model prog w) A (.compStart (.ListComp elt [⟨t, it, [], 0⟩, ⟨t2, it2, [], 0⟩] sc pos) 1 y acc env) (fun r s₅ => match r with
       | .ok f => ∃ m, m < n /\ I m s₅
       | .error e => cameBackBy (model prog w) A env (notedBy (model prog w) A env fun e s' => R (.error e) s') e s₅) s₄)
       (notedBy (model prog w) A env fun e s' => R (.error e) s') s₃) (notedBy (model prog w) A env fun e s' => R (.error e) s') s₂)
     (notedBy (model prog w) A env fun e s' => R (.error e) s') s₁') (notedBy (model prog w) A env fun e s' => R (.error e) s') s₁) (notedBy (model prog w) A env fun e s' => R (.error e) s') s)
  (n : Nat) (h : I n s) : codeAny (model prog w) A (.compLoop (.ListComp elt [⟨t, it, [], 0⟩, ⟨t2, it2, [], 0⟩] sc pos) 0 J acc env) R s := by
 refine codeAny_loop rfl I (fun n s hI => ?_) n h
 show wpAny _ A ((compTurn (.ListComp elt [⟨t, it, [], 0⟩, ⟨t2, it2, [], 0⟩] sc pos) 0 J acc env).onRaise (fun x => do noteFrame x env; theTreesLotGoes x)) _ _ s
 refine wpAny_noted ?_
 rw [compTurn_two0]
 refine wpAny_bind (wpAny_standAt (wpAny_bind (wpAny_mono (turn n s hI) (fun r s₁ h₁ => ?_) fun _ _ h' => h')))
 induction r with
 | none => exact wpAny_pure h₁
 | some v =>
  refine wpAny_bind (wpAny_mono h₁ (fun _ s₁' h₁' => ?_) fun _ _ h' => h')
  refine wpAny_bind (wpAny_mono h₁' (fun _ s₂ h₂ => ?_) fun _ _ h' => h')
  refine wpAny_bind (wpAny_mono h₂ (fun x s₃ h₃ => ?_) fun _ _ h' => h')
  refine wpAny_bind (wpAny_standAt (wpAny_bind (wpAny_of_eq (hfold x) ?_)))
  refine wpAny_bind (wpAny_holding (wpAny_mono h₃ (fun y s₄ h₄ => ?_) fun _ _ h' => h'))
  refine wpAny_bind (wpAny_mono (wpAny_runOwn (h := none) (Q := fun _ s₅ => ∃ m, m < n /\ I m s₅) (by rw [Around.mark_none]; exact h₄)) (fun _ s₅ h₅ => wpAny_pure ⟨rfl, h₅⟩) fun _ _ h' => h')
end
section
variable {C : Cst} {T : Tabs} {Rm : Around -> Prop} {n : Nat} {A : Around} {fr : List Env} {φ : List (List Addr)} {Z Z1 : List Addr} {m : Mem} {s : Shared} {E : Env} {sc sc' : Scope} {vars : Vars}
structure InTurn (C : Cst) (A : Around) (fr : List Env) (φ : List (List Addr)) (Z Z1 : List Addr) (s : Shared) (E : Env) (sc' : Scope) (base : Vars) (J Da Ca : Addr) (ds : List D) (P : Nat -> Value -> Prop) (St : Nat -> Heap -> Prop) (i : Nat) (acc : List D) (φi : List (List Addr)) (mi : Mem) (s' : Shared) : Prop where
 st : St i s'.heap
 inv : Inv C A fr φi (J :: Z1) mi s'
 frs : ∀ e ∈ fr, FrOk Z s'.heap e
 step : XStep φ Z1 [Da, Ca] s φi s'
 res : ∃ ws k, s'.heap.get? Da = some (W.listOf ws.toArray k) /\ DAll C.K φi (J :: Z1) s'.heap ws acc
 rep : ∀ j v, j < ds.length -> P j v -> ∃ d, ds[j]? = some d /\ DRep C.K φi (J :: Z1) s'.heap v d
 vars : VarsAt C.K φi (J :: Z1) s'.heap (compEnvC sc' (clOf E sc'.names []) Ca E) sc' base
structure Within (s : Shared) (Z Z1 : List Addr) (J Da Ca : Addr) : Prop where
 j : s.heap.get? J = none
 d : Da ∈ Z1
 c : Ca ∈ Z1
 dc : Da ≠ Ca
 nd : Da ∉ Z
 nc : Ca ∉ Z
 sub : ∀ a ∈ Z, a ∈ Z1
 live : ∀ a ∈ Z1, ∃ o, s.heap.get? a = some o
theorem Within.own {J Da Ca : Addr} (N : Within s Z Z1 J Da Ca) : ∀ a ∈ J :: Z1, a ∈ Z1 \/ s.heap.get? a = none := fun a ha => by
 rcases List.mem_cons.mp ha with rfl | h
 ·exact .inr N.j
 ·exact .inl h
theorem Within.ne {J Da Ca : Addr} (N : Within s Z Z1 J Da Ca) {a : Addr} (h : a ∈ Z1) : a ≠ J := fun q => by
 refine e1_1 (N.live a h) fun o ho => ?_
 exact live_ne ho (q ▸ N.j)
theorem in_turn {elt t : Expr} {J Da Ca : Addr} {ax : List Addr} {ds acc : List D} {base env' env0 : Vars} {P : Nat -> Value -> Prop} {St : Nat -> Heap -> Prop} {i : Nat} {φi : List (List Addr)} {mi m₁ : Mem} {s' : Shared} {d e : D} {Fin : Shared -> Prop} {X X' X'' X''' X4 : Value -> Shared -> Prop}
  (hn : SE C T Rm n) (hR : Rm A) (ok' : EnvOk (compEnvC sc' (clOf E sc'.names []) Ca E) sc') (hs : CompSc sc sc') (cz : ∀ p ∈ (compEnvC sc' (clOf E sc'.names []) Ca E).cells, p.2 ∈ Z) (it : Iter C A J ax ds.length P St) (N : Within s Z Z1 J Da Ca) (hax : ∀ a ∈ ax, a ∉ φ.flatten /\ a ∉ Z1 /\ ∃ o, s.heap.get? a = some o) (ht : okTarget sc' t = true)
  (hi : InTurn C A fr φ Z Z1 s E sc' base J Da Ca ds P St i acc φi mi s') (hd : ds[i]? = some d) (hb : bindTo t d base = some env0) (hw : ∀ x d0, env'.lookup x = some d0 -> env0.lookup x = some d0) (hev : ev T n sc' elt env' mi = .ok e m₁) (hz : acc.length <= 16000000) (hkeep : ∀ x d0, base.lookup x = some d0 -> env0.lookup x = some d0)
  (k : ∀ φ'' s'', InTurn C A fr φ Z Z1 s E sc' base J Da Ca ds P St (i + 1) (acc ++ [e]) φ'' m₁ s'' -> Fin s'') :
  wpAny (model C.prog C.w) A (pyNext (.ref J)) (fun r s₁ => match r with
   | none => False
   | some v => wpAny (model C.prog C.w) A (letOwnedTupleGo t (.ref J) v) (fun _ s₁' => wpAny (model C.prog C.w) A (assign t (compEnvC sc' (clOf E sc'.names []) Ca E) v) (fun _ s₂ =>
     wpAny (model C.prog C.w) A (eval elt (compEnvC sc' (clOf E sc'.names []) Ca E)) (fun x s₄ => wpAny (model C.prog C.w) A (call (.builtin "list.append") [.ref Da, x]) (fun _ s₅ => Fin s₅) X s₄) X' s₂) X'' s₁') X''' s₁) X4 s' := by
 have hlt : i < ds.length := (List.getElem?_eq_some_iff.mp hd).1
 have hJ : ∀ a ∈ [J], a ∈ J :: Z1 := fun a h => by simp at h; simp [h]
 have hC : ∀ a ∈ [Ca], a ∈ J :: Z1 := fun a h => by simp at h; rw [h]; exact .tail _ N.c
 have hD : ∀ a ∈ [Da], a ∈ J :: Z1 := fun a h => by simp at h; rw [h]; exact .tail _ N.d
 have sub1 : ∀ a ∈ Z1, a ∈ J :: Z1 := fun a h => .tail _ h
 have subZ : ∀ a ∈ Z, a ∈ J :: Z1 := fun a h => .tail _ (N.sub a h)
 have nz : ∀ a ∈ Z, a ≠ J /\ a ≠ Da /\ a ≠ Ca := fun a ha => ⟨N.ne (N.sub a ha), fun q => N.nd (q ▸ ha), fun q => N.nc (q ▸ ha)⟩
 have nJD : J ≠ Da := fun q => N.ne N.d q.symm
 have nJC : J ≠ Ca := fun q => N.ne N.c q.symm
 obtain ⟨hst, I, frs, stp, ⟨ws, kk, hres, hall⟩, rep, V⟩ := hi
 refine it.W.item i s' _ _ hlt hst fun v h1 tk1 hP hst1 hk1 => ?_
 dsimp only
 have T1 : Touch [J] s'.heap h1 := ⟨fun a o q e => hk1 a o q e, fun a ha _ => by
  obtain rfl := List.mem_singleton.mp ha
  refine e1_2 (it.firm _ _ hst1) fun o ho _ => ?_; exact ⟨o, ho⟩⟩
 have frs1 : ∀ e ∈ fr, FrOk Z h1 e := fun e he => (frs e he).out T1 fun a ha q => by obtain rfl := List.mem_singleton.mp ha; exact (nz _ q).1 rfl
 have I1 : Inv C A fr φi (J :: Z1) mi { s' with heap := h1, toks := tk1 } := I.touch T1 hJ fun e he => (frs1 e he).more subZ
 have S1 : XStep φ Z1 [Da, Ca] s φi { s' with heap := h1, toks := tk1 } := stp.inner (T1.x hJ) N.own sub1 fun a ha q => by obtain rfl := List.mem_singleton.mp ha; exact absurd rfl (N.ne q)
 refine e1_2 (rep i v hlt hP) fun d' hd' rv => ?_
 rw [hd] at hd'; obtain rfl := Option.some.inj hd'
 have V1 : VarsAt C.K φi (J :: Z1) h1 (compEnvC sc' (clOf E sc'.names []) Ca E) sc' base := V.touch T1 hJ (by show Ca ∉ [J]; simp; exact fun q => nJC q.symm) fun p hp q => (nz _ (cz p hp)).1 (by simpa using q)
 refine it.goAny (s := { s' with heap := h1, toks := tk1 }) ht hst1 ?_
 refine snd_target (s := { s' with heap := h1, toks := tk1 }) I1 ok' ht hb V1 (rv.touch T1 hJ) fun h2 tk2 T2 V2 => ?_
 rw [comp_own hs] at T2
 dsimp only at T2
 have frs2 : ∀ e ∈ fr, FrOk Z h2 e := fun e he => (frs1 e he).out T2 fun a ha q => by obtain rfl := List.mem_singleton.mp ha; exact (nz _ q).2.2 rfl
 have I2 : Inv C A fr φi (J :: Z1) mi { s' with heap := h2, toks := tk2 } := I1.touch (tk := tk2) T2 hC fun e he => (frs2 e he).more subZ
 have S2 : XStep φ Z1 [Da, Ca] s φi { s' with heap := h2, toks := tk2 } := S1.inner (Touch.x (s := { s' with heap := h1, toks := tk1 }) (tk := tk2) T2 hC) N.own sub1 fun a ha q => by obtain rfl := List.mem_singleton.mp ha; simp
 refine hn.ok hR I2 ok' (V2.weaken hw) hev fun x φ3 s3 st3 q3 r3 => ?_
 have I3 := I2.step st3 q3
 have S3 : XStep φ Z1 [Da, Ca] s φ3 s3 := S2.inner (own' := []) st3.x N.own sub1 fun a ha _ => by exact absurd ha List.not_mem_nil
 refine e2_1 st3.same fun h3 tk3 ee1 => ?_; subst ee1
 have frs3 : ∀ e ∈ fr, FrOk Z h3 e := fun e he => by
  obtain ⟨hk, L, mm, hf, hz, hns⟩ := frs2 e he
  exact ⟨hk, L, mm, hf, hz, (st3.zs L (subZ L hz)).ns mm hns⟩
 have hres3 : h3.get? Da = some (W.listOf ws.toArray kk) := (st3.zs Da (.tail _ N.d)).firm _ (T2.keep _ _ (by simp; exact N.dc) (T1.keep _ _ (by simp; exact fun q => nJD q.symm) hres)) rfl
 have hall3 : DAll C.K φ3 (J :: Z1) h3 ws acc := ((hall.touch T1 hJ).touch T2 hC).step st3
 refine wpAny_list_append_plain (s := { s' with heap := h3, toks := tk3 }) ⟨kk, hres3⟩ (fun h5 hl5 hs5 => ?_) (by rw [List.size_toArray, hall.length, sizeLine_eq]; lia)
 refine e1_1 hl5 fun k5 hl5 => ?_
 have T5 : Touch [Da] h3 h5 := same_touch hs5 (by simp) ⟨_, hl5⟩
 have frs5 : ∀ e ∈ fr, FrOk Z h5 e := fun e he => (frs3 e he).out T5 fun a ha q => by obtain rfl := List.mem_singleton.mp ha; exact (nz _ q).2.1 rfl
 have axk : ∀ a ∈ ax, a ≠ J /\ a ≠ Da /\ a ≠ Ca /\ a ∉ φi.flatten /\ a ∉ J :: Z1 := fun a ha => by
  obtain ⟨g1, g2, o, g3⟩ := hax a ha
  have n1 : a ≠ J := fun q => live_ne g3 (q ▸ N.j)
  refine ⟨n1, fun q => g2 (q ▸ N.d), fun q => g2 (q ▸ N.c), fun q => live_ne g3 (stp.new a q g1).2, fun q => ?_⟩
  rcases List.mem_cons.mp q with q | q
  ·exact n1 q
  ·exact g2 q
 refine k φ3 { s' with heap := h5, toks := tk3 } ⟨?_, ?_, frs5, ?_, ?_, ?_, ?_⟩
 ·refine it.W.frame _ _ _ hst1 fun b hb o e => ?_
  rcases List.mem_cons.mp hb with rfl | hb
  ·refine e1_2 (it.firm _ _ hst1) fun o' ho' hf => ?_
   rw [e] at ho'; obtain rfl := Option.some.inj ho'
   exact T5.keep _ _ (by simp; exact nJD) ((st3.zs b (by simp)).firm _ (T2.keep _ _ (by simp; exact nJC) e) hf)
  ·refine e0_5 (axk b hb) fun n1 n2 n3 n4 n5 => ?_
   exact T5.keep _ _ (by simp; exact n2) (st3.keep _ _ (T2.keep _ _ (by simp; exact n3) e) n4 n5)
 ·exact I3.touch (tk := tk3) T5 hD fun e he => (frs5 e he).more subZ
 ·exact S3.inner (Touch.x (s := { s' with heap := h3, toks := tk3 }) (tk := tk3) T5 hD) N.own sub1 fun a ha q => by obtain rfl := List.mem_singleton.mp ha; simp
 ·refine ⟨ws ++ [x], k5, ?_, (hall3.append (.one r3)).touch T5 hD⟩
  have e5 : ws.toArray.push x = (ws ++ [x]).toArray := by simp
  rw [e5] at hl5; exact hl5
 ·intro j v hj hP
  refine e1_2 (rep j v hj hP) fun d g1 g2 => ?_
  exact ⟨d, g1, (((g2.touch T1 hJ).touch T2 hC).step st3).touch T5 hD⟩
 ·have Vb : VarsAt C.K φi (J :: Z1) h2 (compEnvC sc' (clOf E sc'.names []) Ca E) sc' base := V2.weaken hkeep
  exact (Vb.step st3).touch T5 hD (by show Ca ∉ [Da]; simp; exact fun q => N.dc q.symm) fun p hp q => (nz _ (cz p hp)).2.1 (by simpa using q)
end
noncomputable def nmOf : Expr -> Option Str
 | .Name x _ => some x
 | _ => none
noncomputable def tNames : Expr -> List Str
 | .Name x _ => [x]
 | .Tuple ts _ _ => ts.filterMap nmOf
 | _ => []
noncomputable def rest (t : Expr) (v : Vars) : Vars := v.filter fun p => !(tNames t).contains p.1
theorem lookup_filter (f : Str -> Bool) (x : Str) (v : Vars) : (v.filter fun p => f p.1).lookup x = if f x then v.lookup x else none := by
 induction v with
 | nil => exact (ite_self _).symm
 | cons p r ih =>
  rw [List.lookup_cons]
  by_cases w : (x == p.1) = true
  ·have e := eq_of_beq w
   rw [w]
   by_cases q : f p.1 = true
   ·rw [List.filter_cons_of_pos (p := fun p : Str × D => f p.1) q, List.lookup_cons, w, e, if_pos q]
   ·rw [List.filter_cons_of_neg (p := fun p : Str × D => f p.1) q, ih, e, if_neg q, if_neg q]
  ·rw [Bool.eq_false_iff.mpr w]
   by_cases q : f p.1 = true
   ·rw [List.filter_cons_of_pos (p := fun p : Str × D => f p.1) q, List.lookup_cons, Bool.eq_false_iff.mpr w, ih]
   ·rw [List.filter_cons_of_neg (p := fun p : Str × D => f p.1) q, ih]
theorem names_rest (ts : List Expr) (ds : List D) (v w v' : Vars) (e : assignNames ts ds v = some v') (h : ∀ x d0, v.lookup x = some d0 -> x ∈ ts.filterMap nmOf \/ w.lookup x = some d0) :
  ∃ w', assignNames ts ds w = some w' /\ ∀ x d0, v'.lookup x = some d0 -> w'.lookup x = some d0 := by
 induction ts generalizing ds v w with
 | nil =>
  induction ds using List.casesOn with
  | nil => exact ⟨w, rfl, fun x d0 hx => (h x d0 ((Option.some.inj e).symm ▸ hx)).resolve_left List.not_mem_nil⟩
  | cons _ _ => exact none_some e
 | cons t ts ih =>
  have c := cons_name e
  clear e
  induction c with | mk y p d ds e => _
  refine ih ds (setv y d v) (setv y d w) e fun x d0 hx => ?_
  by_cases q : x = y
  ·rw [q, setv_eq] at hx ⊢; exact .inr hx
  ·rw [setv_ne q] at hx ⊢
   exact (h x d0 hx).elim (fun g => (List.mem_cons.mp g).elim (fun g => absurd g q) .inl) .inr
theorem bind_rest {t : Expr} {d : D} {v v' : Vars} (e : bindTo t d v = some v') : ∃ w', bindTo t d (rest t v) = some w' /\ ∀ x d0, v'.lookup x = some d0 -> w'.lookup x = some d0 := by
 have key : ∀ x d0, v.lookup x = some d0 -> x ∈ tNames t \/ (rest t v).lookup x = some d0 := fun x d0 hx => by
  unfold rest
  rw [lookup_filter (fun x => !(tNames t).contains x)]
  by_cases q : x ∈ tNames t
  ·exact .inl q
  ·exact .inr (by simp [q, hx])
 rcases bind_of e with ⟨y, p, e1, e2⟩ | ⟨ts, k, p, ds, e1, e2, e3⟩
 ·rw [e1] at key e ⊢
  exact names_rest [.Name y p] [d] v (rest (.Name y p) v) v' e key
 ·rw [e1] at key ⊢
  rw [e2]
  exact names_rest ts ds v _ v' e3 key
theorem rest_keep {t : Expr} {v : Vars} {x : Str} {d0 : D} (h : (rest t v).lookup x = some d0) : v.lookup x = some d0 /\ x ∉ tNames t := by
 unfold rest at h
 rw [lookup_filter (fun x => !(tNames t).contains x)] at h
 by_cases q : x ∈ tNames t
 ·simp [q] at h
 ·simp [q] at h; exact ⟨h, q⟩
theorem names_keep2 (ts : List Expr) (ds : List D) (v v' : Vars) (e : assignNames ts ds v = some v') (x : Str) (hx : x ∉ ts.filterMap nmOf) : v'.lookup x = v.lookup x := by
 induction ts generalizing ds v with
 | nil =>
  induction ds using List.casesOn with
  | nil => rw [<- Option.some.inj e]
  | cons _ _ => exact none_some e
 | cons t ts ih =>
  have c := cons_name e
  clear e
  induction c with | mk y p d ds e => _
  exact (ih ds _ e fun q => hx (.tail _ q)).trans (setv_ne fun q => hx (q ▸ .head _))
theorem bind_keep2 {t : Expr} {d : D} {v v' : Vars} (e : bindTo t d v = some v') {x : Str} (hx : x ∉ tNames t) : v'.lookup x = v.lookup x := by
 rcases bind_of e with ⟨y, p, e1, e2⟩ | ⟨ts, k, p, ds, e1, e2, e3⟩
 ·rw [e1] at e hx; exact names_keep2 [.Name y p] [d] v v' e x hx
 ·rw [e1] at hx; exact names_keep2 ts ds v v' e3 x hx
section
variable {C : Cst} {T : Tabs} {Rm : Around -> Prop} {n : Nat} {A : Around} {fr : List Env} {φ : List (List Addr)} {Z Z1 : List Addr} {m : Mem} {s : Shared} {E : Env} {sc sc' : Scope} {vars : Vars}
theorem in_end {Da Ca J : Addr} {ds acc : List D} {base : Vars} {P : Nat -> Value -> Prop} {St : Nat -> Heap -> Prop} {i tk : Nat} {φi : List (List Addr)} {m' : Mem} {s' : Shared} {h₂ : Heap} {Fin : List (List Addr) -> Shared -> Prop}
  (cz : ∀ p ∈ (compEnvC sc' (clOf E sc'.names []) Ca E).cells, p.2 ∈ Z) (big : C.H0.objs.size <= J) (N : Within s Z Z1 J Da Ca) (hA : InTurn C A fr φ Z Z1 s E sc' base J Da Ca ds P St i acc φi m' s') (k : ∀ a o, a ∉ [J] -> s'.heap.get? a = some o -> h₂.get? a = some o)
  (fin : ∀ φ' s', XStep φ Z1 [Da, Ca] s φ' s' -> Inv C A fr φ' Z1 m' s' -> (∀ e ∈ fr, FrOk Z s'.heap e) -> (∃ ws k, s'.heap.get? Da = some (W.listOf ws.toArray k) /\ DAll C.K φ' Z1 s'.heap ws acc) ->
   VarsAt C.K φ' Z1 s'.heap (compEnvC sc' (clOf E sc'.names []) Ca E) sc' base -> Fin φ' s') : Fin φi { s' with heap := h₂, toks := tk } := by
 have one : ∀ {a}, a ≠ J -> a ∉ [J] := fun n q => n (List.mem_singleton.mp q)
 have subJ : ∀ a ∈ [J], a ∈ J :: Z1 := fun a ha => List.mem_singleton.mp ha ▸ .head _
 have sub1 : ∀ a ∈ Z1, a ∈ J :: Z1 := fun a h => .tail _ h
 have nz1 : ∀ a ∈ Z1, a ∉ [J] := fun a ha => one (N.ne ha)
 have frs2 : ∀ e ∈ fr, FrOk Z h₂ e := fun e he =>
  let ⟨hk, L, mm, hf, hz, o, es, ep, ho, r⟩ := hA.frs e he
  ⟨hk, L, mm, hf, hz, o, es, ep, k L o (nz1 L (N.sub L hz)) ho, r⟩
 refine e2_2 hA.res fun ws kk hr1 hr2 => ?_
 refine e2_1 hA.step.same fun k1 t1 hsame => ?_
 exact fin φi _ ⟨⟨h₂, tk, by rw [hsame]⟩, hA.step.pre, hA.step.new, fun a o e n1 n2 => k a o (one fun q => live_ne e (q ▸ N.j)) (hA.step.keep a o e n1 n2), fun a ha ho => (hA.step.zs a ha ho).trans (NsKeep.same fun o e => k a o (nz1 a ha) e)⟩
  ⟨fun a o e => k a o (one fun q => live_ne e (q ▸ none_of_size big)) (hA.inv.h0 a o e), fun a ha => let ⟨g1, o, g2⟩ := hA.inv.z0 a (sub1 a ha); ⟨g1, o, k a o (nz1 a ha) g2⟩, hA.inv.mem.leave k subJ sub1, fun e he => (frs2 e he).more N.sub, hA.inv.frames, hA.inv.hand⟩
  frs2 ⟨ws, kk, k _ _ (nz1 _ N.d) hr1, hr2.leave k subJ sub1⟩ (hA.vars.leave k subJ sub1 (fun a ha q => nz1 a q ha) N.c fun p hp => N.sub _ (cz p hp))
inductive InAt (C : Cst) (A : Around) (fr : List Env) (φ : List (List Addr)) (Z Z1 : List Addr) (s : Shared) (E : Env) (sc' : Scope) (base : Vars) (J Da Ca : Addr) (ds : List D) (P : Nat -> Value -> Prop) (St : Nat -> Heap -> Prop) (f : D -> M D) (acc0 es : List D) (m' : Mem) (k : Nat) (s' : Shared) : Prop
 | mk (i : Nat) (acc : List D) (φi : List (List Addr)) (mi : Mem) (rest : List D) : InTurn C A fr φ Z Z1 s E sc' base J Da Ca ds P St i (acc0 ++ acc) φi mi s' -> mapM f (ds.drop i) mi = .ok rest m' -> acc ++ rest = es -> i <= ds.length -> acc.length = i -> k = ds.length + 1 - i -> InAt C A fr φ Z Z1 s E sc' base J Da Ca ds P St f acc0 es m' k s'
theorem in_loop {elt t it t2 it2 : Expr} {pos : Pos} {Da Ca : Addr} {ob : Obj} {ax : List Addr} {ds es acc0 : List D} {base : Vars} {P : Nat -> Value -> Prop} {St : Nat -> Heap -> Prop} {m' : Mem} {RR : Result -> Shared -> Prop}
  (hn : SE C T Rm n) (hR : Rm A) (ok' : EnvOk (compEnvC sc' (clOf E sc'.names []) Ca E) sc') (hs : CompSc sc sc') (cz : ∀ p ∈ (compEnvC sc' (clOf E sc'.names []) Ca E).cells, p.2 ∈ Z)
  (I : Inv C A fr φ Z1 m s) (frs : ∀ e ∈ fr, FrOk Z s.heap e) (hd : Da ∈ Z1) (hc : Ca ∈ Z1) (dc : Da ≠ Ca) (nd : Da ∉ Z) (nc : Ca ∉ Z) (sub : ∀ a ∈ Z, a ∈ Z1)
  (res : ∃ ws k, s.heap.get? Da = some (W.listOf ws.toArray k) /\ DAll C.K φ Z1 s.heap ws acc0)
  (V : VarsAt C.K φ Z1 s.heap (compEnvC sc' (clOf E sc'.names []) Ca E) sc' base)
  (IO : ItemsOf C A φ Z1 s s.heap.objs.size ob ds ax P St) (ht : ownTarget sc' t2 = true) (hz : acc0.length + ds.length <= 16000000)
  (hrun : mapM (fun d => bind (lift (bindTo t2 d base)) fun env' => ev T n sc' elt env') ds m = .ok es m')
  (fin : ∀ φ' s', XStep φ Z1 [Da, Ca] s φ' s' -> Inv C A fr φ' Z1 m' s' -> (∀ e ∈ fr, FrOk Z s'.heap e) -> (∃ ws k, s'.heap.get? Da = some (W.listOf ws.toArray k) /\ DAll C.K φ' Z1 s'.heap ws (acc0 ++ es)) ->
   VarsAt C.K φ' Z1 s'.heap (compEnvC sc' (clOf E sc'.names []) Ca E) sc' (rest t2 base) -> RR (.ok .next) s') :
  codeAny (model C.prog C.w) A (.compStart (.ListComp elt [⟨t, it, [], 0⟩, ⟨t2, it2, [], 0⟩] sc' pos) 1 (.ref s.heap.objs.size) (.ref Da) (compEnvC sc' (clOf E sc'.names []) Ca E)) RR { s with heap := s.heap.push ob } := by
 have big := I.big hd
 generalize hJ : s.heap.objs.size = J at IO big
 have N : Within s Z Z1 J Da Ca := ⟨none_of_size (Nat.le_of_eq hJ), hd, hc, dc, nd, nc, sub, fun a ha => (I.z0 a ha).2⟩
 have old : ∀ a o, s.heap.get? a = some o -> (s.heap.push ob).get? a = some o := fun a o e => Heap.get?_push_of_some _ e
 have sub1 : ∀ a ∈ Z1, a ∈ J :: Z1 := fun a h => .tail _ h
 have hob : (s.heap.push ob).get? J = some ob := by rw [<- hJ]; exact Heap.get?_push_size _ IO.free
 have I1 : Inv C A fr φ (J :: Z1) m { s with heap := s.heap.push ob } :=
  I.more (tk := s.toks) old N.own sub1 (List.forall_mem_cons.mpr ⟨⟨big, _, hob⟩, fun a h => ⟨(I.z0 a h).1, let ⟨o, q⟩ := (I.z0 a h).2; ⟨o, old a o q⟩⟩⟩)
 refine e2_2 res fun ws0 k0 hr0 ha0 => ?_
 have A0 : InTurn C A fr φ Z Z1 s E sc' (rest t2 base) J Da Ca ds P St 0 (acc0 ++ []) φ m { s with heap := s.heap.push ob } :=
  ⟨IO.st0, I1, fun e he =>
    let ⟨hk, L, mm, hf, hz, o, es, ep, ho, r⟩ := frs e he
    ⟨hk, L, mm, hf, hz, o, es, ep, old L o ho, r⟩,
   (Step.grow (tk := s.toks) φ Z1 old).x, ⟨ws0, k0, old _ _ hr0, by rw [List.append_nil]; exact ha0.mono ⟨fun a o e n1 n2 => ⟨old a o e, n1, fun q => (N.own a q).elim n2 (fun w => live_ne e w)⟩, fun _ _ e => e⟩⟩, fun j v hj hP =>
    let ⟨d, g1, g2⟩ := IO.rep j v hj hP
    ⟨d, g1, g2.more old N.own⟩,
   (V.weaken fun x d0 h => (rest_keep h).1).more old N.own sub1⟩
 generalize hf : (fun d => bind (lift (bindTo t2 d base)) fun env' => ev T n sc' elt env') = f at hrun
 have loop : codeAny (model C.prog C.w) A (.compLoop (.ListComp elt [⟨t, it, [], 0⟩, ⟨t2, it2, [], 0⟩] sc' pos) 1 (.ref J) (.ref Da) (compEnvC sc' (clOf E sc'.names []) Ca E)) RR { s with heap := s.heap.push ob } := by
  refine compLoop_two1 (InAt C A fr φ Z Z1 s E sc' (rest t2 base) J Da Ca ds P St f acc0 es m') ?_ (ds.length + 1) (.mk 0 [] φ m es A0 hrun rfl (Nat.zero_le _) rfl rfl)
  clear A0 hrun I1 hob ha0 hr0
  intro k s' ⟨i, acc, φi, mi, r, hA, hrest, hes, hi, hai, hk⟩
  cases hd : ds[i]? with
  | some d =>
   have hlt : i < ds.length := (List.getElem?_eq_some_iff.mp hd).1
   rw [drop_cons hd] at hrest
   refine e3_3 (mapM_cons hrest) fun e m₁ es' he hr hr2 => ?_
   rw [<- hf] at he
   refine e2_2 (bind_ok he) fun env' m₂ hl hev => ?_
   refine e0_2 (lift_ok hl) fun hb hm => ?_
   rw [hm] at hev
   rw [hr2] at hes
   refine e1_2 (bind_rest hb) fun env0 hb0 hw => ?_
   generalize hN : (notedBy (model C.prog C.w) A (compEnvC sc' (clOf E sc'.names []) Ca E) fun e s' => RR (.error e) s') = NB
   refine wpAny_mono (in_turn (X := NB) (X' := NB) (X'' := NB) (X''' := NB) (X4 := NB)
    (Fin := fun s₅ => ∃ m, m < k /\ InAt C A fr φ Z Z1 s E sc' (rest t2 base) J Da Ca ds P St f acc0 es m' m s₅)
    hn hR ok' hs cz IO.it N IO.ax (own_target ht) hA hd hb0 hw hev (by rw [List.length_append]; lia)
    (fun x d0 h0 => by rw [bind_keep2 hb0 (rest_keep h0).2]; exact h0)
    fun φ'' s'' hA' => ⟨ds.length + 1 - (i + 1), by lia, .mk (i + 1) (acc ++ [e]) φ'' m₁ es' (by rw [<- List.append_assoc]; exact hA') hr (by rw [List.append_assoc]; exact hes) hlt (by rw [List.length_append, hai]; rfl) rfl⟩) (fun r s₁ h₁ => ?_) fun _ _ x => x
   induction r with
   | none => exact h₁.elim
   | some v => exact h₁
  | none =>
   have hin : ds.length = i := Nat.le_antisymm (List.getElem?_eq_none_iff.mp hd) hi
   rw [<- hin, List.drop_length] at hrest
   refine e0_2 (mapM_nil hrest) fun e1 e2 => ?_
   have hes : acc = es := by rw [<- hes, e1]; exact (List.append_nil acc).symm
   rw [e2, <- hes] at fin
   exact IO.it.W.done s' _ _ (hin ▸ hA.st) fun h₂ tk₂ hk₂ => in_end (Fin := fun _ s' => RR (.ok .next) s') cz big N hA (fun a o q e => hk₂ a o q e) fin
 exact compStart_two1 loop (IO.it.W.self 0 _ _ _ IO.st0 loop)
end
section
variable {C : Cst} {T : Tabs} {Rm : Around -> Prop} {n : Nat} {A : Around} {fr : List Env} {φ : List (List Addr)} {Z : List Addr} {m : Mem} {s : Shared} {E : Env} {sc sc' : Scope} {vars : Vars}
theorem comp_turn2 {elt t it0 t2 it2 : Expr} {pos : Pos} {J Da Ca : Addr} {ax : List Addr} {ds acc ds2 es : List D} {base env' : Vars} {P : Nat -> Value -> Prop} {St : Nat -> Heap -> Prop} {i : Nat} {φi : List (List Addr)} {mi m₁ m₂ : Mem} {s' : Shared} {d d2 : D} {Fin : Shared -> Prop} {Err : Value -> Shared -> Prop} {X' X'' X''' X4 X5 : Value -> Shared -> Prop}
  (hn : SE C T Rm n) (hR : Rm A) (ok : EnvOk E sc) (hs : CompSc sc sc') (V0 : VarsAt C.K φ Z s.heap E sc vars) (it : Iter C A J ax ds.length P St) (N : News3 s Z J Da Ca) (hax : ∀ a ∈ ax, a ∉ φ.flatten /\ a ∉ Z /\ ∃ o, s.heap.get? a = some o) (ht : okTarget sc' t = true)
  (hi : AtTurn C A fr φ Z s E sc' base J Da Ca ds P St i acc φi mi s') (hd : ds[i]? = some d) (hb : bindTo t d base = some env') (he2 : ev T n sc' it2 env' mi = .ok d2 m₁) (hds : iterV d2 = some ds2) (h200 : ds2.length <= 200) (ht2 : ownTarget sc' t2 = true) (hrun : mapM (fun d => bind (lift (bindTo t2 d env')) fun env' => ev T n sc' elt env') ds2 m₁ = .ok es m₂) (hz : acc.length <= 15000000) (hkeep : ∀ x d0, base.lookup x = some d0 -> (rest t2 env').lookup x = some d0)
  (k : ∀ φ'' s'', AtTurn C A fr φ Z s E sc' base J Da Ca ds P St (i + 1) (acc ++ es) φ'' m₂ s'' -> Fin s'') :
  wpAny (model C.prog C.w) A (pyNext (.ref J)) (fun r s₁ => match r with
   | none => False
   | some v => wpAny (model C.prog C.w) A (letOwnedTupleGo t (.ref J) v) (fun _ s₁' => wpAny (model C.prog C.w) A (assign t (compEnvC sc' (clOf E sc'.names []) Ca E) v) (fun _ s₂ =>
     wpAny (model C.prog C.w) A (eval it2 (compEnvC sc' (clOf E sc'.names []) Ca E)) (fun x s₃ => wpAny (model C.prog C.w) A (pyIter x) (fun y s₄ =>
      codeAny (model C.prog C.w) A (.compStart (.ListComp elt [⟨t, it0, [], 0⟩, ⟨t2, it2, [], 0⟩] sc' pos) 1 y (.ref Da) (compEnvC sc' (clOf E sc'.names []) Ca E)) (fun r s₅ => match r with
       | .ok f => Fin s₅
       | .error e => Err e s₅) s₄) X5 s₃) X' s₂) X'' s₁') X''' s₁) X4 s' := by
 have hlt : i < ds.length := (List.getElem?_eq_some_iff.mp hd).1
 have ok' := comp_env (Ca := Ca) ok hs
 have hJ : ∀ a ∈ [J], a ∈ J :: Da :: Ca :: Z := fun a h => by simp at h; simp [h]
 have hC : ∀ a ∈ [Ca], a ∈ J :: Da :: Ca :: Z := fun a h => by simp at h; simp [h]
 have hD : ∀ a ∈ [Da], a ∈ J :: Da :: Ca :: Z := fun a h => by simp at h; simp [h]
 have nz : ∀ a ∈ Z, a ≠ J /\ a ≠ Da /\ a ≠ Ca := fun a ha => N.ne (N.z a ha)
 have cz : ∀ p ∈ (compEnvC sc' (clOf E sc'.names []) Ca E).cells, p.2 ∈ Z := fun p hp => by
  have := clOf_mem _ _ (comp_free ok hs) (fun p hp => by exact absurd hp List.not_mem_nil) p hp
  exact V0.zc _ (mem_of_lookup this)
 obtain ⟨hst, I, frs, stp, ⟨ws, kk, hres, hall⟩, rep, V⟩ := hi
 refine it.W.item i s' _ _ hlt hst fun v h1 tk1 hP hst1 hk1 => ?_
 dsimp only
 
 have T1 : Touch [J] s'.heap h1 := ⟨fun a o q e => hk1 a o q e, fun a ha _ => by
  obtain rfl := List.mem_singleton.mp ha
  refine e1_2 (it.firm _ _ hst1) fun o ho _ => ?_; exact ⟨o, ho⟩⟩
 have frs1 : ∀ e ∈ fr, FrOk Z h1 e := fun e he => (frs e he).out T1 fun a ha q => by obtain rfl := List.mem_singleton.mp ha; exact (nz _ q).1 rfl
 have I1 : Inv C A fr φi (J :: Da :: Ca :: Z) mi { s' with heap := h1, toks := tk1 } := I.touch T1 hJ fun e he => (frs1 e he).more News3.sub
 have S1 : Step φ Z s φi { s' with heap := h1, toks := tk1 } := stp.touch T1 (fun a ha => by obtain rfl := List.mem_singleton.mp ha; exact N.j) fun a ha q => by obtain rfl := List.mem_singleton.mp ha; exact (nz _ q).1 rfl
 refine e1_2 (rep i v hlt hP) fun d' hd' rv => ?_
 rw [hd] at hd'; obtain rfl := Option.some.inj hd'
 have V1 : VarsAt C.K φi (J :: Da :: Ca :: Z) h1 (compEnvC sc' (clOf E sc'.names []) Ca E) sc' base := V.touch T1 hJ (by show Ca ∉ [J]; simp; exact fun q => N.jc q.symm) fun p hp q => (nz _ (cz p hp)).1 (by simpa using q)
 refine it.goAny (s := { s' with heap := h1, toks := tk1 }) ht hst1 ?_
 refine snd_target (s := { s' with heap := h1, toks := tk1 }) I1 ok' ht hb V1 (rv.touch T1 hJ) fun h2 tk2 T2 V2 => ?_
 rw [comp_own hs] at T2
 dsimp only at T2
 have frs2 : ∀ e ∈ fr, FrOk Z h2 e := fun e he => (frs1 e he).out T2 fun a ha q => by obtain rfl := List.mem_singleton.mp ha; exact (nz _ q).2.2 rfl
 have I2 : Inv C A fr φi (J :: Da :: Ca :: Z) mi { s' with heap := h2, toks := tk2 } := I1.touch (tk := tk2) T2 hC fun e he => (frs2 e he).more News3.sub
 have S2 : Step φ Z s φi { s' with heap := h2, toks := tk2 } := S1.touch (tk := tk2) T2 (fun a ha => by obtain rfl := List.mem_singleton.mp ha; exact N.c) fun a ha q => by obtain rfl := List.mem_singleton.mp ha; exact (nz _ q).2.2 rfl
 refine hn.ok hR I2 ok' V2 he2 fun x φ3 s3 st3 q3 r3 => ?_
 have I3 := I2.step st3 q3
 have S3 : Step φ Z s φ3 s3 := S2.inner st3 N.own News3.sub
 have frs3 : ∀ e ∈ fr, FrOk Z s3.heap e := fun e he => by
  obtain ⟨hk, L, mm, hf, hz, hns⟩ := frs2 e he
  exact ⟨hk, L, mm, hf, hz, (st3.zs L (News3.sub L hz)).ns mm hns⟩
 have dZ1 : Da ∈ J :: Da :: Ca :: Z := by simp
 have cZ1 : Ca ∈ J :: Da :: Ca :: Z := by simp
 have hres3 : s3.heap.get? Da = some (W.listOf ws.toArray kk) := (st3.zs Da (by simp)).firm _ (T2.keep _ _ (by simp; exact N.dc) (T1.keep _ _ (by simp; exact fun q => N.jd q.symm) hres)) rfl
 have hall3 : DAll C.K φ3 (J :: Da :: Ca :: Z) s3.heap ws acc := ((hall.touch T1 hJ).touch T2 hC).step st3
 have V3 := V2.step st3
 have hc := cap_is
 refine snd_iter I3 r3 hds (by lia) fun ob ax2 P2 St2 IO2 => ?_
 refine in_loop (Z := Z) hn hR ok' hs cz I3 frs3 dZ1 cZ1 N.dc (fun q => (nz _ q).2.1 rfl) (fun q => (nz _ q).2.2 rfl) News3.sub ⟨ws, kk, hres3, hall3⟩ V3 IO2 ht2 (by lia) hrun fun φ4 s4 x4 I4 frs4 res4 V4 => ?_
 refine k φ4 s4 ⟨?_, I4, frs4, ?_, res4, ?_, V4.weaken hkeep⟩
 ·refine it.W.frame _ _ _ hst1 fun b hb o e => ?_
  rcases List.mem_cons.mp hb with rfl | hb
  ·refine e1_2 (it.firm _ _ hst1) fun o' ho' hf => ?_
   rw [e] at ho'; obtain rfl := Option.some.inj ho'
   exact (x4.zs b (by simp) (by simp; exact ⟨N.jd, N.jc⟩)).firm _ ((st3.zs b (by simp)).firm _ (T2.keep _ _ (by simp; exact N.jc) e) hf) hf
  ·obtain ⟨g1, g2, og, g3⟩ := hax b hb
   refine e0_3 (N.ne ⟨og, g3⟩) fun n1 n2 n3 => ?_
   have n5 : b ∉ J :: Da :: Ca :: Z := by simp; exact ⟨n1, n2, n3, g2⟩
   exact x4.keep _ _ (st3.keep _ _ (T2.keep _ _ (by simp; exact n3) e) (fun q => live_ne g3 (stp.new b q g1).2) n5) (fun q => live_ne g3 (S3.new b q g1).2) n5
 ·exact (XStep.inner (own := []) S3.x x4 N.own News3.sub fun a ha q => by simp at ha; rcases ha with rfl | rfl; exact absurd rfl (nz _ q).2.1; exact absurd rfl (nz _ q).2.2).toStep fun a ha => by exact absurd ha List.not_mem_nil
 ·intro j v hj hP
  refine e1_2 (rep j v hj hP) fun d g1 g2 => ?_
  exact ⟨d, g1, (((g2.touch T1 hJ).touch T2 hC).step st3).xstep x4⟩
end
theorem rest_of {t : Expr} {v : Vars} {x : Str} (h : x ∉ tNames t) : (rest t v).lookup x = v.lookup x := by
 unfold rest
 rw [lookup_filter (fun x => !(tNames t).contains x)]
 simp [h]
theorem own_tNames {sc : Scope} {t : Expr} (h : ownTarget sc t = true) {x : Str} (hx : x ∈ tNames t) : kindOf sc x = some .local := by
 rcases own_is h with ⟨y, p, e, hy⟩ | ⟨ts, k, p, e, hy⟩
 ·rw [e] at hx; rw [List.mem_singleton.mp hx]; exact hy
 ·rw [e] at hx
  refine e1_2 (List.mem_filterMap.mp hx) fun u hu e2 => ?_
  refine e2_2 (hy u hu) fun y p e3 hy => ?_
  rw [e3] at e2
  exact Option.some.inj e2 ▸ hy
theorem comp2_keep {sc' : Scope} {t t2 : Expr} {d : D} {vars env' : Vars} (ht : ownTarget sc' t = true) (ht2 : ownTarget sc' t2 = true) (hb : bindTo t d (compVars sc' vars) = some env') :
  ∀ x d0, (compVars sc' vars).lookup x = some d0 -> (rest t2 env').lookup x = some d0 := fun x d0 h => by
 have hk := (compVars_lookup h).1
 have hl : kindOf sc' x ≠ some .local := by rw [hk]; simp
 rw [rest_of fun q => hl (own_tNames ht2 q)]
 exact bind_keep ht hb hl h
section
theorem mapM_length {β : Type} {f : D -> M β} : ∀ {l : List D} {m m' : Mem} {r : List β}, mapM f l m = .ok r m' -> r.length = l.length
 | [], _, _, _, h => by obtain ⟨rfl, rfl⟩ := Mine.Res.ok.inj h; rfl
 | a :: l, _, _, _, h => by
  refine e3_3 (mapM_cons h) fun e m₁ es' he hr ee1 => ?_; subst ee1
  simp [mapM_length hr]
variable {C : Cst} {T : Tabs} {Rm : Around -> Prop} {n : Nat} {A : Around} {fr : List Env} {φ : List (List Addr)} {Z : List Addr} {m : Mem} {s : Shared} {E : Env} {sc sc' : Scope} {vars : Vars}
theorem comp_core2 {elt t it t2 it2 : Expr} {pos : Pos} {ob : Obj} {ax : List Addr} {ds : List D} {ess : List (List D)} {P : Nat -> Value -> Prop} {St : Nat -> Heap -> Prop} {m' : Mem} {X : Value -> Shared -> Prop} {RR : Value -> Addr -> Result -> Shared -> Prop}
  (hn : SE C T Rm n) (hR : Rm A) (ok : EnvOk E sc) (hs : CompSc sc sc') (I : Inv C A fr φ Z m s) (V : VarsAt C.K φ Z s.heap E sc vars) (IO : ItemsOf C A φ Z s s.heap.objs.size ob ds ax P St) (ht : ownTarget sc' t = true) (hz : ds.length <= cap)
  (hrun : mapM (fun d => bind (lift (bindTo t d (compVars sc' vars))) fun env1 => bind (ev T n sc' it2 env1) fun d2 => bind (lift (iterV d2)) fun ds2 => if ds2.length <= 200 then mapM (fun d2 => bind (lift (bindTo t2 d2 env1)) fun env2 => ev T n sc' elt env2) ds2 else fail) ds m = .ok ess m') (ht2 : ownTarget sc' t2 = true) (hset : notSet it2 = true)
  (fin : ∀ Da Ca φ' s', CompEnd C φ Z s m' ess.flatten Da Ca φ' s' -> RR (.ref Da) Ca (.ok .next) s') :
  wpAny (model C.prog C.w) A (newList []) (fun acc s₃ => wpAny (model C.prog C.w) A (newFunctionEnv sc' E.globals (clOf E sc'.names []) [] E.qual none .none (some E)) (fun cenv s₄ =>
   codeAny (model C.prog C.w) A (.compStart (.ListComp elt [⟨t, it, [], 0⟩, ⟨t2, it2, [], 0⟩] sc' pos) 0 (.ref s.heap.objs.size) acc { cenv with scope := relabel sc' E }) (RR acc cenv.locals) s₄) X s₃) X { s with heap := s.heap.push ob } := by
 generalize hJ : s.heap.objs.size = J at IO
 refine comp_begin hJ ok hs I V IO fun Da Ca s₃ N A0 => ?_
 have hc := cap_is
 generalize hf : (fun d => bind (lift (bindTo t d (compVars sc' vars))) fun env1 => bind (ev T n sc' it2 env1) fun d2 => bind (lift (iterV d2)) fun ds2 => if ds2.length <= 200 then mapM (fun d2 => bind (lift (bindTo t2 d2 env1)) fun env2 => ev T n sc' elt env2) ds2 else fail) = f at hrun
 have loop : codeAny (model C.prog C.w) A (.compLoop (.ListComp elt [⟨t, it, [], 0⟩, ⟨t2, it2, [], 0⟩] sc' pos) 0 (.ref J) (.ref Da) (compEnvC sc' (clOf E sc'.names []) Ca E)) (RR (.ref Da) Ca) s₃ := by
  refine compLoop_two0 (hfold := fun x => set_folded hset x) (I := CompAt C A fr φ Z s E sc' (compVars sc' vars) J Da Ca ds P St f List.flatten ess.flatten 200 m') ?_ (ds.length + 1) (.mk 0 [] φ m ess A0 hrun rfl (Nat.zero_le _) (Nat.zero_le _) rfl)
  intro k s' ⟨i, acc, φi, mi, rest, hA, hrest, hes, hi, hai, hk⟩
  clear hrun A0
  cases hd : ds[i]? with
  | some d =>
   have hlt : i < ds.length := (List.getElem?_eq_some_iff.mp hd).1
   rw [drop_cons hd] at hrest
   refine e3_3 (mapM_cons hrest) fun e m₁ es' he hr hr2 => ?_
   rw [<- hf] at he
   refine e2_2 (bind_ok he) fun env' m₂ hl hev => ?_
   refine e0_2 (lift_ok hl) fun hb hm => ?_
   rw [hm] at hev
   refine e2_2 (bind_ok hev) fun d2 m₃ he2 hev2 => ?_
   refine e2_2 (bind_ok hev2) fun ds2 m₄ hl2 hev3 => ?_
   refine e0_2 (lift_ok hl2) fun hds hm4 => ?_
   rw [hm4] at hev3
   have h200 : ds2.length <= 200 := by
    by_cases q : ds2.length <= 200
    ·exact q
    ·rw [if_neg q] at hev3; contradiction
   rw [if_pos h200] at hev3
   have hel := mapM_length hev3
   rw [hr2] at hes
   generalize hN : (notedBy (model C.prog C.w) A (compEnvC sc' (clOf E sc'.names []) Ca E) fun e s' => RR (.ref Da) Ca (.error e) s') = NB
   refine wpAny_mono (comp_turn2 (it0 := it) (pos := pos) (Err := fun e s₅ => cameBackBy (model C.prog C.w) A (compEnvC sc' (clOf E sc'.names []) Ca E) NB e s₅) (X5 := NB) (X' := NB) (X'' := NB) (X''' := NB) (X4 := NB)
    (Fin := fun s₅ => ∃ m, m < k /\ CompAt C A fr φ Z s E sc' (compVars sc' vars) J Da Ca ds P St f List.flatten ess.flatten 200 m' m s₅)
    hn hR ok hs V IO.it N IO.ax (own_target ht) hA hd hb he2 hds h200 ht2 hev3 (by lia)
    (comp2_keep ht ht2 hb)
    fun φ'' s'' hA' => ⟨ds.length + 1 - (i + 1), by lia, .mk (i + 1) (acc ++ e) φ'' m₁ es' hA' hr (by rw [List.append_assoc]; exact hes) hlt (by rw [List.length_append]; lia) rfl⟩) (fun r s₁ h₁ => ?_) fun _ _ x => x
   induction r with
   | none => exact h₁.elim
   | some v => exact h₁
  | none =>
   have hin : ds.length = i := Nat.le_antisymm (List.getElem?_eq_none_iff.mp hd) hi
   rw [<- hin, List.drop_length] at hrest
   refine e0_2 (mapM_nil hrest) fun e1 e2 => ?_
   have hes : acc = ess.flatten := by rw [<- hes, e1]; exact (List.append_nil acc).symm
   rw [e2, <- hes] at fin
   exact IO.it.W.done s' _ _ (hin ▸ hA.st) fun h₂ tk₂ hk₂ => fin _ _ φi _ (comp_end N hA (by lia) fun a o q e => hk₂ a o q e)
 exact codeAny_compStart_list loop (IO.it.W.self 0 _ _ _ A0.st loop)
end
section
variable {C : Cst} {T : Tabs} {Rm : Around -> Prop} {n : Nat} {A : Around} {fr : List Env} {φ : List (List Addr)} {Z : List Addr} {m : Mem} {s : Shared} {E : Env} {sc sc' : Scope} {vars : Vars}
theorem scomp_two {elt t it t2 it2 : Expr} {pos : Pos} {Q X : Value -> Shared -> Prop} (hn : SE C T Rm n) (hR : Rm A) (I : Inv C A fr φ Z m s) (ok : EnvOk E sc) (V : VarsAt C.K φ Z s.heap E sc vars)
  (h : Post C (RV C Z) fr φ Z s (ev T (n + 1) sc (.ListComp elt [⟨t, it, [], 0⟩, ⟨t2, it2, [], 0⟩] sc' pos) vars m) Q X) : wpAny (model C.prog C.w) A (eval (.ListComp elt [⟨t, it, [], 0⟩, ⟨t2, it2, [], 0⟩] sc' pos) E) Q X s := by
 rw [ev_comp2] at h
 refine e0_2 (post_ite h) fun hc h => ?_
 simp only [Bool.and_eq_true] at hc
 obtain ⟨⟨⟨⟨hsc, hset⟩, hset2⟩, ht⟩, ht2⟩ := hc
 have hs := compSc_of hsc
 rw [eval_ListComp]
 refine wpAny_comprehension_free (use := none) (cl := clOf E sc'.names []) rfl (set_folded hset) (clos_is (comp_free ok hs)) hs.kind hs.loc (wpAny_mono (hn hR I ok V (Post.bind h)) (fun xv s₁ hv => ?_) fun _ _ x => x)
 obtain ⟨d, m₁, φ₁, st, q, r, h₁⟩ := hv
 have I₁ := I.step st q
 refine e1_2 (Post.lift_bind h₁) fun ds hds h₁ => ?_
 refine e0_2 (post_itep h₁) fun hz h₁ => ?_
 refine e2_2 (Post.calm_bind h₁) fun es m' hrun h₂ => ?_
 refine snd_iter I₁ r hds hz fun ob ax P St IO => ?_
 refine comp_core2 (RR := fun acc Ca => compPost (model C.prog C.w) A X none Q acc Ca) hn hR ok hs I₁ (V.step st) IO ht hz hrun ht2 hset2 fun Da Ca φ' s' c => ?_
 refine e1_1 c.ns fun mC hmC => ?_
 refine ⟨mC, hmC, fun h' hsb => ?_⟩
 refine e0_3 (c.close (fun a ha => (I₁.z0 a ha).2) hsb) fun g1 g2 g3 => ?_
 exact h₂ _ _ _ g1 g2 g3
theorem two_ok (hn : SE C T Rm n) : Two C T Rm n := fun hR I ok V h => scomp_two hn hR I ok V h
end
section
variable {C : Cst} {T : Tabs} {Rm : Around -> Prop} {mt : List Str} {rc : Bool} {n : Nat} {sc sc' : Scope} {E : Env} {A : Around} {fr : List Env} {φ : List (List Addr)} {Z : List Addr} {m : Mem} {s : Shared} {vars : Vars} {Q : Flow -> Shared -> Prop} {X : Value -> Shared -> Prop}
theorem sx_comp_two {x : Str} {elt t it t2 it2 : Expr} {p cp pos : Pos} (hn : SE C T Rm n) (hR : Rm A) (I : Inv C A (E :: fr) φ Z m s) (F : FrameOk E sc fr) (V : VarsAt C.K φ Z s.heap E sc vars) (hk : okName sc x = true) (hsw : swapsWith (.ListComp elt [⟨t, it, [], 0⟩, ⟨t2, it2, [], 0⟩] sc' cp) (some (.Name x p)) pos.line E = pure true)
  (h : PostX C (RF C E sc Z) (E :: fr) φ Z (ownE E sc) s ((bind (ev T (n + 1) sc (.ListComp elt [⟨t, it, [], 0⟩, ⟨t2, it2, [], 0⟩] sc' cp) vars) fun d => ret (.next (setv x d vars))) m) Q X) : wpAny (model C.prog C.w) A (PySem.exec (.Assign [.Name x p] (.ListComp elt [⟨t, it, [], 0⟩, ⟨t2, it2, [], 0⟩] sc' cp) pos) E) Q X s := by
 rw [ev_comp2] at h
 simp only [bind_assoc, bind_ite, ret_bind] at h
 refine e0_2 (postx_ite h) fun hc h => ?_
 simp only [Bool.and_eq_true] at hc
 obtain ⟨⟨⟨⟨hsc, hset⟩, hset2⟩, ht⟩, ht2⟩ := hc
 have hs := compSc_of hsc
 rw [exec_Assign_Name_used _ _ _ _ hsw]
 refine wpAny_bind (wpAny_standAt (wpAny_bind ?_))
 show wpAny _ A (do let _ <- comprehension (.ListComp elt [⟨t, it, [], 0⟩, ⟨t2, it2, [], 0⟩] sc' cp) sc' E _ (newList []) false (eval it E) (some (assign (.Name x p) E))) _ _ s
 refine wpAny_bind (wpAny_mono (wpAny_comprehension_free (use := some (assign (.Name x p) E)) (cl := clOf E sc'.names []) (Q := fun _ s' => Q .next s') rfl (set_folded hset) (clos_is (comp_free F.env hs)) hs.kind hs.loc
  (wpAny_mono (hn hR I F.env V (PostX.ebind h)) (fun xv s₁ hv => ?_) fun _ _ x => x)) (fun _ s' hq => wpAny_pure (wpAny_pure hq)) fun _ _ x => x)
 obtain ⟨d, m₁, φ₁, st, q, r, h₁⟩ := hv
 have I₁ := I.step st q
 refine e1_2 (PostX.lift_bind h₁) fun ds hds h₁ => ?_
 refine e0_2 (postx_itep h₁) fun hz h₁ => ?_
 refine e2_2 (PostX.calm_bind h₁) fun es m' hrun h₂ => ?_
 refine snd_iter I₁ r hds hz fun ob ax P St IO => ?_
 refine comp_core2 (RR := fun acc Ca => compPost (model C.prog C.w) A X (some (assign (.Name x p) E)) (fun _ s' => Q .next s') acc Ca) hn hR F.env hs I₁ (V.step st) IO ht hz hrun ht2 hset2 fun Da Ca φ' s' c => ?_
 exact comp_store (Q' := fun _ s' => Q .next s') c I₁ F (V.step st) hk fun φ'' s'' x1 x2 x3 => h₂ .next φ'' s'' x1 x2 x3
theorem twoUse_ok (hn : SE C T Rm n) : TwoUse C T Rm n := fun hR I F V hk hsw h => sx_comp_two hn hR I F V hk hsw h
end
end Mine
end
section
open PySem PySem.W PySem.Calls PyProof.Rows PySem.Spec
open Builtin Builtin.ObjectAttr
namespace Mine
structure ExcCls (K : Frag) (C D f : Addr) (x : Str) : Prop where
 cls : ∃ nm q N bs sn sub ab col dd k0 k1 k2 k3 k5, K.lookup C = some (excClassObj nm q C N bs [.ref D, .type "Exception", .type "BaseException", .type "object"] true sn sub ab col dd k0 k1 k2 k3 k5 "Exception.__new__")
 init : findIn K (.ref C) "__init__" = some (some (.ref f))
 fn : isFn K (.ref f) = true
 set : findIn K (.ref C) "__setattr__" = some (some (.builtin "object.__setattr__"))
 own : findIn K (.ref C) x = some none
noncomputable abbrev bmE (D : Addr) : List Value := [.ref D, .type "Exception", .type "BaseException", .type "object"]
noncomputable abbrev fresh (C t : Addr) (d : Option Addr) : Obj := { cls := .ref C, dict := d, data := .fields #[.ref t, .none, .none, .none, .bool false, .none] }
section
variable {prog : Program} {w : World} {A : Around} {E : Value -> Shared -> Prop} {h : Heap} {g : Array GenState} {d : Drawn} {t : Nat} {os : OsState} {K : Frag} {C D f x e tt : Addr} {name : Str} {v : Value}
theorem ExcCls.clsIn (X : ExcCls K C D f name) : ∃ cd, W.clsIn K C = some cd /\ cd.mro = .ref C :: bmE D /\ cd.hasDict = true := by
 obtain ⟨nm, q, N, bs, sn, sub, ab, col, dd, k0, k1, k2, k3, k5, h⟩ := X.cls
 exact ⟨_, by unfold W.clsIn; rw [h], rfl, rfl⟩
theorem exc_store {Q : Unit -> Shared -> Prop} (KX : K.In h) (X : ExcCls K C D f name) (hx : h.get? x = some (fresh C tt none))
  (hq : ∀ h' tk' dx, h'.get? x = some (fresh C tt (some dx)) -> (∀ b o, b ≠ x -> h.get? b = some o -> h'.get? b = some o) -> Q () ⟨h', g, d, tk', os⟩) : wpAny (model prog w) A (setAttr (.ref x) name v) Q E ⟨h, g, d, t, os⟩ := by
 refine e1_3 X.clsIn fun cd hc hm hd => ?_
 have I : InstAt h x (fresh C tt none) C none := ⟨hx, rfl, rfl, trivial⟩
 refine set_plain KX I X.set ?_
 have SF := PySem.F.store_object
 have SE := PySem.F.store_Exception
 have sub : Looks (model prog w) h (isInstance (.ref x) (.type "object")) true := I.type.andThen (looks_mroIn KX (by unfold mroIn; rw [hc, Option.bind_some, hm]; rfl))
 refine codeAny_call_builtin SF.slot.plain SF.entry (@check_slot (model prog w) _ _ ⟨h, g, d, t + 1, os⟩ "object.__setattr__" "object" "__setattr__" (.ref x) [.str name t, v] [] _ SF.kind SF.split sub (SF.args (.ref x) (.str name t) v) ?_)
 have L2 : Looks (model prog w) h (mroOf (.ref C)) cd.mro := (looks_clsIn KX hc).andThen .now
 rw [osa_eq, refuse_eq]
 refine wpAny_bind (wpAny_bind (I.type.here (wpAny_bind (L2.here ?_))))
 rw [hm, refuseLoop_ref, refuseLoop_ref, SE.passes]
 refine wpAny_pure (wpAny_bind (I.type.here (wpAny_bind ((looks_findIn KX X.own).here (wpAny_bind (wpAny_pure ?_))))))
 have hxs : x ≠ h.objs.size := Nat.ne_of_lt (Heap.lt_size hx)
 have hx₁ : (h.push { cls := .type "dict", data := .dict #[] }).get? x = some (fresh C tt none) := Heap.get?_push_of_some _ hx
 refine wpAny_bind (wpAny_pure (wpAny_bind (wpAny_bind (wpAny_loadPart hx (wpAny_bind ((looks_clsIn KX hc).here ?_))))))
 rw [hd]
 refine wpAny_bind (wpAny_alloc' ?_)
 refine wpAny_bind (wpAny_update' hx₁ ?_)
 refine wpAny_pure (a := some h.objs.size) ?_
 have hgd : ((h.push { cls := .type "dict", data := .dict #[] }).update x fun o => { cls := o.cls, dict := some h.objs.size, data := o.data, slots := o.slots }).get? h.objs.size
   = some { cls := .type "dict", data := .dict #[] } :=
  (Heap.get?_update_ne _ _ _ _ hxs.symm).trans (Heap.get?_push_at rfl rfl)
 have hnd : ((h.push { cls := .type "dict", data := .dict #[] }).update x fun o => { cls := o.cls, dict := some h.objs.size, data := o.data, slots := o.slots }).Ns h.objs.size (fun _ => none) :=
  ⟨_, #[], _, hgd, rfl, fun e he => absurd he (by simp), fun _ => rfl⟩
 show wpAny _ _ (storeInDict h.objs.size (.str name t) name v) _ _ _
 unfold storeInDict newKeyGuard
 refine wpAny_bind (wpAny_pure (wpAny_bind (wpAny_nsSet1 (Heap.Ns1.of_empty hnd) fun h' hn' hs => ?_)))
 refine e3_3 (hn'.count (Within.cons name v Within.nil)) fun oD esD epD hoD hdD hcD => ?_
 refine wpAny_bind (wpAny_lookBehind hoD (by rw [hdD]; exact pastItsLine_dict (Nat.le_trans hcD (by rw [List.length_cons, List.length_nil, sizeLine_eq]; lia))) ?_)
 refine wpAny_pure (hq h' _ h.objs.size ?_ fun b ob hbx hb => ?_)
 ·exact (hs.2 x hxs).trans (Heap.get?_update_self _ hx₁ rfl)
 ·exact (hs.2 b (Nat.ne_of_lt (Heap.lt_size hb))).trans ((Heap.get?_update_ne _ _ _ _ hbx).trans (Heap.get?_push_of_some _ hb))
end
end Mine
end
section
open PySem PySem.W PySem.Calls PyProof.Rows PySem.Spec
namespace Mine
section
variable {prog : Program} {w : World} {A : Around} {R : Result -> Shared -> Prop} {E : Value -> Shared -> Prop} {h : Heap} {g : Array GenState} {d : Drawn} {t : Nat} {os : OsState}
variable {nm q : Str} {C N D : Addr} {bs : List Value} {hdct : Bool} {sn : List Str} {sub : List Value} {ab : Bool} {col : Option Bool} {dd : Option Addr} {k0 k1 k2 k3 k5 : Option Value} {rest : List Value}
theorem exc_new (hC : h.get? C = some (excClassObj nm q C N bs (bmE D) hdct sn sub ab col dd k0 k1 k2 k3 k5 "Exception.__new__")) (hrest : rest.length <= sizeLine)
  (hq : R (.ok (.ret (.ref (h.objs.size + 1)))) ⟨(h.push { cls := .type "tuple", data := .seq rest.toArray }).push (fresh C h.objs.size none), g, d, t, os⟩) :
  codeAny (model prog w) A (.builtin "Exception.__new__" ⟨.ref C :: rest, []⟩) R ⟨h, g, d, t, os⟩ := by
 have Fn := PySem.F.excBase_Exception
 have hends := Fn.ends
 have hcB : (Value.ref C :: bmE D).contains (.type "Exception") = true := rfl
 have hcA : (Value.ref C :: bmE D).contains (.type "AttributeError") = false := rfl
 have hcN : (Value.ref C :: bmE D).contains (.type "NameError") = false := rfl
 refine codeAny_builtinAt Fn.entry ?_
 unfold Builtin.«BaseException.__new__»
 refine _root_.PySem.wpAt_bind ?_
 show _root_.PySem.wpAt _ _ _ (stack >>= _) _ _ _
 refine _root_.PySem.wpAt_bind (_root_.PySem.wpAt_stack fun p below => _root_.PySem.wpAt_of_wpAny ?_)
 wp_walk
 refine _root_.PySem.wpAt_of_wpAny ?_
 rw [Fn.owner]
 repeat (first | with_reducible refine wpAny_madeHere_exc Fn.canon hC ?_ | with_reducible refine wpAny_loadPart_at hC ?_ | (with_reducible refine wpAny_isSubtype_exc hC ?_; first | rw [hcB] | rw [hcA] | rw [hcN]) | wp_step)
 show R _ _
 rw [Heap.size_push]
 exact hq
theorem exc_type_call {K : Frag} {f : Addr} {x : Str} {Q : Fin -> Shared -> Prop} (KX : K.In h) (X : ExcCls K C D f x) (hrest : rest.length <= sizeLine)
  (hq : ∀ h' e, Heap.MadeExcOf h h' e (.ref C) rest ->
   wpAny (model prog w) A (PySem.call (.ref f) (.ref e :: rest)) (fun r s' => r = .none /\ Q (.done (.ret (.ref e))) s') E ⟨h', g, d, t, os⟩) :
  wpAny (model prog w) A (Builtin.«type.__call__» ⟨.ref C :: rest, []⟩) Q E ⟨h, g, d, t, os⟩ := by
 obtain ⟨nm, q, N, bs, sn, sub, ab, col, dd, k0, k1, k2, k3, k5, hl⟩ := X.cls
 have hC := KX _ _ hl
 have Fn := PySem.F.excBase_Exception
 repeat (first | with_reducible refine wpAny_loadPart_at hC ?_ | with_reducible refine wpAny_madeBy_exc hC ?_ | wp_step)
 refine codeAny_call_builtin_code (Code.quiet_builtin _ Fn.quiet) (wpAny_check_new_subU Fn (bmB := bmE D) rfl .base hC ?_)
 refine exc_new hC hrest ?_
 show wpAny _ _ _ _ _ _
 have keep : ∀ b o, h.get? b = some o -> ((h.push { cls := .type "tuple", data := .seq rest.toArray }).push (fresh C h.objs.size none)).get? b = some o := fun b o e => Heap.get?_push_of_some _ (Heap.get?_push_of_some _ e)
 have KX₁ := KX.keeps keep
 have hC₁ := keep _ _ hC
 have hget : ((h.push { cls := .type "tuple", data := .seq rest.toArray }).push (fresh C h.objs.size none)).get? (h.objs.size + 1) = some (fresh C h.objs.size none) := by heap_get
 have hcC : (Value.ref C :: bmE D).contains (.ref C) = true := by simp
 unfold isInstance
 repeat (first | with_reducible refine wpAny_loadPart_at hget ?_ | (with_reducible refine wpAny_isSubtype_exc hC₁ ?_; rw [hcC]) | wp_step)
 show wpAny _ _ (typeLookup (.ref C) _) _ _ _
 refine (looks_findIn KX₁ X.init).here ?_
 refine wpAny_holding (wpAny_bind ?_)
 unfold bindSpecial
 refine wpAny_bind ((looks_typeIn KX₁ (beq_iff_eq.mp X.fn)).here ?_)
 rw [if_pos (by decide)]
 refine wpAny_pure (wpAny_bind (wpAny_mono (hq _ (h.objs.size + 1) ⟨keep, Heap.get?_none_of_le (Nat.le_succ _), h.objs.size, hget, Heap.get?_none_of_le (Nat.le_refl _), ?_⟩) (fun r s' hr => ?_) fun _ _ x => x))
 ·exact Heap.get?_push_of_some _ (Heap.get?_push_at rfl rfl)
 ·obtain ⟨rfl, hQ⟩ := hr
  wp_walk
  exact hQ
theorem exc_call {K : Frag} {f : Addr} {x : Str} {Q : Value -> Shared -> Prop} (KX : K.In h) (X : ExcCls K C D f x) (hrest : rest.length <= sizeLine)
  (hq : ∀ h' e, Heap.MadeExcOf h h' e (.ref C) rest ->
   wpAny (model prog w) (A.under (.builtin "type.__call__" ⟨.ref C :: rest, []⟩)) (PySem.call (.ref f) (.ref e :: rest)) (fun r s' => r = .none /\ Q (.ref e) s') E ⟨h', g, d, t, os⟩) :
  wpAny (model prog w) A (PySem.call (.ref C) rest) Q E ⟨h, g, d, t, os⟩ := by
 obtain ⟨nm, q, N, bs, sn, sub, ab, col, dd, k0, k1, k2, k3, k5, hl⟩ := X.cls
 have hC := KX _ _ hl
 have f1 := tc_lookup
 have f2 := tc_bind (.ref C)
 have hT : (⟨h, g, d, t, os⟩ : Shared).TypeIs (.ref C) "type" := ⟨_, hC, rfl⟩
 refine wpAny_call (codeAny_of_tree ?_)
 show wpAny _ _ (callAny (.ref C) _) _ _ _
 repeat (any_goals (first | assumption | with_reducible refine wpAny_loadPart_at hC ?_ | wp_step))
 refine ⟨rfl, ?_⟩
 refine codeAny_call_builtin_at (Code.quiet_builtin _ (by decide +kernel)) entry_typeCall (wpAny_check_type_call_sub hC (exc_type_call KX X hrest fun h' e hm => ?_))
 exact hq h' e hm
end
noncomputable def initF : Fn where
 params := ["self", "message"]
 defaults := []
 body := [Stmt.Assign [Expr.Attribute (Expr.Name "self" ⟨5, 8, 5, 12⟩) "message" ⟨5, 8, 5, 20⟩] (Expr.Name "message" ⟨5, 23, 5, 30⟩) ⟨5, 8, 5, 30⟩]
 scope := { kind := ScopeKind.function, names := [("self", NameKind.local), ("message", NameKind.local)], isGenerator := false, isCoroutine := false, «more» := [] }
section
variable {C : Cst} {A B : Around} {fr : List Env} {φ : List (List Addr)} {Z : List Addr} {m : Mem} {s s₀ : Shared} {Q : Value -> Shared -> Prop} {X : Value -> Shared -> Prop} {a e cf D tt : Addr} {v : Value}
theorem exc_init (FF : FnFact C initF a) (EC : ExcCls C.K cf D a "message") (I : Inv C B fr φ Z m s₀) (hk : ∀ b o, s₀.heap.get? b = some o -> s.heap.get? b = some o) (hdep : A.depth < recursionLimit) (hx : s.heap.get? e = some (fresh cf tt none))
  (hq : ∀ h' tk' dx, h'.get? e = some (fresh cf tt (some dx)) -> (∀ b o, b ≠ e -> s.heap.get? b = some o -> h'.get? b = some o) -> Q .none { s with heap := h', toks := tk' }) : wpAny (model C.prog C.w) A (PySem.call (.ref a) [.ref e, v]) Q X s := by
 obtain ⟨hs, oc, od, fd, osl, hlook, hcd, hbody, hsc, hclo, hgl, hbl, hS, hdl, dvs, hdv, hseq⟩ := FF
 have KX : C.K.In s.heap := I.K.keeps hk
 have e0 : dvs = [] := (hdv I).inv0
 subst e0
 have hbind := binds_simple (s := s) (fd := fd) (vs := [.ref e, v]) (dvs := []) hS (hseq KX) (by simp [initF]) (by simp [initF]) (by simp [initF])
 refine wpAny_call (codeAny_call_function (fd := fd) (body := initF.body) hdep (KX _ _ hlook) rfl (by rw [hsc]; rfl) (by rw [hsc]; rfl) hbody (codeRec_of KX hcd) (hbind _ _ _ _ ?_))
 rw [hclo, hsc]
 refine wpAny_newFunctionEnv (fun x hx => ?_) (fun x hx => ?_) (fun h₁ hns hsb => ?_) (by kernel_rfl)
 ·have hx' : x ∈ [(("self" : Str), NameKind.local), ("message", .local)] := hx
  rcases List.mem_cons.mp hx' with rfl | hx
  ·nofun
  ·rcases List.mem_cons.mp hx with rfl | hx
   ·nofun
   ·exact absurd hx List.not_mem_nil
 ·have hx' : x ∈ [(("self" : Str), Value.ref e), ("message", v)] := hx
  rcases List.mem_cons.mp hx' with rfl | hx
  ·kernel_rfl
  ·rcases List.mem_cons.mp hx with rfl | hx
   ·kernel_rfl
   ·exact absurd hx List.not_mem_nil
 have keep : ∀ b o, s.heap.get? b = some o -> h₁.get? b = some o := fun b o q => (hsb.2 b (Nat.ne_of_lt (Heap.lt_size q))).trans (Heap.get?_push_of_some _ q)
 refine ⟨(I.lim.keeps hk).keeps keep, codeAny_func ?_⟩
 refine wpAny_execs_cons ?_
 refine wpAny_assign_one swaps_att rfl rfl ?_
 refine wpAny_Name (wpAny_loadName_local (by kernel_rfl) (by kernel_rfl) hns (v := v) (by kernel_rfl) ?_) rfl
 rw [arm_assign_Attribute]
 refine wpAny_bind (wpAny_holding (wpAny_Name (wpAny_loadName_local (by kernel_rfl) (by kernel_rfl) hns (v := .ref e) (by kernel_rfl) ?_) rfl))
 refine wpAny_bind (wpAny_standAt (wpAny_bind (wpAny_holding ?_)))
 have hx₁ := keep _ _ hx
 refine exc_store (KX.keeps keep) EC hx₁ fun h' tk' dx g1 g2 => ?_
 refine wpAny_release (wpAny_execs_nil ?_)
 exact hq h' tk' dx g1 fun b o hb q => g2 b o hb (keep b o q)
end
noncomputable def dropAll (h : Heap) : List Addr -> Heap
 | [] => h
 | a :: r => (dropAll h r).update a fun o => { o with data := .freed }
theorem drop_in {h : Heap} : ∀ {l : List Addr} {a : Addr}, a ∈ l -> (dropAll h l).get? a = none
 | b :: r, a, m => by
  by_cases e : a = b
  ·subst e
   show (Heap.update (dropAll h r) a _).get? a = none
   unfold Heap.get? Heap.update
   dsimp only
   rw [Array.getElem?_modify, if_pos rfl]
   cases (dropAll h r).objs[a]? <;> rfl
  ·exact (Heap.get?_update_ne _ _ _ _ e).trans (drop_in ((List.mem_cons.mp m).resolve_left e))
theorem drop_out {h : Heap} : ∀ {l : List Addr} {a : Addr}, a ∉ l -> (dropAll h l).get? a = h.get? a
 | [], a, _ => rfl
 | b :: r, a, m => (Heap.get?_update_ne _ _ _ _ fun e => m (by rw [e]; exact .head _)).trans (drop_out fun q => m (.tail _ q))
theorem drop_sub {h : Heap} {l : List Addr} {a : Addr} {o : Obj} (e : (dropAll h l).get? a = some o) : h.get? a = some o := by
 by_cases m : a ∈ l
 ·rw [drop_in m] at e; exact none_some e
 ·rwa [drop_out m] at e
theorem frs_drop {Z : List Addr} {h : Heap} {B : Heap} {l : List Addr} : ∀ {fr : List Env}, (∀ e ∈ fr, FrOk Z h e) -> (∀ e ∈ fr, ∀ L, e.frame = some L -> B.get? L = none) -> h.FunFrames B fr
 | [], _, _ => trivial
 | e :: r, hf, hn => by
  obtain ⟨hk, L, m, h1, _, o, es, ep, h2, h3, _⟩ := hf e (.head _)
  exact ⟨by rw [hk]; nofun, ⟨L, o, h1, hn e (.head _) L h1, h2, fun vs q => by rw [h3] at q; contradiction⟩, frs_drop (l := l) (fun e he => hf e (.tail _ he)) fun e he => hn e (.tail _ he)⟩
section
variable {C : Cst} {A : Around} {fr : List Env} {φ : List (List Addr)} {Z own : List Addr} {m : Mem} {s : Shared} {cf e t : Addr} {h' : Heap} {tk' : Nat} {dx : Option Addr}
theorem flies (I : Inv C A fr φ Z m s) (hcf : clsA C.K "FontFault" = some cf) (hn : s.heap.get? e = none) (hk : ∀ b o, s.heap.get? b = some o -> h'.get? b = some o) (he : h'.get? e = some (fresh cf t dx)) : FlewX C fr φ Z own m s (.ref e) { s with heap := h', toks := tk' } := by
 have hsub : ∀ a ∈ fr.filterMap (·.frame), a ∈ Z := fun a ha => by
  refine e1_2 (List.mem_filterMap.mp ha) fun x hx hf => ?_
  obtain ⟨_, L, _, h1, h2, _⟩ := I.frs x hx
  rw [hf] at h1; obtain rfl := Option.some.inj h1; exact h2
 have inF : ∀ x ∈ fr, ∀ L, x.frame = some L -> L ∈ fr.filterMap (·.frame) := fun x hx L hL => List.mem_filterMap.mpr ⟨x, hx, hL⟩
 have frs' : ∀ x ∈ fr, FrOk Z h' x := fun x hx => by
  obtain ⟨hk', L, mm, h1, h2, h3⟩ := I.frs x hx
  exact ⟨hk', L, mm, h1, h2, h3.keeps hk⟩
 refine ⟨e, φ, dropAll s.heap (fr.filterMap (·.frame)), cf, rfl, ⟨⟨_, _, rfl⟩, List.prefix_refl _, fun a h1 h2 => absurd h1 h2, fun a o h1 h2 h3 => ?_, fun a ha _ => .same fun o q => hk _ _ q⟩,
  I.mem.leave (fun a o h1 h2 => by rw [drop_out h1]; exact h2) hsub fun _ h => h,
  ⟨hcf, fun b o q => hk b o (drop_sub q), ?_, frs_drop (l := []) frs' fun x hx L hL => drop_in (inF x hx L hL)⟩, .inr ⟨_, _, _, he, rfl, rfl, rfl, rfl⟩, fun a ha _ => ?_⟩
 ·rw [drop_out fun q => h3 (hsub a q)]; exact h1
 ·cases q : (dropAll s.heap (fr.filterMap (·.frame))).get? e with
  | none => rfl
  | some o => have := drop_sub q; rw [hn] at this; exact none_some this
 ·by_cases q : a ∈ fr.filterMap (·.frame)
  ·refine e1_2 (List.mem_filterMap.mp q) fun x hx hf => ?_
   obtain ⟨_, L, mm, h1, _, h3⟩ := frs' x hx
   rw [hf] at h1; obtain rfl := Option.some.inj h1
   exact .inl ⟨x, hx, hf, mm, h3⟩
  ·refine e1_1 ((I.z0 a ha).2) fun o ho => ?_
   exact .inr ⟨o, by rw [drop_out q]; exact ho⟩
end
section
variable {prog : Program} {w : World} {A : Around} {E : Value -> Shared -> Prop} {K : Frag} {cf D f : Addr} {x : Str} {env : Env} {s : Shared}
theorem raise_made {y : Sem Value} {Q : Flow -> Shared -> Prop} (EC : ExcCls K cf D f x) (hh : A.handled = none)
  (h : wpAny (model prog w) A y (fun v s₁ => ∃ e t dx, v = .ref e /\ K.In s₁.heap /\ s₁.heap.get? e = some (fresh cf t dx) /\ E (.ref e) s₁) E s) :
  wpAny (model prog w) A (raiseStmt env (some y) none) Q E s := by
 obtain ⟨nm, q, N, bs, sn, sub, ab, col, dd, k0, k1, k2, k3, k5, hl⟩ := EC.cls
 have hcB : (Value.ref cf :: bmE D).contains (.type "BaseException") = true := rfl
 unfold raiseStmt
 refine wpAny_bind (wpAny_mono h (fun v s₁ h₁ => ?_) fun _ _ x => x)
 refine e3_4 h₁ fun e t dx ee1 KX he hE => ?_; subst ee1
 have hC := KX _ _ hl
 obtain ⟨hp, g, d, tk, os⟩ := s₁
 repeat (first | with_reducible refine wpAny_loadPart_at he ?_ | with_reducible refine wpAny_loadPart_at hC ?_ | (with_reducible refine wpAny_isSubtype_exc hC ?_; rw [hcB]) | wp_step)
 exact wpAny_raiseNew_none hh hE
end
section
variable {C : Cst} {T : Tabs} {Rm : Around -> Prop} {n : Nat} {cf D a : Addr}
inductive ExcOf (T : Tabs) (n : Nat) (sc : Scope) (vars : Vars) : Expr -> Prop
 | call (f : Str) (np : Pos) (ea : Expr) (cp : Pos) : ExcOf T n sc vars (.Call (.Name f np) [ea] [] cp)
 | bad {e : Expr} : excOf T n sc e vars = fail -> ExcOf T n sc vars e
theorem exc_of {sc : Scope} {vars : Vars} {e : Expr} : ExcOf T n sc vars e := by
 induction e using Expr.casesOn with
 | Call f es ks cp =>
  induction f using Expr.casesOn with
  | Name f np =>
   induction es using List.casesOn with
   | nil => exact .bad rfl
   | cons ea es =>
    induction es using List.casesOn with
    | cons _ _ => exact .bad rfl
    | nil =>
     induction ks using List.casesOn with
     | nil => exact .call f np ea cp
     | cons _ _ => exact .bad rfl
  | _ => exact .bad rfl
 | _ => exact .bad rfl
theorem raise_ok (EC : ExcCls C.K cf D a "message") (FF : FnFact C initF a) (EF : ExcFact C cf) (hkeep : keepIn C.K (.ref cf) = true) (hu : ∀ A, Rm A -> A.units + 64 < cLine /\ A.depth + 4 < recursionLimit) (hn : SE C T Rm n) : RaiseOk C T Rm n := by
 intro sc e pos E A fr φ Z m s Q X vars hR I ok V h
 have x := exc_of (T := T) (n := n) (sc := sc) (vars := vars) (e := e)
 induction x with
 | bad hb => rw [hb] at h; exact h.elim
 | call f np ea cp =>
  refine e0_2 (postx_ite h) fun hc h2 => ?_
  clear h
  simp only [Bool.and_eq_true, beq_iff_eq] at hc
  obtain ⟨⟨rfl, hk⟩, hst⟩ := hc
  have hall : [ea].all notStar = true := by simp [hst]
  rw [arm_exec_Raise]
  refine wpAny_bind (wpAny_standAt (raise_made EC I.hand (wpAny_bind (wpAny_mono (Q := fun v s₁ => ∃ e t dx, v = .ref e /\ C.K.In s₁.heap /\ s₁.heap.get? e = some (fresh cf t dx) /\ X (.ref e) s₁) ?_ (fun v s₃ h₃ => wpAny_bind (wpAny_standAt (wpAny_pure h₃))) fun _ _ x => x))))
  refine Call_Name rfl (snd_global I ok.env hk EF.glob ?_)
  refine callWith_of (P := fun h => C.K.In h) (by rw [star_plain hall]; rfl) (keeps_K hkeep) (evalArgs_any hall ?_)
  rw [star_cons hst]
  refine spliced_cons (wpAny_mono (hn hR I ok.env V (PostX.ebind h2)) (fun v s₁ hv => ?_) fun _ _ x => x)
  obtain ⟨d, m₁, φ₁, st, q, r, h₁⟩ := hv
  have I₁ := I.step st q
  refine spliced_nil ⟨I₁.K, ?_⟩
  obtain ⟨hp, g, dr, tk, os⟩ := s₁
  refine exc_call I₁.K EC (by simp [sizeLine_eq]) fun h' e hm => ?_
  refine e1_3 hm.there fun t ht _ _ => ?_
  refine exc_init (s := ⟨h', g, dr, tk, os⟩) FF EC I₁ hm.keeps (by have := (hu A hR).2; exact Nat.lt_of_le_of_lt (Nat.add_le_add_left (show Code.weight _ <= 4 from Nat.le_trans (Nat.le_of_eq (by kernel_rfl : _ = 1)) (by decide)) _) this) ht fun h'' tk' dx g1 g2 => ⟨rfl, e, t, some dx, rfl, ?_, g1, ?_⟩
  all_goals have kk : ∀ b o, hp.get? b = some o -> h''.get? b = some o := fun b o q => g2 b o (fun z => by have := hm.new; rw [<- z, q] at this; contradiction) (hm.keeps b o q)
  ·exact I₁.K.keeps kk
  ·induction d using Mine.D.casesOn with
   | str x => exact h₁ _ _ (flies I₁ EF.cls hm.new kk g1)
   | _ => exact h₁.elim
end
noncomputable abbrev KK (P : Params) : Frag := Mine.Hd.K P
noncomputable def refOf (K : Frag) (x : Str) : Addr := match nsIn K mainGlobals x with
 | some (some (.ref a)) => a
 | _ => 0
noncomputable def findRef (K : Frag) (c x : Str) : Addr := match findIn K (.ref (refOf K c)) x with
 | some (some (.ref a)) => a
 | _ => 0
noncomputable def tokOf : Value -> Tok
 | .int _ t => t
 | .bytes _ t => t
 | _ => 0
noncomputable def addrOf : Value -> Addr
 | .ref a => a
 | _ => 0
noncomputable def tups : List (Addr × List Value) := [(54, [.bytes #[] 248]), (402, [.bytes #[] 760]), (342, [.ref 341]), (341, []), (256, [.bool true, .ref 255]), (255, [.int 16384 416, .int 0 544, .int 0 545, .int 16384 416])]
noncomputable def repA (v : Value) : D -> Bool
 | .bool b => v == .bool b
 | .int i => v == .int i (tokOf v)
 | .bytes l => l.isEmpty && v == .bytes #[] (tokOf v)
 | _ => false
noncomputable def repL (f : Value -> D -> Bool) : List Value -> List D -> Bool
 | [], ds => ds.isEmpty
 | v :: vs, ds => ds.head?.any (f v) && repL f vs ds.tail
noncomputable def repT (v : Value) : D -> Bool
 | .tup ds => v == .ref (addrOf v) && decide (ds.length <= 16777216) && (tups.lookup (addrOf v)).any fun p => repL repA p ds
 | d => repA v d
noncomputable def dfK (dv : Option Value) (ds : List D) : Bool := dv == some .none && ds.isEmpty || dv == some (.ref (addrOf (dv.getD .none))) && (tups.lookup (addrOf (dv.getD .none))).any fun p => repL repT p ds
noncomputable def fnK (K : Frag) (f : Fn) (a : Addr) : Bool := keepIn K (.ref a) && fnB K f a && dfK (dfltAt K a) f.defaults
noncomputable def topK (K : Frag) (p : Str × Fn) : Bool := (txt.methOf p.1 "__init__").isNone && nsIn K mainGlobals p.1 == some (some (.ref (refOf K p.1))) && fnK K p.2 (refOf K p.1)
noncomputable def methK (K : Frag) (c : Str) (p : Str × Fn) : Bool := plainGet K (refOf K c) p.1 && findIn K (.ref (refOf K c)) p.1 == some (some (.ref (findRef K c p.1))) && isFn K (.ref (findRef K c p.1)) && fnK K p.2 (findRef K c p.1)
noncomputable def clsK (K : Frag) (c : Str × List (Str × Fn)) : Bool := nsIn K mainGlobals c.1 == some (some (.ref (refOf K c.1))) && keepIn K (.ref (refOf K c.1)) && makesIn K (refOf K c.1) && (c.2.lookup ("__init__" : Str)).isSome && c.2.all (methK K c.1)
noncomputable def fldK (K : Frag) (c x : Str) : Bool := nsIn K mainGlobals c == some (some (.ref (refOf K c))) && plainGet K (refOf K c) x && hasDictIn K (refOf K c) && findIn K (.ref (refOf K c)) x == some none && findIn K (.ref (refOf K c)) "__setattr__" == some (some (.builtin "object.__setattr__")) && plainOver K (refOf K c) && takerIn K (refOf K c) x == some none
noncomputable def intOf : D -> Int
 | .int i => i
 | _ => 0
noncomputable def globK (K : Frag) (p : Str × D) : Bool := (match p.2 with | .int _ => true | _ => false) && nsIn K mainGlobals p.1 == some (some (.int (intOf p.2) (tokOf (((nsIn K mainGlobals p.1).getD none).getD .none))))
noncomputable def biK (K : Frag) (b : String) : Bool := nsIn K mainGlobals (Str.ofString b) == some none && bootBuiltins (Str.ofString b) == some (biV b) && !(Str.ofString b == "__name__")
theorem k_top (P : Params) : txt.fns.all (topK (KK P)) = true := by kernel_rfl
theorem k_topB (P : Params) : (txt.fns.map fun p => bodyAt (KK P) (refOf (KK P) p.1)) = txt.fns.map fun p => some (.stmts p.2.body) := by kernel_rfl
theorem k_cls (P : Params) : txt.meths.all (clsK (KK P)) = true := by kernel_rfl
theorem k_clsB (P : Params) : (txt.meths.map fun c => c.2.map fun p => bodyAt (KK P) (findRef (KK P) c.1 p.1)) = txt.meths.map fun c => c.2.map fun p => some (.stmts p.2.body) := by kernel_rfl
theorem k_fld (P : Params) : (fieldsOf.all fun c => c.2.all (fldK (KK P) c.1)) = true := by kernel_rfl
theorem k_glob (P : Params) : txt.globs.all (globK (KK P)) = true := by kernel_rfl
theorem k_bi (P : Params) : biNames.all (biK (KK P)) = true := by kernel_rfl
theorem kn_exc (P : Params) : nsIn (KK P) mainGlobals (Str.ofString "FontFault") = some (some (.ref 44)) := by kernel_rfl
theorem kc_exc (P : Params) : clsA (KK P) (Str.ofString "FontFault") = some 44 := by kernel_rfl
theorem kq_exc (P : Params) : ktsIn (KK P) 44 "BaseException" = true := by kernel_rfl
theorem andE {a b : Bool} (h : (a && b) = true) : a = true /\ b = true := Bool.and_eq_true_iff.mp h
theorem nat_lookup {β : Type} {x : Addr} {b : β} {l : List (Addr × β)} (h : l.lookup x = some b) : (x, b) ∈ l := by
 induction l with
 | nil => exact none_some h
 | cons p r ih =>
  rw [List.lookup_cons] at h
  split at h
  ·rename_i e
   obtain rfl := Option.some.inj h
   rw [eq_of_beq e]; exact .head _
  ·exact .tail _ (ih h)
theorem k_tups (P : Params) : (tups.map fun p => (KK P).lookup p.1) = tups.map fun p => some (tupOf p.2.toArray 0) := by kernel_rfl
theorem tups_is {K : Frag} {P : Params} (hK : K = KK P) {a : Addr} {its : List Value} (h : tups.lookup a = some its) : K.lookup a = some (tupOf its.toArray 0) := by
 rw [hK]; exact List.map_inj_left.mp (k_tups P) (a, its) (nat_lookup h)
section
variable {C : Cst} {A : Around} {fr : List Env} {φ : List (List Addr)} {Z : List Addr} {m : Mem} {s : Shared} {P : Params}
theorem rep0_ok {v : Value} {d : D} (h : repA v d = true) : DRep C.K φ Z s.heap v d := by
 induction d using D.casesOn with
 | bool b => rw [beq_iff_eq.mp h]; exact .bool b
 | int i => rw [beq_iff_eq.mp h]; exact .int i _
 | bytes l =>
  rw [List.isEmpty_iff.mp (andE h).1, beq_iff_eq.mp (andE h).2]
  exact .bytes [] _ (Nat.zero_le _)
 | _ => contradiction
theorem reps_ok {f : Value -> D -> Bool} (H : ∀ v d, f v d = true -> DRep C.K φ Z s.heap v d) (vs : List Value) : ∀ ds, repL f vs ds = true -> DAll C.K φ Z s.heap vs ds := by
 induction vs with
 | nil => intro ds h; rw [List.isEmpty_iff.mp h]; exact .nil
 | cons v vs ih =>
  intro ds h
  induction ds using List.casesOn with
  | nil => exact Bool.noConfusion h
  | cons d ds => exact .cons (H v d (andE h).1) (ih ds (andE h).2)
theorem rep1_ok (hK : C.K = KK P) (I : Inv C A fr φ Z m s) {v : Value} {d : D} (h : repT v d = true) : DRep C.K φ Z s.heap v d := by
 induction d using D.casesOn with
 | tup ds =>
  rw [beq_iff_eq.mp (andE (andE h).1).1]
  cases e : tups.lookup (addrOf v) with
  | none => have := (andE h).2; rw [e] at this; contradiction
  | some p =>
   have hr := (andE h).2
   rw [e] at hr
   exact lies_tup (tups_is hK e) (of_decide_eq_true (andE (andE h).1).2) I (reps_ok (fun _ _ q => rep0_ok q) _ _ hr)
 | _ => exact rep0_ok h
end
section
variable {C : Cst} {P : Params}
theorem fnK_ok (hK : C.K = KK P) {f : Fn} {a : Addr} (h : fnK C.K f a = true) (hb : bodyAt C.K a = some (.stmts f.body)) : keepIn C.K (.ref a) = true /\ FnFact C f a := by
 refine e0_2 (andE h) fun h12 h3 => ?_
 refine ⟨(andE h12).1, ?_⟩
 rcases Bool.or_eq_true_iff.mp h3 with q | q
 ·exact fnFact0 (andE h12).2 hb (beq_iff_eq.mp (andE q).1) (List.isEmpty_iff.mp (andE q).2)
 ·cases e : tups.lookup (addrOf ((dfltAt C.K a).getD .none)) with
  | none => have := (andE q).2; rw [e] at this; contradiction
  | some p =>
   have hr := (andE q).2
   rw [e] at hr
   exact fnFactT (andE h12).2 hb (beq_iff_eq.mp (andE q).1) (tups_is hK e) rfl fun I => reps_ok (fun _ _ => rep1_ok hK I) _ _ hr
theorem allAt {α : Type} {f : α -> Bool} {l : List α} (h : l.all f = true) {x : α} (m : x ∈ l) : f x = true := List.all_eq_true.mp h x m
theorem fld_mem {c x : Str} (h : isFld c x = true) : ∃ l, (c, l) ∈ fieldsOf /\ x ∈ l := by
 unfold isFld at h
 split at h
 ·rename_i l e
  exact ⟨l, mem_of_lookup e, List.contains_iff_mem.mp h⟩
 ·contradiction
theorem clsA_of {K : Frag} {c : Str} (h : nsIn K mainGlobals c = some (some (.ref (refOf K c)))) : clsA K c = some (refOf K c) := by unfold clsA; rw [h]
theorem fldK_ok (hK : C.K = KK P) {c x : Str} (h : isFld c x = true) : fldK C.K c x = true := by
 refine e1_2 (fld_mem h) fun l h1 h2 => ?_
 exact allAt (allAt (f := fun c => c.2.all (fldK C.K c.1)) (by rw [hK]; exact k_fld P) h1) h2
theorem txt_ok (hK : C.K = KK P) : TxtOk C txt where
 glob x d h := by
  have g : globK C.K (x, d) = true := allAt (by rw [hK]; exact k_glob P) (mem_of_lookup h)
  induction d using D.casesOn with
  | int i => exact ⟨i, _, rfl, mg_of C.X0 C.T0.g (beq_iff_eq.mp (andE g).2)⟩
  | _ => cases (andE g).1
 fn f g h := by
  have m := mem_of_lookup h
  have k : topK C.K (f, g) = true := allAt (by rw [hK]; exact k_top P) m
  have b := List.map_inj_left.mp (k_topB P) _ m
  rw [<- hK] at b
  have q := fnK_ok hK (andE k).2 b
  exact ⟨Option.isNone_iff_eq_none.mp (andE (andE k).1).1, _, mg_of C.X0 C.T0.g (beq_iff_eq.mp (andE (andE k).1).2), q.1, q.2⟩
 cls c l h := by
  have m := mem_of_lookup h
  have k : clsK C.K (c, l) = true := allAt (by rw [hK]; exact k_cls P) m
  refine e0_2 (andE k) fun k k5 => ?_
  refine e0_2 (andE k) fun k k4 => ?_
  refine e0_2 (andE k) fun k k3 => ?_
  refine e0_2 (andE k) fun k1 k2 => ?_
  refine e1_1 (Option.isSome_iff_exists.mp k4) fun g hg => ?_
  have mg := mem_of_lookup hg
  have k6 := allAt k5 mg
  have b := List.map_inj_left.mp (List.map_inj_left.mp (k_clsB P) _ m) _ mg
  rw [<- hK] at b
  have n := beq_iff_eq.mp k1
  exact ⟨_, g, _, mg_of C.X0 C.T0.g n, k2, hg, ⟨clsA_of n, k3, beq_iff_eq.mp (andE (andE (andE k6).1).1).2, beq_iff_eq.mp (andE (andE k6).1).2⟩, (fnK_ok hK (andE k6).2 b).2⟩
 bi b hb _ := by
  have k := allAt (show biNames.all (biK C.K) = true by rw [hK]; exact k_bi P) hb
  refine ⟨mg_none_of C.X0 C.T0.g (beq_iff_eq.mp (andE (andE k).1).1), (C.T0.builtins _ fun e => ?_).trans (beq_iff_eq.mp (andE (andE k).1).2)⟩
  have := (andE k).2
  rw [e] at this
  exact Bool.noConfusion this
 meth c l x g h1 h2 := by
  have m := mem_of_lookup h1
  have mg := mem_of_lookup h2
  have k : clsK C.K (c, l) = true := allAt (by rw [hK]; exact k_cls P) m
  have k6 := allAt (andE k).2 mg
  have n := (andE (andE (andE (andE k).1).1).1).1
  have b := List.map_inj_left.mp (List.map_inj_left.mp (k_clsB P) _ m) _ mg
  rw [<- hK] at b
  have q := fnK_ok hK (andE k6).2 b
  exact ⟨_, _, clsA_of (beq_iff_eq.mp n), (andE (andE (andE k6).1).1).1, beq_iff_eq.mp (andE (andE (andE k6).1).1).2, (andE (andE k6).1).2, q.1, q.2⟩
 field c x h := by
  refine e0_2 (andE (fldK_ok hK h)) fun k _ => ?_
  refine e0_2 (andE k) fun k _ => ?_
  refine e0_2 (andE k) fun k _ => ?_
  refine e0_2 (andE k) fun k k4 => ?_
  refine e0_2 (andE k) fun k k3 => ?_
  exact ⟨_, none, clsA_of (beq_iff_eq.mp (andE k).1), (andE k).2, k3, beq_iff_eq.mp k4, rfl⟩
 set c x h := by
  refine e0_2 (andE (fldK_ok hK h)) fun k k7 => ?_
  refine e0_2 (andE k) fun k k6 => ?_
  refine e0_2 (andE k) fun k k5 => ?_
  refine e0_2 (andE k) fun k k4 => ?_
  refine e0_2 (andE k) fun k k3 => ?_
  exact ⟨_, clsA_of (beq_iff_eq.mp (andE k).1), beq_iff_eq.mp k5, k6, beq_iff_eq.mp k7, k3⟩
 exc := ⟨44, by rw [hK]; exact kc_exc P, mg_of C.X0 C.T0.g (by rw [hK]; exact kn_exc P), by rw [hK]; exact kq_exc P⟩
end
end Mine
end
section
open PySem PySem.W
namespace Mine
noncomputable abbrev Cl := Key -> List D -> M D
noncomputable def nmTab : List String := ["found", "begin", "end", "ends", "points", "contours_of", "a", "x", "b", "y", "on", "contour", ".0", "contours", "moved", "number", "scaled_number", "c", "d", "scale", "turned", "at", "octets", "u16", "s16", "u32", "put16", "put32", "size", "part_of", "filled", "is_long", "count", "place", "read_loca", "flag", "byte", "many", "read_flags", "flags", "short", "step", "same", "signed", "read_deltas", "word", "read_ends", "instructions", "part", "across", "up", "ON_CURVE", "Outline", "read_simple", "one", "other", "third", "read_scale", "signed_byte", "is_move", "first", "second", "read_arguments", "glyph", "Part", "read_parts", "inner", "fixed", "loose", "outer", "anchor", "own", "placed", "axis_flag", "flag_octets", "box", "box_octets", "outline", "x_flag", "x_octets", "y_flag", "y_octets", "told", "simple_octets", "scale_octets", "argument_octets", "parts", "argument_flag", "arguments", "scale_flag", "composite_octets", "glyphs", "places", "rows", "write_glyphs", "cell", "k", "script", "big", "_law_pool", "source", "drawn", "top", "_law_take", "things", "_law_one", "turn", "_law_contours", "_law_part", "_law_scaled", "point", "_law_put", "known", "_law_whole", "_law_octets", "table", "list", "_law_told", "fourth", "GlyphTable", "row", "law", "self", "tuple", "int", "Octets", "glyph_octets", "above"]
noncomputable def nmTabS : List Str := nmTab.map Str.ofString
noncomputable def nm (i : Nat) : Str := match nmTabS[i]? with
 | some x => x
 | none => ⟨Array.replicate (i + 50) 0⟩
theorem nm_inj {i j : Nat} (h : nm i = nm j) : i = j := by
 have hlen : nmTabS.length = 128 := by decide +kernel
 have hd : ∀ i < 128, ∀ j < 128, nmTabS[i]? = nmTabS[j]? -> i = j := by decide +kernel
 have hs : ∀ x ∈ nmTabS, x.cps.size < 50 := by decide +kernel
 have h1 : ∀ i < 128, ∃ x, nmTabS[i]? = some x /\ nm i = x := fun i hi => by
  have : i < nmTabS.length := Nat.lt_of_lt_of_eq hi hlen.symm
  exact ⟨nmTabS[i], List.getElem?_eq_getElem this, by unfold nm; rw [List.getElem?_eq_getElem this]⟩
 have h2 : ∀ i, 128 <= i -> (nm i).cps.size = i + 50 := fun i hi => by
  unfold nm; rw [List.getElem?_eq_none (Nat.le_trans (Nat.le_of_eq hlen) hi)]; exact Array.size_replicate
 have h3 : ∀ i < 128, ∀ j, 128 <= j -> nm i ≠ nm j := fun i hi j hj h => by
  refine e1_2 (h1 i hi) fun x ex nx => ?_
  have a := hs x (List.mem_of_getElem? ex)
  rw [<- nx, h, h2 j hj] at a
  lia
 by_cases hi : i < 128 <;> by_cases hj : j < 128
 ·refine e1_2 (h1 i hi) fun x ex nx => ?_
  refine e1_2 (h1 j hj) fun y ey ny => ?_
  exact hd i hi j hj (by rw [ex, ey, <- nx, <- ny, h])
 ·exact absurd h (h3 i hi j (Nat.le_of_not_lt hj))
 ·exact absurd h.symm (h3 j hj i (Nat.le_of_not_lt hi))
 ·have := congrArg (fun x : Str => x.cps.size) h
  rw [h2 i (Nat.le_of_not_lt hi), h2 j (Nat.le_of_not_lt hj)] at this
  exact Nat.add_right_cancel this
theorem beq_nm (i j : Nat) : (nm i == nm j) = Nat.beq i j := by
 cases e : Nat.beq i j with
 | true => rw [Nat.eq_of_beq_eq_true e]; exact beq_self_eq_true _
 | false => exact beq_eq_false_iff_ne.mpr fun h => Nat.ne_of_beq_eq_false e (nm_inj h)
noncomputable abbrev VE := Nat -> Option D
noncomputable def Sb (l : VE) (v : Vars) : Prop := ∀ i d, l i = some d -> v.lookup (nm i) = some d
noncomputable def LE (l l' : VE) : Prop := ∀ i d, l i = some d -> l' i = some d
noncomputable def st (i : Nat) (d : D) (l : VE) : VE := fun j => cond (Nat.beq j i) (some d) (l j)
noncomputable def vs : List (Nat × D) -> Vars
 | [] => []
 | (i, d) :: r => (nm i, d) :: vs r
noncomputable def lk : List (Nat × D) -> VE
 | [], _ => none
 | (j, d) :: r, i => cond (Nat.beq i j) (some d) (lk r i)
theorem vs_lk (i : Nat) : ∀ l, (vs l).lookup (nm i) = lk l i
 | [] => rfl
 | (j, d) :: r => by
  show (match nm i == nm j with | true => some d | false => (vs r).lookup (nm i)) = _
  rw [beq_nm, vs_lk i r, lk]
  cases Nat.beq i j <;> rfl
theorem sb_vs (l : List (Nat × D)) : Sb (lk l) (vs l) := fun i d h => (vs_lk i l).trans h
theorem sb_st {l : VE} {v : Vars} (i : Nat) (d : D) (s : Sb l v) : Sb (st i d l) (setv (nm i) d v) := fun j e h => by
 rw [lookup_setv, beq_nm]
 unfold st at h
 cases w : Nat.beq j i with
 | true => rw [w] at h; exact h
 | false => rw [w] at h; exact s j e h
theorem LE.sb {l l' : VE} {v : Vars} (h : LE l l') (s : Sb l' v) : Sb l v := fun i d e => s i d (h i d e)
noncomputable def vst (i : Nat) (d : D) : List (Nat × D) -> List (Nat × D)
 | [] => [(i, d)]
 | (j, e) :: r => cond (Nat.beq j i) ((i, d) :: r) ((j, e) :: vst i d r)
theorem vs_vst (i : Nat) (d : D) : ∀ l, setv (nm i) d (vs l) = vs (vst i d l)
 | [] => rfl
 | (j, e) :: r => by
  show (if nm j == nm i then (nm i, d) :: vs r else (nm j, e) :: setv (nm i) d (vs r)) = _
  rw [beq_nm, vs_vst i d r, vst]
  cases h : Nat.beq j i <;> rfl
noncomputable def free (i : Nat) : List (Nat × NameKind) -> Bool
 | [] => false
 | (j, k) :: r => cond (Nat.beq i j) (match k with | .free => true | _ => false) (free i r)
noncomputable def cvf (f : List (Nat × NameKind)) (l : VE) : VE := fun i => cond (free i f) (l i) none
noncomputable def cvars (l : List (Nat × NameKind)) (env : Vars) : Vars := env.filter fun p => (l.map fun q => (nm q.1, q.2)).lookup p.1 == some .free
theorem free_is (i : Nat) : ∀ f : List (Nat × NameKind), ((f.map fun q => (nm q.1, q.2)).lookup (nm i) == some .free) = free i f
 | [] => rfl
 | (j, k) :: r => by
  show ((match nm i == nm j with | true => some k | false => _) == some NameKind.free) = cond (Nat.beq i j) _ (free i r)
  rw [beq_nm]
  cases Nat.beq i j with
  | true => induction k <;> rfl
  | false => exact free_is i r
theorem lookup_flt {q : Str -> Bool} {x : Str} (hx : q x = true) : ∀ v : Vars, (v.filter fun p => q p.1).lookup x = v.lookup x
 | [] => rfl
 | (y, d) :: r => by
  rw [List.filter_cons, List.lookup_cons]
  by_cases w : q y = true
  ·rw [if_pos w, List.lookup_cons, lookup_flt hx r]
  ·rw [if_neg w, lookup_flt hx r, show (x == y) = false from beq_eq_false_iff_ne.mpr fun e => w (e ▸ hx)]
theorem sb_cv {f : List (Nat × NameKind)} {l : VE} {v : Vars} (s : Sb l v) : Sb (cvf f l) (cvars f v) := fun i d h => by
 unfold cvf at h
 cases w : free i f with
 | false => rw [w] at h; exact nomatch h
 | true =>
  rw [w] at h
  unfold cvars
  rw [lookup_flt (q := fun y => (f.map fun q => (nm q.1, q.2)).lookup y == some .free) ((free_is i f).trans w)]
  exact s i d h
noncomputable def wpm {α : Type} (r : Res α) (P : α -> Mem -> Prop) (X : Mem -> Prop) : Prop := match r with
 | .ok a m => P a m
 | .exc m => X m
 | .stuck => False
structure wp {α : Type} (r : Res α) (P : α -> Mem -> Prop) (X : Mem -> Prop) : Prop where
 out : wpm r P X
noncomputable def ops {α : Type} (o : Option α) (P : α -> Prop) : Prop := match o with
 | some a => P a
 | none => False
section
variable {α β : Type} {P : α -> Mem -> Prop} {X : Mem -> Prop} {m : Mem}
theorem ops_some {o : Option α} {a : α} {Q : α -> Prop} (e : o = some a) (h : Q a) : ops o Q := e ▸ h
theorem ops_inv {o : Option α} {Q : α -> Prop} (h : ops o Q) : ∃ a, o = some a /\ Q a := by
 induction o with
 | none => exact h.elim
 | some a => exact ⟨a, rfl, h⟩
theorem ops_mono {o : Option α} {Q Q' : α -> Prop} (h : ops o Q) (k : ∀ a, Q a -> Q' a) : ops o Q' := by
 induction o with
 | none => exact h
 | some a => exact k a h
theorem wb {x : M β} {f : β -> M α} {P1 : β -> Mem -> Prop} (h : wp (x m) P1 X) (k : ∀ b m1, P1 b m1 -> wp (f b m1) P X) : wp (bind x f m) P X := by
 unfold bind
 revert h
 cases x m with
 | ok b m1 => exact fun h => k b m1 h.out
 | exc m1 => exact fun h => ⟨h.out⟩
 | stuck => exact fun h => ⟨h.out⟩
theorem wl {f : Mem -> Option α} (h : ops (f m) fun a => P a m) : wp (look f m) P X := by
 unfold look
 revert h
 cases f m <;> exact fun h => ⟨h⟩
theorem wli {o : Option α} (h : ops o fun a => P a m) : wp (lift o m) P X := by
 induction o <;> exact ⟨h⟩
theorem wbi {o : Option β} {f : β -> M α} (h : ops o fun a => wp (f a m) P X) : wp (bind (lift o) f m) P X := by
 induction o with
 | none => exact h.elim
 | some a => exact h
theorem wbk {g : Mem -> Option β} {f : β -> M α} (h : ops (g m) fun a => wp (f a m) P X) : wp (bind (look g) f m) P X := by
 unfold bind look
 revert h
 cases g m with
 | none => exact False.elim
 | some a => exact id
theorem wcalm {x : M α} (h : wp (x m) P fun _ => False) : wp (calm x m) P X := by
 unfold calm
 revert h
 cases x m with
 | ok a m => exact fun h => ⟨h.out⟩
 | exc m => exact fun h => h.out.elim
 | stuck => exact fun h => h.out.elim
theorem wif {c : Prop} [Decidable c] {x : M α} (e : c) (h : wp (x m) P X) : wp ((if c then x else fail : M α) m) P X := by rw [if_pos e]; exact h
end
structure XT (α : Type) where
 run : Vars -> M α
 vc : VE -> Mem -> (α -> Mem -> Prop) -> (Mem -> Prop) -> Prop
 ok : ∀ {l : VE} {v : Vars} {m : Mem} {P : α -> Mem -> Prop} {X : Mem -> Prop}, Sb l v -> vc l m P X -> wp (run v m) P X
noncomputable abbrev XE := XT D
noncomputable abbrev XB := XT Bool
noncomputable abbrev XL := XT (List D)
noncomputable def flP (N : VE -> Mem -> Prop) (R : D -> Mem -> Prop) : Fl -> Mem -> Prop := fun f m => match f with
 | .next v => ∃ l, Sb l v /\ N l m
 | .ret d => R d m
structure XS where
 run : Vars -> M Fl
 vc : VE -> Mem -> (VE -> Mem -> Prop) -> (D -> Mem -> Prop) -> (Mem -> Prop) -> Prop
 ok : ∀ {l : VE} {v : Vars} {m : Mem} {N : VE -> Mem -> Prop} {R : D -> Mem -> Prop} {X : Mem -> Prop}, Sb l v -> vc l m N R X -> wp (run v m) (flP N R) X
structure Tg where
 run : D -> Vars -> Option Vars
 vc : D -> VE -> (VE -> Prop) -> Prop
 ok : ∀ {d : D} {l : VE} {v : Vars} {Q : VE -> Prop}, Sb l v -> vc d l Q -> ops (run d v) fun v' => ∃ l', Sb l' v' /\ Q l'
noncomputable def var (i : Nat) : XE := ⟨fun v => lift (v.lookup (nm i)), fun l m P X => ops (l i) fun d => P d m, fun s h => let ⟨d, e, h⟩ := ops_inv h; wli (ops_some (s _ d e) h)⟩
noncomputable def cst (d : D) : XE := ⟨fun _ => lift (some d), fun l m P X => P d m, fun s h => ⟨h⟩⟩
section
variable {m : Mem} {Q : D -> Prop}
noncomputable def addV (x y : D) (Q : D -> Prop) : Prop := match x with
 | .int a => (match y with | .int b => Q (.int (a + b)) | _ => False)
 | .bytes a => (match y with | .bytes b => a.length + b.length <= cap /\ Q (.bytes (a ++ b)) | _ => False)
 | .str a => (match y with | .str b => a.length + b.length <= cap /\ Q (.str (a ++ b)) | _ => False)
 | .tup a => (match y with | .tup b => a.length + b.length <= cap /\ Q (.tup (a ++ b)) | _ => False)
 | .lst a => (match y with | .lst b => a.length + b.length <= cap /\ Q (.lst (a ++ b)) | _ => False)
 | _ => False
theorem opsIf {c : Prop} [Decidable c] {d : D} (h : c /\ Q d) : ops (if c then some d else none) Q := ops_some (if_pos h.1) h.2
theorem addV_ok {x y : D} (h : addV x y Q) : ops (binD m .Add x y) Q := by
 induction x using D.casesOn with
 | int a => induction y using D.casesOn with | int b => exact h | _ => exact h.elim
 | bytes a => induction y using D.casesOn with | bytes b => exact opsIf h | _ => exact h.elim
 | str a => induction y using D.casesOn with | str b => exact opsIf h | _ => exact h.elim
 | tup a => induction y using D.casesOn with | tup b => exact opsIf h | _ => exact h.elim
 | lst a => induction y using D.casesOn with | lst b => exact opsIf h | _ => exact h.elim
 | _ => exact h.elim
noncomputable def intV (f : Int -> Int -> (D -> Prop) -> Prop) (x y : D) (Q : D -> Prop) : Prop := match x with
 | .int a => (match y with | .int b => f a b Q | _ => False)
 | _ => False
theorem intV_ok {f : Int -> Int -> (D -> Prop) -> Prop} {op : Operator} (hf : ∀ a b, f a b Q -> ops (binD m op (.int a) (.int b)) Q) {x y : D} (h : intV f x y Q) : ops (binD m op x y) Q := by
 induction x using D.casesOn with
 | int a => induction y using D.casesOn with | int b => exact hf a b h | _ => exact h.elim
 | _ => exact h.elim
noncomputable def mulV (x y : D) (Q : D -> Prop) : Prop := match x with
 | .int a => (match y with | .int b => mulOk a b = true /\ Q (.int (a * b)) | _ => False)
 | .bytes a => (match y with | .int k => (a ≠ [] /\ a.length <= 16 /\ 0 <= k /\ k <= cap) /\ Q (.bytes (List.replicate k.toNat a).flatten) | _ => False)
 | .lst a => (match y with | .int k => (a.length <= 16 /\ 0 <= k /\ k <= cap) /\ Q (.lst (List.replicate k.toNat a).flatten) | _ => False)
 | _ => False
theorem opsMap {α : Type} {o : Option α} {a : α} {f : α -> D} (e : o = some a) (h : Q (f a)) : ops (o.map f) Q := ops_some (congrArg (Option.map f) e) h
theorem mulV_ok {x y : D} (h : mulV x y Q) : ops (binD m .Mult x y) Q := by
 induction x using D.casesOn with
 | int a => induction y using D.casesOn with | int b => exact opsMap (f := D.int) (if_pos h.1) h.2 | _ => exact h.elim
 | bytes a => induction y using D.casesOn with | int b => exact opsIf h | _ => exact h.elim
 | lst a => induction y using D.casesOn with | int b => exact opsIf h | _ => exact h.elim
 | _ => exact h.elim
noncomputable def posOk (b : Int) : Bool := match b with | .ofNat n => Nat.blt 0 n | _ => false
theorem posOk_is {b : Int} (h : posOk b = true) : 0 < b := by
 induction b with
 | ofNat n => exact Int.ofNat_lt.mpr (Nat.le_of_ble_eq_true h)
 | negSucc n => exact nomatch h
noncomputable def divOk (b : Int) : Bool := match b with | .ofNat n => Nat.blt 0 n && Nat.blt n 1073741824 | _ => false
theorem divOk_is {b : Int} (h : divOk b = true) : 0 < b /\ b < 1073741824 := by
 induction b with
 | ofNat n =>
  have h := (Bool.and_eq_true _ _).mp h
  exact ⟨Int.ofNat_lt.mpr (Nat.le_of_ble_eq_true h.1), Int.ofNat_lt.mpr (Nat.le_of_ble_eq_true h.2)⟩
 | negSucc n => exact nomatch h
theorem ctt {c : Bool} {A B : Prop} (h : c = true) (a : A) : cond c A B := h ▸ a
theorem cff {c : Bool} {A B : Prop} (h : c = false) (b : B) : cond c A B := h ▸ b
theorem cif {c : Bool} {A : Prop} (h : cond c A False) : c = true /\ A := by
 induction c with
 | true => exact ⟨rfl, h⟩
 | false => exact h.elim
noncomputable def binV (op : Operator) (x y : D) (Q : D -> Prop) : Prop := match op with
 | .Add => addV x y Q
 | .Sub => intV (fun a b Q => Q (.int (a - b))) x y Q
 | .Mult => mulV x y Q
 | .FloorDiv => intV (fun a b Q => cond (divOk b) (Q (.int (a / b))) False) x y Q
 | .Mod => intV (fun a b Q => cond (posOk b) (Q (.int (a % b))) False) x y Q
 | .BitAnd => intV (fun a b Q => Q (.int (Builtin.bitAnd a b))) x y Q
 | .BitOr => intV (fun a b Q => Q (.int (Builtin.bitOr a b))) x y Q
 | .Pow => intV (fun a b Q => (0 <= a /\ a < 100 /\ 0 <= b /\ b < 100) /\ Q (.int (a ^ b.toNat))) x y Q
 | _ => False
theorem fdiv_ok {a b : Int} (h : cond (divOk b) (Q (.int (a / b))) False) : ops (binD m .FloorDiv (.int a) (.int b)) Q := by
 have ⟨e, h⟩ := cif h
 have e := divOk_is e
 refine opsMap (f := D.int) (a := a / b) ?_ h
 show (if b ≠ 0 /\ b.natAbs < 1073741824 then some (a.fdiv b) else none) = _
 rw [if_pos ⟨by lia, by lia⟩, Int.fdiv_eq_ediv_of_nonneg _ (Int.le_of_lt e.1)]
theorem mod_ok {a b : Int} (h : cond (posOk b) (Q (.int (a % b))) False) : ops (binD m .Mod (.int a) (.int b)) Q := by
 have ⟨e, h⟩ := cif h
 have e := posOk_is e
 refine opsMap (f := D.int) (a := a % b) ?_ h
 show (if b = 0 then none else some (a.fmod b)) = _
 rw [if_neg (Int.ne_of_gt e), Int.fmod_eq_emod_of_nonneg _ (Int.le_of_lt e)]
theorem binV_ok {op : Operator} {x y : D} (h : binV op x y Q) : ops (binD m op x y) Q := by
 induction op with
 | Add => exact addV_ok h
 | Sub => exact intV_ok (f := fun a b Q => Q (.int (a - b))) (fun _ _ h => h) h
 | Mult => exact mulV_ok h
 | FloorDiv => exact intV_ok (f := fun a b Q => cond (divOk b) (Q (.int (a / b))) False) (fun _ _ h => fdiv_ok h) h
 | Mod => exact intV_ok (f := fun a b Q => cond (posOk b) (Q (.int (a % b))) False) (fun _ _ h => mod_ok h) h
 | BitAnd => exact intV_ok (f := fun a b Q => Q (.int (Builtin.bitAnd a b))) (fun _ _ h => h) h
 | BitOr => exact intV_ok (f := fun a b Q => Q (.int (Builtin.bitOr a b))) (fun _ _ h => h) h
 | Pow => exact intV_ok (f := fun a b Q => (0 <= a /\ a < 100 /\ 0 <= b /\ b < 100) /\ Q (.int (a ^ b.toNat))) (op := .Pow) (fun a b h => opsMap (f := D.int) (a := a ^ b.toNat) (o := if 0 <= a /\ a < 100 /\ 0 <= b /\ b < 100 then some (a ^ b.toNat) else none) (if_pos h.1) h.2) h
 | _ => exact h.elim
end
noncomputable def bin (op : Operator) (a b : XE) : XE := ⟨fun env => bind (a.run env) fun x => bind (b.run env) fun y => look fun m => binD m op x y,
 fun l m P X => a.vc l m (fun x m1 => b.vc l m1 (fun y m2 => binV op x y fun d => P d m2) X) X,
 fun s h => wb (a.ok s h) fun _ _ h => wb (b.ok s h) fun _ _ h => wl (binV_ok h)⟩
noncomputable def negV (x : D) (Q : D -> Prop) : Prop := match x with | .int i => Q (.int (-i)) | _ => False
noncomputable def neg (a : XE) : XE := ⟨fun env => bind (a.run env) fun x => (match x with | .int i => ret (.int (-i)) | _ => fail),
 fun l m P X => a.vc l m (fun x m1 => negV x fun d => P d m1) X,
 fun s h => wb (a.ok s h) fun x _ h => by induction x using D.casesOn with | int i => exact ⟨h⟩ | _ => exact h.elim⟩
theorem condOk {α : Type} {P : α -> Mem -> Prop} {X : Mem -> Prop} {m : Mem} {c : Bool} {x y : M α} {A B : Prop} (h : cond c A B) (ha : A -> wp (x m) P X) (hb : B -> wp (y m) P X) : wp (cond c x y m) P X := by
 induction c with
 | true => exact ha h
 | false => exact hb h
noncomputable def ife (t : XB) (a b : XE) : XE := ⟨fun env => bind (t.run env) fun c => cond c (a.run env) (b.run env),
 fun l m P X => t.vc l m (fun c m1 => cond c (a.vc l m1 P X) (b.vc l m1 P X)) X,
 fun s h => wb (t.ok s h) fun c _ h => condOk h (a.ok s) (b.ok s)⟩
noncomputable def evL : List XE -> XL
 | [] => ⟨fun _ => ret [], fun l m P X => P [] m, fun s h => ⟨h⟩⟩
 | e :: r => ⟨fun env => bind (e.run env) fun d => bind ((evL r).run env) fun ds => ret (d :: ds),
  fun l m P X => e.vc l m (fun d m1 => (evL r).vc l m1 (fun ds m2 => P (d :: ds) m2) X) X,
  fun s h => wb (e.ok s h) fun _ _ h => wb ((evL r).ok s h) fun _ _ h => ⟨h⟩⟩
theorem bleOk {α : Type} {P : α -> Mem -> Prop} {X : Mem -> Prop} {m : Mem} {n k : Nat} {x : M α} {A : Prop} (h : cond (Nat.ble n k) A False) (ha : A -> wp (x m) P X) : wp ((if n <= k then x else fail : M α) m) P X := by
 cases e : Nat.ble n k with
 | true => rw [e] at h; exact wif (Nat.le_of_ble_eq_true e) (ha h)
 | false => rw [e] at h; exact h.elim
noncomputable def tupE (es : List XE) : XE := ⟨fun env => bind ((evL es).run env) fun ds => if ds.length <= cap then ret (.tup ds) else fail,
 fun l m P X => (evL es).vc l m (fun ds m1 => cond (Nat.ble ds.length cap) (P (.tup ds) m1) False) X,
 fun s h => wb ((evL es).ok s h) fun _ _ h => bleOk h fun h => ⟨h⟩⟩
noncomputable def lstE (es : List XE) : XE := ⟨fun env => bind ((evL es).run env) fun ds => if ds.length <= cap then ret (.lst ds) else fail,
 fun l m P X => (evL es).vc l m (fun ds m1 => cond (Nat.ble ds.length cap) (P (.lst ds) m1) False) X,
 fun s h => wb ((evL es).ok s h) fun _ _ h => bleOk h fun h => ⟨h⟩⟩
theorem eqv_int (a b : Int) : PyData.eqv (.int a) (.int b) = decide (a = b) := by
 first
  | rfl
  | (simp [PyData.eqv, PyData.leafEq]; done)
  | (unfold PyData.eqv; simp; done)
section
variable {m : Mem} {Q : Bool -> Prop}
noncomputable def icmp (f : Int -> Int -> Bool) (x y : D) (Q : Bool -> Prop) : Prop := match x with
 | .int a => (match y with | .int b => Q (f a b) | _ => False)
 | _ => False
theorem icmp_ok {f : Int -> Int -> Bool} {op : CmpOp} (hf : ∀ a b, cmpD m op (.int a) (.int b) = some (f a b)) {x y : D} (h : icmp f x y Q) : ops (cmpD m op x y) Q := by
 induction x using D.casesOn with
 | int a => induction y using D.casesOn with | int b => exact ops_some (hf a b) h | _ => exact h.elim
 | _ => exact h.elim
structure eqO (m : Mem) (x y : D) (Q : Bool -> Prop) : Prop where
 out : ops (eqD (frz m x) (frz m y)) Q
noncomputable def eqV (m : Mem) (x y : D) (Q : Bool -> Prop) : Prop := match x with
 | .int a => (match y with | .int b => Q (decide (a = b)) | _ => eqO m x y Q)
 | .bytes a => (match y with | .bytes b => Q (a == b) | _ => False)
 | _ => eqO m x y Q
theorem eqO_ok {x y : D} (h : eqO m x y Q) : ops (eqD (frz m x) (frz m y)) Q := h.out
theorem eqV_ok {x y : D} (h : eqV m x y Q) : ops (eqD (frz m x) (frz m y)) Q := by
 induction x using D.casesOn with
 | int a => induction y using D.casesOn with
  | int b => exact ops_some (congrArg some (eqv_int a b)) h
  | _ => exact eqO_ok h
 | bytes a => induction y using D.casesOn with | bytes b => exact h | _ => exact h.elim
 | _ => exact eqO_ok h
theorem opsNot {o : Option Bool} (h : ops o fun b => Q (!b)) : ops (o.map (!·)) Q := by
 induction o <;> exact h
noncomputable def cmpV (m : Mem) (op : CmpOp) (x y : D) (Q : Bool -> Prop) : Prop := match op with
 | .Lt => icmp (fun a b => decide (a < b)) x y Q
 | .LtE => icmp (fun a b => decide (a <= b)) x y Q
 | .Gt => icmp (fun a b => decide (b < a)) x y Q
 | .GtE => icmp (fun a b => decide (b <= a)) x y Q
 | .Eq => eqV m x y Q
 | .NotEq => eqV m x y fun b => Q (!b)
 | _ => ops (cmpD m op x y) Q
theorem cmpV_ok {op : CmpOp} {x y : D} (h : cmpV m op x y Q) : ops (cmpD m op x y) Q := by
 induction op with
 | Lt => exact icmp_ok (fun _ _ => rfl) h
 | LtE => exact icmp_ok (fun _ _ => rfl) h
 | Gt => exact icmp_ok (fun _ _ => rfl) h
 | GtE => exact icmp_ok (fun _ _ => rfl) h
 | Eq => exact eqV_ok h
 | NotEq => exact opsNot (eqV_ok h)
 | _ => exact h
end
noncomputable def cmpE (op : CmpOp) (a b : XE) : XE := ⟨fun env => bind (a.run env) fun x => bind (b.run env) fun y => look fun m => (cmpD m op x y).map .bool,
 fun l m P X => a.vc l m (fun x m1 => b.vc l m1 (fun y m2 => cmpV m2 op x y fun c => P (.bool c) m2) X) X,
 fun s h => wb (a.ok s h) fun _ _ h => wb (b.ok s h) fun _ _ h => wl (let ⟨c, e, h⟩ := ops_inv (cmpV_ok h); opsMap (f := D.bool) e h)⟩
structure attV (x : Nat) (m : Mem) (d : D) (Q : D -> Prop) : Prop where
 out : ops ((fields m d).bind fun p => if isFld p.1 (nm x) then p.2.lookup (nm x) else none) Q
noncomputable def att (o : XE) (x : Nat) : XE := ⟨fun env => bind (o.run env) fun d => look fun m => (fields m d).bind fun p => if isFld p.1 (nm x) then p.2.lookup (nm x) else none,
 fun l m P X => o.vc l m (fun d m1 => attV x m1 d fun d => P d m1) X,
 fun s h => wb (o.ok s h) fun _ _ h => wl h.out⟩
structure subV (m : Mem) (d k : D) (Q : D -> Prop) : Prop where
 out : ops (subD m d k) Q
theorem subV_ok {m : Mem} {d k : D} {Q : D -> Prop} (h : subV m d k Q) : ops (subD m d k) Q := h.out
theorem subV_is {m : Mem} {d k : D} {Q : D -> Prop} (h : ops (subD m d k) Q) : subV m d k Q := ⟨h⟩
structure cutV (m : Mem) (d : D) (i j : Int) (Q : D -> Prop) : Prop where
 out : ops (cutD m d i j) Q
theorem cutV_ok {m : Mem} {d : D} {i j : Int} {Q : D -> Prop} (h : cutV m d i j Q) : ops (cutD m d i j) Q := h.out
theorem cutV_is {m : Mem} {d : D} {i j : Int} {Q : D -> Prop} (h : ops (cutD m d i j) Q) : cutV m d i j Q := ⟨h⟩
noncomputable def sub (o i : XE) : XE := ⟨fun env => bind (o.run env) fun d => bind (i.run env) fun k => look fun m => subD m d k,
 fun l m P X => o.vc l m (fun d m1 => i.vc l m1 (fun k m2 => subV m2 d k fun e => P e m2) X) X,
 fun s h => wb (o.ok s h) fun _ _ h => wb (i.ok s h) fun _ _ h => wl (subV_ok h)⟩
noncomputable def slcV (m : Mem) (d x y : D) (Q : D -> Prop) : Prop := match y with
 | .int j => (match x with
  | .int i => cutV m d i j Q
  | .none => cutV m d 0 j Q
  | _ => False)
 | _ => False
noncomputable def slc (o a b : XE) : XE := ⟨fun env => bind (o.run env) fun d => bind (a.run env) fun a => bind (b.run env) fun b =>
 (match a, b with
  | .int a, .int b => look fun m => cutD m d a b
  | .none, .int b => look fun m => cutD m d 0 b
  | _, _ => fail),
 fun l m P X => o.vc l m (fun d m1 => a.vc l m1 (fun x m2 => b.vc l m2 (fun y m3 => slcV m3 d x y fun e => P e m3) X) X) X,
 fun s h => wb (o.ok s h) fun _ _ h => wb (a.ok s h) fun x _ h => wb (b.ok s h) fun y _ h => by
  induction y using D.casesOn with
  | int j => induction x using D.casesOn with
   | int i => exact wl (cutV_ok h)
   | none => exact wl (cutV_ok h)
   | _ => exact h.elim
  | _ => exact h.elim⟩
noncomputable def asgN : List Nat -> List D -> Vars -> Option Vars
 | [], [], env => some env
 | x :: ts, d :: ds, env => asgN ts ds (setv (nm x) d env)
 | _, _, _ => none
noncomputable def asnV : List Nat -> List D -> VE -> (VE -> Prop) -> Prop
 | [], ds, l, Q => (match ds with | [] => Q l | _ => False)
 | x :: xs, ds, l, Q => (match ds with | d :: ds => asnV xs ds (st x d l) Q | [] => False)
theorem asnV_ok : ∀ {xs : List Nat} {ds : List D} {l : VE} {v : Vars} {Q : VE -> Prop}, Sb l v -> asnV xs ds l Q -> ops (asgN xs ds v) fun v' => ∃ l', Sb l' v' /\ Q l'
 | [], [], _, _, _, s, h => ⟨_, s, h⟩
 | [], _ :: _, _, _, _, _, h => h.elim
 | _ :: _, [], _, _, _, _, h => h.elim
 | x :: xs, d :: ds, _, _, _, s, h => asnV_ok (xs := xs) (ds := ds) (sb_st x d s) h
noncomputable def tg1 (x : Nat) : Tg := ⟨fun d env => some (setv (nm x) d env), fun d l Q => Q (st x d l), fun s h => ⟨_, sb_st _ _ s, h⟩⟩
noncomputable def tgV (xs : List Nat) (d : D) (l : VE) (Q : VE -> Prop) : Prop := match d with
 | .tup ds => asnV xs ds l Q
 | _ => False
theorem tgV_ok {xs : List Nat} {d : D} {l : VE} {v : Vars} {Q : VE -> Prop} (s : Sb l v) (h : tgV xs d l Q) : ops (match d with | .tup ds => asgN xs ds v | _ => none) fun v' => ∃ l', Sb l' v' /\ Q l' := by
 induction d using D.casesOn with
 | tup ds => exact asnV_ok s h
 | _ => exact h.elim
noncomputable def tgN (xs : List Nat) : Tg := ⟨fun d env => match d with
 | .tup ds => asgN xs ds env
 | _ => none, tgV xs, tgV_ok⟩
inductive All2 {β : Type} (R : D -> β -> Prop) : List D -> List β -> Prop
 | nil : All2 R [] []
 | cons {d : D} {e : β} {ds : List D} {es : List β} : R d e -> All2 R ds es -> All2 R (d :: ds) (e :: es)
theorem all2_map {γ β : Type} {R : D -> β -> Prop} {f : γ -> D} {g : γ -> β} : ∀ {xs : List γ}, (∀ x ∈ xs, R (f x) (g x)) -> All2 R (xs.map f) (xs.map g)
 | [], _ => .nil
 | x :: xs, h => .cons (h x (List.mem_cons_self ..)) (all2_map fun y hy => h y (List.mem_cons_of_mem _ hy))
theorem wp_map {β : Type} {f : D -> M β} {m : Mem} {X : Mem -> Prop} {ds : List D} {es : List β} {Q : List β -> Mem -> Prop} (a : All2 (fun d e => wp (f d m) (fun e' m' => e' = e /\ m' = m) X) ds es) (h : Q es m) : wp (mapM f ds m) Q X := by
 induction a generalizing Q with
 | nil => exact ⟨h⟩
 | cons r _ ih => exact wb r fun _ _ e => by rw [e.1, e.2]; exact wb (ih (Q := fun es m' => Q (_ :: es) m') h) fun _ _ h => ⟨h⟩
theorem All2.mono {β : Type} {R R' : D -> β -> Prop} {ds : List D} {es : List β} (a : All2 R ds es) (h : ∀ d e, R d e -> R' d e) : All2 R' ds es := by
 induction a with
 | nil => exact .nil
 | cons r _ ih => exact .cons (h _ _ r) ih
noncomputable abbrev itm {β : Type} (e : β) (m : Mem) : β -> Mem -> Prop := fun e' m' => e' = e /\ m' = m
noncomputable def comp1 (elt : XE) (t : Tg) (it : XE) (f : List (Nat × NameKind)) : XE := ⟨fun env => bind (it.run env) fun d => bind (lift (iterV d)) fun ds =>
 if ds.length <= cap then
 bind (calm (mapM (fun d => bind (lift (t.run d (cvars f env))) fun env' => elt.run env') ds)) fun es => ret (.lst es) else fail,
 fun l m P X => it.vc l m (fun d m1 => ops (iterV d) fun ds => ds.length <= cap /\ ∃ es, All2 (fun d e => t.vc d (cvf f l) fun l' => elt.vc l' m1 (itm e m1) fun _ => False) ds es /\ P (.lst es) m1) X,
 fun s h => wb (it.ok s h) fun _ m1 h => wbi (ops_mono h fun _ ⟨hl, es, a, h⟩ => wif hl (wb (wcalm (wp_map (Q := itm es m1) (a.mono fun _ _ r => wbi (ops_mono (t.ok (sb_cv s) r) fun _ ⟨_, s', r⟩ => elt.ok s' r)) ⟨rfl, rfl⟩)) fun _ _ e => by rw [e.1, e.2]; exact ⟨h⟩))⟩
noncomputable def comp2 (elt : XE) (t : Tg) (it : XE) (t2 : Tg) (it2 : XE) (f : List (Nat × NameKind)) : XE := ⟨fun env => bind (it.run env) fun d => bind (lift (iterV d)) fun ds =>
 if ds.length <= cap then
 bind (calm (mapM (fun d => bind (lift (t.run d (cvars f env))) fun env1 => bind (it2.run env1) fun d2 => bind (lift (iterV d2)) fun ds2 =>
  if ds2.length <= 200 then mapM (fun d2 => bind (lift (t2.run d2 env1)) fun env2 => elt.run env2) ds2 else fail) ds)) fun ess => ret (.lst ess.flatten) else fail,
 fun l m P X => it.vc l m (fun d m1 => ops (iterV d) fun ds => ds.length <= cap /\ ∃ ess : List (List D), All2 (fun d es => t.vc d (cvf f l) fun l1 => it2.vc l1 m1 (fun d2 m2 => m2 = m1 /\ ops (iterV d2) fun ds2 => ds2.length <= 200 /\
  All2 (fun d2 e => t2.vc d2 l1 fun l2 => elt.vc l2 m1 (itm e m1) fun _ => False) ds2 es) fun _ => False) ds ess /\ P (.lst ess.flatten) m1) X,
 fun s h => wb (it.ok s h) fun _ m1 h => wbi (ops_mono h fun _ ⟨hl, ess, a, h⟩ => wif hl (wb (wcalm (wp_map (Q := itm ess m1) (a.mono fun _ _ r => wbi (ops_mono (t.ok (sb_cv s) r) fun _ ⟨_, s', r⟩ => wb (it2.ok s' r) fun _ _ ⟨e, r⟩ => by
  rw [e]
  exact wbi (ops_mono r fun _ ⟨hl, a⟩ => wif hl (wp_map (a.mono fun _ _ r => wbi (ops_mono (t2.ok s' r) fun _ ⟨_, s', r⟩ => elt.ok s' r)) ⟨rfl, rfl⟩)))) ⟨rfl, rfl⟩)) fun _ _ e => by rw [e.1, e.2]; exact ⟨h⟩))⟩
noncomputable def joinV (m : Mem) (d : D) (Q : D -> Prop) : Prop := ops (items m d) fun ds => ops (catBytes ds) fun b => (b.length <= cap /\ ds.length <= cap) /\ Q (.bytes b)
noncomputable def joinE (a : XE) : XE := ⟨fun env => bind (a.run env) fun d =>
 look fun m => (items m d).bind fun ds => (catBytes ds).bind fun b => if b.length <= cap /\ ds.length <= cap then some (.bytes b) else none,
 fun l m P X => a.vc l m (fun d m1 => joinV m1 d fun e => P e m1) X,
 fun s h => wb (a.ok s h) fun _ _ h => wl (let ⟨ds, e, h⟩ := ops_inv h; let ⟨b, e2, h⟩ := ops_inv h; ops_some (by rw [e]; show (catBytes ds).bind _ = _; rw [e2]; exact if_pos h.1) h.2)⟩
noncomputable def okM (c x : Str) : Bool := (txt.methOf c x).isSome
structure mthV (x : Nat) (m : Mem) (d : D) (K : Str -> Prop) : Prop where
 out : ops (fields m d) fun q => (okM q.1 (nm x) && (q.2.lookup (nm x)).isNone) = true /\ K q.1
noncomputable def mcall (c : Cl) (o : XE) (x : Nat) (es : List XE) : XE := ⟨fun env => bind (o.run env) fun d =>
 bind (look fun m => fields m d) fun q => if okM q.1 (nm x) && (q.2.lookup (nm x)).isNone then bind ((evL es).run env) fun ds => c (.meth q.1 (nm x)) (d :: ds) else fail,
 fun l m P X => o.vc l m (fun d m1 => mthV x m1 d fun q => (evL es).vc l m1 (fun ds m2 => wp (c (.meth q (nm x)) (d :: ds) m2) P X) X) X,
 fun s h => wb (o.ok s h) fun _ _ h => by
  have h := h.out
  exact wbk (ops_mono h fun _ h => wif h.1 (wb ((evL es).ok s h.2) fun _ _ h => h))⟩
noncomputable def call (c : Cl) (f : Nat) (es : List XE) : XE := ⟨fun env => bind ((evL es).run env) fun ds => c (.top (nm f)) ds,
 fun l m P X => (evL es).vc l m (fun ds m1 => wp (c (.top (nm f)) ds m1) P X) X,
 fun s h => wb ((evL es).ok s h) fun _ _ h => h⟩
noncomputable def bi (b : String) (V : Mem -> List D -> (D -> Prop) -> Prop) (ok : ∀ {m : Mem} {ds : List D} {Q : D -> Prop}, V m ds Q -> ops (biD m b ds) Q) (es : List XE) : XE := ⟨fun env => bind ((evL es).run env) fun ds => look fun m => biD m b ds,
 fun l m P X => (evL es).vc l m (fun ds m1 => V m1 ds fun d => P d m1) X,
 fun s h => wb ((evL es).ok s h) fun _ _ h => wl (ok h)⟩
noncomputable def v1 (f : D -> (D -> Prop) -> Prop) (ds : List D) (Q : D -> Prop) : Prop := match ds with
 | [] => False
 | d :: r => (match r with | [] => f d Q | _ => False)
theorem v1_ok {f : D -> (D -> Prop) -> Prop} {ds : List D} {Q : D -> Prop} {o : List D -> Option D} (hf : ∀ d, f d Q -> ops (o [d]) Q) (h : v1 f ds Q) : ops (o ds) Q := by
 induction ds using List.casesOn with
 | nil => exact h.elim
 | cons d r => induction r using List.casesOn with
  | nil => exact hf d h
  | cons _ _ => exact h.elim
noncomputable def lenV (m : Mem) (d : D) (Q : D -> Prop) : Prop := match d with
 | .bytes b => Q (.int b.length)
 | .lst ds => Q (.int ds.length)
 | .tup ds => Q (.int ds.length)
 | .cell i => ∃ ds, m[i]? = some (.lst ds) /\ Q (.int ds.length)
 | _ => False
section
variable {m : Mem} {Q : D -> Prop}
theorem items_cell {i : Nat} {ds : List D} (e : m[i]? = some (.lst ds)) : items m (.cell i) = some ds := by
 show (match m[i]? with | some (.lst ds) => some ds | _ => none) = _; rw [e]
theorem fields_cell {i : Nat} {c : Str} {fs : List (Str × D)} (e : m[i]? = some (.inst c fs)) : fields m (.cell i) = some (c, fs) := by
 show (match m[i]? with | some (.inst c fs) => some (c, fs) | _ => none) = _; rw [e]
theorem lenV_ok {ds : List D} (h : v1 (lenV m) ds Q) : ops (biD m "len" ds) Q := v1_ok (fun d h => by
 induction d using D.casesOn with
 | bytes b => exact h
 | lst b => exact h
 | tup b => exact h
 | cell i => refine e1_2 h fun ds e h => ?_; exact opsMap (f := D.int) (congrArg (Option.map fun ds : List D => (ds.length : Int)) (items_cell e)) h
 | _ => exact h.elim) h
noncomputable def intBV (d : D) (Q : D -> Prop) : Prop := match d with
 | .int i => Q (.int i)
 | .bool b => Q (.int (if b then 1 else 0))
 | _ => False
theorem intBV_ok {ds : List D} (h : v1 intBV ds Q) : ops (biD m "int" ds) Q := v1_ok (fun d h => by
 induction d using D.casesOn with
 | int b => exact h
 | bool b => exact h
 | _ => exact h.elim) h
noncomputable def listBV (m : Mem) (d : D) (Q : D -> Prop) : Prop := match d with
 | .lst ds => Q (.lst ds)
 | d => ops (items m d) fun ds => Q (.lst ds)
theorem listBV_ok {ds : List D} (h : v1 (listBV m) ds Q) : ops (biD m "list" ds) Q := v1_ok (fun d h => by
 have key : ops (items m d) (fun ds => Q (.lst ds)) -> ops (biD m "list" [d]) Q := fun h => let ⟨ds, e, h⟩ := ops_inv h; opsMap (f := D.lst) e h
 induction d using D.casesOn with
 | lst b => exact h
 | _ => exact key h) h
noncomputable def rangeV (d : D) (Q : D -> Prop) : Prop := match d with
 | .int i => (0 <= i /\ i <= cap) /\ Q (.rng i.toNat)
 | _ => False
theorem rangeV_ok {ds : List D} (h : v1 rangeV ds Q) : ops (biD m "range" ds) Q := v1_ok (fun d h => by
 induction d using D.casesOn with
 | int b => exact opsIf h
 | _ => exact h.elim) h
noncomputable def ub (i : Int) : UInt8 := UInt8.ofNat i.toNat
noncomputable def bytesL : List D -> (List UInt8 -> Prop) -> Prop
 | [], Q => Q []
 | d :: r, Q => (match d with | .int i => (0 <= i /\ i < 256) /\ bytesL r fun b => Q (ub i :: b) | _ => False)
theorem bytesL_ok : ∀ {ds : List D} {Q : List UInt8 -> Prop}, bytesL ds Q -> ops (toBytes ds) Q
 | [], _, h => h
 | d :: r, Q, h => by
  induction d using D.casesOn with
  | int i =>
   refine e0_2 h fun h0 h => ?_
   refine e1_2 (ops_inv (bytesL_ok h)) fun bs e h => ?_
   refine ops_some ?_ h
   show (match toByte (.int i), toBytes r with | some b, some bs => some (b :: bs) | _, _ => none) = _
   rw [e, show toByte (.int i) = some (ub i) from if_pos h0]
  | _ => exact h.elim
noncomputable def bytesV (d : D) (Q : D -> Prop) : Prop := match d with
 | .bytes b => Q (.bytes b)
 | .int n => (0 <= n /\ n <= cap) /\ Q (.bytes (List.replicate n.toNat 0))
 | .lst ds => bytesL ds fun b => Q (.bytes b)
 | _ => False
theorem bytesV_ok {ds : List D} (h : v1 bytesV ds Q) : ops (biD m "bytes" ds) Q := v1_ok (fun d h => by
 induction d using D.casesOn with
 | bytes b => exact h
 | int n => exact opsIf h
 | lst b => exact let ⟨bs, e, h⟩ := ops_inv (bytesL_ok h); opsMap (f := D.bytes) e h
 | _ => exact h.elim) h
noncomputable def strV (d : D) (Q : D -> Prop) : Prop := match d with
 | .int i => i.natAbs < 2 ^ 60 /\ Q (.str (Str.ofString (toString i)))
 | _ => False
theorem strV_ok {ds : List D} (h : v1 strV ds Q) : ops (biD m "str" ds) Q := v1_ok (fun d h => by
 induction d using D.casesOn with
 | int b => exact opsIf h
 | _ => exact h.elim) h
noncomputable def max2V (ds : List D) (Q : D -> Prop) : Prop := match ds with
 | [] => False
 | d :: r => (match d with
  | .int a => (match r with
   | [] => False
   | e :: r => (match e with | .int b => (match r with | [] => Q (.int (if a < b then b else a)) | _ => False) | _ => False))
  | _ => ops (biD [] "max" ds) Q)
theorem max2V_ok {ds : List D} (h : max2V ds Q) : ops (biD m "max" ds) Q := by
 induction ds using List.casesOn with
 | nil => exact h.elim
 | cons d r =>
  induction d using D.casesOn with
  | int a => induction r using List.casesOn with
   | nil => exact h.elim
   | cons e r => induction e using D.casesOn with
    | int b => induction r using List.casesOn with
     | nil => exact h
     | cons _ _ => exact h.elim
    | _ => exact h.elim
  | _ => exact h
end
noncomputable def lenE : List XE -> XE := bi "len" (fun m => v1 (lenV m)) lenV_ok
noncomputable def intE : List XE -> XE := bi "int" (fun _ => v1 intBV) intBV_ok
noncomputable def maxE : List XE -> XE := bi "max" (fun _ => max2V) max2V_ok
noncomputable def minE : List XE -> XE := bi "min" (fun m ds Q => ops (biD m "min" ds) Q) id
noncomputable def rangeE : List XE -> XE := bi "range" (fun _ => v1 rangeV) rangeV_ok
noncomputable def listE : List XE -> XE := bi "list" (fun m => v1 (listBV m)) listBV_ok
noncomputable def bytesE : List XE -> XE := bi "bytes" (fun _ => v1 bytesV) bytesV_ok
noncomputable def strE : List XE -> XE := bi "str" (fun _ => v1 strV) strV_ok
noncomputable def notB (t : XB) : XB := ⟨fun env => bind (t.run env) fun b => ret (!b), fun l m P X => t.vc l m (fun b m1 => P (!b) m1) X, fun s h => wb (t.ok s h) fun _ _ h => ⟨h⟩⟩
noncomputable def truV (d : D) (Q : Bool -> Prop) : Prop := match d with | .bool b => Q b | _ => False
noncomputable def tru (e : XE) : XB := ⟨fun env => bind (e.run env) fun d => lift (truth d), fun l m P X => e.vc l m (fun d m1 => truV d fun b => P b m1) X,
 fun s h => wb (e.ok s h) fun d _ h => by induction d using D.casesOn with | bool b => exact ⟨h⟩ | _ => exact h.elim⟩
noncomputable def andB : List XB -> XB
 | [] => ⟨fun _ => ret true, fun l m P X => P true m, fun s h => ⟨h⟩⟩
 | e :: es => ⟨fun env => bind (e.run env) fun b => cond b ((andB es).run env) (ret false),
  fun l m P X => e.vc l m (fun b m1 => cond b ((andB es).vc l m1 P X) (P false m1)) X,
  fun s h => wb (e.ok s h) fun c _ h => condOk h ((andB es).ok s) fun h => ⟨h⟩⟩
noncomputable def orB : List XB -> XB
 | [] => ⟨fun _ => ret false, fun l m P X => P false m, fun s h => ⟨h⟩⟩
 | e :: es => ⟨fun env => bind (e.run env) fun b => cond b (ret true) ((orB es).run env),
  fun l m P X => e.vc l m (fun b m1 => cond b (P true m1) ((orB es).vc l m1 P X)) X,
  fun s h => wb (e.ok s h) fun c _ h => condOk h (fun h => ⟨h⟩) ((orB es).ok s)⟩
noncomputable def cmpB (op : CmpOp) (a b : XE) : XB := ⟨fun env => bind (a.run env) fun x => bind (b.run env) fun y => look fun m => cmpD m op x y,
 fun l m P X => a.vc l m (fun x m1 => b.vc l m1 (fun y m2 => cmpV m2 op x y fun c => P c m2) X) X,
 fun s h => wb (a.ok s h) fun _ _ h => wb (b.ok s h) fun _ _ h => wl (cmpV_ok h)⟩
noncomputable def chnB (a : XE) (op : CmpOp) (b : XE) (op2 : CmpOp) (c : XE) : XB := ⟨fun env => bind (a.run env) fun x => bind (b.run env) fun y => bind (look fun m => cmpD m op x y) fun q => cond q (bind (c.run env) fun z => look fun m => cmpD m op2 y z) (ret false),
 fun l m P X => a.vc l m (fun x m1 => b.vc l m1 (fun y m2 => cmpV m2 op x y fun q => cond q (c.vc l m2 (fun z m3 => cmpV m3 op2 y z fun c => P c m3) X) (P false m2)) X) X,
 fun s h => wb (a.ok s h) fun _ _ h => wb (b.ok s h) fun _ _ h => wbk (ops_mono (cmpV_ok h) fun q h => condOk h (fun h => wb (c.ok s h) fun _ _ h => wl (cmpV_ok h)) fun h => ⟨h⟩)⟩
noncomputable def aloc (es : List XE) : XE := ⟨fun env => bind ((evL es).run env) alloc,
 fun l m P X => (evL es).vc l m (fun ds m1 => cond (plain.plains ds && Nat.ble ds.length cap) (P (.cell m1.length) (m1 ++ [.lst ds])) False) X,
 fun s h => wb ((evL es).ok s h) fun ds m1 h => by
  have ⟨e, h⟩ := cif h
  have e := (Bool.and_eq_true _ _).mp e
  show wp (if plain.plains ds && decide (ds.length <= cap) then _ else _ : Res D) _ _
  rw [e.1, decide_eq_true (Nat.le_of_ble_eq_true e.2)]; exact ⟨h⟩⟩
noncomputable def retS (e : XE) : XS := ⟨fun env => bind (e.run env) fun d => ret (.ret d), fun l m N R X => e.vc l m R X, fun s h => wb (e.ok s h) fun _ _ h => ⟨h⟩⟩
noncomputable def asg (x : Nat) (e : XE) : XS := ⟨fun env => bind (e.run env) fun d => ret (.next (setv (nm x) d env)), fun l m N R X => e.vc l m (fun d m1 => N (st x d l) m1) X, fun s h => wb (e.ok s h) fun _ _ h => ⟨⟨_, sb_st _ _ s, h⟩⟩⟩
noncomputable def asgT (xs : List Nat) (es : List XE) : XS := ⟨fun env => bind ((evL es).run env) fun ds => bind (lift (asgN xs ds env)) fun env' => ret (.next env'),
 fun l m N R X => (evL es).vc l m (fun ds m1 => asnV xs ds l fun l' => N l' m1) X,
 fun s h => wb ((evL es).ok s h) fun _ _ h => wbi (ops_mono (asnV_ok s h) fun _ h => ⟨h⟩)⟩
noncomputable def asgU (xs : List Nat) (e : XE) : XS := ⟨fun env => bind (e.run env) fun d => bind (lift ((tgN xs).run d env)) fun env' => ret (.next env'),
 fun l m N R X => e.vc l m (fun d m1 => tgV xs d l fun l' => N l' m1) X,
 fun s h => wb (e.ok s h) fun _ _ h => wbi (ops_mono (tgV_ok s h) fun _ h => ⟨h⟩)⟩
theorem wp_setCell {i : Nat} {c : Cell} {m : Mem} {X : Mem -> Prop} {P : Unit -> Mem -> Prop} (hi : i < m.length) (h : P () (m.set i c)) : wp (setCell i c m) P X := by
 unfold setCell; rw [if_pos hi]; exact ⟨h⟩
theorem lt_get {m : Mem} {i : Nat} {c : Cell} (e : m[i]? = some c) : i < m.length := (List.getElem?_eq_some_iff.mp e).1
structure setAV (m : Mem) (x : Nat) (od d : D) (K : Mem -> Prop) : Prop where
 out : ∃ i c L, od = .cell i /\ m[i]? = some (.inst c (vs L)) /\ (plain d && isFld c (nm x) && decide ((vs L).length <= 50)) = true /\ K (m.set i (.inst c (vs (vst x d L))))
noncomputable def setA (o : XE) (x : Nat) (e : XE) : XS := ⟨fun env => bind (e.run env) fun d => bind (o.run env) fun od => (match od with
 | .cell i => bind (look fun m => fields m (.cell i)) fun p => if plain d && isFld p.1 (nm x) && decide (p.2.length <= 50) then bind (setCell i (.inst p.1 (setv (nm x) d p.2))) fun _ => ret (.next env) else fail
 | _ => fail),
 fun l m N R X => e.vc l m (fun d m1 => o.vc l m1 (fun od m2 => setAV m2 x od d (N l)) X) X,
 fun s h => wb (e.ok s h) fun d _ h => wb (o.ok s h) fun od m2 h => by
  refine e3_4 h.out fun i c L e1 e2 h1 h => ?_
  rw [e1]
  exact wbk (ops_some (a := (c, vs L)) (fields_cell e2) <| wif h1 (wb (wp_setCell (P := fun _ m' => m' = m2.set i (.inst c (vs (vst x d L)))) (lt_get e2) (by rw [vs_vst])) fun _ _ e => ⟨⟨_, s, by rw [e]; exact h⟩⟩))⟩
structure setIV (m : Mem) (od k d : D) (K : Mem -> Prop) : Prop where
 out : ∃ j n ds, od = .cell j /\ k = .int n /\ m[j]? = some (.lst ds) /\ (plain d && decide (0 <= n) && decide (n < ds.length)) = true /\ K (m.set j (.lst (ds.set n.toNat d)))
noncomputable def setI (o i e : XE) : XS := ⟨fun env => bind (e.run env) fun d => bind (o.run env) fun od => bind (i.run env) fun k => (match od, k with
 | .cell i, .int k => bind (look fun m => items m (.cell i)) fun ds => if plain d && decide (0 <= k) && decide (k < ds.length) then bind (setCell i (.lst (ds.set k.toNat d))) fun _ => ret (.next env) else fail
 | _, _ => fail),
 fun l m N R X => e.vc l m (fun d m1 => o.vc l m1 (fun od m2 => i.vc l m2 (fun k m3 => setIV m3 od k d (N l)) X) X) X,
 fun s h => wb (e.ok s h) fun d _ h => wb (o.ok s h) fun od _ h => wb (i.ok s h) fun k m3 h => by
  refine e3_5 h.out fun j n ds e1 e2 e3 h1 h => ?_
  rw [e1, e2]
  exact wbk (ops_some (a := ds) (items_cell e3) <| wif h1 (wb (wp_setCell (P := fun _ m' => m' = m3.set j (.lst (ds.set n.toNat d))) (lt_get e3) rfl) fun _ _ e => ⟨⟨_, s, by rw [e]; exact h⟩⟩))⟩
structure appV (m : Mem) (i : Nat) (d : D) (K : Mem -> Prop) : Prop where
 out : ∃ ds, m[i]? = some (.lst ds) /\ (plain d && decide (ds.length < cap)) = true /\ K (m.set i (.lst (ds ++ [d])))
noncomputable def celV (m : Mem) (d : D) (K : Nat -> Prop) : Prop := match d with
 | .cell i => (∃ ds, m[i]? = some (.lst ds)) /\ K i
 | _ => False
noncomputable def app (o e : XE) : XS := ⟨fun env => bind (o.run env) fun od => bind (look fun m => items m od) fun _ => bind (e.run env) fun d => (match od with
 | .cell i => bind (look fun m => items m (.cell i)) fun ds => if plain d && decide (ds.length < cap) then bind (setCell i (.lst (ds ++ [d]))) fun _ => ret (.next env) else fail
 | _ => fail),
 fun l m N R X => o.vc l m (fun od m1 => celV m1 od fun i => e.vc l m1 (fun d m2 => appV m2 i d (N l)) X) X,
 fun s h => wb (o.ok s h) fun od m1 h => by
  induction od using D.casesOn with
  | cell i =>
   obtain ⟨⟨ds0, e0⟩, h⟩ := h
   refine wbk (ops_some (a := ds0) (items_cell e0) <| wb (e.ok s h) fun d m2 h => by
    refine e1_3 h.out fun ds e3 h1 h => ?_
    exact wbk (ops_some (a := ds) (items_cell e3) <| wif h1 (wb (wp_setCell (P := fun _ m' => m' = m2.set i (.lst (ds ++ [d]))) (lt_get e3) rfl) fun _ _ e => ⟨⟨_, s, by rw [e]; exact h⟩⟩)))
  | _ => exact h.elim⟩
noncomputable def exprS (e : XE) : XS := ⟨fun env => bind (e.run env) fun d => (match d with | .bytes _ => ret (.next env) | _ => fail),
 fun l m N R X => e.vc l m (fun d m1 => (match d with | .bytes _ => N l m1 | _ => False)) X,
 fun s h => wb (e.ok s h) fun d _ h => by induction d using D.casesOn with | bytes _ => exact ⟨⟨_, s, h⟩⟩ | _ => exact h.elim⟩
noncomputable def ifS (t : XB) (a b : XS) : XS := ⟨fun env => bind (t.run env) fun c => cond c (a.run env) (b.run env),
 fun l m N R X => t.vc l m (fun c m1 => cond c (a.vc l m1 N R X) (b.vc l m1 N R X)) X,
 fun s h => wb (t.ok s h) fun c _ h => condOk h (a.ok s) (b.ok s)⟩
noncomputable def whV (t : XB) (b : XS) (l : VE) (m : Mem) (N : VE -> Mem -> Prop) (R : D -> Mem -> Prop) : Prop := ∃ I : Nat -> VE -> Mem -> Prop, (∃ n, n < whileTop /\ ∃ l0, LE l0 l /\ I n l0 m) /\
 ∀ n l m, I n l m -> t.vc l m (fun c m1 => cond c (b.vc l m1 (fun l' m' => ∃ n', n' < n /\ ∃ l0, LE l0 l' /\ I n' l0 m') R fun _ => False) (N l m1)) fun _ => False
theorem wh_run {t : XB} {b : XS} {N : VE -> Mem -> Prop} {R : D -> Mem -> Prop} {X : Mem -> Prop} {I : Nat -> VE -> Mem -> Prop}
  (hs : ∀ n l m, I n l m -> t.vc l m (fun c m1 => cond c (b.vc l m1 (fun l' m' => ∃ n', n' < n /\ ∃ l0, LE l0 l' /\ I n' l0 m') R fun _ => False) (N l m1)) fun _ => False) :
  ∀ k n l v m, n < k -> Sb l v -> I n l m -> wp (whileL (fun env => t.run env) (fun env => b.run env) k v m) (flP N R) X
 | 0, _, _, _, _, hn, _, _ => absurd hn (Nat.not_lt_zero _)
 | k + 1, n, l, v, m, hn, s, h => wb (wcalm (t.ok s (hs n l m h))) fun c m1 h => condOk h (fun h => wb (wcalm (b.ok s h)) fun fl m2 h => by
   induction fl with
   | ret d => exact ⟨h⟩
   | next v' =>
    obtain ⟨l', s', n', hn', l0, le, h⟩ := h
    exact wh_run hs k n' l0 v' m2 (Nat.lt_of_lt_of_le hn' (Nat.le_of_lt_succ hn)) (le.sb s') h) fun h => ⟨⟨_, s, h⟩⟩
noncomputable def whU (t : XB) (b : XS) (N : VE -> Mem -> Prop) (R : D -> Mem -> Prop) : Nat -> VE -> Mem -> Prop
 | 0, _, _ => False
 | k + 1, l, m => t.vc l m (fun c m1 => cond c (b.vc l m1 (whU t b N R k) R fun _ => False) (N l m1)) fun _ => False
theorem wu_run {t : XB} {b : XS} {N : VE -> Mem -> Prop} {R : D -> Mem -> Prop} {X : Mem -> Prop} : ∀ k l v m, Sb l v -> whU t b N R k l m -> wp (whileL (fun env => t.run env) (fun env => b.run env) k v m) (flP N R) X
 | 0, _, _, _, _, h => h.elim
 | k + 1, l, v, m, s, h => wb (wcalm (t.ok s h)) fun c m1 h => condOk h (fun h => wb (wcalm (b.ok s h)) fun fl m2 h => by
   induction fl with
   | ret d => exact ⟨h⟩
   | next v' => refine e1_2 h fun l' s' h => ?_; exact wu_run k l' v' m2 s' h) fun h => ⟨⟨_, s, h⟩⟩
noncomputable def whileS (t : XB) (b : XS) : XS := ⟨fun env => whileL (fun env => t.run env) (fun env => b.run env) whileTop env,
 fun l m N R X => whV t b l m N R \/ whU t b N R whileTop l m,
 fun s h => by
  rcases h with ⟨_, ⟨n, hn, _, le, h⟩, hs⟩ | h
  ·exact wh_run hs whileTop n _ _ _ hn (le.sb s) h
  ·exact wu_run whileTop _ _ _ s h⟩
noncomputable def lpV (t : Tg) (b : XS) (ds : List D) (l : VE) (m : Mem) (N : VE -> Mem -> Prop) (R : D -> Mem -> Prop) (X : Mem -> Prop) (C : Mem -> Prop) : Prop := ∃ I : List D -> VE -> Mem -> Prop, (∃ l0, LE l0 l /\ I ds l0 m) /\ (∀ r l m, I r l m -> C m) /\ (∀ l m, I [] l m -> N l m) /\
 ∀ d r l m, I (d :: r) l m -> t.vc d l fun l' => b.vc l' m (fun l2 m2 => ∃ l0, LE l0 l2 /\ I r l0 m2) R X
section
variable {t : Tg} {b : XS} {N : VE -> Mem -> Prop} {R : D -> Mem -> Prop} {X : Mem -> Prop}
theorem lt_get' {ds : List D} {i : Nat} {c : D} (e : ds[i]? = some c) : i < ds.length := (List.getElem?_eq_some_iff.mp e).1
theorem turnOk {d : D} {l : VE} {v : Vars} {m : Mem} {N' : VE -> Mem -> Prop} (s : Sb l v) (h : t.vc d l fun l' => b.vc l' m N' R X) : wp (bind (lift (t.run d v)) (fun env' => b.run env') m) (flP N' R) X :=
 wbi (ops_mono (t.ok s h) fun _ ⟨_, s', h⟩ => b.ok s' h)
theorem lp_run {I : List D -> VE -> Mem -> Prop} (hN : ∀ l m, I [] l m -> N l m) (hs : ∀ d r l m, I (d :: r) l m -> t.vc d l fun l' => b.vc l' m (fun l2 m2 => ∃ l0, LE l0 l2 /\ I r l0 m2) R X) :
  ∀ ds l v m, Sb l v -> I ds l m -> wp (forL (fun d env => bind (lift (t.run d env)) fun env' => b.run env') ds v m) (flP N R) X
 | [], l, v, m, s, h => ⟨⟨_, s, hN l m h⟩⟩
 | d :: r, l, v, m, s, h => wb (turnOk s (hs d r l m h)) fun fl m2 h => by
   induction fl with
   | ret d => exact ⟨h⟩
   | next v' =>
    obtain ⟨l', s', l0, le, h⟩ := h
    exact lp_run hN hs r l0 v' m2 (le.sb s') h
theorem lpC_run {I : List D -> VE -> Mem -> Prop} {i : Nat} {all : List D} (hC : ∀ r l m, I r l m -> m[i]? = some (.lst all)) (hN : ∀ l m, I [] l m -> N l m) (hs : ∀ d r l m, I (d :: r) l m -> t.vc d l fun l' => b.vc l' m (fun l2 m2 => ∃ l0, LE l0 l2 /\ I r l0 m2) R X) :
  ∀ k j l v m, j <= all.length -> all.length < j + k -> Sb l v -> I (all.drop j) l m -> wp (forC (fun d env => bind (lift (t.run d env)) fun env' => b.run env') i k j v m) (flP N R) X
 | 0, j, l, v, m, hj, hk, s, h => absurd hk (Nat.not_lt_of_le hj)
 | k + 1, j, l, v, m, hj0, hk, s, h => by
   refine wbk (ops_some (items_cell (hC _ _ _ h)) ?_)
   cases hj : all[j]? with
   | none =>
    rw [List.drop_of_length_le (List.getElem?_eq_none_iff.mp hj)] at h
    exact ⟨⟨_, s, hN l m h⟩⟩
   | some d =>
    have hd : all.drop j = d :: all.drop (j + 1) := by
     obtain ⟨hl, e⟩ := List.getElem?_eq_some_iff.mp hj
     rw [List.drop_eq_getElem_cons hl, e]
    rw [hd] at h
    exact wb (turnOk s (hs d _ l m h)) fun fl m2 h => by
     induction fl with
     | ret d => exact ⟨h⟩
     | next v' =>
      obtain ⟨l', s', l0, le, h⟩ := h
      exact lpC_run hC hN hs k (j + 1) l0 v' m2 (lt_get' hj) (by rw [Nat.add_right_comm]; exact hk) (le.sb s') h
end
noncomputable def lpR (t : Tg) (b : XS) (N : VE -> Mem -> Prop) (R : D -> Mem -> Prop) (X : Mem -> Prop) : List D -> VE -> Mem -> Prop
 | [], l, m => N l m
 | d :: r, l, m => t.vc d l fun l' => b.vc l' m (lpR t b N R X r) R X
@[irreducible] noncomputable def lpU (t : Tg) (b : XS) (N : VE -> Mem -> Prop) (R : D -> Mem -> Prop) (X : Mem -> Prop) (ds : List D) (l : VE) (m : Mem) : Prop := lpR t b N R X ds l m
section
variable {t : Tg} {b : XS} {N : VE -> Mem -> Prop} {R : D -> Mem -> Prop} {X : Mem -> Prop}
theorem lpUc {d : D} {r : List D} {l : VE} {m : Mem} : lpU t b N R X (d :: r) l m = t.vc d l fun l' => b.vc l' m (lpU t b N R X r) R X := by unfold lpU; rfl
theorem lpU0 {l : VE} {m : Mem} : lpU t b N R X [] l m = N l m := by unfold lpU; rfl
theorem lpc {d : D} {r : List D} {l : VE} {m : Mem} (h : t.vc d l fun l' => b.vc l' m (lpU t b N R X r) R X) : lpU t b N R X (d :: r) l m := lpUc.mpr h
theorem lp0 {l : VE} {m : Mem} (h : N l m) : lpU t b N R X [] l m := lpU0.mpr h
theorem lu_run : ∀ ds l v m, Sb l v -> lpU t b N R X ds l m -> wp (forL (fun d env => bind (lift (t.run d env)) fun env' => b.run env') ds v m) (flP N R) X
 | [], l, v, m, s, h => ⟨⟨_, s, lpU0.mp h⟩⟩
 | d :: r, l, v, m, s, h => wb (turnOk s (lpUc.mp h)) fun fl m2 h => by
   induction fl with
   | ret d => exact ⟨h⟩
   | next v' => refine e1_2 h fun l' s' h => ?_; exact lu_run r l' v' m2 s' h
end
theorem lpOk {t : Tg} {b : XS} {N : VE -> Mem -> Prop} {R : D -> Mem -> Prop} {X : Mem -> Prop} {ds : List D} {l : VE} {v : Vars} {m : Mem} (s : Sb l v) (h : (lpV t b ds l m N R X fun _ => True) \/ lpU t b N R X ds l m) : wp (forL (fun d env => bind (lift (t.run d env)) fun env' => b.run env') ds v m) (flP N R) X := by
 rcases h with ⟨I, ⟨l0, le, h⟩, _, hN, hs⟩ | h
 ·exact lp_run hN hs ds l0 _ m (le.sb s) h
 ·exact lu_run ds _ _ m s h
noncomputable def forV (t : Tg) (b : XS) (d : D) (l : VE) (m : Mem) (N : VE -> Mem -> Prop) (R : D -> Mem -> Prop) (X : Mem -> Prop) : Prop := match d with
 | .cell i => ∃ ds, ds.length < whileTop /\ lpV t b ds l m N R X fun m => m[i]? = some (.lst ds)
 | .lst ds => ds.length <= cap /\ ((lpV t b ds l m N R X fun _ => True) \/ lpU t b N R X ds l m)
 | .tup ds => ds.length <= cap /\ ((lpV t b ds l m N R X fun _ => True) \/ lpU t b N R X ds l m)
 | .rng n => n <= cap /\ ((lpV t b (rngItems n) l m N R X fun _ => True) \/ lpU t b N R X (rngItems n) l m)
 | _ => False
noncomputable def forS (t : Tg) (it : XE) (b : XS) : XS := ⟨fun env => bind (it.run env) fun d => (match d with
 | .cell i => forC (fun d env => bind (lift (t.run d env)) fun env' => b.run env') i whileTop 0 env
 | d => bind (lift (iterV d)) fun ds => if ds.length <= cap then forL (fun d env => bind (lift (t.run d env)) fun env' => b.run env') ds env else fail),
 fun l m N R X => it.vc l m (fun d m1 => forV t b d l m1 N R X) X,
 fun s h => wb (it.ok s h) fun d m1 h => by
  induction d using D.casesOn with
  | cell i => obtain ⟨ds, hl, I, ⟨l0, le, h⟩, hC, hN, hs⟩ := h; exact lpC_run hC hN hs whileTop 0 l0 _ m1 (Nat.zero_le _) (by rw [Nat.zero_add]; exact hl) (le.sb s) h
  | lst ds => exact wif h.1 (lpOk s h.2)
  | tup ds => exact wif h.1 (lpOk s h.2)
  | rng n => exact wif (by rw [show (rngItems n).length = n from by unfold rngItems; rw [List.length_map, List.length_range]]; exact h.1) (lpOk s h.2)
  | _ => exact h.elim⟩
noncomputable def raise0 : XS := ⟨fun _ m => .exc m, fun l m N R X => X m, fun s h => ⟨h⟩⟩
noncomputable def raiseS (a : XE) : XS := ⟨fun env => bind (a.run env) fun d => (match d with | .str _ => fun m => .exc m | _ => fail),
 fun l m N R X => a.vc l m (fun d m1 => (match d with | .str _ => X m1 | _ => False)) X,
 fun s h => wb (a.ok s h) fun d _ h => by induction d using D.casesOn with | str _ => exact ⟨h⟩ | _ => exact h.elim⟩
noncomputable def tryS (b : XS) : XS := ⟨fun env m => match b.run env m with
 | .exc m' => .ok (.ret .none) m'
 | r => r,
 fun l m N R X => b.vc l m N R fun m1 => R .none m1,
 fun {l v m N R X} s h => by
  have h := b.ok s h
  revert h
  cases b.run v m <;> exact fun h => ⟨h.out⟩⟩
noncomputable def seqS (a b : XS) : XS := ⟨fun env => bind (a.run env) fun
 | .next env' => b.run env'
 | .ret d => ret (.ret d),
 fun l m N R X => a.vc l m (fun l' m' => b.vc l' m' N R X) R X,
 fun s h => wb (a.ok s h) fun fl _ h => by
  induction fl with
  | ret d => exact ⟨h⟩
  | next v' => refine e1_2 h fun _ s' h => ?_; exact b.ok s' h⟩
noncomputable def nop : XS := ⟨fun env => ret (.next env), fun l m N R X => N l m, fun s h => ⟨⟨_, s, h⟩⟩⟩
noncomputable def fin (m : Mem) (r : Res Fl) : Res D := match r with
 | .ok fl m' => (match freeze m' m.length (retOf fl) with
  | some d => .ok d (m'.take m.length)
  | none => .stuck)
 | .exc m' => .exc (m'.take m.length)
 | .stuck => .stuck
noncomputable def finC (m : Mem) (r : Res Fl) : Res D := match r with
 | .ok fl m' => .ok (retOf fl) m'
 | .exc m' => .exc (m'.take m.length)
 | .stuck => .stuck
noncomputable def finI (mu : Bool) (m : Mem) (r : Res D) : Res D := match r with
 | .ok .none m' => if mu then .ok (.cell m.length) m' else (match m'[m.length]? with
  | some (.inst c fs) => .ok (.inst c fs) (m'.take m.length)
  | _ => .stuck)
 | _ => .stuck
noncomputable def stepTop (c : Cl) (q : Str) (args : List D) : M D := match txt.methOf q "__init__" with
 | some f => makeInst (txt.tabs c) q f args
 | none => match txt.fns.lookup q with
  | some f => body (txt.tabs c) f (q == "_law_pool") args
  | none => fail
noncomputable def stepMeth (c : Cl) (q x : Str) (args : List D) : M D := match txt.methOf q x with
 | some f => body (txt.tabs c) f false args
 | none => fail
@[irreducible] noncomputable def rn (k : Nat) : Cl := txt.run k
theorem rn_is (k : Nat) : rn k = txt.run k := by unfold rn; rfl
theorem rn_top {k : Nat} {q : Str} {args : List D} {m : Mem} : rn (k + 1) (.top q) args m = stepTop (rn k) q args m := by rw [rn_is, rn_is]; rfl
theorem rn_meth {k : Nat} {q x : Str} {args : List D} {m : Mem} : rn (k + 1) (.meth q x) args m = stepMeth (rn k) q x args m := by
 rw [rn_is, rn_is]
 show (match txt.methOf q x with | some f => body (txt.tabs (txt.run k)) f false args | none => fail) m = _
 rfl
section
variable {m : Mem} {P : D -> Mem -> Prop} {X : Mem -> Prop} {c : Cl} {S : XS} {L : List (Nat × D)} {args : List D} {q x : Str} {k : Nat}
theorem wp_fin {v : Vars} {l : VE} (s : Sb l v) {mm : Mem} (h : S.vc l mm (fun _ m' => P .none (m'.take m.length)) (fun d m' => ops (freeze m' m.length d) fun d => P d (m'.take m.length)) fun m' => X (m'.take m.length)) : wp (fin m (S.run v mm)) P X := by
 have h := S.ok s h
 unfold fin
 revert h
 cases S.run v mm with
 | ok fl m' =>
  induction fl with
  | next v' => exact fun ⟨_, _, h⟩ => ⟨h⟩
  | ret d =>
   intro h
   have h : ops (freeze m' m.length d) fun d => P d (m'.take m.length) := h.out
   show wp (match freeze m' m.length d with | some d => _ | none => _) P X
   revert h
   cases freeze m' m.length d <;> exact fun h => ⟨h⟩
 | exc m' => exact fun h => ⟨h.out⟩
 | stuck => exact fun h => ⟨h.out⟩
theorem top (e : stepTop (rn k) q args m = fin m (S.run (vs L) m)) (h : S.vc (lk L) m (fun _ m' => P .none (m'.take m.length)) (fun d m' => ops (freeze m' m.length d) fun d => P d (m'.take m.length)) fun m' => X (m'.take m.length)) : wp (rn (k + 1) (.top q) args m) P X := by
 rw [rn_top, e]
 exact wp_fin (sb_vs L) h
theorem mth (e : stepMeth (rn k) q x args m = fin m (S.run (vs L) m)) (h : S.vc (lk L) m (fun _ m' => P .none (m'.take m.length)) (fun d m' => ops (freeze m' m.length d) fun d => P d (m'.take m.length)) fun m' => X (m'.take m.length)) : wp (rn (k + 1) (.meth q x) args m) P X := by
 rw [rn_meth, e]
 exact wp_fin (sb_vs L) h
noncomputable def keep (m : Mem) (P : D -> Mem -> Prop) : D -> Mem -> Prop := fun d m' => m' = m /\ ops (freeze m m.length d) fun d => P d m
theorem keep_ok {v : Vars} {l : VE} (s : Sb l v) (h : S.vc l m (fun _ m' => m' = m /\ P .none m) (keep m P) fun m' => m' = m /\ X m) : wp (fin m (S.run v m)) P X := by
 have h := S.ok s h
 unfold fin
 revert h
 have e : m.take m.length = m := List.take_length
 cases S.run v m with
 | ok fl m' =>
  induction fl with
  | next v' => rintro ⟨_, _, em, h⟩; rw [em]; show wp (.ok .none (m.take m.length)) P X; rw [e]; exact ⟨h⟩
  | ret d =>
   rintro ⟨em, h⟩
   rw [em]
   show wp (match freeze m m.length d with | some d => Res.ok d (m.take m.length) | none => _) P X
   revert h
   cases freeze m m.length d with
   | none => exact False.elim
   | some d => intro h; show wp (.ok d (m.take m.length)) P X; rw [e]; exact ⟨h⟩
 | exc m' => rintro ⟨em, h⟩; rw [em]; show wp (.exc (m.take m.length)) P X; rw [e]; exact ⟨h⟩
 | stuck => exact fun h => ⟨h.out⟩
theorem top0 (e : stepTop (rn k) q args m = fin m (S.run (vs L) m)) (h : S.vc (lk L) m (fun _ m' => m' = m /\ P .none m) (keep m P) fun m' => m' = m /\ X m) : wp (rn (k + 1) (.top q) args m) P X := by
 rw [rn_top, e]
 exact keep_ok (sb_vs L) h
theorem mth0 (e : stepMeth (rn k) q x args m = fin m (S.run (vs L) m)) (h : S.vc (lk L) m (fun _ m' => m' = m /\ P .none m) (keep m P) fun m' => m' = m /\ X m) : wp (rn (k + 1) (.meth q x) args m) P X := by
 rw [rn_meth, e]
 exact keep_ok (sb_vs L) h
end
theorem wp_finC {m : Mem} {P : D -> Mem -> Prop} {X : Mem -> Prop} {S : XS} {v : Vars} {l : VE} (s : Sb l v) (h : S.vc l m (fun _ m' => P .none m') P fun m' => X (m'.take m.length)) : wp (finC m (S.run v m)) P X := by
 have h := S.ok s h
 unfold finC
 revert h
 cases S.run v m with
 | ok fl m' =>
  induction fl with
  | next v' => exact fun ⟨_, _, h⟩ => ⟨h⟩
  | ret d => exact fun h => ⟨h.out⟩
 | exc m' => exact fun h => ⟨h.out⟩
 | stuck => exact fun h => ⟨h.out⟩
theorem wp_finI {m : Mem} {P : D -> Mem -> Prop} {X : Mem -> Prop} {r : Res D} (h : wp r (fun d m' => ∃ c fs, d = .none /\ m'[m.length]? = some (.inst c fs) /\ P (.inst c fs) (m'.take m.length)) fun _ => False) : wp (finI false m r) P X := by
 induction r with
 | ok d m' =>
  refine e2_3 h.out fun c fs e1 e2 h => ?_
  rw [e1]
  show wp (match m'[m.length]? with | some (.inst c fs) => _ | _ => _) P X
  rw [e2]
  exact ⟨h⟩
 | exc m' => exact h.out.elim
 | stuck => exact h.out.elim
theorem wp_finIC {m : Mem} {P : D -> Mem -> Prop} {X : Mem -> Prop} {r : Res D} (h : wp r (fun d m' => d = .none /\ P (.cell m.length) m') fun _ => False) : wp (finI true m r) P X := by
 induction r with
 | ok d m' => rw [h.out.1]; exact ⟨h.out.2⟩
 | exc m' => exact h.out.elim
 | stuck => exact h.out.elim
noncomputable def S_contours_of (c : Cl) : XS := (seqS (asg 0 (aloc []))
 (seqS (asg 1 (cst (.int 0)))
 (seqS (forS (tg1 2) (var 3) (seqS (app (var 0) (listE [(slc (var 4) (var 1) (bin .Add (var 2) (cst (.int 1))))]))
 (seqS (asg 1 (bin .Add (var 2) (cst (.int 1))))
 nop)))
 (seqS (retS (var 0))
 nop))))
noncomputable def S_moved (c : Cl) : XS := (seqS (retS (comp1 (comp1 (tupE [(bin .Add (var 6) (var 7)), (bin .Add (var 8) (var 9)), (var 10)]) (tgN [6, 8, 10]) (var 11) [(12, .local), (6, .local), (8, .local), (10, .local), (7, .free), (9, .free)]) (tg1 11) (var 13) [(12, .local), (11, .local), (7, .free), (9, .free)]))
 nop)
noncomputable def S_scaled_number (c : Cl) : XS := (seqS (retS (bin .FloorDiv (bin .Add (var 15) (cst (.int 8192))) (cst (.int 16384))))
 nop)
noncomputable def S_turned (c : Cl) : XS := (seqS (asgU [6, 8, 17, 18] (var 19))
 (seqS (asg 0 (aloc []))
 (seqS (forS (tg1 11) (var 13) (seqS (app (var 0) (comp1 (tupE [(call c 16 [(bin .Add (bin .Mult (var 6) (var 7)) (bin .Mult (var 17) (var 9)))]), (call c 16 [(bin .Add (bin .Mult (var 8) (var 7)) (bin .Mult (var 18) (var 9)))]), (var 10)]) (tgN [7, 9, 10]) (var 11) [(12, .local), (7, .local), (9, .local), (10, .local), (16, .globalImplicit), (6, .free), (8, .free), (17, .free), (18, .free)]))
 nop))
 (seqS (retS (var 0))
 nop))))
noncomputable def S_u16 (c : Cl) : XS := (seqS (ifS (orB [(cmpB .Lt (var 21) (cst (.int 0))), (cmpB .Gt (bin .Add (var 21) (cst (.int 2))) (lenE [(var 22)]))]) (seqS raise0
 nop) nop)
 (seqS (retS (bin .Add (bin .Mult (sub (var 22) (var 21)) (cst (.int 256))) (sub (var 22) (bin .Add (var 21) (cst (.int 1))))))
 nop))
noncomputable def S_s16 (c : Cl) : XS := (seqS (asg 0 (call c 23 [(var 22), (var 21)]))
 (seqS (retS (ife (cmpB .GtE (var 0) (cst (.int 32768))) (bin .Sub (var 0) (cst (.int 65536))) (var 0)))
 nop))
noncomputable def S_u32 (c : Cl) : XS := (seqS (retS (bin .Add (bin .Mult (call c 23 [(var 22), (var 21)]) (cst (.int 65536))) (call c 23 [(var 22), (bin .Add (var 21) (cst (.int 2)))])))
 nop)
noncomputable def S_put16 (c : Cl) : XS := (seqS (retS (bytesE [(lstE [(bin .Mod (bin .FloorDiv (var 15) (cst (.int 256))) (cst (.int 256))), (bin .Mod (var 15) (cst (.int 256)))])]))
 nop)
noncomputable def S_put32 (c : Cl) : XS := (seqS (retS (bin .Add (call c 26 [(bin .FloorDiv (var 15) (cst (.int 65536)))]) (call c 26 [(var 15)])))
 nop)
noncomputable def S_part_of (c : Cl) : XS := (seqS (ifS (orB [(cmpB .Lt (var 21) (cst (.int 0))), (cmpB .Lt (var 28) (cst (.int 0))), (cmpB .Gt (bin .Add (var 21) (var 28)) (lenE [(var 22)]))]) (seqS raise0
 nop) nop)
 (seqS (retS (bytesE [(slc (var 22) (var 21) (bin .Add (var 21) (var 28)))]))
 nop))
noncomputable def S_filled (c : Cl) : XS := (seqS (retS (bin .Add (var 22) (bytesE [(bin .Mod (bin .Sub (cst (.int 4)) (bin .Mod (lenE [(var 22)]) (cst (.int 4)))) (cst (.int 4)))])))
 nop)
noncomputable def S_read_loca (c : Cl) : XS := (seqS (asg 28 (ife (tru (var 31)) (cst (.int 4)) (cst (.int 2))))
 (seqS (asg 0 (aloc []))
 (seqS (forS (tg1 15) (rangeE [(bin .Add (var 32) (cst (.int 1)))]) (seqS (asg 33 (ife (tru (var 31)) (call c 25 [(var 22), (bin .Mult (cst (.int 4)) (var 15))]) (bin .Mult (cst (.int 2)) (call c 23 [(var 22), (bin .Mult (cst (.int 2)) (var 15))]))))
 (seqS (ifS (andB [(cmpB .NotEq (var 0) (lstE [])), (cmpB .Lt (var 33) (sub (var 0) (neg (cst (.int 1)))))]) (seqS raise0
 nop) nop)
 (seqS (app (var 0) (var 33))
 nop))))
 (seqS (ifS (cmpB .Lt (lenE [(var 22)]) (bin .Mult (var 28) (bin .Add (var 32) (cst (.int 1))))) (seqS raise0
 nop) nop)
 (seqS (retS (var 0))
 nop)))))
noncomputable def S_read_flags (c : Cl) : XS := (seqS (asg 0 (lstE []))
 (seqS (whileS (cmpB .Lt (lenE [(var 0)]) (var 32)) (seqS (asg 35 (mcall c (var 22) 36 []))
 (seqS (asg 37 (cst (.int 1)))
 (seqS (ifS (cmpB .NotEq (bin .BitAnd (var 35) (cst (.int 8))) (cst (.int 0))) (seqS (asg 37 (bin .Add (cst (.int 1)) (mcall c (var 22) 36 [])))
 nop) nop)
 (seqS (asg 0 (bin .Add (var 0) (bin .Mult (lstE [(var 35)]) (var 37))))
 nop)))))
 (seqS (ifS (cmpB .Gt (lenE [(var 0)]) (var 32)) (seqS raise0
 nop) nop)
 (seqS (retS (var 0))
 nop))))
noncomputable def S_read_deltas (c : Cl) : XS := (seqS (asg 0 (aloc []))
 (seqS (asg 21 (cst (.int 0)))
 (seqS (forS (tg1 35) (var 39) (seqS (ifS (cmpB .NotEq (bin .BitAnd (var 35) (var 40)) (cst (.int 0))) (seqS (asg 41 (mcall c (var 22) 36 []))
 (seqS (asg 21 (ife (cmpB .NotEq (bin .BitAnd (var 35) (var 42)) (cst (.int 0))) (bin .Add (var 21) (var 41)) (bin .Sub (var 21) (var 41))))
 nop)) (seqS (ifS (cmpB .Eq (bin .BitAnd (var 35) (var 42)) (cst (.int 0))) (seqS (asg 21 (bin .Add (var 21) (mcall c (var 22) 43 [])))
 nop) nop)
 nop))
 (seqS (app (var 0) (var 21))
 nop)))
 (seqS (retS (var 0))
 nop))))
noncomputable def S_read_ends (c : Cl) : XS := (seqS (asg 0 (aloc []))
 (seqS (forS (tg1 15) (rangeE [(var 37)]) (seqS (asg 2 (mcall c (var 22) 45 []))
 (seqS (ifS (cmpB .LtE (var 2) (ife (cmpB .NotEq (var 0) (lstE [])) (sub (var 0) (neg (cst (.int 1)))) (neg (cst (.int 1))))) (seqS raise0
 nop) nop)
 (seqS (app (var 0) (var 2))
 nop))))
 (seqS (retS (var 0))
 nop)))
noncomputable def S_read_simple (c : Cl) : XS := (seqS (asg 3 (call c 46 [(var 22), (var 37)]))
 (seqS (asg 47 (mcall c (var 22) 48 [(mcall c (var 22) 45 [])]))
 (seqS (asg 32 (ife (cmpB .NotEq (var 3) (lstE [])) (bin .Add (sub (var 3) (neg (cst (.int 1)))) (cst (.int 1))) (cst (.int 0))))
 (seqS (asg 39 (call c 38 [(var 22), (var 32)]))
 (seqS (asg 49 (call c 44 [(var 22), (var 39), (cst (.int 2)), (cst (.int 16))]))
 (seqS (asg 50 (call c 44 [(var 22), (var 39), (cst (.int 4)), (cst (.int 32))]))
 (seqS (asg 4 (comp1 (tupE [(sub (var 49) (var 21)), (sub (var 50) (var 21)), (cmpE .NotEq (bin .BitAnd (sub (var 39) (var 21)) (cst (.int 1))) (cst (.int 0)))]) (tg1 21) (rangeE [(var 32)]) [(12, .local), (21, .local), (51, .globalImplicit), (49, .free), (39, .free), (50, .free)]))
 (seqS (retS (call c 52 [(call c 5 [(var 4), (var 3)]), (var 47)]))
 nop))))))))
noncomputable def S_read_scale (c : Cl) : XS := (seqS (ifS (cmpB .NotEq (bin .BitAnd (var 39) (cst (.int 8))) (cst (.int 0))) (seqS (asg 54 (mcall c (var 22) 43 []))
 (seqS (retS (tupE [(var 54), (cst (.int 0)), (cst (.int 0)), (var 54)]))
 nop)) nop)
 (seqS (ifS (cmpB .NotEq (bin .BitAnd (var 39) (cst (.int 64))) (cst (.int 0))) (seqS (asg 54 (mcall c (var 22) 43 []))
 (seqS (retS (tupE [(var 54), (cst (.int 0)), (cst (.int 0)), (mcall c (var 22) 43 [])]))
 nop)) nop)
 (seqS (ifS (cmpB .NotEq (bin .BitAnd (var 39) (cst (.int 128))) (cst (.int 0))) (seqS (asgT [54, 55, 56] [(mcall c (var 22) 43 []), (mcall c (var 22) 43 []), (mcall c (var 22) 43 [])])
 (seqS (retS (tupE [(var 54), (var 55), (var 56), (mcall c (var 22) 43 [])]))
 nop)) nop)
 (seqS (retS (tupE [(cst (.int 16384)), (cst (.int 0)), (cst (.int 0)), (cst (.int 16384))]))
 nop))))
noncomputable def S_signed_byte (c : Cl) : XS := (seqS (retS (ife (cmpB .GtE (var 15) (cst (.int 128))) (bin .Sub (var 15) (cst (.int 256))) (var 15)))
 nop)
noncomputable def S_read_arguments (c : Cl) : XS := (seqS (asg 59 (cmpE .NotEq (bin .BitAnd (var 39) (cst (.int 2))) (cst (.int 0))))
 (seqS (ifS (cmpB .NotEq (bin .BitAnd (var 39) (cst (.int 1))) (cst (.int 0))) (seqS (ifS (tru (var 59)) (seqS (asg 60 (mcall c (var 22) 43 []))
 (seqS (retS (tupE [(var 60), (mcall c (var 22) 43 [])]))
 nop)) nop)
 (seqS (asg 60 (mcall c (var 22) 45 []))
 (seqS (retS (tupE [(var 60), (mcall c (var 22) 45 [])]))
 nop))) nop)
 (seqS (asgT [60, 61] [(mcall c (var 22) 36 []), (mcall c (var 22) 36 [])])
 (seqS (ifS (tru (var 59)) (seqS (retS (tupE [(call c 58 [(var 60)]), (call c 58 [(var 61)])]))
 nop) nop)
 (seqS (retS (tupE [(var 60), (var 61)]))
 nop)))))
noncomputable def S_read_parts (c : Cl) : XS := (seqS (asg 0 (aloc []))
 (seqS (asg 39 (cst (.int 32)))
 (seqS (whileS (cmpB .NotEq (bin .BitAnd (var 39) (cst (.int 32))) (cst (.int 0))) (seqS (asg 39 (mcall c (var 22) 45 []))
 (seqS (asg 63 (mcall c (var 22) 45 []))
 (seqS (asgU [60, 61] (call c 62 [(var 22), (var 39)]))
 (seqS (app (var 0) (call c 64 [(var 63), (var 60), (var 61), (cmpE .NotEq (bin .BitAnd (var 39) (cst (.int 2))) (cst (.int 0))), (call c 57 [(var 22), (var 39)])]))
 nop)))))
 (seqS (asg 47 (cst (.bytes [])))
 (seqS (ifS (cmpB .NotEq (bin .BitAnd (var 39) (cst (.int 256))) (cst (.int 0))) (seqS (asg 47 (mcall c (var 22) 48 [(mcall c (var 22) 45 [])]))
 nop) nop)
 (seqS (retS (tupE [(var 0), (var 47)]))
 nop))))))
noncomputable def S_placed (c : Cl) : XS := (seqS (asg 0 (ife (cmpB .NotEq (att (var 48) 19) (tupE [(cst (.int 16384)), (cst (.int 0)), (cst (.int 0)), (cst (.int 16384))])) (call c 20 [(var 66), (att (var 48) 19)]) (var 66)))
 (seqS (ifS (tru (att (var 48) 59)) (seqS (retS (call c 14 [(var 0), (att (var 48) 60), (att (var 48) 61)]))
 nop) nop)
 (seqS (asgT [67, 68] [(mcall c (call c 52 [(var 69)]) 4 []), (mcall c (call c 52 [(var 0)]) 4 [])])
 (seqS (ifS (orB [(cmpB .GtE (att (var 48) 60) (lenE [(var 67)])), (cmpB .GtE (att (var 48) 61) (lenE [(var 68)]))]) (seqS raise0
 nop) nop)
 (seqS (asgT [70, 71] [(sub (var 67) (att (var 48) 60)), (sub (var 68) (att (var 48) 61))])
 (seqS (retS (call c 14 [(var 0), (bin .Sub (sub (var 70) (cst (.int 0))) (sub (var 71) (cst (.int 0)))), (bin .Sub (sub (var 70) (cst (.int 1))) (sub (var 71) (cst (.int 1))))]))
 nop))))))
noncomputable def S_axis_flag (c : Cl) : XS := (seqS (ifS (cmpB .Eq (var 41) (cst (.int 0))) (seqS (retS (tupE [(var 42), (cst (.bytes []))]))
 nop) nop)
 (seqS (ifS (chnB (cst (.int 0)) .Lt (var 41) .Lt (cst (.int 256))) (seqS (retS (tupE [(bin .BitOr (var 40) (var 42)), (bytesE [(lstE [(var 41)])])]))
 nop) nop)
 (seqS (ifS (chnB (neg (cst (.int 256))) .Lt (var 41) .Lt (cst (.int 0))) (seqS (retS (tupE [(var 40), (bytesE [(lstE [(bin .Sub (cst (.int 0)) (var 41))])])]))
 nop) nop)
 (seqS (ifS (orB [(cmpB .Lt (var 41) (neg (cst (.int 32768)))), (cmpB .Gt (var 41) (cst (.int 32767)))]) (seqS raise0
 nop) nop)
 (seqS (retS (tupE [(cst (.int 0)), (call c 26 [(var 41)])]))
 nop)))))
noncomputable def S_flag_octets (c : Cl) : XS := (seqS (asg 0 (cst (.bytes [])))
 (seqS (asg 21 (cst (.int 0)))
 (seqS (whileS (cmpB .Lt (var 21) (lenE [(var 39)])) (seqS (asg 37 (cst (.int 1)))
 (seqS (whileS (andB [(cmpB .Lt (bin .Add (var 21) (var 37)) (lenE [(var 39)])), (cmpB .Eq (sub (var 39) (bin .Add (var 21) (var 37))) (sub (var 39) (var 21))), (cmpB .LtE (var 37) (cst (.int 255)))]) (seqS (asg 37 (bin .Add (var 37) (cst (.int 1))))
 nop))
 (seqS (ifS (cmpB .Gt (var 37) (cst (.int 2))) (seqS (asg 0 (bin .Add (var 0) (bytesE [(lstE [(bin .BitOr (sub (var 39) (var 21)) (cst (.int 8))), (bin .Sub (var 37) (cst (.int 1)))])])))
 nop) (seqS (asg 0 (bin .Add (var 0) (bin .Mult (bytesE [(lstE [(sub (var 39) (var 21))])]) (var 37))))
 nop))
 (seqS (asg 21 (bin .Add (var 21) (var 37)))
 nop)))))
 (seqS (retS (var 0))
 nop))))
noncomputable def S_box_octets (c : Cl) : XS := (seqS (retS (joinE (comp1 (call c 26 [(var 15)]) (tg1 15) (var 75) [(12, .local), (15, .local), (26, .globalImplicit)])))
 nop)
noncomputable def S_simple_octets (c : Cl) : XS := (seqS (ifS (cmpB .Eq (att (var 77) 13) (lstE [])) (seqS (retS (cst (.bytes [])))
 nop) nop)
 (seqS (asgT [39, 49, 50] [(aloc []), (cst (.bytes [])), (cst (.bytes []))])
 (seqS (asgT [7, 9] [(cst (.int 0)), (cst (.int 0))])
 (seqS (forS (tgN [6, 8, 10]) (mcall c (var 77) 4 []) (seqS (asgU [78, 79] (call c 73 [(bin .Sub (var 6) (var 7)), (cst (.int 2)), (cst (.int 16))]))
 (seqS (asgU [80, 81] (call c 73 [(bin .Sub (var 8) (var 9)), (cst (.int 4)), (cst (.int 32))]))
 (seqS (app (var 39) (bin .BitOr (bin .BitOr (var 78) (var 80)) (ife (tru (var 10)) (cst (.int 1)) (cst (.int 0)))))
 (seqS (asgT [49, 50] [(bin .Add (var 49) (var 79)), (bin .Add (var 50) (var 81))])
 (seqS (asgT [7, 9] [(var 6), (var 8)])
 nop))))))
 (seqS (asg 3 (joinE (comp1 (call c 26 [(var 2)]) (tg1 2) (mcall c (var 77) 3 []) [(12, .local), (2, .local), (26, .globalImplicit)])))
 (seqS (asg 82 (bin .Add (call c 26 [(lenE [(att (var 77) 47)])]) (att (var 77) 47)))
 (seqS (retS (bin .Add (bin .Add (bin .Add (bin .Add (bin .Add (bin .Add (call c 26 [(lenE [(att (var 77) 13)])]) (call c 76 [(mcall c (var 77) 75 [])])) (var 3)) (var 82)) (call c 74 [(var 39)])) (var 49)) (var 50)))
 nop)))))))
noncomputable def S_scale_octets (c : Cl) : XS := (seqS (asgU [6, 8, 17, 18] (var 19))
 (seqS (ifS (cmpB .Eq (var 19) (tupE [(cst (.int 16384)), (cst (.int 0)), (cst (.int 0)), (cst (.int 16384))])) (seqS (retS (tupE [(cst (.int 0)), (cst (.bytes []))]))
 nop) nop)
 (seqS (ifS (andB [(cmpB .Eq (tupE [(var 8), (var 17)]) (tupE [(cst (.int 0)), (cst (.int 0))])), (cmpB .Eq (var 6) (var 18))]) (seqS (retS (tupE [(cst (.int 8)), (call c 26 [(var 6)])]))
 nop) nop)
 (seqS (ifS (cmpB .Eq (tupE [(var 8), (var 17)]) (tupE [(cst (.int 0)), (cst (.int 0))])) (seqS (retS (tupE [(cst (.int 64)), (bin .Add (call c 26 [(var 6)]) (call c 26 [(var 18)]))]))
 nop) nop)
 (seqS (retS (tupE [(cst (.int 128)), (bin .Add (bin .Add (bin .Add (call c 26 [(var 6)]) (call c 26 [(var 8)])) (call c 26 [(var 17)])) (call c 26 [(var 18)]))]))
 nop)))))
noncomputable def S_argument_octets (c : Cl) : XS := (seqS (asgT [60, 61] [(att (var 48) 60), (att (var 48) 61)])
 (seqS (ifS (tru (att (var 48) 59)) (seqS (ifS (andB [(chnB (neg (cst (.int 128))) .LtE (var 60) .Lt (cst (.int 128))), (chnB (neg (cst (.int 128))) .LtE (var 61) .Lt (cst (.int 128)))]) (seqS (retS (tupE [(cst (.int 2)), (bytesE [(lstE [(bin .Mod (var 60) (cst (.int 256))), (bin .Mod (var 61) (cst (.int 256)))])])]))
 nop) nop)
 (seqS (retS (tupE [(bin .BitOr (cst (.int 2)) (cst (.int 1))), (bin .Add (call c 26 [(var 60)]) (call c 26 [(var 61)]))]))
 nop)) nop)
 (seqS (ifS (andB [(chnB (cst (.int 0)) .LtE (var 60) .Lt (cst (.int 256))), (chnB (cst (.int 0)) .LtE (var 61) .Lt (cst (.int 256)))]) (seqS (retS (tupE [(cst (.int 0)), (bytesE [(lstE [(var 60), (var 61)])])]))
 nop) nop)
 (seqS (retS (tupE [(cst (.int 1)), (bin .Add (call c 26 [(var 60)]) (call c 26 [(var 61)]))]))
 nop))))
noncomputable def S_composite_octets (c : Cl) : XS := (seqS (ifS (cmpB .Eq (var 86) (lstE [])) (seqS raise0
 nop) nop)
 (seqS (asg 0 (bin .Add (call c 26 [(neg (cst (.int 1)))]) (call c 76 [(var 75)])))
 (seqS (forS (tg1 21) (rangeE [(lenE [(var 86)])]) (seqS (asgU [87, 88] (call c 85 [(sub (var 86) (var 21))]))
 (seqS (asgU [89, 19] (call c 84 [(att (sub (var 86) (var 21)) 19)]))
 (seqS (asg 39 (bin .BitOr (var 87) (var 89)))
 (seqS (ifS (cmpB .Lt (bin .Add (var 21) (cst (.int 1))) (lenE [(var 86)])) (seqS (asg 39 (bin .BitOr (var 39) (cst (.int 32))))
 nop) (seqS (ifS (cmpB .NotEq (var 47) (cst (.bytes []))) (seqS (asg 39 (bin .BitOr (var 39) (cst (.int 256))))
 nop) nop)
 nop))
 (seqS (asg 0 (bin .Add (bin .Add (bin .Add (bin .Add (var 0) (call c 26 [(var 39)])) (call c 26 [(att (sub (var 86) (var 21)) 63)])) (var 88)) (var 19)))
 nop))))))
 (seqS (ifS (cmpB .NotEq (var 47) (cst (.bytes []))) (seqS (asg 0 (bin .Add (bin .Add (var 0) (call c 26 [(lenE [(var 47)])])) (var 47)))
 nop) nop)
 (seqS (retS (var 0))
 nop)))))
noncomputable def S_write_glyphs (c : Cl) : XS := (seqS (asg 91 (cst (.bytes [])))
 (seqS (asg 92 (aloc [(cst (.int 0))]))
 (seqS (forS (tg1 22) (var 93) (seqS (asg 91 (bin .Add (var 91) (call c 30 [(var 22)])))
 (seqS (app (var 92) (lenE [(var 91)]))
 nop)))
 (seqS (ifS (andB [(notB (tru (var 31))), (cmpB .GtE (sub (var 92) (neg (cst (.int 1)))) (cst (.int 131072)))]) (seqS raise0
 nop) nop)
 (seqS (asg 82 (cst (.bytes [])))
 (seqS (forS (tg1 33) (var 92) (seqS (asg 82 (bin .Add (var 82) (ife (tru (var 31)) (call c 27 [(var 33)]) (call c 26 [(bin .FloorDiv (var 33) (cst (.int 2)))]))))
 nop))
 (seqS (retS (tupE [(var 91), (var 82)]))
 nop)))))))
noncomputable def S_law_pool (c : Cl) : XS := (seqS (asg 95 (ife (cmpB .Lt (var 96) (lenE [(var 97)])) (sub (var 97) (var 96)) (cst (.int 0))))
 (seqS (asg 98 (maxE [(intE [(var 95)]), (intE [(bin .Sub (neg (cst (.int 1))) (var 95))])]))
 (seqS (retS (aloc [(bin .Mult (var 98) (intE [(cmpE .GtE (var 98) (bin .Pow (cst (.int 10)) (cst (.int 18))))])), (bin .Mod (bin .Mult (bin .Add (bin .Add (bin .Mod (var 98) (cst (.int 2147483629))) (bin .Mult (cst (.int 7919)) (var 96))) (cst (.int 17))) (cst (.int 48271))) (cst (.int 2147483647)))]))
 nop)))
noncomputable def S_law_take (c : Cl) : XS := (seqS (ifS (cmpB .Gt (sub (var 100) (cst (.int 0))) (cst (.int 0))) (seqS (asg 101 (bin .Mod (sub (var 100) (cst (.int 0))) (var 102)))
 (seqS (setI (var 100) (cst (.int 0)) (bin .FloorDiv (sub (var 100) (cst (.int 0))) (var 102)))
 (seqS (retS (var 101))
 nop))) nop)
 (seqS (setI (var 100) (cst (.int 1)) (bin .Mod (bin .Add (bin .Mult (sub (var 100) (cst (.int 1))) (cst (.int 39373))) (cst (.int 7))) (cst (.int 2147483647))))
 (seqS (retS (bin .Mod (bin .FloorDiv (bin .Mod (bin .Mult (sub (var 100) (cst (.int 1))) (sub (var 100) (cst (.int 1)))) (cst (.int 2147483629))) (cst (.int 32))) (var 102)))
 nop)))
noncomputable def S_law_one (c : Cl) : XS := (seqS (retS (sub (var 104) (call c 103 [(var 100), (lenE [(var 104)])])))
 nop)
noncomputable def S_law_contours (c : Cl) : XS := (seqS (asg 4 (aloc []))
 (seqS (forS (tg1 106) (rangeE [(bin .Add (cst (.int 2)) (call c 103 [(var 100), (cst (.int 3))]))]) (seqS (app (var 4) (tupE [(bin .Sub (call c 103 [(var 100), (cst (.int 600))]) (cst (.int 300))), (bin .Sub (call c 103 [(var 100), (cst (.int 40))]) (cst (.int 20))), (cmpE .Eq (call c 103 [(var 100), (cst (.int 2))]) (cst (.int 0)))]))
 nop))
 (seqS (retS (lstE [(var 4)]))
 nop)))
noncomputable def S_law_part (c : Cl) : XS := (seqS (asg 19 (call c 105 [(var 100), (lstE [(tupE [(cst (.int 16384)), (cst (.int 0)), (cst (.int 0)), (cst (.int 16384))]), (tupE [(cst (.int 8192)), (cst (.int 0)), (cst (.int 0)), (cst (.int 8192))]), (tupE [(neg (cst (.int 16384))), (cst (.int 0)), (cst (.int 0)), (cst (.int 16384))]), (tupE [(cst (.int 0)), (cst (.int 16384)), (neg (cst (.int 16384))), (cst (.int 0))]), (tupE [(cst (.int 24576)), (cst (.int 0)), (cst (.int 0)), (cst (.int 5000))])])]))
 (seqS (ifS (cmpB .Eq (call c 103 [(var 100), (cst (.int 4))]) (cst (.int 0))) (seqS (retS (tupE [(var 63), (call c 103 [(var 100), (cst (.int 6))]), (call c 103 [(var 100), (cst (.int 6))]), (cst (.bool false)), (var 19)]))
 nop) nop)
 (seqS (retS (tupE [(var 63), (call c 105 [(var 100), (lstE [(cst (.int 0)), (cst (.int 5)), (neg (cst (.int 128))), (cst (.int 300))])]), (call c 105 [(var 100), (lstE [(cst (.int 0)), (neg (cst (.int 6))), (cst (.int 127)), (neg (cst (.int 400)))])]), (cst (.bool true)), (var 19)]))
 nop)))
noncomputable def S_law_scaled (c : Cl) : XS := (seqS (asgT [49, 50] [(bin .Add (bin .Mult (sub (var 19) (cst (.int 0))) (var 7)) (bin .Mult (sub (var 19) (cst (.int 2))) (var 9))), (bin .Add (bin .Mult (sub (var 19) (cst (.int 1))) (var 7)) (bin .Mult (sub (var 19) (cst (.int 3))) (var 9)))])
 (seqS (retS (tupE [(bin .FloorDiv (bin .Add (bin .Mult (cst (.int 2)) (var 49)) (cst (.int 16384))) (cst (.int 32768))), (bin .FloorDiv (bin .Add (bin .Mult (cst (.int 2)) (var 50)) (cst (.int 16384))) (cst (.int 32768)))]))
 nop))
noncomputable def S_law_put (c : Cl) : XS := (seqS (asgU [63, 60, 61, 59, 19] (var 48))
 (seqS (asg 0 (comp1 (comp1 (bin .Add (call c 109 [(var 7), (var 9), (var 19)]) (tupE [(var 10)])) (tgN [7, 9, 10]) (var 11) [(12, .local), (7, .local), (9, .local), (10, .local), (109, .globalImplicit), (19, .free)]) (tg1 11) (var 66) [(12, .local), (11, .local), (19, .free)]))
 (seqS (asg 4 (comp2 (var 110) (tg1 11) (var 0) (tg1 110) (var 11) [(12, .local), (11, .local), (110, .local)]))
 (seqS (asg 67 (lstE []))
 (seqS (forS (tg1 11) (var 13) (seqS (asg 67 (bin .Add (var 67) (var 11)))
 nop))
 (seqS (ifS (notB (tru (var 59))) (seqS (ifS (orB [(cmpB .GtE (var 60) (lenE [(var 67)])), (cmpB .GtE (var 61) (lenE [(var 4)]))]) (seqS (retS (cst .none))
 nop) nop)
 (seqS (asgT [60, 61] [(bin .Sub (sub (sub (var 67) (var 60)) (cst (.int 0))) (sub (sub (var 4) (var 61)) (cst (.int 0)))), (bin .Sub (sub (sub (var 67) (var 60)) (cst (.int 1))) (sub (sub (var 4) (var 61)) (cst (.int 1))))])
 nop)) nop)
 (seqS (retS (bin .Add (var 13) (comp1 (comp1 (tupE [(bin .Add (var 7) (var 60)), (bin .Add (var 9) (var 61)), (var 10)]) (tgN [7, 9, 10]) (var 11) [(12, .local), (7, .local), (9, .local), (10, .local), (60, .free), (61, .free)]) (tg1 11) (var 0) [(12, .local), (11, .local), (60, .free), (61, .free)])))
 nop)))))))
noncomputable def S_law_whole (c : Cl) : XS := (seqS (asg 0 (lstE []))
 (seqS (forS (tg1 48) (var 86) (seqS (asg 0 (call c 111 [(var 0), (var 48), (sub (var 112) (sub (var 48) (cst (.int 0))))]))
 (seqS (ifS (cmpB .Is (var 0) (cst .none)) (seqS (retS (cst .none))
 nop) nop)
 nop)))
 (seqS (retS (var 0))
 nop)))
noncomputable def S_law_octets (c : Cl) : XS := (seqS (asg 93 (comp1 (call c 64 [(var 63), (var 60), (var 61), (var 59), (var 19)]) (tgN [63, 60, 61, 59, 19]) (var 86) [(12, .local), (63, .local), (60, .local), (61, .local), (59, .local), (19, .local), (64, .globalImplicit)]))
 (seqS (retS (call c 90 [(var 93), (tupE [(cst (.int 0)), (cst (.int 0)), (cst (.int 1)), (cst (.int 1))])]))
 nop))
noncomputable def S_law_told (c : Cl) : XS := (seqS (tryS (seqS (retS (comp1 (listE [(var 11)]) (tg1 11) (att (mcall c (var 115) 77 [(var 63)]) 13) [(12, .local), (11, .local), (116, .globalImplicit)]))
 nop))
 nop)
noncomputable def S_law (c : Cl) : XS := (seqS (asg 100 (call c 99 [(var 97), (cst (.int 0))]))
 (seqS (asg 112 (aloc [(call c 107 [(var 100)]), (call c 107 [(var 100)])]))
 (seqS (asg 56 (lstE [(tupE [(cst (.int 0)), (cst (.int 3)), (cst (.int 4)), (cst (.bool true)), (tupE [(cst (.int 16384)), (cst (.int 0)), (cst (.int 0)), (cst (.int 16384))])]), (call c 108 [(var 100), (cst (.int 1))])]))
 (seqS (app (var 112) (call c 113 [(var 56), (var 112)]))
 (seqS (asg 118 (lstE [(call c 108 [(var 100), (cst (.int 2))]), (call c 108 [(var 100), (cst (.int 0))])]))
 (seqS (app (var 112) (ife (cmpB .Is (sub (var 112) (cst (.int 2))) (cst .none)) (cst .none) (call c 113 [(var 118), (var 112)])))
 (seqS (asg 93 (bin .Add (comp1 (call c 83 [(call c 52 [(var 13)])]) (tg1 13) (slc (var 112) (cst .none) (cst (.int 2))) [(12, .local), (13, .local), (83, .globalImplicit), (52, .globalImplicit)]) (lstE [(call c 114 [(var 56)]), (call c 114 [(var 118)])])))
 (seqS (forS (tg1 63) (lstE [(cst (.int 5)), (cst (.int 9))]) (seqS (asg 93 (bin .Add (bin .Add (var 93) (bin .Mult (lstE [(cst (.bytes []))]) (intE [(cmpE .Eq (var 63) (cst (.int 5)))]))) (lstE [(call c 114 [(lstE [(tupE [(var 63), (cst (.int 0)), (cst (.int 0)), (cst (.bool true)), (tupE [(cst (.int 16384)), (cst (.int 0)), (cst (.int 0)), (cst (.int 16384))])])])])])))
 nop))
 (seqS (asg 31 (cmpE .Eq (call c 103 [(var 100), (cst (.int 2))]) (cst (.int 0))))
 (seqS (asgU [91, 92] (call c 94 [(var 93), (var 31)]))
 (seqS (asg 115 (call c 119 [(var 91), (call c 34 [(var 92), (var 31), (lenE [(var 93)])])]))
 (seqS (forS (tg1 63) (rangeE [(cst (.int 4))]) (seqS (ifS (cmpB .NotEq (call c 117 [(var 115), (var 63)]) (sub (var 112) (var 63))) (seqS (retS (cst (.bool false)))
 nop) nop)
 nop))
 (seqS (forS (tgN [63, 86]) (lstE [(tupE [(cst (.int 2)), (var 56)]), (tupE [(cst (.int 3)), (var 118)])]) (seqS (ifS (cmpB .NotEq (comp1 (mcall c (var 48) 120 []) (tg1 48) (mcall c (var 115) 86 [(var 63)]) [(12, .local), (48, .local)]) (var 86)) (seqS (retS (cst (.bool false)))
 nop) nop)
 nop))
 (seqS (ifS (orB [(cmpB .IsNot (mcall c (var 115) 86 [(cst (.int 0))]) (cst .none)), (cmpB .NotEq (mcall c (var 115) 32 []) (cst (.int 7))), (cmpB .NotEq (call c 117 [(var 115), (cst (.int 4))]) (lstE []))]) (seqS (retS (cst (.bool false)))
 nop) nop)
 (seqS (retS (cmpE .Eq (comp1 (call c 117 [(var 115), (var 63)]) (tg1 63) (lstE [(cst (.int 5)), (cst (.int 6)), (cst (.int 7)), (neg (cst (.int 1)))]) [(12, .local), (63, .local), (117, .globalImplicit), (115, .free)]) (lstE [(cst .none), (cst .none), (cst .none), (cst .none)])))
 nop)))))))))))))))
noncomputable def S_Outlinex_initx (c : Cl) : XS := (seqS (setA (var 122) 13 (var 13))
 (seqS (setA (var 122) 47 (var 47))
 nop))
noncomputable def S_Outline_points (c : Cl) : XS := (seqS (asg 0 (lstE []))
 (seqS (forS (tg1 11) (att (var 122) 13) (seqS (asg 0 (bin .Add (var 0) (listE [(var 11)])))
 nop))
 (seqS (retS (var 0))
 nop)))
noncomputable def S_Outline_ends (c : Cl) : XS := (seqS (asg 0 (aloc []))
 (seqS (asg 21 (neg (cst (.int 1))))
 (seqS (forS (tg1 11) (att (var 122) 13) (seqS (asg 21 (bin .Add (var 21) (lenE [(var 11)])))
 (seqS (app (var 0) (var 21))
 nop)))
 (seqS (retS (var 0))
 nop))))
noncomputable def S_Outline_box (c : Cl) : XS := (seqS (asg 4 (mcall c (var 122) 4 []))
 (seqS (ifS (cmpB .Eq (var 4) (lstE [])) (seqS (retS (tupE [(cst (.int 0)), (cst (.int 0)), (cst (.int 0)), (cst (.int 0))]))
 nop) nop)
 (seqS (asg 49 (comp1 (intE [(var 7)]) (tgN [7, 9, 10]) (var 4) [(12, .local), (7, .local), (9, .local), (10, .local), (124, .globalImplicit)]))
 (seqS (asg 50 (comp1 (intE [(var 9)]) (tgN [7, 9, 10]) (var 4) [(12, .local), (7, .local), (9, .local), (10, .local), (124, .globalImplicit)]))
 (seqS (retS (tupE [(minE [(var 49)]), (minE [(var 50)]), (maxE [(var 49)]), (maxE [(var 50)])]))
 nop)))))
noncomputable def S_Octetsx_initx (c : Cl) : XS := (seqS (setA (var 122) 22 (var 22))
 (seqS (setA (var 122) 21 (cst (.int 0)))
 nop))
noncomputable def S_Octets_byte (c : Cl) : XS := (seqS (setA (var 122) 21 (bin .Add (att (var 122) 21) (cst (.int 1))))
 (seqS (retS (sub (call c 29 [(att (var 122) 22), (bin .Sub (att (var 122) 21) (cst (.int 1))), (cst (.int 1))]) (cst (.int 0))))
 nop))
noncomputable def S_Octets_word (c : Cl) : XS := (seqS (setA (var 122) 21 (bin .Add (att (var 122) 21) (cst (.int 2))))
 (seqS (retS (call c 23 [(att (var 122) 22), (bin .Sub (att (var 122) 21) (cst (.int 2)))]))
 nop))
noncomputable def S_Octets_signed (c : Cl) : XS := (seqS (setA (var 122) 21 (bin .Add (att (var 122) 21) (cst (.int 2))))
 (seqS (retS (call c 24 [(att (var 122) 22), (bin .Sub (att (var 122) 21) (cst (.int 2)))]))
 nop))
noncomputable def S_Octets_part (c : Cl) : XS := (seqS (setA (var 122) 21 (bin .Add (att (var 122) 21) (var 28)))
 (seqS (retS (call c 29 [(att (var 122) 22), (bin .Sub (att (var 122) 21) (var 28)), (var 28)]))
 nop))
noncomputable def S_Partx_initx (c : Cl) : XS := (seqS (setA (var 122) 63 (var 63))
 (seqS (setA (var 122) 60 (var 60))
 (seqS (setA (var 122) 61 (var 61))
 (seqS (setA (var 122) 59 (var 59))
 (seqS (setA (var 122) 19 (var 19))
 nop)))))
noncomputable def S_Part_row (c : Cl) : XS := (seqS (retS (tupE [(att (var 122) 63), (att (var 122) 60), (att (var 122) 61), (att (var 122) 59), (att (var 122) 19)]))
 nop)
noncomputable def S_GlyphTablex_initx (c : Cl) : XS := (seqS (setA (var 122) 22 (var 22))
 (seqS (setA (var 122) 92 (var 92))
 nop))
noncomputable def S_GlyphTable_count (c : Cl) : XS := (seqS (retS (bin .Sub (lenE [(att (var 122) 92)]) (cst (.int 1))))
 nop)
noncomputable def S_GlyphTable_glyph_octets (c : Cl) : XS := (seqS (ifS (orB [(cmpB .Lt (var 63) (cst (.int 0))), (cmpB .GtE (var 63) (mcall c (var 122) 32 []))]) (seqS (raiseS (bin .Add (cst (.str "there is no glyph ")) (strE [(var 63)])))
 nop) nop)
 (seqS (retS (call c 29 [(att (var 122) 22), (sub (att (var 122) 92) (var 63)), (bin .Sub (sub (att (var 122) 92) (bin .Add (var 63) (cst (.int 1)))) (sub (att (var 122) 92) (var 63)))]))
 nop))
noncomputable def S_GlyphTable_parts (c : Cl) : XS := (seqS (asg 22 (call c 125 [(mcall c (var 122) 126 [(var 63)])]))
 (seqS (ifS (orB [(cmpB .Eq (att (var 22) 22) (cst (.bytes []))), (cmpB .GtE (mcall c (var 22) 43 []) (cst (.int 0)))]) (seqS (retS (cst .none))
 nop) nop)
 (seqS (exprS (mcall c (var 22) 48 [(cst (.int 8))]))
 (seqS (retS (sub (call c 65 [(var 22)]) (cst (.int 0))))
 nop))))
noncomputable def S_GlyphTable_outline (c : Cl) : XS := (seqS (asg 22 (call c 125 [(mcall c (var 122) 126 [(var 63)])]))
 (seqS (ifS (cmpB .Eq (att (var 22) 22) (cst (.bytes []))) (seqS (retS (call c 52 [(lstE [])]))
 nop) nop)
 (seqS (ifS (cmpB .In (var 63) (var 127)) (seqS raise0
 nop) nop)
 (seqS (ifS (cmpB .GtE (lenE [(var 127)]) (cst (.int 8))) (seqS raise0
 nop) nop)
 (seqS (asg 37 (mcall c (var 22) 43 []))
 (seqS (exprS (mcall c (var 22) 48 [(cst (.int 8))]))
 (seqS (ifS (cmpB .GtE (var 37) (cst (.int 0))) (seqS (retS (call c 53 [(var 22), (var 37)]))
 nop) nop)
 (seqS (asgU [86, 47] (call c 65 [(var 22)]))
 (seqS (asg 13 (lstE []))
 (seqS (forS (tg1 48) (var 86) (seqS (asg 66 (mcall c (var 122) 77 [(att (var 48) 63), (bin .Add (var 127) (tupE [(var 63)]))]))
 (seqS (asg 13 (bin .Add (var 13) (call c 72 [(var 48), (att (var 66) 13), (var 13)])))
 nop)))
 (seqS (retS (call c 52 [(var 13), (var 47)]))
 nop)))))))))))
theorem q_contours_of (c : Cl) (a0 a1 : D) (m : Mem) : stepTop c (nm 5) [a0, a1] m = fin m ((S_contours_of c).run (vs [(4, a0), (3, a1)]) m) := by kernel_rfl
theorem q_moved (c : Cl) (a0 a1 a2 : D) (m : Mem) : stepTop c (nm 14) [a0, a1, a2] m = fin m ((S_moved c).run (vs [(13, a0), (7, a1), (9, a2)]) m) := by kernel_rfl
theorem q_scaled_number (c : Cl) (a0 : D) (m : Mem) : stepTop c (nm 16) [a0] m = fin m ((S_scaled_number c).run (vs [(15, a0)]) m) := by kernel_rfl
theorem q_turned (c : Cl) (a0 a1 : D) (m : Mem) : stepTop c (nm 20) [a0, a1] m = fin m ((S_turned c).run (vs [(13, a0), (19, a1)]) m) := by kernel_rfl
theorem q_u16 (c : Cl) (a0 a1 : D) (m : Mem) : stepTop c (nm 23) [a0, a1] m = fin m ((S_u16 c).run (vs [(22, a0), (21, a1)]) m) := by kernel_rfl
theorem q_s16 (c : Cl) (a0 a1 : D) (m : Mem) : stepTop c (nm 24) [a0, a1] m = fin m ((S_s16 c).run (vs [(22, a0), (21, a1)]) m) := by kernel_rfl
theorem q_u32 (c : Cl) (a0 a1 : D) (m : Mem) : stepTop c (nm 25) [a0, a1] m = fin m ((S_u32 c).run (vs [(22, a0), (21, a1)]) m) := by kernel_rfl
theorem q_put16 (c : Cl) (a0 : D) (m : Mem) : stepTop c (nm 26) [a0] m = fin m ((S_put16 c).run (vs [(15, a0)]) m) := by kernel_rfl
theorem q_put32 (c : Cl) (a0 : D) (m : Mem) : stepTop c (nm 27) [a0] m = fin m ((S_put32 c).run (vs [(15, a0)]) m) := by kernel_rfl
theorem q_part_of (c : Cl) (a0 a1 a2 : D) (m : Mem) : stepTop c (nm 29) [a0, a1, a2] m = fin m ((S_part_of c).run (vs [(22, a0), (21, a1), (28, a2)]) m) := by kernel_rfl
theorem q_filled (c : Cl) (a0 : D) (m : Mem) : stepTop c (nm 30) [a0] m = fin m ((S_filled c).run (vs [(22, a0)]) m) := by kernel_rfl
theorem q_read_loca (c : Cl) (a0 a1 a2 : D) (m : Mem) : stepTop c (nm 34) [a0, a1, a2] m = fin m ((S_read_loca c).run (vs [(22, a0), (31, a1), (32, a2)]) m) := by kernel_rfl
theorem q_read_flags (c : Cl) (a0 a1 : D) (m : Mem) : stepTop c (nm 38) [a0, a1] m = fin m ((S_read_flags c).run (vs [(22, a0), (32, a1)]) m) := by kernel_rfl
theorem q_read_deltas (c : Cl) (a0 a1 a2 a3 : D) (m : Mem) : stepTop c (nm 44) [a0, a1, a2, a3] m = fin m ((S_read_deltas c).run (vs [(22, a0), (39, a1), (40, a2), (42, a3)]) m) := by kernel_rfl
theorem q_read_ends (c : Cl) (a0 a1 : D) (m : Mem) : stepTop c (nm 46) [a0, a1] m = fin m ((S_read_ends c).run (vs [(22, a0), (37, a1)]) m) := by kernel_rfl
theorem q_read_simple (c : Cl) (a0 a1 : D) (m : Mem) : stepTop c (nm 53) [a0, a1] m = fin m ((S_read_simple c).run (vs [(22, a0), (37, a1)]) m) := by kernel_rfl
theorem q_read_scale (c : Cl) (a0 a1 : D) (m : Mem) : stepTop c (nm 57) [a0, a1] m = fin m ((S_read_scale c).run (vs [(22, a0), (39, a1)]) m) := by kernel_rfl
theorem q_signed_byte (c : Cl) (a0 : D) (m : Mem) : stepTop c (nm 58) [a0] m = fin m ((S_signed_byte c).run (vs [(15, a0)]) m) := by kernel_rfl
theorem q_read_arguments (c : Cl) (a0 a1 : D) (m : Mem) : stepTop c (nm 62) [a0, a1] m = fin m ((S_read_arguments c).run (vs [(22, a0), (39, a1)]) m) := by kernel_rfl
theorem q_read_parts (c : Cl) (a0 : D) (m : Mem) : stepTop c (nm 65) [a0] m = fin m ((S_read_parts c).run (vs [(22, a0)]) m) := by kernel_rfl
theorem q_placed (c : Cl) (a0 a1 a2 : D) (m : Mem) : stepTop c (nm 72) [a0, a1, a2] m = fin m ((S_placed c).run (vs [(48, a0), (66, a1), (69, a2)]) m) := by kernel_rfl
theorem q_axis_flag (c : Cl) (a0 a1 a2 : D) (m : Mem) : stepTop c (nm 73) [a0, a1, a2] m = fin m ((S_axis_flag c).run (vs [(41, a0), (40, a1), (42, a2)]) m) := by kernel_rfl
theorem q_flag_octets (c : Cl) (a0 : D) (m : Mem) : stepTop c (nm 74) [a0] m = fin m ((S_flag_octets c).run (vs [(39, a0)]) m) := by kernel_rfl
theorem q_box_octets (c : Cl) (a0 : D) (m : Mem) : stepTop c (nm 76) [a0] m = fin m ((S_box_octets c).run (vs [(75, a0)]) m) := by kernel_rfl
theorem q_simple_octets (c : Cl) (a0 : D) (m : Mem) : stepTop c (nm 83) [a0] m = fin m ((S_simple_octets c).run (vs [(77, a0)]) m) := by kernel_rfl
theorem q_scale_octets (c : Cl) (a0 : D) (m : Mem) : stepTop c (nm 84) [a0] m = fin m ((S_scale_octets c).run (vs [(19, a0)]) m) := by kernel_rfl
theorem q_argument_octets (c : Cl) (a0 : D) (m : Mem) : stepTop c (nm 85) [a0] m = fin m ((S_argument_octets c).run (vs [(48, a0)]) m) := by kernel_rfl
theorem q_composite_octets_2 (c : Cl) (a0 a1 : D) (m : Mem) : stepTop c (nm 90) [a0, a1] m = fin m ((S_composite_octets c).run (vs [(86, a0), (75, a1), (47, (.bytes []))]) m) := by kernel_rfl
theorem q_write_glyphs (c : Cl) (a0 a1 : D) (m : Mem) : stepTop c (nm 94) [a0, a1] m = fin m ((S_write_glyphs c).run (vs [(93, a0), (31, a1)]) m) := by kernel_rfl
theorem q_law_pool (c : Cl) (a0 a1 : D) (m : Mem) : stepTop c (nm 99) [a0, a1] m = finC m ((S_law_pool c).run (vs [(97, a0), (96, a1)]) m) := by kernel_rfl
theorem q_law_take (c : Cl) (a0 a1 : D) (m : Mem) : stepTop c (nm 103) [a0, a1] m = fin m ((S_law_take c).run (vs [(100, a0), (102, a1)]) m) := by kernel_rfl
theorem q_law_one (c : Cl) (a0 a1 : D) (m : Mem) : stepTop c (nm 105) [a0, a1] m = fin m ((S_law_one c).run (vs [(100, a0), (104, a1)]) m) := by kernel_rfl
theorem q_law_contours (c : Cl) (a0 : D) (m : Mem) : stepTop c (nm 107) [a0] m = fin m ((S_law_contours c).run (vs [(100, a0)]) m) := by kernel_rfl
theorem q_law_part (c : Cl) (a0 a1 : D) (m : Mem) : stepTop c (nm 108) [a0, a1] m = fin m ((S_law_part c).run (vs [(100, a0), (63, a1)]) m) := by kernel_rfl
theorem q_law_scaled (c : Cl) (a0 a1 a2 : D) (m : Mem) : stepTop c (nm 109) [a0, a1, a2] m = fin m ((S_law_scaled c).run (vs [(7, a0), (9, a1), (19, a2)]) m) := by kernel_rfl
theorem q_law_put (c : Cl) (a0 a1 a2 : D) (m : Mem) : stepTop c (nm 111) [a0, a1, a2] m = fin m ((S_law_put c).run (vs [(13, a0), (48, a1), (66, a2)]) m) := by kernel_rfl
theorem q_law_whole (c : Cl) (a0 a1 : D) (m : Mem) : stepTop c (nm 113) [a0, a1] m = fin m ((S_law_whole c).run (vs [(86, a0), (112, a1)]) m) := by kernel_rfl
theorem q_law_octets (c : Cl) (a0 : D) (m : Mem) : stepTop c (nm 114) [a0] m = fin m ((S_law_octets c).run (vs [(86, a0)]) m) := by kernel_rfl
theorem q_law_told (c : Cl) (a0 a1 : D) (m : Mem) : stepTop c (nm 117) [a0, a1] m = fin m ((S_law_told c).run (vs [(115, a0), (63, a1)]) m) := by kernel_rfl
theorem q_law (c : Cl) (a0 : D) (m : Mem) : stepTop c (nm 121) [a0] m = fin m ((S_law c).run (vs [(97, a0)]) m) := by kernel_rfl
theorem q_Outlinex_initx_2 (c : Cl) (a0 : D) (m : Mem) : stepTop c (nm 52) [a0] m = finI false m (fin (m ++ [.inst (nm 52) []]) ((S_Outlinex_initx c).run (vs [(122, .cell m.length), (13, a0), (47, (.bytes []))]) (m ++ [.inst (nm 52) []]))) := by kernel_rfl
theorem q_Outlinex_initx (c : Cl) (a0 a1 : D) (m : Mem) : stepTop c (nm 52) [a0, a1] m = finI false m (fin (m ++ [.inst (nm 52) []]) ((S_Outlinex_initx c).run (vs [(122, .cell m.length), (13, a0), (47, a1)]) (m ++ [.inst (nm 52) []]))) := by kernel_rfl
theorem q_Outline_points (c : Cl) (a0 : D) (m : Mem) : stepMeth c (nm 52) (nm 4) [a0] m = fin m ((S_Outline_points c).run (vs [(122, a0)]) m) := by kernel_rfl
theorem q_Outline_ends (c : Cl) (a0 : D) (m : Mem) : stepMeth c (nm 52) (nm 3) [a0] m = fin m ((S_Outline_ends c).run (vs [(122, a0)]) m) := by kernel_rfl
theorem q_Outline_box (c : Cl) (a0 : D) (m : Mem) : stepMeth c (nm 52) (nm 75) [a0] m = fin m ((S_Outline_box c).run (vs [(122, a0)]) m) := by kernel_rfl
theorem q_Octetsx_initx (c : Cl) (a0 : D) (m : Mem) : stepTop c (nm 125) [a0] m = finI true m (fin (m ++ [.inst (nm 125) []]) ((S_Octetsx_initx c).run (vs [(122, .cell m.length), (22, a0)]) (m ++ [.inst (nm 125) []]))) := by kernel_rfl
theorem q_Octets_byte (c : Cl) (a0 : D) (m : Mem) : stepMeth c (nm 125) (nm 36) [a0] m = fin m ((S_Octets_byte c).run (vs [(122, a0)]) m) := by kernel_rfl
theorem q_Octets_word (c : Cl) (a0 : D) (m : Mem) : stepMeth c (nm 125) (nm 45) [a0] m = fin m ((S_Octets_word c).run (vs [(122, a0)]) m) := by kernel_rfl
theorem q_Octets_signed (c : Cl) (a0 : D) (m : Mem) : stepMeth c (nm 125) (nm 43) [a0] m = fin m ((S_Octets_signed c).run (vs [(122, a0)]) m) := by kernel_rfl
theorem q_Octets_part (c : Cl) (a0 a1 : D) (m : Mem) : stepMeth c (nm 125) (nm 48) [a0, a1] m = fin m ((S_Octets_part c).run (vs [(122, a0), (28, a1)]) m) := by kernel_rfl
theorem q_Partx_initx (c : Cl) (a0 a1 a2 a3 a4 : D) (m : Mem) : stepTop c (nm 64) [a0, a1, a2, a3, a4] m = finI false m (fin (m ++ [.inst (nm 64) []]) ((S_Partx_initx c).run (vs [(122, .cell m.length), (63, a0), (60, a1), (61, a2), (59, a3), (19, a4)]) (m ++ [.inst (nm 64) []]))) := by kernel_rfl
theorem q_Part_row (c : Cl) (a0 : D) (m : Mem) : stepMeth c (nm 64) (nm 120) [a0] m = fin m ((S_Part_row c).run (vs [(122, a0)]) m) := by kernel_rfl
theorem q_GlyphTablex_initx (c : Cl) (a0 a1 : D) (m : Mem) : stepTop c (nm 119) [a0, a1] m = finI false m (fin (m ++ [.inst (nm 119) []]) ((S_GlyphTablex_initx c).run (vs [(122, .cell m.length), (22, a0), (92, a1)]) (m ++ [.inst (nm 119) []]))) := by kernel_rfl
theorem q_GlyphTable_count (c : Cl) (a0 : D) (m : Mem) : stepMeth c (nm 119) (nm 32) [a0] m = fin m ((S_GlyphTable_count c).run (vs [(122, a0)]) m) := by kernel_rfl
theorem q_GlyphTable_glyph_octets (c : Cl) (a0 a1 : D) (m : Mem) : stepMeth c (nm 119) (nm 126) [a0, a1] m = fin m ((S_GlyphTable_glyph_octets c).run (vs [(122, a0), (63, a1)]) m) := by kernel_rfl
theorem q_GlyphTable_parts (c : Cl) (a0 a1 : D) (m : Mem) : stepMeth c (nm 119) (nm 86) [a0, a1] m = fin m ((S_GlyphTable_parts c).run (vs [(122, a0), (63, a1)]) m) := by kernel_rfl
theorem q_GlyphTable_outline_2 (c : Cl) (a0 a1 : D) (m : Mem) : stepMeth c (nm 119) (nm 77) [a0, a1] m = fin m ((S_GlyphTable_outline c).run (vs [(122, a0), (63, a1), (127, (.tup []))]) m) := by kernel_rfl
theorem q_GlyphTable_outline (c : Cl) (a0 a1 a2 : D) (m : Mem) : stepMeth c (nm 119) (nm 77) [a0, a1, a2] m = fin m ((S_GlyphTable_outline c).run (vs [(122, a0), (63, a1), (127, a2)]) m) := by kernel_rfl
section
variable {m : Mem} {A B : Prop}
theorem ct {p : Prop} [Decidable p] (h : p) (a : A) : cond (decide p) A B := ctt (decide_eq_true h) a
theorem cf {p : Prop} [Decidable p] (h : ¬ p) (b : B) : cond (decide p) A B := cff (decide_eq_false h) b
theorem nct {p : Prop} [Decidable p] (h : ¬ p) (a : A) : cond (!decide p) A B := ctt (by rw [decide_eq_false h]; rfl) a
theorem ncf {p : Prop} [Decidable p] (h : p) (b : B) : cond (!decide p) A B := cff (by rw [decide_eq_true h]; rfl) b
theorem csp {p : Prop} [Decidable p] (a : p -> A) (b : ¬ p -> B) : cond (decide p) A B := if h : p then ct h (a h) else cf h (b h)
theorem eqo {x y : D} {c : Bool} {Q : Bool -> Prop} (e : eqD (frz m x) (frz m y) = some c) (h : Q c) : eqO m x y Q := ⟨ops_some e h⟩
theorem eqt {a b : List D} {c : Bool} {Q : Bool -> Prop} (e : eqD (.tup a) (.tup b) = some c) (h : Q c) : eqO m (.tup a) (.tup b) Q := eqo e h
theorem cbo {c : Bool} (a : c = true -> A) (b : c = false -> B) : cond c A B := by
 induction c with
 | true => exact a rfl
 | false => exact b rfl
theorem mr {a b : Int} (h : decide (b.natAbs < 2 ^ 60) = true) : mulOk a b = true := by unfold mulOk; rw [h, Bool.or_true]
theorem ml {a b : Int} (h : decide (a.natAbs < 2 ^ 60) = true) : mulOk a b = true := by unfold mulOk; rw [h, Bool.true_or]
theorem m256 (x : Int) : 0 <= x % 256 /\ x % 256 < 256 := ⟨Int.emod_nonneg _ (by decide), Int.emod_lt_of_pos _ (by decide)⟩
section
variable {Q : D -> Prop}
theorem oB {b : List UInt8} {k : Int} (e : 0 <= k /\ k < b.length) (h : Q (.int ((b.getD k.toNat 0).toNat : Int))) : subV m (.bytes b) (.int k) Q := subV_is (ops_some (if_pos e) h)
theorem seqIndex_pos {k n : Nat} (h1 : k < n) : seqIndex? (k : Int) n = some k := by
 unfold seqIndex?
 have h2 : ¬ (k : Int) < 0 := by lia
 simp [h2, h1]
theorem sub_at {o : D} {ds : List D} {k : Nat} {d : D} (hs : seq m o = some ds) (e : ds[k]? = some d) : (seq m o).bind (fun ds => (seqIndex? (k : Int) ds.length).bind fun j => ds[j]?) = some d := by
 rw [hs]
 show (seqIndex? (k : Int) ds.length).bind (fun j => ds[j]?) = _
 rw [seqIndex_pos (List.getElem?_eq_some_iff.mp e).1]; exact e
theorem oL {ds : List D} {i : Int} (k : Nat) {d : D} (ei : i = k) (e : ds[k]? = some d) (h : Q d) : subV m (.lst ds) (.int i) Q := by rw [ei]; exact subV_is (ops_some (sub_at (m := m) (o := .lst ds) rfl e) h)
theorem oT {ds : List D} {i : Int} (k : Nat) {d : D} (ei : i = k) (e : ds[k]? = some d) (h : Q d) : subV m (.tup ds) (.int i) Q := by rw [ei]; exact subV_is (ops_some (sub_at (m := m) (o := .tup ds) rfl e) h)
theorem oC {ds : List D} {c : Nat} {i : Int} (k : Nat) {d : D} (hc : m[c]? = some (.lst ds)) (ei : i = k) (e : ds[k]? = some d) (h : Q d) : subV m (.cell c) (.int i) Q := by rw [ei]; exact subV_is (ops_some (sub_at (m := m) (o := .cell c) (items_cell hc) e) h)
theorem seqIndex_last (n : Nat) : seqIndex? (-1) (n + 1) = some n := by
 unfold seqIndex?
 simp
 lia
theorem oCl {ds : List D} {c : Nat} {d : D} (hc : m[c]? = some (.lst (ds ++ [d]))) (h : Q d) : subV m (.cell c) (.int (-1)) Q := by
 refine subV_is (ops_some (a := d) ?_ h)
 show (items m (.cell c)).bind (fun ds => (seqIndex? (-1) ds.length).bind fun j => ds[j]?) = _
 rw [items_cell hc]
 show (seqIndex? (-1) (ds ++ [d]).length).bind (fun j => (ds ++ [d])[j]?) = _
 rw [List.length_append, show ds.length + [d].length = ds.length + 1 from rfl, seqIndex_last]
 exact List.getElem?_concat_length
theorem oLl {ds : List D} {d : D} (h : Q d) : subV m (.lst (ds ++ [d])) (.int (-1)) Q := by
 refine subV_is (ops_some (a := d) ?_ h)
 show (seqIndex? (-1) (ds ++ [d]).length).bind (fun j => (ds ++ [d])[j]?) = _
 rw [List.length_append, show ds.length + [d].length = ds.length + 1 from rfl, seqIndex_last]
 exact List.getElem?_concat_length
theorem oK {b : List UInt8} {i j : Int} (p n : Nat) (ei : i = p) (ej : j = (p + n : Nat)) (hl : p + n <= b.length) (h : Q (.bytes ((b.drop p).take n))) : cutV m (.bytes b) i j Q := by
 rw [ei, ej]
 refine cutV_is ?_
 have e : (0 : Int) <= p /\ (p : Int) <= (p + n : Nat) /\ ((p + n : Nat) : Int) <= b.length := ⟨Int.natCast_nonneg _, Int.ofNat_le.mpr (Nat.le_add_right ..), Int.ofNat_le.mpr hl⟩
 refine ops_some (a := .bytes (cut b p (p + n : Nat))) (by
  show (if (0 : Int) <= p /\ (p : Int) <= (p + n : Nat) /\ ((p + n : Nat) : Int) <= b.length then some (D.bytes (cut b p (p + n : Nat))) else none) = _
  exact if_pos e) ?_
 have h2 : (b.drop (p : Int).toNat).take (((p + n : Nat) : Int).toNat - (p : Int).toNat) = (b.drop p).take n := congrArg (fun k => (b.drop p).take k) (Nat.add_sub_cancel_left ..)
 exact (congrArg (fun x => Q (.bytes x)) h2).mpr h
theorem oKL {b : List D} {i j : Int} (p n : Nat) (ei : i = p) (ej : j = (p + n : Nat)) (hl : p + n <= b.length) (h : Q (.lst ((b.drop p).take n))) : cutV m (.lst b) i j Q := by
 rw [ei, ej]
 refine cutV_is ?_
 have e : (0 : Int) <= p /\ (p : Int) <= (p + n : Nat) /\ ((p + n : Nat) : Int) <= b.length := ⟨Int.natCast_nonneg _, Int.ofNat_le.mpr (Nat.le_add_right ..), Int.ofNat_le.mpr hl⟩
 refine ops_some (a := .lst (cut b p (p + n : Nat))) (by
  show ((items m (.lst b)).bind fun ds => if (0 : Int) <= p /\ (p : Int) <= (p + n : Nat) /\ ((p + n : Nat) : Int) <= ds.length then some (D.lst (cut ds p (p + n : Nat))) else none) = _
  exact if_pos e) ?_
 have h2 : (b.drop (p : Int).toNat).take (((p + n : Nat) : Int).toNat - (p : Int).toNat) = (b.drop p).take n := congrArg (fun k => (b.drop p).take k) (Nat.add_sub_cancel_left ..)
 exact (congrArg (fun x => Q (.lst x)) h2).mpr h
end
end
mutual
theorem freeze_plain (m : Mem) (n : Nat) : ∀ d, plain d = true -> freeze m n d = some d
 | .cell i, h => nomatch h
 | .lst ds, h => congrArg (Option.map D.lst) (freezes_plain m n ds h)
 | .tup ds, h => congrArg (Option.map D.tup) (freezes_plain m n ds h)
 | .inst c fs, h => if_pos h
 | .none, _ => rfl
 | .bool _, _ => rfl
 | .int _, _ => rfl
 | .str _, _ => rfl
 | .bytes _, _ => rfl
 | .rng _, _ => rfl
theorem freezes_plain (m : Mem) (n : Nat) : ∀ ds, plain.plains ds = true -> freeze.freezes m n ds = some ds
 | [], _ => rfl
 | d :: r, h => by
  have h := (Bool.and_eq_true _ _).mp h
  show (match freeze m n d, freeze.freezes m n r with | some d, some ds => some (d :: ds) | _, _ => none) = _
  rw [freeze_plain m n d h.1, freezes_plain m n r h.2]
end
theorem fz {m : Mem} {n : Nat} {d : D} {Q : D -> Prop} (e : plain d = true) (h : Q d) : ops (freeze m n d) Q := ops_some (freeze_plain m n d e) h
theorem fzC {m : Mem} {n i : Nat} {ds : List D} {Q : D -> Prop} (e : m[i]? = some (.lst ds)) (hn : n <= i) (h : Q (.lst ds)) : ops (freeze m n (.cell i)) Q := by
 refine ops_some (a := .lst ds) ?_ h
 show (if i < n then some (D.cell i) else match m[i]? with | some (.lst ds) => some (.lst ds) | _ => none) = _
 rw [if_neg (Nat.not_lt_of_le hn), e]
noncomputable abbrev Pt := Int × Int × Bool
noncomputable def ptD (p : Pt) : D := .tup [.int p.1, .int p.2.1, .bool p.2.2]
noncomputable def conD (c : List Pt) : D := .lst (c.map ptD)
noncomputable def consD (cs : List (List Pt)) : D := .lst (cs.map conD)
noncomputable def outI (cs : List (List Pt)) (ins : List UInt8) : D := .inst (nm 52) (vs [(13, consD cs), (47, .bytes ins)])
noncomputable def oct (b : List UInt8) (k : Nat) : Cell := .inst (nm 125) (vs [(22, .bytes b), (21, .int k)])
noncomputable def ocr (b r : List UInt8) : Cell := oct b (b.length - r.length)
structure Pa where
 g : Int
 f : Int
 s : Int
 mv : Bool
 a : Int
 b : Int
 c : Int
 d : Int
noncomputable def Pa.sc (p : Pa) : D := .tup [.int p.a, .int p.b, .int p.c, .int p.d]
noncomputable def Pa.inst (p : Pa) : D := .inst (nm 64) (vs [(63, .int p.g), (60, .int p.f), (61, .int p.s), (59, .bool p.mv), (19, p.sc)])
noncomputable def Pa.row (p : Pa) : D := .tup [.int p.g, .int p.f, .int p.s, .bool p.mv, p.sc]
noncomputable def tabI (b : List UInt8) (ps : List Int) : D := .inst (nm 119) (vs [(22, .bytes b), (92, .lst (ps.map D.int))])
noncomputable def p16 (i : Int) : List UInt8 := [ub (i / 256 % 256), ub (i % 256)]
theorem plains_map {γ : Type} {f : γ -> D} (h : ∀ x, plain (f x) = true) : ∀ xs : List γ, plain.plains (xs.map f) = true
 | [] => rfl
 | x :: xs => (Bool.and_eq_true _ _).mpr ⟨h x, plains_map h xs⟩
theorem plain_pts (c : List Pt) : plain (conD c) = true := plains_map (fun _ => rfl) c
theorem plain_conS (cs : List (List Pt)) : plain (consD cs) = true := plains_map plain_pts cs
theorem plain_ints (is : List Int) : plain (.lst (is.map D.int)) = true := plains_map (fun _ => rfl) is
theorem plain_outI (cs : List (List Pt)) (ins : List UInt8) : plain (outI cs ins) = true := (Bool.and_eq_true _ _).mpr ⟨plain_conS cs, rfl⟩
theorem plain_parts (ps : List Pa) : plain (.lst (ps.map Pa.inst)) = true := plains_map (fun _ => rfl) ps
section
variable {m : Mem} {Q : D -> Prop} {K : Str -> Prop}
theorem att_ok {c x : Nat} {fs : List (Nat × D)} {d : D} (e1 : isFld (nm c) (nm x) = true) (e2 : lk fs x = some d) (h : Q d) : attV x m (.inst (nm c) (vs fs)) Q := by
 refine ⟨ops_some (a := d) ?_ h⟩
 show (if isFld (nm c) (nm x) then (vs fs).lookup (nm x) else none) = _
 rw [if_pos e1, vs_lk]; exact e2
theorem attC_ok {i c x : Nat} {fs : List (Nat × D)} {d : D} (em : m[i]? = some (.inst (nm c) (vs fs))) (e1 : isFld (nm c) (nm x) = true) (e2 : lk fs x = some d) (h : Q d) : attV x m (.cell i) Q := by
 refine ⟨ops_some (a := d) ?_ h⟩
 rw [fields_cell em]
 show (if isFld (nm c) (nm x) then (vs fs).lookup (nm x) else none) = _
 rw [if_pos e1, vs_lk]; exact e2
theorem f_oc : isFld (nm 125) (nm 22) = true := by decide +kernel
theorem f_oa : isFld (nm 125) (nm 21) = true := by decide +kernel
theorem a_con {cs : List (List Pt)} {ins : List UInt8} (h : Q (consD cs)) : attV 13 m (outI cs ins) Q := att_ok (by decide +kernel) rfl h
theorem a_ins {cs : List (List Pt)} {ins : List UInt8} (h : Q (.bytes ins)) : attV 47 m (outI cs ins) Q := att_ok (by decide +kernel) rfl h
theorem a_g {p : Pa} (h : Q (.int p.g)) : attV 63 m p.inst Q := att_ok (by decide +kernel) rfl h
theorem a_f {p : Pa} (h : Q (.int p.f)) : attV 60 m p.inst Q := att_ok (by decide +kernel) rfl h
theorem a_s {p : Pa} (h : Q (.int p.s)) : attV 61 m p.inst Q := att_ok (by decide +kernel) rfl h
theorem a_mv {p : Pa} (h : Q (.bool p.mv)) : attV 59 m p.inst Q := att_ok (by decide +kernel) rfl h
theorem a_sc {p : Pa} (h : Q p.sc) : attV 19 m p.inst Q := att_ok (by decide +kernel) rfl h
theorem a_to {b : List UInt8} {ps : List Int} (h : Q (.bytes b)) : attV 22 m (tabI b ps) Q := att_ok (by decide +kernel) rfl h
theorem a_tp {b : List UInt8} {ps : List Int} (h : Q (.lst (ps.map D.int))) : attV 92 m (tabI b ps) Q := att_ok (by decide +kernel) rfl h
theorem a_oo {i n : Nat} {b : List UInt8} (e : m[i]? = some (oct b n)) (h : Q (.bytes b)) : attV 22 m (.cell i) Q := attC_ok e f_oc rfl h
theorem a_oa {i n : Nat} {b : List UInt8} (e : m[i]? = some (oct b n)) (h : Q (.int n)) : attV 21 m (.cell i) Q := attC_ok e f_oa rfl h
theorem lk_no {x : Nat} {fs : List (Nat × D)} (e : lk fs x = none) : ((vs fs).lookup (nm x)).isNone = true := by rw [vs_lk, e]; rfl
theorem mth_ok {c x : Nat} {fs : List (Nat × D)} (e1 : okM (nm c) (nm x) = true) (e2 : lk fs x = none) (h : K (nm c)) : mthV x m (.inst (nm c) (vs fs)) K := by
 exact ⟨(show ops (fields m (.inst (nm c) (vs fs))) _ from ⟨(Bool.and_eq_true _ _).mpr ⟨e1, lk_no e2⟩, h⟩)⟩
theorem mthC_ok {i c x : Nat} {fs : List (Nat × D)} (em : m[i]? = some (.inst (nm c) (vs fs))) (e1 : okM (nm c) (nm x) = true) (e2 : lk fs x = none) (h : K (nm c)) : mthV x m (.cell i) K := by
 exact ⟨ops_some (fields_cell em) ⟨(Bool.and_eq_true _ _).mpr ⟨e1, lk_no e2⟩, h⟩⟩
theorem m_points {cs : List (List Pt)} {ins : List UInt8} (h : K (nm 52)) : mthV 4 m (outI cs ins) K := mth_ok (by decide +kernel) rfl h
theorem m_ends {cs : List (List Pt)} {ins : List UInt8} (h : K (nm 52)) : mthV 3 m (outI cs ins) K := mth_ok (by decide +kernel) rfl h
theorem m_box {cs : List (List Pt)} {ins : List UInt8} (h : K (nm 52)) : mthV 75 m (outI cs ins) K := mth_ok (by decide +kernel) rfl h
theorem m_row {p : Pa} (h : K (nm 64)) : mthV 120 m p.inst K := mth_ok (by decide +kernel) rfl h
theorem m_count {b : List UInt8} {ps : List Int} (h : K (nm 119)) : mthV 32 m (tabI b ps) K := mth_ok (by decide +kernel) rfl h
theorem m_glyph {b : List UInt8} {ps : List Int} (h : K (nm 119)) : mthV 126 m (tabI b ps) K := mth_ok (by decide +kernel) rfl h
theorem m_parts {b : List UInt8} {ps : List Int} (h : K (nm 119)) : mthV 86 m (tabI b ps) K := mth_ok (by decide +kernel) rfl h
theorem m_outline {b : List UInt8} {ps : List Int} (h : K (nm 119)) : mthV 77 m (tabI b ps) K := mth_ok (by decide +kernel) rfl h
variable {i n : Nat} {b : List UInt8}
theorem m_byte (e : m[i]? = some (oct b n)) (h : K (nm 125)) : mthV 36 m (.cell i) K := mthC_ok e (by decide +kernel) rfl h
theorem m_word (e : m[i]? = some (oct b n)) (h : K (nm 125)) : mthV 45 m (.cell i) K := mthC_ok e (by decide +kernel) rfl h
theorem m_signed (e : m[i]? = some (oct b n)) (h : K (nm 125)) : mthV 43 m (.cell i) K := mthC_ok e (by decide +kernel) rfl h
theorem m_part (e : m[i]? = some (oct b n)) (h : K (nm 125)) : mthV 48 m (.cell i) K := mthC_ok e (by decide +kernel) rfl h
theorem setA_ok {j c x : Nat} {fs : List (Nat × D)} {d : D} {K : Mem -> Prop} (em : m[j]? = some (.inst (nm c) (vs fs))) (e1 : plain d = true) (e2 : isFld (nm c) (nm x) = true) (e3 : Nat.ble (vs fs).length 50 = true) (h : K (m.set j (.inst (nm c) (vs (vst x d fs))))) : setAV m x (.cell j) d K :=
 ⟨j, _, fs, rfl, em, by rw [e1, e2, decide_eq_true (Nat.le_of_ble_eq_true e3)]; rfl, h⟩
theorem app_ok {j : Nat} {ds : List D} {d : D} {K : Mem -> Prop} (em : m[j]? = some (.lst ds)) (e1 : plain d = true) (e2 : ds.length < 65536) (h : K (m.set j (.lst (ds ++ [d])))) : appV m j d K :=
 ⟨ds, em, by rw [e1, decide_eq_true (show ds.length < cap from e2)]; rfl, h⟩
end
section
variable {m : Mem} {i : Nat} {c d : Cell} {l : Mem}
theorem get_last : (m ++ [c])[m.length]? = some c := List.getElem?_concat_length
theorem get_old (h : m[i]? = some c) : (m ++ l)[i]? = some c := by
 rw [List.getElem?_append_left (List.getElem?_eq_some_iff.mp h).1]; exact h
theorem get_set (h : m[i]? = some c) : (m.set i d)[i]? = some d := List.getElem?_set_self (List.getElem?_eq_some_iff.mp h).1
theorem set_last : (m ++ [c]).set m.length d = m ++ [d] := by
 rw [List.set_append_right _ _ (Nat.le_refl _), Nat.sub_self]; rfl
theorem take_app : (m ++ l).take m.length = m := List.take_left
theorem take_set : (m.set i c).take m.length = m.set i c := List.take_of_length_le (by rw [List.length_set]; exact Nat.le_refl _)
theorem take_set_app : ((m ++ l).set i c).take m.length = m.set i c := by rw [List.take_set, List.take_left]
end
noncomputable def Has (l : VE) : List (Nat × D) -> Prop
 | [] => True
 | p :: r => l p.1 = some p.2 /\ Has l r
theorem Has.le {l : VE} : ∀ {L : List (Nat × D)}, Has l L -> LE (lk L) l
 | [], _, _, _, e => nomatch e
 | p :: r, h, i, d, e => by
  have e : cond (Nat.beq i p.1) (some p.2) (lk r i) = some d := e
  cases w : Nat.beq i p.1 with
  | true =>
   rw [w] at e
   rw [Nat.eq_of_beq_eq_true w, h.1]; exact e
  | false =>
   rw [w] at e
   exact h.2.le i d e
section
variable {t : Tg} {b : XS} {l : VE} {m : Mem} {N : VE -> Mem -> Prop} {R : D -> Mem -> Prop} {X : Mem -> Prop}
theorem lp_tyC {γ : Type} {C : Mem -> Prop} (xs : List γ) (enc : γ -> D) (J : List γ -> List (Nat × D)) (M : List γ -> Mem) (hC : ∀ pre, C (M pre)) (h0 : Has l (J [])) (hm : M [] = m)
  (hs : ∀ pre x suf N', xs = pre ++ x :: suf -> (∀ l2 m2, Has l2 (J (pre ++ [x])) -> m2 = M (pre ++ [x]) -> N' l2 m2) -> t.vc (enc x) (lk (J pre)) fun l' => b.vc l' (M pre) N' R X)
  (he : N (lk (J xs)) (M xs)) : lpV t b (xs.map enc) l m N R X C := by
 refine ⟨fun ds l m => ∃ pre suf, xs = pre ++ suf /\ ds = suf.map enc /\ l = lk (J pre) /\ m = M pre, ⟨_, h0.le, [], xs, rfl, rfl, rfl, hm.symm⟩, fun r l m ⟨pre, _, _, _, _, e⟩ => e ▸ hC pre, fun l m ⟨pre, suf, e, e2, e3, e4⟩ => ?_, fun d r l m ⟨pre, suf, e, e2, e3, e4⟩ => ?_⟩
 ·rw [List.map_eq_nil_iff.mp e2.symm, List.append_nil] at e
  rw [e3, e4, <- e]; exact he
 ·induction suf using List.casesOn with
  | nil => exact nomatch e2
  | cons x suf =>
   obtain ⟨ed, er⟩ := List.cons.inj e2
   rw [ed, e3, e4]
   exact hs pre x suf _ e fun l2 m2 h hm => ⟨_, h.le, pre ++ [x], suf, by rw [e, List.append_assoc]; rfl, er, rfl, hm⟩
theorem lp_st {γ σ : Type} (xs : List γ) (enc : γ -> D) (Ok : List γ -> σ -> Prop) (J : σ -> List (Nat × D)) (M : σ -> Mem) (s0 : σ) (hk : Ok [] s0) (h0 : Has l (J s0)) (hm : M s0 = m)
  (hs : ∀ pre x suf s N', xs = pre ++ x :: suf -> Ok pre s -> (∀ s' l2 m2, Ok (pre ++ [x]) s' -> Has l2 (J s') -> m2 = M s' -> N' l2 m2) -> t.vc (enc x) (lk (J s)) fun l' => b.vc l' (M s) N' R X)
  (he : ∀ s, Ok xs s -> N (lk (J s)) (M s)) : (lpV t b (xs.map enc) l m N R X fun _ => True) \/ lpU t b N R X (xs.map enc) l m := by
 refine .inl ⟨fun ds l m => ∃ pre suf s, xs = pre ++ suf /\ ds = suf.map enc /\ Ok pre s /\ l = lk (J s) /\ m = M s, ⟨_, h0.le, [], xs, s0, rfl, rfl, hk, rfl, hm.symm⟩, fun _ _ _ _ => trivial, fun l m ⟨pre, suf, s, e, e2, hk, e3, e4⟩ => ?_, fun d r l m ⟨pre, suf, s, e, e2, hk, e3, e4⟩ => ?_⟩
 ·rw [List.map_eq_nil_iff.mp e2.symm, List.append_nil] at e
  rw [e3, e4]; exact he s (e ▸ hk)
 ·induction suf using List.casesOn with
  | nil => exact nomatch e2
  | cons x suf =>
   obtain ⟨ed, er⟩ := List.cons.inj e2
   rw [ed, e3, e4]
   exact hs pre x suf s _ e hk fun s' l2 m2 hk h hm => ⟨_, h.le, pre ++ [x], suf, s', by rw [e, List.append_assoc]; rfl, er, hk, rfl, hm⟩
theorem lp_ty {γ : Type} (xs : List γ) (enc : γ -> D) (J : List γ -> List (Nat × D)) (M : List γ -> Mem) (h0 : Has l (J [])) (hm : M [] = m)
  (hs : ∀ pre x suf N', xs = pre ++ x :: suf -> (∀ l2 m2, Has l2 (J (pre ++ [x])) -> m2 = M (pre ++ [x]) -> N' l2 m2) -> t.vc (enc x) (lk (J pre)) fun l' => b.vc l' (M pre) N' R X)
  (he : N (lk (J xs)) (M xs)) : (lpV t b (xs.map enc) l m N R X fun _ => True) \/ lpU t b N R X (xs.map enc) l m :=
 .inl (lp_tyC xs enc J M (fun _ => trivial) h0 hm hs he)
theorem wh_ty {t' : XB} {σ : Type} (Ok : σ -> Prop) (u : σ -> Nat) (J : σ -> List (Nat × D)) (M : σ -> Mem) (s0 : σ) (hu : u s0 < 64) (hk : Ok s0) (h0 : Has l (J s0)) (hm : M s0 = m)
  (hs : ∀ s N', Ok s -> (∀ s' l2 m2, u s' < u s -> Ok s' -> Has l2 (J s') -> m2 = M s' -> N' l2 m2) -> t'.vc (lk (J s)) (M s) (fun c m1 => cond c (b.vc (lk (J s)) m1 N' R fun _ => False) (N (lk (J s)) m1)) fun _ => False) : whV t' b l m N R \/ whU t' b N R whileTop l m :=
 .inl ⟨fun n l m => ∃ s, Ok s /\ n = u s /\ l = lk (J s) /\ m = M s, ⟨u s0, hu, _, h0.le, s0, hk, rfl, rfl, hm.symm⟩, fun n l m ⟨s, hk, e1, e2, e3⟩ => by
  rw [e2, e3]
  exact hs s _ hk fun s' l2 m2 hl hk hh hm => ⟨u s', e1 ▸ hl, _, hh.le, s', hk, rfl, rfl, hm⟩⟩
theorem wh_ty2 {t' : XB} {σ : Type} (Ok : σ -> Prop) (u : σ -> Nat) (J : σ -> List (Nat × D)) (M : σ -> Mem) (s0 : σ) (hu : u s0 < 64) (hk : Ok s0) (h0 : Has l (J s0)) (hm : M s0 = m)
  (hs : ∀ s (N' N0 : VE -> Mem -> Prop), Ok s -> (∀ s' l2 m2, u s' < u s -> Ok s' -> Has l2 (J s') -> m2 = M s' -> N' l2 m2) -> N0 (lk (J s)) (M s) -> t'.vc (lk (J s)) (M s) (fun c m1 => cond c (b.vc (lk (J s)) m1 N' R fun _ => False) (N0 (lk (J s)) m1)) fun _ => False)
  (he : ∀ s, Ok s -> N (lk (J s)) (M s)) : whV t' b l m N R \/ whU t' b N R whileTop l m :=
 wh_ty Ok u J M s0 hu hk h0 hm fun s N' hk hN => hs s N' N hk hN (he s hk)
end
theorem ub_nat {i : Int} (h : 0 <= i /\ i < 256) : ((ub i).toNat : Int) = i := by
 unfold ub
 rw [UInt8.toNat_ofNat']
 lia
theorem p16_val (i : Int) : ((ub (i / 256 % 256)).toNat : Int) * 256 + (ub (i % 256)).toNat = i % 65536 := by
 rw [ub_nat (m256 _), ub_nat (m256 _)]; lia
theorem getD_at {p r : List UInt8} {u : UInt8} : (p ++ u :: r).getD p.length 0 = u := by
 rw [List.getD_eq_getElem?_getD, List.getElem?_append_right (Nat.le_refl _), Nat.sub_self]; rfl
theorem getD_at1 {p r : List UInt8} {u v : UInt8} : (p ++ u :: v :: r).getD (p.length + 1) 0 = v := by
 rw [List.getD_eq_getElem?_getD, List.getElem?_append_right (Nat.le_succ _), show p.length.succ - p.length = 1 from Nat.add_sub_cancel_left (n := p.length) (m := 1)]; rfl
theorem take_at {p s r : List UInt8} : ((p ++ (s ++ r)).drop p.length).take s.length = s := by rw [List.drop_left, List.take_left]
theorem len_at {p s r : List UInt8} : p.length + s.length <= (p ++ (s ++ r)).length := by
 rw [List.length_append, List.length_append]; lia
theorem pm {P : D -> Mem -> Prop} {d : D} {m m' : Mem} (e : m' = m) (h : P d m) : P d m' := e ▸ h
noncomputable def sgn (v : Int) : Int := if 32768 <= v then v - 65536 else v
theorem sgn_of {i : Int} (h : -32768 <= i /\ i < 32768) : sgn (i % 65536) = i := by unfold sgn; split <;> lia
section
variable {m : Mem} {k : Nat} {P : D -> Mem -> Prop} {X : Mem -> Prop} {i j : Int} {p b s r : List UInt8}
theorem put16_s (h : P (.bytes (p16 i)) m) : wp (rn (k + 1) (.top (nm 26)) [.int i] m) P X :=
 top0 (q_put16 _ _ _) (And.intro (m256 _) (And.intro (m256 _) (And.intro rfl h)))
theorem u16_p (h : P (.int (i % 65536)) m) : wp (rn (k + 1) (.top (nm 23)) [.bytes (p ++ (p16 i ++ r)), .int p.length] m) P X := by
 have hl : p.length + 2 <= (p ++ (p16 i ++ r)).length := len_at (s := p16 i)
 refine top0 (q_u16 _ _ _ _) ?_
 refine cff (decide_eq_false (by lia)) ?_
 refine oB (by lia) ?_
 refine And.intro (mr rfl) ?_
 refine oB (by lia) ?_
 refine And.intro rfl ?_
 have e : ((((p ++ (p16 i ++ r)).getD p.length 0).toNat : Int) * 256 + ((p ++ (p16 i ++ r)).getD (p.length + 1) 0).toNat) = i % 65536 := by
  rw [show (p ++ (p16 i ++ r)).getD p.length 0 = _ from getD_at, show (p ++ (p16 i ++ r)).getD (p.length + 1) 0 = _ from getD_at1]; exact p16_val i
 exact (congrArg (fun z => P (.int z) m) e).mpr h
theorem u16_q {b : List UInt8} {a : Int} (hb : b = p ++ (p16 i ++ r)) (ha : a = p.length) (h : P (.int (i % 65536)) m) : wp (rn (k + 1) (.top (nm 23)) [.bytes b, .int a] m) P X := by
 rw [hb, ha]; exact u16_p h
theorem s16_p (h : P (.int (sgn (i % 65536))) m) : wp (rn (k + 2) (.top (nm 24)) [.bytes (p ++ (p16 i ++ r)), .int p.length] m) P X := by
 refine top0 (q_s16 _ _ _ _) ?_
 refine u16_p ?_
 unfold sgn at h
 exact csp (fun c => And.intro rfl (by rw [if_pos c] at h; exact h)) fun c => And.intro rfl (by rw [if_neg c] at h; exact h)
theorem u32_p (h : P (.int (i % 65536 * 65536 + j % 65536)) m) : wp (rn (k + 2) (.top (nm 25)) [.bytes (p ++ (p16 i ++ (p16 j ++ r))), .int p.length] m) P X := by
 refine top0 (q_u32 _ _ _ _) ?_
 refine u16_p ?_
 refine And.intro (mr rfl) ?_
 exact u16_q (p := p ++ p16 i) (List.append_assoc ..).symm (by rw [List.length_append]; rfl) (And.intro rfl h)
theorem put32_s (h : P (.bytes (p16 (i / 65536) ++ p16 i)) m) : wp (rn (k + 2) (.top (nm 27)) [.int i] m) P X := by
 refine top0 (q_put32 _ _ _) ?_
 refine put16_s ?_
 refine put16_s ?_
 exact And.intro (by show 4 <= 65536; lia) (And.intro rfl h)
theorem part_of_s (h : P (.bytes s) m) : wp (rn (k + 1) (.top (nm 29)) [.bytes (p ++ (s ++ r)), .int p.length, .int s.length] m) P X := by
 have hl : p.length + s.length <= (p ++ (s ++ r)).length := len_at
 refine top0 (q_part_of _ _ _ _ _) ?_
 refine cff (decide_eq_false (by lia)) ?_
 refine oK p.length s.length rfl rfl hl ?_
 refine And.intro rfl ?_
 rw [take_at]; exact h
noncomputable def pad (n : Nat) : Nat := (4 - n % 4) % 4
noncomputable def fil (b : List UInt8) : List UInt8 := b ++ List.replicate (pad b.length) 0
theorem filled_s (hb : b.length <= 60000) (h : P (.bytes (fil b)) m) : wp (rn (k + 1) (.top (nm 30)) [.bytes b] m) P X := by
 refine top0 (q_filled _ _ _) ?_
 refine And.intro (by show _ /\ _ <= (65536 : Int); lia) ?_
 have e : ((4 - (b.length : Int) % 4) % 4).toNat = pad b.length := by unfold pad; lia
 rw [e]
 exact And.intro (by rw [List.length_replicate]; show _ <= 65536; unfold pad; lia) (And.intro rfl h)
theorem scaled_number_s (h : P (.int ((i + 8192) / 16384)) m) : wp (rn (k + 1) (.top (nm 16)) [.int i] m) P X :=
 top0 (q_scaled_number _ _ _) (And.intro rfl h)
theorem signed_byte_s (h : P (.int (if 128 <= i then i - 256 else i)) m) : wp (rn (k + 1) (.top (nm 58)) [.int i] m) P X := by
 refine top0 (q_signed_byte _ _ _) ?_
 exact csp (fun c => And.intro rfl (by rw [if_pos c] at h; exact h)) fun c => And.intro rfl (by rw [if_neg c] at h; exact h)
end
structure Rd (m : Mem) (o : Nat) (b r : List UInt8) : Prop where
 at_ : m[o]? = some (ocr b r)
 suf : r <:+ b
theorem ocr_is {p b r : List UInt8} (h : p ++ r = b) : ocr b r = oct b p.length := by
 unfold ocr
 rw [<- h, List.length_append, Nat.add_sub_cancel]
theorem Rd.next {m : Mem} {o : Nat} {b s r : List UInt8} (R : Rd m o b (s ++ r)) : Rd (m.set o (ocr b r)) o b r :=
 ⟨get_set R.at_, (List.suffix_append s r).trans R.suf⟩
theorem Rd.old {m l : Mem} {o : Nat} {b r : List UInt8} (R : Rd m o b r) : Rd (m ++ l) o b r := ⟨get_old R.at_, R.suf⟩
section
variable {m : Mem} {k o : Nat} {P : D -> Mem -> Prop} {X : Mem -> Prop} {i : Int} {b s r : List UInt8} {u : UInt8}
theorem octets_s (h : P (.cell m.length) (m ++ [ocr b b])) : wp (rn (k + 1) (.top (nm 125)) [.bytes b] m) P X := by
 rw [rn_top, q_Octetsx_initx]
 refine wp_finIC (wp_fin (sb_vs _) ?_)
 refine setA_ok (x := 22) (c := 125) (fs := []) (d := .bytes b) get_last rfl f_oc rfl ?_
 rw [set_last]
 refine setA_ok (x := 21) (c := 125) (fs := [(22, .bytes b)]) (d := .int 0) get_last rfl f_oa rfl ?_
 rw [set_last]
 exact And.intro rfl (pm ((List.take_of_length_le (Nat.le_of_eq (by rw [List.length_append, List.length_append]; rfl))).trans (congrArg (fun z => m ++ [z]) (ocr_is (p := []) rfl).symm)) h)
theorem oct_set {p : List UInt8} {a : Int} {K : Mem -> Prop} (R : Rd m o b (s ++ r)) (hb : p ++ (s ++ r) = b) (ha : a = (p.length + s.length : Nat)) (hK : K (m.set o (ocr b r))) : setAV m 21 (.cell o) (.int a) K := by
 have ho := R.at_
 rw [ocr_is hb] at ho
 rw [ha]
 refine setA_ok (x := 21) (c := 125) (fs := [(22, .bytes b), (21, .int p.length)]) (d := .int (p.length + s.length : Nat)) ho rfl f_oa rfl ?_
 have e : ocr b r = oct b (p.length + s.length) := by rw [ocr_is (p := p ++ s) (by rw [List.append_assoc]; exact hb), List.length_append]
 rw [e] at hK
 exact hK
theorem Rd.mid (R : Rd m o b (s ++ r)) : ∃ p, b = p ++ (s ++ r) /\ m[o]? = some (oct b p.length) /\ (m.set o (ocr b r))[o]? = some (oct b (p.length + s.length)) := by
 refine e1_1 R.suf fun p hp => ?_
 refine ⟨p, hp.symm, ocr_is hp ▸ R.at_, ?_⟩
 rw [get_set R.at_, ocr_is (p := p ++ s) (by rw [List.append_assoc]; exact hp), List.length_append]
theorem part_of_q {p : List UInt8} {a z : Int} (hb : b = p ++ (s ++ r)) (ha : a = p.length) (hz : z = s.length) (h : P (.bytes s) m) : wp (rn (k + 1) (.top (nm 29)) [.bytes b, .int a, .int z] m) P X := by
 rw [hb, ha, hz]; exact part_of_s h
theorem s16_q {p : List UInt8} {a : Int} (hb : b = p ++ (p16 i ++ r)) (ha : a = p.length) (h : P (.int (sgn (i % 65536))) m) : wp (rn (k + 2) (.top (nm 24)) [.bytes b, .int a] m) P X := by
 rw [hb, ha]; exact s16_p h
theorem back (a n : Nat) : ((a + n : Nat) : Int) - n = a := by lia
theorem byte_s (R : Rd m o b (u :: r)) (h : P (.int u.toNat) (m.set o (ocr b r))) : wp (rn (k + 2) (.meth (nm 125) (nm 36)) [.cell o] m) P X := by
 refine e1_3 (Rd.mid (s := [u]) R) fun p hb ho hn => ?_
 refine mth (q_Octets_byte _ _ _) ?_
 refine a_oa ho ?_
 refine oct_set (s := [u]) R hb.symm rfl ?_
 refine a_oo hn ?_
 refine a_oa hn ?_
 refine part_of_q (s := [u]) hb (back _ 1) rfl ?_
 refine oB (b := [u]) (k := 0) ⟨by decide, by show 0 < ((1 : Nat) : Int); decide⟩ ?_
 exact pm (d := .int u.toNat) take_set h
theorem word_s (R : Rd m o b (p16 i ++ r)) (h : P (.int (i % 65536)) (m.set o (ocr b r))) : wp (rn (k + 2) (.meth (nm 125) (nm 45)) [.cell o] m) P X := by
 refine e1_3 R.mid fun p hb ho hn => ?_
 refine mth (q_Octets_word _ _ _) ?_
 refine a_oa ho ?_
 refine oct_set R hb.symm rfl ?_
 refine a_oo hn ?_
 refine a_oa hn ?_
 exact u16_q hb (back _ 2) (pm take_set h)
theorem signed_s (R : Rd m o b (p16 i ++ r)) (h : P (.int (sgn (i % 65536))) (m.set o (ocr b r))) : wp (rn (k + 3) (.meth (nm 125) (nm 43)) [.cell o] m) P X := by
 refine e1_3 R.mid fun p hb ho hn => ?_
 refine mth (q_Octets_signed _ _ _) ?_
 refine a_oa ho ?_
 refine oct_set R hb.symm rfl ?_
 refine a_oo hn ?_
 refine a_oa hn ?_
 exact s16_q hb (back _ 2) (pm take_set h)
theorem part_s {z : Int} (R : Rd m o b (s ++ r)) (hz : z = s.length) (h : P (.bytes s) (m.set o (ocr b r))) : wp (rn (k + 2) (.meth (nm 125) (nm 48)) [.cell o, .int z] m) P X := by
 rw [hz]
 refine e1_3 R.mid fun p hb ho hn => ?_
 refine mth (q_Octets_part _ _ _ _) ?_
 refine a_oa ho ?_
 refine oct_set R hb.symm rfl ?_
 refine a_oo hn ?_
 refine a_oa hn ?_
 exact part_of_q hb (back _ _) rfl (pm take_set h)
theorem init_end {m m' : Mem} {a : D} {c : Str} {fs : List (Str × D)} (e : m' = m ++ [.inst c fs]) (h : P (.inst c fs) m) : ∃ c' fs', D.none = .none /\ (m'.take (m ++ [Cell.inst c []]).length)[m.length]? = some (.inst c' fs') /\ P (.inst c' fs') ((m'.take (m ++ [Cell.inst c []]).length).take m.length) := by
 have e2 : m'.take (m ++ [Cell.inst c []]).length = m ++ [.inst c fs] := by rw [e]; exact List.take_of_length_le (Nat.le_of_eq (by rw [List.length_append, List.length_append]; rfl))
 rw [e2]
 exact ⟨_, _, rfl, get_last, pm take_app h⟩
theorem outline_s {cs : List (List Pt)} (h : P (outI cs s) m) : wp (rn (k + 1) (.top (nm 52)) [consD cs, .bytes s] m) P X := by
 rw [rn_top, q_Outlinex_initx]
 refine wp_finI (wp_fin (sb_vs _) ?_)
 refine setA_ok (x := 13) (c := 52) (fs := []) (d := consD cs) get_last (plain_conS cs) (by decide +kernel) rfl ?_
 rw [set_last]
 refine setA_ok (x := 47) (c := 52) (fs := [(13, consD cs)]) (d := .bytes s) get_last rfl (by decide +kernel) rfl ?_
 rw [set_last]
 exact init_end (a := .none) rfl h
theorem outline1_s {cs : List (List Pt)} (h : P (outI cs []) m) : wp (rn (k + 1) (.top (nm 52)) [consD cs] m) P X := by
 rw [rn_top, q_Outlinex_initx_2, <- q_Outlinex_initx, <- rn_top]
 exact outline_s h
theorem len_map {γ : Type} {f : γ -> D} {x : List D} {xs : List γ} {n : Nat} (h : x.length + xs.length <= n) : x.length + (xs.map f).length <= n := by rw [List.length_map]; exact h
theorem flat_len {γ : Type} {pre suf : List (List γ)} {x : List γ} : pre.flatten.length + x.length <= (pre ++ x :: suf).flatten.length := by
 rw [List.flatten_append, List.length_append, List.flatten_cons, List.length_append]; lia
theorem points_s {cs : List (List Pt)} (hl : cs.length <= 100) (hc : cs.flatten.length <= 1000) (h : P (.lst (cs.flatten.map ptD)) m) : wp (rn (k + 1) (.meth (nm 52) (nm 4)) [outI cs s] m) P X := by
 refine mth0 (q_Outline_points _ _ _) ?_
 refine a_con ?_
 refine And.intro (by rw [List.length_map]; show _ <= 65536; lia) ?_
 refine lp_ty cs conD (fun pre => [(0, .lst (pre.flatten.map ptD))]) (fun _ => m) ⟨rfl, trivial⟩ rfl (fun pre x suf N' e hN => ?_) ?_
 ·refine And.intro (len_map (by rw [List.length_map]; have := flat_len (pre := pre) (x := x) (suf := suf); rw [<- e] at this; show _ <= 65536; lia)) ?_
  exact hN _ _ ⟨by rw [List.flatten_append, List.map_append, List.flatten_cons, List.flatten_nil, List.append_nil]; rfl, trivial⟩ rfl
 ·exact And.intro rfl (fz (plain_pts cs.flatten) h)
noncomputable def endsOf : Int -> List (List Pt) -> List Int
 | _, [] => []
 | a, c :: r => (a + c.length) :: endsOf (a + c.length) r
noncomputable def lastE : Int -> List (List Pt) -> Int
 | a, [] => a
 | a, c :: r => lastE (a + c.length) r
theorem lastE_app (c : List Pt) : ∀ (r : List (List Pt)) (a : Int), lastE a (r ++ [c]) = lastE a r + c.length
 | [], a => rfl
 | d :: r, a => lastE_app c r _
theorem endsOf_app (c : List Pt) : ∀ (r : List (List Pt)) (a : Int), endsOf a (r ++ [c]) = endsOf a r ++ [lastE a r + c.length]
 | [], a => rfl
 | d :: r, a => congrArg (_ :: ·) (endsOf_app c r _)
theorem endsOf_len : ∀ (r : List (List Pt)) (a : Int), (endsOf a r).length = r.length
 | [], a => rfl
 | d :: r, a => congrArg (· + 1) (endsOf_len r _)
theorem ends_s {cs : List (List Pt)} (hl : cs.length <= 100) (h : P (.lst ((endsOf (-1) cs).map D.int)) m) : wp (rn (k + 1) (.meth (nm 52) (nm 3)) [outI cs s] m) P X := by
 refine mth (q_Outline_ends _ _ _) ?_
 refine a_con ?_
 refine And.intro (by rw [List.length_map]; show _ <= 65536; lia) ?_
 refine lp_ty cs conD (fun pre => [(0, .cell m.length), (21, .int (lastE (-1) pre))]) (fun pre => m ++ [.lst ((endsOf (-1) pre).map D.int)]) ⟨rfl, rfl, trivial⟩ rfl (fun pre x suf N' e hN => ?_) ?_
 ·have e2 : lastE (-1) (pre ++ [x]) = lastE (-1) pre + (x.map ptD).length := by rw [lastE_app, List.length_map]
  refine And.intro ⟨_, get_last⟩ ?_
  refine app_ok get_last rfl (by rw [List.length_map, endsOf_len]; rw [e, List.length_append] at hl; lia) ?_
  refine hN _ _ ⟨rfl, congrArg (fun z => some (D.int z)) e2.symm, trivial⟩ ?_
  rw [set_last, endsOf_app, List.map_append, <- lastE_app, e2]; rfl
 ·exact fzC get_last (Nat.le_refl _) (pm take_app h)
theorem ints_map {γ : Type} (f : γ -> Int) : ∀ xs : List γ, toInts (xs.map fun x => D.int (f x)) = some (xs.map f)
 | [] => rfl
 | x :: xs => congrArg (Option.map (f x :: ·)) (ints_map f xs)
theorem minL_ne : ∀ {is : List Int}, is ≠ [] -> ∃ i, minL is = some i
 | [], h => absurd rfl h
 | _ :: _, _ => ⟨_, rfl⟩
theorem maxL_ne : ∀ {is : List Int}, is ≠ [] -> ∃ i, maxL is = some i
 | [], h => absurd rfl h
 | _ :: _, _ => ⟨_, rfl⟩
section
variable {γ : Type} {f : γ -> Int} {xs : List γ} {Q : D -> Prop}
theorem o_min (hne : xs ≠ []) (h : ∀ i, Q (.int i)) : ops (biD m "min" [.lst (xs.map fun x => D.int (f x))]) Q := by
 obtain ⟨i, e⟩ := minL_ne (fun e => hne (List.map_eq_nil_iff.mp e) : xs.map f ≠ [])
 exact ops_some (a := .int i) (by show ((toInts _).bind minL).map D.int = _; rw [ints_map]; exact congrArg (Option.map D.int) e) (h i)
theorem o_max {m : Mem} (hne : xs ≠ []) (h : ∀ i, Q (.int i)) : ops (biD m "max" [.lst (xs.map fun x => D.int (f x))]) Q := by
 refine e1_1 (maxL_ne (fun e => hne (List.map_eq_nil_iff.mp e) : xs.map f ≠ [])) fun i e => ?_
 exact ops_some (a := .int i) (by show ((toInts _).bind maxL).map D.int = _; rw [ints_map]; exact congrArg (Option.map D.int) e) (h i)
end
theorem eqNil {γ : Type} {enc : γ -> D} {xs : List γ} {Q : Bool -> Prop} (hne : xs ≠ []) (h : Q false) : eqO m (.lst (xs.map enc)) (.lst []) Q := by
 refine eqo ?_ h
 induction xs using List.casesOn with
 | nil => exact absurd rfl hne
 | cons x xs => rfl
theorem box_s {cs : List (List Pt)} (hl : cs.length <= 100) (hc : cs.flatten.length <= 1000) (hne : cs.flatten ≠ []) (h : ∀ a b c d : Int, P (.tup [.int a, .int b, .int c, .int d]) m) : wp (rn (k + 2) (.meth (nm 52) (nm 75)) [outI cs s] m) P X := by
 refine mth0 (q_Outline_box _ _ _) ?_
 refine m_points ?_
 refine points_s hl hc ?_
 refine eqNil hne ?_
 have hz : (cs.flatten.map ptD).length <= cap := by rw [List.length_map]; show _ <= 65536; lia
 refine And.intro hz ⟨_, all2_map (g := fun p => D.int p.1) fun p _ => And.intro rfl rfl, ?_⟩
 refine And.intro hz ⟨_, all2_map (g := fun p => D.int p.2.1) fun p _ => And.intro rfl rfl, ?_⟩
 refine o_min hne fun i1 => ?_
 refine o_min hne fun i2 => ?_
 refine o_max hne fun i3 => ?_
 refine o_max hne fun i4 => ?_
 exact And.intro rfl (h i1 i2 i3 i4)
theorem cat_len2 {γ : Type} (f : γ -> List UInt8) : ∀ xs : List γ, catBytes (xs.map fun x => D.bytes (f x)) = some (xs.map f).flatten
 | [] => rfl
 | x :: xs => congrArg (Option.map (f x ++ ·)) (cat_len2 f xs)
theorem box_octets_s {a b c d : Int} (h : ∀ bs, bs.length = 8 -> P (.bytes bs) m) : wp (rn (k + 2) (.top (nm 76)) [.tup [.int a, .int b, .int c, .int d]] m) P X := by
 refine top0 (q_box_octets _ _ _) ?_
 refine And.intro (by show 4 <= 65536; lia) ⟨_, all2_map (xs := [a, b, c, d]) (f := D.int) (g := fun i => D.bytes (p16 i)) fun p _ => put16_s (And.intro rfl rfl), ?_⟩
 refine ops_some (a := [a, b, c, d].map fun i => D.bytes (p16 i)) rfl ?_
 exact ops_some (cat_len2 p16 [a, b, c, d]) (And.intro ⟨by show 8 <= 65536; lia, by show 4 <= 65536; lia⟩ (And.intro rfl (h ([a, b, c, d].map p16).flatten rfl)))
end
noncomputable def axF (s sh sm : Int) : Int := if s = 0 then sm else if 0 < s /\ s < 256 then Builtin.bitOr sh sm else if -256 < s /\ s < 0 then sh else 0
noncomputable def axB (s : Int) : List UInt8 := if s = 0 then [] else if 0 < s /\ s < 256 then [ub s] else if -256 < s /\ s < 0 then [ub (0 - s)] else p16 s
theorem axB_len (s : Int) : (axB s).length <= 2 := by
 unfold axB
 split
 ·exact Nat.zero_le _
 ·split
  ·exact Nat.le_succ _
  ·split
   ·exact Nat.le_succ _
   ·exact Nat.le_refl _
section
variable {m : Mem} {k : Nat} {P : D -> Mem -> Prop} {X : Mem -> Prop}
theorem axis_flag_s {s sh sm : Int} (hs : -32768 <= s /\ s <= 32767) (h : P (.tup [.int (axF s sh sm), .bytes (axB s)]) m) : wp (rn (k + 2) (.top (nm 73)) [.int s, .int sh, .int sm] m) P X := by
 refine top0 (q_axis_flag _ _ _ _ _) ?_
 unfold axF axB at h
 refine csp (fun h0 => ?_) fun h0 => ?_
 ·rw [if_pos h0, if_pos h0] at h
  exact And.intro rfl h
 rw [if_neg h0, if_neg h0] at h
 refine csp (fun h1 => ?_) fun h1 => ?_
 ·have h3 : ¬ (-256 < s /\ s < 0) := fun c => by lia
  rw [if_neg h3, if_neg h3] at h
  refine csp (fun h2 => ?_) fun h2 => ?_
  ·rw [if_pos ⟨h1, h2⟩, if_pos ⟨h1, h2⟩] at h
   exact And.intro ⟨Int.le_of_lt h1, h2⟩ (And.intro rfl h)
  ·rw [if_neg fun c => h2 c.2, if_neg fun c => h2 c.2] at h
   refine ct (by lia) ?_
   refine cf (by lia) ?_
   refine cf (by lia) ?_
   refine cf (by lia) ?_
   exact put16_s (And.intro rfl h)
 ·have n1 : ¬ (0 < s /\ s < 256) := fun c => h1 c.1
  rw [if_neg n1, if_neg n1] at h
  refine csp (fun h2 => ?_) fun h2 => ?_
  ·have p2 : -256 < s /\ s < 0 := ⟨h2, by lia⟩
   rw [if_pos p2, if_pos p2] at h
   refine ct p2.2 ?_
   exact And.intro (by lia) (And.intro rfl h)
  ·have n2 : ¬ (-256 < s /\ s < 0) := fun c => h2 c.1
   rw [if_neg n2, if_neg n2] at h
   refine cf (by lia) ?_
   refine cf (by lia) ?_
   exact put16_s (And.intro rfl h)
end
inductive RFl : List UInt8 -> List Int -> List Int -> Prop where
 | nil : RFl [] [] []
 | one {f : Int} {bs : List UInt8} {fs gs : List Int} : RFl bs fs gs -> RFl (ub f :: bs) (f :: fs) (f :: gs)
 | rep {f : Int} {n : Nat} {bs : List UInt8} {fs gs : List Int} : 2 < n -> n <= 256 -> RFl bs fs gs -> RFl (ub (Builtin.bitOr f 8) :: ub ((n : Int) - 1) :: bs) (List.replicate n f ++ fs) (List.replicate n (Builtin.bitOr f 8) ++ gs)
theorem RFl.app {a b : List UInt8} {f f' g g' : List Int} (h : RFl a f f') (h2 : RFl b g g') : RFl (a ++ b) (f ++ g) (f' ++ g') := by
 induction h with
 | nil => exact h2
 | one _ ih => exact .one ih
 | rep h1 h3 _ ih => rw [List.append_assoc, List.append_assoc]; exact .rep h1 h3 ih
theorem RFl.len {a : List UInt8} {f g : List Int} (h : RFl a f g) : a.length <= f.length /\ f.length = g.length := by
 induction h with
 | nil => exact ⟨Nat.le_refl _, rfl⟩
 | one _ ih => exact ⟨Nat.succ_le_succ ih.1, congrArg (· + 1) ih.2⟩
 | rep h1 h3 _ ih => rw [List.length_append, List.length_append, List.length_replicate, List.length_replicate, ih.2]; exact ⟨by show _ + 1 + 1 <= _; lia, rfl⟩
theorem RFl.ones (f : Int) : ∀ n : Nat, RFl (List.replicate n [ub f]).flatten (List.replicate n f) (List.replicate n f)
 | 0 => .nil
 | n + 1 => .one (RFl.ones f n)
theorem bits8N : ∀ n < 64, 0 <= Builtin.bitOr (Int.ofNat n) 8 /\ Builtin.bitOr (Int.ofNat n) 8 < 64 /\ Builtin.bitAnd (Builtin.bitOr (Int.ofNat n) 8) 8 ≠ 0 /\ (∀ b ∈ [1, 2, 4, 16, 32], Builtin.bitAnd (Builtin.bitOr (Int.ofNat n) 8) b = Builtin.bitAnd (Int.ofNat n) b) := by decide +kernel
theorem bits8 {f : Int} (h0 : 0 <= f) (h1 : f < 64) : 0 <= Builtin.bitOr f 8 /\ Builtin.bitOr f 8 < 64 /\ Builtin.bitAnd (Builtin.bitOr f 8) 8 ≠ 0 /\ (∀ b ∈ [1, 2, 4, 16, 32], Builtin.bitAnd (Builtin.bitOr f 8) b = Builtin.bitAnd f b) := by
 refine e1_1 (Int.eq_ofNat_of_zero_le h0) fun n ee1 => ?_; subst ee1
 exact bits8N n (Int.ofNat_lt.mp h1)
noncomputable def okF (f : Int) : Prop := 0 <= f /\ f < 64 /\ Builtin.bitAnd f 8 = 0
structure Fs where
 a : Nat
 q : Nat
 bs : List UInt8
 G : List Int
section
variable {m : Mem} {k : Nat} {P : D -> Mem -> Prop} {X : Mem -> Prop}
theorem flag_octets_s {F : List Int} {i : Nat} (hi : m[i]? = some (.lst (F.map D.int))) (hF : ∀ f ∈ F, okF f) (hl : F.length <= 60) (h : ∀ bs G, RFl bs F G -> P (.bytes bs) m) : wp (rn (k + 1) (.top (nm 74)) [.cell i] m) P X := by
 have lenF : (F.map D.int).length = F.length := List.length_map _
 have get : ∀ a : Nat, a < F.length -> ∃ f, F[a]? = some f /\ (F.map D.int)[a]? = some (.int f) /\ okF f := fun a ha => by
  have hf : F[a]? = some F[a] := List.getElem?_eq_getElem ha
  exact ⟨F[a], hf, by rw [List.getElem?_map, hf]; rfl, hF _ (List.mem_of_getElem? hf)⟩
 refine top0 (q_flag_octets _ _ _) ?_
 refine wh_ty (σ := Fs) (fun s => s.a <= F.length /\ RFl s.bs (F.take s.a) s.G) (fun s => F.length - s.a) (fun s => [(39, .cell i), (21, .int s.a), (0, .bytes s.bs)]) (fun _ => m) ⟨0, 0, [], []⟩ (by show F.length - 0 < 64; lia) ⟨Nat.zero_le _, .nil⟩ ⟨rfl, rfl, rfl, trivial⟩ rfl fun ⟨a, _, bs, G⟩ N' ⟨h4, h5⟩ hN => ?_
 refine ⟨_, hi, ?_⟩
 rw [lenF]
 refine csp (fun hc => ?_) fun hc => ?_
 ·have ha : a < F.length := Int.ofNat_lt.mp hc
  refine e1_5 (get a ha) fun f hf hfm f0 f1 f2 => ?_
  have h5 : RFl bs (F.take a) G := h5
  have hbs : bs.length <= a := Nat.le_trans h5.len.1 (by rw [List.length_take]; exact Nat.min_le_left _ _)
  refine wh_ty2 (σ := Nat) (fun q => 0 < q /\ a + q <= F.length /\ (F.drop a).take q = List.replicate q f) (fun q => F.length - (a + q)) (fun q => [(39, .cell i), (21, .int a), (0, .bytes bs), (37, .int q)]) (fun _ => m) 1 (by show F.length - (a + 1) < 64; lia) ⟨Nat.zero_lt_one, ha, ?_⟩ ⟨rfl, rfl, rfl, rfl, trivial⟩ rfl (fun q N2 N0 ⟨g5, g6, g7⟩ hN2 ex => ?_) fun q ⟨g5, g6, g7⟩ => ?_
  ·rw [List.drop_eq_getElem_cons ha]
   rw [List.getElem?_eq_getElem ha] at hf
   rw [Option.some.inj hf]; rfl
  ·refine ⟨_, hi, ?_⟩
   rw [lenF]
   refine csp (fun hq => ?_) fun hq => ex
   refine e1_3 (get (a + q) (Int.ofNat_lt.mp hq)) fun f' hf' hfm' _ => ?_
   refine oC (a + q) hi rfl hfm' ?_
   refine oC a hi rfl hfm ?_
   refine csp (fun he => ?_) fun he => ex
   refine csp (fun h2 => ?_) fun h2 => ex
   refine hN2 (q + 1) _ _ (by show F.length - (a + (q + 1)) < _; have := Int.ofNat_lt.mp hq; lia) ⟨Nat.succ_pos _, Int.ofNat_lt.mp hq, ?_⟩ ⟨rfl, rfl, rfl, rfl, trivial⟩ rfl
   rw [List.take_add_one, g7, List.getElem?_drop, hf', he, List.replicate_succ']; rfl
  ·have ht : F.take (a + q) = F.take a ++ List.replicate q f := by rw [List.take_add, g7]
   have next : ∀ bs2 G2 l2, RFl bs2 (List.replicate q f) G2 -> Has l2 [(39, .cell i), (21, .int (a + q : Nat)), (0, .bytes (bs ++ bs2))] -> N' l2 m := fun bs2 G2 l2 h6 hl2 => hN ⟨a + q, 0, bs ++ bs2, G ++ G2⟩ _ _ (by show F.length - (a + q) < F.length - a; lia) ⟨g6, by show RFl _ (F.take (a + q)) _; rw [ht]; exact h5.app h6⟩ hl2 rfl
   refine csp (fun hq => ?_) fun hq => ?_
   ·refine oC a hi rfl hfm ?_
    have b8 := bits8 f0 f1
    have hq : 2 < q := Int.ofNat_lt.mp hq
    refine And.intro ⟨b8.1, by lia⟩ (And.intro (by lia) (And.intro (by show _ + 2 <= 65536; lia) ?_))
    have r := RFl.rep (f := f) hq (by lia) .nil
    rw [List.append_nil, List.append_nil] at r
    exact next _ _ _ r ⟨rfl, rfl, rfl, trivial⟩
   ·refine oC a hi rfl hfm ?_
    refine And.intro ⟨f0, by lia⟩ (And.intro ⟨nofun, by show 1 <= 16; lia, Int.natCast_nonneg _, by show _ <= (65536 : Int); lia⟩ (And.intro (by have := (RFl.ones f q).len.1; rw [List.length_replicate] at this; show _ + (List.replicate q [ub f]).flatten.length <= 65536; lia) ?_))
    exact next _ _ _ (RFl.ones f q) ⟨rfl, rfl, rfl, trivial⟩
 ·have hc : ¬ ((a : Int) < F.length) := hc
  have : F.take a = F := List.take_of_length_le (by lia)
  have h5 : RFl bs (F.take a) G := h5
  rw [this] at h5
  exact And.intro rfl (h bs G h5)
end
noncomputable def fl1 (x y : Int) (p : Pt) : Int := Builtin.bitOr (Builtin.bitOr (axF (p.1 - x) 2 16) (axF (p.2.1 - y) 4 32)) (if p.2.2 then 1 else 0)
noncomputable def lastX : Int -> List Pt -> Int
 | x, [] => x
 | _, p :: r => lastX p.1 r
noncomputable def lastY : Int -> List Pt -> Int
 | x, [] => x
 | _, p :: r => lastY p.2.1 r
noncomputable def flagsOf : Int -> Int -> List Pt -> List Int
 | _, _, [] => []
 | x, y, p :: r => fl1 x y p :: flagsOf p.1 p.2.1 r
noncomputable def acrossOf : Int -> List Pt -> List UInt8
 | _, [] => []
 | x, p :: r => axB (p.1 - x) ++ acrossOf p.1 r
noncomputable def upOf : Int -> List Pt -> List UInt8
 | _, [] => []
 | y, p :: r => axB (p.2.1 - y) ++ upOf p.2.1 r
theorem lastX_app (q : Pt) : ∀ r x, lastX x (r ++ [q]) = q.1
 | [], _ => rfl
 | p :: r, _ => lastX_app q r _
theorem lastY_app (q : Pt) : ∀ r x, lastY x (r ++ [q]) = q.2.1
 | [], _ => rfl
 | p :: r, _ => lastY_app q r _
theorem flagsOf_app (q : Pt) : ∀ r x y, flagsOf x y (r ++ [q]) = flagsOf x y r ++ [fl1 (lastX x r) (lastY y r) q]
 | [], _, _ => rfl
 | p :: r, x, y => congrArg (_ :: ·) (flagsOf_app q r _ _)
theorem acrossOf_app (q : Pt) : ∀ r x, acrossOf x (r ++ [q]) = acrossOf x r ++ axB (q.1 - lastX x r)
 | [], x => List.append_nil _
 | p :: r, x => (congrArg (_ ++ ·) (acrossOf_app q r _)).trans (List.append_assoc ..).symm
theorem upOf_app (q : Pt) : ∀ r x, upOf x (r ++ [q]) = upOf x r ++ axB (q.2.1 - lastY x r)
 | [], x => List.append_nil _
 | p :: r, x => (congrArg (_ ++ ·) (upOf_app q r _)).trans (List.append_assoc ..).symm
theorem flagsOf_len : ∀ r x y, (flagsOf x y r).length = r.length
 | [], _, _ => rfl
 | p :: r, x, y => congrArg (· + 1) (flagsOf_len r _ _)
theorem ax_len {a n : Nat} {s : Int} (h : a <= 2 * n) : (axB s).length + a <= 2 * (n + 1) := by have := axB_len s; lia
theorem acrossOf_len : ∀ r x, (acrossOf x r).length <= 2 * r.length
 | [], _ => Nat.le_refl _
 | p :: r, x => by
  show (axB _ ++ acrossOf _ r).length <= _
  rw [List.length_append]; exact ax_len (acrossOf_len r _)
theorem upOf_len : ∀ r x, (upOf x r).length <= 2 * r.length
 | [], _ => Nat.le_refl _
 | p :: r, x => by
  show (axB _ ++ upOf _ r).length <= _
  rw [List.length_append]; exact ax_len (upOf_len r _)
noncomputable def okP (p : Pt) : Prop := (-10000 <= p.1 /\ p.1 <= 10000) /\ -10000 <= p.2.1 /\ p.2.1 <= 10000
theorem last_ok : ∀ r : List Pt, (∀ p ∈ r, okP p) -> (-10000 <= lastX 0 r /\ lastX 0 r <= 10000) /\ -10000 <= lastY 0 r /\ lastY 0 r <= 10000 := by
 have : ∀ (r : List Pt) x y, okP (x, y, true) -> (∀ p ∈ r, okP p) -> (-10000 <= lastX x r /\ lastX x r <= 10000) /\ -10000 <= lastY y r /\ lastY y r <= 10000 := fun r => by
  induction r with
  | nil => exact fun x y h _ => h
  | cons p r ih => exact fun x y _ h => ih _ _ (h p (List.mem_cons_self ..)) fun q hq => h q (List.mem_cons_of_mem _ hq)
 exact fun r h => this r 0 0 (by unfold okP; decide) h
theorem axF_cases (s sh sm : Int) : axF s sh sm ∈ [sm, Builtin.bitOr sh sm, sh, 0] := by
 unfold axF
 split
 ·exact .head _
 split
 ·exact .tail _ (.head _)
 split
 ·exact .tail _ (.tail _ (.head _))
 ·exact .tail _ (.tail _ (.tail _ (.head _)))
theorem fl_all : ∀ u ∈ [16, Builtin.bitOr 2 16, 2, 0], ∀ v ∈ [32, Builtin.bitOr 4 32, 4, 0], ∀ w ∈ [(0 : Int), 1], 0 <= Builtin.bitOr (Builtin.bitOr u v) w /\ Builtin.bitOr (Builtin.bitOr u v) w < 64 /\ Builtin.bitAnd (Builtin.bitOr (Builtin.bitOr u v) w) 8 = 0 := by decide +kernel
theorem fl1_ok (x y : Int) (p : Pt) : okF (fl1 x y p) :=
 fl_all _ (axF_cases _ _ _) _ (axF_cases _ _ _) _ (by cases p.2.2 with | true => exact .tail _ (.head _) | false => exact .head _)
theorem flagsOf_ok : ∀ r x y, ∀ f ∈ flagsOf x y r, okF f
 | [], _, _, f, h => nomatch h
 | p :: r, x, y, f, h => (List.mem_cons.mp h).elim (fun h => h ▸ fl1_ok x y p) fun h => flagsOf_ok r _ _ f h
section
variable {m : Mem} {k : Nat} {P : D -> Mem -> Prop} {X : Mem -> Prop}
noncomputable def simB (pts : List Pt) (box rle : List UInt8) : List UInt8 := (((((p16 1 ++ box) ++ p16 (-1 + pts.length)) ++ p16 0) ++ rle) ++ acrossOf 0 pts) ++ upOf 0 pts
theorem simple_octets_s {pts : List Pt} (hne : pts ≠ []) (hl : pts.length <= 50) (hp : ∀ p ∈ pts, okP p)
  (h : ∀ box rle G, box.length = 8 -> RFl rle (flagsOf 0 0 pts) G -> P (.bytes (simB pts box rle)) m) : wp (rn (k + 3) (.top (nm 83)) [outI [pts] []] m) P X := by
 have fl : [pts].flatten = pts := List.append_nil _
 refine top (q_simple_octets _ _ _) ?_
 refine a_con ?_
 refine eqo (c := false) rfl ?_
 refine m_points ?_
 refine points_s (by show 1 <= 100; lia) (by rw [fl]; lia) ?_
 rw [fl]
 refine And.intro (by rw [List.length_map]; show _ <= 65536; lia) ?_
 refine lp_ty pts ptD (fun pre => [(77, outI [pts] []), (39, .cell m.length), (49, .bytes (acrossOf 0 pre)), (50, .bytes (upOf 0 pre)), (7, .int (lastX 0 pre)), (9, .int (lastY 0 pre))]) (fun pre => m ++ [.lst ((flagsOf 0 0 pre).map D.int)]) ⟨rfl, rfl, rfl, rfl, rfl, rfl, trivial⟩ rfl (fun pre p suf N' e hN => ?_) ?_
 ·have hpre : ∀ q ∈ pre, okP q := fun q hq => hp q (by rw [e]; exact List.mem_append_left _ hq)
  obtain ⟨⟨p0, p1⟩, p2, p3⟩ := hp p (by rw [e]; exact List.mem_append_right _ (List.mem_cons_self ..))
  obtain ⟨⟨x0, x1⟩, y0, y1⟩ := last_ok pre hpre
  have hpl : pre.length <= 50 := by rw [e, List.length_append] at hl; lia
  have ha := acrossOf_len pre 0
  have hu := upOf_len pre 0
  refine axis_flag_s (by lia) ?_
  refine axis_flag_s (by lia) ?_
  have lf : ((flagsOf 0 0 pre).map D.int).length < 65536 := by rw [List.length_map, flagsOf_len]; lia
  have la : (acrossOf 0 pre).length + (axB (p.1 - lastX 0 pre)).length <= cap := by have := axB_len (p.1 - lastX 0 pre); show _ <= 65536; lia
  have lu : (upOf 0 pre).length + (axB (p.2.1 - lastY 0 pre)).length <= cap := by have := axB_len (p.2.1 - lastY 0 pre); show _ <= 65536; lia
  have fin : ∀ w l2, w = (if p.2.2 then (1 : Int) else 0) -> Has l2 [(77, outI [pts] []), (39, .cell m.length), (49, .bytes (acrossOf 0 pre ++ axB (p.1 - lastX 0 pre))), (50, .bytes (upOf 0 pre ++ axB (p.2.1 - lastY 0 pre))), (7, .int p.1), (9, .int p.2.1)] ->
    N' l2 ((m ++ [Cell.lst ((flagsOf 0 0 pre).map D.int)]).set m.length (Cell.lst ((flagsOf 0 0 pre).map D.int ++ [D.int (Builtin.bitOr (Builtin.bitOr (axF (p.1 - lastX 0 pre) 2 16) (axF (p.2.1 - lastY 0 pre) 4 32)) w)]))) := fun w l2 hw hh => by
   rw [<- acrossOf_app, <- upOf_app, <- lastX_app p pre 0, <- lastY_app p pre 0] at hh
   refine hN _ _ hh ?_
   rw [set_last, flagsOf_app, List.map_append, hw]; rfl
  refine And.intro ⟨_, get_last⟩ (cbo (fun c => ?_) fun c => ?_)
  ·exact app_ok get_last rfl lf (And.intro la (And.intro lu (fin 1 _ (by rw [c]; rfl) ⟨rfl, rfl, rfl, rfl, rfl, rfl, trivial⟩)))
  ·exact app_ok get_last rfl lf (And.intro la (And.intro lu (fin 0 _ (by rw [c]; rfl) ⟨rfl, rfl, rfl, rfl, rfl, rfl, trivial⟩)))
 ·have ha := acrossOf_len pts 0
  have hu := upOf_len pts 0
  have hf := flagsOf_len pts 0 0
  refine m_ends ?_
  refine ends_s (by show 1 <= 100; lia) ?_
  refine And.intro (by show 1 <= 65536; lia) ⟨_, all2_map (g := fun i => D.bytes (p16 i)) fun p _ => put16_s (And.intro rfl rfl), ?_⟩
  refine ops_some (a := (endsOf (-1) [pts]).map fun i => D.bytes (p16 i)) rfl ?_
  refine ops_some (cat_len2 p16 _) ?_
  refine And.intro ⟨by show 2 <= 65536; lia, by show 1 <= 65536; lia⟩ ?_
  refine a_ins ?_
  refine put16_s ?_
  refine a_ins ?_
  refine And.intro (by show 2 <= 65536; lia) ?_
  refine a_con ?_
  refine put16_s ?_
  refine m_box ?_
  refine box_s (by show 1 <= 100; lia) (by rw [fl]; lia) (by rw [fl]; exact hne) fun a b c d => ?_
  refine box_octets_s fun bx hbx => ?_
  refine And.intro (by rw [hbx]; show 10 <= 65536; lia) ?_
  refine And.intro (by rw [List.length_append, hbx]; show 12 <= 65536; lia) ?_
  refine And.intro (by rw [List.length_append, List.length_append, hbx]; show 14 <= 65536; lia) ?_
  refine flag_octets_s get_last (flagsOf_ok pts 0 0) (by lia) fun rle G hr => ?_
  have hrl := hr.len.1
  have l14 : ((((p16 1 ++ bx) ++ p16 (-1 + pts.length)) ++ p16 0)).length = 14 := by rw [List.length_append, List.length_append, List.length_append, hbx]; rfl
  refine And.intro (by show (((p16 1 ++ bx) ++ p16 (-1 + pts.length)) ++ p16 0).length + _ <= 65536; lia) ?_
  refine And.intro (by show (((((p16 1 ++ bx) ++ p16 (-1 + pts.length)) ++ p16 0)) ++ rle).length + _ <= 65536; rw [List.length_append]; lia) ?_
  refine And.intro (by show ((((((p16 1 ++ bx) ++ p16 (-1 + pts.length)) ++ p16 0)) ++ rle) ++ acrossOf 0 pts).length + _ <= 65536; rw [List.length_append, List.length_append]; lia) ?_
  exact pm take_app (h bx rle G hbx hr)
end
noncomputable def isSc (a b c d : Int) : Prop := (a = 16384 /\ b = 0 /\ c = 0 /\ d = 16384) \/ (a = 8192 /\ b = 0 /\ c = 0 /\ d = 8192) \/ (a = -16384 /\ b = 0 /\ c = 0 /\ d = 16384) \/ (a = 0 /\ b = 16384 /\ c = -16384 /\ d = 0) \/ (a = 24576 /\ b = 0 /\ c = 0 /\ d = 5000)
noncomputable def scOF (a b c d : Int) : Int := if a = 16384 /\ b = 0 /\ c = 0 /\ d = 16384 then 0 else if b = 0 /\ c = 0 /\ a = d then 8 else if b = 0 /\ c = 0 then 64 else 128
noncomputable def scOB (a b c d : Int) : List UInt8 := if a = 16384 /\ b = 0 /\ c = 0 /\ d = 16384 then [] else if b = 0 /\ c = 0 /\ a = d then p16 a else if b = 0 /\ c = 0 then p16 a ++ p16 d else ((p16 a ++ p16 b) ++ p16 c) ++ p16 d
theorem scOB_len (a b c d : Int) : (scOB a b c d).length <= 8 := by
 unfold scOB
 split
 ·exact Nat.zero_le _
 split
 ·exact Nat.le_add_right 2 6
 split
 ·exact Nat.le_add_right 4 4
 ·exact Nat.le_refl _
noncomputable def small (p : Pa) : Bool := decide (-128 <= p.f) && decide (p.f < 128) && decide (-128 <= p.s) && decide (p.s < 128)
noncomputable def agF (p : Pa) : Int := if p.mv then (if small p then 2 else 3) else 0
noncomputable def agB (p : Pa) : List UInt8 := if p.mv then (if small p then [ub (p.f % 256), ub (p.s % 256)] else p16 p.f ++ p16 p.s) else [ub p.f, ub p.s]
theorem agB_len (p : Pa) : (agB p).length <= 4 := by
 unfold agB
 split
 ·split
  ·exact Nat.le_add_right 2 2
  ·exact Nat.le_refl _
 ·exact Nat.le_add_right 2 2
structure okPa (p : Pa) : Prop where
 sc : isSc p.a p.b p.c p.d
 pt : p.mv = false -> (0 <= p.f /\ p.f < 256) /\ 0 <= p.s /\ p.s < 256
 f : -32768 <= p.f /\ p.f < 32768
 s : -32768 <= p.s /\ p.s < 32768
 g : 0 <= p.g /\ p.g < 65536
noncomputable def pfl (p : Pa) (more : Bool) : Int := if more then Builtin.bitOr (Builtin.bitOr (agF p) (scOF p.a p.b p.c p.d)) 32 else Builtin.bitOr (agF p) (scOF p.a p.b p.c p.d)
noncomputable def addP (found : List UInt8) (p : Pa) (more : Bool) : List UInt8 := (((found ++ p16 (pfl p more)) ++ p16 p.g) ++ agB p) ++ scOB p.a p.b p.c p.d
theorem addP_len (found : List UInt8) (p : Pa) (more : Bool) : (addP found p more).length <= found.length + 16 := by
 have := agB_len p
 have := scOB_len p.a p.b p.c p.d
 unfold addP
 rw [List.length_append, List.length_append, List.length_append, List.length_append]
 show found.length + 2 + 2 + _ + _ <= _
 lia
section
variable {m : Mem} {k : Nat} {P : D -> Mem -> Prop} {X : Mem -> Prop}
theorem part_init_s {p : Pa} (h : P p.inst m) : wp (rn (k + 1) (.top (nm 64)) [.int p.g, .int p.f, .int p.s, .bool p.mv, p.sc] m) P X := by
 rw [rn_top, q_Partx_initx]
 refine wp_finI (wp_fin (sb_vs _) ?_)
 refine setA_ok (x := 63) (c := 64) (fs := []) (d := .int p.g) get_last rfl (by decide +kernel) rfl ?_
 rw [set_last]
 refine setA_ok (x := 60) (c := 64) (fs := [(63, .int p.g)]) (d := .int p.f) get_last rfl (by decide +kernel) rfl ?_
 rw [set_last]
 refine setA_ok (x := 61) (c := 64) (fs := [(63, .int p.g), (60, .int p.f)]) (d := .int p.s) get_last rfl (by decide +kernel) rfl ?_
 rw [set_last]
 refine setA_ok (x := 59) (c := 64) (fs := [(63, .int p.g), (60, .int p.f), (61, .int p.s)]) (d := .bool p.mv) get_last rfl (by decide +kernel) rfl ?_
 rw [set_last]
 refine setA_ok (x := 19) (c := 64) (fs := [(63, .int p.g), (60, .int p.f), (61, .int p.s), (59, .bool p.mv)]) (d := p.sc) get_last rfl (by decide +kernel) rfl ?_
 rw [set_last]
 exact init_end (a := .none) rfl h
theorem part_row_s {p : Pa} (h : P p.row m) : wp (rn (k + 1) (.meth (nm 64) (nm 120)) [p.inst] m) P X := by
 refine mth0 (q_Part_row _ _ _) ?_
 refine a_g ?_
 refine a_f ?_
 refine a_s ?_
 refine a_mv ?_
 exact a_sc (And.intro rfl h)
theorem scale_octets_s {a b c d : Int} (hs : isSc a b c d) (h : P (.tup [.int (scOF a b c d), .bytes (scOB a b c d)]) m) : wp (rn (k + 2) (.top (nm 84)) [.tup [.int a, .int b, .int c, .int d]] m) P X := by
 refine top0 (q_scale_octets _ _ _) ?_
 have l4 : 4 <= cap := by decide
 rcases hs with ⟨rfl, rfl, rfl, rfl⟩ | ⟨rfl, rfl, rfl, rfl⟩ | ⟨rfl, rfl, rfl, rfl⟩ | ⟨rfl, rfl, rfl, rfl⟩ | ⟨rfl, rfl, rfl, rfl⟩
 ·refine eqt (c := true) (by decide +kernel) ?_
  exact And.intro rfl h
 ·refine eqt (c := false) (by decide +kernel) ?_
  refine eqt (c := true) (by decide +kernel) ?_
  exact put16_s (And.intro rfl h)
 ·refine eqt (c := false) (by decide +kernel) ?_
  refine eqt (c := true) (by decide +kernel) ?_
  refine eqt (c := true) (by decide +kernel) ?_
  refine put16_s ?_
  refine put16_s ?_
  exact And.intro l4 (And.intro rfl h)
 ·refine eqt (c := false) (by decide +kernel) ?_
  refine eqt (c := false) (by decide +kernel) ?_
  refine eqt (c := false) (by decide +kernel) ?_
  refine put16_s ?_
  refine put16_s ?_
  refine And.intro l4 ?_
  refine put16_s ?_
  refine And.intro (by decide) ?_
  refine put16_s ?_
  refine And.intro (by decide) ?_
  exact And.intro rfl h
 ·refine eqt (c := false) (by decide +kernel) ?_
  refine eqt (c := true) (by decide +kernel) ?_
  refine eqt (c := true) (by decide +kernel) ?_
  refine put16_s ?_
  refine put16_s ?_
  exact And.intro l4 (And.intro rfl h)
theorem argument_octets_s {p : Pa} (hp : okPa p) (h : P (.tup [.int (agF p), .bytes (agB p)]) m) : wp (rn (k + 2) (.top (nm 85)) [p.inst] m) P X := by
 refine top0 (q_argument_octets _ _ _) ?_
 refine a_f ?_
 refine a_s ?_
 refine a_mv ?_
 unfold agF agB at h
 refine cbo (fun c => ?_) fun c => ?_
 ·rw [c] at h
  have big : small p = false -> P (.tup [.int 3, .bytes (p16 p.f ++ p16 p.s)]) m := fun e => by rw [e] at h; exact h
  have l4 : 4 <= cap := by decide
  unfold small at big
  refine csp (fun h1 => ?_) fun h1 => put16_s (put16_s (And.intro l4 (And.intro rfl (big (by rw [decide_eq_false h1]; rfl)))))
  refine csp (fun h2 => ?_) fun h2 => put16_s (put16_s (And.intro l4 (And.intro rfl (big (by rw [decide_eq_false h2, Bool.and_false]; rfl)))))
  refine csp (fun h3 => ?_) fun h3 => put16_s (put16_s (And.intro l4 (And.intro rfl (big (by rw [decide_eq_false h3, Bool.and_false]; rfl)))))
  refine csp (fun h4 => ?_) fun h4 => put16_s (put16_s (And.intro l4 (And.intro rfl (big (by rw [decide_eq_false h4, Bool.and_false])))))
  have e : small p = true := by unfold small; rw [decide_eq_true h1, decide_eq_true h2, decide_eq_true h3, decide_eq_true h4]; rfl
  rw [e] at h
  exact And.intro (m256 _) (And.intro (m256 _) (And.intro rfl h))
 ·rw [c] at h
  obtain ⟨⟨s1, s2⟩, s3, s4⟩ := hp.pt c
  refine ct s1 (ct s2 (ct s3 (ct s4 ?_)))
  exact And.intro ⟨s1, s2⟩ (And.intro ⟨s3, s4⟩ (And.intro rfl h))
theorem box_cat {a : List UInt8} (h : a.length = 8) : (p16 (-1) ++ a).length = 10 := by rw [List.length_append, h]; rfl
theorem range_at {n i : Nat} {pre suf : List Nat} (e : List.range n = pre ++ i :: suf) : i = pre.length /\ i < n := by
 have h : (List.range n)[pre.length]? = some i := by rw [e, List.getElem?_append_right (Nat.le_refl _), Nat.sub_self]; rfl
 obtain ⟨hl, h⟩ := List.getElem?_eq_some_iff.mp h
 rw [List.length_range] at hl
 rw [List.getElem_range] at h
 exact ⟨h.symm, h ▸ hl⟩
noncomputable def accB (ps : List Pa) (hdr : List UInt8) : Nat -> List UInt8
 | 0 => hdr
 | k + 1 => match ps[k]? with
  | some p => addP (accB ps hdr k) p (decide (k + 1 < ps.length))
  | none => accB ps hdr k
theorem accB_succ {ps : List Pa} {hdr : List UInt8} {k : Nat} {p : Pa} (h : ps[k]? = some p) : accB ps hdr (k + 1) = addP (accB ps hdr k) p (decide (k + 1 < ps.length)) := by
 show (match ps[k]? with | some p => _ | none => _) = _
 rw [h]
theorem accB_len (ps : List Pa) (hdr : List UInt8) : ∀ k, (accB ps hdr k).length <= hdr.length + 16 * k
 | 0 => Nat.le_refl _
 | k + 1 => by
  have ih := accB_len ps hdr k
  show (match ps[k]? with | some p => _ | none => _ : List UInt8).length <= _
  split
  ·have := addP_len (accB ps hdr k)
   exact Nat.le_trans (this _ _) (Nat.le_trans (Nat.add_le_add_right ih 16) (Nat.le_of_eq (Nat.add_assoc ..)))
  ·exact Nat.le_trans ih (Nat.add_le_add_left (Nat.mul_le_mul_left _ (Nat.le_succ _)) _)
theorem composite_s {ps : List Pa} (hp : ∀ p ∈ ps, okPa p) (hne : ps ≠ []) (hl : ps.length <= 50) (h : ∀ bx, bx.length = 8 -> P (.bytes (accB ps (p16 (-1) ++ bx) ps.length)) m) : wp (rn (k + 3) (.top (nm 90)) [.lst (ps.map Pa.inst), .tup [.int 0, .int 0, .int 1, .int 1]] m) P X := by
 refine top0 (q_composite_octets_2 _ _ _ _) ?_
 refine eqNil hne ?_
 refine put16_s ?_
 refine box_octets_s fun bx hbx => ?_
 refine And.intro (by rw [hbx]; decide) ?_
 have lm : (ps.map Pa.inst).length = ps.length := List.length_map _
 refine And.intro ⟨Int.natCast_nonneg _, by show _ <= (65536 : Int); lia⟩ (And.intro (by show (ps.map Pa.inst).length <= 65536; lia) ?_)
 have hb : (p16 (-1) ++ bx).length = 10 := box_cat hbx
 refine lp_ty (List.range (ps.map Pa.inst).length) (fun i => D.int (i : Nat)) (fun pre => [(86, .lst (ps.map Pa.inst)), (0, .bytes (accB ps (p16 (-1) ++ bx) pre.length)), (47, .bytes [])]) (fun _ => m) ⟨rfl, rfl, rfl, trivial⟩ rfl (fun pre i suf N' e hN => ?_) ?_
 ·obtain ⟨ei, hi⟩ := range_at e
  rw [lm] at hi
  obtain ⟨p, hg⟩ : ∃ p, ps[i]? = some p := ⟨ps[i], List.getElem?_eq_getElem hi⟩
  have hgm : (ps.map Pa.inst)[i]? = some p.inst := by rw [List.getElem?_map, hg]; rfl
  have hok := hp _ (List.mem_of_getElem? hg)
  have hag := agB_len p
  have hsc := scOB_len p.a p.b p.c p.d
  have hac : (accB ps (p16 (-1) ++ bx) pre.length).length <= 1000 := Nat.le_trans (accB_len ..) (by rw [hb]; lia)
  have hN : ∀ c l2, decide ((i : Int) + 1 < (ps.map Pa.inst).length) = c -> l2 86 = some (.lst (ps.map Pa.inst)) -> l2 0 = some (.bytes (addP (accB ps (p16 (-1) ++ bx) pre.length) p c)) -> l2 47 = some (.bytes []) -> N' l2 m := fun c l2 hc h1 h2 h3 => by
   have e2 : decide (pre.length + 1 < ps.length) = c := by rw [<- hc, lm, <- ei]; exact decide_eq_decide.mpr (by lia)
   refine hN _ _ ⟨h1, ?_, h3, trivial⟩ rfl
   rw [List.length_append, show pre.length + [i].length = pre.length + 1 from rfl, accB_succ (ei ▸ hg), e2]; exact h2
  generalize accB ps (p16 (-1) ++ bx) pre.length = acc at hN hac
  refine oL i rfl hgm ?_
  refine argument_octets_s hok ?_
  refine oL i rfl hgm ?_
  refine a_sc ?_
  refine scale_octets_s hok.sc ?_
  have z1 : acc.length + 2 <= cap := by show _ <= 65536; lia
  have z2 : (acc ++ p16 0).length + 2 <= cap := by rw [List.length_append]; show _ + 2 + 2 <= 65536; lia
  have z3 : ((acc ++ p16 0) ++ p16 0).length + (agB p).length <= cap := by rw [List.length_append, List.length_append]; show _ + 2 + 2 + _ <= 65536; lia
  have z4 : (((acc ++ p16 0) ++ p16 0) ++ agB p).length + (scOB p.a p.b p.c p.d).length <= cap := by rw [List.length_append, List.length_append, List.length_append]; show _ + 2 + 2 + _ + _ <= 65536; lia
  have l0 : ∀ x y : Int, (acc ++ p16 x).length = (acc ++ p16 y).length := fun x y => by rw [List.length_append, List.length_append]; rfl
  have l1 : ∀ x y z w : Int, ((acc ++ p16 x) ++ p16 z).length = ((acc ++ p16 y) ++ p16 w).length := fun x y z w => by rw [List.length_append, List.length_append (bs := p16 w), l0 x y]; rfl
  have l2 : ∀ x y z w : Int, (((acc ++ p16 x) ++ p16 z) ++ agB p).length = (((acc ++ p16 y) ++ p16 w) ++ agB p).length := fun x y z w => by rw [List.length_append, List.length_append (bs := agB p), l1 x y z w]
  refine cbo (fun c => ?_) fun c => ?_
  ·refine put16_s ?_
   refine And.intro z1 ?_
   refine oL i rfl hgm ?_
   refine a_g ?_
   refine put16_s ?_
   refine And.intro (by rw [l0 _ 0]; exact z2) ?_
   refine And.intro (by rw [l1 _ 0 _ 0]; exact z3) ?_
   refine And.intro (by rw [l2 _ 0 _ 0]; exact z4) ?_
   exact hN true _ c rfl rfl rfl
  ·refine put16_s ?_
   refine And.intro z1 ?_
   refine oL i rfl hgm ?_
   refine a_g ?_
   refine put16_s ?_
   refine And.intro (by rw [l0 _ 0]; exact z2) ?_
   refine And.intro (by rw [l1 _ 0 _ 0]; exact z3) ?_
   refine And.intro (by rw [l2 _ 0 _ 0]; exact z4) ?_
   exact hN false _ c rfl rfl rfl
 ·refine And.intro rfl ?_
  have h := h bx hbx
  rw [<- lm, <- List.length_range (n := (ps.map Pa.inst).length)] at h
  exact h
theorem law_octets_s {ps : List Pa} (hp : ∀ p ∈ ps, okPa p) (hne : ps ≠ []) (hl : ps.length <= 50) (h : ∀ bx, bx.length = 8 -> P (.bytes (accB ps (p16 (-1) ++ bx) ps.length)) m) : wp (rn (k + 4) (.top (nm 114)) [.lst (ps.map Pa.row)] m) P X := by
 refine top0 (q_law_octets _ _ _) ?_
 refine And.intro (by rw [List.length_map]; show _ <= 65536; lia) ⟨_, all2_map (g := Pa.inst) fun p _ => part_init_s (And.intro rfl rfl), ?_⟩
 exact composite_s hp hne hl fun bx hb => And.intro rfl (h bx hb)
end
theorem pf_all : ∀ a ∈ [(0 : Int), 2, 3], ∀ s ∈ [(0 : Int), 8, 64, 128], ∀ t ∈ [(0 : Int), 32], ∀ f ∈ [if t = 32 then Builtin.bitOr (Builtin.bitOr a s) 32 else Builtin.bitOr a s],
  (0 <= f /\ f < 65536) /\ (Builtin.bitAnd f 32 = t /\ Builtin.bitAnd f 256 = 0) /\ (Builtin.bitAnd f 2 = if a = 0 then 0 else 2) /\ (Builtin.bitAnd f 1 = if a = 3 then 1 else 0) /\ (Builtin.bitAnd f 8 = if s = 8 then 8 else 0) /\ (Builtin.bitAnd f 64 = if s = 64 then 64 else 0) /\ Builtin.bitAnd f 128 = if s = 128 then 128 else 0 := by decide +kernel
structure Pf (p : Pa) (more : Bool) (f : Int) : Prop where
 rng : 0 <= f /\ f < 65536
 b32 : Builtin.bitAnd f 32 = if more then 32 else 0
 b256 : Builtin.bitAnd f 256 = 0
 b2 : Builtin.bitAnd f 2 = if agF p = 0 then 0 else 2
 b1 : Builtin.bitAnd f 1 = if agF p = 3 then 1 else 0
 b8 : Builtin.bitAnd f 8 = if scOF p.a p.b p.c p.d = 8 then 8 else 0
 b64 : Builtin.bitAnd f 64 = if scOF p.a p.b p.c p.d = 64 then 64 else 0
 b128 : Builtin.bitAnd f 128 = if scOF p.a p.b p.c p.d = 128 then 128 else 0
theorem agF_in (p : Pa) : agF p ∈ [(0 : Int), 2, 3] := by
 unfold agF
 split
 ·split
  ·exact .tail _ (.head _)
  ·exact .tail _ (.tail _ (.head _))
 ·exact .head _
theorem scOF_in (a b c d : Int) : scOF a b c d ∈ [(0 : Int), 8, 64, 128] := by
 unfold scOF
 split
 ·exact .head _
 split
 ·exact .tail _ (.head _)
 split
 ·exact .tail _ (.tail _ (.head _))
 ·exact .tail _ (.tail _ (.tail _ (.head _)))
theorem pf_ok (p : Pa) (more : Bool) : Pf p more (pfl p more) := by
 induction more with
 | true => have ⟨a, ⟨b, c⟩, d, e, f, g, h⟩ := pf_all _ (agF_in p) _ (scOF_in p.a p.b p.c p.d) 32 (.tail _ (.head _)) _ (.head _); exact ⟨a, b, c, d, e, f, g, h⟩
 | false => have ⟨a, ⟨b, c⟩, d, e, f, g, h⟩ := pf_all _ (agF_in p) _ (scOF_in p.a p.b p.c p.d) 0 (.head _) _ (.head _); exact ⟨a, b, c, d, e, f, g, h⟩
theorem w16 {i : Int} (h : 0 <= i /\ i < 65536) : i % 65536 = i := Int.emod_eq_of_lt h.1 h.2
theorem sb_of {i : Int} (h : -128 <= i /\ i < 128) : (if 128 <= i % 256 then i % 256 - 256 else i % 256) = i := by split <;> lia
section
variable {m : Mem} {k o : Nat} {P : D -> Mem -> Prop} {X : Mem -> Prop} {b r : List UInt8} {f : Int} {p : Pa} {more : Bool}
theorem set2 {c d : Cell} : (m.set o c).set o d = m.set o d := List.set_set ..
theorem set3 {c d e : Cell} : ((m.set o c).set o d).set o e = m.set o e := by rw [set2, set2]
theorem set4 {c d e g : Cell} : (((m.set o c).set o d).set o e).set o g = m.set o g := by rw [set3, set2]
theorem n0 {A B : Prop} {i j : Int} (h : i = j) (hj : j ≠ 0) (a : A) : cond (!decide (i = 0)) A B := nct (h ▸ hj) a
theorem e0 {A B : Prop} {i : Int} (h : i = 0) (a : B) : cond (!decide (i = 0)) A B := ncf h a
theorem tk2 {c d : Cell} : ((m.set o c).set o d).take m.length = m.set o d := by rw [set2, take_set]
theorem tk4 {c d e g : Cell} : ((((m.set o c).set o d).set o e).set o g).take m.length = m.set o g := by rw [set4, take_set]
theorem set_id {c : Cell} (h : m[o]? = some c) : m.set o c = m := by
 obtain ⟨hl, e⟩ := List.getElem?_eq_some_iff.mp h
 rw [<- e, List.set_getElem_self]
theorem tk0 (R : Rd m o b r) : m.take m.length = m.set o (ocr b r) := by rw [List.take_length, set_id R.at_]
theorem read_scale_s (hs : isSc p.a p.b p.c p.d) (F : Pf p more f) (R : Rd m o b (scOB p.a p.b p.c p.d ++ r)) (h : P p.sc (m.set o (ocr b r))) : wp (rn (k + 4) (.top (nm 57)) [.cell o, .int f] m) P X := by
 have h8 := F.b8
 have h64 := F.b64
 have h128 := F.b128
 unfold Pa.sc at h
 generalize p.a = a, p.b = a2, p.c = a3, p.d = a4 at hs h8 h64 h128 R h
 refine top (q_read_scale _ _ _ _) ?_
 rcases hs with ⟨rfl, rfl, rfl, rfl⟩ | ⟨rfl, rfl, rfl, rfl⟩ | ⟨rfl, rfl, rfl, rfl⟩ | ⟨rfl, rfl, rfl, rfl⟩ | ⟨rfl, rfl, rfl, rfl⟩
 ·refine e0 h8 (e0 h64 (e0 h128 ?_))
  exact pm (tk0 R) h
 ·refine n0 h8 (by decide) ?_
  refine m_signed R.at_ ?_
  refine signed_s (i := 8192) (r := r) R ?_
  exact pm take_set h
 ·refine e0 h8 (n0 h64 (by decide) ?_)
  refine m_signed R.at_ ?_
  refine signed_s (i := -16384) (r := p16 16384 ++ r) R ?_
  have R2 := Rd.next (s := p16 (-16384)) (r := p16 16384 ++ r) R
  refine m_signed R2.at_ ?_
  refine signed_s (i := 16384) (r := r) R2 ?_
  exact pm tk2 h
 ·refine e0 h8 (e0 h64 (n0 h128 (by decide) ?_))
  refine m_signed R.at_ ?_
  refine signed_s (i := 0) (r := p16 16384 ++ (p16 (-16384) ++ (p16 0 ++ r))) R ?_
  have R2 := Rd.next (s := p16 0) (r := p16 16384 ++ (p16 (-16384) ++ (p16 0 ++ r))) R
  refine m_signed R2.at_ ?_
  refine signed_s (i := 16384) (r := p16 (-16384) ++ (p16 0 ++ r)) R2 ?_
  have R3 := R2.next
  refine m_signed R3.at_ ?_
  refine signed_s (i := -16384) (r := p16 0 ++ r) R3 ?_
  have R4 := R3.next
  refine m_signed R4.at_ ?_
  refine signed_s (i := 0) (r := r) R4 ?_
  exact pm tk4 h
 ·refine e0 h8 (n0 h64 (by decide) ?_)
  refine m_signed R.at_ ?_
  refine signed_s (i := 24576) (r := p16 5000 ++ r) R ?_
  have R2 := Rd.next (s := p16 24576) (r := p16 5000 ++ r) R
  refine m_signed R2.at_ ?_
  refine signed_s (i := 5000) (r := r) R2 ?_
  exact pm tk2 h
theorem read_arguments_s (hp : okPa p) (F : Pf p more f) (R : Rd m o b (agB p ++ r)) (h : P (.tup [.int p.f, .int p.s]) (m.set o (ocr b r))) : wp (rn (k + 4) (.top (nm 62)) [.cell o, .int f] m) P X := by
 have h2 := F.b2
 have h1 := F.b1
 refine top (q_read_arguments _ _ _ _) ?_
 have af := hp.f
 have as := hp.s
 cases c : p.mv with
 | true =>
  cases d : small p with
  | true =>
   have ea : agF p = 2 := by unfold agF; rw [c, d]; rfl
   have eb : agB p = [ub (p.f % 256), ub (p.s % 256)] := by unfold agB; rw [c, d]; rfl
   rw [ea] at h1 h2
   rw [eb] at R
   unfold small at d
   simp only [Bool.and_eq_true, decide_eq_true_eq] at d
   refine e0 h1 ?_
   refine m_byte R.at_ ?_
   refine byte_s (r := ub (p.s % 256) :: r) R ?_
   have R2 := Rd.next (s := [ub (p.f % 256)]) R
   refine m_byte R2.at_ ?_
   refine byte_s (r := r) R2 ?_
   refine ctt (c := !decide (Builtin.bitAnd f 2 = 0)) (by rw [h2]; rfl) ?_
   rw [ub_nat (m256 _), ub_nat (m256 _)]
   refine signed_byte_s ?_
   refine signed_byte_s ?_
   rw [sb_of ⟨d.1.1.1, d.1.1.2⟩, sb_of ⟨d.1.2, d.2⟩]
   exact pm tk2 h
  | false =>
   have ea : agF p = 3 := by unfold agF; rw [c, d]; rfl
   have eb : agB p = p16 p.f ++ p16 p.s := by unfold agB; rw [c, d]; rfl
   rw [ea] at h1 h2
   rw [eb] at R
   refine n0 h1 (by decide) ?_
   refine ctt (c := !decide (Builtin.bitAnd f 2 = 0)) (by rw [h2]; rfl) ?_
   have R : Rd m o b (p16 p.f ++ (p16 p.s ++ r)) := R
   refine m_signed R.at_ ?_
   refine signed_s R ?_
   have R2 := R.next
   refine m_signed R2.at_ ?_
   refine signed_s R2 ?_
   rw [sgn_of af, sgn_of as]
   exact pm tk2 h
 | false =>
  have ea : agF p = 0 := by unfold agF; rw [c]; rfl
  have eb : agB p = [ub p.f, ub p.s] := by unfold agB; rw [c]; rfl
  rw [ea] at h1 h2
  rw [eb] at R
  refine e0_2 (hp.pt c) fun s1 s2 => ?_
  refine e0 h1 ?_
  refine m_byte R.at_ ?_
  refine byte_s (r := ub p.s :: r) R ?_
  have R2 := Rd.next (s := [ub p.f]) R
  refine m_byte R2.at_ ?_
  refine byte_s (r := r) R2 ?_
  refine cff (c := !decide (Builtin.bitAnd f 2 = 0)) (by rw [h2]; rfl) ?_
  rw [ub_nat s1, ub_nat s2]
  exact pm tk2 h
end
noncomputable def oneB (p : Pa) (more : Bool) : List UInt8 := p16 (pfl p more) ++ (p16 p.g ++ (agB p ++ scOB p.a p.b p.c p.d))
noncomputable def strB : List Pa -> List UInt8
 | [] => []
 | p :: r => oneB p (!r.isEmpty) ++ strB r
theorem addP_is (acc : List UInt8) (p : Pa) (more : Bool) : addP acc p more = acc ++ oneB p more := by
 unfold addP oneB
 rw [List.append_assoc, List.append_assoc, List.append_assoc]
theorem accB_is {ps : List Pa} {hdr : List UInt8} : ∀ k, k <= ps.length -> accB ps hdr k ++ strB (ps.drop k) = hdr ++ strB ps
 | 0, _ => rfl
 | k + 1, hk => by
  have hg : ps[k]? = some ps[k] := List.getElem?_eq_getElem hk
  rw [<- accB_is k (Nat.le_of_succ_le hk), accB_succ hg, addP_is, List.append_assoc, List.drop_eq_getElem_cons hk]
  have e : decide (k + 1 < ps.length) = !(ps.drop (k + 1)).isEmpty := by
   cases h : ps.drop (k + 1) with
   | nil => exact decide_eq_false (Nat.not_lt_of_le (List.drop_eq_nil_iff.mp h))
   | cons a r => exact decide_eq_true (Nat.lt_of_not_le fun c => by rw [List.drop_of_length_le c] at h; exact nomatch h)
  rw [e]; rfl
theorem accB_all (ps : List Pa) (hdr : List UInt8) : accB ps hdr ps.length = hdr ++ strB ps := by
 have := accB_is (ps := ps) (hdr := hdr) ps.length (Nat.le_refl _)
 rw [List.drop_length] at this
 exact (List.append_nil _).symm.trans this
section
variable {m : Mem} {k o : Nat} {P : D -> Mem -> Prop} {X : Mem -> Prop} {b r : List UInt8} {f : Int} {p : Pa} {more : Bool}
theorem fo_get {c d : Cell} (ho : o < m.length) : ((m ++ [c]).set o d)[m.length]? = some c := by
 rw [List.getElem?_set_ne (Nat.ne_of_lt ho)]; exact get_last
theorem fo_set {c d e : Cell} (ho : o < m.length) : ((m ++ [c]).set o d).set m.length e = (m ++ [e]).set o d := by
 rw [List.set_comm _ _ (Nat.ne_of_lt ho), set_last]
theorem fo_rd {c : Cell} {y : List UInt8} (ho : o < m.length) (hy : y <:+ b) : Rd ((m ++ [c]).set o (ocr b y)) o b y :=
 ⟨List.getElem?_set_self (by rw [List.length_append]; exact Nat.lt_add_right _ ho), hy⟩
theorem Rd.lt {x : List UInt8} (R : Rd m o b x) : o < m.length := (List.getElem?_eq_some_iff.mp R.at_).1
theorem fz_tc {i n : Nat} {ds : List D} {d : D} {Q : D -> Prop} (e : m[i]? = some (.lst ds)) (hn : n <= i) (hd : freeze m n d = some d) (h : Q (.tup [.lst ds, d])) : ops (freeze m n (.tup [.cell i, d])) Q := by
 have h1 : freeze m n (.cell i) = some (.lst ds) := by
  show (if i < n then some (D.cell i) else match m[i]? with | some (.lst ds) => some (.lst ds) | _ => none) = _
  rw [if_neg (Nat.not_lt_of_le hn), e]
 refine ops_some (a := .tup [.lst ds, d]) ?_ h
 show (match freeze m n (.cell i), (match freeze m n d, some [] with | some d, some ds => some (d :: ds) | _, _ => none : Option (List D)) with | some d, some ds => some (d :: ds) | _, _ => none : Option (List D)).map D.tup = _
 rw [h1, hd]; rfl
theorem part_init_q {v : Bool} (e : v = p.mv) (h : P p.inst m) : wp (rn (k + 1) (.top (nm 64)) [.int p.g, .int p.f, .int p.s, .bool v, p.sc] m) P X := by
 rw [e]; exact part_init_s h
theorem mv_of (F : Pf p more f) : (!decide (Builtin.bitAnd f 2 = 0)) = p.mv := by
 rw [F.b2]
 unfold agF
 cases p.mv with
 | true => cases small p <;> rfl
 | false => rfl
structure Ps where
 fin : List Pa
 rest : List Pa
 f : Int
theorem read_parts_s {ps : List Pa} (hp : ∀ p ∈ ps, okPa p) (hl : ps.length <= 50) (R : Rd m o b (strB ps ++ r)) (hne : ps ≠ []) (h : P (.tup [.lst (ps.map Pa.inst), .bytes []]) (m.set o (ocr b r))) : wp (rn (k + 5) (.top (nm 65)) [.cell o] m) P X := by
 have ho := R.lt
 have hsuf : ∀ y, y <:+ strB ps ++ r -> y <:+ b := fun y hy => hy.trans R.suf
 refine top (q_read_parts _ _ _) ?_
 refine wh_ty (σ := Ps) (fun s => ps = s.fin ++ s.rest /\ Builtin.bitAnd s.f 32 = (if !s.rest.isEmpty then 32 else 0) /\ (s.rest = [] -> Builtin.bitAnd s.f 256 = 0) /\ strB s.rest ++ r <:+ b) (fun s => s.rest.length) (fun s => [(22, .cell o), (0, .cell m.length), (39, .int s.f)])
  (fun s => (m ++ [Cell.lst (s.fin.map Pa.inst)]).set o (ocr b (strB s.rest ++ r))) ⟨[], ps, 32⟩ (by show ps.length < 64; lia) ⟨rfl, ?_, fun e => absurd e hne, R.suf⟩ ⟨rfl, rfl, rfl, trivial⟩ ?_ fun ⟨dn, rest, f⟩ N' ⟨hps, hf, hf2, hsf⟩ hN => ?_
 ·induction ps using List.casesOn with
  | nil => exact absurd rfl hne
  | cons _ _ => exact (by decide +kernel : Builtin.bitAnd 32 32 = 32)
 ·exact set_id (get_old R.at_)
 ·have hps : ps = dn ++ rest := hps
  have hf : Builtin.bitAnd f 32 = (if !rest.isEmpty then 32 else 0) := hf
  have hf2 : rest = [] -> Builtin.bitAnd f 256 = 0 := hf2
  have hsf : strB rest ++ r <:+ b := hsf
  induction rest using List.casesOn with
  | nil =>
   refine e0 hf (e0 (hf2 rfl) ?_)
   refine fz_tc (fo_get ho) (Nat.le_refl _) rfl ?_
   rw [List.append_nil] at hps
   rw [hps] at h
   exact pm take_set_app h
  | cons p rest =>
   have R1 : Rd ((m ++ [Cell.lst (dn.map Pa.inst)]).set o (ocr b (strB (p :: rest) ++ r))) o b (p16 (pfl p (!rest.isEmpty)) ++ (p16 p.g ++ (agB p ++ (scOB p.a p.b p.c p.d ++ (strB rest ++ r))))) := by
    have e : strB (p :: rest) ++ r = p16 (pfl p (!rest.isEmpty)) ++ (p16 p.g ++ (agB p ++ (scOB p.a p.b p.c p.d ++ (strB rest ++ r)))) := by
     show (oneB p _ ++ strB rest) ++ r = _
     unfold oneB
     rw [List.append_assoc, List.append_assoc, List.append_assoc, List.append_assoc]
    rw [e] at hsf
    rw [e]
    exact fo_rd ho hsf
   have hok : okPa p := hp p (by rw [hps]; exact List.mem_append_right _ (List.mem_cons_self ..))
   have F := pf_ok p (!rest.isEmpty)
   refine n0 hf (show (32 : Int) ≠ 0 by decide) ?_
   refine m_word R1.at_ ?_
   refine word_s R1 ?_
   rw [w16 F.rng]
   have R2 := R1.next
   refine m_word R2.at_ ?_
   refine word_s R2 ?_
   rw [w16 hok.g]
   have R3 := R2.next
   refine read_arguments_s hok F R3 ?_
   have R4 := R3.next
   have g4 : ∀ c0 c1 c2 c3 : Cell, (((((m ++ [Cell.lst (dn.map Pa.inst)]).set o c0).set o c1).set o c2).set o c3)[m.length]? = some (.lst (dn.map Pa.inst)) := fun c0 c1 c2 c3 => by
    rw [set4]; exact fo_get ho
   refine And.intro ⟨_, g4 _ _ _ _⟩ ?_
   refine read_scale_s hok.sc F R4 ?_
   refine part_init_q (mv_of F) ?_
   refine app_ok (by rw [set2]; exact g4 _ _ _ _) rfl (by rw [List.length_map]; have := congrArg List.length hps; rw [List.length_append] at this; lia) ?_
   refine hN ⟨dn ++ [p], rest, pfl p (!rest.isEmpty)⟩ _ _ (Nat.lt_succ_self _) ⟨by rw [hps, List.append_assoc]; rfl, F.b32, fun e => F.b256, R4.next.suf⟩ ⟨rfl, rfl, rfl, trivial⟩ ?_
   rw [set2, set4, fo_set ho, List.map_append]; rfl
end
section
variable {m : Mem} {k o : Nat} {P : D -> Mem -> Prop} {X : Mem -> Prop} {b r : List UInt8}
theorem read_ends_s {e : Int} (he : 0 <= e /\ e < 65536) (R : Rd m o b (p16 e ++ r)) (h : P (.lst [.int e]) (m.set o (ocr b r))) : wp (rn (k + 3) (.top (nm 46)) [.cell o, .int 1] m) P X := by
 have ho := R.lt
 refine top (q_read_ends _ _ _ _) ?_
 refine And.intro ⟨by decide, by decide⟩ (And.intro (by decide) (.inr (lpc ?_)))
 have R1 : Rd (m ++ [Cell.lst []]) o b (p16 e ++ r) := R.old
 refine m_word R1.at_ ?_
 refine word_s R1 ?_
 rw [w16 he]
 have g : ((m ++ [Cell.lst []]).set o (ocr b r))[m.length]? = some (.lst []) := fo_get ho
 refine eqo (c := true) ?_ ?_
 ·show eqD (match ((m ++ [Cell.lst []]).set o (ocr b r))[m.length]? with | some (.lst ds) => .lst ds | _ => _) _ = _
  rw [g]
  show eqD (.lst []) (.lst []) = _
  decide +kernel
 refine cf (by lia) ?_
 refine And.intro ⟨_, g⟩ (app_ok g rfl (by decide) ?_)
 rw [fo_set ho]
 refine lp0 ?_
 exact fzC (fo_get ho) (Nat.le_refl _) (pm take_set_app h)
inductive Fl2 : List Int -> List Int -> Prop
 | nil : Fl2 [] []
 | cons {f g : Int} {fs gs : List Int} : (∀ b ∈ [(1 : Int), 2, 4, 16, 32], Builtin.bitAnd g b = Builtin.bitAnd f b) -> Fl2 fs gs -> Fl2 (f :: fs) (g :: gs)
theorem Fl2.reps {f g : Int} (h : ∀ b ∈ [(1 : Int), 2, 4, 16, 32], Builtin.bitAnd g b = Builtin.bitAnd f b) {fs gs : List Int} (r : Fl2 fs gs) : ∀ n, Fl2 (List.replicate n f ++ fs) (List.replicate n g ++ gs)
 | 0 => r
 | n + 1 => .cons h (Fl2.reps h r n)
theorem RFl.fl2 {bs : List UInt8} {F G : List Int} (h : RFl bs F G) (hF : ∀ f ∈ F, okF f) : Fl2 F G := by
 induction h with
 | nil => exact .nil
 | one _ ih => exact .cons (fun _ _ => rfl) (ih fun f hf => hF f (List.mem_cons_of_mem _ hf))
 | rep h1 _ _ ih =>
  refine e0_3 (hF _ (List.mem_append_left _ (List.mem_replicate.mpr ⟨Nat.ne_of_gt (Nat.lt_trans Nat.two_pos h1), rfl⟩))) fun h0 h2 _ => ?_
  exact Fl2.reps (bits8 h0 h2).2.2.2 (ih fun f hf => hF f (List.mem_append_right _ hf)) _
structure Fr where
 fin : List Int
 bs : List UInt8
 F : List Int
 G : List Int
theorem read_flags_s {bs : List UInt8} {F G : List Int} {n : Int} (hr : RFl bs F G) (hF : ∀ f ∈ F, okF f) (hl : F.length <= 50) (hn : n = F.length) (R : Rd m o b (bs ++ r)) (h : P (.lst (G.map D.int)) (m.set o (ocr b r))) : wp (rn (k + 3) (.top (nm 38)) [.cell o, .int n] m) P X := by
 have lG := hr.len
 refine top (q_read_flags _ _ _ _) ?_
 refine wh_ty (σ := Fr) (fun s => G = s.fin ++ s.G /\ RFl s.bs s.F s.G /\ (∀ f ∈ s.F, okF f) /\ s.bs ++ r <:+ b) (fun s => s.bs.length) (fun s => [(22, .cell o), (32, .int n), (0, .lst (s.fin.map D.int))])
  (fun s => m.set o (ocr b (s.bs ++ r))) ⟨[], bs, F, G⟩ (by show bs.length < 64; lia) ⟨rfl, hr, hF, R.suf⟩ ⟨rfl, rfl, rfl, trivial⟩ (set_id R.at_) fun s N' hs hN => ?_
 obtain ⟨dn, bs, F', G'⟩ := s
 obtain ⟨e, hr2, hF', hs⟩ : G = dn ++ G' /\ RFl bs F' G' /\ (∀ f ∈ F', okF f) /\ bs ++ r <:+ b := hs
 have le := congrArg List.length e
 rw [List.length_append] at le
 have ld : (dn.map D.int).length = dn.length := List.length_map _
 have R1 : Rd (m.set o (ocr b (bs ++ r))) o b (bs ++ r) := ⟨get_set R.at_, hs⟩
 induction hr2 using Mine.RFl.casesOn with
 | nil =>
  refine cf (by rw [ld, hn]; simp at le; lia) ?_
  refine cf (by rw [ld, hn]; simp at le; lia) ?_
  rw [List.append_nil] at e
  rw [e] at h
  exact fz (plain_ints dn) (pm take_set h)
 | @one f bs F' G' hr' =>
  refine e0_3 (hF' f (List.mem_cons_self ..)) fun f0 f1 f8 => ?_
  refine ct (by rw [ld, hn]; simp at le; lia) ?_
  refine m_byte R1.at_ ?_
  refine byte_s (r := bs ++ r) R1 ?_
  rw [ub_nat ⟨f0, by lia⟩]
  refine e0 f8 ?_
  refine And.intro ⟨by show 1 <= 16; decide, by decide, by decide⟩ ?_
  refine And.intro (by rw [ld]; show _ + 1 <= 65536; simp at le; lia) ?_
  exact hN ⟨dn ++ [f], bs, F', G'⟩ _ _ (Nat.lt_succ_self _) ⟨by rw [e, List.append_assoc]; rfl, hr', fun g hg => hF' g (List.mem_cons_of_mem _ hg), (Rd.next (s := [ub f]) R1).suf⟩ ⟨rfl, rfl, by rw [List.map_append]; rfl, trivial⟩ set2
 | @rep f n2 bs F' G' h1 h2 hr' =>
  refine e0_3 (hF' f (List.mem_append_left _ (List.mem_replicate.mpr ⟨by lia, rfl⟩))) fun f0 f1 f8 => ?_
  refine e0_4 (bits8 f0 f1) fun g0 g1 g8 _ => ?_
  rw [List.length_append, List.length_replicate] at le
  refine ct (by rw [ld, hn]; lia) ?_
  refine m_byte R1.at_ ?_
  refine byte_s (r := ub ((n2 : Int) - 1) :: (bs ++ r)) R1 ?_
  rw [ub_nat ⟨g0, by lia⟩]
  refine nct g8 ?_
  have R2 := Rd.next (s := [ub (Builtin.bitOr f 8)]) R1
  refine m_byte R2.at_ ?_
  refine byte_s (r := bs ++ r) R2 ?_
  rw [ub_nat ⟨by lia, by lia⟩]
  have lf : (List.replicate ((1 : Int) + ((n2 : Int) - 1)).toNat [D.int (Builtin.bitOr f 8)]).flatten = (List.replicate n2 (Builtin.bitOr f 8)).map D.int := by
   rw [List.map_replicate, show ((1 : Int) + ((n2 : Int) - 1)).toNat = n2 by lia]
   exact List.flatten_replicate_singleton
  refine And.intro ⟨by show 1 <= 16; decide, by lia, by show _ <= (65536 : Int); lia⟩ ?_
  refine And.intro (by rw [ld, lf, List.length_map, List.length_replicate]; show _ <= 65536; lia) ?_
  exact hN ⟨dn ++ List.replicate n2 (Builtin.bitOr f 8), bs, F', G'⟩ _ _ (Nat.lt_succ_of_lt (Nat.lt_succ_self _)) ⟨by rw [e, List.append_assoc], hr', fun g hg => hF' g (List.mem_append_right _ hg), (Rd.next (s := [ub ((n2 : Int) - 1)]) R2).suf⟩ ⟨rfl, rfl, by rw [List.map_append, <- lf]; rfl, trivial⟩ set3
noncomputable def dB : Int -> List Int -> List UInt8
 | _, [] => []
 | x, v :: r => axB (v - x) ++ dB v r
theorem acrossOf_is : ∀ x pts, acrossOf x pts = dB x (pts.map fun p => p.1)
 | _, [] => rfl
 | _, p :: r => congrArg (_ ++ ·) (acrossOf_is _ r)
theorem upOf_is : ∀ x pts, upOf x pts = dB x (pts.map fun p => p.2.1)
 | _, [] => rfl
 | _, p :: r => congrArg (_ ++ ·) (upOf_is _ r)
noncomputable def lastI : Int -> List Int -> Int
 | x, [] => x
 | _, v :: r => lastI v r
theorem lastI_app (v : Int) : ∀ r x, lastI x (r ++ [v]) = v
 | [], _ => rfl
 | _ :: r, _ => lastI_app v r _
inductive FRel (short same : Int) : Int -> List (Int × Int) -> Prop
 | nil {x : Int} : FRel short same x []
 | cons {x g v : Int} {L : List (Int × Int)} : Builtin.bitAnd g short = Builtin.bitAnd (axF (v - x) short same) short -> Builtin.bitAnd g same = Builtin.bitAnd (axF (v - x) short same) same -> (-32768 <= v - x /\ v - x < 32768) -> FRel short same v L -> FRel short same x ((g, v) :: L)
theorem FRel.at_ {short same : Int} : ∀ {pre : List (Int × Int)} {x g v : Int} {suf : List (Int × Int)}, FRel short same x (pre ++ (g, v) :: suf) -> Builtin.bitAnd g short = Builtin.bitAnd (axF (v - lastI x (pre.map (·.2))) short same) short /\ Builtin.bitAnd g same = Builtin.bitAnd (axF (v - lastI x (pre.map (·.2))) short same) same /\ -32768 <= v - lastI x (pre.map (·.2)) /\ v - lastI x (pre.map (·.2)) < 32768
 | [], _, _, _, _, h => by cases h with | cons a b c _ => exact ⟨a, b, c⟩
 | _ :: pre, _, _, _, _, h => by cases h with | cons _ _ _ r => exact FRel.at_ (pre := pre) r
theorem ax_bits : ∀ q ∈ [((2 : Int), (16 : Int)), (4, 32)], (Builtin.bitAnd q.2 q.1 = 0 /\ Builtin.bitAnd q.2 q.2 ≠ 0) /\ (Builtin.bitAnd (Builtin.bitOr q.1 q.2) q.1 ≠ 0 /\ Builtin.bitAnd (Builtin.bitOr q.1 q.2) q.2 ≠ 0) /\ (Builtin.bitAnd q.1 q.1 ≠ 0 /\ Builtin.bitAnd q.1 q.2 = 0) /\ Builtin.bitAnd 0 q.1 = 0 /\ Builtin.bitAnd 0 q.2 = 0 := by decide +kernel
theorem read_deltas_s {L : List (Int × Int)} {short same : Int} (hq : (short, same) ∈ [((2 : Int), (16 : Int)), (4, 32)]) (hL : FRel short same 0 L) (hl : L.length <= 50) (R : Rd m o b (dB 0 (L.map (·.2)) ++ r)) (h : P (.lst ((L.map (·.2)).map D.int)) (m.set o (ocr b r))) : wp (rn (k + 4) (.top (nm 44)) [.cell o, .lst (L.map fun x => .int x.1), .int short, .int same] m) P X := by
 have ho := R.lt
 refine top (q_read_deltas _ _ _ _ _ _) ?_
 refine And.intro (by rw [List.length_map]; show _ <= 65536; lia) ?_
 refine lp_ty L (fun x => .int x.1) (fun pre => [(22, .cell o), (40, .int short), (42, .int same), (0, .cell m.length), (21, .int (lastI 0 (pre.map (·.2))))])
  (fun pre => (m ++ [Cell.lst ((pre.map (·.2)).map D.int)]).set o (ocr b (dB (lastI 0 (pre.map (·.2))) ((L.drop pre.length).map (·.2)) ++ r))) ⟨rfl, rfl, rfl, rfl, rfl, trivial⟩ (set_id (get_old R.at_)) (fun pre x suf N' e hN => ?_) ?_
 ·obtain ⟨gf, v⟩ := x
  rw [e] at hL
  refine e0_4 hL.at_ fun h1 h2 h3 h4 => ?_
  have e1 : L.drop pre.length = (gf, v) :: suf := by rw [e, List.drop_left]
  have e2 : L.drop (pre ++ [(gf, v)]).length = suf := by rw [e, show pre ++ (gf, v) :: suf = (pre ++ [(gf, v)]) ++ suf by rw [List.append_assoc]; rfl, List.drop_left]
  have lp : pre.length <= 50 := by rw [e, List.length_append] at hl; lia
  have hsf : dB (lastI 0 (pre.map (·.2))) ((L.drop pre.length).map (·.2)) ++ r <:+ b := by
   have : ∀ (pre : List (Int × Int)) x suf, dB x ((pre ++ suf).map (·.2)) = dB x (pre.map (·.2)) ++ dB (lastI x (pre.map (·.2))) (suf.map (·.2)) := fun pre => by
    induction pre with
    | nil => exact fun _ _ => rfl
    | cons p pre ih => exact fun x suf => (congrArg (_ ++ ·) (ih _ _)).trans (List.append_assoc ..).symm
   have hs := R.suf
   rw [e, this, List.append_assoc] at hs
   rw [e1]
   exact (List.suffix_append _ _).trans hs
  rw [e2] at hN
  rw [e1] at hsf ⊢
  have fin : ∀ w l2, w = v -> Has l2 [(22, .cell o), (40, .int short), (42, .int same), (0, .cell m.length), (21, .int w)] -> appV ((m ++ [Cell.lst ((pre.map (·.2)).map D.int)]).set o (ocr b (dB v (suf.map (·.2)) ++ r))) m.length (.int w) (N' l2) := fun w l2 ew hh => by
   rw [ew] at hh ⊢
   refine app_ok (fo_get ho) rfl (by rw [List.length_map, List.length_map]; lia) (hN _ _ ?_ ?_)
   ·rw [List.map_append, show [(gf, v)].map (·.2) = [v] from rfl, lastI_app]; exact hh
   ·rw [fo_set ho, List.map_append, show [(gf, v)].map (·.2) = [v] from rfl, lastI_app, List.map_append]; rfl
  generalize lastI 0 (pre.map (·.2)) = a at h1 h2 h3 h4 hsf ⊢
  obtain ⟨Y, hY⟩ : ∃ Y, Y = dB a (((gf, v) :: suf).map (·.2)) ++ r := ⟨_, rfl⟩
  have hY2 : Y = axB (v - a) ++ (dB v (suf.map (·.2)) ++ r) := hY.trans (List.append_assoc ..)
  rw [<- hY] at hsf ⊢
  generalize dB v (suf.map (·.2)) ++ r = Z at fin hY2
  have R1 : Rd ((m ++ [Cell.lst ((pre.map (·.2)).map D.int)]).set o (ocr b Y)) o b Y := fo_rd ho hsf
  have g : ((m ++ [Cell.lst ((pre.map (·.2)).map D.int)]).set o (ocr b Y))[m.length]? = some (.lst ((pre.map (·.2)).map D.int)) := fo_get ho
  have g2 : (((m ++ [Cell.lst ((pre.map (·.2)).map D.int)]).set o (ocr b Y)).set o (ocr b Z))[m.length]? = some (.lst ((pre.map (·.2)).map D.int)) := by rw [set2]; exact fo_get ho
  rw [<- set2 (c := ocr b Y)] at fin
  have f0 : Y = Z -> ((m ++ [Cell.lst ((pre.map (·.2)).map D.int)]).set o (ocr b Y)).set o (ocr b Z) = (m ++ [Cell.lst ((pre.map (·.2)).map D.int)]).set o (ocr b Y) := fun e => by rw [set2, e]
  clear hsf hY hL hl h hN e e1 e2 R
  generalize (m ++ [Cell.lst ((pre.map (·.2)).map D.int)]).set o (ocr b Y) = M at R1 g g2 fin f0 ⊢
  obtain ⟨⟨q1, q2⟩, ⟨q3, q4⟩, ⟨q5, q6⟩, q7, q8⟩ := ax_bits _ hq
  unfold axF at h1 h2
  unfold axB at hY2
  by_cases c0 : v - a = 0
  ·rw [if_pos c0] at h1 h2 hY2
   rw [f0 hY2] at fin
   refine e0 (h1.trans q1) (cf (h2 ▸ q2) ?_)
   exact And.intro ⟨_, g⟩ (fin a _ (by lia) ⟨rfl, rfl, rfl, rfl, rfl, trivial⟩)
  rw [if_neg c0] at h1 h2 hY2
  by_cases c1 : 0 < v - a /\ v - a < 256
  ·rw [if_pos c1] at h1 h2 hY2
   rw [hY2] at R1
   refine nct (h1 ▸ q3) ?_
   refine m_byte R1.at_ ?_
   refine byte_s R1 ?_
   refine nct (h2 ▸ q4) ?_
   refine And.intro ⟨_, g2⟩ (fin _ _ (by rw [ub_nat ⟨Int.le_of_lt c1.1, c1.2⟩]; lia) ⟨rfl, rfl, rfl, rfl, rfl, trivial⟩)
  rw [if_neg c1] at h1 h2 hY2
  by_cases c2 : -256 < v - a /\ v - a < 0
  ·rw [if_pos c2] at h1 h2 hY2
   rw [hY2] at R1
   refine nct (h1 ▸ q5) ?_
   refine m_byte R1.at_ ?_
   refine byte_s R1 ?_
   refine ncf (h2.trans q6) ?_
   refine And.intro ⟨_, g2⟩ (fin _ _ (by rw [ub_nat ⟨by lia, by lia⟩]; lia) ⟨rfl, rfl, rfl, rfl, rfl, trivial⟩)
  rw [if_neg c2] at h1 h2 hY2
  rw [hY2] at R1
  refine e0 (h1.trans q7) (ct (h2.trans q8) ?_)
  refine m_signed R1.at_ ?_
  refine signed_s R1 ?_
  exact And.intro ⟨_, g2⟩ (fin _ _ (by rw [sgn_of ⟨h3, h4⟩]; lia) ⟨rfl, rfl, rfl, rfl, rfl, trivial⟩)
 ·refine fzC (fo_get ho) (Nat.le_refl _) (pm ?_ h)
  rw [take_set_app, List.drop_length]; rfl
end
theorem fl_bits : ∀ u ∈ [16, Builtin.bitOr 2 16, 2, 0], ∀ v ∈ [32, Builtin.bitOr 4 32, 4, 0], ∀ w ∈ [(0 : Int), 1], ∀ f ∈ [Builtin.bitOr (Builtin.bitOr u v) w], Builtin.bitAnd f 2 = Builtin.bitAnd u 2 /\ Builtin.bitAnd f 16 = Builtin.bitAnd u 16 /\ Builtin.bitAnd f 4 = Builtin.bitAnd v 4 /\ Builtin.bitAnd f 32 = Builtin.bitAnd v 32 /\ Builtin.bitAnd f 1 = w := by decide +kernel
theorem fl1_bits (x y : Int) (p : Pt) : Builtin.bitAnd (fl1 x y p) 2 = Builtin.bitAnd (axF (p.1 - x) 2 16) 2 /\ Builtin.bitAnd (fl1 x y p) 16 = Builtin.bitAnd (axF (p.1 - x) 2 16) 16 /\ Builtin.bitAnd (fl1 x y p) 4 = Builtin.bitAnd (axF (p.2.1 - y) 4 32) 4 /\ Builtin.bitAnd (fl1 x y p) 32 = Builtin.bitAnd (axF (p.2.1 - y) 4 32) 32 /\ Builtin.bitAnd (fl1 x y p) 1 = if p.2.2 then 1 else 0 :=
 fl_bits _ (axF_cases _ _ _) _ (axF_cases _ _ _) _ (by cases p.2.2 with | true => exact .tail _ (.head _) | false => exact .head _) _ (.head _)
theorem dlt {x v : Int} (hx : -10000 <= x /\ x <= 10000) (hv : -10000 <= v /\ v <= 10000) : -32768 <= v - x /\ v - x < 32768 := by lia
theorem frel_x : ∀ (pts : List Pt) (x y : Int) (G : List Int), Fl2 (flagsOf x y pts) G -> (∀ p ∈ pts, okP p) -> (-10000 <= x /\ x <= 10000) -> FRel 2 16 x (G.zip (pts.map fun p => p.1))
 | [], _, _, G, h, _, _ => by cases h with | nil => exact .nil
 | p :: r, x, y, G, h, hp, hx => by
  cases h with
  | cons hb hr =>
   have hq := hp p (List.mem_cons_self ..)
   refine e0_3 (fl1_bits x y p) fun b1 b2 _ => ?_
   exact .cons ((hb _ (.tail _ (.head _))).trans b1) ((hb _ (.tail _ (.tail _ (.tail _ (.head _))))).trans b2) (dlt hx hq.1) (frel_x r _ _ _ hr (fun q h => hp q (List.mem_cons_of_mem _ h)) hq.1)
theorem frel_y : ∀ (pts : List Pt) (x y : Int) (G : List Int), Fl2 (flagsOf x y pts) G -> (∀ p ∈ pts, okP p) -> (-10000 <= y /\ y <= 10000) -> FRel 4 32 y (G.zip (pts.map fun p => p.2.1))
 | [], _, _, G, h, _, _ => by cases h with | nil => exact .nil
 | p :: r, x, y, G, h, hp, hx => by
  cases h with
  | cons hb hr =>
   have hq := hp p (List.mem_cons_self ..)
   refine e0_5 (fl1_bits x y p) fun _ _ b1 b2 _ => ?_
   exact .cons ((hb _ (.tail _ (.tail _ (.head _)))).trans b1) ((hb _ (.tail _ (.tail _ (.tail _ (.tail _ (.head _)))))).trans b2) (dlt hx hq.2) (frel_y r _ _ _ hr (fun q h => hp q (List.mem_cons_of_mem _ h)) hq.2)
theorem fl2_on : ∀ (pts : List Pt) (x y : Int) (G : List Int), Fl2 (flagsOf x y pts) G -> ∀ (i : Nat) (p : Pt), pts[i]? = some p -> ∃ g, G[i]? = some g /\ Builtin.bitAnd g 1 = if p.2.2 then 1 else 0
 | [], _, _, _, _, i, p, e => by induction i using Nat.casesAuxOn <;> exact nomatch e
 | q :: r, x, y, G, h, i, p, e => by
  cases h with
  | cons hb hr =>
   induction i using Nat.casesAuxOn with
   | zero => obtain rfl := Option.some.inj e; exact ⟨_, rfl, (hb _ (.head _)).trans (fl1_bits x y q).2.2.2.2⟩
   | succ i => exact fl2_on r _ _ _ hr i p e
theorem on_of {g : Int} {c : Bool} (h : Builtin.bitAnd g 1 = if c then 1 else 0) : (!decide (Builtin.bitAnd g 1 = 0)) = c := by
 rw [h]; induction c <;> rfl
theorem range_map {γ : Type} {f : γ -> D} {xs : List γ} {d : γ} : (List.range xs.length).map (fun i => f (xs.getD i d)) = xs.map f := by
 refine List.ext_getElem? fun i => ?_
 rw [List.getElem?_map, List.getElem?_map]
 by_cases h : i < xs.length
 ·rw [List.getElem?_range h, List.getElem?_eq_getElem h]
  show some (f (xs.getD i d)) = some (f xs[i])
  rw [List.getD_eq_getElem?_getD, List.getElem?_eq_getElem h]; rfl
 ·rw [List.getElem?_eq_none (Nat.le_trans (Nat.le_of_eq List.length_range) (Nat.le_of_not_lt h)), List.getElem?_eq_none (Nat.le_of_not_lt h)]; rfl
section
variable {m : Mem} {k o : Nat} {P : D -> Mem -> Prop} {X : Mem -> Prop} {b r : List UInt8}
theorem contours_of_s {pts : List Pt} {e : Int} (he : e + 1 = pts.length) (h : P (consD [pts]) m) : wp (rn (k + 1) (.top (nm 5)) [.lst (pts.map ptD), .lst [.int e]] m) P X := by
 refine top (q_contours_of _ _ _ _) ?_
 refine And.intro (by show 1 <= 65536; decide) (.inr (lpc ?_))
 refine And.intro ⟨_, get_last⟩ ?_
 refine oKL 0 (pts.map ptD).length rfl (by rw [he, Nat.zero_add, List.length_map]) (Nat.le_of_eq (Nat.zero_add _)) ?_
 have e2 : ((pts.map ptD).drop 0).take (pts.map ptD).length = pts.map ptD := List.take_length
 refine app_ok get_last (by rw [e2]; exact plain_pts pts) (by decide) ?_
 rw [set_last, e2]
 refine lp0 ?_
 exact fzC get_last (Nat.le_refl _) (pm take_app h)
theorem zip1 {G xs : List Int} (h : G.length = xs.length) : (G.zip xs).map (fun x => D.int x.1) = G.map D.int := by
 have := congrArg (List.map D.int) (List.map_fst_zip (Nat.le_of_eq h))
 rw [List.map_map] at this; exact this
theorem zip2 {G xs : List Int} (h : G.length = xs.length) : (G.zip xs).map (fun x => x.2) = xs := List.map_snd_zip (Nat.le_of_eq h.symm)
theorem read_deltas_q {G xs : List Int} {short same : Int} (lx : G.length = xs.length) (hq : (short, same) ∈ [((2 : Int), (16 : Int)), (4, 32)]) (hL : FRel short same 0 (G.zip xs)) (hl : G.length <= 50) (R : Rd m o b (dB 0 xs ++ r)) (h : P (.lst (xs.map D.int)) (m.set o (ocr b r))) : wp (rn (k + 4) (.top (nm 44)) [.cell o, .lst (G.map D.int), .int short, .int same] m) P X := by
 rw [<- zip1 lx]
 exact read_deltas_s hq hL (by rw [List.length_zip, <- lx, Nat.min_self]; exact hl) (by rw [zip2 lx]; exact R) (by rw [zip2 lx]; exact h)
theorem read_simple_s {pts : List Pt} {rle : List UInt8} {G : List Int} {e : Int} (hc : e + 1 = pts.length) (hl : pts.length <= 50) (hne : pts ≠ []) (hp : ∀ p ∈ pts, okP p) (hr : RFl rle (flagsOf 0 0 pts) G)
  (R : Rd m o b (p16 e ++ (p16 0 ++ (rle ++ (acrossOf 0 pts ++ (upOf 0 pts ++ r)))))) (h : P (outI [pts] []) (m.set o (ocr b r))) : wp (rn (k + 5) (.top (nm 53)) [.cell o, .int 1] m) P X := by
 have hpos : 0 < pts.length := List.length_pos_iff.mpr hne
 have h2 := hr.fl2 (flagsOf_ok pts 0 0)
 have lG : G.length = pts.length := by rw [<- hr.len.2, flagsOf_len]
 have lx : G.length = (pts.map fun p => p.1).length := by rw [List.length_map]; exact lG
 have ly : G.length = (pts.map fun p => p.2.1).length := by rw [List.length_map]; exact lG
 rw [acrossOf_is, upOf_is] at R
 refine top (q_read_simple _ _ _ _) ?_
 refine read_ends_s ⟨by lia, by lia⟩ R ?_
 have R2 := R.next
 refine m_part R2.at_ ?_
 refine m_word R2.at_ ?_
 refine word_s R2 ?_
 have R3 := R2.next
 refine part_s (s := []) R3 rfl ?_
 have R4 := Rd.next (s := []) R3
 refine eqo (c := false) rfl ?_
 refine oLl (ds := []) ?_
 refine read_flags_s hr (flagsOf_ok pts 0 0) (by rw [flagsOf_len]; exact hl) (by rw [flagsOf_len]; exact hc) R4 ?_
 have R5 := R4.next
 have hg : G.length <= 50 := by rw [lG]; exact hl
 refine read_deltas_q lx (.head _) (frel_x pts 0 0 G h2 hp ⟨by decide, by decide⟩) hg R5 ?_
 have R6 := R5.next
 refine read_deltas_q ly (.tail _ (.head _)) (frel_y pts 0 0 G h2 hp ⟨by decide, by decide⟩) hg R6 ?_
 have hn : (e + 1).toNat = pts.length := by lia
 refine And.intro ⟨by lia, by show _ <= (65536 : Int); lia⟩ ?_
 refine And.intro (by show ((List.range (e + 1).toNat).map _).length <= 65536; rw [List.length_map, List.length_range]; lia) ⟨_, all2_map (xs := List.range (e + 1).toNat) (f := fun i : Nat => D.int i) (g := fun i => ptD (pts.getD i (0, 0, true))) fun i hi => ?_, ?_⟩
 ·have hi : i < pts.length := by rw [hn] at hi; exact List.mem_range.mp hi
  have hg : pts[i]? = some pts[i] := List.getElem?_eq_getElem hi
  have ed : pts.getD i (0, 0, true) = pts[i] := by rw [List.getD_eq_getElem?_getD, hg]; rfl
  rw [ed]
  generalize pts[i] = p at hg
  refine e1_2 (fl2_on pts 0 0 G h2 i p hg) fun g hG hon => ?_
  refine oL i rfl (d := .int p.1) (by rw [List.getElem?_map, List.getElem?_map, hg]; rfl) ?_
  refine oL i rfl (d := .int p.2.1) (by rw [List.getElem?_map, List.getElem?_map, hg]; rfl) ?_
  refine oL i rfl (d := .int g) (by rw [List.getElem?_map, hG]; rfl) ?_
  exact And.intro (by rw [on_of hon]; rfl) rfl
 ·rw [hn, range_map]
  refine contours_of_s hc ?_
  refine outline_s ?_
  refine fz (plain_outI _ _) (pm ?_ h)
  rw [set4, set3, take_set]
end
noncomputable def mvP (x y : Int) (p : Pt) : Pt := (p.1 + x, p.2.1 + y, p.2.2)
noncomputable def tnP (a b c d : Int) (p : Pt) : Pt := ((a * p.1 + c * p.2.1 + 8192) / 16384, (b * p.1 + d * p.2.1 + 8192) / 16384, p.2.2)
noncomputable def Sz (n : Nat) (cs : List (List Pt)) : Prop := cs.length <= n /\ ∀ c ∈ cs, c.length <= 4
theorem Sz.map {n : Nat} {cs : List (List Pt)} (h : Sz n cs) (f : Pt -> Pt) : Sz n (cs.map (List.map f)) :=
 ⟨by rw [List.length_map]; exact h.1, fun c hc => by obtain ⟨d, hd, rfl⟩ := List.mem_map.mp hc; rw [List.length_map]; exact h.2 d hd⟩
theorem Sz.app {n k : Nat} {cs ds : List (List Pt)} (h : Sz n cs) (h2 : Sz k ds) : Sz (n + k) (cs ++ ds) :=
 ⟨by rw [List.length_append]; exact Nat.add_le_add h.1 h2.1, fun c hc => (List.mem_append.mp hc).elim (h.2 c) (h2.2 c)⟩
theorem Sz.flat : ∀ {n : Nat} {cs : List (List Pt)}, Sz n cs -> cs.flatten.length <= 4 * n
 | n, [], _ => Nat.zero_le _
 | 0, _ :: _, h => absurd h.1 (Nat.not_succ_le_zero _)
 | n + 1, c :: cs, h => by
  have h1 := h.2 c (List.mem_cons_self ..)
  have h2 := Sz.flat (n := n) (cs := cs) ⟨Nat.le_of_succ_le_succ h.1, fun d hd => h.2 d (List.mem_cons_of_mem _ hd)⟩
  rw [List.flatten_cons, List.length_append]
  lia
section
variable {m : Mem} {k o n : Nat} {P : D -> Mem -> Prop} {X : Mem -> Prop} {cs : List (List Pt)}
theorem moved_s {x y : Int} (hz : Sz n cs) (hn : n <= 60) (h : P (consD (cs.map (List.map (mvP x y)))) m) : wp (rn (k + 1) (.top (nm 14)) [consD cs, .int x, .int y] m) P X := by
 refine top0 (q_moved _ _ _ _ _) ?_
 refine And.intro (by rw [List.length_map]; show _ <= 65536; have := hz.1; lia) ⟨_, all2_map (g := fun c => conD (c.map (mvP x y))) fun c hc => ?_, ?_⟩
 ·refine And.intro (by rw [List.length_map]; show _ <= 65536; have := hz.2 c hc; lia) ⟨_, all2_map (g := fun p => ptD (mvP x y p)) fun p _ => And.intro rfl rfl, ?_⟩
  exact And.intro (by show _ = D.lst _; rw [List.map_map]; rfl) rfl
 ·have e : cs.map (fun c => conD (c.map (mvP x y))) = (cs.map (List.map (mvP x y))).map conD := by rw [List.map_map]; rfl
  rw [e]
  exact And.intro rfl (fz (plain_conS _) h)
theorem sc_small {a b c d : Int} (h : isSc a b c d) : (decide (a.natAbs < 2 ^ 60) = true /\ decide (b.natAbs < 2 ^ 60) = true) /\ decide (c.natAbs < 2 ^ 60) = true /\ decide (d.natAbs < 2 ^ 60) = true := by
 rcases h with ⟨rfl, rfl, rfl, rfl⟩ | ⟨rfl, rfl, rfl, rfl⟩ | ⟨rfl, rfl, rfl, rfl⟩ | ⟨rfl, rfl, rfl, rfl⟩ | ⟨rfl, rfl, rfl, rfl⟩ <;> exact ⟨⟨rfl, rfl⟩, rfl, rfl⟩
theorem turned_s {a b c d : Int} (hs : isSc a b c d) (hz : Sz n cs) (hn : n <= 60) (h : P (consD (cs.map (List.map (tnP a b c d)))) m) : wp (rn (k + 2) (.top (nm 20)) [consD cs, .tup [.int a, .int b, .int c, .int d]] m) P X := by
 obtain ⟨⟨sa, sb⟩, sc, sd⟩ := sc_small hs
 refine top (q_turned _ _ _ _) ?_
 refine And.intro (by rw [List.length_map]; show _ <= 65536; have := hz.1; lia) ?_
 refine lp_ty cs conD (fun pre => [(6, .int a), (8, .int b), (17, .int c), (18, .int d), (0, .cell m.length)]) (fun pre => m ++ [Cell.lst ((pre.map (List.map (tnP a b c d))).map conD)]) ⟨rfl, rfl, rfl, rfl, rfl, trivial⟩ rfl (fun pre x suf N' e hN => ?_) ?_
 ·have hx : x ∈ cs := by rw [e]; exact List.mem_append_right _ (List.mem_cons_self ..)
  have hpre : pre.length <= n := by have := hz.1; rw [e, List.length_append] at this; lia
  refine And.intro ⟨_, get_last⟩ ?_
  refine And.intro (by rw [List.length_map]; show _ <= 65536; have := hz.2 x hx; lia) ⟨_, all2_map (g := fun p => ptD (tnP a b c d p)) fun p _ => ?_, ?_⟩
  ·refine And.intro (ml sa) ?_
   refine And.intro (ml sc) ?_
   refine scaled_number_s ?_
   refine And.intro (ml sb) ?_
   refine And.intro (ml sd) ?_
   exact scaled_number_s (And.intro rfl rfl)
  ·have e2 : D.lst (x.map fun p => ptD (tnP a b c d p)) = conD (x.map (tnP a b c d)) := by show _ = D.lst _; rw [List.map_map]; rfl
   refine app_ok get_last (by rw [e2]; exact plain_pts _) (by rw [List.length_map, List.length_map]; lia) ?_
   rw [set_last, e2]
   exact hN _ _ ⟨rfl, rfl, rfl, rfl, rfl, trivial⟩ (by rw [List.map_append, List.map_append]; rfl)
 ·exact fzC get_last (Nat.le_refl _) (pm take_app h)
theorem unit_id (cs : List (List Pt)) : cs.map (List.map (tnP 16384 0 0 16384)) = cs := by
 have e : tnP 16384 0 0 16384 = id := funext fun ⟨x, y, c⟩ => by
  show (_, _, _) = (x, y, c)
  rw [show (16384 * x + 0 * y + 8192) / 16384 = x by lia, show (0 * x + 16384 * y + 8192) / 16384 = y by lia]
 rw [e, List.map_id_fun]; exact List.map_id _
noncomputable def plc (p : Pa) (inner outer : List (List Pt)) : Option (List (List Pt)) :=
 if p.mv then some ((inner.map (List.map (tnP p.a p.b p.c p.d))).map (List.map (mvP p.f p.s)))
 else match outer.flatten[p.f.toNat]?, (inner.map (List.map (tnP p.a p.b p.c p.d))).flatten[p.s.toNat]? with
  | some u, some v => some ((inner.map (List.map (tnP p.a p.b p.c p.d))).map (List.map (mvP (u.1 - v.1) (u.2.1 - v.2.1))))
  | _, _ => none
theorem Sz.plc {p : Pa} {inner outer r : List (List Pt)} (h : Sz n inner) (e : Mine.plc p inner outer = some r) : Sz n r := by
 unfold Mine.plc at e
 split at e
 ·obtain rfl := Option.some.inj e; exact (h.map _).map _
 ·split at e
  ·obtain rfl := Option.some.inj e; exact (h.map _).map _
  ·exact nomatch e
noncomputable def orX (r : Option (List (List Pt))) (P : List (List Pt) -> Prop) (X : Prop) : Prop := match r with
 | some cs => P cs
 | none => X
theorem sc_unit {a b c d : Int} (h : isSc a b c d) : ∃ u, eqD (.tup [.int a, .int b, .int c, .int d]) (.tup [.int 16384, .int 0, .int 0, .int 16384]) = some u /\ (u = true -> a = 16384 /\ b = 0 /\ c = 0 /\ d = 16384) := by
 rcases h with h | ⟨rfl, rfl, rfl, rfl⟩ | ⟨rfl, rfl, rfl, rfl⟩ | ⟨rfl, rfl, rfl, rfl⟩ | ⟨rfl, rfl, rfl, rfl⟩
 ·have h2 := h
  obtain ⟨rfl, rfl, rfl, rfl⟩ := h
  exact ⟨true, by decide +kernel, fun _ => h2⟩
 all_goals exact ⟨false, by decide +kernel, nofun⟩
theorem pts_get {xs : List Pt} {i : Int} (h0 : 0 <= i) (h : ¬ ((xs.map ptD).length : Int) <= i) : ∃ u, xs[i.toNat]? = some u /\ (xs.map ptD)[i.toNat]? = some (ptD u) /\ i = i.toNat := by
 rw [List.length_map] at h
 have hl : i.toNat < xs.length := by lia
 have hg : xs[i.toNat]? = some xs[i.toNat] := List.getElem?_eq_getElem hl
 exact ⟨_, hg, by rw [List.getElem?_map, hg]; rfl, (Int.toNat_of_nonneg h0).symm⟩
theorem pts_no {xs : List Pt} {i : Int} (h : ((xs.map ptD).length : Int) <= i) : xs[i.toNat]? = none := by
 rw [List.length_map] at h
 exact List.getElem?_eq_none (by lia)
theorem placed_s {p : Pa} {inner outer : List (List Pt)} {n2 : Nat} (hp : okPa p) (hz : Sz n inner) (hn : n <= 20) (hz2 : Sz n2 outer) (hn2 : n2 <= 20) (h : orX (plc p inner outer) (fun cs => P (consD cs) m) (X m)) : wp (rn (k + 3) (.top (nm 72)) [p.inst, consD inner, consD outer] m) P X := by
 refine e1_2 (sc_unit hp.sc) fun u hu hu2 => ?_
 refine top0 (q_placed _ _ _ _ _) ?_
 refine a_sc ?_
 refine eqt hu ?_
 have hzF := hz.map (tnP p.a p.b p.c p.d)
 unfold plc at h
 have hT : u = true -> inner = inner.map (List.map (tnP p.a p.b p.c p.d)) := fun e => by
  refine e0_4 (hu2 e) fun e1 e2 e3 e4 => ?_
  rw [e1, e2, e3, e4, unit_id]
 obtain ⟨F, hF⟩ : ∃ F, F = inner.map (List.map (tnP p.a p.b p.c p.d)) := ⟨_, rfl⟩
 rw [<- hF] at hzF h hT
 have fl1 : outer.flatten.length <= 1000 := Nat.le_trans hz2.flat (by lia)
 have fl2 : F.flatten.length <= 1000 := Nat.le_trans hzF.flat (by lia)
 have l1 : outer.length <= 100 := Nat.le_trans hz2.1 (by lia)
 have l2 : F.length <= 100 := Nat.le_trans hzF.1 (by lia)
 refine cbo (fun c => a_sc (turned_s hp.sc hz (by lia) ?_)) fun c => ?_
 case' refine_1 => rw [<- hF]
 case' refine_2 => rw [show consD inner = consD F from congrArg consD (hT (Bool.not_eq_false' .. |>.mp c))]
 all_goals
  clear hF hT hu hu2 c
  refine a_mv (cbo (fun c => ?_) fun c => ?_)
  ·rw [c] at h
   refine a_f ?_
   refine a_s ?_
   exact moved_s hzF (by lia) (And.intro rfl (fz (plain_conS _) h))
  rw [c] at h
  obtain ⟨⟨f0, f1⟩, s0, s1⟩ := hp.pt c
  refine outline1_s ?_
  refine m_points ?_
  refine points_s l1 fl1 ?_
  refine outline1_s ?_
  refine m_points ?_
  refine points_s l2 fl2 ?_
  refine a_f ?_
  refine csp (fun hc => ?_) fun hc => ?_
  ·rw [pts_no hc] at h
   exact And.intro rfl h
  refine e1_3 (pts_get f0 hc) fun u hu hum hui => ?_
  rw [hu] at h
  refine a_s ?_
  refine csp (fun hc => ?_) fun hc => ?_
  ·rw [pts_no hc] at h
   exact And.intro rfl h
  refine e1_3 (pts_get s0 hc) fun v hv hvm hvi => ?_
  rw [hv] at h
  refine a_f ?_
  refine oL p.f.toNat hui hum ?_
  refine a_s ?_
  refine oL p.s.toNat hvi hvm ?_
  refine oT 0 rfl rfl ?_
  refine oT 0 rfl rfl ?_
  refine oT 1 rfl rfl ?_
  refine oT 1 rfl rfl ?_
  exact moved_s hzF (by lia) (And.intro rfl (fz (plain_conS _) h))
end
noncomputable def gB (rows : List (List UInt8)) : List UInt8 := (rows.map fil).flatten
noncomputable def plsOf (rows : List (List UInt8)) : List Int := (List.range (rows.length + 1)).map fun g => ((gB (rows.take g)).length : Int)
theorem gB_app (a b : List (List UInt8)) : gB (a ++ b) = gB a ++ gB b := by unfold gB; rw [List.map_append, List.flatten_append]
theorem gB_one (x : List UInt8) : gB [x] = fil x := List.append_nil _
theorem fil_len (x : List UInt8) : (fil x).length <= x.length + 3 /\ (fil x).length % 4 = 0 := by
 unfold fil pad
 rw [List.length_append, List.length_replicate]; lia
theorem gB_len : ∀ {rows : List (List UInt8)}, (∀ x ∈ rows, x.length <= 1000) -> (gB rows).length <= 1003 * rows.length /\ (gB rows).length % 4 = 0
 | [], _ => ⟨Nat.le_refl _, rfl⟩
 | x :: r, h => by
  have h1 := h x (List.mem_cons_self ..)
  have h2 := gB_len (rows := r) fun y hy => h y (List.mem_cons_of_mem _ hy)
  have h3 := fil_len x
  rw [show x :: r = [x] ++ r from rfl, gB_app, gB_one, List.length_append, List.length_append]
  show _ <= 1003 * (1 + r.length) /\ _
  lia
theorem plsOf_app (pre : List (List UInt8)) (x : List UInt8) : plsOf (pre ++ [x]) = plsOf pre ++ [((gB (pre ++ [x])).length : Int)] := by
 unfold plsOf
 rw [List.length_append, show pre.length + [x].length + 1 = (pre.length + 1) + 1 from rfl, List.range_succ, List.map_append]
 refine congr (congrArg _ (List.map_congr_left fun g hg => ?_)) ?_
 ·rw [List.take_append_of_le_length (Nat.le_of_lt_succ (List.mem_range.mp hg))]
 ·show [((gB ((pre ++ [x]).take (pre.length + 1))).length : Int)] = _
  rw [List.take_of_length_le (by rw [List.length_append]; exact Nat.le_refl _)]
theorem plsOf_get {rows : List (List UInt8)} {g : Nat} (h : g <= rows.length) : (plsOf rows)[g]? = some ((gB (rows.take g)).length : Int) := by
 unfold plsOf
 rw [List.getElem?_map, List.getElem?_range (Nat.lt_succ_of_le h)]; rfl
theorem plsOf_len (rows : List (List UInt8)) : (plsOf rows).length = rows.length + 1 := by unfold plsOf; rw [List.length_map, List.length_range]
noncomputable def tlB (il : Bool) (v : Int) : List UInt8 := if il then p16 (v / 65536) ++ p16 v else p16 (v / 2)
noncomputable def tldB (il : Bool) (vs : List Int) : List UInt8 := (vs.map (tlB il)).flatten
theorem tlB_len (il : Bool) (v : Int) : (tlB il v).length = (if il then 4 else 2) := by induction il <;> rfl
theorem tldB_len (il : Bool) : ∀ vs : List Int, (tldB il vs).length = (if il then 4 else 2) * vs.length
 | [] => rfl
 | v :: r => by
  show (tlB il v ++ tldB il r).length = _
  rw [List.length_append, tlB_len, tldB_len il r]
  show _ = _ * (r.length + 1)
  rw [Nat.mul_succ, Nat.add_comm]
section
variable {m : Mem} {k o n : Nat} {P : D -> Mem -> Prop} {X : Mem -> Prop} {rows : List (List UInt8)} {il : Bool}
theorem write_glyphs_s (hr : ∀ x ∈ rows, x.length <= 1000) (hl : rows.length <= 40) (h : P (.tup [.bytes (gB rows), .bytes (tldB il (plsOf rows))]) m) : wp (rn (k + 3) (.top (nm 94)) [.lst (rows.map D.bytes), .bool il] m) P X := by
 refine top (q_write_glyphs _ _ _ _) ?_
 refine And.intro (by rw [List.length_map]; show _ <= 65536; lia) ?_
 refine lp_ty rows D.bytes (fun pre => [(31, .bool il), (91, .bytes (gB pre)), (92, .cell m.length)]) (fun pre => m ++ [Cell.lst ((plsOf pre).map D.int)]) ⟨rfl, rfl, rfl, trivial⟩ rfl (fun pre x suf N' e hN => ?_) ?_
 ·have hpre : ∀ y ∈ pre ++ [x], y.length <= 1000 := fun y hy => hr y (by rw [e, show pre ++ x :: suf = (pre ++ [x]) ++ suf by rw [List.append_assoc]; rfl]; exact List.mem_append_left _ hy)
  have hln : pre.length + 1 <= 40 := by rw [e, List.length_append] at hl; exact Nat.le_trans (Nat.add_le_add_left (Nat.succ_pos _) _) hl
  have hg := (gB_len hpre).1
  rw [List.length_append] at hg
  have hx := hpre x (List.mem_append_right _ (List.mem_cons_self ..))
  refine filled_s (by lia) ?_
  have hg2 : gB (pre ++ [x]) = gB pre ++ fil x := by rw [gB_app, gB_one]
  have hz : (gB pre).length + (fil x).length <= cap := by rw [<- List.length_append, <- hg2]; show _ <= 65536; exact Nat.le_trans hg (Nat.le_trans (Nat.mul_le_mul_left 1003 hln) (by decide))
  refine And.intro hz (And.intro ⟨_, get_last⟩ ?_)
  refine app_ok get_last rfl (by rw [List.length_map, plsOf_len]; lia) ?_
  rw [set_last]
  refine hN _ _ ⟨rfl, congrArg (fun z => some (D.bytes z)) hg2.symm, rfl, trivial⟩ ?_
  rw [plsOf_app, List.map_append, hg2]; rfl
 ·obtain ⟨ini, hini⟩ : ∃ ini, (plsOf rows).map D.int = ini ++ [D.int (gB rows).length] := by
   unfold plsOf
   rw [List.range_succ, List.map_append, List.map_append]
   exact ⟨_, congrArg _ (by show [D.int ((gB (rows.take rows.length)).length : Int)] = _; rw [List.take_length])⟩
  have hg := (gB_len hr).1
  have hln : ((plsOf rows).map D.int).length = rows.length + 1 := by rw [List.length_map, plsOf_len]
  induction il with
  | true =>
   refine ⟨(plsOf rows).map D.int, by rw [hln]; show _ < 64; lia, ?_⟩
   refine lp_tyC (plsOf rows) D.int (fun pre => [(31, .bool true), (91, .bytes (gB rows)), (82, .bytes (tldB true pre))]) (fun _ => m ++ [Cell.lst ((plsOf rows).map D.int)]) (fun _ => get_last) ⟨rfl, rfl, rfl, trivial⟩ rfl (fun pre v suf N' e hN => ?_) ?_
   ·have e2 : tldB true (pre ++ [v]) = tldB true pre ++ tlB true v := by unfold tldB; rw [List.map_append, List.flatten_append]; exact congrArg _ (List.append_nil _)
    have := congrArg List.length e
    rw [plsOf_len, List.length_append] at this
    refine put32_s ?_
    refine And.intro (by rw [tldB_len]; show 4 * _ + 4 <= 65536; lia) ?_
    exact hN _ _ ⟨rfl, rfl, congrArg (fun z => some (D.bytes z)) e2.symm, trivial⟩ rfl
   ·exact pm take_app h
  | false =>
   refine oCl (ds := ini) (by rw [<- hini]; exact get_last) ?_
   refine cf (by lia) ?_
   refine ⟨(plsOf rows).map D.int, by rw [hln]; show _ < 64; lia, ?_⟩
   refine lp_tyC (plsOf rows) D.int (fun pre => [(31, .bool false), (91, .bytes (gB rows)), (82, .bytes (tldB false pre))]) (fun _ => m ++ [Cell.lst ((plsOf rows).map D.int)]) (fun _ => get_last) ⟨rfl, rfl, rfl, trivial⟩ rfl (fun pre v suf N' e hN => ?_) ?_
   ·have e2 : tldB false (pre ++ [v]) = tldB false pre ++ tlB false v := by unfold tldB; rw [List.map_append, List.flatten_append]; exact congrArg _ (List.append_nil _)
    have := congrArg List.length e
    rw [plsOf_len, List.length_append] at this
    refine put16_s ?_
    refine And.intro (by rw [tldB_len]; show 2 * _ + 2 <= 65536; lia) ?_
    exact hN _ _ ⟨rfl, rfl, congrArg (fun z => some (D.bytes z)) e2.symm, trivial⟩ rfl
   ·exact pm take_app h
theorem eqC {c : Nat} {xs : List Int} {Q : Bool -> Prop} (e : m[c]? = some (.lst (xs.map D.int))) (h : Q xs.isEmpty) : eqO m (.cell c) (.lst []) Q := by
 refine eqo ?_ h
 show eqD (match m[c]? with | some (.lst ds) => .lst ds | _ => _) (.lst []) = _
 rw [e]
 induction xs using List.casesOn with
 | nil => show eqD (.lst []) (.lst []) = _; decide +kernel
 | cons _ _ => rfl
theorem u32_q {p b r : List UInt8} {i j a : Int} (hb : b = p ++ (p16 i ++ (p16 j ++ r))) (ha : a = p.length) (h : P (.int (i % 65536 * 65536 + j % 65536)) m) : wp (rn (k + 2) (.top (nm 25)) [.bytes b, .int a] m) P X := by
 rw [hb, ha]; exact u32_p h
theorem tld_split {vs : List Int} {i : Nat} {v : Int} (hv : vs[i]? = some v) : ∃ p r, tldB il vs = p ++ (tlB il v ++ r) /\ p.length = (if il then 4 else 2) * i := by
 obtain ⟨hlt, e⟩ := List.getElem?_eq_some_iff.mp hv
 refine ⟨tldB il (vs.take i), tldB il (vs.drop (i + 1)), ?_, by rw [tldB_len, List.length_take, Nat.min_eq_left (Nat.le_of_lt hlt)]⟩
 have e3 : vs = vs.take i ++ v :: vs.drop (i + 1) := by rw [<- e, <- List.drop_eq_getElem_cons hlt, List.take_append_drop]
 have e4 : ∀ a b, tldB il (a ++ v :: b) = tldB il a ++ (tlB il v ++ tldB il b) := fun a b => by unfold tldB; rw [List.map_append, List.flatten_append]; rfl
 rw [<- e4, <- e3]
theorem loca_tail {vs : List Int} {i : Nat} {v : Int} {l : VE} {N : VE -> Mem -> Prop} {R : D -> Mem -> Prop} (h0 : l 0 = some (.cell m.length)) (h1 : l 33 = some (.int v)) (hl : vs.length <= 60) (hg : vs[i]? = some v) (hi : ∀ (a : Nat) u v, vs[a]? = some u -> vs[a + 1]? = some v -> u <= v)
  (hN : N l (m ++ [Cell.lst ((vs.take (i + 1)).map D.int)])) : (seqS (ifS (andB [(cmpB .NotEq (var 0) (lstE [])), (cmpB .Lt (var 33) (sub (var 0) (neg (cst (.int 1)))))]) (seqS raise0 nop) nop) (seqS (app (var 0) (var 33)) nop)).vc l (m ++ [Cell.lst ((vs.take i).map D.int)]) N R X := by
 have hlt : i < vs.length := (List.getElem?_eq_some_iff.mp hg).1
 have e3 : (vs.take (i + 1)).map D.int = (vs.take i).map D.int ++ [.int v] := by rw [List.take_add_one, hg, List.map_append]; rfl
 have ap : appV (m ++ [Cell.lst ((vs.take i).map D.int)]) m.length (.int v) (N l) := by
  refine app_ok get_last rfl (by rw [List.length_map, List.length_take]; lia) ?_
  rw [set_last, <- e3]; exact hN
 refine ops_some h0 ?_
 refine eqC get_last ?_
 induction i using Nat.casesAuxOn with
 | zero =>
  refine cff rfl ?_
  refine ops_some h0 (And.intro ⟨_, get_last⟩ (ops_some h1 ap))
 | succ i =>
  obtain ⟨u, hu⟩ : ∃ u, vs[i]? = some u := ⟨vs[i], List.getElem?_eq_getElem (by lia)⟩
  have e4 : (vs.take (i + 1)).map D.int = (vs.take i).map D.int ++ [.int u] := by rw [List.take_add_one, hu, List.map_append]; rfl
  refine ctt (c := !(vs.take (i + 1)).isEmpty) ?_ ?_
  ·rw [List.take_add_one, hu]; cases vs.take i <;> rfl
  refine ops_some h1 (ops_some h0 ?_)
  refine oCl (d := .int u) (by rw [<- e4]; exact get_last) ?_
  refine cf (Int.not_lt.mpr (hi i u v hu hg)) ?_
  refine ops_some h0 (And.intro ⟨_, get_last⟩ (ops_some h1 ap))
theorem read_loca_s {vs : List Int} {c : Int} (hc : c + 1 = vs.length) (hl : vs.length <= 60) (hv : ∀ v ∈ vs, (0 <= v /\ v < 131072) /\ v % 2 = 0) (hi : ∀ (a : Nat) u v, vs[a]? = some u -> vs[a + 1]? = some v -> u <= v) (h : P (.lst (vs.map D.int)) m) : wp (rn (k + 3) (.top (nm 34)) [.bytes (tldB il vs), .bool il, .int c] m) P X := by
 refine top (q_read_loca _ _ _ _ _) ?_
 have hn : (c + 1).toNat = vs.length := by lia
 have lb := tldB_len il vs
 have get : ∀ {pre : List Nat} {i suf}, List.range (c + 1).toNat = pre ++ i :: suf -> ∃ v, i = pre.length /\ vs[i]? = some v /\ (0 <= v /\ v < 131072) /\ v % 2 = 0 := fun e => by
  refine e0_2 (range_at e) fun ei hi2 => ?_
  rw [hn] at hi2
  exact ⟨_, ei, List.getElem?_eq_getElem hi2, hv _ (List.getElem_mem hi2)⟩
 have hr : (m ++ [Cell.lst ((vs.take (List.range (c + 1).toNat).length).map D.int)])[m.length]? = some (.lst (vs.map D.int)) := by rw [List.length_range, hn, List.take_length]; exact get_last
 have b1 : 0 <= c + 1 /\ c + 1 <= (65536 : Int) := ⟨by lia, by lia⟩
 have b2 : (c + 1).toNat <= cap := by show _ <= 65536; lia
 induction il with
 | true =>
  refine And.intro b1 (And.intro b2 ?_)
  refine lp_ty (List.range (c + 1).toNat) (fun i : Nat => D.int i) (fun pre => [(22, .bytes (tldB true vs)), (31, .bool true), (32, .int c), (0, .cell m.length), (28, .int 4)]) (fun pre => m ++ [Cell.lst ((vs.take pre.length).map D.int)]) ⟨rfl, rfl, rfl, rfl, rfl, trivial⟩ rfl (fun pre i suf N' e hN => ?_) ?_
  ·obtain ⟨v, ei, hg, ⟨v0, v1⟩, _⟩ := get e
   refine e2_2 (tld_split (il := true) hg) fun p r hb hpl => ?_
   refine And.intro (ml rfl) ?_
   refine u32_q (i := v / 65536) (j := v) (r := r) (by rw [hb]; show _ = p ++ (p16 _ ++ (p16 _ ++ r)); rw [<- List.append_assoc (p16 _)]; rfl) (by rw [hpl]; rfl) ?_
   have ev : v / 65536 % 65536 * 65536 + v % 65536 = v := by lia
   rw [ei] at hg
   refine loca_tail (i := pre.length) (v := v) rfl (by show some (D.int _) = _; rw [ev]) hl hg hi ?_
   exact hN _ _ ⟨rfl, rfl, rfl, rfl, rfl, trivial⟩ (by rw [List.length_append]; rfl)
  ·refine And.intro (ml rfl) (cf (by rw [lb, hc]; show ¬ ((4 * vs.length : Nat) : Int) < 4 * _; lia) ?_)
   exact fzC hr (Nat.le_refl _) (pm take_app h)
 | false =>
  refine And.intro b1 (And.intro b2 ?_)
  refine lp_ty (List.range (c + 1).toNat) (fun i : Nat => D.int i) (fun pre => [(22, .bytes (tldB false vs)), (31, .bool false), (32, .int c), (0, .cell m.length), (28, .int 2)]) (fun pre => m ++ [Cell.lst ((vs.take pre.length).map D.int)]) ⟨rfl, rfl, rfl, rfl, rfl, trivial⟩ rfl (fun pre i suf N' e hN => ?_) ?_
  ·obtain ⟨v, ei, hg, ⟨v0, v1⟩, v2⟩ := get e
   refine e2_2 (tld_split (il := false) hg) fun p r hb hpl => ?_
   refine And.intro (ml rfl) ?_
   refine u16_q (i := v / 2) (r := r) hb (by rw [hpl]; rfl) ?_
   refine And.intro (ml rfl) ?_
   have ev : 2 * (v / 2 % 65536) = v := by lia
   rw [ei] at hg
   refine loca_tail (i := pre.length) (v := v) rfl (by show some (D.int _) = _; rw [ev]) hl hg hi ?_
   exact hN _ _ ⟨rfl, rfl, rfl, rfl, rfl, trivial⟩ (by rw [List.length_append]; rfl)
  ·refine And.intro (ml rfl) (cf (by rw [lb, hc]; show ¬ ((2 * vs.length : Nat) : Int) < 2 * _; lia) ?_)
   exact fzC hr (Nat.le_refl _) (pm take_app h)
end
section
variable {m : Mem} {k o n g : Nat} {P : D -> Mem -> Prop} {X : Mem -> Prop} {rows : List (List UInt8)} {x : List UInt8} {gi : Int}
noncomputable abbrev tab (rows : List (List UInt8)) : D := tabI (gB rows) (plsOf rows)
theorem table_s {b : List UInt8} {ps : List Int} (h : P (tabI b ps) m) : wp (rn (k + 1) (.top (nm 119)) [.bytes b, .lst (ps.map D.int)] m) P X := by
 rw [rn_top, q_GlyphTablex_initx]
 refine wp_finI (wp_fin (sb_vs _) ?_)
 refine setA_ok (x := 22) (c := 119) (fs := []) (d := .bytes b) get_last rfl (by decide +kernel) rfl ?_
 rw [set_last]
 refine setA_ok (x := 92) (c := 119) (fs := [(22, .bytes b)]) (d := .lst (ps.map D.int)) get_last (plain_ints ps) (by decide +kernel) rfl ?_
 rw [set_last]
 exact init_end (a := .none) rfl h
theorem count_s (h : P (.int rows.length) m) : wp (rn (k + 1) (.meth (nm 119) (nm 32)) [tab rows] m) P X := by
 refine mth0 (q_GlyphTable_count _ _ _) ?_
 refine a_tp ?_
 have e : ((((plsOf rows).map D.int).length : Nat) : Int) - 1 = rows.length := by rw [List.length_map, plsOf_len]; lia
 exact And.intro rfl ((congrArg (fun z => P (.int z) m) e).mpr h)
theorem glyph_octets_s (hg : gi = g) (hx : rows[g]? = some x) (h : P (.bytes (fil x)) m) : wp (rn (k + 2) (.meth (nm 119) (nm 126)) [tab rows, .int gi] m) P X := by
 have hlt := (List.getElem?_eq_some_iff.mp hx).1
 have get : ∀ a, a <= rows.length -> ((plsOf rows).map D.int)[a]? = some (.int (gB (rows.take a)).length) := fun a ha => by rw [List.getElem?_map, plsOf_get ha]; rfl
 have e1 : gB (rows.take (g + 1)) = gB (rows.take g) ++ fil x := by rw [List.take_add_one, hx, gB_app]; exact congrArg _ (gB_one x)
 have e2 : gB rows = gB (rows.take g) ++ (fil x ++ gB (rows.drop (g + 1))) := by rw [<- List.append_assoc, <- e1, <- gB_app, List.take_append_drop]
 rw [hg]
 refine mth0 (q_GlyphTable_glyph_octets _ _ _ _) ?_
 refine m_count ?_
 refine count_s ?_
 refine cf (by lia) ?_
 refine a_to ?_
 refine a_tp (oL g rfl (get g (Nat.le_of_lt hlt)) ?_)
 refine a_tp (oL (g + 1) rfl (get (g + 1) hlt) ?_)
 refine a_tp (oL g rfl (get g (Nat.le_of_lt hlt)) ?_)
 exact part_of_q e2 rfl (by rw [e1, List.length_append]; lia) (And.intro rfl h)
theorem no_glyph_s (hg : gi < 0 \/ (rows.length : Int) <= gi) (h1 : gi.natAbs < 2 ^ 60) (h2 : (Str.ofString "there is no glyph ").length + (Str.ofString (toString gi)).length <= cap) (h : X m) : wp (rn (k + 2) (.meth (nm 119) (nm 126)) [tab rows, .int gi] m) P X := by
 refine mth0 (q_GlyphTable_glyph_octets _ _ _ _) ?_
 refine csp (fun c => ?_) fun c => ?_
 ·exact And.intro h1 (And.intro h2 (And.intro rfl h))
 ·refine m_count ?_
  refine count_s ?_
  refine ct (by lia) ?_
  exact And.intro h1 (And.intro h2 (And.intro rfl h))
theorem bne (hx : x ≠ []) : (x == []) = false := by
 induction x using List.casesOn with
 | nil => exact absurd rfl hx
 | cons _ _ => rfl
theorem inT {a : Int} : ∀ {bs : List Int} {Q : Bool -> Prop}, Q (bs.any fun b => decide (b = a)) -> ops (cmpD m .In (.int a) (.tup (bs.map D.int))) Q := fun {bs Q} h => by
 have e1 : (bs.map D.int).all (okD 8) = true := by
  rw [List.all_map]; exact List.all_eq_true.mpr fun _ _ => rfl
 refine ops_some (a := bs.any fun b => decide (b = a)) ?_ h
 show (if (bs.map D.int).all (okD 8) then some ((toPys (bs.map D.int)).any fun y => PyData.eqv y (.int a)) else none) = _
 rw [if_pos e1]
 congr 1
 clear e1 h
 induction bs with
 | nil => rfl
 | cons b r ih =>
  show (PyData.eqv (.int b) (.int a) || (toPys (r.map D.int)).any _) = _
  rw [ih, eqv_int]; rfl
theorem tk_o {r : List UInt8} {b : List UInt8} {c : Cell} : ((m ++ [c]).set m.length (ocr b r)).take m.length = m := by rw [set_last, take_app]
theorem rd0 {b : List UInt8} : Rd (m ++ [ocr b b]) m.length b b := ⟨get_last, List.suffix_refl _⟩
theorem oc_at {b : List UInt8} : (m ++ [ocr b b])[m.length]? = some (oct b (b.length - b.length)) := get_last
theorem outline_empty_s {ab : D} (hg : gi = g) (hx : rows[g]? = some []) (h : P (outI [] []) m) : wp (rn (k + 3) (.meth (nm 119) (nm 77)) [tab rows, .int gi, ab] m) P X := by
 refine mth (q_GlyphTable_outline _ _ _ _ _) ?_
 refine m_glyph ?_
 refine glyph_octets_s hg hx ?_
 refine octets_s ?_
 refine a_oo oc_at ?_
 refine outline1_s (cs := []) ?_
 exact fz (plain_outI _ _) (pm take_app h)
theorem outline_simple_s {bs : List Int} {pts : List Pt} {box rle : List UInt8} {G : List Int} (hg : gi = g) (hx : rows[g]? = some (simB pts box rle)) (hb : box.length = 8) (hr : RFl rle (flagsOf 0 0 pts) G) (hl : pts.length <= 50) (hne : pts ≠ []) (hp : ∀ p ∈ pts, okP p)
  (h0 : (bs.any fun b => decide (b = gi)) = false) (h8 : bs.length < 8) (h : P (outI [pts] []) m) : wp (rn (k + 6) (.meth (nm 119) (nm 77)) [tab rows, .int gi, .tup (bs.map D.int)] m) P X := by
 obtain ⟨z, hz⟩ : ∃ z, fil (simB pts box rle) = p16 1 ++ (box ++ (p16 (-1 + pts.length) ++ (p16 0 ++ (rle ++ (acrossOf 0 pts ++ (upOf 0 pts ++ z)))))) := ⟨List.replicate (pad (simB pts box rle).length) 0, by
  show simB pts box rle ++ _ = _
  generalize List.replicate (pad (simB pts box rle).length) (0 : UInt8) = z
  unfold simB
  rw [List.append_assoc, List.append_assoc, List.append_assoc, List.append_assoc, List.append_assoc, List.append_assoc]⟩
 have hf : fil (simB pts box rle) ≠ [] := by rw [hz]; exact nofun
 refine mth (q_GlyphTable_outline _ _ _ _ _) ?_
 refine m_glyph ?_
 refine glyph_octets_s hg hx ?_
 generalize fil (simB pts box rle) = b at hz hf
 refine octets_s ?_
 refine a_oo oc_at ?_
 refine cff (bne hf) ?_
 refine inT ?_
 refine cff h0 ?_
 refine cf (by rw [List.length_map]; lia) ?_
 have R1 : Rd (m ++ [ocr b b]) m.length b (p16 1 ++ (box ++ (p16 (-1 + pts.length) ++ (p16 0 ++ (rle ++ (acrossOf 0 pts ++ (upOf 0 pts ++ z))))))) := hz ▸ rd0
 refine m_signed R1.at_ ?_
 refine signed_s R1 ?_
 have R2 := R1.next
 refine m_part R2.at_ ?_
 refine part_s R2 (by rw [hb]; rfl) ?_
 have R3 := R2.next
 refine read_simple_s (by lia) hl hne hp hr R3 ?_
 refine fz (plain_outI _ _) (pm ?_ h)
 rw [set3, tk_o]
noncomputable def whl (inn : Pa -> Option (List (List Pt))) : List Pa -> List (List Pt) -> Option (List (List Pt))
 | [], acc => some acc
 | p :: r, acc => match inn p with
  | none => none
  | some cs => match plc p cs acc with
   | none => none
   | some q => whl inn r (acc ++ q)
theorem comp_loop {bs : List Int} {inn : Pa -> Option (List (List Pt))} {N : VE -> Mem -> Prop} {R : D -> Mem -> Prop} : ∀ {ps : List Pa} {acc : List (List Pt)} {l : VE} {j : Nat}, (∀ p ∈ ps, okPa p) -> (∀ p ∈ ps, ∀ cs, inn p = some cs -> Sz 2 cs) -> Sz (2 * j) acc -> j + ps.length <= 3 -> bs.length <= 8 ->
  (∀ p ∈ ps, ∀ P X, orX (inn p) (fun cs => P (outI cs []) m) (X m) -> wp (rn (k + 3) (.meth (nm 119) (nm 77)) [tab rows, .int p.g, .tup (bs.map D.int ++ [.int gi])] m) P X) ->
  l 122 = some (tab rows) -> l 63 = some (.int gi) -> l 127 = some (.tup (bs.map D.int)) -> l 13 = some (consD acc) -> l 47 = some (.bytes []) ->
  orX (whl inn ps acc) (fun cs => ∀ l', l' 13 = some (consD cs) -> l' 47 = some (.bytes []) -> N l' m) (X m) ->
  lpU (tg1 48) (seqS (asg 66 (mcall (rn (k + 3)) (var 122) 77 [(att (var 48) 63), (bin .Add (var 127) (tupE [(var 63)]))])) (seqS (asg 13 (bin .Add (var 13) (call (rn (k + 3)) 72 [(var 48), (att (var 66) 13), (var 13)]))) nop)) N R X (ps.map Pa.inst) l m
 | [], acc, l, j, _, _, _, _, _, _, _, _, _, h4, h5, h => lp0 (h l h4 h5)
 | p :: r, acc, l, j, hp, hs, ha, hj, hb, hin, h1, h2, h3, h4, h5, h => by
  refine lpc (ops_some h1 (m_outline (a_g (ops_some h3 (ops_some h2 ?_)))))
  refine And.intro (by rw [List.length_map]; show _ + 1 <= 65536; lia) ?_
  refine hin p (List.mem_cons_self ..) _ _ ?_
  have hs1 := hs p (List.mem_cons_self ..)
  unfold whl at h
  cases e : inn p with
  | none => rw [e] at h; exact h
  | some cs =>
   rw [e] at h
   have h : orX (match plc p cs acc with | none => none | some q => whl inn r (acc ++ q)) _ (X m) := h
   have hz := hs1 cs e
   refine ops_some h4 (a_con (ops_some h4 ?_))
   refine placed_s (hp p (List.mem_cons_self ..)) hz (by lia) ha (by lia) ?_
   cases e2 : plc p cs acc with
   | none => rw [e2] at h; exact h
   | some q =>
    rw [e2] at h
    have hq := hz.plc e2
    have ha1 := ha.1
    have hq1 := hq.1
    refine And.intro (by rw [List.length_map, List.length_map]; show _ <= 65536; lia) ?_
    refine comp_loop (acc := acc ++ q) (j := j + 1) (fun q hq => hp q (List.mem_cons_of_mem _ hq)) (fun q hq => hs q (List.mem_cons_of_mem _ hq)) (ha.app hq) (by rw [Nat.add_assoc, Nat.add_comm 1]; exact hj) hb (fun q hq => hin q (List.mem_cons_of_mem _ hq)) h1 h2 h3 ?_ h5 h
    exact congrArg (fun z => some (D.lst z)) List.map_append.symm
theorem outline_comp_s {bs : List Int} {ps : List Pa} {bx : List UInt8} {inn : Pa -> Option (List (List Pt))} (hg : gi = g) (hx : rows[g]? = some ((p16 (-1) ++ bx) ++ strB ps)) (hb : bx.length = 8) (hp : ∀ p ∈ ps, okPa p) (hl : ps.length <= 3) (hne : ps ≠ [])
  (h0 : (bs.any fun b => decide (b = gi)) = false) (h8 : bs.length < 8) (hs : ∀ p ∈ ps, ∀ cs, inn p = some cs -> Sz 2 cs)
  (hin : ∀ p ∈ ps, ∀ m P X, orX (inn p) (fun cs => P (outI cs []) m) (X m) -> wp (rn (k + 5) (.meth (nm 119) (nm 77)) [tab rows, .int p.g, .tup (bs.map D.int ++ [.int gi])] m) P X)
  (h : orX (whl inn ps []) (fun cs => P (outI cs []) m) (X m)) : wp (rn (k + 6) (.meth (nm 119) (nm 77)) [tab rows, .int gi, .tup (bs.map D.int)] m) P X := by
 obtain ⟨z, hz⟩ : ∃ z, fil ((p16 (-1) ++ bx) ++ strB ps) = p16 (-1) ++ (bx ++ (strB ps ++ z)) := ⟨_, by
  show ((p16 (-1) ++ bx) ++ strB ps) ++ _ = _
  rw [List.append_assoc, List.append_assoc]⟩
 have hf : fil ((p16 (-1) ++ bx) ++ strB ps) ≠ [] := by rw [hz]; exact nofun
 refine mth (q_GlyphTable_outline _ _ _ _ _) ?_
 refine m_glyph ?_
 refine glyph_octets_s hg hx ?_
 generalize fil ((p16 (-1) ++ bx) ++ strB ps) = b at hz hf
 refine octets_s ?_
 refine a_oo oc_at ?_
 refine cff (bne hf) ?_
 refine inT ?_
 refine cff h0 ?_
 refine cf (by rw [List.length_map]; lia) ?_
 have R1 : Rd (m ++ [ocr b b]) m.length b (p16 (-1) ++ (bx ++ (strB ps ++ z))) := hz ▸ rd0
 refine m_signed R1.at_ ?_
 refine signed_s R1 ?_
 have R2 := R1.next
 refine m_part R2.at_ ?_
 refine part_s R2 (by rw [hb]; rfl) ?_
 have R3 := R2.next
 refine read_parts_s hp (by lia) R3 hne ?_
 refine And.intro (by rw [List.length_map]; show _ <= 65536; lia) (.inr ?_)
 refine comp_loop (bs := bs) (inn := inn) (acc := []) (j := 0) hp hs ⟨Nat.le_refl _, fun c hc => absurd hc List.not_mem_nil⟩ (by lia) (by lia) (fun p hp => hin p hp _) rfl rfl rfl rfl rfl ?_
 have em : ((((m ++ [ocr b b]).set m.length (ocr b (bx ++ (strB ps ++ z)))).set m.length (ocr b (strB ps ++ z))).set m.length (ocr b z)).take m.length = m := by rw [set3, tk_o]
 cases e : whl inn ps [] with
 | none =>
  rw [e] at h
  exact (congrArg X em).mpr h
 | some cs =>
  rw [e] at h
  exact fun l' h1 h2 => ops_some h1 (ops_some h2 (outline_s (fz (plain_outI _ _) (pm em h))))
end
section
variable {m : Mem} {k o n g : Nat} {P : D -> Mem -> Prop} {X : Mem -> Prop} {rows : List (List UInt8)} {gi : Int}
theorem parts_comp_s {ps : List Pa} {bx : List UInt8} (hg : gi = g) (hx : rows[g]? = some ((p16 (-1) ++ bx) ++ strB ps)) (hb : bx.length = 8) (hp : ∀ p ∈ ps, okPa p) (hl : ps.length <= 50) (hne : ps ≠ []) (h : P (.lst (ps.map Pa.inst)) m) : wp (rn (k + 6) (.meth (nm 119) (nm 86)) [tab rows, .int gi] m) P X := by
 obtain ⟨z, hz⟩ : ∃ z, fil ((p16 (-1) ++ bx) ++ strB ps) = p16 (-1) ++ (bx ++ (strB ps ++ z)) := ⟨_, by
  show ((p16 (-1) ++ bx) ++ strB ps) ++ _ = _
  rw [List.append_assoc, List.append_assoc]⟩
 have hf : fil ((p16 (-1) ++ bx) ++ strB ps) ≠ [] := by rw [hz]; exact nofun
 refine mth (q_GlyphTable_parts _ _ _ _) ?_
 refine m_glyph ?_
 refine glyph_octets_s hg hx ?_
 generalize fil ((p16 (-1) ++ bx) ++ strB ps) = b at hz hf
 refine octets_s ?_
 refine a_oo oc_at ?_
 refine cff (bne hf) ?_
 have R1 : Rd (m ++ [ocr b b]) m.length b (p16 (-1) ++ (bx ++ (strB ps ++ z))) := hz ▸ rd0
 refine m_signed R1.at_ ?_
 refine signed_s R1 ?_
 have R2 := R1.next
 refine m_part R2.at_ ?_
 refine part_s R2 (by rw [hb]; rfl) ?_
 have R3 := R2.next
 refine read_parts_s hp hl R3 hne ?_
 refine oT 0 rfl rfl ?_
 refine fz (plain_parts ps) (pm ?_ h)
 rw [set3, tk_o]
theorem parts_simple_s {pts : List Pt} {box rle : List UInt8} (hg : gi = g) (hx : rows[g]? = some (simB pts box rle)) (h : P .none m) : wp (rn (k + 6) (.meth (nm 119) (nm 86)) [tab rows, .int gi] m) P X := by
 obtain ⟨z, hz⟩ : ∃ z, fil (simB pts box rle) = p16 1 ++ z := ⟨_, rfl⟩
 have hf : fil (simB pts box rle) ≠ [] := by rw [hz]; exact nofun
 refine mth (q_GlyphTable_parts _ _ _ _) ?_
 refine m_glyph ?_
 refine glyph_octets_s hg hx ?_
 generalize fil (simB pts box rle) = b at hz hf
 refine octets_s ?_
 refine a_oo oc_at ?_
 refine cff (bne hf) ?_
 have R1 : Rd (m ++ [ocr b b]) m.length b (p16 1 ++ z) := hz ▸ rd0
 refine m_signed R1.at_ ?_
 refine signed_s R1 ?_
 exact pm tk_o h
theorem outline2 {a b : D} : rn (k + 1) (.meth (nm 119) (nm 77)) [a, b] m = rn (k + 1) (.meth (nm 119) (nm 77)) [a, b, .tup []] m := by
 rw [rn_meth, rn_meth, q_GlyphTable_outline_2, q_GlyphTable_outline]
noncomputable abbrev src (a b : Int) : Cell := .lst [.int a, .int b]
theorem setI_ok {j i : Nat} {ds : List D} {d : D} {v : Int} {K : Mem -> Prop} (em : m[j]? = some (.lst ds)) (ei : v = i) (hi : i < ds.length) (e1 : plain d = true) (h : K (m.set j (.lst (ds.set i d)))) : setIV m (.cell j) (.int v) d K := by
 rw [ei]
 exact ⟨j, i, ds, rfl, rfl, em, by rw [e1, decide_eq_true (Int.natCast_nonneg i), decide_eq_true (Int.ofNat_lt.mpr hi)]; rfl, h⟩
theorem take_s {s : Nat} {a b t : Int} (hs : m[s]? = some (src a b)) (ht : divOk t = true) (h : ∀ r a' b', 0 <= r -> r < t -> P (.int r) (m.set s (src a' b'))) : wp (rn (k + 1) (.top (nm 103)) [.cell s, .int t] m) P X := by
 have tp := (divOk_is ht).1
 have hp : posOk t = true := by
  induction t with
  | ofNat n => exact ((Bool.and_eq_true _ _).mp ht).1
  | negSucc n => exact nomatch ht
 have hr : ∀ x : Int, 0 <= x % t /\ x % t < t := fun x => ⟨Int.emod_nonneg _ (Int.ne_of_gt tp), Int.emod_lt_of_pos _ tp⟩
 refine top (q_law_take _ _ _ _) ?_
 refine oC 0 hs rfl rfl ?_
 refine csp (fun _ => ?_) fun _ => ?_
 ·refine oC 0 hs rfl rfl ?_
  refine ctt hp ?_
  refine oC 0 hs rfl rfl ?_
  refine ctt ht ?_
  refine setI_ok (v := 0) (i := 0) (d := .int (a / t)) hs rfl (by show 0 < 2; decide) rfl ?_
  exact pm take_set (h _ _ _ (hr _).1 (hr _).2)
 ·refine oC 1 hs rfl rfl ?_
  refine And.intro (mr rfl) ?_
  refine setI_ok (v := 1) (i := 1) (d := .int ((b * 39373 + 7) % 2147483647)) hs rfl (by show 1 < 2; decide) rfl ?_
  have hs2 := get_set (d := src a ((b * 39373 + 7) % 2147483647)) hs
  refine oC 1 hs2 rfl rfl ?_
  refine oC 1 hs2 rfl rfl ?_
  have hb : 0 <= (b * 39373 + 7) % 2147483647 /\ (b * 39373 + 7) % 2147483647 < 2147483647 := ⟨Int.emod_nonneg _ (by decide), Int.emod_lt_of_pos _ (by decide)⟩
  refine And.intro (ml (decide_eq_true (by lia))) ?_
  refine ctt hp ?_
  exact pm take_set (h _ _ _ (hr _).1 (hr _).2)
theorem one_s {s : Nat} {a b : Int} {ds : List D} (hs : m[s]? = some (src a b)) (hd : divOk ds.length = true) (hp : plain (.lst ds) = true) (h : ∀ (i : Nat) d a' b', ds[i]? = some d -> P d (m.set s (src a' b'))) : wp (rn (k + 2) (.top (nm 105)) [.cell s, .lst ds] m) P X := by
 refine top (q_law_one _ _ _ _) ?_
 refine take_s hs hd fun r a' b' h0 h1 => ?_
 obtain ⟨d, hg⟩ : ∃ d, ds[r.toNat]? = some d := ⟨ds[r.toNat], List.getElem?_eq_getElem (by lia)⟩
 refine oL r.toNat (Int.toNat_of_nonneg h0).symm hg ?_
 have pl : ∀ {ds : List D} {i : Nat} {d : D}, plain.plains ds = true -> ds[i]? = some d -> plain d = true := fun {ds} => by
  induction ds with
  | nil => exact fun _ e => nomatch e
  | cons x r ih =>
   intro i d h e
   have h := (Bool.and_eq_true _ _).mp h
   induction i using Nat.casesAuxOn with
   | zero => obtain rfl := Option.some.inj e; exact h.1
   | succ i => exact ih h.2 e
 exact fz (pl hp hg) (pm take_set (h _ _ _ _ hg))
end
section
variable {m : Mem} {k o n s : Nat} {P : D -> Mem -> Prop} {X : Mem -> Prop} {a b : Int}
structure Cs where
 pts : List Pt
 a : Int
 b : Int
theorem fz_lc {i n : Nat} {ds : List D} {Q : D -> Prop} (e : m[i]? = some (.lst ds)) (hn : n <= i) (h : Q (.lst [.lst ds])) : ops (freeze m n (.lst [.cell i])) Q := by
 have h1 : freeze m n (.cell i) = some (.lst ds) := by
  show (if i < n then some (D.cell i) else match m[i]? with | some (.lst ds) => some (.lst ds) | _ => none) = _
  rw [if_neg (Nat.not_lt_of_le hn), e]
 refine ops_some (a := .lst [.lst ds]) ?_ h
 show (match freeze m n (.cell i), some [] with | some d, some ds => some (d :: ds) | _, _ => none : Option (List D)).map D.lst = _
 rw [h1]; rfl
theorem contours_s (hs : m[s]? = some (src a b)) (h : ∀ pts a' b', pts ≠ [] -> pts.length <= 4 -> (∀ p ∈ pts, okP p) -> P (consD [pts]) (m.set s (src a' b'))) : wp (rn (k + 2) (.top (nm 107)) [.cell s] m) P X := by
 have hlt : s < m.length := (List.getElem?_eq_some_iff.mp hs).1
 refine top (q_law_contours _ _ _) ?_
 refine take_s (get_old hs) rfl fun r a1 b1 r0 r1 => ?_
 refine And.intro ⟨by lia, by show _ <= (65536 : Int); lia⟩ (And.intro (by show (2 + r).toNat <= 65536; lia) ?_)
 refine lp_st (List.range (2 + r).toNat) (fun i : Nat => D.int i) (fun pre (q : Cs) => q.pts.length = pre.length /\ ∀ p ∈ q.pts, okP p) (fun _ => [(100, .cell s), (4, .cell m.length)]) (fun q => (m ++ [Cell.lst (q.pts.map ptD)]).set s (src q.a q.b)) ⟨[], a1, b1⟩ ⟨rfl, nofun⟩ ⟨rfl, rfl, trivial⟩ rfl (fun pre i suf ⟨pts, a2, b2⟩ N' e ⟨hl, hp⟩ hN => ?_) fun ⟨pts, a2, b2⟩ ⟨hl, hp⟩ => ?_
 ·have hl : pts.length = pre.length := hl
  have hp : ∀ p ∈ pts, okP p := hp
  have g0 : ∀ c d : Int, ((m ++ [Cell.lst (pts.map ptD)]).set s (src c d))[s]? = some (src c d) := fun c d => get_set (get_old hs)
  refine And.intro ⟨_, fo_get hlt⟩ ?_
  refine take_s (g0 _ _) rfl fun x a3 b3 x0 x1 => ?_
  rw [set2]
  refine take_s (g0 _ _) rfl fun y a4 b4 y0 y1 => ?_
  rw [set2]
  refine take_s (g0 _ _) rfl fun c a5 b5 c0 c1 => ?_
  rw [set2]
  have hi := (range_at e).2
  refine app_ok (fo_get hlt) rfl (by rw [List.length_map, hl]; have := (range_at e).1; lia) ?_
  rw [fo_set hlt]
  refine hN ⟨pts ++ [(x - 300, y - 20, decide (c = 0))], a5, b5⟩ _ _ ⟨by rw [List.length_append, List.length_append, hl]; rfl, fun p hq => ?_⟩ ⟨rfl, rfl, trivial⟩ (by rw [List.map_append]; rfl)
  rcases List.mem_append.mp hq with hq | hq
  ·exact hp p hq
  ·rw [List.mem_singleton.mp hq]
   exact ⟨⟨by show _ <= x - 300; lia, by show x - 300 <= _; lia⟩, by show _ <= y - 20; lia, by show y - 20 <= _; lia⟩
 ·have hl : pts.length = (2 + r).toNat := by rw [<- List.length_range (n := (2 + r).toNat)]; exact hl
  refine fz_lc (fo_get hlt) (Nat.le_refl _) (pm take_set_app (h pts a2 b2 (fun e => ?_) (by lia) hp))
  rw [e] at hl
  have hl : 0 = (2 + r).toNat := hl
  lia
noncomputable def scsL : List D := [.tup [.int 16384, .int 0, .int 0, .int 16384], .tup [.int 8192, .int 0, .int 0, .int 8192], .tup [.int (-16384), .int 0, .int 0, .int 16384], .tup [.int 0, .int 16384, .int (-16384), .int 0], .tup [.int 24576, .int 0, .int 0, .int 5000]]
theorem scs_at : ∀ {i : Nat} {d : D}, scsL[i]? = some d -> ∃ a b c e, d = .tup [.int a, .int b, .int c, .int e] /\ isSc a b c e
 | 0, _, h => ⟨_, _, _, _, (Option.some.inj h).symm, .inl ⟨rfl, rfl, rfl, rfl⟩⟩
 | 1, _, h => ⟨_, _, _, _, (Option.some.inj h).symm, .inr (.inl ⟨rfl, rfl, rfl, rfl⟩)⟩
 | 2, _, h => ⟨_, _, _, _, (Option.some.inj h).symm, .inr (.inr (.inl ⟨rfl, rfl, rfl, rfl⟩))⟩
 | 3, _, h => ⟨_, _, _, _, (Option.some.inj h).symm, .inr (.inr (.inr (.inl ⟨rfl, rfl, rfl, rfl⟩)))⟩
 | 4, _, h => ⟨_, _, _, _, (Option.some.inj h).symm, .inr (.inr (.inr (.inr ⟨rfl, rfl, rfl, rfl⟩)))⟩
 | n + 5, _, h => nomatch h
theorem menu_at {is : List Int} {i : Nat} {d : D} (h : (is.map D.int)[i]? = some d) : ∃ v ∈ is, d = .int v := by
 rw [List.getElem?_map] at h
 cases e : is[i]? with
 | none => rw [e] at h; exact nomatch h
 | some v => rw [e] at h; exact ⟨v, List.mem_of_getElem? e, (Option.some.inj h).symm⟩
theorem part_s2 {g : Int} (hs : m[s]? = some (src a b)) (hg : 0 <= g /\ g < 65536) (h : ∀ (p : Pa) a' b', okPa p -> p.g = g -> P p.row (m.set s (src a' b'))) : wp (rn (k + 3) (.top (nm 108)) [.cell s, .int g] m) P X := by
 refine top (q_law_part _ _ _ _) ?_
 refine one_s (ds := scsL) hs rfl rfl fun i d a1 b1 hd => ?_
 refine e4_2 (scs_at hd) fun sa sb sc sd ee1 hsc => ?_; subst ee1
 have g0 : ∀ c d : Int, (m.set s (src c d))[s]? = some (src c d) := fun c d => get_set hs
 refine take_s (g0 _ _) rfl fun r a2 b2 _ _ => ?_
 rw [set2]
 refine csp (fun _ => ?_) fun _ => ?_
 ·refine take_s (g0 _ _) rfl fun x a3 b3 x0 x1 => ?_
  rw [set2]
  refine take_s (g0 _ _) rfl fun y a4 b4 y0 y1 => ?_
  rw [set2]
  exact pm take_set (h ⟨g, x, y, false, sa, sb, sc, sd⟩ a4 b4 ⟨hsc, fun _ => ⟨⟨x0, by show x < 256; lia⟩, y0, by show y < 256; lia⟩, ⟨by show _ <= x; lia, by show x < _; lia⟩, ⟨by show _ <= y; lia, by show y < _; lia⟩, hg⟩ rfl)
 ·refine one_s (ds := [0, 5, -128, 300].map D.int) (g0 _ _) rfl rfl fun i d a3 b3 hd => ?_
  refine e1_2 (menu_at hd) fun x hx ee1 => ?_; subst ee1
  rw [set2]
  refine one_s (ds := [0, -6, 127, -400].map D.int) (g0 _ _) rfl rfl fun i d a4 b4 hd => ?_
  refine e1_2 (menu_at hd) fun y hy ee1 => ?_; subst ee1
  rw [set2]
  have bx : ∀ x ∈ [(0 : Int), 5, -128, 300], -32768 <= x /\ x < 32768 := by decide
  have b_y : ∀ x ∈ [(0 : Int), -6, 127, -400], -32768 <= x /\ x < 32768 := by decide
  exact pm take_set (h ⟨g, x, y, true, sa, sb, sc, sd⟩ a4 b4 ⟨hsc, nofun, bx x hx, b_y y hy, hg⟩ rfl)
theorem two_half (w : Int) : (2 * w + 16384) / 32768 = (w + 8192) / 16384 := by lia
theorem scaled_s {x y a b c d : Int} (hs : isSc a b c d) (h : P (.tup [.int ((a * x + c * y + 8192) / 16384), .int ((b * x + d * y + 8192) / 16384)]) m) : wp (rn (k + 1) (.top (nm 109)) [.int x, .int y, .tup [.int a, .int b, .int c, .int d]] m) P X := by
 obtain ⟨⟨sa, sb⟩, sc, sd⟩ := sc_small hs
 refine top0 (q_law_scaled _ _ _ _ _) ?_
 refine oT 0 rfl rfl (And.intro (ml sa) ?_)
 refine oT 2 rfl rfl (And.intro (ml sc) ?_)
 refine oT 1 rfl rfl (And.intro (ml sb) ?_)
 refine oT 3 rfl rfl (And.intro (ml sd) ?_)
 refine And.intro (ml rfl) (And.intro (ml rfl) ?_)
 rw [<- two_half, <- two_half] at h
 exact And.intro rfl h
end
noncomputable def optD : Option (List (List Pt)) -> D
 | some cs => consD cs
 | none => .none
theorem plain_optD (r : Option (List (List Pt))) : plain (optD r) = true := by
 induction r with
 | none => rfl
 | some cs => exact plain_conS cs
theorem flat_ptD (F : List (List Pt)) : (F.map (fun c => c.map ptD)).flatten = F.flatten.map ptD := List.map_flatten.symm
section
variable {m : Mem} {k o n s : Nat} {P : D -> Mem -> Prop} {X : Mem -> Prop} {a b : Int}
theorem put_s {p : Pa} {inner acc : List (List Pt)} {n2 : Nat} (hp : okPa p) (hz : Sz n inner) (hn : n <= 20) (hz2 : Sz n2 acc) (hn2 : n2 <= 20) (h : P (optD ((plc p inner acc).map (acc ++ ·))) m) : wp (rn (k + 2) (.top (nm 111)) [consD acc, p.row, consD inner] m) P X := by
 have hzF := hz.map (tnP p.a p.b p.c p.d)
 refine top0 (q_law_put _ _ _ _ _) ?_
 refine And.intro (by rw [List.length_map]; show _ <= 65536; have := hz.1; lia) ⟨_, all2_map (g := fun c => conD (c.map (tnP p.a p.b p.c p.d))) fun c hc => ?_, ?_⟩
 ·refine And.intro (by rw [List.length_map]; show _ <= 65536; have := hz.2 c hc; lia) ⟨_, all2_map (g := fun q => ptD (tnP p.a p.b p.c p.d q)) fun q _ => scaled_s hp.sc (And.intro (by show 3 <= 65536; decide) (And.intro rfl rfl)), ?_⟩
  exact And.intro (by show _ = D.lst _; rw [List.map_map]; rfl) rfl
 have eF : inner.map (fun c => conD (c.map (tnP p.a p.b p.c p.d))) = (inner.map (List.map (tnP p.a p.b p.c p.d))).map conD := by rw [List.map_map]; rfl
 rw [eF]
 unfold plc at h
 generalize inner.map (List.map (tnP p.a p.b p.c p.d)) = F at h hzF
 have fl1 : acc.flatten.length <= 1000 := Nat.le_trans hz2.flat (by lia)
 have l1 : acc.length <= 100 := Nat.le_trans hz2.1 (by lia)
 have l2 : F.length <= 100 := Nat.le_trans hzF.1 (by lia)
 have lz : (F.map conD).length <= cap := by rw [List.length_map]; show _ <= 65536; lia
 refine And.intro lz ⟨_, all2_map (g := fun c => c.map ptD) fun c hc => And.intro rfl (And.intro (by rw [List.length_map]; have := hzF.2 c hc; lia) (all2_map (g := ptD) fun q _ => And.intro rfl rfl)), ?_⟩
 rw [flat_ptD]
 refine And.intro (by rw [List.length_map]; show _ <= 65536; lia) ?_
 refine lp_ty acc conD (fun pre => [(13, consD acc), (0, consD F), (4, .lst (F.flatten.map ptD)), (67, .lst (pre.flatten.map ptD)), (60, .int p.f), (61, .int p.s), (59, .bool p.mv)]) (fun _ => m) ⟨rfl, rfl, rfl, rfl, rfl, rfl, rfl, trivial⟩ rfl (fun pre x suf N' e hN => ?_) ?_
 ·refine And.intro (len_map (by rw [List.length_map]; have := flat_len (pre := pre) (x := x) (suf := suf); rw [<- e] at this; show _ <= 65536; lia)) ?_
  exact hN _ _ ⟨rfl, rfl, rfl, by rw [List.flatten_append, List.map_append, List.flatten_cons, List.flatten_nil, List.append_nil]; rfl, rfl, rfl, rfl, trivial⟩ rfl
 have fin : ∀ (f s : Int) l', Has l' [(13, consD acc), (0, consD F), (60, .int f), (61, .int s)] -> P (consD (acc ++ F.map (List.map (mvP f s)))) m ->
   (seqS (retS (bin .Add (var 13) (comp1 (comp1 (tupE [(bin .Add (var 7) (var 60)), (bin .Add (var 9) (var 61)), (var 10)]) (tgN [7, 9, 10]) (var 11) [(12, .local), (7, .local), (9, .local), (10, .local), (60, .free), (61, .free)]) (tg1 11) (var 0) [(12, .local), (11, .local), (60, .free), (61, .free)]))) nop).vc l' m (fun _ m' => m' = m /\ P .none m) (keep m P) (fun m' => m' = m /\ X m) := fun f s l' ⟨h1, h2, h3, h4, _⟩ h => by
  have hz3 := hzF.map (mvP f s)
  refine ops_some h1 (ops_some h2 ?_)
  refine And.intro lz ⟨_, all2_map (g := fun c => conD (c.map (mvP f s))) fun c hc => ?_, ?_⟩
  ·refine And.intro (by rw [List.length_map]; show _ <= 65536; have := hzF.2 c hc; lia) ⟨_, all2_map (g := fun q => ptD (mvP f s q)) fun q _ => ops_some h3 (ops_some h4 (And.intro rfl rfl)), ?_⟩
   exact And.intro (by show _ = D.lst _; rw [List.map_map]; rfl) rfl
  ·have e : F.map (fun c => conD (c.map (mvP f s))) = (F.map (List.map (mvP f s))).map conD := by rw [List.map_map]; rfl
   refine And.intro (by rw [List.length_map, List.length_map]; show _ <= 65536; lia) (And.intro rfl ?_)
   have e2 : D.lst (acc.map conD ++ F.map (fun c => conD (c.map (mvP f s)))) = consD (acc ++ F.map (List.map (mvP f s))) := by rw [e]; exact congrArg D.lst List.map_append.symm
   rw [e2]
   exact fz (plain_conS _) h
 refine cbo (fun c => ?_) fun c => ?_
 ·have c : p.mv = false := by cases e : p.mv with | true => rw [e] at c; exact nomatch c | false => rfl
  rw [c] at h
  obtain ⟨⟨f0, f1⟩, s0, s1⟩ := hp.pt c
  refine csp (fun hc => ?_) fun hc => ?_
  ·rw [pts_no hc] at h
   exact And.intro rfl h
  refine e1_3 (pts_get f0 hc) fun u hu hum hui => ?_
  rw [hu] at h
  refine csp (fun hc => ?_) fun hc => ?_
  ·rw [pts_no hc] at h
   exact And.intro rfl h
  refine e1_3 (pts_get s0 hc) fun v hv hvm hvi => ?_
  rw [hv] at h
  refine oL p.f.toNat hui hum (oT 0 rfl rfl ?_)
  refine oL p.s.toNat hvi hvm (oT 0 rfl rfl ?_)
  refine oL p.f.toNat hui hum (oT 1 rfl rfl ?_)
  refine oL p.s.toNat hvi hvm (oT 1 rfl rfl ?_)
  exact fin (u.1 - v.1) (u.2.1 - v.2.1) (st 61 (.int (u.2.1 - v.2.1)) (st 60 (.int (u.1 - v.1)) (lk [(13, consD acc), (0, consD F), (4, .lst (F.flatten.map ptD)), (67, .lst (acc.flatten.map ptD)), (60, .int p.f), (61, .int p.s), (59, .bool p.mv)]))) ⟨rfl, rfl, rfl, rfl, trivial⟩ h
 ·have c : p.mv = true := by cases e : p.mv with | false => rw [e] at c; exact nomatch c | true => rfl
  rw [c] at h
  exact fin p.f p.s (lk [(13, consD acc), (0, consD F), (4, .lst (F.flatten.map ptD)), (67, .lst (acc.flatten.map ptD)), (60, .int p.f), (61, .int p.s), (59, .bool p.mv)]) ⟨rfl, rfl, rfl, rfl, trivial⟩ h
theorem whl_none {inn : Pa -> Option (List (List Pt))} {p : Pa} {r : List Pa} {cs acc : List (List Pt)} (e : inn p = some cs) (e2 : plc p cs acc = none) : whl inn (p :: r) acc = none := by
 show (match inn p with | none => none | some cs => match plc p cs acc with | none => none | some q => whl inn r (acc ++ q)) = none
 rw [e]
 show (match plc p cs acc with | none => none | some q => whl inn r (acc ++ q)) = none
 rw [e2]
theorem whl_some {inn : Pa -> Option (List (List Pt))} {p : Pa} {r : List Pa} {cs acc q : List (List Pt)} (e : inn p = some cs) (e2 : plc p cs acc = some q) : whl inn (p :: r) acc = whl inn r (acc ++ q) := by
 show (match inn p with | none => none | some cs => match plc p cs acc with | none => none | some q => whl inn r (acc ++ q)) = _
 rw [e]
 show (match plc p cs acc with | none => none | some q => whl inn r (acc ++ q)) = _
 rw [e2]
theorem whole_loop {c : Nat} {ks : List D} {inn : Pa -> Option (List (List Pt))} (hm : m[c]? = some (.lst ks)) {R : D -> Mem -> Prop} {N : VE -> Mem -> Prop} : ∀ {ps : List Pa} {acc : List (List Pt)} {l : VE} {j : Nat}, (∀ p ∈ ps, okPa p) -> (∀ p ∈ ps, ∃ cs g, inn p = some cs /\ Sz 2 cs /\ p.g = (g : Nat) /\ ks[g]? = some (consD cs)) -> Sz (2 * j) acc -> j + ps.length <= 3 ->
  l 112 = some (.cell c) -> l 0 = some (consD acc) -> (∀ l', l' 0 = some (optD (whl inn ps acc)) -> whl inn ps acc ≠ none -> N l' m) -> (whl inn ps acc = none -> R .none m) ->
  lpU (tg1 48) (seqS (asg 0 (call (rn (k + 2)) 111 [(var 0), (var 48), (sub (var 112) (sub (var 48) (cst (.int 0))))])) (seqS (ifS (cmpB .Is (var 0) (cst .none)) (seqS (retS (cst .none)) nop) nop) nop)) N R X (ps.map Pa.row) l m
 | [], acc, l, j, _, _, _, _, _, h2, h3, _ => lp0 (h3 l h2 nofun)
 | p :: r, acc, l, j, hp, hk, ha, hj, h1, h2, h3, h4 => by
  refine e2_4 (hk p (List.mem_cons_self ..)) fun cs g e1 hz eg hg => ?_
  refine lpc (ops_some h2 (ops_some h1 (oT 0 rfl rfl (oC g hm eg hg ?_))))
  refine put_s (hp p (List.mem_cons_self ..)) hz (by lia) ha (by lia) ?_
  cases e2 : plc p cs acc with
  | none => exact h4 (whl_none e1 e2)
  | some q =>
   rw [whl_some e1 e2] at h3 h4
   refine whole_loop hm (acc := acc ++ q) (j := j + 1) (fun q hq => hp q (List.mem_cons_of_mem _ hq)) (fun q hq => hk q (List.mem_cons_of_mem _ hq)) (ha.app (hz.plc e2)) (by rw [Nat.add_assoc, Nat.add_comm 1]; exact hj) h1 rfl h3 h4
theorem whole_s {c : Nat} {ks : List D} {ps : List Pa} {inn : Pa -> Option (List (List Pt))} (hm : m[c]? = some (.lst ks)) (hp : ∀ p ∈ ps, okPa p) (hl : ps.length <= 3) (hk : ∀ p ∈ ps, ∃ cs g, inn p = some cs /\ Sz 2 cs /\ p.g = (g : Nat) /\ ks[g]? = some (consD cs)) (h : P (optD (whl inn ps [])) m) : wp (rn (k + 3) (.top (nm 113)) [.lst (ps.map Pa.row), .cell c] m) P X := by
 refine top0 (q_law_whole _ _ _ _) ?_
 refine And.intro (by rw [List.length_map]; show _ <= 65536; lia) (.inr ?_)
 refine whole_loop (inn := inn) (acc := []) (j := 0) hm hp hk ⟨Nat.le_refl _, fun c hc => absurd hc List.not_mem_nil⟩ (by lia) rfl rfl (fun l' h1 _ => ops_some h1 (And.intro rfl (fz (plain_optD _) h))) fun e => ?_
 rw [e] at h
 exact And.intro rfl h
theorem told_s {t gl : D} {r : Option (List (List Pt))} {n2 : Nat} (hz : ∀ cs, r = some cs -> Sz n2 cs) (hn : n2 <= 60) (hmt : ∀ K : Str -> Prop, K (nm 119) -> mthV 77 m t K) (ho : ∀ P X, orX r (fun cs => P (outI cs []) m) (X m) -> wp (rn k (.meth (nm 119) (nm 77)) [t, gl] m) P X) (h : P (optD r) m) : wp (rn (k + 1) (.top (nm 117)) [t, gl] m) P X := by
 refine top0 (q_law_told _ _ _ _) ?_
 refine hmt _ ?_
 refine ho _ _ ?_
 induction r with
 | none => exact And.intro rfl h
 | some cs =>
  have hz := hz cs rfl
  refine a_con ?_
  refine And.intro (by rw [List.length_map]; show _ <= 65536; have := hz.1; lia) ⟨_, all2_map (g := conD) fun c _ => And.intro rfl rfl, ?_⟩
  exact And.intro rfl (fz (plain_conS cs) h)
end
theorem canLay : (∀ d : D, (toPy d).canLay0 = true) := fun d =>
 D.rec (motive_1 := fun d => (toPy d).canLay0 = true) (motive_2 := fun ds => PyData.canLayAll0 (toPys ds) = true) (motive_3 := fun _ => True) (motive_4 := fun _ => True)
  rfl (fun _ => rfl) (fun _ => rfl) (fun _ => rfl) (fun _ => rfl) (fun _ h => h) (fun _ h => h) (fun _ _ _ => rfl) (fun _ => rfl) (fun _ => rfl) rfl (fun _ _ h1 h2 => (Bool.and_eq_true _ _).mpr ⟨h1, h2⟩) trivial (fun _ _ _ _ => trivial) (fun _ _ _ => trivial) d
theorem eqRefl {m : Mem} {d : D} {Q : Bool -> Prop} (ho : okD 8 d = true) (hf : frz m d = d) (h : Q true) : eqO m d d Q := by
 refine eqo (c := true) ?_ h
 rw [hf]
 have key : (if okD 8 d && okD 8 d then some (PyData.eqv (toPy d) (toPy d)) else none) = some true := by
  rw [ho, PySem.SeqAt.eqv_refl _ (canLay d)]; rfl
 induction d using D.casesOn with
 | bytes b => exact nomatch ho
 | lst ds => induction ds using List.casesOn <;> exact key
 | _ => exact key
theorem ok_pt (p : Pt) (n : Nat) : okD (n + 1) (ptD p) = true := by induction n using Nat.casesAuxOn <;> rfl
theorem ok_map {γ : Type} {f : γ -> D} {n : Nat} (h : ∀ x, okD n (f x) = true) (xs : List γ) : okD (n + 1) (.lst (xs.map f)) = true := by
 show (xs.map f).all (okD n) = true
 rw [List.all_map]; exact List.all_eq_true.mpr fun x _ => h x
theorem ok_optD (r : Option (List (List Pt))) : okD 8 (optD r) = true := by
 induction r with
 | none => rfl
 | some cs => exact ok_map (ok_map (fun p => ok_pt p 5)) cs
theorem eqVR {m : Mem} {Q : Bool -> Prop} (r : Option (List (List Pt))) (h : Q true) : eqV m (optD r) (optD r) Q := by
 induction r with
 | none => exact eqRefl (ok_optD none) rfl h
 | some cs => exact eqRefl (ok_optD (some cs)) rfl h
theorem neVR {m : Mem} {Q : Bool -> Prop} (r : Option (List (List Pt))) (h : Q false) : cmpV m .NotEq (optD r) (optD r) Q := eqVR (Q := fun b => Q (!b)) r h
theorem ok_rows (ps : List Pa) : okD 8 (.lst (ps.map Pa.row)) = true := ok_map (fun _ => rfl) ps
theorem wp_ex {α β : Type} {r : Res α} {Q : β -> Prop} {f : β -> α} {m : Mem} (h : wp r (fun d m' => ∃ e, Q e /\ d = f e /\ m' = m) fun _ => False) : ∃ e, Q e /\ wp r (itm (f e) m) fun _ => False := by
 induction r with
 | ok d m' => refine e1_3 h.out fun e hq h1 h2 => ?_; exact ⟨e, hq, ⟨⟨h1, h2⟩⟩⟩
 | exc m' => exact h.out.elim
 | stuck => exact h.out.elim
theorem whl_sz {inn : Pa -> Option (List (List Pt))} {n : Nat} : ∀ {ps : List Pa} {j : Nat} {acc r : List (List Pt)}, (∀ p ∈ ps, ∀ cs, inn p = some cs -> Sz n cs) -> Sz j acc -> whl inn ps acc = some r -> Sz (j + n * ps.length) r
 | [], j, acc, r, _, ha, e => by obtain rfl := Option.some.inj e; exact ha
 | p :: ps, j, acc, r, h, ha, e => by
  cases e1 : inn p with
  | none =>
   have : whl inn (p :: ps) acc = none := by
    show (match inn p with | none => none | some cs => match plc p cs acc with | none => none | some q => whl inn ps (acc ++ q)) = none
    rw [e1]
   rw [this] at e; exact nomatch e
  | some cs =>
   cases e2 : plc p cs acc with
   | none => rw [whl_none e1 e2] at e; exact nomatch e
   | some q =>
    rw [whl_some e1 e2] at e
    have := whl_sz (fun q hq => h q (List.mem_cons_of_mem _ hq)) (ha.app ((h p (List.mem_cons_self ..) cs e1).plc e2)) e
    rw [List.length_cons, Nat.mul_succ, Nat.add_comm (n * ps.length), <- Nat.add_assoc]; exact this
section
variable {m : Mem} {k o n g : Nat} {P : D -> Mem -> Prop} {X : Mem -> Prop} {rows : List (List UInt8)} {gi : Int}
theorem pool_s {ns : List Int} (h : ∀ a b, P (.cell m.length) (m ++ [src a b])) : wp (rn (k + 1) (.top (nm 99)) [.lst (ns.map D.int), .int 0] m) P X := by
 rw [rn_top, q_law_pool]
 refine wp_finC (sb_vs _) ?_
 have b01 : ∀ c : Bool, decide ((if c then (1 : Int) else 0).natAbs < 2 ^ 60) = true := fun c => by induction c <;> rfl
 induction ns using List.casesOn with
 | nil =>
  refine And.intro ⟨by decide, by decide, by decide, by decide⟩ ?_
  refine And.intro (mr (b01 _)) ?_
  refine And.intro (ml rfl) ?_
  refine And.intro (mr rfl) ?_
  exact h _ _
 | cons v r =>
  refine ct (by show (0 : Int) < ((r.map D.int).length + 1 : Nat); lia) ?_
  refine oL 0 (d := .int v) rfl rfl ?_
  refine And.intro ⟨by decide, by decide, by decide, by decide⟩ ?_
  refine And.intro (mr (b01 _)) ?_
  refine And.intro (ml rfl) ?_
  refine And.intro (mr rfl) ?_
  exact h _ _
theorem outline_no_s {ab : D} (hg : gi < 0 \/ (rows.length : Int) <= gi) (h1 : gi.natAbs < 2 ^ 60) (h2 : (Str.ofString "there is no glyph ").length + (Str.ofString (toString gi)).length <= cap) (h : X m) : wp (rn (k + 3) (.meth (nm 119) (nm 77)) [tab rows, .int gi, ab] m) P X := by
 refine mth (q_GlyphTable_outline _ _ _ _ _) ?_
 refine m_glyph ?_
 refine no_glyph_s hg h1 h2 ?_
 rw [List.take_length]; exact h
theorem outline_in_s {bs : List Int} {x : List UInt8} (hg : gi = g) (hx : rows[g]? = some x) (hne : fil x ≠ []) (h0 : (bs.any fun b => decide (b = gi)) = true) (h : X m) : wp (rn (k + 3) (.meth (nm 119) (nm 77)) [tab rows, .int gi, .tup (bs.map D.int)] m) P X := by
 refine mth (q_GlyphTable_outline _ _ _ _ _) ?_
 refine m_glyph ?_
 refine glyph_octets_s hg hx ?_
 generalize fil x = b at hne
 refine octets_s ?_
 refine a_oo oc_at ?_
 refine cff (bne hne) ?_
 refine inT ?_
 refine ctt h0 ?_
 show X ((m ++ [ocr b b]).take m.length)
 rw [take_app]; exact h
theorem oKC {c : Nat} {ds : List D} {i j : Int} {Q : D -> Prop} (p n : Nat) (hm : m[c]? = some (.lst ds)) (ei : i = p) (ej : j = (p + n : Nat)) (hl : p + n <= ds.length) (h : Q (.lst ((ds.drop p).take n))) : cutV m (.cell c) i j Q := by
 have h2 := (oKL (m := m) p n ei ej hl h).out
 exact ⟨by rw [show cutD m (.cell c) i j = cutD m (.lst ds) i j from congrArg (fun o : Option (List D) => o.bind fun ds => if 0 <= i /\ i <= j /\ j <= ds.length then some (D.lst (cut ds i j)) else none) (items_cell hm)]; exact h2⟩
end
noncomputable def knw (r0 r1 r2 : Option (List (List Pt))) (p : Pa) : Option (List (List Pt)) := if p.g = 0 then r0 else if p.g = 1 then r1 else if p.g = 2 then r2 else none
noncomputable def paU (g f s : Int) : Pa := ⟨g, f, s, true, 16384, 0, 0, 16384⟩
theorem okU {g f s : Int} (hg : 0 <= g /\ g < 65536) (hf : -32768 <= f /\ f < 32768) (hs : -32768 <= s /\ s < 32768) : okPa (paU g f s) := ⟨.inl ⟨rfl, rfl, rfl, rfl⟩, nofun, hf, hs, hg⟩
section
variable {m : Mem} {k : Nat} {P : D -> Mem -> Prop} {X : Mem -> Prop} {r0 r1 r2 : Option (List (List Pt))} {p q : Pa}
theorem knw0 (h : p.g = 0) : knw r0 r1 r2 p = r0 := if_pos h
theorem knw1 (h : p.g = 1) : knw r0 r1 r2 p = r1 := by unfold knw; rw [h]; rfl
theorem knw2 (h : p.g = 2) : knw r0 r1 r2 p = r2 := by unfold knw; rw [h]; rfl
theorem ok2 (hp : okPa p) (hq : okPa q) : ∀ x ∈ [p, q], okPa x := fun x hx => by
 rcases List.mem_cons.mp hx with rfl | hx
 ·exact hp
 ·rw [List.mem_singleton.mp hx]; exact hq
theorem fourth_s {l : VE} {cs0 : List (List Pt)} {d1 : D} {p2 p3 : Pa} (ok2' : okPa p2) (ok3 : okPa p3) (g2 : p2.g = 2) (g3 : p3.g = 0) (h0 : l 112 = some (.cell 1)) (h1 : l 118 = some (.lst [p2.row, p3.row])) (hm : m[1]? = some (.lst [consD cs0, d1, optD r2])) (z0 : Sz 2 cs0) (z2 : ∀ cs, r2 = some cs -> Sz 2 cs)
  (h : P (optD (whl (knw (some cs0) r1 r2) [p2, p3] [])) m) : (ife (cmpB .Is (sub (var 112) (cst (.int 2))) (cst .none)) (cst .none) (call (rn (k + 3)) 113 [(var 118), (var 112)])).vc l m P X := by
 refine ops_some h0 (oC 2 hm rfl rfl ?_)
 induction r2 with
 | none =>
  have e : whl (knw (some cs0) r1 none) [p2, p3] [] = none := by
   show (match knw (some cs0) r1 none p2 with | none => none | some cs => match plc p2 cs [] with | none => none | some q => whl _ [p3] ([] ++ q)) = none
   rw [knw2 g2]
  rw [e] at h
  exact h
 | some cs =>
  refine ops_some h1 (ops_some h0 ?_)
  refine whole_s (ps := [p2, p3]) hm (ok2 ok2' ok3) (by show 2 <= 3; decide) (fun x hx => ?_) h
  rcases List.mem_cons.mp hx with rfl | hx
  ·exact ⟨cs, 2, knw2 g2, z2 cs rfl, g2, rfl⟩
  ·rw [List.mem_singleton.mp hx]
   exact ⟨cs0, 0, knw0 g3, z0, g3, rfl⟩
theorem simple_ex {pts : List Pt} (hne : pts ≠ []) (hl : pts.length <= 4) (hp : ∀ p ∈ pts, okP p) : ∃ e : List UInt8 × List UInt8, (e.1.length = 8 /\ ∃ G, RFl e.2 (flagsOf 0 0 pts) G) /\ wp (rn (k + 3) (.top (nm 83)) [outI [pts] []] m) (itm (.bytes (simB pts e.1 e.2)) m) fun _ => False :=
 wp_ex (f := fun e => .bytes (simB pts e.1 e.2)) (simple_octets_s hne (Nat.le_trans hl (by decide)) hp fun box rle G h1 h2 => ⟨(box, rle), ⟨h1, G, h2⟩, rfl, rfl⟩)
theorem sz1 {c : List Pt} (h : c.length <= 4) : Sz 1 [c] := ⟨Nat.le_refl _, fun d hd => by rw [List.mem_singleton.mp hd]; exact h⟩
theorem Sz.up {n k : Nat} {cs : List (List Pt)} (h : Sz n cs) (hk : n <= k) : Sz k cs := ⟨Nat.le_trans h.1 hk, h.2⟩
theorem law_octets_q {ps : List Pa} (hp : ∀ p ∈ ps, okPa p) (hne : ps ≠ []) (hl : ps.length <= 50) (h : ∀ bx, bx.length = 8 -> P (.bytes ((p16 (-1) ++ bx) ++ strB ps)) m) : wp (rn (k + 4) (.top (nm 114)) [.lst (ps.map Pa.row)] m) P X :=
 law_octets_s hp hne hl fun bx hb => by rw [accB_all]; exact h bx hb
theorem comp_len {ps : List Pa} {bx : List UInt8} (hb : bx.length = 8) (hl : ps.length <= 50) : ((p16 (-1) ++ bx) ++ strB ps).length <= 1000 := by
 rw [<- accB_all]
 have := accB_len ps (p16 (-1) ++ bx) ps.length
 rw [box_cat hb] at this
 lia
theorem sim_len {pts : List Pt} {x y : List UInt8} {G : List Int} (hx : x.length = 8) (hl : pts.length <= 4) (h : RFl y (flagsOf 0 0 pts) G) : (simB pts x y).length <= 1000 := by
 have h1 := acrossOf_len pts 0
 have h2 := upOf_len pts 0
 have h3 := h.len.1
 rw [flagsOf_len] at h3
 unfold simB
 rw [List.length_append, List.length_append, List.length_append, List.length_append, List.length_append, List.length_append, hx]
 show 2 + 8 + 2 + 2 + _ + _ + _ <= _
 lia
theorem one1 {a : Pa} (h : okPa a) : ∀ x ∈ [a], okPa x := fun x hx => by rw [List.mem_singleton.mp hx]; exact h
theorem law_s (ns : List Int) : wp (rn 10 (.top (nm 121)) [.lst (ns.map D.int)] []) (fun d _ => d = .bool true) fun _ => False := by
 refine top (q_law _ _ _) ?_
 refine pool_s fun a0 b0 => ?_
 refine contours_s (s := 0) (a := a0) (b := b0) rfl fun q0 a1 b1 q0n q0l q0p => ?_
 refine contours_s (s := 0) (a := a1) (b := b1) rfl fun q1 a2 b2 q1n q1l q1p => ?_
 refine ctt (by show (plain (consD [q0]) && (plain (consD [q1]) && true)) && true = true; rw [plain_conS, plain_conS]; rfl) ?_
 refine part_s2 (s := 0) (a := a2) (b := b2) rfl ⟨by decide, by decide⟩ fun p1 a3 b3 ok1 g1 => ?_
 refine And.intro ⟨_, rfl⟩ ?_
 have ok0 : okPa (paU 0 3 4) := okU ⟨by decide, by decide⟩ ⟨by decide, by decide⟩ ⟨by decide, by decide⟩
 refine whole_s (c := 1) (ks := [consD [q0], consD [q1]]) (ps := [paU 0 3 4, p1]) (inn := knw (some [q0]) (some [q1]) none) rfl (ok2 ok0 ok1) (by show 2 <= 3; decide) (fun x hx => ?_) ?_
 ·rcases List.mem_cons.mp hx with rfl | hx
  ·exact ⟨[q0], 0, rfl, (sz1 q0l).up (by decide), rfl, rfl⟩
  ·rw [List.mem_singleton.mp hx]
   exact ⟨[q1], 1, knw1 g1, (sz1 q1l).up (by decide), g1, rfl⟩
 obtain ⟨r2, hr2⟩ : ∃ r2, r2 = whl (knw (some [q0]) (some [q1]) none) [paU 0 3 4, p1] [] := ⟨_, rfl⟩
 rw [<- hr2]
 refine app_ok (ds := [consD [q0], consD [q1]]) rfl (plain_optD r2) (by show 2 < 65536; decide) ?_
 refine part_s2 (s := 0) (a := a3) (b := b3) rfl ⟨by decide, by decide⟩ fun p2 a4 b4 ok2' g2 => ?_
 refine part_s2 (s := 0) (a := a4) (b := b4) rfl ⟨by decide, by decide⟩ fun p3 a5 b5 ok3 g3 => ?_
 refine And.intro ⟨_, rfl⟩ ?_
 have z2 : ∀ cs, r2 = some cs -> Sz 2 cs := fun cs e => by
  rw [hr2] at e
  exact whl_sz (n := 1) (j := 0) (fun x hx cs e => by
   rcases List.mem_cons.mp hx with rfl | hx
   ·obtain rfl := Option.some.inj e; exact sz1 q0l
   ·rw [List.mem_singleton.mp hx, knw1 g1] at e; obtain rfl := Option.some.inj e; exact sz1 q1l) ⟨Nat.le_refl _, fun c hc => absurd hc List.not_mem_nil⟩ e
 refine fourth_s (r1 := some [q1]) (r2 := r2) (cs0 := [q0]) (d1 := consD [q1]) ok2' ok3 g2 g3 rfl rfl rfl ((sz1 q0l).up (by decide)) z2 ?_
 obtain ⟨r3, hr3⟩ : ∃ r3, r3 = whl (knw (some [q0]) (some [q1]) r2) [p2, p3] [] := ⟨_, rfl⟩
 rw [<- hr3]
 refine app_ok (ds := [consD [q0], consD [q1], optD r2]) rfl (plain_optD r3) (by show 3 < 65536; decide) ?_
 obtain ⟨⟨x0, y0⟩, ⟨hx0, G0, hG0⟩, w0⟩ := simple_ex (m := [src a5 b5, .lst [consD [q0], consD [q1], optD r2, optD r3]]) (k := 6) q0n q0l q0p
 obtain ⟨⟨x1, y1⟩, ⟨hx1, G1, hG1⟩, w1⟩ := simple_ex (m := [src a5 b5, .lst [consD [q0], consD [q1], optD r2, optD r3]]) (k := 6) q1n q1l q1p
 refine oKC (ds := [consD [q0], consD [q1], optD r2, optD r3]) 0 2 rfl rfl rfl (by show 2 <= 4; decide) ?_
 refine And.intro (by show 2 <= 65536; decide) ⟨[.bytes (simB q0 x0 y0), .bytes (simB q1 x1 y1)], .cons (outline1_s w0) (.cons (outline1_s w1) .nil), ?_⟩
 refine law_octets_q (ps := [paU 0 3 4, p1]) (ok2 ok0 ok1) nofun (by show 2 <= 50; decide) fun x2 hx2 => ?_
 refine law_octets_q (ps := [p2, p3]) (ok2 ok2' ok3) nofun (by show 2 <= 50; decide) fun x3 hx3 => ?_
 refine And.intro (by show 4 <= 65536; decide) (And.intro (by show 2 <= 65536; decide) (.inr ?_))
 have ok5 : okPa (paU 5 0 0) := okU ⟨by decide, by decide⟩ ⟨by decide, by decide⟩ ⟨by decide, by decide⟩
 have ok9 : okPa (paU 9 0 0) := okU ⟨by decide, by decide⟩ ⟨by decide, by decide⟩ ⟨by decide, by decide⟩
 refine lpc ?_
 refine And.intro ⟨by show 1 <= 16; decide, by decide, by decide⟩ (And.intro (by show 5 <= 65536; decide) ?_)
 refine law_octets_q (ps := [paU 5 0 0]) (one1 ok5) nofun (by show 1 <= 50; decide) fun x5 hx5 => ?_
 refine And.intro (by show 6 <= 65536; decide) ?_
 refine lpc ?_
 refine And.intro ⟨by show 1 <= 16; decide, by decide, by decide⟩ (And.intro (by show 6 <= 65536; decide) ?_)
 refine law_octets_q (ps := [paU 9 0 0]) (one1 ok9) nofun (by show 1 <= 50; decide) fun x9 hx9 => ?_
 refine And.intro (by show 7 <= 65536; decide) ?_
 refine lp0 ?_
 refine take_s (s := 0) (a := a5) (b := b5) rfl rfl fun rl a6 b6 _ _ => ?_
 have hlens : ∀ x ∈ [simB q0 x0 y0, simB q1 x1 y1, (p16 (-1) ++ x2) ++ strB [paU 0 3 4, p1], (p16 (-1) ++ x3) ++ strB [p2, p3], [], (p16 (-1) ++ x5) ++ strB [paU 5 0 0], (p16 (-1) ++ x9) ++ strB [paU 9 0 0]], x.length <= 1000 := fun x hx => by
  simp only [List.mem_cons, List.not_mem_nil, or_false] at hx
  rcases hx with rfl | rfl | rfl | rfl | rfl | rfl | rfl
  ·exact sim_len hx0 q0l hG0
  ·exact sim_len hx1 q1l hG1
  ·exact comp_len hx2 (by show 2 <= 50; decide)
  ·exact comp_len hx3 (by show 2 <= 50; decide)
  ·exact Nat.zero_le _
  ·exact comp_len hx5 (by show 1 <= 50; decide)
  ·exact comp_len hx9 (by show 1 <= 50; decide)
 refine write_glyphs_s hlens (by show 7 <= 40; decide) ?_
 generalize hrows : [simB q0 x0 y0, simB q1 x1 y1, (p16 (-1) ++ x2) ++ strB [paU 0 3 4, p1], (p16 (-1) ++ x3) ++ strB [p2, p3], [], (p16 (-1) ++ x5) ++ strB [paU 5 0 0], (p16 (-1) ++ x9) ++ strB [paU 9 0 0]] = rows at hlens ⊢
 have g0 : rows[0]? = some (simB q0 x0 y0) := by rw [<- hrows]; rfl
 have g1' : rows[1]? = some (simB q1 x1 y1) := by rw [<- hrows]; rfl
 have g2' : rows[2]? = some ((p16 (-1) ++ x2) ++ strB [paU 0 3 4, p1]) := by rw [<- hrows]; rfl
 have g3' : rows[3]? = some ((p16 (-1) ++ x3) ++ strB [p2, p3]) := by rw [<- hrows]; rfl
 have g4' : rows[4]? = some [] := by rw [<- hrows]; rfl
 have g5' : rows[5]? = some ((p16 (-1) ++ x5) ++ strB [paU 5 0 0]) := by rw [<- hrows]; rfl
 have g6' : rows[6]? = some ((p16 (-1) ++ x9) ++ strB [paU 9 0 0]) := by rw [<- hrows]; rfl
 have hln : rows.length = 7 := by rw [<- hrows]; rfl
 have hval : ∀ v ∈ plsOf rows, (0 <= v /\ v < 131072) /\ v % 2 = 0 := fun v hv => by
  refine e1_2 (List.mem_map.mp hv) fun g hg ee1 => ?_; subst ee1
  have h := gB_len (rows := rows.take g) fun x hx => hlens x (List.mem_of_mem_take hx)
  rw [List.length_take, hln] at h
  lia
 have hmono : ∀ (a : Nat) u v, (plsOf rows)[a]? = some u -> (plsOf rows)[a + 1]? = some v -> u <= v := fun a u v hu hv => by
  have hl := (List.getElem?_eq_some_iff.mp hv).1
  rw [plsOf_len] at hl
  rw [plsOf_get (by lia)] at hu hv
  obtain rfl := Option.some.inj hu; obtain rfl := Option.some.inj hv
  rw [show rows.take (a + 1) = rows.take a ++ rows[a]?.toList from List.take_add_one, gB_app, List.length_append]
  lia
 refine read_loca_s (by rw [plsOf_len, hln]; rfl) (by rw [plsOf_len, hln]; decide) hval hmono ?_
 refine table_s ?_
 have O0 : ∀ k (bs : List Int) m P X, (bs.any fun b => decide (b = 0)) = false -> bs.length < 8 -> P (outI [q0] []) m -> wp (rn (k + 6) (.meth (nm 119) (nm 77)) [tab rows, .int 0, .tup (bs.map D.int)] m) P X := fun k bs m P X h1 h2 h => outline_simple_s (g := 0) rfl g0 hx0 hG0 (Nat.le_trans q0l (by decide)) q0n q0p h1 h2 h
 have O1 : ∀ k (bs : List Int) m P X, (bs.any fun b => decide (b = 1)) = false -> bs.length < 8 -> P (outI [q1] []) m -> wp (rn (k + 6) (.meth (nm 119) (nm 77)) [tab rows, .int 1, .tup (bs.map D.int)] m) P X := fun k bs m P X h1 h2 h => outline_simple_s (g := 1) rfl g1' hx1 hG1 (Nat.le_trans q1l (by decide)) q1n q1p h1 h2 h
 have O2 : ∀ k (bs : List Int) m P X, bs = [] \/ bs = [3] -> orX r2 (fun cs => P (outI cs []) m) (X m) -> wp (rn (k + 7) (.meth (nm 119) (nm 77)) [tab rows, .int 2, .tup (bs.map D.int)] m) P X := fun k bs m P X hb h => by
  have f0 : ((bs ++ [2]).any fun b => decide (b = (0 : Int))) = false := by rcases hb with rfl | rfl <;> rfl
  have f1 : ((bs ++ [2]).any fun b => decide (b = (1 : Int))) = false := by rcases hb with rfl | rfl <;> rfl
  have f2 : (bs.any fun b => decide (b = (2 : Int))) = false := by rcases hb with rfl | rfl <;> rfl
  have l1 : bs.length <= 1 := by rcases hb with rfl | rfl <;> decide
  have l2 : (bs ++ [2]).length < 8 := by rw [List.length_append]; show _ + 1 < 8; lia
  rw [hr2] at h
  refine outline_comp_s (k := k + 1) (g := 2) rfl g2' hx2 (ok2 ok0 ok1) (by show 2 <= 3; decide) nofun f2 (by lia) (fun x hx cs e => ?_) (fun x hx m P X h => ?_) h
  ·rcases List.mem_cons.mp hx with rfl | hx
   ·obtain rfl := Option.some.inj e; exact (sz1 q0l).up (by decide)
   ·rw [List.mem_singleton.mp hx, knw1 g1] at e; obtain rfl := Option.some.inj e; exact (sz1 q1l).up (by decide)
  ·rw [show bs.map D.int ++ [D.int 2] = (bs ++ [2]).map D.int by rw [List.map_append]; rfl]
   rcases List.mem_cons.mp hx with rfl | hx
   ·exact O0 k _ m P X f0 l2 h
   ·rw [List.mem_singleton.mp hx] at h ⊢
    rw [knw1 g1] at h
    rw [g1]
    exact O1 k _ m P X f1 l2 h
 have O3 : ∀ k m P X, orX r3 (fun cs => P (outI cs []) m) (X m) -> wp (rn (k + 8) (.meth (nm 119) (nm 77)) [tab rows, .int 3, .tup []] m) P X := fun k m P X h => by
  rw [hr3] at h
  refine outline_comp_s (k := k + 2) (g := 3) (bs := []) rfl g3' hx3 (ok2 ok2' ok3) (by show 2 <= 3; decide) nofun rfl (by decide) (fun x hx cs e => ?_) (fun x hx m P X h' => ?_) h
  ·rcases List.mem_cons.mp hx with rfl | hx
   ·rw [knw2 g2] at e; exact z2 cs e
   ·rw [List.mem_singleton.mp hx, knw0 g3] at e; obtain rfl := Option.some.inj e; exact (sz1 q0l).up (by decide)
  ·rcases List.mem_cons.mp hx with rfl | hx
   ·rw [knw2 g2] at h'
    rw [g2]
    exact O2 k [3] m P X (.inr rfl) h'
   ·rw [List.mem_singleton.mp hx] at h' ⊢
    rw [knw0 g3] at h'
    rw [g3]
    exact O0 (k + 1) [3] m P X rfl (by decide) h'
 refine And.intro ⟨by decide, by decide⟩ (And.intro (by decide) (.inr ?_))
 refine lpc ?_
 refine told_s (r := some [q0]) (n2 := 1) (fun cs e => by obtain rfl := Option.some.inj e; exact sz1 q0l) (by decide) (fun K h => m_outline h) (fun P X h => by rw [outline2]; exact O0 2 [] _ P X rfl (by decide) h) ?_
 refine oC 0 rfl rfl rfl ?_
 refine eqRefl (ok_optD (some [q0])) rfl ?_
 refine cff (c := !true) rfl ?_
 refine lpc ?_
 refine told_s (r := some [q1]) (n2 := 1) (fun cs e => by obtain rfl := Option.some.inj e; exact sz1 q1l) (by decide) (fun K h => m_outline h) (fun P X h => by rw [outline2]; exact O1 2 [] _ P X rfl (by decide) h) ?_
 refine oC 1 rfl rfl rfl ?_
 refine eqRefl (ok_optD (some [q1])) rfl ?_
 refine cff (c := !true) rfl ?_
 refine lpc ?_
 refine told_s (r := r2) (n2 := 2) z2 (by decide) (fun K h => m_outline h) (fun P X h => by rw [outline2]; exact O2 1 [] _ P X (.inl rfl) h) ?_
 refine oC 2 rfl rfl rfl ?_
 refine neVR r2 ?_
 refine cff (c := false) rfl ?_
 have z3 : ∀ cs, r3 = some cs -> Sz 4 cs := fun cs e => by
  rw [hr3] at e
  exact whl_sz (n := 2) (j := 0) (fun x hx cs e' => by
   rcases List.mem_cons.mp hx with rfl | hx
   ·rw [knw2 g2] at e'; exact z2 cs e'
   ·rw [List.mem_singleton.mp hx, knw0 g3] at e'; obtain rfl := Option.some.inj e'; exact (sz1 q0l).up (by decide)) ⟨Nat.le_refl _, fun c hc => absurd hc List.not_mem_nil⟩ e
 refine lpc ?_
 refine told_s (r := r3) (n2 := 4) z3 (by decide) (fun K h => m_outline h) (fun P X h => by rw [outline2]; exact O3 0 _ P X h) ?_
 refine oC 3 rfl rfl rfl ?_
 refine neVR r3 ?_
 refine cff (c := false) rfl ?_
 refine lp0 ?_
 refine And.intro (by show 2 <= 65536; decide) (.inr ?_)
 refine lpc ?_
 refine m_parts ?_
 refine parts_comp_s (k := 3) (g := 2) rfl g2' hx2 (ok2 ok0 ok1) (by show 2 <= 50; decide) nofun ?_
 refine And.intro (by show 2 <= 65536; decide) ⟨_, all2_map (xs := [paU 0 3 4, p1]) (f := Pa.inst) (g := Pa.row) fun p _ => m_row (part_row_s (And.intro rfl rfl)), ?_⟩
 refine eqRefl (ok_rows [paU 0 3 4, p1]) rfl ?_
 refine cff (c := !true) rfl ?_
 refine lpc ?_
 refine m_parts ?_
 refine parts_comp_s (k := 3) (g := 3) rfl g3' hx3 (ok2 ok2' ok3) (by show 2 <= 50; decide) nofun ?_
 refine And.intro (by show 2 <= 65536; decide) ⟨_, all2_map (xs := [p2, p3]) (f := Pa.inst) (g := Pa.row) fun p _ => m_row (part_row_s (And.intro rfl rfl)), ?_⟩
 refine eqRefl (ok_rows [p2, p3]) rfl ?_
 refine cff (c := !true) rfl ?_
 refine lp0 ?_
 refine m_parts ?_
 refine parts_simple_s (k := 3) (g := 0) rfl g0 ?_
 refine m_count ?_
 refine count_s ?_
 refine ncf (by rw [hln]; rfl) ?_
 refine told_s (r := some []) (n2 := 0) (fun cs e => by obtain rfl := Option.some.inj e; exact ⟨Nat.le_refl _, fun c hc => absurd hc List.not_mem_nil⟩) (by decide) (fun K h => m_outline h) (fun P X h => by rw [outline2]; exact outline_empty_s (g := 4) rfl g4' h) ?_
 refine eqo (c := true) (by show eqD (.lst []) (.lst []) = _; decide +kernel) ?_
 have T5 : ∀ m P X, X m -> wp (rn 8 (.meth (nm 119) (nm 77)) [tab rows, .int 5]  m) P X := fun m P X h => by
  rw [outline2]
  refine outline_comp_s (k := 2) (g := 5) (bs := []) (ps := [paU 5 0 0]) (inn := fun _ => none) rfl g5' hx5 (one1 ok5) (by show 1 <= 3; decide) nofun rfl (by decide) (fun _ _ _ e => nomatch e) (fun x hx m P X h' => ?_) h
  rw [List.mem_singleton.mp hx]
  exact outline_in_s (bs := [5]) (g := 5) rfl g5' nofun rfl h'
 have T6 : ∀ m P X, X m -> wp (rn 8 (.meth (nm 119) (nm 77)) [tab rows, .int 6]  m) P X := fun m P X h => by
  rw [outline2]
  refine outline_comp_s (k := 2) (g := 6) (bs := []) (ps := [paU 9 0 0]) (inn := fun _ => none) rfl g6' hx9 (one1 ok9) (by show 1 <= 3; decide) nofun rfl (by decide) (fun _ _ _ e => nomatch e) (fun x hx m P X h' => ?_) h
  rw [List.mem_singleton.mp hx]
  exact outline_no_s (.inr (by rw [hln]; decide)) (by decide) (by decide +kernel) h'
 have T7 : ∀ m P X, X m -> wp (rn 8 (.meth (nm 119) (nm 77)) [tab rows, .int 7]  m) P X := fun m P X h => by
  rw [outline2]
  exact outline_no_s (.inr (by rw [hln]; decide)) (by decide) (by decide +kernel) h
 have Tm : ∀ m P X, X m -> wp (rn 8 (.meth (nm 119) (nm 77)) [tab rows, .int (-1)]  m) P X := fun m P X h => by
  rw [outline2]
  exact outline_no_s (.inl (by decide)) (by decide) (by decide +kernel) h
 have tn : ∀ {g : D} {m : Mem} {P : D -> Mem -> Prop} {X : Mem -> Prop}, (∀ m P X, X m -> wp (rn 8 (.meth (nm 119) (nm 77)) [tab rows, g] m) P X) -> P .none m -> wp (rn 9 (.top (nm 117)) [tab rows, g] m) P X := fun hT h => told_s (r := none) (n2 := 0) nofun (by decide) (fun K h => m_outline h) (fun P X h => hT _ P X h) h
 refine And.intro (by show 4 <= 65536; decide) ⟨[.none, .none, .none, .none], .cons (tn T5 (And.intro rfl rfl)) (.cons (tn T6 (And.intro rfl rfl)) (.cons (tn T7 (And.intro rfl rfl)) (.cons (tn Tm (And.intro rfl rfl)) .nil))), ?_⟩
 refine eqo (c := true) (by show eqD (.lst [.none, .none, .none, .none]) (.lst [.none, .none, .none, .none]) = _; decide +kernel) ?_
 rfl
end
end Mine
end
section
open PySem PySem.W PySem.Calls PyProof.Rows PySem.Spec
namespace Mine
theorem ec_is (P : Params) : ExcCls (KK P) 44 31 28 "message" where
 cls := ⟨_, _, _, _, _, _, _, _, _, _, _, _, _, _, show (KK P).lookup 44 = some (Hd.o44 P) by kernel_rfl⟩
 init := by kernel_rfl
 fn := by kernel_rfl
 set := by kernel_rfl
 own := by kernel_rfl
theorem ec_b (P : Params) : fnB (KK P) initF 28 = true := by kernel_rfl
theorem ec_y (P : Params) : bodyAt (KK P) 28 = some (.stmts initF.body) := by kernel_rfl
theorem ec_d (P : Params) : dfltAt (KK P) 28 = some .none := by kernel_rfl
theorem ec_k (P : Params) : keepIn (KK P) (.ref 44) = true := by kernel_rfl
theorem rest_all {C : Cst} {P : Params} (hK : C.K = KK P) (ex : ∃ cf, ExcFact C cf) : Rest C :=
 ⟨fun T Rm n hu hn => by
  obtain ⟨cf, EF⟩ := ex
  have e : clsA C.K "FontFault" = some 44 := by rw [hK]; exact kc_exc P
  obtain rfl : cf = 44 := Option.some.inj (EF.cls.symm.trans e)
  exact @raise_ok C T Rm n 44 31 28 (by rw [hK]; exact ec_is P) (fnFact0 (by rw [hK]; exact ec_b P) (by rw [hK]; exact ec_y P) (by rw [hK]; exact ec_d P) rfl) EF (by rw [hK]; exact ec_k P) hu @hn,
 fun T Rm n h => two_ok h, fun T Rm n h => twoUse_ok h⟩
noncomputable def lawF : Fn := (txt.fns.lookup ("law" : Str)).getD default
theorem lawF_is : txt.fns.lookup ("law" : Str) = some lawF := by kernel_rfl
theorem law_call {C : Cst} {P : Params} (hK : C.K = KK P) {fa : Addr} (hm : C.mg "law" = some (.ref fa)) {s : Shared} (hs : s.heap = C.H0) {v : Value} {ns : List Int} (hv : DRep C.K [] [] s.heap v (.lst (ns.map D.int))) {Q X : Value -> Shared -> Prop} (hq : ∀ φ' s', Step [] [] s φ' s' -> Q (.bool true) s') :
  wpAny (model C.prog C.w) callerA (PySem.call (.ref fa) [v]) Q X s := by
 have ok : TxtOk C txt := txt_ok hK
 have re := rest_all hK ok.exc
 obtain ⟨hn, a, h1, h2, FF⟩ := ok.fn "law" lawF lawF_is
 rw [hm] at h1; obtain rfl := PySem.Value.ref.inj (Option.some.inj h1)
 have hxs : SXs C (txt.tabs (txt.run 9)) (Room 9) (appendsTo.app lawF.body) false 60 := (sx_all (Rm := Room 9) (fun A h => room_units h) (run_ok re ok 9) (fun c x h => ok.set c x h) re ok.exc (appendsTo.app lawF.body) false 60).2
 have M0 : MemAt C.K C.H0 [] [] [] s.heap := { len := rfl, cell := fun i c e => absurd (show (none : Option Cell) = some c from e) (fun h => by exact none_some h), nd := List.nodup_nil, apart := fun a h => absurd h List.not_mem_nil }
 have I : Inv C callerA [] [] [] [] s := ⟨fun a o e => hs ▸ e, fun a h => absurd h List.not_mem_nil, M0, fun e h => absurd h List.not_mem_nil, rfl, rfl⟩
 refine wpAny_call (call_fn (args := [.lst (ns.map D.int)]) FF (leave_ok C) hxs (by decide +kernel) (fun E => ⟨by show callerA.depth + 1 + 2 * 9 + 4 < recursionLimit; decide +kernel, by show callerA.units + 3 + 8 * 9 + 100 < cLine; decide +kernel⟩) I (by rw [hs]; exact Nat.le_refl _) (.cons hv .nil) ?_)
 have h := (law_s ns).out
 rw [rn_is] at h
 have e : txt.run 10 (.top "law") [.lst (ns.map D.int)] [] = body (txt.tabs (txt.run 9)) lawF false [.lst (ns.map D.int)] [] := by
  simp only [Txt.run, hn, lawF_is]
  rfl
 rw [show nm 121 = "law" from by kernel_rfl, e] at h
 cases hb : body (txt.tabs (txt.run 9)) lawF false [.lst (ns.map D.int)] [] with
 | ok d m' =>
  rw [hb] at h
  have h : d = .bool true := h
  rw [h]
  intro b φ' s' st mm rv
  cases rv
  exact hq φ' s' st
 | exc m' => rw [hb] at h; exact h.elim
 | stuck => rw [hb] at h; exact h.elim
end Mine
set_option maxHeartbeats 4000000
namespace Mine
theorem rep_ints {K : Frag} {P : Params} {h : Heap} : ∀ {vs : List Value} {ns : List Int}, WellAll P h vs (ofPys (ns.map PyData.int)) -> DAll K [] [] h vs (ns.map D.int)
 | _, [], W => by cases W; exact .nil
 | _, n :: ns, W => by
  cases W with
  | cons a b => cases a; exact .cons (.int _ _) (rep_ints b)
end Mine
theorem PySem.Challenge.cw_nu0035_01_holds : PySem.Challenge.rw_nu0035_01.Holds :=
 Mine.hd (by
 intro w s₀ s₁ mg mb G Y fa o pm cd doc dV kV ho hd hcd hD hmg hg args vals as hpre hlay hrd hwl hlo
 have KX := kIn_of Y
 refine Ground.open G ?_
 intro T B D TE TW
 clear hd hcd hD ho
 replace hmg : mg "law" = some (.ref fa) := hmg
 wrow_args hpre hlay hrd hwl hlo
 rename_i ns _ _ _ _ _ _ _ a vs _ hL _ hW _ hI _ hc _
 let C : Mine.Cst := { prog := PySem.Challenge.rw_nu0035_01.row.prog, w := w, K := Mine.Hd.K w.params, H0 := s₁.heap, p := Mine.Hd.vw, loose := looseW Mine.Hd.vw Mine.Hd.ls, mg := mg, mb := mb, X0 := KX, T0 := topRead_of T }
 have hv : Mine.DRep C.K [] [] s₁.heap (.ref a) (.lst (ns.map Mine.D.int)) := by
  cases hW with
  | list ha wa => exact .lst ha (by rw [List.length_map]; lia) List.not_mem_nil List.not_mem_nil (Mine.rep_ints wa)
 refine Mine.law_call (C := C) (P := w.params) rfl hmg rfl hv fun φ' s' st => ?_
 obtain ⟨h, tk, e⟩ := st.same
 refine ⟨.inl ⟨.bool true, .bool true, [], rfl, fun _ => by rfl, .bool true, ?_, fun _ => ⟨.nil, nofun⟩⟩, .of_keep fun b o x => st.keep b o x List.not_mem_nil List.not_mem_nil, by rw [e], by rw [e]; exact .of_eq hg⟩
 wrow_post)
end
