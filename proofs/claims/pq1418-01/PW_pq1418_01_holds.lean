import PyProof.Rows.All
import Wide.All
import OpenK.AllK
import Wide.FinOn
import KE.KNest
import KE.KSortTup
import PyProof.ExcAttrAll.Exception
import PySem.Challenge.RW_pq1418_01
set_option Elab.async false
set_option maxRecDepth 100000
set_option maxHeartbeats 0
set_option linter.all false
set_option autoImplicit false
set_option hygiene false
set_option tactic.hygienic false
set_option compiler.extract_closed false
namespace Mine.Internal
open PySem PySem.W PySem.Calls PyProof.Rows
section
abbrev pw : Program := PySem.Challenge.pw_pq1418_01
abbrev rwL : OpenLaw := PySem.Challenge.rw_pq1418_01
def stx (i : Nat) : Stmt := (pw.main.body[i]?).getD (.Pass default)
def fdOf : Stmt → Arguments × List Stmt × Scope
 | .FunctionDef _ a b _ _ _ sc _ _ _ => (a, b, sc)
 | _ => default
def mdOf (j : Nat) : Stmt → Stmt
 | .ClassDef _ _ _ b _ _ _ _ _ _ _ => (b[j]?).getD (.Pass default)
 | s => s
def fd (i : Nat) : Arguments × List Stmt × Scope := fdOf (stx i)
def md (i j : Nat) : Arguments × List Stmt × Scope := fdOf (mdOf j (stx i))
abbrev S (s : String) : Str := Str.ofString s
abbrev vs (s : String) (t : Nat) : Value := .str (Str.ofString s) t
abbrev vi (i : Int) (t : Nat) : Value := .int i t
abbrev vr (a : Nat) : Value := .ref a
abbrev ent (P : Params) (s : String) (t : Nat) (v : Value) : DictEntry := ⟨PyData.keyHash P (Str.ofString s), .str (Str.ofString s) t, v⟩
noncomputable abbrev tp (l : List Value) : Obj := ⟨.type "tuple", none, .seq l.toArray 0, #[]⟩
noncomputable abbrev fl (l : List Value) : Obj := ⟨.none, none, .fields l.toArray, #[]⟩
noncomputable abbrev cdo (l : List Value) : Obj := ⟨.type "code", none, .fields l.toArray, #[]⟩
noncomputable abbrev dco (l : List DictEntry) (n : Nat) : Obj := ⟨.type "dict", none, .dict l.toArray n, #[]⟩
noncomputable abbrev fno (n q : String) (d : Arguments × List Stmt × Scope) (dV pm cd : Value) : Obj :=
 ⟨.type "function", none, .func { name := Str.ofString n, qualname := Str.ofString q, params := d.1, body := .stmts d.2.1, scope := d.2.2, globals := 3, closure := [], defaults := dV, kwdefaults := .none, doc := .none, pyModule := pm, annotations := none, code := cd, closureTuple := .none, builtins := 0 }, #[]⟩
noncomputable abbrev rco (n q : String) (d : Arguments × List Stmt × Scope) : Obj :=
 ⟨.none, none, .func { name := Str.ofString n, qualname := Str.ofString q, params := d.1, body := .stmts d.2.1, scope := d.2.2, globals := 0, closure := [], defaults := .none, kwdefaults := .none, doc := .none, pyModule := .none, annotations := none, code := .none, closureTuple := .none, builtins := 0 }, #[]⟩
abbrev Z := Params
abbrev vp (t : Nat) : Value := vs "/claim/cut.py" t
abbrev z0 : Value := vi 0 0
noncomputable section
abbrev cf (n q : String) (t : Nat) (l k : Int) (a b : Nat) (x y z : Value) (c u : Nat) : Obj := cdo [vs n t, vs q (t+1), vp (t+2), vi l 0, vi k 0, z0, z0, vi 3 0, vr a, .bool true, vi 181 0, vr b, x, y, z, vr c, vi u 0, vi l 0, vp (u+1)]
abbrev o0 (P : Z) := boot_o_0 P
abbrev o1 (P : Z) := boot_o_1 P
abbrev o2 (P : Z) := boot_o_2 P
abbrev o3 (P : Z) := boot_o_3 P
abbrev o4 (P : Z) := boot_o_4 P
abbrev o5 (P : Z) := boot_o_5 P
abbrev o6 (P : Z) := boot_o_6 P
abbrev o7 (P : Z) := boot_o_7 P
abbrev o8 (P : Z) := boot_o_8 P
abbrev o9 (P : Z) := boot_o_9 P
abbrev o10 (P : Z) := boot_o_10 P
def o11 (P : Z) := tp []
def o12 (P : Z) := fl []
def o13 (P : Z) := cdo [vs "<module>" 182, vs "<module>" 183, vp 184, vi 1 0, z0, z0, z0, z0, vr 11, .bool false, vi 181 0, vr 12, .none, .none, .none, .none, vi 185 0, vi 1 0, vp 186]
noncomputable def o14 (P : Z) : Obj := ⟨(.type "frame"), none, .plain, #[some (vr 13), some (vr 3), some (vr 3), none, some (vs "__main__" 164), none, some (vr 0)]⟩
noncomputable def o2v1 (P : Z) : Obj := ⟨.none, none, (.dict #[ent P "type.__subclasses__.Exception.0" 291 (vi 97 0), ent P "type.__subclasses__.Exception.n" 292 (vi 1 0)] 2), #[]⟩
def o3v1 (P : Z) := dco [ent P "__name__" 165 (vs "vectorcove.callargs" 400), ent P "__doc__" 166 .none, ent P "__package__" 167 .none, ent P "__loader__" 168 (.builtin "__main__.__loader__#opaque"), ent P "__spec__" 169 .none, ent P "__annotations__" 170 (vr 6), ent P "__builtins__" 171 (vr 4), ent P "__file__" 173 (vp 172), ent P "__cached__" 174 .none, ent P "_wall" 193 (vr 21), ent P "get_attr" 203 (vr 28), ent P "names_of" 209 (vr 33), ent P "dim_of" 217 (vr 40), ent P "dimnames_of" 223 (vr 45), ent P "class_attr" 231 (vr 52), ent P "language_class" 239 (vr 59), ent P "shape_class" 247 (vr 66), ent P "plain_class" 255 (vr 73), ent P "class_of" 263 (vr 80), ent P "inherits" 272 (vr 87), ent P "CoveError" 294 (vr 97), ent P "Refusal" 319 (vr 117), ent P "Vector" 363 (vr 144), ent P "character" 370 (vr 155), ent P "flag" 377 (vr 162), ent P "length" 385 (vr 169), ent P "is_atomic" 392 (vr 176), ent P "share" 399 (vr 183), ent P "Matching" 484 (vr 240)] 29
def o12v1 (P : Z) := fl [vi 1 0, z0, vr 20, vi 5 0, z0, vr 27, vi 9 0, z0, vr 32, vi 25 0, z0, vr 39, vi 30 0, z0, vr 44, vi 35 0, z0, vr 51, vi 40 0, z0, vr 58, vi 45 0, z0, vr 65, vi 50 0, z0, vr 72, vi 61 0, z0, vr 79, vi 69 0, z0, vr 86, vi 75 0, z0, vr 93, vi 77 0, z0, vr 106, vi 82 0, z0, vr 125, vi 93 0, z0, vr 154, vi 95 0, z0, vr 161, vi 99 0, z0, vr 168, vi 110 0, z0, vr 175, vi 112 0, z0, vr 182, vi 117 0, z0, vr 189]
def o15 (P : Z) := tp []
def o16 (P : Z) := fl []
def o17 (P : Z) := tp [vs "k" 190]
def o18 (P : Z) := tp []
def o19 (P : Z) := rco "_wall" "_wall" (fd 0)
def o20 (P : Z) := cf "_wall" "_wall" 187 1 1 15 16 .none (vr 17) (vr 18) 19 191
def o21 (P : Z) := fno "_wall" "_wall" (fd 0) .none (vs "__main__" 164) (vr 20)
def o22 (P : Z) := tp []
def o23 (P : Z) := fl []
def o24 (P : Z) := tp [vs "v" 199, vs "name" 200]
def o25 (P : Z) := tp []
def o26 (P : Z) := rco "get_attr" "get_attr" (fd 2)
def o27 (P : Z) := cf "get_attr" "get_attr" 196 5 2 22 23 .none (vr 24) (vr 25) 26 201
def o28 (P : Z) := fno "get_attr" "get_attr" (fd 2) .none (vs "vectorcove.attrs" 194) (vr 27)
def o29 (P : Z) := tp []
def o30 (P : Z) := fl []
def o31 (P : Z) := rco "names_of" "names_of" (fd 3)
def o32 (P : Z) := cf "names_of" "names_of" 204 9 1 29 30 .none .none .none 31 207
def o33 (P : Z) := fno "names_of" "names_of" (fd 3) .none (vs "vectorcove.attrs" 194) (vr 32)
def o34 (P : Z) := tp []
def o35 (P : Z) := fl []
def o36 (P : Z) := tp [vs "v" 213, vs "dims" 214]
def o37 (P : Z) := tp []
def o38 (P : Z) := rco "dim_of" "dim_of" (fd 4)
def o39 (P : Z) := cf "dim_of" "dim_of" 210 25 1 34 35 .none (vr 36) (vr 37) 38 215
def o40 (P : Z) := fno "dim_of" "dim_of" (fd 4) .none (vs "vectorcove.attrs" 194) (vr 39)
def o41 (P : Z) := tp []
def o42 (P : Z) := fl []
def o43 (P : Z) := rco "dimnames_of" "dimnames_of" (fd 5)
def o44 (P : Z) := cf "dimnames_of" "dimnames_of" 218 30 1 41 42 .none .none .none 43 221
def o45 (P : Z) := fno "dimnames_of" "dimnames_of" (fd 5) .none (vs "vectorcove.attrs" 194) (vr 44)
def o46 (P : Z) := tp []
def o47 (P : Z) := fl []
def o48 (P : Z) := tp [vs "v" 227, vs "found" 228]
def o49 (P : Z) := tp []
def o50 (P : Z) := rco "class_attr" "class_attr" (fd 6)
def o51 (P : Z) := cf "class_attr" "class_attr" 224 35 1 46 47 .none (vr 48) (vr 49) 50 229
def o52 (P : Z) := fno "class_attr" "class_attr" (fd 6) .none (vs "vectorcove.attrs" 194) (vr 51)
def o53 (P : Z) := tp []
def o54 (P : Z) := fl []
def o55 (P : Z) := tp [vs "v" 235, vs "head" 236]
def o56 (P : Z) := tp []
def o57 (P : Z) := rco "language_class" "language_class" (fd 7)
def o58 (P : Z) := cf "language_class" "language_class" 232 40 1 53 54 .none (vr 55) (vr 56) 57 237
def o59 (P : Z) := fno "language_class" "language_class" (fd 7) .none (vs "vectorcove.attrs" 194) (vr 58)
def o60 (P : Z) := tp []
def o61 (P : Z) := fl []
def o62 (P : Z) := tp [vs "v" 243, vs "dims" 244]
def o63 (P : Z) := tp []
def o64 (P : Z) := rco "shape_class" "shape_class" (fd 8)
def o65 (P : Z) := cf "shape_class" "shape_class" 240 45 1 60 61 .none (vr 62) (vr 63) 64 245
def o66 (P : Z) := fno "shape_class" "shape_class" (fd 8) .none (vs "vectorcove.attrs" 194) (vr 65)
def o67 (P : Z) := tp []
def o68 (P : Z) := fl []
def o69 (P : Z) := tp [vs "v" 251, vs "kind" 252]
def o70 (P : Z) := tp []
def o71 (P : Z) := rco "plain_class" "plain_class" (fd 9)
def o72 (P : Z) := cf "plain_class" "plain_class" 248 50 1 67 68 .none (vr 69) (vr 70) 71 253
def o73 (P : Z) := fno "plain_class" "plain_class" (fd 9) .none (vs "vectorcove.attrs" 194) (vr 72)
def o74 (P : Z) := tp []
def o75 (P : Z) := fl []
def o76 (P : Z) := tp [vs "v" 259, vs "rows" 260]
def o77 (P : Z) := tp []
def o78 (P : Z) := rco "class_of" "class_of" (fd 10)
def o79 (P : Z) := cf "class_of" "class_of" 256 61 1 74 75 .none (vr 76) (vr 77) 78 261
def o80 (P : Z) := fno "class_of" "class_of" (fd 10) .none (vs "vectorcove.attrs" 194) (vr 79)
def o81 (P : Z) := tp []
def o82 (P : Z) := fl []
def o83 (P : Z) := tp [vs "v" 267, vs "names" 268, vs "one" 269]
def o84 (P : Z) := tp []
def o85 (P : Z) := rco "inherits" "inherits" (fd 11)
def o86 (P : Z) := cf "inherits" "inherits" 264 69 2 81 82 .none (vr 83) (vr 84) 85 270
def o87 (P : Z) := fno "inherits" "inherits" (fd 11) .none (vs "vectorcove.attrs" 194) (vr 86)
def o88 (P : Z) := tp [(.type "Exception")]
noncomputable def o89 (P : Z) : Obj := ⟨(.type "builtin_function_or_method"), none, (.fields #[(.builtin "type.__prepare__"), (.type "type")]), #[]⟩
def o90 (P : Z) := dco [ent P "__module__" 282 (vs "vectorcove.errors" 273), ent P "__qualname__" 284 (vs "CoveError" 283), ent P "__firstlineno__" 286 (vi 75 285), ent P "__static_attributes__" 287 (vr 95)] 4
def o91 (P : Z) := tp []
def o92 (P : Z) := fl []
def o93 (P : Z) := cdo [vs "CoveError" 277, vs "CoveError" 278, vp 279, vi 75 0, z0, z0, z0, z0, vr 91, .bool false, vi 181 0, vr 92, .none, .none, .none, .none, vi 280 0, vi 75 0, vp 281]
noncomputable def o94 (P : Z) : Obj := ⟨(.type "frame"), none, .plain, #[some (vr 93), some (vr 3), some (vr 90), none, some (vs "vectorcove.errors" 273), none, some (vr 0)]⟩
def o95 (P : Z) := tp []
def o96 (P : Z) := dco [ent P "__module__" 282 (vs "vectorcove.errors" 273), ent P "__firstlineno__" 286 (vi 75 285), ent P "__static_attributes__" 287 (vr 95), ent P "__weakref__" 289 (vr 98), ent P "__doc__" 290 .none] 3
noncomputable def o97 (P : Z) : Obj := ⟨(.type "type"), none, (.cls { name := (S "CoveError"), bases := [(.type "Exception")], mro := [vr 97, (.type "Exception"), (.type "BaseException"), (.type "object")], ns := 96, qualname := (S "CoveError"), hasDict := true, slotNames := [], subclasses := [vr 117], abstract := false, collection := none, hasDel := false }), #[some (vr 88), none, some (vs "CoveError" 275), some (vs "CoveError" 283), some (.builtin "Exception.__new__"), some (.bool true)]⟩
noncomputable def o98 (P : Z) : Obj := ⟨(.type "getset_descriptor"), none, (.fields #[vs "__weakref__" 288, vr 97, (.builtin "ExceptionGroup.__weakref__"), .none]), #[]⟩
noncomputable def o99 (P : Z) : Obj := ⟨(.type "super"), none, (.fields #[vr 97, vr 97, vr 97]), #[]⟩
noncomputable def o100 (P : Z) : Obj := ⟨(.type "builtin_function_or_method"), none, (.fields #[(.builtin "object.__init_subclass__"), vr 97]), #[]⟩
def o101 (P : Z) := tp [vr 97]
noncomputable def o102 (P : Z) : Obj := ⟨(.type "builtin_function_or_method"), none, (.fields #[(.builtin "type.__prepare__"), (.type "type")]), #[]⟩
def o103 (P : Z) := dco [ent P "__module__" 302 (vs "vectorcove.errors" 273), ent P "__qualname__" 304 (vs "Refusal" 303), ent P "__firstlineno__" 306 (vi 77 305), ent P "__init__" 314 (vr 114), ent P "__static_attributes__" 316 (vr 115)] 5
def o104 (P : Z) := tp []
def o105 (P : Z) := fl [vi 79 0, vi 4 0, vr 113]
def o106 (P : Z) := cdo [vs "Refusal" 297, vs "Refusal" 298, vp 299, vi 77 0, z0, z0, z0, z0, vr 104, .bool false, vi 181 0, vr 105, .none, .none, .none, .none, vi 300 0, vi 77 0, vp 301]
noncomputable def o107 (P : Z) : Obj := ⟨(.type "frame"), none, .plain, #[some (vr 106), some (vr 3), some (vr 103), none, some (vs "vectorcove.errors" 273), none, some (vr 0)]⟩
def o108 (P : Z) := tp []
def o109 (P : Z) := fl []
def o110 (P : Z) := tp [vs "self" 310, vs "message" 311]
def o111 (P : Z) := tp []
def o112 (P : Z) := rco "__init__" "Refusal.__init__" (md 14 0)
def o113 (P : Z) := cf "__init__" "Refusal.__init__" 307 79 2 108 109 .none (vr 110) (vr 111) 112 312
def o114 (P : Z) := fno "__init__" "Refusal.__init__" (md 14 0) .none (vs "vectorcove.errors" 273) (vr 113)
def o115 (P : Z) := tp [vs "message" 315]
def o116 (P : Z) := dco [ent P "__module__" 302 (vs "vectorcove.errors" 273), ent P "__firstlineno__" 306 (vi 77 305), ent P "__init__" 314 (vr 114), ent P "__static_attributes__" 316 (vr 115), ent P "__doc__" 317 .none] 2
noncomputable def o117 (P : Z) : Obj := ⟨(.type "type"), none, (.cls { name := (S "Refusal"), bases := [vr 97], mro := [vr 117, vr 97, (.type "Exception"), (.type "BaseException"), (.type "object")], ns := 116, qualname := (S "Refusal"), hasDict := true, slotNames := [], subclasses := [], abstract := false, collection := none, hasDel := false }), #[some (vr 101), none, some (vs "Refusal" 295), some (vs "Refusal" 303), some (.builtin "Exception.__new__"), some (.bool true)]⟩
noncomputable def o118 (P : Z) : Obj := ⟨(.type "super"), none, (.fields #[vr 117, vr 117, vr 117]), #[]⟩
noncomputable def o119 (P : Z) : Obj := ⟨(.type "builtin_function_or_method"), none, (.fields #[(.builtin "object.__init_subclass__"), vr 117]), #[]⟩
def o120 (P : Z) := tp []
noncomputable def o121 (P : Z) : Obj := ⟨(.type "builtin_function_or_method"), none, (.fields #[(.builtin "type.__prepare__"), (.type "type")]), #[]⟩
def o122 (P : Z) := dco [ent P "__module__" 329 (vs "vectorcove.values" 320), ent P "__qualname__" 331 (vs "Vector" 330), ent P "__firstlineno__" 333 (vi 82 332), ent P "__init__" 343 (vr 134), ent P "copy" 350 (vr 141), ent P "__static_attributes__" 356 (vr 142)] 6
def o123 (P : Z) := tp []
def o124 (P : Z) := fl [vi 84 0, vi 4 0, vr 133, vi 91 0, vi 4 0, vr 140]
def o125 (P : Z) := cdo [vs "Vector" 324, vs "Vector" 325, vp 326, vi 82 0, z0, z0, z0, z0, vr 123, .bool false, vi 181 0, vr 124, .none, .none, .none, .none, vi 327 0, vi 82 0, vp 328]
noncomputable def o126 (P : Z) : Obj := ⟨(.type "frame"), none, .plain, #[some (vr 125), some (vr 3), some (vr 122), none, some (vs "vectorcove.values" 320), none, some (vr 0)]⟩
def o127 (P : Z) := tp [.none]
def o128 (P : Z) := tp []
def o129 (P : Z) := fl []
def o130 (P : Z) := tp [vs "self" 337, vs "kind" 338, vs "items" 339, vs "attrs" 340]
def o131 (P : Z) := tp []
def o132 (P : Z) := rco "__init__" "Vector.__init__" (md 16 0)
def o133 (P : Z) := cf "__init__" "Vector.__init__" 334 84 4 128 129 .none (vr 130) (vr 131) 132 341
def o134 (P : Z) := fno "__init__" "Vector.__init__" (md 16 0) (vr 127) (vs "vectorcove.values" 320) (vr 133)
def o135 (P : Z) := tp []
def o136 (P : Z) := fl []
def o137 (P : Z) := tp [vs "self" 347]
def o138 (P : Z) := tp []
def o139 (P : Z) := rco "copy" "Vector.copy" (md 16 1)
def o140 (P : Z) := cf "copy" "Vector.copy" 344 91 1 135 136 .none (vr 137) (vr 138) 139 348
def o141 (P : Z) := fno "copy" "Vector.copy" (md 16 1) .none (vs "vectorcove.values" 320) (vr 140)
def o142 (P : Z) := tp [vs "attrs" 351, vs "items" 352, vs "kind" 353, vs "loose" 354, vs "shared" 355]
def o143 (P : Z) := dco [ent P "__module__" 329 (vs "vectorcove.values" 320), ent P "__firstlineno__" 333 (vi 82 332), ent P "__init__" 343 (vr 134), ent P "copy" 350 (vr 141), ent P "__static_attributes__" 356 (vr 142), ent P "__dict__" 358 (vr 145), ent P "__weakref__" 360 (vr 146), ent P "__doc__" 361 .none] 4
noncomputable def o144 (P : Z) : Obj := ⟨(.type "type"), none, (.cls { name := (S "Vector"), bases := [(.type "object")], mro := [vr 144, (.type "object")], ns := 143, qualname := (S "Vector"), hasDict := true, slotNames := [], subclasses := [], abstract := false, collection := none, hasDel := false }), #[none, none, some (vs "Vector" 322), some (vs "Vector" 330), some (.builtin "object.__new__"), some (.bool true)]⟩
noncomputable def o145 (P : Z) : Obj := ⟨(.type "getset_descriptor"), none, (.fields #[vs "__dict__" 357, vr 144, (.builtin "function.__dict__"), (.builtin "function.__dict__#set")]), #[]⟩
noncomputable def o146 (P : Z) : Obj := ⟨(.type "getset_descriptor"), none, (.fields #[vs "__weakref__" 359, vr 144, (.builtin "ExceptionGroup.__weakref__"), .none]), #[]⟩
noncomputable def o147 (P : Z) : Obj := ⟨(.type "super"), none, (.fields #[vr 144, vr 144, vr 144]), #[]⟩
noncomputable def o148 (P : Z) : Obj := ⟨(.type "builtin_function_or_method"), none, (.fields #[(.builtin "object.__init_subclass__"), vr 144]), #[]⟩
def o149 (P : Z) := tp []
def o150 (P : Z) := fl []
def o151 (P : Z) := tp [vs "items" 367]
def o152 (P : Z) := tp []
def o153 (P : Z) := rco "character" "character" (fd 17)
def o154 (P : Z) := cf "character" "character" 364 93 1 149 150 .none (vr 151) (vr 152) 153 368
def o155 (P : Z) := fno "character" "character" (fd 17) .none (vs "vectorcove.values" 320) (vr 154)
def o156 (P : Z) := tp []
def o157 (P : Z) := fl []
def o158 (P : Z) := tp [vs "b" 374]
def o159 (P : Z) := tp []
def o160 (P : Z) := rco "flag" "flag" (fd 18)
def o161 (P : Z) := cf "flag" "flag" 371 95 1 156 157 .none (vr 158) (vr 159) 160 375
def o162 (P : Z) := fno "flag" "flag" (fd 18) .none (vs "vectorcove.values" 320) (vr 161)
def o163 (P : Z) := tp []
def o164 (P : Z) := fl []
def o165 (P : Z) := tp [vs "v" 381, vs "kind" 382]
def o166 (P : Z) := tp []
def o167 (P : Z) := rco "length" "length" (fd 19)
def o168 (P : Z) := cf "length" "length" 378 99 1 163 164 .none (vr 165) (vr 166) 167 383
def o169 (P : Z) := fno "length" "length" (fd 19) .none (vs "vectorcove.values" 320) (vr 168)
def o170 (P : Z) := tp []
def o171 (P : Z) := fl []
def o172 (P : Z) := tp [vs "v" 389]
def o173 (P : Z) := tp []
def o174 (P : Z) := rco "is_atomic" "is_atomic" (fd 20)
def o175 (P : Z) := cf "is_atomic" "is_atomic" 386 110 1 170 171 .none (vr 172) (vr 173) 174 390
def o176 (P : Z) := fno "is_atomic" "is_atomic" (fd 20) .none (vs "vectorcove.values" 320) (vr 175)
def o177 (P : Z) := tp []
def o178 (P : Z) := fl []
def o179 (P : Z) := tp [vs "v" 396]
def o180 (P : Z) := tp []
def o181 (P : Z) := rco "share" "share" (fd 21)
def o182 (P : Z) := cf "share" "share" 393 112 1 177 178 .none (vr 179) (vr 180) 181 397
def o183 (P : Z) := fno "share" "share" (fd 21) .none (vs "vectorcove.values" 320) (vr 182)
def o184 (P : Z) := tp []
noncomputable def o185 (P : Z) : Obj := ⟨(.type "builtin_function_or_method"), none, (.fields #[(.builtin "type.__prepare__"), (.type "type")]), #[]⟩
def o186 (P : Z) := dco [ent P "__module__" 409 (vs "vectorcove.callargs" 400), ent P "__qualname__" 411 (vs "Matching" 410), ent P "__firstlineno__" 413 (vi 117 412), ent P "__init__" 422 (vr 197), ent P "exact" 431 (vr 204), ent P "partial" 439 (vr 211), ent P "partial_of" 449 (vr 218), ent P "positional" 458 (vr 225), ent P "is_free" 466 (vr 232), ent P "rest" 472 (vr 237), ent P "__static_attributes__" 477 (vr 238)] 11
def o187 (P : Z) := tp []
def o188 (P : Z) := fl [vi 119 0, vi 4 0, vr 196, vi 125 0, vi 4 0, vr 203, vi 135 0, vi 4 0, vr 210, vi 142 0, vi 4 0, vr 217, vi 153 0, vi 4 0, vr 224, vi 165 0, vi 4 0, vr 231, vi 168 0, vi 4 0, vr 236]
def o189 (P : Z) := cdo [vs "Matching" 404, vs "Matching" 405, vp 406, vi 117 0, z0, z0, z0, z0, vr 187, .bool false, vi 181 0, vr 188, .none, .none, .none, .none, vi 407 0, vi 117 0, vp 408]
noncomputable def o190 (P : Z) : Obj := ⟨(.type "frame"), none, .plain, #[some (vr 189), some (vr 3), some (vr 186), none, some (vs "vectorcove.callargs" 400), none, some (vr 0)]⟩
def o191 (P : Z) := tp []
def o192 (P : Z) := fl []
def o193 (P : Z) := tp [vs "self" 417, vs "formals" 418, vs "tags" 419]
def o194 (P : Z) := tp []
def o195 (P : Z) := rco "__init__" "Matching.__init__" (md 23 0)
def o196 (P : Z) := cf "__init__" "Matching.__init__" 414 119 3 191 192 .none (vr 193) (vr 194) 195 420
def o197 (P : Z) := fno "__init__" "Matching.__init__" (md 23 0) .none (vs "vectorcove.callargs" 400) (vr 196)
def o198 (P : Z) := tp []
def o199 (P : Z) := fl []
def o200 (P : Z) := tp [vs "self" 426, vs "name" 427, vs "place" 428]
def o201 (P : Z) := tp []
def o202 (P : Z) := rco "exact" "Matching.exact" (md 23 1)
def o203 (P : Z) := cf "exact" "Matching.exact" 423 125 1 198 199 .none (vr 200) (vr 201) 202 429
def o204 (P : Z) := fno "exact" "Matching.exact" (md 23 1) .none (vs "vectorcove.callargs" 400) (vr 203)
def o205 (P : Z) := tp []
def o206 (P : Z) := fl []
def o207 (P : Z) := tp [vs "self" 435, vs "name" 436]
def o208 (P : Z) := tp []
def o209 (P : Z) := rco "partial" "Matching.partial" (md 23 2)
def o210 (P : Z) := cf "partial" "Matching.partial" 432 135 1 205 206 .none (vr 207) (vr 208) 209 437
def o211 (P : Z) := fno "partial" "Matching.partial" (md 23 2) .none (vs "vectorcove.callargs" 400) (vr 210)
def o212 (P : Z) := tp []
def o213 (P : Z) := fl []
def o214 (P : Z) := tp [vs "self" 443, vs "name" 444, vs "place" 445, vs "tag" 446]
def o215 (P : Z) := tp []
def o216 (P : Z) := rco "partial_of" "Matching.partial_of" (md 23 3)
def o217 (P : Z) := cf "partial_of" "Matching.partial_of" 440 142 2 212 213 .none (vr 214) (vr 215) 216 447
def o218 (P : Z) := fno "partial_of" "Matching.partial_of" (md 23 3) .none (vs "vectorcove.callargs" 400) (vr 217)
def o219 (P : Z) := tp []
def o220 (P : Z) := fl []
def o221 (P : Z) := tp [vs "self" 453, vs "place" 454, vs "name" 455]
def o222 (P : Z) := tp []
def o223 (P : Z) := rco "positional" "Matching.positional" (md 23 4)
def o224 (P : Z) := cf "positional" "Matching.positional" 450 153 1 219 220 .none (vr 221) (vr 222) 223 456
def o225 (P : Z) := fno "positional" "Matching.positional" (md 23 4) .none (vs "vectorcove.callargs" 400) (vr 224)
def o226 (P : Z) := tp []
def o227 (P : Z) := fl []
def o228 (P : Z) := tp [vs "self" 462, vs "place" 463]
def o229 (P : Z) := tp []
def o230 (P : Z) := rco "is_free" "Matching.is_free" (md 23 5)
def o231 (P : Z) := cf "is_free" "Matching.is_free" 459 165 2 226 227 .none (vr 228) (vr 229) 230 464
def o232 (P : Z) := fno "is_free" "Matching.is_free" (md 23 5) .none (vs "vectorcove.callargs" 400) (vr 231)
def o233 (P : Z) := tp []
def o234 (P : Z) := fl []
def o235 (P : Z) := rco "rest" "Matching.rest" (md 23 6)
def o236 (P : Z) := cf "rest" "Matching.rest" 467 168 1 233 234 .none .none .none 235 470
def o237 (P : Z) := fno "rest" "Matching.rest" (md 23 6) .none (vs "vectorcove.callargs" 400) (vr 236)
def o238 (P : Z) := tp [vs "formals" 473, vs "places" 474, vs "tags" 475, vs "used" 476]
def o239 (P : Z) := dco [ent P "__module__" 409 (vs "vectorcove.callargs" 400), ent P "__firstlineno__" 413 (vi 117 412), ent P "__init__" 422 (vr 197), ent P "exact" 431 (vr 204), ent P "partial" 439 (vr 211), ent P "partial_of" 449 (vr 218), ent P "positional" 458 (vr 225), ent P "is_free" 466 (vr 232), ent P "rest" 472 (vr 237), ent P "__static_attributes__" 477 (vr 238), ent P "__dict__" 479 (vr 241), ent P "__weakref__" 481 (vr 242), ent P "__doc__" 482 .none] 4
noncomputable def o240 (P : Z) : Obj := ⟨(.type "type"), none, (.cls { name := (S "Matching"), bases := [(.type "object")], mro := [vr 240, (.type "object")], ns := 239, qualname := (S "Matching"), hasDict := true, slotNames := [], subclasses := [], abstract := false, collection := none, hasDel := false }), #[none, none, some (vs "Matching" 402), some (vs "Matching" 410), some (.builtin "object.__new__"), some (.bool true)]⟩
noncomputable def o241 (P : Z) : Obj := ⟨(.type "getset_descriptor"), none, (.fields #[vs "__dict__" 478, vr 240, (.builtin "function.__dict__"), (.builtin "function.__dict__#set")]), #[]⟩
noncomputable def o242 (P : Z) : Obj := ⟨(.type "getset_descriptor"), none, (.fields #[vs "__weakref__" 480, vr 240, (.builtin "ExceptionGroup.__weakref__"), .none]), #[]⟩
noncomputable def o243 (P : Z) : Obj := ⟨(.type "super"), none, (.fields #[vr 240, vr 240, vr 240]), #[]⟩
noncomputable def o244 (P : Z) : Obj := ⟨(.type "builtin_function_or_method"), none, (.fields #[(.builtin "object.__init_subclass__"), vr 240]), #[]⟩
def o3v2 (P : Z) := dco [ent P "__name__" 165 (vs "vectorcove.rational" 538), ent P "__doc__" 166 .none, ent P "__package__" 167 .none, ent P "__loader__" 168 (.builtin "__main__.__loader__#opaque"), ent P "__spec__" 169 .none, ent P "__annotations__" 170 (vr 6), ent P "__builtins__" 171 (vr 4), ent P "__file__" 173 (vp 172), ent P "__cached__" 174 .none, ent P "_wall" 193 (vr 21), ent P "get_attr" 203 (vr 28), ent P "names_of" 209 (vr 33), ent P "dim_of" 217 (vr 40), ent P "dimnames_of" 223 (vr 45), ent P "class_attr" 231 (vr 52), ent P "language_class" 239 (vr 59), ent P "shape_class" 247 (vr 66), ent P "plain_class" 255 (vr 73), ent P "class_of" 263 (vr 80), ent P "inherits" 272 (vr 87), ent P "CoveError" 294 (vr 97), ent P "Refusal" 319 (vr 117), ent P "Vector" 363 (vr 144), ent P "character" 370 (vr 155), ent P "flag" 377 (vr 162), ent P "length" 385 (vr 169), ent P "is_atomic" 392 (vr 176), ent P "share" 399 (vr 183), ent P "Matching" 484 (vr 240), ent P "doubled_text" 491 (vr 251), ent P "argument_text" 503 (vr 258), ent P "plain_text" 511 (vr 265), ent P "unused_text" 517 (vr 270), ent P "match_names" 523 (vr 276), ent P "needed" 531 (vr 283), ent P "take" 537 (vr 289), ent P "NAN" 542 (vr 290), ent P "INF" 545 (vr 291), ent P "ZERO" 548 (vr 292), ent P "MOST_FIGURES" 550 (vi 5000 549), ent P "MOST_PART" 553 (vi 100000000000000000000000000000000000000000000000000000000000000000000000000000000000000000000000000000000000000000000000000000000000000000000000000000000000000000000000000000000000000000000000000000000000000000000000000000000000000000000000000000000000000000000000000000000000000000000000000000000000000000000000000000000000000000000000000000000000000000000000000000000000000000000000000000000000000000000000000000000000000000000000000000000000000000000000000000000000000000000000000000000000000000000000000000000000000000000000000000000000000000000000000000000000000000000000000000000000000000000000000000000000000000000000000000000000000000000000000000000000000000000000000000000000000000000000000000000000000000000000000000000000000000000000000000000000000000000000000000000000000000000000000000000000000000000000000000000000000000000000000000000000000000000000000000000000000000000000000000000000000000000000000000000000000000000000000000000000000000000000000000000000000000000000000000000000000000000000000000000000000000000000000000000000000000000000000000000000000000000000000000000000000000000000000000000000000000000000000000000000000000000000000000000000000000000000000000000000000000000000000000000000000000000000000000000000000000000000000000000000000000000000000000000000000000000000000000000000000000000000000000000000000000000000000000000000000000000000000000000000000000000000000000000000000000000000000000000000000000000000000000000000000000000000000000000000000000000000000000000000000000000000000000000000000000000000000000000000000000000000000000000000000000000000000000000000000000000000000000000000000000000000000000000000000000000000000000000000000000000000000000000000000000000000000000000000000000000000000000000000000000000000000000000000000000000000000000000000000000000000000000000000000000000000000000000000000000000000000000000000000000000000000000000000000000000000000000000000000000000000000000000000000000000000000000000000000000000000000000000000000000000000000000000000000000000000000000000000000000000000000000000000000000000000000000000000000000000000000000000000000000000000000000000000000000000000000000000000000000000000000000000000000000000000000000000000000000000000000000000000000000000000000000000000000000000000000000000000000000000000000000000000000000000000000000000000000000000000000000000000000000000000000000000000000000000000000000000000000000000000000000000000000000000000000000000000000000000000000000000000000000000000000000000000000000000000000000000000000000000000000000000000000000000000000000000000000000000000000000000000000000000000000000000000000000000000000000000000000000000000000000000000000000000000000000000000000000000000000000000000000000000000000000000000000000000000000000000000000000000000000000000000000000000000000000000000000000000000000000000000000000000000000000000000000000000000000000000000000000000000000000000000000000000000000000000000000000000000000000000000000000000000000000000000000000000000000000000000000000000000000000000000000000000000000000000000000000000000000000000000000000000000000000000000000000000000000000000000000000000000000000000000000000000000000000000000000000000000000000000000000000000000000000000000000000000000000000000000000000000000000000000000000000000000000000000000000000000000000000000000000000000000000000000000000000000000000000000000000000000000000000000000000000000000000000000000000000000000000000000000000000000000000000000000000000000000000000000000000000000000000000000000000000000000000000000000000000000000000000000000000000000000000000000000000000000000000000000000000000000000000000000000000000000000000000000000000000000000000000000000000000000000000000000000000000000000000000000000000000000000000000000000000000000000000000000000000000000000000000000000000000000000000000000000000000000000000000000000000000000000000000000000000000000000000000000000000000000000000000000000000000000000000000000000000000000000000000000000000000000000000000000000000000000000000000000000000000000000000000000000000000000000000000000000000000000000000000000000000000000000000000000000000000000000000000000000000000000000000000000000000000000000000000000000000000000000000000000000000000000000000000000000000000000000000000000000000000000000000000000000000000000000000000000000000000000000000000000000000000000000000000000000000000000000000000000000000000000000000000000000000000000000000000000000000000000000000000000000000000000000000000000000000000000000000000000000000000000000000000000000000000000000000000000000000000000000000000000000000000000000000000000000000000000000000000000000000000000000000000000000000000000000000000000000000000000000000000000000000000000000000000000000000000000000000000000000000000000000000000000000000000000000000000000000000000000000000000000000000000000000000000000000000000000000000000000000000000000000000000000000000000000000000000000000000000000000000000000000000000000000000000000000000000000000000000000000000000000000000000000000000000000000000000000 552), ent P "gcd" 561 (vr 299), ent P "bounded" 569 (vr 306), ent P "make" 578 (vr 313), ent P "from_int" 585 (vr 320), ent P "is_na" 592 (vr 327), ent P "is_finite" 599 (vr 334), ent P "marked" 607 (vr 341), ent P "neg" 614 (vr 348), ent P "add" 622 (vr 355), ent P "sub" 630 (vr 362), ent P "mul" 638 (vr 369), ent P "div" 646 (vr 376), ent P "floor" 653 (vr 383), ent P "to_whole" 661 (vr 390), ent P "nearest_whole" 671 (vr 397), ent P "exponent" 681 (vr 404), ent P "compare" 691 (vr 411)] 58
def o12v2 (P : Z) := fl [vi 1 0, z0, vr 20, vi 5 0, z0, vr 27, vi 9 0, z0, vr 32, vi 25 0, z0, vr 39, vi 30 0, z0, vr 44, vi 35 0, z0, vr 51, vi 40 0, z0, vr 58, vi 45 0, z0, vr 65, vi 50 0, z0, vr 72, vi 61 0, z0, vr 79, vi 69 0, z0, vr 86, vi 75 0, z0, vr 93, vi 77 0, z0, vr 106, vi 82 0, z0, vr 125, vi 93 0, z0, vr 154, vi 95 0, z0, vr 161, vi 99 0, z0, vr 168, vi 110 0, z0, vr 175, vi 112 0, z0, vr 182, vi 117 0, z0, vr 189, vi 170 0, z0, vr 250, vi 172 0, z0, vr 257, vi 178 0, z0, vr 264, vi 193 0, z0, vr 269, vi 199 0, z0, vr 275, vi 208 0, z0, vr 282, vi 212 0, z0, vr 288, vi 229 0, z0, vr 298, vi 233 0, z0, vr 305, vi 237 0, z0, vr 312, vi 247 0, z0, vr 319, vi 251 0, z0, vr 326, vi 253 0, z0, vr 333, vi 255 0, z0, vr 340, vi 259 0, z0, vr 347, vi 263 0, z0, vr 354, vi 273 0, z0, vr 361, vi 275 0, z0, vr 368, vi 279 0, z0, vr 375, vi 287 0, z0, vr 382, vi 291 0, z0, vr 389, vi 296 0, z0, vr 396, vi 302 0, z0, vr 403, vi 313 0, z0, vr 410]
def o245 (P : Z) := tp []
def o246 (P : Z) := fl []
def o247 (P : Z) := tp [vs "name" 488]
def o248 (P : Z) := tp []
def o249 (P : Z) := rco "doubled_text" "doubled_text" (fd 24)
def o250 (P : Z) := cf "doubled_text" "doubled_text" 485 170 1 245 246 .none (vr 247) (vr 248) 249 489
def o251 (P : Z) := fno "doubled_text" "doubled_text" (fd 24) .none (vs "vectorcove.callargs" 400) (vr 250)
def o252 (P : Z) := tp []
def o253 (P : Z) := fl []
def o254 (P : Z) := tp [vs "args" 495, vs "place" 496, vs "show" 497, vs "tag" 498, vs "value" 499, vs "told" 500]
def o255 (P : Z) := tp []
def o256 (P : Z) := rco "argument_text" "argument_text" (fd 25)
def o257 (P : Z) := cf "argument_text" "argument_text" 492 172 3 252 253 .none (vr 254) (vr 255) 256 501
def o258 (P : Z) := fno "argument_text" "argument_text" (fd 25) .none (vs "vectorcove.callargs" 400) (vr 257)
def o259 (P : Z) := tp []
def o260 (P : Z) := fl []
def o261 (P : Z) := tp [vs "value" 507, vs "item" 508]
def o262 (P : Z) := tp []
def o263 (P : Z) := rco "plain_text" "plain_text" (fd 26)
def o264 (P : Z) := cf "plain_text" "plain_text" 504 178 1 259 260 .none (vr 261) (vr 262) 263 509
def o265 (P : Z) := fno "plain_text" "plain_text" (fd 26) .none (vs "vectorcove.callargs" 400) (vr 264)
def o266 (P : Z) := tp []
def o267 (P : Z) := fl []
def o268 (P : Z) := rco "unused_text" "unused_text" (fd 27)
def o269 (P : Z) := cf "unused_text" "unused_text" 512 193 3 266 267 .none .none .none 268 515
def o270 (P : Z) := fno "unused_text" "unused_text" (fd 27) .none (vs "vectorcove.callargs" 400) (vr 269)
def o271 (P : Z) := tp [.none]
def o272 (P : Z) := tp []
def o273 (P : Z) := fl []
def o274 (P : Z) := rco "match_names" "match_names" (fd 28)
def o275 (P : Z) := cf "match_names" "match_names" 518 199 3 272 273 .none .none .none 274 521
def o276 (P : Z) := fno "match_names" "match_names" (fd 28) (vr 271) (vs "vectorcove.callargs" 400) (vr 275)
def o277 (P : Z) := tp []
def o278 (P : Z) := fl []
def o279 (P : Z) := tp [vs "value" 527, vs "name" 528]
def o280 (P : Z) := tp []
def o281 (P : Z) := rco "needed" "needed" (fd 29)
def o282 (P : Z) := cf "needed" "needed" 524 208 2 277 278 .none (vr 279) (vr 280) 281 529
def o283 (P : Z) := fno "needed" "needed" (fd 29) .none (vs "vectorcove.callargs" 400) (vr 282)
def o284 (P : Z) := tp [.none]
def o285 (P : Z) := tp []
def o286 (P : Z) := fl []
def o287 (P : Z) := rco "take" "take" (fd 30)
def o288 (P : Z) := cf "take" "take" 532 212 3 285 286 .none .none .none 287 535
def o289 (P : Z) := fno "take" "take" (fd 30) (vr 284) (vs "vectorcove.callargs" 400) (vr 288)
def o290 (P : Z) := tp [vi 0 540, vi 0 541]
def o291 (P : Z) := tp [vi 1 543, vi 0 544]
def o292 (P : Z) := tp [vi 0 546, vi 1 547]
def o293 (P : Z) := tp []
def o294 (P : Z) := fl []
def o295 (P : Z) := tp [vs "a" 557, vs "b" 558]
def o296 (P : Z) := tp []
def o297 (P : Z) := rco "gcd" "gcd" (fd 37)
def o298 (P : Z) := cf "gcd" "gcd" 554 229 2 293 294 .none (vr 295) (vr 296) 297 559
def o299 (P : Z) := fno "gcd" "gcd" (fd 37) .none (vs "vectorcove.rational" 538) (vr 298)
def o300 (P : Z) := tp []
def o301 (P : Z) := fl []
def o302 (P : Z) := tp [vs "n" 565, vs "d" 566]
def o303 (P : Z) := tp []
def o304 (P : Z) := rco "bounded" "bounded" (fd 38)
def o305 (P : Z) := cf "bounded" "bounded" 562 233 2 300 301 .none (vr 302) (vr 303) 304 567
def o306 (P : Z) := fno "bounded" "bounded" (fd 38) .none (vs "vectorcove.rational" 538) (vr 305)
def o307 (P : Z) := tp []
def o308 (P : Z) := fl []
def o309 (P : Z) := tp [vs "n" 573, vs "d" 574, vs "common" 575]
def o310 (P : Z) := tp []
def o311 (P : Z) := rco "make" "make" (fd 39)
def o312 (P : Z) := cf "make" "make" 570 237 2 307 308 .none (vr 309) (vr 310) 311 576
def o313 (P : Z) := fno "make" "make" (fd 39) .none (vs "vectorcove.rational" 538) (vr 312)
def o314 (P : Z) := tp []
def o315 (P : Z) := fl []
def o316 (P : Z) := tp [vs "n" 582]
def o317 (P : Z) := tp []
def o318 (P : Z) := rco "from_int" "from_int" (fd 40)
def o319 (P : Z) := cf "from_int" "from_int" 579 247 1 314 315 .none (vr 316) (vr 317) 318 583
def o320 (P : Z) := fno "from_int" "from_int" (fd 40) .none (vs "vectorcove.rational" 538) (vr 319)
def o321 (P : Z) := tp []
def o322 (P : Z) := fl []
def o323 (P : Z) := tp [vs "x" 589]
def o324 (P : Z) := tp []
def o325 (P : Z) := rco "is_na" "is_na" (fd 41)
def o326 (P : Z) := cf "is_na" "is_na" 586 251 1 321 322 .none (vr 323) (vr 324) 325 590
def o327 (P : Z) := fno "is_na" "is_na" (fd 41) .none (vs "vectorcove.rational" 538) (vr 326)
def o328 (P : Z) := tp []
def o329 (P : Z) := fl []
def o330 (P : Z) := tp [vs "x" 596]
def o331 (P : Z) := tp []
def o332 (P : Z) := rco "is_finite" "is_finite" (fd 42)
def o333 (P : Z) := cf "is_finite" "is_finite" 593 253 1 328 329 .none (vr 330) (vr 331) 332 597
def o334 (P : Z) := fno "is_finite" "is_finite" (fd 42) .none (vs "vectorcove.rational" 538) (vr 333)
def o335 (P : Z) := tp []
def o336 (P : Z) := fl []
def o337 (P : Z) := tp [vs "x" 603, vs "y" 604]
def o338 (P : Z) := tp []
def o339 (P : Z) := rco "marked" "marked" (fd 43)
def o340 (P : Z) := cf "marked" "marked" 600 255 2 335 336 .none (vr 337) (vr 338) 339 605
def o341 (P : Z) := fno "marked" "marked" (fd 43) .none (vs "vectorcove.rational" 538) (vr 340)
def o342 (P : Z) := tp []
def o343 (P : Z) := fl []
def o344 (P : Z) := tp [vs "x" 611]
def o345 (P : Z) := tp []
def o346 (P : Z) := rco "neg" "neg" (fd 44)
def o347 (P : Z) := cf "neg" "neg" 608 259 1 342 343 .none (vr 344) (vr 345) 346 612
def o348 (P : Z) := fno "neg" "neg" (fd 44) .none (vs "vectorcove.rational" 538) (vr 347)
def o349 (P : Z) := tp []
def o350 (P : Z) := fl []
def o351 (P : Z) := tp [vs "x" 618, vs "y" 619]
def o352 (P : Z) := tp []
def o353 (P : Z) := rco "add" "add" (fd 45)
def o354 (P : Z) := cf "add" "add" 615 263 2 349 350 .none (vr 351) (vr 352) 353 620
def o355 (P : Z) := fno "add" "add" (fd 45) .none (vs "vectorcove.rational" 538) (vr 354)
def o356 (P : Z) := tp []
def o357 (P : Z) := fl []
def o358 (P : Z) := tp [vs "x" 626, vs "y" 627]
def o359 (P : Z) := tp []
def o360 (P : Z) := rco "sub" "sub" (fd 46)
def o361 (P : Z) := cf "sub" "sub" 623 273 2 356 357 .none (vr 358) (vr 359) 360 628
def o362 (P : Z) := fno "sub" "sub" (fd 46) .none (vs "vectorcove.rational" 538) (vr 361)
def o363 (P : Z) := tp []
def o364 (P : Z) := fl []
def o365 (P : Z) := tp [vs "x" 634, vs "y" 635]
def o366 (P : Z) := tp []
def o367 (P : Z) := rco "mul" "mul" (fd 47)
def o368 (P : Z) := cf "mul" "mul" 631 275 2 363 364 .none (vr 365) (vr 366) 367 636
def o369 (P : Z) := fno "mul" "mul" (fd 47) .none (vs "vectorcove.rational" 538) (vr 368)
def o370 (P : Z) := tp []
def o371 (P : Z) := fl []
def o372 (P : Z) := tp [vs "x" 642, vs "y" 643]
def o373 (P : Z) := tp []
def o374 (P : Z) := rco "div" "div" (fd 48)
def o375 (P : Z) := cf "div" "div" 639 279 2 370 371 .none (vr 372) (vr 373) 374 644
def o376 (P : Z) := fno "div" "div" (fd 48) .none (vs "vectorcove.rational" 538) (vr 375)
def o377 (P : Z) := tp []
def o378 (P : Z) := fl []
def o379 (P : Z) := tp [vs "x" 650]
def o380 (P : Z) := tp []
def o381 (P : Z) := rco "floor" "floor" (fd 49)
def o382 (P : Z) := cf "floor" "floor" 647 287 1 377 378 .none (vr 379) (vr 380) 381 651
def o383 (P : Z) := fno "floor" "floor" (fd 49) .none (vs "vectorcove.rational" 538) (vr 382)
def o384 (P : Z) := tp []
def o385 (P : Z) := fl []
def o386 (P : Z) := tp [vs "x" 657, vs "found" 658]
def o387 (P : Z) := tp []
def o388 (P : Z) := rco "to_whole" "to_whole" (fd 50)
def o389 (P : Z) := cf "to_whole" "to_whole" 654 291 1 384 385 .none (vr 386) (vr 387) 388 659
def o390 (P : Z) := fno "to_whole" "to_whole" (fd 50) .none (vs "vectorcove.rational" 538) (vr 389)
def o391 (P : Z) := tp []
def o392 (P : Z) := fl []
def o393 (P : Z) := tp [vs "n" 665, vs "d" 666, vs "low" 667, vs "rest" 668]
def o394 (P : Z) := tp []
def o395 (P : Z) := rco "nearest_whole" "nearest_whole" (fd 51)
def o396 (P : Z) := cf "nearest_whole" "nearest_whole" 662 296 2 391 392 .none (vr 393) (vr 394) 395 669
def o397 (P : Z) := fno "nearest_whole" "nearest_whole" (fd 51) .none (vs "vectorcove.rational" 538) (vr 396)
def o398 (P : Z) := tp []
def o399 (P : Z) := fl []
def o400 (P : Z) := tp [vs "x" 675, vs "n" 676, vs "d" 677, vs "e" 678]
def o401 (P : Z) := tp []
def o402 (P : Z) := rco "exponent" "exponent" (fd 52)
def o403 (P : Z) := cf "exponent" "exponent" 672 302 1 398 399 .none (vr 400) (vr 401) 402 679
def o404 (P : Z) := fno "exponent" "exponent" (fd 52) .none (vs "vectorcove.rational" 538) (vr 403)
def o405 (P : Z) := tp []
def o406 (P : Z) := fl []
def o407 (P : Z) := tp [vs "x" 685, vs "y" 686, vs "left" 687, vs "right" 688]
def o408 (P : Z) := tp []
def o409 (P : Z) := rco "compare" "compare" (fd 53)
def o410 (P : Z) := cf "compare" "compare" 682 313 2 405 406 .none (vr 407) (vr 408) 409 689
def o411 (P : Z) := fno "compare" "compare" (fd 53) .none (vs "vectorcove.rational" 538) (vr 410)
def o3v3 (P : Z) := dco [ent P "__name__" 165 (vs "vectorcove.coerce" 887), ent P "__doc__" 166 .none, ent P "__package__" 167 .none, ent P "__loader__" 168 (.builtin "__main__.__loader__#opaque"), ent P "__spec__" 169 .none, ent P "__annotations__" 170 (vr 6), ent P "__builtins__" 171 (vr 4), ent P "__file__" 173 (vp 172), ent P "__cached__" 174 .none, ent P "_wall" 193 (vr 21), ent P "get_attr" 203 (vr 28), ent P "names_of" 209 (vr 33), ent P "dim_of" 217 (vr 40), ent P "dimnames_of" 223 (vr 45), ent P "class_attr" 231 (vr 52), ent P "language_class" 239 (vr 59), ent P "shape_class" 247 (vr 66), ent P "plain_class" 255 (vr 73), ent P "class_of" 263 (vr 80), ent P "inherits" 272 (vr 87), ent P "CoveError" 294 (vr 97), ent P "Refusal" 319 (vr 117), ent P "Vector" 363 (vr 144), ent P "character" 370 (vr 155), ent P "flag" 377 (vr 162), ent P "length" 385 (vr 169), ent P "is_atomic" 392 (vr 176), ent P "share" 399 (vr 183), ent P "Matching" 484 (vr 240), ent P "doubled_text" 491 (vr 251), ent P "argument_text" 503 (vr 258), ent P "plain_text" 511 (vr 265), ent P "unused_text" 517 (vr 270), ent P "match_names" 523 (vr 276), ent P "needed" 531 (vr 283), ent P "take" 537 (vr 289), ent P "NAN" 542 (vr 290), ent P "INF" 545 (vr 291), ent P "ZERO" 548 (vr 292), ent P "MOST_FIGURES" 550 (vi 5000 549), ent P "MOST_PART" 553 (vi 100000000000000000000000000000000000000000000000000000000000000000000000000000000000000000000000000000000000000000000000000000000000000000000000000000000000000000000000000000000000000000000000000000000000000000000000000000000000000000000000000000000000000000000000000000000000000000000000000000000000000000000000000000000000000000000000000000000000000000000000000000000000000000000000000000000000000000000000000000000000000000000000000000000000000000000000000000000000000000000000000000000000000000000000000000000000000000000000000000000000000000000000000000000000000000000000000000000000000000000000000000000000000000000000000000000000000000000000000000000000000000000000000000000000000000000000000000000000000000000000000000000000000000000000000000000000000000000000000000000000000000000000000000000000000000000000000000000000000000000000000000000000000000000000000000000000000000000000000000000000000000000000000000000000000000000000000000000000000000000000000000000000000000000000000000000000000000000000000000000000000000000000000000000000000000000000000000000000000000000000000000000000000000000000000000000000000000000000000000000000000000000000000000000000000000000000000000000000000000000000000000000000000000000000000000000000000000000000000000000000000000000000000000000000000000000000000000000000000000000000000000000000000000000000000000000000000000000000000000000000000000000000000000000000000000000000000000000000000000000000000000000000000000000000000000000000000000000000000000000000000000000000000000000000000000000000000000000000000000000000000000000000000000000000000000000000000000000000000000000000000000000000000000000000000000000000000000000000000000000000000000000000000000000000000000000000000000000000000000000000000000000000000000000000000000000000000000000000000000000000000000000000000000000000000000000000000000000000000000000000000000000000000000000000000000000000000000000000000000000000000000000000000000000000000000000000000000000000000000000000000000000000000000000000000000000000000000000000000000000000000000000000000000000000000000000000000000000000000000000000000000000000000000000000000000000000000000000000000000000000000000000000000000000000000000000000000000000000000000000000000000000000000000000000000000000000000000000000000000000000000000000000000000000000000000000000000000000000000000000000000000000000000000000000000000000000000000000000000000000000000000000000000000000000000000000000000000000000000000000000000000000000000000000000000000000000000000000000000000000000000000000000000000000000000000000000000000000000000000000000000000000000000000000000000000000000000000000000000000000000000000000000000000000000000000000000000000000000000000000000000000000000000000000000000000000000000000000000000000000000000000000000000000000000000000000000000000000000000000000000000000000000000000000000000000000000000000000000000000000000000000000000000000000000000000000000000000000000000000000000000000000000000000000000000000000000000000000000000000000000000000000000000000000000000000000000000000000000000000000000000000000000000000000000000000000000000000000000000000000000000000000000000000000000000000000000000000000000000000000000000000000000000000000000000000000000000000000000000000000000000000000000000000000000000000000000000000000000000000000000000000000000000000000000000000000000000000000000000000000000000000000000000000000000000000000000000000000000000000000000000000000000000000000000000000000000000000000000000000000000000000000000000000000000000000000000000000000000000000000000000000000000000000000000000000000000000000000000000000000000000000000000000000000000000000000000000000000000000000000000000000000000000000000000000000000000000000000000000000000000000000000000000000000000000000000000000000000000000000000000000000000000000000000000000000000000000000000000000000000000000000000000000000000000000000000000000000000000000000000000000000000000000000000000000000000000000000000000000000000000000000000000000000000000000000000000000000000000000000000000000000000000000000000000000000000000000000000000000000000000000000000000000000000000000000000000000000000000000000000000000000000000000000000000000000000000000000000000000000000000000000000000000000000000000000000000000000000000000000000000000000000000000000000000000000000000000000000000000000000000000000000000000000000000000000000000000000000000000000000000000000000000000000000000000000000000000000000000000000000000000000000000000000000000000000000000000000000000000000000000000000000000000000000000000000000000000000000000000000000000000000000000000000000000000000000000000000000000000000000000000000000000000000000000000000000000000000000000000000000000000000000000000000000000000000000000000000000000000000000000000000000000000000000000000000000000000000000000000000000000000000000000000000000000000000000000000000000000000000000000000000000000000000000000000000000000000000000000000000000000000000000000000000000000000000000000000000000000000000000000000000000000000000000 552), ent P "gcd" 561 (vr 299), ent P "bounded" 569 (vr 306), ent P "make" 578 (vr 313), ent P "from_int" 585 (vr 320), ent P "is_na" 592 (vr 327), ent P "is_finite" 599 (vr 334), ent P "marked" 607 (vr 341), ent P "neg" 614 (vr 348), ent P "add" 622 (vr 355), ent P "sub" 630 (vr 362), ent P "mul" 638 (vr 369), ent P "div" 646 (vr 376), ent P "floor" 653 (vr 383), ent P "to_whole" 661 (vr 390), ent P "nearest_whole" 671 (vr 397), ent P "exponent" 681 (vr 404), ent P "compare" 691 (vr 411), ent P "MOST_EXPONENT" 695 (vi 4096 694), ent P "MOST_SIGNS" 697 (vi 5000 696), ent P "whole_text" 707 (vr 418), ent P "special_text" 714 (vr 425), ent P "scaled" 724 (vr 432), ent P "significant" 734 (vr 439), ent P "without_tail" 742 (vr 446), ent P "scientific_text" 754 (vr 453), ent P "fixed_text" 764 (vr 460), ent P "measures" 777 (vr 467), ent P "chosen_form" 794 (vr 474), ent P "formed" 803 (vr 481), ent P "common_texts" 809 (vr 486), ent P "number_text" 818 (vr 494), ent P "digits_value" 828 (vr 501), ent P "digit_run" 837 (vr 508), ent P "exponent_value" 846 (vr 515), ent P "powered" 855 (vr 522), ent P "unsigned_number" 874 (vr 529), ent P "parse_number" 886 (vr 536), ent P "MOST_INTEGER" 890 (vi 2147483647 889), ent P "note" 898 (vr 543)] 80
def o12v3 (P : Z) := fl [vi 1 0, z0, vr 20, vi 5 0, z0, vr 27, vi 9 0, z0, vr 32, vi 25 0, z0, vr 39, vi 30 0, z0, vr 44, vi 35 0, z0, vr 51, vi 40 0, z0, vr 58, vi 45 0, z0, vr 65, vi 50 0, z0, vr 72, vi 61 0, z0, vr 79, vi 69 0, z0, vr 86, vi 75 0, z0, vr 93, vi 77 0, z0, vr 106, vi 82 0, z0, vr 125, vi 93 0, z0, vr 154, vi 95 0, z0, vr 161, vi 99 0, z0, vr 168, vi 110 0, z0, vr 175, vi 112 0, z0, vr 182, vi 117 0, z0, vr 189, vi 170 0, z0, vr 250, vi 172 0, z0, vr 257, vi 178 0, z0, vr 264, vi 193 0, z0, vr 269, vi 199 0, z0, vr 275, vi 208 0, z0, vr 282, vi 212 0, z0, vr 288, vi 229 0, z0, vr 298, vi 233 0, z0, vr 305, vi 237 0, z0, vr 312, vi 247 0, z0, vr 319, vi 251 0, z0, vr 326, vi 253 0, z0, vr 333, vi 255 0, z0, vr 340, vi 259 0, z0, vr 347, vi 263 0, z0, vr 354, vi 273 0, z0, vr 361, vi 275 0, z0, vr 368, vi 279 0, z0, vr 375, vi 287 0, z0, vr 382, vi 291 0, z0, vr 389, vi 296 0, z0, vr 396, vi 302 0, z0, vr 403, vi 313 0, z0, vr 410, vi 334 0, z0, vr 417, vi 345 0, z0, vr 424, vi 353 0, z0, vr 431, vi 358 0, z0, vr 438, vi 367 0, z0, vr 445, vi 372 0, z0, vr 452, vi 379 0, z0, vr 459, vi 387 0, z0, vr 466, vi 394 0, z0, vr 473, vi 414 0, z0, vr 480, vi 421 0, z0, vr 485, vi 425 0, z0, vr 493, vi 427 0, z0, vr 500, vi 432 0, z0, vr 507, vi 436 0, z0, vr 514, vi 446 0, z0, vr 521, vi 456 0, z0, vr 528, vi 490 0, z0, vr 535, vi 509 0, z0, vr 542]
def o412 (P : Z) := tp []
def o413 (P : Z) := fl []
def o414 (P : Z) := tp [vs "n" 701, vs "rest" 702, vs "row" 703, vs "part" 704]
def o415 (P : Z) := tp []
def o416 (P : Z) := rco "whole_text" "whole_text" (fd 57)
def o417 (P : Z) := cf "whole_text" "whole_text" 698 334 1 412 413 .none (vr 414) (vr 415) 416 705
def o418 (P : Z) := fno "whole_text" "whole_text" (fd 57) .none (vs "vectorcove.numtext" 692) (vr 417)
def o419 (P : Z) := tp []
def o420 (P : Z) := fl []
def o421 (P : Z) := tp [vs "x" 711]
def o422 (P : Z) := tp []
def o423 (P : Z) := rco "special_text" "special_text" (fd 58)
def o424 (P : Z) := cf "special_text" "special_text" 708 345 1 419 420 .none (vr 421) (vr 422) 423 712
def o425 (P : Z) := fno "special_text" "special_text" (fd 58) .none (vs "vectorcove.numtext" 692) (vr 424)
def o426 (P : Z) := tp []
def o427 (P : Z) := fl []
def o428 (P : Z) := tp [vs "x" 718, vs "e" 719, vs "digits" 720, vs "shift" 721]
def o429 (P : Z) := tp []
def o430 (P : Z) := rco "scaled" "scaled" (fd 59)
def o431 (P : Z) := cf "scaled" "scaled" 715 353 3 426 427 .none (vr 428) (vr 429) 430 722
def o432 (P : Z) := fno "scaled" "scaled" (fd 59) .none (vs "vectorcove.numtext" 692) (vr 431)
def o433 (P : Z) := tp []
def o434 (P : Z) := fl []
def o435 (P : Z) := tp [vs "x" 728, vs "digits" 729, vs "e" 730, vs "n" 731]
def o436 (P : Z) := tp []
def o437 (P : Z) := rco "significant" "significant" (fd 60)
def o438 (P : Z) := cf "significant" "significant" 725 358 2 433 434 .none (vr 435) (vr 436) 437 732
def o439 (P : Z) := fno "significant" "significant" (fd 60) .none (vs "vectorcove.numtext" 692) (vr 438)
def o440 (P : Z) := tp []
def o441 (P : Z) := fl []
def o442 (P : Z) := tp [vs "text" 738, vs "end" 739]
def o443 (P : Z) := tp []
def o444 (P : Z) := rco "without_tail" "without_tail" (fd 61)
def o445 (P : Z) := cf "without_tail" "without_tail" 735 367 1 440 441 .none (vr 442) (vr 443) 444 740
def o446 (P : Z) := fno "without_tail" "without_tail" (fd 61) .none (vs "vectorcove.numtext" 692) (vr 445)
def o447 (P : Z) := tp []
def o448 (P : Z) := fl []
def o449 (P : Z) := tp [vs "x" 746, vs "digits" 747, vs "side" 748, vs "text" 749, vs "e" 750, vs "row" 751]
def o450 (P : Z) := tp []
def o451 (P : Z) := rco "scientific_text" "scientific_text" (fd 62)
def o452 (P : Z) := cf "scientific_text" "scientific_text" 743 372 2 447 448 .none (vr 449) (vr 450) 451 752
def o453 (P : Z) := fno "scientific_text" "scientific_text" (fd 62) .none (vs "vectorcove.numtext" 692) (vr 452)
def o454 (P : Z) := tp []
def o455 (P : Z) := fl []
def o456 (P : Z) := tp [vs "x" 758, vs "places" 759, vs "n" 760, vs "text" 761]
def o457 (P : Z) := tp []
def o458 (P : Z) := rco "fixed_text" "fixed_text" (fd 63)
def o459 (P : Z) := cf "fixed_text" "fixed_text" 755 379 2 454 455 .none (vr 456) (vr 457) 458 762
def o460 (P : Z) := fno "fixed_text" "fixed_text" (fd 63) .none (vs "vectorcove.numtext" 692) (vr 459)
def o461 (P : Z) := tp []
def o462 (P : Z) := fl []
def o463 (P : Z) := tp [vs "x" 768, vs "digits" 769, vs "side" 770, vs "text" 771, vs "e" 772, vs "count" 773, vs "left" 774]
def o464 (P : Z) := tp []
def o465 (P : Z) := rco "measures" "measures" (fd 64)
def o466 (P : Z) := cf "measures" "measures" 765 387 2 461 462 .none (vr 463) (vr 464) 465 775
def o467 (P : Z) := fno "measures" "measures" (fd 64) .none (vs "vectorcove.numtext" 692) (vr 466)
def o468 (P : Z) := tp []
def o469 (P : Z) := fl []
def o470 (P : Z) := tp [vs "xs" 781, vs "digits" 782, vs "count" 783, vs "left" 784, vs "places" 785, vs "wide" 786, vs "minus" 787, vs "x" 788, vs "row" 789, vs "fixed_width" 790, vs "scientific_width" 791]
def o471 (P : Z) := tp []
def o472 (P : Z) := rco "chosen_form" "chosen_form" (fd 65)
def o473 (P : Z) := cf "chosen_form" "chosen_form" 778 394 2 468 469 .none (vr 470) (vr 471) 472 792
def o474 (P : Z) := fno "chosen_form" "chosen_form" (fd 65) .none (vs "vectorcove.numtext" 692) (vr 473)
def o475 (P : Z) := tp []
def o476 (P : Z) := fl []
def o477 (P : Z) := tp [vs "x" 798, vs "form" 799, vs "text" 800]
def o478 (P : Z) := tp []
def o479 (P : Z) := rco "formed" "formed" (fd 66)
def o480 (P : Z) := cf "formed" "formed" 795 414 2 475 476 .none (vr 477) (vr 478) 479 801
def o481 (P : Z) := fno "formed" "formed" (fd 66) .none (vs "vectorcove.numtext" 692) (vr 480)
def o482 (P : Z) := tp []
def o483 (P : Z) := fl []
def o484 (P : Z) := rco "common_texts" "common_texts" (fd 67)
def o485 (P : Z) := cf "common_texts" "common_texts" 804 421 2 482 483 .none .none .none 484 807
def o486 (P : Z) := fno "common_texts" "common_texts" (fd 67) .none (vs "vectorcove.numtext" 692) (vr 485)
def o487 (P : Z) := tp [vi 7 810]
def o488 (P : Z) := tp []
def o489 (P : Z) := fl []
def o490 (P : Z) := tp [vs "x" 814, vs "digits" 815]
def o491 (P : Z) := tp []
def o492 (P : Z) := rco "number_text" "number_text" (fd 68)
def o493 (P : Z) := cf "number_text" "number_text" 811 425 2 488 489 .none (vr 490) (vr 491) 492 816
def o494 (P : Z) := fno "number_text" "number_text" (fd 68) (vr 487) (vs "vectorcove.numtext" 692) (vr 493)
def o495 (P : Z) := tp []
def o496 (P : Z) := fl []
def o497 (P : Z) := tp [vs "text" 822, vs "base" 823, vs "value" 824, vs "char" 825]
def o498 (P : Z) := tp []
def o499 (P : Z) := rco "digits_value" "digits_value" (fd 69)
def o500 (P : Z) := cf "digits_value" "digits_value" 819 427 2 495 496 .none (vr 497) (vr 498) 499 826
def o501 (P : Z) := fno "digits_value" "digits_value" (fd 69) .none (vs "vectorcove.numtext" 692) (vr 500)
def o502 (P : Z) := tp []
def o503 (P : Z) := fl []
def o504 (P : Z) := tp [vs "text" 832, vs "at" 833, vs "digits" 834]
def o505 (P : Z) := tp []
def o506 (P : Z) := rco "digit_run" "digit_run" (fd 70)
def o507 (P : Z) := cf "digit_run" "digit_run" 829 432 3 502 503 .none (vr 504) (vr 505) 506 835
def o508 (P : Z) := fno "digit_run" "digit_run" (fd 70) .none (vs "vectorcove.numtext" 692) (vr 507)
def o509 (P : Z) := tp []
def o510 (P : Z) := fl []
def o511 (P : Z) := tp [vs "text" 841, vs "start" 842, vs "value" 843]
def o512 (P : Z) := tp []
def o513 (P : Z) := rco "exponent_value" "exponent_value" (fd 71)
def o514 (P : Z) := cf "exponent_value" "exponent_value" 838 436 1 509 510 .none (vr 511) (vr 512) 513 844
def o515 (P : Z) := fno "exponent_value" "exponent_value" (fd 71) .none (vs "vectorcove.numtext" 692) (vr 514)
def o516 (P : Z) := tp []
def o517 (P : Z) := fl []
def o518 (P : Z) := tp [vs "n" 850, vs "base" 851, vs "e" 852]
def o519 (P : Z) := tp []
def o520 (P : Z) := rco "powered" "powered" (fd 72)
def o521 (P : Z) := cf "powered" "powered" 847 446 3 516 517 .none (vr 518) (vr 519) 520 853
def o522 (P : Z) := fno "powered" "powered" (fd 72) .none (vs "vectorcove.numtext" 692) (vr 521)
def o523 (P : Z) := tp []
def o524 (P : Z) := fl []
def o525 (P : Z) := tp [vs "text" 859, vs "base" 860, vs "digits" 861, vs "mark" 862, vs "scale" 863, vs "end" 864, vs "before" 865, vs "behind" 866, vs "start" 867, vs "e" 868, vs "ok" 869, vs "n" 870, vs "found" 871]
def o526 (P : Z) := tp []
def o527 (P : Z) := rco "unsigned_number" "unsigned_number" (fd 73)
def o528 (P : Z) := cf "unsigned_number" "unsigned_number" 856 456 1 523 524 .none (vr 525) (vr 526) 527 872
def o529 (P : Z) := fno "unsigned_number" "unsigned_number" (fd 73) .none (vs "vectorcove.numtext" 692) (vr 528)
def o530 (P : Z) := tp []
def o531 (P : Z) := fl []
def o532 (P : Z) := tp [vs "text" 878, vs "body" 879, vs "negative" 880, vs "small" 881, vs "found" 882, vs "ok" 883]
def o533 (P : Z) := tp []
def o534 (P : Z) := rco "parse_number" "parse_number" (fd 74)
def o535 (P : Z) := cf "parse_number" "parse_number" 875 490 1 530 531 .none (vr 532) (vr 533) 534 884
def o536 (P : Z) := fno "parse_number" "parse_number" (fd 74) .none (vs "vectorcove.numtext" 692) (vr 535)
def o537 (P : Z) := tp []
def o538 (P : Z) := fl []
def o539 (P : Z) := tp [vs "notes" 894, vs "message" 895]
def o540 (P : Z) := tp []
def o541 (P : Z) := rco "note" "note" (fd 77)
def o542 (P : Z) := cf "note" "note" 891 509 2 537 538 .none (vr 539) (vr 540) 541 896
def o543 (P : Z) := fno "note" "note" (fd 77) .none (vs "vectorcove.coerce" 887) (vr 542)
def o3v4 (P : Z) := dco [ent P "__name__" 165 (vs "vectorcove.summaries" 1024), ent P "__doc__" 166 .none, ent P "__package__" 167 .none, ent P "__loader__" 168 (.builtin "__main__.__loader__#opaque"), ent P "__spec__" 169 .none, ent P "__annotations__" 170 (vr 6), ent P "__builtins__" 171 (vr 4), ent P "__file__" 173 (vp 172), ent P "__cached__" 174 .none, ent P "_wall" 193 (vr 21), ent P "get_attr" 203 (vr 28), ent P "names_of" 209 (vr 33), ent P "dim_of" 217 (vr 40), ent P "dimnames_of" 223 (vr 45), ent P "class_attr" 231 (vr 52), ent P "language_class" 239 (vr 59), ent P "shape_class" 247 (vr 66), ent P "plain_class" 255 (vr 73), ent P "class_of" 263 (vr 80), ent P "inherits" 272 (vr 87), ent P "CoveError" 294 (vr 97), ent P "Refusal" 319 (vr 117), ent P "Vector" 363 (vr 144), ent P "character" 370 (vr 155), ent P "flag" 377 (vr 162), ent P "length" 385 (vr 169), ent P "is_atomic" 392 (vr 176), ent P "share" 399 (vr 183), ent P "Matching" 484 (vr 240), ent P "doubled_text" 491 (vr 251), ent P "argument_text" 503 (vr 258), ent P "plain_text" 511 (vr 265), ent P "unused_text" 517 (vr 270), ent P "match_names" 523 (vr 276), ent P "needed" 531 (vr 283), ent P "take" 537 (vr 289), ent P "NAN" 542 (vr 290), ent P "INF" 545 (vr 291), ent P "ZERO" 548 (vr 292), ent P "MOST_FIGURES" 550 (vi 5000 549), ent P "MOST_PART" 553 (vi 100000000000000000000000000000000000000000000000000000000000000000000000000000000000000000000000000000000000000000000000000000000000000000000000000000000000000000000000000000000000000000000000000000000000000000000000000000000000000000000000000000000000000000000000000000000000000000000000000000000000000000000000000000000000000000000000000000000000000000000000000000000000000000000000000000000000000000000000000000000000000000000000000000000000000000000000000000000000000000000000000000000000000000000000000000000000000000000000000000000000000000000000000000000000000000000000000000000000000000000000000000000000000000000000000000000000000000000000000000000000000000000000000000000000000000000000000000000000000000000000000000000000000000000000000000000000000000000000000000000000000000000000000000000000000000000000000000000000000000000000000000000000000000000000000000000000000000000000000000000000000000000000000000000000000000000000000000000000000000000000000000000000000000000000000000000000000000000000000000000000000000000000000000000000000000000000000000000000000000000000000000000000000000000000000000000000000000000000000000000000000000000000000000000000000000000000000000000000000000000000000000000000000000000000000000000000000000000000000000000000000000000000000000000000000000000000000000000000000000000000000000000000000000000000000000000000000000000000000000000000000000000000000000000000000000000000000000000000000000000000000000000000000000000000000000000000000000000000000000000000000000000000000000000000000000000000000000000000000000000000000000000000000000000000000000000000000000000000000000000000000000000000000000000000000000000000000000000000000000000000000000000000000000000000000000000000000000000000000000000000000000000000000000000000000000000000000000000000000000000000000000000000000000000000000000000000000000000000000000000000000000000000000000000000000000000000000000000000000000000000000000000000000000000000000000000000000000000000000000000000000000000000000000000000000000000000000000000000000000000000000000000000000000000000000000000000000000000000000000000000000000000000000000000000000000000000000000000000000000000000000000000000000000000000000000000000000000000000000000000000000000000000000000000000000000000000000000000000000000000000000000000000000000000000000000000000000000000000000000000000000000000000000000000000000000000000000000000000000000000000000000000000000000000000000000000000000000000000000000000000000000000000000000000000000000000000000000000000000000000000000000000000000000000000000000000000000000000000000000000000000000000000000000000000000000000000000000000000000000000000000000000000000000000000000000000000000000000000000000000000000000000000000000000000000000000000000000000000000000000000000000000000000000000000000000000000000000000000000000000000000000000000000000000000000000000000000000000000000000000000000000000000000000000000000000000000000000000000000000000000000000000000000000000000000000000000000000000000000000000000000000000000000000000000000000000000000000000000000000000000000000000000000000000000000000000000000000000000000000000000000000000000000000000000000000000000000000000000000000000000000000000000000000000000000000000000000000000000000000000000000000000000000000000000000000000000000000000000000000000000000000000000000000000000000000000000000000000000000000000000000000000000000000000000000000000000000000000000000000000000000000000000000000000000000000000000000000000000000000000000000000000000000000000000000000000000000000000000000000000000000000000000000000000000000000000000000000000000000000000000000000000000000000000000000000000000000000000000000000000000000000000000000000000000000000000000000000000000000000000000000000000000000000000000000000000000000000000000000000000000000000000000000000000000000000000000000000000000000000000000000000000000000000000000000000000000000000000000000000000000000000000000000000000000000000000000000000000000000000000000000000000000000000000000000000000000000000000000000000000000000000000000000000000000000000000000000000000000000000000000000000000000000000000000000000000000000000000000000000000000000000000000000000000000000000000000000000000000000000000000000000000000000000000000000000000000000000000000000000000000000000000000000000000000000000000000000000000000000000000000000000000000000000000000000000000000000000000000000000000000000000000000000000000000000000000000000000000000000000000000000000000000000000000000000000000000000000000000000000000000000000000000000000000000000000000000000000000000000000000000000000000000000000000000000000000000000000000000000000000000000000000000000000000000000000000000000000000000000000000000000000000000000000000000000000000000000000000000000000000000000000000000000000000000000000000000000000000000000000000000000000000000000000000000000000000000000000000000000000000000000000000000000000000000000000000000000000000000000000000000000000000000000000000000000000000000000000000000000000000000000000000000000000000 552), ent P "gcd" 561 (vr 299), ent P "bounded" 569 (vr 306), ent P "make" 578 (vr 313), ent P "from_int" 585 (vr 320), ent P "is_na" 592 (vr 327), ent P "is_finite" 599 (vr 334), ent P "marked" 607 (vr 341), ent P "neg" 614 (vr 348), ent P "add" 622 (vr 355), ent P "sub" 630 (vr 362), ent P "mul" 638 (vr 369), ent P "div" 646 (vr 376), ent P "floor" 653 (vr 383), ent P "to_whole" 661 (vr 390), ent P "nearest_whole" 671 (vr 397), ent P "exponent" 681 (vr 404), ent P "compare" 691 (vr 411), ent P "MOST_EXPONENT" 695 (vi 4096 694), ent P "MOST_SIGNS" 697 (vi 5000 696), ent P "whole_text" 707 (vr 418), ent P "special_text" 714 (vr 425), ent P "scaled" 724 (vr 432), ent P "significant" 734 (vr 439), ent P "without_tail" 742 (vr 446), ent P "scientific_text" 754 (vr 453), ent P "fixed_text" 764 (vr 460), ent P "measures" 777 (vr 467), ent P "chosen_form" 794 (vr 474), ent P "formed" 803 (vr 481), ent P "common_texts" 809 (vr 486), ent P "number_text" 818 (vr 494), ent P "digits_value" 828 (vr 501), ent P "digit_run" 837 (vr 508), ent P "exponent_value" 846 (vr 515), ent P "powered" 855 (vr 522), ent P "unsigned_number" 874 (vr 529), ent P "parse_number" 886 (vr 536), ent P "MOST_INTEGER" 890 (vi 2147483647 889), ent P "note" 898 (vr 543), ent P "as_logical_text" 905 (vr 550), ent P "double_to_integer" 914 (vr 557), ent P "text_to_double" 924 (vr 564), ent P "to_logical" 932 (vr 571), ent P "to_integer" 941 (vr 578), ent P "to_double" 950 (vr 585), ent P "to_text" 958 (vr 592), ent P "item_as" 968 (vr 599), ent P "is_atomic_kind" 975 (vr 606), ent P "list_item_as" 985 (vr 613), ent P "refuse_type" 993 (vr 620), ent P "as_vector_kind" 999 (vr 625), ent P "with_names" 1007 (vr 632), ent P "as_kind" 1013 (vr 637), ent P "truth_item" 1023 (vr 644), ent P "MOST_SCALE" 1029 (vi 1000000000000000000000000000000000000000000000000000000000000000000000000000000000000000000000000000000000000000000000000000000000000000000000000000000000000000000000000000000000000000000000000000000000000000000000000000000000000000000000000000000000000000000000000000000000000000000000000000000000000 1028), ent P "is_lacking" 1037 (vr 651), ent P "summed_kind" 1047 (vr 658), ent P "kept_items" 1053 (vr 663), ent P "gathered" 1065 (vr 670), ent P "double_sum" 1074 (vr 677), ent P "item_order" 1083 (vr 684), ent P "extreme_item" 1094 (vr 691), ent P "extreme_of" 1106 (vr 698)] 104
def o12v4 (P : Z) := fl [vi 1 0, z0, vr 20, vi 5 0, z0, vr 27, vi 9 0, z0, vr 32, vi 25 0, z0, vr 39, vi 30 0, z0, vr 44, vi 35 0, z0, vr 51, vi 40 0, z0, vr 58, vi 45 0, z0, vr 65, vi 50 0, z0, vr 72, vi 61 0, z0, vr 79, vi 69 0, z0, vr 86, vi 75 0, z0, vr 93, vi 77 0, z0, vr 106, vi 82 0, z0, vr 125, vi 93 0, z0, vr 154, vi 95 0, z0, vr 161, vi 99 0, z0, vr 168, vi 110 0, z0, vr 175, vi 112 0, z0, vr 182, vi 117 0, z0, vr 189, vi 170 0, z0, vr 250, vi 172 0, z0, vr 257, vi 178 0, z0, vr 264, vi 193 0, z0, vr 269, vi 199 0, z0, vr 275, vi 208 0, z0, vr 282, vi 212 0, z0, vr 288, vi 229 0, z0, vr 298, vi 233 0, z0, vr 305, vi 237 0, z0, vr 312, vi 247 0, z0, vr 319, vi 251 0, z0, vr 326, vi 253 0, z0, vr 333, vi 255 0, z0, vr 340, vi 259 0, z0, vr 347, vi 263 0, z0, vr 354, vi 273 0, z0, vr 361, vi 275 0, z0, vr 368, vi 279 0, z0, vr 375, vi 287 0, z0, vr 382, vi 291 0, z0, vr 389, vi 296 0, z0, vr 396, vi 302 0, z0, vr 403, vi 313 0, z0, vr 410, vi 334 0, z0, vr 417, vi 345 0, z0, vr 424, vi 353 0, z0, vr 431, vi 358 0, z0, vr 438, vi 367 0, z0, vr 445, vi 372 0, z0, vr 452, vi 379 0, z0, vr 459, vi 387 0, z0, vr 466, vi 394 0, z0, vr 473, vi 414 0, z0, vr 480, vi 421 0, z0, vr 485, vi 425 0, z0, vr 493, vi 427 0, z0, vr 500, vi 432 0, z0, vr 507, vi 436 0, z0, vr 514, vi 446 0, z0, vr 521, vi 456 0, z0, vr 528, vi 490 0, z0, vr 535, vi 509 0, z0, vr 542, vi 512 0, z0, vr 549, vi 518 0, z0, vr 556, vi 526 0, z0, vr 563, vi 532 0, z0, vr 570, vi 542 0, z0, vr 577, vi 550 0, z0, vr 584, vi 556 0, z0, vr 591, vi 564 0, z0, vr 598, vi 578 0, z0, vr 605, vi 580 0, z0, vr 612, vi 586 0, z0, vr 619, vi 588 0, z0, vr 624, vi 602 0, z0, vr 631, vi 606 0, z0, vr 636, vi 614 0, z0, vr 643, vi 624 0, z0, vr 650, vi 628 0, z0, vr 657, vi 639 0, z0, vr 662, vi 645 0, z0, vr 669, vi 655 0, z0, vr 676, vi 660 0, z0, vr 683, vi 666 0, z0, vr 690, vi 677 0, z0, vr 697]
def o544 (P : Z) := tp []
def o545 (P : Z) := fl []
def o546 (P : Z) := tp [vs "s" 902]
def o547 (P : Z) := tp []
def o548 (P : Z) := rco "as_logical_text" "as_logical_text" (fd 78)
def o549 (P : Z) := cf "as_logical_text" "as_logical_text" 899 512 1 544 545 .none (vr 546) (vr 547) 548 903
def o550 (P : Z) := fno "as_logical_text" "as_logical_text" (fd 78) .none (vs "vectorcove.coerce" 887) (vr 549)
def o551 (P : Z) := tp []
def o552 (P : Z) := fl []
def o553 (P : Z) := tp [vs "x" 909, vs "notes" 910, vs "found" 911]
def o554 (P : Z) := tp []
def o555 (P : Z) := rco "double_to_integer" "double_to_integer" (fd 79)
def o556 (P : Z) := cf "double_to_integer" "double_to_integer" 906 518 2 551 552 .none (vr 553) (vr 554) 555 912
def o557 (P : Z) := fno "double_to_integer" "double_to_integer" (fd 79) .none (vs "vectorcove.coerce" 887) (vr 556)
def o558 (P : Z) := tp []
def o559 (P : Z) := fl []
def o560 (P : Z) := tp [vs "s" 918, vs "notes" 919, vs "ok" 920, vs "found" 921]
def o561 (P : Z) := tp []
def o562 (P : Z) := rco "text_to_double" "text_to_double" (fd 80)
def o563 (P : Z) := cf "text_to_double" "text_to_double" 915 526 2 558 559 .none (vr 560) (vr 561) 562 922
def o564 (P : Z) := fno "text_to_double" "text_to_double" (fd 80) .none (vs "vectorcove.coerce" 887) (vr 563)
def o565 (P : Z) := tp []
def o566 (P : Z) := fl []
def o567 (P : Z) := tp [vs "kind" 928, vs "item" 929]
def o568 (P : Z) := tp []
def o569 (P : Z) := rco "to_logical" "to_logical" (fd 81)
def o570 (P : Z) := cf "to_logical" "to_logical" 925 532 2 565 566 .none (vr 567) (vr 568) 569 930
def o571 (P : Z) := fno "to_logical" "to_logical" (fd 81) .none (vs "vectorcove.coerce" 887) (vr 570)
def o572 (P : Z) := tp []
def o573 (P : Z) := fl []
def o574 (P : Z) := tp [vs "kind" 936, vs "item" 937, vs "notes" 938]
def o575 (P : Z) := tp []
def o576 (P : Z) := rco "to_integer" "to_integer" (fd 82)
def o577 (P : Z) := cf "to_integer" "to_integer" 933 542 3 572 573 .none (vr 574) (vr 575) 576 939
def o578 (P : Z) := fno "to_integer" "to_integer" (fd 82) .none (vs "vectorcove.coerce" 887) (vr 577)
def o579 (P : Z) := tp []
def o580 (P : Z) := fl []
def o581 (P : Z) := tp [vs "kind" 945, vs "item" 946, vs "notes" 947]
def o582 (P : Z) := tp []
def o583 (P : Z) := rco "to_double" "to_double" (fd 83)
def o584 (P : Z) := cf "to_double" "to_double" 942 550 3 579 580 .none (vr 581) (vr 582) 583 948
def o585 (P : Z) := fno "to_double" "to_double" (fd 83) .none (vs "vectorcove.coerce" 887) (vr 584)
def o586 (P : Z) := tp []
def o587 (P : Z) := fl []
def o588 (P : Z) := tp [vs "kind" 954, vs "item" 955]
def o589 (P : Z) := tp []
def o590 (P : Z) := rco "to_text" "to_text" (fd 84)
def o591 (P : Z) := cf "to_text" "to_text" 951 556 2 586 587 .none (vr 588) (vr 589) 590 956
def o592 (P : Z) := fno "to_text" "to_text" (fd 84) .none (vs "vectorcove.coerce" 887) (vr 591)
def o593 (P : Z) := tp []
def o594 (P : Z) := fl []
def o595 (P : Z) := tp [vs "kind" 962, vs "item" 963, vs "to" 964, vs "notes" 965]
def o596 (P : Z) := tp []
def o597 (P : Z) := rco "item_as" "item_as" (fd 85)
def o598 (P : Z) := cf "item_as" "item_as" 959 564 4 593 594 .none (vr 595) (vr 596) 597 966
def o599 (P : Z) := fno "item_as" "item_as" (fd 85) .none (vs "vectorcove.coerce" 887) (vr 598)
def o600 (P : Z) := tp []
def o601 (P : Z) := fl []
def o602 (P : Z) := tp [vs "kind" 972]
def o603 (P : Z) := tp []
def o604 (P : Z) := rco "is_atomic_kind" "is_atomic_kind" (fd 86)
def o605 (P : Z) := cf "is_atomic_kind" "is_atomic_kind" 969 578 1 600 601 .none (vr 602) (vr 603) 604 973
def o606 (P : Z) := fno "is_atomic_kind" "is_atomic_kind" (fd 86) .none (vs "vectorcove.coerce" 887) (vr 605)
def o607 (P : Z) := tp []
def o608 (P : Z) := fl []
def o609 (P : Z) := tp [vs "kind" 979, vs "item" 980, vs "to" 981, vs "notes" 982]
def o610 (P : Z) := tp []
def o611 (P : Z) := rco "list_item_as" "list_item_as" (fd 87)
def o612 (P : Z) := cf "list_item_as" "list_item_as" 976 580 4 607 608 .none (vr 609) (vr 610) 611 983
def o613 (P : Z) := fno "list_item_as" "list_item_as" (fd 87) .none (vs "vectorcove.coerce" 887) (vr 612)
def o614 (P : Z) := tp []
def o615 (P : Z) := fl []
def o616 (P : Z) := tp [vs "v" 989, vs "kind" 990]
def o617 (P : Z) := tp []
def o618 (P : Z) := rco "refuse_type" "refuse_type" (fd 88)
def o619 (P : Z) := cf "refuse_type" "refuse_type" 986 586 2 614 615 .none (vr 616) (vr 617) 618 991
def o620 (P : Z) := fno "refuse_type" "refuse_type" (fd 88) .none (vs "vectorcove.coerce" 887) (vr 619)
def o621 (P : Z) := tp []
def o622 (P : Z) := fl []
def o623 (P : Z) := rco "as_vector_kind" "as_vector_kind" (fd 89)
def o624 (P : Z) := cf "as_vector_kind" "as_vector_kind" 994 588 2 621 622 .none .none .none 623 997
def o625 (P : Z) := fno "as_vector_kind" "as_vector_kind" (fd 89) .none (vs "vectorcove.coerce" 887) (vr 624)
def o626 (P : Z) := tp []
def o627 (P : Z) := fl []
def o628 (P : Z) := tp [vs "v" 1003, vs "names" 1004]
def o629 (P : Z) := tp []
def o630 (P : Z) := rco "with_names" "with_names" (fd 90)
def o631 (P : Z) := cf "with_names" "with_names" 1000 602 2 626 627 .none (vr 628) (vr 629) 630 1005
def o632 (P : Z) := fno "with_names" "with_names" (fd 90) .none (vs "vectorcove.coerce" 887) (vr 631)
def o633 (P : Z) := tp []
def o634 (P : Z) := fl []
def o635 (P : Z) := rco "as_kind" "as_kind" (fd 91)
def o636 (P : Z) := cf "as_kind" "as_kind" 1008 606 3 633 634 .none .none .none 635 1011
def o637 (P : Z) := fno "as_kind" "as_kind" (fd 91) .none (vs "vectorcove.coerce" 887) (vr 636)
def o638 (P : Z) := tp []
def o639 (P : Z) := fl []
def o640 (P : Z) := tp [vs "kind" 1019, vs "item" 1020]
def o641 (P : Z) := tp []
def o642 (P : Z) := rco "truth_item" "truth_item" (fd 93)
def o643 (P : Z) := cf "truth_item" "truth_item" 1016 614 2 638 639 .none (vr 640) (vr 641) 642 1021
def o644 (P : Z) := fno "truth_item" "truth_item" (fd 93) .none (vs "vectorcove.logic" 1014) (vr 643)
def o645 (P : Z) := tp []
def o646 (P : Z) := fl []
def o647 (P : Z) := tp [vs "kind" 1033, vs "item" 1034]
def o648 (P : Z) := tp []
def o649 (P : Z) := rco "is_lacking" "is_lacking" (fd 96)
def o650 (P : Z) := cf "is_lacking" "is_lacking" 1030 624 2 645 646 .none (vr 647) (vr 648) 649 1035
def o651 (P : Z) := fno "is_lacking" "is_lacking" (fd 96) .none (vs "vectorcove.summaries" 1024) (vr 650)
def o652 (P : Z) := tp []
def o653 (P : Z) := fl []
def o654 (P : Z) := tp [vs "vs" 1041, vs "texts" 1042, vs "found" 1043, vs "v" 1044]
def o655 (P : Z) := tp []
def o656 (P : Z) := rco "summed_kind" "summed_kind" (fd 97)
def o657 (P : Z) := cf "summed_kind" "summed_kind" 1038 628 2 652 653 .none (vr 654) (vr 655) 656 1045
def o658 (P : Z) := fno "summed_kind" "summed_kind" (fd 97) .none (vs "vectorcove.summaries" 1024) (vr 657)
def o659 (P : Z) := tp []
def o660 (P : Z) := fl []
def o661 (P : Z) := rco "kept_items" "kept_items" (fd 98)
def o662 (P : Z) := cf "kept_items" "kept_items" 1048 639 2 659 660 .none .none .none 661 1051
def o663 (P : Z) := fno "kept_items" "kept_items" (fd 98) .none (vs "vectorcove.summaries" 1024) (vr 662)
def o664 (P : Z) := tp []
def o665 (P : Z) := fl []
def o666 (P : Z) := tp [vs "vs" 1057, vs "kind" 1058, vs "skip" 1059, vs "found" 1060, vs "v" 1061, vs "item" 1062]
def o667 (P : Z) := tp []
def o668 (P : Z) := rco "gathered" "gathered" (fd 99)
def o669 (P : Z) := cf "gathered" "gathered" 1054 645 3 664 665 .none (vr 666) (vr 667) 668 1063
def o670 (P : Z) := fno "gathered" "gathered" (fd 99) .none (vs "vectorcove.summaries" 1024) (vr 669)
def o671 (P : Z) := tp []
def o672 (P : Z) := fl []
def o673 (P : Z) := tp [vs "items" 1069, vs "total" 1070, vs "item" 1071]
def o674 (P : Z) := tp []
def o675 (P : Z) := rco "double_sum" "double_sum" (fd 100)
def o676 (P : Z) := cf "double_sum" "double_sum" 1066 655 1 671 672 .none (vr 673) (vr 674) 675 1072
def o677 (P : Z) := fno "double_sum" "double_sum" (fd 100) .none (vs "vectorcove.summaries" 1024) (vr 676)
def o678 (P : Z) := tp []
def o679 (P : Z) := fl []
def o680 (P : Z) := tp [vs "kind" 1078, vs "a" 1079, vs "b" 1080]
def o681 (P : Z) := tp []
def o682 (P : Z) := rco "item_order" "item_order" (fd 101)
def o683 (P : Z) := cf "item_order" "item_order" 1075 660 3 678 679 .none (vr 680) (vr 681) 682 1081
def o684 (P : Z) := fno "item_order" "item_order" (fd 101) .none (vs "vectorcove.summaries" 1024) (vr 683)
def o685 (P : Z) := tp []
def o686 (P : Z) := fl []
def o687 (P : Z) := tp [vs "kind" 1087, vs "items" 1088, vs "order" 1089, vs "best" 1090, vs "item" 1091]
def o688 (P : Z) := tp []
def o689 (P : Z) := rco "extreme_item" "extreme_item" (fd 102)
def o690 (P : Z) := cf "extreme_item" "extreme_item" 1084 666 3 685 686 .none (vr 687) (vr 688) 689 1092
def o691 (P : Z) := fno "extreme_item" "extreme_item" (fd 102) .none (vs "vectorcove.summaries" 1024) (vr 690)
def o692 (P : Z) := tp []
def o693 (P : Z) := fl []
def o694 (P : Z) := tp [vs "vs" 1098, vs "skip" 1099, vs "notes" 1100, vs "order" 1101, vs "kind" 1102, vs "items" 1103]
def o695 (P : Z) := tp []
def o696 (P : Z) := rco "extreme_of" "extreme_of" (fd 103)
def o697 (P : Z) := cf "extreme_of" "extreme_of" 1095 677 4 692 693 .none (vr 694) (vr 695) 696 1104
def o698 (P : Z) := fno "extreme_of" "extreme_of" (fd 103) .none (vs "vectorcove.summaries" 1024) (vr 697)
def o3v5 (P : Z) := dco [ent P "__name__" 165 (vs "law_pq1418_01" 1333), ent P "__doc__" 166 .none, ent P "__package__" 167 .none, ent P "__loader__" 168 (.builtin "__main__.__loader__#opaque"), ent P "__spec__" 169 .none, ent P "__annotations__" 170 (vr 6), ent P "__builtins__" 171 (vr 4), ent P "__file__" 173 (vp 172), ent P "__cached__" 174 .none, ent P "_wall" 193 (vr 21), ent P "get_attr" 203 (vr 28), ent P "names_of" 209 (vr 33), ent P "dim_of" 217 (vr 40), ent P "dimnames_of" 223 (vr 45), ent P "class_attr" 231 (vr 52), ent P "language_class" 239 (vr 59), ent P "shape_class" 247 (vr 66), ent P "plain_class" 255 (vr 73), ent P "class_of" 263 (vr 80), ent P "inherits" 272 (vr 87), ent P "CoveError" 294 (vr 97), ent P "Refusal" 319 (vr 117), ent P "Vector" 363 (vr 144), ent P "character" 370 (vr 155), ent P "flag" 377 (vr 162), ent P "length" 385 (vr 169), ent P "is_atomic" 392 (vr 176), ent P "share" 399 (vr 183), ent P "Matching" 484 (vr 240), ent P "doubled_text" 491 (vr 251), ent P "argument_text" 503 (vr 258), ent P "plain_text" 511 (vr 265), ent P "unused_text" 517 (vr 270), ent P "match_names" 523 (vr 276), ent P "needed" 531 (vr 283), ent P "take" 537 (vr 289), ent P "NAN" 542 (vr 290), ent P "INF" 545 (vr 291), ent P "ZERO" 548 (vr 292), ent P "MOST_FIGURES" 550 (vi 5000 549), ent P "MOST_PART" 553 (vi 100000000000000000000000000000000000000000000000000000000000000000000000000000000000000000000000000000000000000000000000000000000000000000000000000000000000000000000000000000000000000000000000000000000000000000000000000000000000000000000000000000000000000000000000000000000000000000000000000000000000000000000000000000000000000000000000000000000000000000000000000000000000000000000000000000000000000000000000000000000000000000000000000000000000000000000000000000000000000000000000000000000000000000000000000000000000000000000000000000000000000000000000000000000000000000000000000000000000000000000000000000000000000000000000000000000000000000000000000000000000000000000000000000000000000000000000000000000000000000000000000000000000000000000000000000000000000000000000000000000000000000000000000000000000000000000000000000000000000000000000000000000000000000000000000000000000000000000000000000000000000000000000000000000000000000000000000000000000000000000000000000000000000000000000000000000000000000000000000000000000000000000000000000000000000000000000000000000000000000000000000000000000000000000000000000000000000000000000000000000000000000000000000000000000000000000000000000000000000000000000000000000000000000000000000000000000000000000000000000000000000000000000000000000000000000000000000000000000000000000000000000000000000000000000000000000000000000000000000000000000000000000000000000000000000000000000000000000000000000000000000000000000000000000000000000000000000000000000000000000000000000000000000000000000000000000000000000000000000000000000000000000000000000000000000000000000000000000000000000000000000000000000000000000000000000000000000000000000000000000000000000000000000000000000000000000000000000000000000000000000000000000000000000000000000000000000000000000000000000000000000000000000000000000000000000000000000000000000000000000000000000000000000000000000000000000000000000000000000000000000000000000000000000000000000000000000000000000000000000000000000000000000000000000000000000000000000000000000000000000000000000000000000000000000000000000000000000000000000000000000000000000000000000000000000000000000000000000000000000000000000000000000000000000000000000000000000000000000000000000000000000000000000000000000000000000000000000000000000000000000000000000000000000000000000000000000000000000000000000000000000000000000000000000000000000000000000000000000000000000000000000000000000000000000000000000000000000000000000000000000000000000000000000000000000000000000000000000000000000000000000000000000000000000000000000000000000000000000000000000000000000000000000000000000000000000000000000000000000000000000000000000000000000000000000000000000000000000000000000000000000000000000000000000000000000000000000000000000000000000000000000000000000000000000000000000000000000000000000000000000000000000000000000000000000000000000000000000000000000000000000000000000000000000000000000000000000000000000000000000000000000000000000000000000000000000000000000000000000000000000000000000000000000000000000000000000000000000000000000000000000000000000000000000000000000000000000000000000000000000000000000000000000000000000000000000000000000000000000000000000000000000000000000000000000000000000000000000000000000000000000000000000000000000000000000000000000000000000000000000000000000000000000000000000000000000000000000000000000000000000000000000000000000000000000000000000000000000000000000000000000000000000000000000000000000000000000000000000000000000000000000000000000000000000000000000000000000000000000000000000000000000000000000000000000000000000000000000000000000000000000000000000000000000000000000000000000000000000000000000000000000000000000000000000000000000000000000000000000000000000000000000000000000000000000000000000000000000000000000000000000000000000000000000000000000000000000000000000000000000000000000000000000000000000000000000000000000000000000000000000000000000000000000000000000000000000000000000000000000000000000000000000000000000000000000000000000000000000000000000000000000000000000000000000000000000000000000000000000000000000000000000000000000000000000000000000000000000000000000000000000000000000000000000000000000000000000000000000000000000000000000000000000000000000000000000000000000000000000000000000000000000000000000000000000000000000000000000000000000000000000000000000000000000000000000000000000000000000000000000000000000000000000000000000000000000000000000000000000000000000000000000000000000000000000000000000000000000000000000000000000000000000000000000000000000000000000000000000000000000000000000000000000000000000000000000000000000000000000000000000000000000000000000000000000000000000000000000000000000000000000000000000000000000000000000000000000000000000000000000000000000000000000000000000000000000000000000000000000000000000000000000000000000000000000000000000000000000000000000000000000000000000000000000000000000000000000000000000000000000000000000000000000000000000000000000000000000000000000000000000000000000000000000000 552), ent P "gcd" 561 (vr 299), ent P "bounded" 569 (vr 306), ent P "make" 578 (vr 313), ent P "from_int" 585 (vr 320), ent P "is_na" 592 (vr 327), ent P "is_finite" 599 (vr 334), ent P "marked" 607 (vr 341), ent P "neg" 614 (vr 348), ent P "add" 622 (vr 355), ent P "sub" 630 (vr 362), ent P "mul" 638 (vr 369), ent P "div" 646 (vr 376), ent P "floor" 653 (vr 383), ent P "to_whole" 661 (vr 390), ent P "nearest_whole" 671 (vr 397), ent P "exponent" 681 (vr 404), ent P "compare" 691 (vr 411), ent P "MOST_EXPONENT" 695 (vi 4096 694), ent P "MOST_SIGNS" 697 (vi 5000 696), ent P "whole_text" 707 (vr 418), ent P "special_text" 714 (vr 425), ent P "scaled" 724 (vr 432), ent P "significant" 734 (vr 439), ent P "without_tail" 742 (vr 446), ent P "scientific_text" 754 (vr 453), ent P "fixed_text" 764 (vr 460), ent P "measures" 777 (vr 467), ent P "chosen_form" 794 (vr 474), ent P "formed" 803 (vr 481), ent P "common_texts" 809 (vr 486), ent P "number_text" 818 (vr 494), ent P "digits_value" 828 (vr 501), ent P "digit_run" 837 (vr 508), ent P "exponent_value" 846 (vr 515), ent P "powered" 855 (vr 522), ent P "unsigned_number" 874 (vr 529), ent P "parse_number" 886 (vr 536), ent P "MOST_INTEGER" 890 (vi 2147483647 889), ent P "note" 898 (vr 543), ent P "as_logical_text" 905 (vr 550), ent P "double_to_integer" 914 (vr 557), ent P "text_to_double" 924 (vr 564), ent P "to_logical" 932 (vr 571), ent P "to_integer" 941 (vr 578), ent P "to_double" 950 (vr 585), ent P "to_text" 958 (vr 592), ent P "item_as" 968 (vr 599), ent P "is_atomic_kind" 975 (vr 606), ent P "list_item_as" 985 (vr 613), ent P "refuse_type" 993 (vr 620), ent P "as_vector_kind" 999 (vr 625), ent P "with_names" 1007 (vr 632), ent P "as_kind" 1013 (vr 637), ent P "truth_item" 1023 (vr 644), ent P "MOST_SCALE" 1029 (vi 1000000000000000000000000000000000000000000000000000000000000000000000000000000000000000000000000000000000000000000000000000000000000000000000000000000000000000000000000000000000000000000000000000000000000000000000000000000000000000000000000000000000000000000000000000000000000000000000000000000000000 1028), ent P "is_lacking" 1037 (vr 651), ent P "summed_kind" 1047 (vr 658), ent P "kept_items" 1053 (vr 663), ent P "gathered" 1065 (vr 670), ent P "double_sum" 1074 (vr 677), ent P "item_order" 1083 (vr 684), ent P "extreme_item" 1094 (vr 691), ent P "extreme_of" 1106 (vr 698), ent P "max_of" 1115 (vr 705), ent P "min_of" 1124 (vr 712), ent P "range_of" 1135 (vr 719), ent P "number_items" 1141 (vr 724), ent P "mean_items" 1148 (vr 731), ent P "var_of" 1160 (vr 738), ent P "joined_ascending" 1171 (vr 745), ent P "by_comparing" 1177 (vr 750), ent P "cov_of" 1189 (vr 757), ent P "trimmed_mean" 1199 (vr 764), ent P "ascending" 1209 (vr 771), ent P "lacking_item" 1217 (vr 778), ent P "median_of" 1228 (vr 785), ent P "finish" 1239 (vr 792), ent P "summary_parts" 1250 (vr 799), ent P "is_set" 1257 (vr 806), ent P "b_range" 1263 (vr 811), ent P "finite_part" 1269 (vr 816), ent P "without_lacking" 1275 (vr 821), ent P "untagged" 1284 (vr 828), ent P "numeric_arg" 1295 (vr 835), ent P "trim_part" 1303 (vr 842), ent P "b_mean" 1309 (vr 847), ent P "b_median" 1318 (vr 854), ent P "pairs_kept" 1326 (vr 861), ent P "b_var" 1332 (vr 866), ent P "_law_studs" 1345 (vr 873), ent P "_law_stud" 1353 (vr 880), ent P "_law_least" 1363 (vr 887), ent P "_law_row" 1374 (vr 894), ent P "_law_middle" 1385 (vr 901), ent P "_law_shared" 1396 (vr 908), ent P "_law_told" 1405 (vr 915), ent P "law" 1411 (vr 920)] 138
def o12v5 (P : Z) := fl [vi 1 0, z0, vr 20, vi 5 0, z0, vr 27, vi 9 0, z0, vr 32, vi 25 0, z0, vr 39, vi 30 0, z0, vr 44, vi 35 0, z0, vr 51, vi 40 0, z0, vr 58, vi 45 0, z0, vr 65, vi 50 0, z0, vr 72, vi 61 0, z0, vr 79, vi 69 0, z0, vr 86, vi 75 0, z0, vr 93, vi 77 0, z0, vr 106, vi 82 0, z0, vr 125, vi 93 0, z0, vr 154, vi 95 0, z0, vr 161, vi 99 0, z0, vr 168, vi 110 0, z0, vr 175, vi 112 0, z0, vr 182, vi 117 0, z0, vr 189, vi 170 0, z0, vr 250, vi 172 0, z0, vr 257, vi 178 0, z0, vr 264, vi 193 0, z0, vr 269, vi 199 0, z0, vr 275, vi 208 0, z0, vr 282, vi 212 0, z0, vr 288, vi 229 0, z0, vr 298, vi 233 0, z0, vr 305, vi 237 0, z0, vr 312, vi 247 0, z0, vr 319, vi 251 0, z0, vr 326, vi 253 0, z0, vr 333, vi 255 0, z0, vr 340, vi 259 0, z0, vr 347, vi 263 0, z0, vr 354, vi 273 0, z0, vr 361, vi 275 0, z0, vr 368, vi 279 0, z0, vr 375, vi 287 0, z0, vr 382, vi 291 0, z0, vr 389, vi 296 0, z0, vr 396, vi 302 0, z0, vr 403, vi 313 0, z0, vr 410, vi 334 0, z0, vr 417, vi 345 0, z0, vr 424, vi 353 0, z0, vr 431, vi 358 0, z0, vr 438, vi 367 0, z0, vr 445, vi 372 0, z0, vr 452, vi 379 0, z0, vr 459, vi 387 0, z0, vr 466, vi 394 0, z0, vr 473, vi 414 0, z0, vr 480, vi 421 0, z0, vr 485, vi 425 0, z0, vr 493, vi 427 0, z0, vr 500, vi 432 0, z0, vr 507, vi 436 0, z0, vr 514, vi 446 0, z0, vr 521, vi 456 0, z0, vr 528, vi 490 0, z0, vr 535, vi 509 0, z0, vr 542, vi 512 0, z0, vr 549, vi 518 0, z0, vr 556, vi 526 0, z0, vr 563, vi 532 0, z0, vr 570, vi 542 0, z0, vr 577, vi 550 0, z0, vr 584, vi 556 0, z0, vr 591, vi 564 0, z0, vr 598, vi 578 0, z0, vr 605, vi 580 0, z0, vr 612, vi 586 0, z0, vr 619, vi 588 0, z0, vr 624, vi 602 0, z0, vr 631, vi 606 0, z0, vr 636, vi 614 0, z0, vr 643, vi 624 0, z0, vr 650, vi 628 0, z0, vr 657, vi 639 0, z0, vr 662, vi 645 0, z0, vr 669, vi 655 0, z0, vr 676, vi 660 0, z0, vr 683, vi 666 0, z0, vr 690, vi 677 0, z0, vr 697, vi 687 0, z0, vr 704, vi 689 0, z0, vr 711, vi 691 0, z0, vr 718, vi 695 0, z0, vr 723, vi 701 0, z0, vr 730, vi 705 0, z0, vr 737, vi 715 0, z0, vr 744, vi 724 0, z0, vr 749, vi 730 0, z0, vr 756, vi 739 0, z0, vr 763, vi 749 0, z0, vr 770, vi 762 0, z0, vr 777, vi 767 0, z0, vr 784, vi 780 0, z0, vr 791, vi 784 0, z0, vr 798, vi 793 0, z0, vr 805, vi 797 0, z0, vr 810, vi 804 0, z0, vr 815, vi 808 0, z0, vr 820, vi 812 0, z0, vr 827, vi 817 0, z0, vr 834, vi 822 0, z0, vr 841, vi 829 0, z0, vr 846, vi 842 0, z0, vr 853, vi 844 0, z0, vr 860, vi 854 0, z0, vr 865, vi 874 0, z0, vr 872, vi 886 0, z0, vr 879, vi 888 0, z0, vr 886, vi 894 0, z0, vr 893, vi 900 0, z0, vr 900, vi 909 0, z0, vr 907, vi 917 0, z0, vr 914, vi 922 0, z0, vr 919]
def o699 (P : Z) := tp []
def o700 (P : Z) := fl []
def o701 (P : Z) := tp [vs "vs" 1110, vs "skip" 1111, vs "notes" 1112]
def o702 (P : Z) := tp []
def o703 (P : Z) := rco "max_of" "max_of" (fd 104)
def o704 (P : Z) := cf "max_of" "max_of" 1107 687 3 699 700 .none (vr 701) (vr 702) 703 1113
def o705 (P : Z) := fno "max_of" "max_of" (fd 104) .none (vs "vectorcove.summaries" 1024) (vr 704)
def o706 (P : Z) := tp []
def o707 (P : Z) := fl []
def o708 (P : Z) := tp [vs "vs" 1119, vs "skip" 1120, vs "notes" 1121]
def o709 (P : Z) := tp []
def o710 (P : Z) := rco "min_of" "min_of" (fd 105)
def o711 (P : Z) := cf "min_of" "min_of" 1116 689 3 706 707 .none (vr 708) (vr 709) 710 1122
def o712 (P : Z) := fno "min_of" "min_of" (fd 105) .none (vs "vectorcove.summaries" 1024) (vr 711)
def o713 (P : Z) := tp []
def o714 (P : Z) := fl []
def o715 (P : Z) := tp [vs "vs" 1128, vs "skip" 1129, vs "notes" 1130, vs "low" 1131, vs "high" 1132]
def o716 (P : Z) := tp []
def o717 (P : Z) := rco "range_of" "range_of" (fd 106)
def o718 (P : Z) := cf "range_of" "range_of" 1125 691 3 713 714 .none (vr 715) (vr 716) 717 1133
def o719 (P : Z) := fno "range_of" "range_of" (fd 106) .none (vs "vectorcove.summaries" 1024) (vr 718)
def o720 (P : Z) := tp []
def o721 (P : Z) := fl []
def o722 (P : Z) := rco "number_items" "number_items" (fd 107)
def o723 (P : Z) := cf "number_items" "number_items" 1136 695 1 720 721 .none .none .none 722 1139
def o724 (P : Z) := fno "number_items" "number_items" (fd 107) .none (vs "vectorcove.summaries" 1024) (vr 723)
def o725 (P : Z) := tp []
def o726 (P : Z) := fl []
def o727 (P : Z) := tp [vs "items" 1145]
def o728 (P : Z) := tp []
def o729 (P : Z) := rco "mean_items" "mean_items" (fd 108)
def o730 (P : Z) := cf "mean_items" "mean_items" 1142 701 1 725 726 .none (vr 727) (vr 728) 729 1146
def o731 (P : Z) := fno "mean_items" "mean_items" (fd 108) .none (vs "vectorcove.summaries" 1024) (vr 730)
def o732 (P : Z) := tp []
def o733 (P : Z) := fl []
def o734 (P : Z) := tp [vs "v" 1152, vs "items" 1153, vs "middle" 1154, vs "total" 1155, vs "item" 1156, vs "gap" 1157]
def o735 (P : Z) := tp []
def o736 (P : Z) := rco "var_of" "var_of" (fd 109)
def o737 (P : Z) := cf "var_of" "var_of" 1149 705 1 732 733 .none (vr 734) (vr 735) 736 1158
def o738 (P : Z) := fno "var_of" "var_of" (fd 109) .none (vs "vectorcove.summaries" 1024) (vr 737)
def o739 (P : Z) := tp []
def o740 (P : Z) := fl []
def o741 (P : Z) := tp [vs "left" 1164, vs "right" 1165, vs "found" 1166, vs "i" 1167, vs "item" 1168]
def o742 (P : Z) := tp []
def o743 (P : Z) := rco "joined_ascending" "joined_ascending" (fd 110)
def o744 (P : Z) := cf "joined_ascending" "joined_ascending" 1161 715 2 739 740 .none (vr 741) (vr 742) 743 1169
def o745 (P : Z) := fno "joined_ascending" "joined_ascending" (fd 110) .none (vs "vectorcove.summaries" 1024) (vr 744)
def o746 (P : Z) := tp []
def o747 (P : Z) := fl []
def o748 (P : Z) := rco "by_comparing" "by_comparing" (fd 111)
def o749 (P : Z) := cf "by_comparing" "by_comparing" 1172 724 1 746 747 .none .none .none 748 1175
def o750 (P : Z) := fno "by_comparing" "by_comparing" (fd 111) .none (vs "vectorcove.summaries" 1024) (vr 749)
def o751 (P : Z) := tp []
def o752 (P : Z) := fl []
def o753 (P : Z) := tp [vs "left" 1181, vs "right" 1182, vs "one" 1183, vs "other" 1184, vs "total" 1185, vs "i" 1186]
def o754 (P : Z) := tp []
def o755 (P : Z) := rco "cov_of" "cov_of" (fd 112)
def o756 (P : Z) := cf "cov_of" "cov_of" 1178 730 2 751 752 .none (vr 753) (vr 754) 755 1187
def o757 (P : Z) := fno "cov_of" "cov_of" (fd 112) .none (vs "vectorcove.summaries" 1024) (vr 756)
def o758 (P : Z) := tp []
def o759 (P : Z) := fl []
def o760 (P : Z) := tp [vs "items" 1193, vs "part" 1194, vs "row" 1195, vs "away" 1196]
def o761 (P : Z) := tp []
def o762 (P : Z) := rco "trimmed_mean" "trimmed_mean" (fd 113)
def o763 (P : Z) := cf "trimmed_mean" "trimmed_mean" 1190 739 2 758 759 .none (vr 760) (vr 761) 762 1197
def o764 (P : Z) := fno "trimmed_mean" "trimmed_mean" (fd 113) .none (vs "vectorcove.summaries" 1024) (vr 763)
def o765 (P : Z) := tp []
def o766 (P : Z) := fl []
def o767 (P : Z) := tp [vs "items" 1203, vs "item" 1204, vs "place" 1205]
def o768 (P : Z) := tp [vs "scale" 1206]
def o769 (P : Z) := rco "ascending" "ascending" (fd 114)
def o770 (P : Z) := cf "ascending" "ascending" 1200 749 1 765 766 .none (vr 767) (vr 768) 769 1207
def o771 (P : Z) := fno "ascending" "ascending" (fd 114) .none (vs "vectorcove.summaries" 1024) (vr 770)
def o772 (P : Z) := tp []
def o773 (P : Z) := fl []
def o774 (P : Z) := tp [vs "items" 1213, vs "item" 1214]
def o775 (P : Z) := tp []
def o776 (P : Z) := rco "lacking_item" "lacking_item" (fd 115)
def o777 (P : Z) := cf "lacking_item" "lacking_item" 1210 762 1 772 773 .none (vr 774) (vr 775) 776 1215
def o778 (P : Z) := fno "lacking_item" "lacking_item" (fd 115) .none (vs "vectorcove.summaries" 1024) (vr 777)
def o779 (P : Z) := tp []
def o780 (P : Z) := fl []
def o781 (P : Z) := tp [vs "v" 1221, vs "items" 1222, vs "kind" 1223, vs "row" 1224, vs "half" 1225]
def o782 (P : Z) := tp []
def o783 (P : Z) := rco "median_of" "median_of" (fd 116)
def o784 (P : Z) := cf "median_of" "median_of" 1218 767 1 779 780 .none (vr 781) (vr 782) 783 1226
def o785 (P : Z) := fno "median_of" "median_of" (fd 116) .none (vs "vectorcove.summaries" 1024) (vr 784)
def o786 (P : Z) := tp []
def o787 (P : Z) := fl []
def o788 (P : Z) := tp [vs "interp" 1234, vs "notes" 1235, vs "value" 1236]
def o789 (P : Z) := tp []
def o790 (P : Z) := rco "finish" "finish" (fd 118)
def o791 (P : Z) := cf "finish" "finish" 1231 780 3 786 787 .none (vr 788) (vr 789) 790 1237
def o792 (P : Z) := fno "finish" "finish" (fd 118) .none (vs "vectorcove.sumcalls" 1229) (vr 791)
def o793 (P : Z) := tp []
def o794 (P : Z) := fl []
def o795 (P : Z) := tp [vs "args" 1243, vs "vectors" 1244, vs "skip" 1245, vs "tag" 1246, vs "value" 1247]
def o796 (P : Z) := tp []
def o797 (P : Z) := rco "summary_parts" "summary_parts" (fd 119)
def o798 (P : Z) := cf "summary_parts" "summary_parts" 1240 784 1 793 794 .none (vr 795) (vr 796) 797 1248
def o799 (P : Z) := fno "summary_parts" "summary_parts" (fd 119) .none (vs "vectorcove.sumcalls" 1229) (vr 798)
def o800 (P : Z) := tp []
def o801 (P : Z) := fl []
def o802 (P : Z) := tp [vs "v" 1254]
def o803 (P : Z) := tp []
def o804 (P : Z) := rco "is_set" "is_set" (fd 120)
def o805 (P : Z) := cf "is_set" "is_set" 1251 793 1 800 801 .none (vr 802) (vr 803) 804 1255
def o806 (P : Z) := fno "is_set" "is_set" (fd 120) .none (vs "vectorcove.sumcalls" 1229) (vr 805)
def o807 (P : Z) := tp []
def o808 (P : Z) := fl []
def o809 (P : Z) := rco "b_range" "b_range" (fd 121)
def o810 (P : Z) := cf "b_range" "b_range" 1258 797 3 807 808 .none .none .none 809 1261
def o811 (P : Z) := fno "b_range" "b_range" (fd 121) .none (vs "vectorcove.sumcalls" 1229) (vr 810)
def o812 (P : Z) := tp []
def o813 (P : Z) := fl []
def o814 (P : Z) := rco "finite_part" "finite_part" (fd 122)
def o815 (P : Z) := cf "finite_part" "finite_part" 1264 804 1 812 813 .none .none .none 814 1267
def o816 (P : Z) := fno "finite_part" "finite_part" (fd 122) .none (vs "vectorcove.sumcalls" 1229) (vr 815)
def o817 (P : Z) := tp []
def o818 (P : Z) := fl []
def o819 (P : Z) := rco "without_lacking" "without_lacking" (fd 123)
def o820 (P : Z) := cf "without_lacking" "without_lacking" 1270 808 2 817 818 .none .none .none 819 1273
def o821 (P : Z) := fno "without_lacking" "without_lacking" (fd 123) .none (vs "vectorcove.sumcalls" 1229) (vr 820)
def o822 (P : Z) := tp []
def o823 (P : Z) := fl []
def o824 (P : Z) := tp [vs "rest" 1279, vs "tag" 1280, vs "value" 1281]
def o825 (P : Z) := tp []
def o826 (P : Z) := rco "untagged" "untagged" (fd 124)
def o827 (P : Z) := cf "untagged" "untagged" 1276 812 1 822 823 .none (vr 824) (vr 825) 826 1282
def o828 (P : Z) := fno "untagged" "untagged" (fd 124) .none (vs "vectorcove.sumcalls" 1229) (vr 827)
def o829 (P : Z) := tp []
def o830 (P : Z) := fl []
def o831 (P : Z) := tp [vs "args" 1288, vs "fault" 1289, vs "x" 1290, vs "rest" 1291, vs "skip" 1292]
def o832 (P : Z) := tp []
def o833 (P : Z) := rco "numeric_arg" "numeric_arg" (fd 125)
def o834 (P : Z) := cf "numeric_arg" "numeric_arg" 1285 817 2 829 830 .none (vr 831) (vr 832) 833 1293
def o835 (P : Z) := fno "numeric_arg" "numeric_arg" (fd 125) .none (vs "vectorcove.sumcalls" 1229) (vr 834)
def o836 (P : Z) := tp []
def o837 (P : Z) := fl []
def o838 (P : Z) := tp [vs "value" 1299, vs "parts" 1300]
def o839 (P : Z) := tp []
def o840 (P : Z) := rco "trim_part" "trim_part" (fd 126)
def o841 (P : Z) := cf "trim_part" "trim_part" 1296 822 1 836 837 .none (vr 838) (vr 839) 840 1301
def o842 (P : Z) := fno "trim_part" "trim_part" (fd 126) .none (vs "vectorcove.sumcalls" 1229) (vr 841)
def o843 (P : Z) := tp []
def o844 (P : Z) := fl []
def o845 (P : Z) := rco "b_mean" "b_mean" (fd 127)
def o846 (P : Z) := cf "b_mean" "b_mean" 1304 829 3 843 844 .none .none .none 845 1307
def o847 (P : Z) := fno "b_mean" "b_mean" (fd 127) .none (vs "vectorcove.sumcalls" 1229) (vr 846)
def o848 (P : Z) := tp []
def o849 (P : Z) := fl []
def o850 (P : Z) := tp [vs "interp" 1313, vs "args" 1314, vs "env" 1315]
def o851 (P : Z) := tp []
def o852 (P : Z) := rco "b_median" "b_median" (fd 128)
def o853 (P : Z) := cf "b_median" "b_median" 1310 842 3 848 849 .none (vr 850) (vr 851) 852 1316
def o854 (P : Z) := fno "b_median" "b_median" (fd 128) .none (vs "vectorcove.sumcalls" 1229) (vr 853)
def o855 (P : Z) := tp []
def o856 (P : Z) := fl []
def o857 (P : Z) := tp [vs "use" 1322, vs "skip" 1323]
def o858 (P : Z) := tp []
def o859 (P : Z) := rco "pairs_kept" "pairs_kept" (fd 129)
def o860 (P : Z) := cf "pairs_kept" "pairs_kept" 1319 844 2 855 856 .none (vr 857) (vr 858) 859 1324
def o861 (P : Z) := fno "pairs_kept" "pairs_kept" (fd 129) .none (vs "vectorcove.sumcalls" 1229) (vr 860)
def o862 (P : Z) := tp []
def o863 (P : Z) := fl []
def o864 (P : Z) := rco "b_var" "b_var" (fd 130)
def o865 (P : Z) := cf "b_var" "b_var" 1327 854 3 862 863 .none .none .none 864 1330
def o866 (P : Z) := fno "b_var" "b_var" (fd 130) .none (vs "vectorcove.sumcalls" 1229) (vr 865)
def o867 (P : Z) := tp []
def o868 (P : Z) := fl []
def o869 (P : Z) := tp [vs "script" 1338, vs "studs" 1339, vs "cell" 1340, vs "bulk" 1341, vs "lap" 1342]
def o870 (P : Z) := tp []
def o871 (P : Z) := rco "_law_studs" "_law_studs" (fd 132)
def o872 (P : Z) := cf "_law_studs" "_law_studs" 1335 874 1 867 868 .none (vr 869) (vr 870) 871 1343
def o873 (P : Z) := fno "_law_studs" "_law_studs" (fd 132) .none (vs "law_pq1418_01" 1333) (vr 872)
def o874 (P : Z) := tp []
def o875 (P : Z) := fl []
def o876 (P : Z) := tp [vs "studs" 1349, vs "many" 1350]
def o877 (P : Z) := tp []
def o878 (P : Z) := rco "_law_stud" "_law_stud" (fd 133)
def o879 (P : Z) := cf "_law_stud" "_law_stud" 1346 886 2 874 875 .none (vr 876) (vr 877) 878 1351
def o880 (P : Z) := fno "_law_stud" "_law_stud" (fd 133) .none (vs "law_pq1418_01" 1333) (vr 879)
def o881 (P : Z) := tp []
def o882 (P : Z) := fl []
def o883 (P : Z) := tp [vs "top" 1357, vs "below" 1358, vs "one" 1359, vs "other" 1360]
def o884 (P : Z) := tp []
def o885 (P : Z) := rco "_law_least" "_law_least" (fd 134)
def o886 (P : Z) := cf "_law_least" "_law_least" 1354 888 2 881 882 .none (vr 883) (vr 884) 885 1361
def o887 (P : Z) := fno "_law_least" "_law_least" (fd 134) .none (vs "law_pq1418_01" 1333) (vr 886)
def o888 (P : Z) := tp []
def o889 (P : Z) := fl []
def o890 (P : Z) := tp [vs "studs" 1367, vs "size_of" 1368, vs "row" 1369, vs "lap" 1370, vs "draw" 1371]
def o891 (P : Z) := tp []
def o892 (P : Z) := rco "_law_row" "_law_row" (fd 135)
def o893 (P : Z) := cf "_law_row" "_law_row" 1364 894 2 888 889 .none (vr 890) (vr 891) 892 1372
def o894 (P : Z) := fno "_law_row" "_law_row" (fd 135) .none (vs "law_pq1418_01" 1333) (vr 893)
def o895 (P : Z) := tp []
def o896 (P : Z) := fl []
def o897 (P : Z) := tp [vs "entries" 1378, vs "tenths" 1379, vs "rising" 1380, vs "away" 1381, vs "inner" 1382]
def o898 (P : Z) := tp []
def o899 (P : Z) := rco "_law_middle" "_law_middle" (fd 136)
def o900 (P : Z) := cf "_law_middle" "_law_middle" 1375 900 2 895 896 .none (vr 897) (vr 898) 899 1383
def o901 (P : Z) := fno "_law_middle" "_law_middle" (fd 136) .none (vs "law_pq1418_01" 1333) (vr 900)
def o902 (P : Z) := tp []
def o903 (P : Z) := fl []
def o904 (P : Z) := tp [vs "one" 1389, vs "other" 1390, vs "count" 1391, vs "total" 1392, vs "spot" 1393]
def o905 (P : Z) := tp []
def o906 (P : Z) := rco "_law_shared" "_law_shared" (fd 137)
def o907 (P : Z) := cf "_law_shared" "_law_shared" 1386 909 2 902 903 .none (vr 904) (vr 905) 906 1394
def o908 (P : Z) := fno "_law_shared" "_law_shared" (fd 137) .none (vs "law_pq1418_01" 1333) (vr 907)
def o909 (P : Z) := tp []
def o910 (P : Z) := fl []
def o911 (P : Z) := tp [vs "fn" 1400, vs "args" 1401, vs "error" 1402]
def o912 (P : Z) := tp []
def o913 (P : Z) := rco "_law_told" "_law_told" (fd 138)
def o914 (P : Z) := cf "_law_told" "_law_told" 1397 917 2 909 910 .none (vr 911) (vr 912) 913 1403
def o915 (P : Z) := fno "_law_told" "_law_told" (fd 138) .none (vs "law_pq1418_01" 1333) (vr 914)
def o916 (P : Z) := tp []
def o917 (P : Z) := fl []
def o918 (P : Z) := rco "law" "law" (fd 139)
def o919 (P : Z) := cf "law" "law" 1406 922 1 916 917 .none .none .none 918 1409
def o920 (P : Z) := fno "law" "law" (fd 139) .none (vs "law_pq1418_01" 1333) (vr 919)
abbrev n := BT.node
abbrev e := BT.nil
abbrev lf (o : Obj) : BT := .node o .nil .nil
def T0 (P : Z) : BT := (n (o0 P) (n (o1 P) (n (o3 P) (lf (o7 P)) (lf (o11 P))) (n (o5 P) (lf (o9 P)) (lf (o13 P)))) (n (o2 P) (n (o4 P) (lf (o8 P)) (lf (o12 P))) (n (o6 P) (lf (o10 P)) (lf (o14 P)))))
def T1 (P : Z) : BT := (n (o0 P) (n (o1 P) (n (o3v1 P) (n (o7 P) (n (o15 P) (n (o31 P) (n (o63 P) (lf (o127 P)) (lf (o191 P))) (n (o95 P) (lf (o159 P)) (lf (o223 P)))) (n (o47 P) (n (o79 P) (lf (o143 P)) (lf (o207 P))) (n (o111 P) (lf (o175 P)) (lf (o239 P))))) (n (o23 P) (n (o39 P) (n (o71 P) (lf (o135 P)) (lf (o199 P))) (n (o103 P) (lf (o167 P)) (lf (o231 P)))) (n (o55 P) (n (o87 P) (lf (o151 P)) (lf (o215 P))) (n (o119 P) (lf (o183 P)) e)))) (n (o11 P) (n (o19 P) (n (o35 P) (n (o67 P) (lf (o131 P)) (lf (o195 P))) (n (o99 P) (lf (o163 P)) (lf (o227 P)))) (n (o51 P) (n (o83 P) (lf (o147 P)) (lf (o211 P))) (n (o115 P) (lf (o179 P)) (lf (o243 P))))) (n (o27 P) (n (o43 P) (n (o75 P) (lf (o139 P)) (lf (o203 P))) (n (o107 P) (lf (o171 P)) (lf (o235 P)))) (n (o59 P) (n (o91 P) (lf (o155 P)) (lf (o219 P))) (n (o123 P) (lf (o187 P)) e))))) (n (o5 P) (n (o9 P) (n (o17 P) (n (o33 P) (n (o65 P) (lf (o129 P)) (lf (o193 P))) (n (o97 P) (lf (o161 P)) (lf (o225 P)))) (n (o49 P) (n (o81 P) (lf (o145 P)) (lf (o209 P))) (n (o113 P) (lf (o177 P)) (lf (o241 P))))) (n (o25 P) (n (o41 P) (n (o73 P) (lf (o137 P)) (lf (o201 P))) (n (o105 P) (lf (o169 P)) (lf (o233 P)))) (n (o57 P) (n (o89 P) (lf (o153 P)) (lf (o217 P))) (n (o121 P) (lf (o185 P)) e)))) (n (o13 P) (n (o21 P) (n (o37 P) (n (o69 P) (lf (o133 P)) (lf (o197 P))) (n (o101 P) (lf (o165 P)) (lf (o229 P)))) (n (o53 P) (n (o85 P) (lf (o149 P)) (lf (o213 P))) (n (o117 P) (lf (o181 P)) e))) (n (o29 P) (n (o45 P) (n (o77 P) (lf (o141 P)) (lf (o205 P))) (n (o109 P) (lf (o173 P)) (lf (o237 P)))) (n (o61 P) (n (o93 P) (lf (o157 P)) (lf (o221 P))) (n (o125 P) (lf (o189 P)) e)))))) (n (o2v1 P) (n (o4 P) (n (o8 P) (n (o16 P) (n (o32 P) (n (o64 P) (lf (o128 P)) (lf (o192 P))) (n (o96 P) (lf (o160 P)) (lf (o224 P)))) (n (o48 P) (n (o80 P) (lf (o144 P)) (lf (o208 P))) (n (o112 P) (lf (o176 P)) (lf (o240 P))))) (n (o24 P) (n (o40 P) (n (o72 P) (lf (o136 P)) (lf (o200 P))) (n (o104 P) (lf (o168 P)) (lf (o232 P)))) (n (o56 P) (n (o88 P) (lf (o152 P)) (lf (o216 P))) (n (o120 P) (lf (o184 P)) e)))) (n (o12v1 P) (n (o20 P) (n (o36 P) (n (o68 P) (lf (o132 P)) (lf (o196 P))) (n (o100 P) (lf (o164 P)) (lf (o228 P)))) (n (o52 P) (n (o84 P) (lf (o148 P)) (lf (o212 P))) (n (o116 P) (lf (o180 P)) (lf (o244 P))))) (n (o28 P) (n (o44 P) (n (o76 P) (lf (o140 P)) (lf (o204 P))) (n (o108 P) (lf (o172 P)) (lf (o236 P)))) (n (o60 P) (n (o92 P) (lf (o156 P)) (lf (o220 P))) (n (o124 P) (lf (o188 P)) e))))) (n (o6 P) (n (o10 P) (n (o18 P) (n (o34 P) (n (o66 P) (lf (o130 P)) (lf (o194 P))) (n (o98 P) (lf (o162 P)) (lf (o226 P)))) (n (o50 P) (n (o82 P) (lf (o146 P)) (lf (o210 P))) (n (o114 P) (lf (o178 P)) (lf (o242 P))))) (n (o26 P) (n (o42 P) (n (o74 P) (lf (o138 P)) (lf (o202 P))) (n (o106 P) (lf (o170 P)) (lf (o234 P)))) (n (o58 P) (n (o90 P) (lf (o154 P)) (lf (o218 P))) (n (o122 P) (lf (o186 P)) e)))) (n (o14 P) (n (o22 P) (n (o38 P) (n (o70 P) (lf (o134 P)) (lf (o198 P))) (n (o102 P) (lf (o166 P)) (lf (o230 P)))) (n (o54 P) (n (o86 P) (lf (o150 P)) (lf (o214 P))) (n (o118 P) (lf (o182 P)) e))) (n (o30 P) (n (o46 P) (n (o78 P) (lf (o142 P)) (lf (o206 P))) (n (o110 P) (lf (o174 P)) (lf (o238 P)))) (n (o62 P) (n (o94 P) (lf (o158 P)) (lf (o222 P))) (n (o126 P) (lf (o190 P)) e)))))))
def T2 (P : Z) : BT := (n (o0 P) (n (o1 P) (n (o3v2 P) (n (o7 P) (n (o15 P) (n (o31 P) (n (o63 P) (n (o127 P) (lf (o255 P)) (lf (o383 P))) (n (o191 P) (lf (o319 P)) e)) (n (o95 P) (n (o159 P) (lf (o287 P)) e) (n (o223 P) (lf (o351 P)) e))) (n (o47 P) (n (o79 P) (n (o143 P) (lf (o271 P)) (lf (o399 P))) (n (o207 P) (lf (o335 P)) e)) (n (o111 P) (n (o175 P) (lf (o303 P)) e) (n (o239 P) (lf (o367 P)) e)))) (n (o23 P) (n (o39 P) (n (o71 P) (n (o135 P) (lf (o263 P)) (lf (o391 P))) (n (o199 P) (lf (o327 P)) e)) (n (o103 P) (n (o167 P) (lf (o295 P)) e) (n (o231 P) (lf (o359 P)) e))) (n (o55 P) (n (o87 P) (n (o151 P) (lf (o279 P)) (lf (o407 P))) (n (o215 P) (lf (o343 P)) e)) (n (o119 P) (n (o183 P) (lf (o311 P)) e) (n (o247 P) (lf (o375 P)) e))))) (n (o11 P) (n (o19 P) (n (o35 P) (n (o67 P) (n (o131 P) (lf (o259 P)) (lf (o387 P))) (n (o195 P) (lf (o323 P)) e)) (n (o99 P) (n (o163 P) (lf (o291 P)) e) (n (o227 P) (lf (o355 P)) e))) (n (o51 P) (n (o83 P) (n (o147 P) (lf (o275 P)) (lf (o403 P))) (n (o211 P) (lf (o339 P)) e)) (n (o115 P) (n (o179 P) (lf (o307 P)) e) (n (o243 P) (lf (o371 P)) e)))) (n (o27 P) (n (o43 P) (n (o75 P) (n (o139 P) (lf (o267 P)) (lf (o395 P))) (n (o203 P) (lf (o331 P)) e)) (n (o107 P) (n (o171 P) (lf (o299 P)) e) (n (o235 P) (lf (o363 P)) e))) (n (o59 P) (n (o91 P) (n (o155 P) (lf (o283 P)) (lf (o411 P))) (n (o219 P) (lf (o347 P)) e)) (n (o123 P) (n (o187 P) (lf (o315 P)) e) (n (o251 P) (lf (o379 P)) e)))))) (n (o5 P) (n (o9 P) (n (o17 P) (n (o33 P) (n (o65 P) (n (o129 P) (lf (o257 P)) (lf (o385 P))) (n (o193 P) (lf (o321 P)) e)) (n (o97 P) (n (o161 P) (lf (o289 P)) e) (n (o225 P) (lf (o353 P)) e))) (n (o49 P) (n (o81 P) (n (o145 P) (lf (o273 P)) (lf (o401 P))) (n (o209 P) (lf (o337 P)) e)) (n (o113 P) (n (o177 P) (lf (o305 P)) e) (n (o241 P) (lf (o369 P)) e)))) (n (o25 P) (n (o41 P) (n (o73 P) (n (o137 P) (lf (o265 P)) (lf (o393 P))) (n (o201 P) (lf (o329 P)) e)) (n (o105 P) (n (o169 P) (lf (o297 P)) e) (n (o233 P) (lf (o361 P)) e))) (n (o57 P) (n (o89 P) (n (o153 P) (lf (o281 P)) (lf (o409 P))) (n (o217 P) (lf (o345 P)) e)) (n (o121 P) (n (o185 P) (lf (o313 P)) e) (n (o249 P) (lf (o377 P)) e))))) (n (o13 P) (n (o21 P) (n (o37 P) (n (o69 P) (n (o133 P) (lf (o261 P)) (lf (o389 P))) (n (o197 P) (lf (o325 P)) e)) (n (o101 P) (n (o165 P) (lf (o293 P)) e) (n (o229 P) (lf (o357 P)) e))) (n (o53 P) (n (o85 P) (n (o149 P) (lf (o277 P)) (lf (o405 P))) (n (o213 P) (lf (o341 P)) e)) (n (o117 P) (n (o181 P) (lf (o309 P)) e) (n (o245 P) (lf (o373 P)) e)))) (n (o29 P) (n (o45 P) (n (o77 P) (n (o141 P) (lf (o269 P)) (lf (o397 P))) (n (o205 P) (lf (o333 P)) e)) (n (o109 P) (n (o173 P) (lf (o301 P)) e) (n (o237 P) (lf (o365 P)) e))) (n (o61 P) (n (o93 P) (n (o157 P) (lf (o285 P)) e) (n (o221 P) (lf (o349 P)) e)) (n (o125 P) (n (o189 P) (lf (o317 P)) e) (n (o253 P) (lf (o381 P)) e))))))) (n (o2v1 P) (n (o4 P) (n (o8 P) (n (o16 P) (n (o32 P) (n (o64 P) (n (o128 P) (lf (o256 P)) (lf (o384 P))) (n (o192 P) (lf (o320 P)) e)) (n (o96 P) (n (o160 P) (lf (o288 P)) e) (n (o224 P) (lf (o352 P)) e))) (n (o48 P) (n (o80 P) (n (o144 P) (lf (o272 P)) (lf (o400 P))) (n (o208 P) (lf (o336 P)) e)) (n (o112 P) (n (o176 P) (lf (o304 P)) e) (n (o240 P) (lf (o368 P)) e)))) (n (o24 P) (n (o40 P) (n (o72 P) (n (o136 P) (lf (o264 P)) (lf (o392 P))) (n (o200 P) (lf (o328 P)) e)) (n (o104 P) (n (o168 P) (lf (o296 P)) e) (n (o232 P) (lf (o360 P)) e))) (n (o56 P) (n (o88 P) (n (o152 P) (lf (o280 P)) (lf (o408 P))) (n (o216 P) (lf (o344 P)) e)) (n (o120 P) (n (o184 P) (lf (o312 P)) e) (n (o248 P) (lf (o376 P)) e))))) (n (o12v2 P) (n (o20 P) (n (o36 P) (n (o68 P) (n (o132 P) (lf (o260 P)) (lf (o388 P))) (n (o196 P) (lf (o324 P)) e)) (n (o100 P) (n (o164 P) (lf (o292 P)) e) (n (o228 P) (lf (o356 P)) e))) (n (o52 P) (n (o84 P) (n (o148 P) (lf (o276 P)) (lf (o404 P))) (n (o212 P) (lf (o340 P)) e)) (n (o116 P) (n (o180 P) (lf (o308 P)) e) (n (o244 P) (lf (o372 P)) e)))) (n (o28 P) (n (o44 P) (n (o76 P) (n (o140 P) (lf (o268 P)) (lf (o396 P))) (n (o204 P) (lf (o332 P)) e)) (n (o108 P) (n (o172 P) (lf (o300 P)) e) (n (o236 P) (lf (o364 P)) e))) (n (o60 P) (n (o92 P) (n (o156 P) (lf (o284 P)) e) (n (o220 P) (lf (o348 P)) e)) (n (o124 P) (n (o188 P) (lf (o316 P)) e) (n (o252 P) (lf (o380 P)) e)))))) (n (o6 P) (n (o10 P) (n (o18 P) (n (o34 P) (n (o66 P) (n (o130 P) (lf (o258 P)) (lf (o386 P))) (n (o194 P) (lf (o322 P)) e)) (n (o98 P) (n (o162 P) (lf (o290 P)) e) (n (o226 P) (lf (o354 P)) e))) (n (o50 P) (n (o82 P) (n (o146 P) (lf (o274 P)) (lf (o402 P))) (n (o210 P) (lf (o338 P)) e)) (n (o114 P) (n (o178 P) (lf (o306 P)) e) (n (o242 P) (lf (o370 P)) e)))) (n (o26 P) (n (o42 P) (n (o74 P) (n (o138 P) (lf (o266 P)) (lf (o394 P))) (n (o202 P) (lf (o330 P)) e)) (n (o106 P) (n (o170 P) (lf (o298 P)) e) (n (o234 P) (lf (o362 P)) e))) (n (o58 P) (n (o90 P) (n (o154 P) (lf (o282 P)) (lf (o410 P))) (n (o218 P) (lf (o346 P)) e)) (n (o122 P) (n (o186 P) (lf (o314 P)) e) (n (o250 P) (lf (o378 P)) e))))) (n (o14 P) (n (o22 P) (n (o38 P) (n (o70 P) (n (o134 P) (lf (o262 P)) (lf (o390 P))) (n (o198 P) (lf (o326 P)) e)) (n (o102 P) (n (o166 P) (lf (o294 P)) e) (n (o230 P) (lf (o358 P)) e))) (n (o54 P) (n (o86 P) (n (o150 P) (lf (o278 P)) (lf (o406 P))) (n (o214 P) (lf (o342 P)) e)) (n (o118 P) (n (o182 P) (lf (o310 P)) e) (n (o246 P) (lf (o374 P)) e)))) (n (o30 P) (n (o46 P) (n (o78 P) (n (o142 P) (lf (o270 P)) (lf (o398 P))) (n (o206 P) (lf (o334 P)) e)) (n (o110 P) (n (o174 P) (lf (o302 P)) e) (n (o238 P) (lf (o366 P)) e))) (n (o62 P) (n (o94 P) (n (o158 P) (lf (o286 P)) e) (n (o222 P) (lf (o350 P)) e)) (n (o126 P) (n (o190 P) (lf (o318 P)) e) (n (o254 P) (lf (o382 P)) e))))))))
def T3 (P : Z) : BT := (n (o0 P) (n (o1 P) (n (o3v3 P) (n (o7 P) (n (o15 P) (n (o31 P) (n (o63 P) (n (o127 P) (n (o255 P) (lf (o511 P)) e) (lf (o383 P))) (n (o191 P) (lf (o319 P)) (lf (o447 P)))) (n (o95 P) (n (o159 P) (n (o287 P) (lf (o543 P)) e) (lf (o415 P))) (n (o223 P) (lf (o351 P)) (lf (o479 P))))) (n (o47 P) (n (o79 P) (n (o143 P) (n (o271 P) (lf (o527 P)) e) (lf (o399 P))) (n (o207 P) (lf (o335 P)) (lf (o463 P)))) (n (o111 P) (n (o175 P) (lf (o303 P)) (lf (o431 P))) (n (o239 P) (lf (o367 P)) (lf (o495 P)))))) (n (o23 P) (n (o39 P) (n (o71 P) (n (o135 P) (n (o263 P) (lf (o519 P)) e) (lf (o391 P))) (n (o199 P) (lf (o327 P)) (lf (o455 P)))) (n (o103 P) (n (o167 P) (lf (o295 P)) (lf (o423 P))) (n (o231 P) (lf (o359 P)) (lf (o487 P))))) (n (o55 P) (n (o87 P) (n (o151 P) (n (o279 P) (lf (o535 P)) e) (lf (o407 P))) (n (o215 P) (lf (o343 P)) (lf (o471 P)))) (n (o119 P) (n (o183 P) (lf (o311 P)) (lf (o439 P))) (n (o247 P) (lf (o375 P)) (lf (o503 P))))))) (n (o11 P) (n (o19 P) (n (o35 P) (n (o67 P) (n (o131 P) (n (o259 P) (lf (o515 P)) e) (lf (o387 P))) (n (o195 P) (lf (o323 P)) (lf (o451 P)))) (n (o99 P) (n (o163 P) (lf (o291 P)) (lf (o419 P))) (n (o227 P) (lf (o355 P)) (lf (o483 P))))) (n (o51 P) (n (o83 P) (n (o147 P) (n (o275 P) (lf (o531 P)) e) (lf (o403 P))) (n (o211 P) (lf (o339 P)) (lf (o467 P)))) (n (o115 P) (n (o179 P) (lf (o307 P)) (lf (o435 P))) (n (o243 P) (lf (o371 P)) (lf (o499 P)))))) (n (o27 P) (n (o43 P) (n (o75 P) (n (o139 P) (n (o267 P) (lf (o523 P)) e) (lf (o395 P))) (n (o203 P) (lf (o331 P)) (lf (o459 P)))) (n (o107 P) (n (o171 P) (lf (o299 P)) (lf (o427 P))) (n (o235 P) (lf (o363 P)) (lf (o491 P))))) (n (o59 P) (n (o91 P) (n (o155 P) (n (o283 P) (lf (o539 P)) e) (lf (o411 P))) (n (o219 P) (lf (o347 P)) (lf (o475 P)))) (n (o123 P) (n (o187 P) (lf (o315 P)) (lf (o443 P))) (n (o251 P) (lf (o379 P)) (lf (o507 P)))))))) (n (o5 P) (n (o9 P) (n (o17 P) (n (o33 P) (n (o65 P) (n (o129 P) (n (o257 P) (lf (o513 P)) e) (lf (o385 P))) (n (o193 P) (lf (o321 P)) (lf (o449 P)))) (n (o97 P) (n (o161 P) (lf (o289 P)) (lf (o417 P))) (n (o225 P) (lf (o353 P)) (lf (o481 P))))) (n (o49 P) (n (o81 P) (n (o145 P) (n (o273 P) (lf (o529 P)) e) (lf (o401 P))) (n (o209 P) (lf (o337 P)) (lf (o465 P)))) (n (o113 P) (n (o177 P) (lf (o305 P)) (lf (o433 P))) (n (o241 P) (lf (o369 P)) (lf (o497 P)))))) (n (o25 P) (n (o41 P) (n (o73 P) (n (o137 P) (n (o265 P) (lf (o521 P)) e) (lf (o393 P))) (n (o201 P) (lf (o329 P)) (lf (o457 P)))) (n (o105 P) (n (o169 P) (lf (o297 P)) (lf (o425 P))) (n (o233 P) (lf (o361 P)) (lf (o489 P))))) (n (o57 P) (n (o89 P) (n (o153 P) (n (o281 P) (lf (o537 P)) e) (lf (o409 P))) (n (o217 P) (lf (o345 P)) (lf (o473 P)))) (n (o121 P) (n (o185 P) (lf (o313 P)) (lf (o441 P))) (n (o249 P) (lf (o377 P)) (lf (o505 P))))))) (n (o13 P) (n (o21 P) (n (o37 P) (n (o69 P) (n (o133 P) (n (o261 P) (lf (o517 P)) e) (lf (o389 P))) (n (o197 P) (lf (o325 P)) (lf (o453 P)))) (n (o101 P) (n (o165 P) (lf (o293 P)) (lf (o421 P))) (n (o229 P) (lf (o357 P)) (lf (o485 P))))) (n (o53 P) (n (o85 P) (n (o149 P) (n (o277 P) (lf (o533 P)) e) (lf (o405 P))) (n (o213 P) (lf (o341 P)) (lf (o469 P)))) (n (o117 P) (n (o181 P) (lf (o309 P)) (lf (o437 P))) (n (o245 P) (lf (o373 P)) (lf (o501 P)))))) (n (o29 P) (n (o45 P) (n (o77 P) (n (o141 P) (n (o269 P) (lf (o525 P)) e) (lf (o397 P))) (n (o205 P) (lf (o333 P)) (lf (o461 P)))) (n (o109 P) (n (o173 P) (lf (o301 P)) (lf (o429 P))) (n (o237 P) (lf (o365 P)) (lf (o493 P))))) (n (o61 P) (n (o93 P) (n (o157 P) (n (o285 P) (lf (o541 P)) e) (lf (o413 P))) (n (o221 P) (lf (o349 P)) (lf (o477 P)))) (n (o125 P) (n (o189 P) (lf (o317 P)) (lf (o445 P))) (n (o253 P) (lf (o381 P)) (lf (o509 P))))))))) (n (o2v1 P) (n (o4 P) (n (o8 P) (n (o16 P) (n (o32 P) (n (o64 P) (n (o128 P) (n (o256 P) (lf (o512 P)) e) (lf (o384 P))) (n (o192 P) (lf (o320 P)) (lf (o448 P)))) (n (o96 P) (n (o160 P) (lf (o288 P)) (lf (o416 P))) (n (o224 P) (lf (o352 P)) (lf (o480 P))))) (n (o48 P) (n (o80 P) (n (o144 P) (n (o272 P) (lf (o528 P)) e) (lf (o400 P))) (n (o208 P) (lf (o336 P)) (lf (o464 P)))) (n (o112 P) (n (o176 P) (lf (o304 P)) (lf (o432 P))) (n (o240 P) (lf (o368 P)) (lf (o496 P)))))) (n (o24 P) (n (o40 P) (n (o72 P) (n (o136 P) (n (o264 P) (lf (o520 P)) e) (lf (o392 P))) (n (o200 P) (lf (o328 P)) (lf (o456 P)))) (n (o104 P) (n (o168 P) (lf (o296 P)) (lf (o424 P))) (n (o232 P) (lf (o360 P)) (lf (o488 P))))) (n (o56 P) (n (o88 P) (n (o152 P) (n (o280 P) (lf (o536 P)) e) (lf (o408 P))) (n (o216 P) (lf (o344 P)) (lf (o472 P)))) (n (o120 P) (n (o184 P) (lf (o312 P)) (lf (o440 P))) (n (o248 P) (lf (o376 P)) (lf (o504 P))))))) (n (o12v3 P) (n (o20 P) (n (o36 P) (n (o68 P) (n (o132 P) (n (o260 P) (lf (o516 P)) e) (lf (o388 P))) (n (o196 P) (lf (o324 P)) (lf (o452 P)))) (n (o100 P) (n (o164 P) (lf (o292 P)) (lf (o420 P))) (n (o228 P) (lf (o356 P)) (lf (o484 P))))) (n (o52 P) (n (o84 P) (n (o148 P) (n (o276 P) (lf (o532 P)) e) (lf (o404 P))) (n (o212 P) (lf (o340 P)) (lf (o468 P)))) (n (o116 P) (n (o180 P) (lf (o308 P)) (lf (o436 P))) (n (o244 P) (lf (o372 P)) (lf (o500 P)))))) (n (o28 P) (n (o44 P) (n (o76 P) (n (o140 P) (n (o268 P) (lf (o524 P)) e) (lf (o396 P))) (n (o204 P) (lf (o332 P)) (lf (o460 P)))) (n (o108 P) (n (o172 P) (lf (o300 P)) (lf (o428 P))) (n (o236 P) (lf (o364 P)) (lf (o492 P))))) (n (o60 P) (n (o92 P) (n (o156 P) (n (o284 P) (lf (o540 P)) e) (lf (o412 P))) (n (o220 P) (lf (o348 P)) (lf (o476 P)))) (n (o124 P) (n (o188 P) (lf (o316 P)) (lf (o444 P))) (n (o252 P) (lf (o380 P)) (lf (o508 P)))))))) (n (o6 P) (n (o10 P) (n (o18 P) (n (o34 P) (n (o66 P) (n (o130 P) (n (o258 P) (lf (o514 P)) e) (lf (o386 P))) (n (o194 P) (lf (o322 P)) (lf (o450 P)))) (n (o98 P) (n (o162 P) (lf (o290 P)) (lf (o418 P))) (n (o226 P) (lf (o354 P)) (lf (o482 P))))) (n (o50 P) (n (o82 P) (n (o146 P) (n (o274 P) (lf (o530 P)) e) (lf (o402 P))) (n (o210 P) (lf (o338 P)) (lf (o466 P)))) (n (o114 P) (n (o178 P) (lf (o306 P)) (lf (o434 P))) (n (o242 P) (lf (o370 P)) (lf (o498 P)))))) (n (o26 P) (n (o42 P) (n (o74 P) (n (o138 P) (n (o266 P) (lf (o522 P)) e) (lf (o394 P))) (n (o202 P) (lf (o330 P)) (lf (o458 P)))) (n (o106 P) (n (o170 P) (lf (o298 P)) (lf (o426 P))) (n (o234 P) (lf (o362 P)) (lf (o490 P))))) (n (o58 P) (n (o90 P) (n (o154 P) (n (o282 P) (lf (o538 P)) e) (lf (o410 P))) (n (o218 P) (lf (o346 P)) (lf (o474 P)))) (n (o122 P) (n (o186 P) (lf (o314 P)) (lf (o442 P))) (n (o250 P) (lf (o378 P)) (lf (o506 P))))))) (n (o14 P) (n (o22 P) (n (o38 P) (n (o70 P) (n (o134 P) (n (o262 P) (lf (o518 P)) e) (lf (o390 P))) (n (o198 P) (lf (o326 P)) (lf (o454 P)))) (n (o102 P) (n (o166 P) (lf (o294 P)) (lf (o422 P))) (n (o230 P) (lf (o358 P)) (lf (o486 P))))) (n (o54 P) (n (o86 P) (n (o150 P) (n (o278 P) (lf (o534 P)) e) (lf (o406 P))) (n (o214 P) (lf (o342 P)) (lf (o470 P)))) (n (o118 P) (n (o182 P) (lf (o310 P)) (lf (o438 P))) (n (o246 P) (lf (o374 P)) (lf (o502 P)))))) (n (o30 P) (n (o46 P) (n (o78 P) (n (o142 P) (n (o270 P) (lf (o526 P)) e) (lf (o398 P))) (n (o206 P) (lf (o334 P)) (lf (o462 P)))) (n (o110 P) (n (o174 P) (lf (o302 P)) (lf (o430 P))) (n (o238 P) (lf (o366 P)) (lf (o494 P))))) (n (o62 P) (n (o94 P) (n (o158 P) (n (o286 P) (lf (o542 P)) e) (lf (o414 P))) (n (o222 P) (lf (o350 P)) (lf (o478 P)))) (n (o126 P) (n (o190 P) (lf (o318 P)) (lf (o446 P))) (n (o254 P) (lf (o382 P)) (lf (o510 P))))))))))
def T4 (P : Z) : BT := (n (o0 P) (n (o1 P) (n (o3v4 P) (n (o7 P) (n (o15 P) (n (o31 P) (n (o63 P) (n (o127 P) (n (o255 P) (lf (o511 P)) e) (n (o383 P) (lf (o639 P)) e)) (n (o191 P) (n (o319 P) (lf (o575 P)) e) (lf (o447 P)))) (n (o95 P) (n (o159 P) (n (o287 P) (lf (o543 P)) e) (n (o415 P) (lf (o671 P)) e)) (n (o223 P) (n (o351 P) (lf (o607 P)) e) (lf (o479 P))))) (n (o47 P) (n (o79 P) (n (o143 P) (n (o271 P) (lf (o527 P)) e) (n (o399 P) (lf (o655 P)) e)) (n (o207 P) (n (o335 P) (lf (o591 P)) e) (lf (o463 P)))) (n (o111 P) (n (o175 P) (n (o303 P) (lf (o559 P)) e) (n (o431 P) (lf (o687 P)) e)) (n (o239 P) (n (o367 P) (lf (o623 P)) e) (lf (o495 P)))))) (n (o23 P) (n (o39 P) (n (o71 P) (n (o135 P) (n (o263 P) (lf (o519 P)) e) (n (o391 P) (lf (o647 P)) e)) (n (o199 P) (n (o327 P) (lf (o583 P)) e) (lf (o455 P)))) (n (o103 P) (n (o167 P) (n (o295 P) (lf (o551 P)) e) (n (o423 P) (lf (o679 P)) e)) (n (o231 P) (n (o359 P) (lf (o615 P)) e) (lf (o487 P))))) (n (o55 P) (n (o87 P) (n (o151 P) (n (o279 P) (lf (o535 P)) e) (n (o407 P) (lf (o663 P)) e)) (n (o215 P) (n (o343 P) (lf (o599 P)) e) (lf (o471 P)))) (n (o119 P) (n (o183 P) (n (o311 P) (lf (o567 P)) e) (n (o439 P) (lf (o695 P)) e)) (n (o247 P) (n (o375 P) (lf (o631 P)) e) (lf (o503 P))))))) (n (o11 P) (n (o19 P) (n (o35 P) (n (o67 P) (n (o131 P) (n (o259 P) (lf (o515 P)) e) (n (o387 P) (lf (o643 P)) e)) (n (o195 P) (n (o323 P) (lf (o579 P)) e) (lf (o451 P)))) (n (o99 P) (n (o163 P) (n (o291 P) (lf (o547 P)) e) (n (o419 P) (lf (o675 P)) e)) (n (o227 P) (n (o355 P) (lf (o611 P)) e) (lf (o483 P))))) (n (o51 P) (n (o83 P) (n (o147 P) (n (o275 P) (lf (o531 P)) e) (n (o403 P) (lf (o659 P)) e)) (n (o211 P) (n (o339 P) (lf (o595 P)) e) (lf (o467 P)))) (n (o115 P) (n (o179 P) (n (o307 P) (lf (o563 P)) e) (n (o435 P) (lf (o691 P)) e)) (n (o243 P) (n (o371 P) (lf (o627 P)) e) (lf (o499 P)))))) (n (o27 P) (n (o43 P) (n (o75 P) (n (o139 P) (n (o267 P) (lf (o523 P)) e) (n (o395 P) (lf (o651 P)) e)) (n (o203 P) (n (o331 P) (lf (o587 P)) e) (lf (o459 P)))) (n (o107 P) (n (o171 P) (n (o299 P) (lf (o555 P)) e) (n (o427 P) (lf (o683 P)) e)) (n (o235 P) (n (o363 P) (lf (o619 P)) e) (lf (o491 P))))) (n (o59 P) (n (o91 P) (n (o155 P) (n (o283 P) (lf (o539 P)) e) (n (o411 P) (lf (o667 P)) e)) (n (o219 P) (n (o347 P) (lf (o603 P)) e) (lf (o475 P)))) (n (o123 P) (n (o187 P) (n (o315 P) (lf (o571 P)) e) (lf (o443 P))) (n (o251 P) (n (o379 P) (lf (o635 P)) e) (lf (o507 P)))))))) (n (o5 P) (n (o9 P) (n (o17 P) (n (o33 P) (n (o65 P) (n (o129 P) (n (o257 P) (lf (o513 P)) e) (n (o385 P) (lf (o641 P)) e)) (n (o193 P) (n (o321 P) (lf (o577 P)) e) (lf (o449 P)))) (n (o97 P) (n (o161 P) (n (o289 P) (lf (o545 P)) e) (n (o417 P) (lf (o673 P)) e)) (n (o225 P) (n (o353 P) (lf (o609 P)) e) (lf (o481 P))))) (n (o49 P) (n (o81 P) (n (o145 P) (n (o273 P) (lf (o529 P)) e) (n (o401 P) (lf (o657 P)) e)) (n (o209 P) (n (o337 P) (lf (o593 P)) e) (lf (o465 P)))) (n (o113 P) (n (o177 P) (n (o305 P) (lf (o561 P)) e) (n (o433 P) (lf (o689 P)) e)) (n (o241 P) (n (o369 P) (lf (o625 P)) e) (lf (o497 P)))))) (n (o25 P) (n (o41 P) (n (o73 P) (n (o137 P) (n (o265 P) (lf (o521 P)) e) (n (o393 P) (lf (o649 P)) e)) (n (o201 P) (n (o329 P) (lf (o585 P)) e) (lf (o457 P)))) (n (o105 P) (n (o169 P) (n (o297 P) (lf (o553 P)) e) (n (o425 P) (lf (o681 P)) e)) (n (o233 P) (n (o361 P) (lf (o617 P)) e) (lf (o489 P))))) (n (o57 P) (n (o89 P) (n (o153 P) (n (o281 P) (lf (o537 P)) e) (n (o409 P) (lf (o665 P)) e)) (n (o217 P) (n (o345 P) (lf (o601 P)) e) (lf (o473 P)))) (n (o121 P) (n (o185 P) (n (o313 P) (lf (o569 P)) e) (n (o441 P) (lf (o697 P)) e)) (n (o249 P) (n (o377 P) (lf (o633 P)) e) (lf (o505 P))))))) (n (o13 P) (n (o21 P) (n (o37 P) (n (o69 P) (n (o133 P) (n (o261 P) (lf (o517 P)) e) (n (o389 P) (lf (o645 P)) e)) (n (o197 P) (n (o325 P) (lf (o581 P)) e) (lf (o453 P)))) (n (o101 P) (n (o165 P) (n (o293 P) (lf (o549 P)) e) (n (o421 P) (lf (o677 P)) e)) (n (o229 P) (n (o357 P) (lf (o613 P)) e) (lf (o485 P))))) (n (o53 P) (n (o85 P) (n (o149 P) (n (o277 P) (lf (o533 P)) e) (n (o405 P) (lf (o661 P)) e)) (n (o213 P) (n (o341 P) (lf (o597 P)) e) (lf (o469 P)))) (n (o117 P) (n (o181 P) (n (o309 P) (lf (o565 P)) e) (n (o437 P) (lf (o693 P)) e)) (n (o245 P) (n (o373 P) (lf (o629 P)) e) (lf (o501 P)))))) (n (o29 P) (n (o45 P) (n (o77 P) (n (o141 P) (n (o269 P) (lf (o525 P)) e) (n (o397 P) (lf (o653 P)) e)) (n (o205 P) (n (o333 P) (lf (o589 P)) e) (lf (o461 P)))) (n (o109 P) (n (o173 P) (n (o301 P) (lf (o557 P)) e) (n (o429 P) (lf (o685 P)) e)) (n (o237 P) (n (o365 P) (lf (o621 P)) e) (lf (o493 P))))) (n (o61 P) (n (o93 P) (n (o157 P) (n (o285 P) (lf (o541 P)) e) (n (o413 P) (lf (o669 P)) e)) (n (o221 P) (n (o349 P) (lf (o605 P)) e) (lf (o477 P)))) (n (o125 P) (n (o189 P) (n (o317 P) (lf (o573 P)) e) (lf (o445 P))) (n (o253 P) (n (o381 P) (lf (o637 P)) e) (lf (o509 P))))))))) (n (o2v1 P) (n (o4 P) (n (o8 P) (n (o16 P) (n (o32 P) (n (o64 P) (n (o128 P) (n (o256 P) (lf (o512 P)) e) (n (o384 P) (lf (o640 P)) e)) (n (o192 P) (n (o320 P) (lf (o576 P)) e) (lf (o448 P)))) (n (o96 P) (n (o160 P) (n (o288 P) (lf (o544 P)) e) (n (o416 P) (lf (o672 P)) e)) (n (o224 P) (n (o352 P) (lf (o608 P)) e) (lf (o480 P))))) (n (o48 P) (n (o80 P) (n (o144 P) (n (o272 P) (lf (o528 P)) e) (n (o400 P) (lf (o656 P)) e)) (n (o208 P) (n (o336 P) (lf (o592 P)) e) (lf (o464 P)))) (n (o112 P) (n (o176 P) (n (o304 P) (lf (o560 P)) e) (n (o432 P) (lf (o688 P)) e)) (n (o240 P) (n (o368 P) (lf (o624 P)) e) (lf (o496 P)))))) (n (o24 P) (n (o40 P) (n (o72 P) (n (o136 P) (n (o264 P) (lf (o520 P)) e) (n (o392 P) (lf (o648 P)) e)) (n (o200 P) (n (o328 P) (lf (o584 P)) e) (lf (o456 P)))) (n (o104 P) (n (o168 P) (n (o296 P) (lf (o552 P)) e) (n (o424 P) (lf (o680 P)) e)) (n (o232 P) (n (o360 P) (lf (o616 P)) e) (lf (o488 P))))) (n (o56 P) (n (o88 P) (n (o152 P) (n (o280 P) (lf (o536 P)) e) (n (o408 P) (lf (o664 P)) e)) (n (o216 P) (n (o344 P) (lf (o600 P)) e) (lf (o472 P)))) (n (o120 P) (n (o184 P) (n (o312 P) (lf (o568 P)) e) (n (o440 P) (lf (o696 P)) e)) (n (o248 P) (n (o376 P) (lf (o632 P)) e) (lf (o504 P))))))) (n (o12v4 P) (n (o20 P) (n (o36 P) (n (o68 P) (n (o132 P) (n (o260 P) (lf (o516 P)) e) (n (o388 P) (lf (o644 P)) e)) (n (o196 P) (n (o324 P) (lf (o580 P)) e) (lf (o452 P)))) (n (o100 P) (n (o164 P) (n (o292 P) (lf (o548 P)) e) (n (o420 P) (lf (o676 P)) e)) (n (o228 P) (n (o356 P) (lf (o612 P)) e) (lf (o484 P))))) (n (o52 P) (n (o84 P) (n (o148 P) (n (o276 P) (lf (o532 P)) e) (n (o404 P) (lf (o660 P)) e)) (n (o212 P) (n (o340 P) (lf (o596 P)) e) (lf (o468 P)))) (n (o116 P) (n (o180 P) (n (o308 P) (lf (o564 P)) e) (n (o436 P) (lf (o692 P)) e)) (n (o244 P) (n (o372 P) (lf (o628 P)) e) (lf (o500 P)))))) (n (o28 P) (n (o44 P) (n (o76 P) (n (o140 P) (n (o268 P) (lf (o524 P)) e) (n (o396 P) (lf (o652 P)) e)) (n (o204 P) (n (o332 P) (lf (o588 P)) e) (lf (o460 P)))) (n (o108 P) (n (o172 P) (n (o300 P) (lf (o556 P)) e) (n (o428 P) (lf (o684 P)) e)) (n (o236 P) (n (o364 P) (lf (o620 P)) e) (lf (o492 P))))) (n (o60 P) (n (o92 P) (n (o156 P) (n (o284 P) (lf (o540 P)) e) (n (o412 P) (lf (o668 P)) e)) (n (o220 P) (n (o348 P) (lf (o604 P)) e) (lf (o476 P)))) (n (o124 P) (n (o188 P) (n (o316 P) (lf (o572 P)) e) (lf (o444 P))) (n (o252 P) (n (o380 P) (lf (o636 P)) e) (lf (o508 P)))))))) (n (o6 P) (n (o10 P) (n (o18 P) (n (o34 P) (n (o66 P) (n (o130 P) (n (o258 P) (lf (o514 P)) e) (n (o386 P) (lf (o642 P)) e)) (n (o194 P) (n (o322 P) (lf (o578 P)) e) (lf (o450 P)))) (n (o98 P) (n (o162 P) (n (o290 P) (lf (o546 P)) e) (n (o418 P) (lf (o674 P)) e)) (n (o226 P) (n (o354 P) (lf (o610 P)) e) (lf (o482 P))))) (n (o50 P) (n (o82 P) (n (o146 P) (n (o274 P) (lf (o530 P)) e) (n (o402 P) (lf (o658 P)) e)) (n (o210 P) (n (o338 P) (lf (o594 P)) e) (lf (o466 P)))) (n (o114 P) (n (o178 P) (n (o306 P) (lf (o562 P)) e) (n (o434 P) (lf (o690 P)) e)) (n (o242 P) (n (o370 P) (lf (o626 P)) e) (lf (o498 P)))))) (n (o26 P) (n (o42 P) (n (o74 P) (n (o138 P) (n (o266 P) (lf (o522 P)) e) (n (o394 P) (lf (o650 P)) e)) (n (o202 P) (n (o330 P) (lf (o586 P)) e) (lf (o458 P)))) (n (o106 P) (n (o170 P) (n (o298 P) (lf (o554 P)) e) (n (o426 P) (lf (o682 P)) e)) (n (o234 P) (n (o362 P) (lf (o618 P)) e) (lf (o490 P))))) (n (o58 P) (n (o90 P) (n (o154 P) (n (o282 P) (lf (o538 P)) e) (n (o410 P) (lf (o666 P)) e)) (n (o218 P) (n (o346 P) (lf (o602 P)) e) (lf (o474 P)))) (n (o122 P) (n (o186 P) (n (o314 P) (lf (o570 P)) e) (n (o442 P) (lf (o698 P)) e)) (n (o250 P) (n (o378 P) (lf (o634 P)) e) (lf (o506 P))))))) (n (o14 P) (n (o22 P) (n (o38 P) (n (o70 P) (n (o134 P) (n (o262 P) (lf (o518 P)) e) (n (o390 P) (lf (o646 P)) e)) (n (o198 P) (n (o326 P) (lf (o582 P)) e) (lf (o454 P)))) (n (o102 P) (n (o166 P) (n (o294 P) (lf (o550 P)) e) (n (o422 P) (lf (o678 P)) e)) (n (o230 P) (n (o358 P) (lf (o614 P)) e) (lf (o486 P))))) (n (o54 P) (n (o86 P) (n (o150 P) (n (o278 P) (lf (o534 P)) e) (n (o406 P) (lf (o662 P)) e)) (n (o214 P) (n (o342 P) (lf (o598 P)) e) (lf (o470 P)))) (n (o118 P) (n (o182 P) (n (o310 P) (lf (o566 P)) e) (n (o438 P) (lf (o694 P)) e)) (n (o246 P) (n (o374 P) (lf (o630 P)) e) (lf (o502 P)))))) (n (o30 P) (n (o46 P) (n (o78 P) (n (o142 P) (n (o270 P) (lf (o526 P)) e) (n (o398 P) (lf (o654 P)) e)) (n (o206 P) (n (o334 P) (lf (o590 P)) e) (lf (o462 P)))) (n (o110 P) (n (o174 P) (n (o302 P) (lf (o558 P)) e) (n (o430 P) (lf (o686 P)) e)) (n (o238 P) (n (o366 P) (lf (o622 P)) e) (lf (o494 P))))) (n (o62 P) (n (o94 P) (n (o158 P) (n (o286 P) (lf (o542 P)) e) (n (o414 P) (lf (o670 P)) e)) (n (o222 P) (n (o350 P) (lf (o606 P)) e) (lf (o478 P)))) (n (o126 P) (n (o190 P) (n (o318 P) (lf (o574 P)) e) (lf (o446 P))) (n (o254 P) (n (o382 P) (lf (o638 P)) e) (lf (o510 P))))))))))
def T5 (P : Z) : BT := (n (o0 P) (n (o1 P) (n (o3v5 P) (n (o7 P) (n (o15 P) (n (o31 P) (n (o63 P) (n (o127 P) (n (o255 P) (lf (o511 P)) (lf (o767 P))) (n (o383 P) (lf (o639 P)) (lf (o895 P)))) (n (o191 P) (n (o319 P) (lf (o575 P)) (lf (o831 P))) (n (o447 P) (lf (o703 P)) e))) (n (o95 P) (n (o159 P) (n (o287 P) (lf (o543 P)) (lf (o799 P))) (n (o415 P) (lf (o671 P)) e)) (n (o223 P) (n (o351 P) (lf (o607 P)) (lf (o863 P))) (n (o479 P) (lf (o735 P)) e)))) (n (o47 P) (n (o79 P) (n (o143 P) (n (o271 P) (lf (o527 P)) (lf (o783 P))) (n (o399 P) (lf (o655 P)) (lf (o911 P)))) (n (o207 P) (n (o335 P) (lf (o591 P)) (lf (o847 P))) (n (o463 P) (lf (o719 P)) e))) (n (o111 P) (n (o175 P) (n (o303 P) (lf (o559 P)) (lf (o815 P))) (n (o431 P) (lf (o687 P)) e)) (n (o239 P) (n (o367 P) (lf (o623 P)) (lf (o879 P))) (n (o495 P) (lf (o751 P)) e))))) (n (o23 P) (n (o39 P) (n (o71 P) (n (o135 P) (n (o263 P) (lf (o519 P)) (lf (o775 P))) (n (o391 P) (lf (o647 P)) (lf (o903 P)))) (n (o199 P) (n (o327 P) (lf (o583 P)) (lf (o839 P))) (n (o455 P) (lf (o711 P)) e))) (n (o103 P) (n (o167 P) (n (o295 P) (lf (o551 P)) (lf (o807 P))) (n (o423 P) (lf (o679 P)) e)) (n (o231 P) (n (o359 P) (lf (o615 P)) (lf (o871 P))) (n (o487 P) (lf (o743 P)) e)))) (n (o55 P) (n (o87 P) (n (o151 P) (n (o279 P) (lf (o535 P)) (lf (o791 P))) (n (o407 P) (lf (o663 P)) (lf (o919 P)))) (n (o215 P) (n (o343 P) (lf (o599 P)) (lf (o855 P))) (n (o471 P) (lf (o727 P)) e))) (n (o119 P) (n (o183 P) (n (o311 P) (lf (o567 P)) (lf (o823 P))) (n (o439 P) (lf (o695 P)) e)) (n (o247 P) (n (o375 P) (lf (o631 P)) (lf (o887 P))) (n (o503 P) (lf (o759 P)) e)))))) (n (o11 P) (n (o19 P) (n (o35 P) (n (o67 P) (n (o131 P) (n (o259 P) (lf (o515 P)) (lf (o771 P))) (n (o387 P) (lf (o643 P)) (lf (o899 P)))) (n (o195 P) (n (o323 P) (lf (o579 P)) (lf (o835 P))) (n (o451 P) (lf (o707 P)) e))) (n (o99 P) (n (o163 P) (n (o291 P) (lf (o547 P)) (lf (o803 P))) (n (o419 P) (lf (o675 P)) e)) (n (o227 P) (n (o355 P) (lf (o611 P)) (lf (o867 P))) (n (o483 P) (lf (o739 P)) e)))) (n (o51 P) (n (o83 P) (n (o147 P) (n (o275 P) (lf (o531 P)) (lf (o787 P))) (n (o403 P) (lf (o659 P)) (lf (o915 P)))) (n (o211 P) (n (o339 P) (lf (o595 P)) (lf (o851 P))) (n (o467 P) (lf (o723 P)) e))) (n (o115 P) (n (o179 P) (n (o307 P) (lf (o563 P)) (lf (o819 P))) (n (o435 P) (lf (o691 P)) e)) (n (o243 P) (n (o371 P) (lf (o627 P)) (lf (o883 P))) (n (o499 P) (lf (o755 P)) e))))) (n (o27 P) (n (o43 P) (n (o75 P) (n (o139 P) (n (o267 P) (lf (o523 P)) (lf (o779 P))) (n (o395 P) (lf (o651 P)) (lf (o907 P)))) (n (o203 P) (n (o331 P) (lf (o587 P)) (lf (o843 P))) (n (o459 P) (lf (o715 P)) e))) (n (o107 P) (n (o171 P) (n (o299 P) (lf (o555 P)) (lf (o811 P))) (n (o427 P) (lf (o683 P)) e)) (n (o235 P) (n (o363 P) (lf (o619 P)) (lf (o875 P))) (n (o491 P) (lf (o747 P)) e)))) (n (o59 P) (n (o91 P) (n (o155 P) (n (o283 P) (lf (o539 P)) (lf (o795 P))) (n (o411 P) (lf (o667 P)) e)) (n (o219 P) (n (o347 P) (lf (o603 P)) (lf (o859 P))) (n (o475 P) (lf (o731 P)) e))) (n (o123 P) (n (o187 P) (n (o315 P) (lf (o571 P)) (lf (o827 P))) (n (o443 P) (lf (o699 P)) e)) (n (o251 P) (n (o379 P) (lf (o635 P)) (lf (o891 P))) (n (o507 P) (lf (o763 P)) e))))))) (n (o5 P) (n (o9 P) (n (o17 P) (n (o33 P) (n (o65 P) (n (o129 P) (n (o257 P) (lf (o513 P)) (lf (o769 P))) (n (o385 P) (lf (o641 P)) (lf (o897 P)))) (n (o193 P) (n (o321 P) (lf (o577 P)) (lf (o833 P))) (n (o449 P) (lf (o705 P)) e))) (n (o97 P) (n (o161 P) (n (o289 P) (lf (o545 P)) (lf (o801 P))) (n (o417 P) (lf (o673 P)) e)) (n (o225 P) (n (o353 P) (lf (o609 P)) (lf (o865 P))) (n (o481 P) (lf (o737 P)) e)))) (n (o49 P) (n (o81 P) (n (o145 P) (n (o273 P) (lf (o529 P)) (lf (o785 P))) (n (o401 P) (lf (o657 P)) (lf (o913 P)))) (n (o209 P) (n (o337 P) (lf (o593 P)) (lf (o849 P))) (n (o465 P) (lf (o721 P)) e))) (n (o113 P) (n (o177 P) (n (o305 P) (lf (o561 P)) (lf (o817 P))) (n (o433 P) (lf (o689 P)) e)) (n (o241 P) (n (o369 P) (lf (o625 P)) (lf (o881 P))) (n (o497 P) (lf (o753 P)) e))))) (n (o25 P) (n (o41 P) (n (o73 P) (n (o137 P) (n (o265 P) (lf (o521 P)) (lf (o777 P))) (n (o393 P) (lf (o649 P)) (lf (o905 P)))) (n (o201 P) (n (o329 P) (lf (o585 P)) (lf (o841 P))) (n (o457 P) (lf (o713 P)) e))) (n (o105 P) (n (o169 P) (n (o297 P) (lf (o553 P)) (lf (o809 P))) (n (o425 P) (lf (o681 P)) e)) (n (o233 P) (n (o361 P) (lf (o617 P)) (lf (o873 P))) (n (o489 P) (lf (o745 P)) e)))) (n (o57 P) (n (o89 P) (n (o153 P) (n (o281 P) (lf (o537 P)) (lf (o793 P))) (n (o409 P) (lf (o665 P)) e)) (n (o217 P) (n (o345 P) (lf (o601 P)) (lf (o857 P))) (n (o473 P) (lf (o729 P)) e))) (n (o121 P) (n (o185 P) (n (o313 P) (lf (o569 P)) (lf (o825 P))) (n (o441 P) (lf (o697 P)) e)) (n (o249 P) (n (o377 P) (lf (o633 P)) (lf (o889 P))) (n (o505 P) (lf (o761 P)) e)))))) (n (o13 P) (n (o21 P) (n (o37 P) (n (o69 P) (n (o133 P) (n (o261 P) (lf (o517 P)) (lf (o773 P))) (n (o389 P) (lf (o645 P)) (lf (o901 P)))) (n (o197 P) (n (o325 P) (lf (o581 P)) (lf (o837 P))) (n (o453 P) (lf (o709 P)) e))) (n (o101 P) (n (o165 P) (n (o293 P) (lf (o549 P)) (lf (o805 P))) (n (o421 P) (lf (o677 P)) e)) (n (o229 P) (n (o357 P) (lf (o613 P)) (lf (o869 P))) (n (o485 P) (lf (o741 P)) e)))) (n (o53 P) (n (o85 P) (n (o149 P) (n (o277 P) (lf (o533 P)) (lf (o789 P))) (n (o405 P) (lf (o661 P)) (lf (o917 P)))) (n (o213 P) (n (o341 P) (lf (o597 P)) (lf (o853 P))) (n (o469 P) (lf (o725 P)) e))) (n (o117 P) (n (o181 P) (n (o309 P) (lf (o565 P)) (lf (o821 P))) (n (o437 P) (lf (o693 P)) e)) (n (o245 P) (n (o373 P) (lf (o629 P)) (lf (o885 P))) (n (o501 P) (lf (o757 P)) e))))) (n (o29 P) (n (o45 P) (n (o77 P) (n (o141 P) (n (o269 P) (lf (o525 P)) (lf (o781 P))) (n (o397 P) (lf (o653 P)) (lf (o909 P)))) (n (o205 P) (n (o333 P) (lf (o589 P)) (lf (o845 P))) (n (o461 P) (lf (o717 P)) e))) (n (o109 P) (n (o173 P) (n (o301 P) (lf (o557 P)) (lf (o813 P))) (n (o429 P) (lf (o685 P)) e)) (n (o237 P) (n (o365 P) (lf (o621 P)) (lf (o877 P))) (n (o493 P) (lf (o749 P)) e)))) (n (o61 P) (n (o93 P) (n (o157 P) (n (o285 P) (lf (o541 P)) (lf (o797 P))) (n (o413 P) (lf (o669 P)) e)) (n (o221 P) (n (o349 P) (lf (o605 P)) (lf (o861 P))) (n (o477 P) (lf (o733 P)) e))) (n (o125 P) (n (o189 P) (n (o317 P) (lf (o573 P)) (lf (o829 P))) (n (o445 P) (lf (o701 P)) e)) (n (o253 P) (n (o381 P) (lf (o637 P)) (lf (o893 P))) (n (o509 P) (lf (o765 P)) e)))))))) (n (o2v1 P) (n (o4 P) (n (o8 P) (n (o16 P) (n (o32 P) (n (o64 P) (n (o128 P) (n (o256 P) (lf (o512 P)) (lf (o768 P))) (n (o384 P) (lf (o640 P)) (lf (o896 P)))) (n (o192 P) (n (o320 P) (lf (o576 P)) (lf (o832 P))) (n (o448 P) (lf (o704 P)) e))) (n (o96 P) (n (o160 P) (n (o288 P) (lf (o544 P)) (lf (o800 P))) (n (o416 P) (lf (o672 P)) e)) (n (o224 P) (n (o352 P) (lf (o608 P)) (lf (o864 P))) (n (o480 P) (lf (o736 P)) e)))) (n (o48 P) (n (o80 P) (n (o144 P) (n (o272 P) (lf (o528 P)) (lf (o784 P))) (n (o400 P) (lf (o656 P)) (lf (o912 P)))) (n (o208 P) (n (o336 P) (lf (o592 P)) (lf (o848 P))) (n (o464 P) (lf (o720 P)) e))) (n (o112 P) (n (o176 P) (n (o304 P) (lf (o560 P)) (lf (o816 P))) (n (o432 P) (lf (o688 P)) e)) (n (o240 P) (n (o368 P) (lf (o624 P)) (lf (o880 P))) (n (o496 P) (lf (o752 P)) e))))) (n (o24 P) (n (o40 P) (n (o72 P) (n (o136 P) (n (o264 P) (lf (o520 P)) (lf (o776 P))) (n (o392 P) (lf (o648 P)) (lf (o904 P)))) (n (o200 P) (n (o328 P) (lf (o584 P)) (lf (o840 P))) (n (o456 P) (lf (o712 P)) e))) (n (o104 P) (n (o168 P) (n (o296 P) (lf (o552 P)) (lf (o808 P))) (n (o424 P) (lf (o680 P)) e)) (n (o232 P) (n (o360 P) (lf (o616 P)) (lf (o872 P))) (n (o488 P) (lf (o744 P)) e)))) (n (o56 P) (n (o88 P) (n (o152 P) (n (o280 P) (lf (o536 P)) (lf (o792 P))) (n (o408 P) (lf (o664 P)) (lf (o920 P)))) (n (o216 P) (n (o344 P) (lf (o600 P)) (lf (o856 P))) (n (o472 P) (lf (o728 P)) e))) (n (o120 P) (n (o184 P) (n (o312 P) (lf (o568 P)) (lf (o824 P))) (n (o440 P) (lf (o696 P)) e)) (n (o248 P) (n (o376 P) (lf (o632 P)) (lf (o888 P))) (n (o504 P) (lf (o760 P)) e)))))) (n (o12v5 P) (n (o20 P) (n (o36 P) (n (o68 P) (n (o132 P) (n (o260 P) (lf (o516 P)) (lf (o772 P))) (n (o388 P) (lf (o644 P)) (lf (o900 P)))) (n (o196 P) (n (o324 P) (lf (o580 P)) (lf (o836 P))) (n (o452 P) (lf (o708 P)) e))) (n (o100 P) (n (o164 P) (n (o292 P) (lf (o548 P)) (lf (o804 P))) (n (o420 P) (lf (o676 P)) e)) (n (o228 P) (n (o356 P) (lf (o612 P)) (lf (o868 P))) (n (o484 P) (lf (o740 P)) e)))) (n (o52 P) (n (o84 P) (n (o148 P) (n (o276 P) (lf (o532 P)) (lf (o788 P))) (n (o404 P) (lf (o660 P)) (lf (o916 P)))) (n (o212 P) (n (o340 P) (lf (o596 P)) (lf (o852 P))) (n (o468 P) (lf (o724 P)) e))) (n (o116 P) (n (o180 P) (n (o308 P) (lf (o564 P)) (lf (o820 P))) (n (o436 P) (lf (o692 P)) e)) (n (o244 P) (n (o372 P) (lf (o628 P)) (lf (o884 P))) (n (o500 P) (lf (o756 P)) e))))) (n (o28 P) (n (o44 P) (n (o76 P) (n (o140 P) (n (o268 P) (lf (o524 P)) (lf (o780 P))) (n (o396 P) (lf (o652 P)) (lf (o908 P)))) (n (o204 P) (n (o332 P) (lf (o588 P)) (lf (o844 P))) (n (o460 P) (lf (o716 P)) e))) (n (o108 P) (n (o172 P) (n (o300 P) (lf (o556 P)) (lf (o812 P))) (n (o428 P) (lf (o684 P)) e)) (n (o236 P) (n (o364 P) (lf (o620 P)) (lf (o876 P))) (n (o492 P) (lf (o748 P)) e)))) (n (o60 P) (n (o92 P) (n (o156 P) (n (o284 P) (lf (o540 P)) (lf (o796 P))) (n (o412 P) (lf (o668 P)) e)) (n (o220 P) (n (o348 P) (lf (o604 P)) (lf (o860 P))) (n (o476 P) (lf (o732 P)) e))) (n (o124 P) (n (o188 P) (n (o316 P) (lf (o572 P)) (lf (o828 P))) (n (o444 P) (lf (o700 P)) e)) (n (o252 P) (n (o380 P) (lf (o636 P)) (lf (o892 P))) (n (o508 P) (lf (o764 P)) e))))))) (n (o6 P) (n (o10 P) (n (o18 P) (n (o34 P) (n (o66 P) (n (o130 P) (n (o258 P) (lf (o514 P)) (lf (o770 P))) (n (o386 P) (lf (o642 P)) (lf (o898 P)))) (n (o194 P) (n (o322 P) (lf (o578 P)) (lf (o834 P))) (n (o450 P) (lf (o706 P)) e))) (n (o98 P) (n (o162 P) (n (o290 P) (lf (o546 P)) (lf (o802 P))) (n (o418 P) (lf (o674 P)) e)) (n (o226 P) (n (o354 P) (lf (o610 P)) (lf (o866 P))) (n (o482 P) (lf (o738 P)) e)))) (n (o50 P) (n (o82 P) (n (o146 P) (n (o274 P) (lf (o530 P)) (lf (o786 P))) (n (o402 P) (lf (o658 P)) (lf (o914 P)))) (n (o210 P) (n (o338 P) (lf (o594 P)) (lf (o850 P))) (n (o466 P) (lf (o722 P)) e))) (n (o114 P) (n (o178 P) (n (o306 P) (lf (o562 P)) (lf (o818 P))) (n (o434 P) (lf (o690 P)) e)) (n (o242 P) (n (o370 P) (lf (o626 P)) (lf (o882 P))) (n (o498 P) (lf (o754 P)) e))))) (n (o26 P) (n (o42 P) (n (o74 P) (n (o138 P) (n (o266 P) (lf (o522 P)) (lf (o778 P))) (n (o394 P) (lf (o650 P)) (lf (o906 P)))) (n (o202 P) (n (o330 P) (lf (o586 P)) (lf (o842 P))) (n (o458 P) (lf (o714 P)) e))) (n (o106 P) (n (o170 P) (n (o298 P) (lf (o554 P)) (lf (o810 P))) (n (o426 P) (lf (o682 P)) e)) (n (o234 P) (n (o362 P) (lf (o618 P)) (lf (o874 P))) (n (o490 P) (lf (o746 P)) e)))) (n (o58 P) (n (o90 P) (n (o154 P) (n (o282 P) (lf (o538 P)) (lf (o794 P))) (n (o410 P) (lf (o666 P)) e)) (n (o218 P) (n (o346 P) (lf (o602 P)) (lf (o858 P))) (n (o474 P) (lf (o730 P)) e))) (n (o122 P) (n (o186 P) (n (o314 P) (lf (o570 P)) (lf (o826 P))) (n (o442 P) (lf (o698 P)) e)) (n (o250 P) (n (o378 P) (lf (o634 P)) (lf (o890 P))) (n (o506 P) (lf (o762 P)) e)))))) (n (o14 P) (n (o22 P) (n (o38 P) (n (o70 P) (n (o134 P) (n (o262 P) (lf (o518 P)) (lf (o774 P))) (n (o390 P) (lf (o646 P)) (lf (o902 P)))) (n (o198 P) (n (o326 P) (lf (o582 P)) (lf (o838 P))) (n (o454 P) (lf (o710 P)) e))) (n (o102 P) (n (o166 P) (n (o294 P) (lf (o550 P)) (lf (o806 P))) (n (o422 P) (lf (o678 P)) e)) (n (o230 P) (n (o358 P) (lf (o614 P)) (lf (o870 P))) (n (o486 P) (lf (o742 P)) e)))) (n (o54 P) (n (o86 P) (n (o150 P) (n (o278 P) (lf (o534 P)) (lf (o790 P))) (n (o406 P) (lf (o662 P)) (lf (o918 P)))) (n (o214 P) (n (o342 P) (lf (o598 P)) (lf (o854 P))) (n (o470 P) (lf (o726 P)) e))) (n (o118 P) (n (o182 P) (n (o310 P) (lf (o566 P)) (lf (o822 P))) (n (o438 P) (lf (o694 P)) e)) (n (o246 P) (n (o374 P) (lf (o630 P)) (lf (o886 P))) (n (o502 P) (lf (o758 P)) e))))) (n (o30 P) (n (o46 P) (n (o78 P) (n (o142 P) (n (o270 P) (lf (o526 P)) (lf (o782 P))) (n (o398 P) (lf (o654 P)) (lf (o910 P)))) (n (o206 P) (n (o334 P) (lf (o590 P)) (lf (o846 P))) (n (o462 P) (lf (o718 P)) e))) (n (o110 P) (n (o174 P) (n (o302 P) (lf (o558 P)) (lf (o814 P))) (n (o430 P) (lf (o686 P)) e)) (n (o238 P) (n (o366 P) (lf (o622 P)) (lf (o878 P))) (n (o494 P) (lf (o750 P)) e)))) (n (o62 P) (n (o94 P) (n (o158 P) (n (o286 P) (lf (o542 P)) (lf (o798 P))) (n (o414 P) (lf (o670 P)) e)) (n (o222 P) (n (o350 P) (lf (o606 P)) (lf (o862 P))) (n (o478 P) (lf (o734 P)) e))) (n (o126 P) (n (o190 P) (n (o318 P) (lf (o574 P)) (lf (o830 P))) (n (o446 P) (lf (o702 P)) e)) (n (o254 P) (n (o382 P) (lf (o638 P)) (lf (o894 P))) (n (o510 P) (lf (o766 P)) e)))))))))
end
end
section
def envM : Env := { scope := pw.main.scope, locals := mainNs, globals := mainNs, cells := [], code := .ref 13, frame := some 14 }
def bodyE : List Stmt := behindTheImports pw
def cE : Code := .body bodyE envM
abbrev p0 : Pos := ⟨0, 0, 0, 0⟩
def B0 : List Frame := [topFrame p0]
abbrev annE : Option Value := some (.ref 6)
noncomputable def stT (T : Params → BT) (n t : Nat) (w : World) (os : OsState) : SharedT := ⟨T w.params, n, {}, #[], {}, t, os⟩
theorem seg_twin : @segRunT = @PySem.W.Fast.tw10110043849684766642 := PySem.W.Fast.te10110043849684766642
theorem tab_twin : treeTable = PySem.W.Fast.tw14364793385576792824 := PySem.W.Fast.te14364793385576792824
def sts1 : List Stmt := (bodyE.drop 0).take 24
theorem piece1 (w : World) (os : OsState) : segRunT treeTable pw w 11 annE 1 1624 (stT T0 15 187 w os) (piecesOf sts1 envM cE ⟨0, 0, 0, 0⟩ B0) = some (.next, stT T1 245 485 w os, cE, ⟨117, 0, 169, 82⟩) := by
 rw [seg_twin, tab_twin]
 kernel_rfl
def sts2 : List Stmt := (bodyE.drop 24).take 30
theorem piece2 (w : World) (os : OsState) : segRunT treeTable pw w 11 annE 1 786 (stT T1 245 485 w os) (piecesOf sts2 envM cE ⟨117, 0, 169, 82⟩ B0) = some (.next, stT T2 412 692 w os, cE, ⟨313, 0, 330, 36⟩) := by
 rw [seg_twin, tab_twin]
 kernel_rfl
def sts3 : List Stmt := (bodyE.drop 54).take 24
theorem piece3 (w : World) (os : OsState) : segRunT treeTable pw w 11 annE 1 660 (stT T2 412 692 w os) (piecesOf sts3 envM cE ⟨313, 0, 330, 36⟩ B0) = some (.next, stT T3 544 899 w os, cE, ⟨509, 0, 511, 29⟩) := by
 rw [seg_twin, tab_twin]
 kernel_rfl
def sts4 : List Stmt := (bodyE.drop 78).take 26
theorem piece4 (w : World) (os : OsState) : segRunT treeTable pw w 11 annE 1 734 (stT T3 544 899 w os) (piecesOf sts4 envM cE ⟨509, 0, 511, 29⟩ B0) = some (.next, stT T4 699 1107 w os, cE, ⟨677, 0, 686, 34⟩) := by
 rw [seg_twin, tab_twin]
 kernel_rfl
def sts5 : List Stmt := (bodyE.drop 104).take 36
theorem piece5 (w : World) (os : OsState) : segRunT treeTable pw w 11 annE 1 1052 (stT T4 699 1107 w os) (piecesOf sts5 envM cE ⟨677, 0, 686, 34⟩ B0) = some (.next, stT T5 921 1412 w os, cE, ⟨922, 0, 968, 73⟩) := by
 rw [seg_twin, tab_twin]
 kernel_rfl
end
section
theorem pre_twin : @topGo = @PySem.W.Fast.tw15667345088766844465 := PySem.W.Fast.te15667345088766844465
noncomputable def H0 : Params → Heap := boot_heap
noncomputable def s0 (w : World) (os : OsState) : Shared := ⟨boot_heap w.params, #[], boot_drawn, boot_toks, os⟩
theorem opened : opening pw = plainProg pw.main.scope.names := by kernel_rfl
theorem fenced (s : Shared) : fenceModules? pw s = some s := by kernel_rfl
theorem booted : ∀ w : World, (fencedOpening treeTable pw w 10000).map (fun s => (s.heap, s.gens, s.drawn, s.toks)) = some (boot_heap w.params, Array.mk [], boot_drawn, boot_toks) :=
 boot_open (p := pw) (N := 10000) opened (by decide) fenced
noncomputable def sA (w : World) (os : OsState) : Shared := ⟨⟨#[o0 w.params, o1 w.params, o2 w.params, o3 w.params, o4 w.params, o5 w.params, o6 w.params, o7 w.params, o8 w.params, o9 w.params, o10 w.params, o11 w.params, o12 w.params, o13 w.params, o14 w.params], {}⟩, #[], {}, 187, os⟩
theorem den_twin : @denote = @PySem.W.Fast.tw11892475500146522536 := PySem.W.Fast.te11892475500146522536
theorem preRun (w : World) (os : OsState) : topGo treeTable pw w 11 annE 12 (s0 w os) (topStub pw) = some (sA w os, ⟨denote treeTable cE, cE, p0, B0⟩) := by
 rw [pre_twin, den_twin, tab_twin]
 kernel_rfl
theorem blockRun (w : World) (os : OsState) : segRun treeTable pw w 11 annE 1 1 (sA w os) (blockOf bodyE envM cE p0 B0) = some (.next, (stT T0 15 187 w os).abs, cE, p0) := by
 rw [tab_twin]
 kernel_rfl
end
section
noncomputable def H1 (P : Params) : Heap := ⟨#[o0 P, o1 P, o2v1 P, o3v5 P, o4 P, o5 P, o6 P, o7 P, o8 P, o9 P, o10 P, o11 P, o12v5 P, o13 P, o14 P, o15 P, o16 P, o17 P, o18 P, o19 P, o20 P, o21 P, o22 P, o23 P, o24 P, o25 P, o26 P, o27 P, o28 P, o29 P, o30 P, o31 P, o32 P, o33 P, o34 P, o35 P, o36 P, o37 P, o38 P, o39 P, o40 P, o41 P, o42 P, o43 P, o44 P, o45 P, o46 P, o47 P, o48 P, o49 P, o50 P, o51 P, o52 P, o53 P, o54 P, o55 P, o56 P, o57 P, o58 P, o59 P, o60 P, o61 P, o62 P, o63 P, o64 P, o65 P, o66 P, o67 P, o68 P, o69 P, o70 P, o71 P, o72 P, o73 P, o74 P, o75 P, o76 P, o77 P, o78 P, o79 P, o80 P, o81 P, o82 P, o83 P, o84 P, o85 P, o86 P, o87 P, o88 P, o89 P, o90 P, o91 P, o92 P, o93 P, o94 P, o95 P, o96 P, o97 P, o98 P, o99 P, o100 P, o101 P, o102 P, o103 P, o104 P, o105 P, o106 P, o107 P, o108 P, o109 P, o110 P, o111 P, o112 P, o113 P, o114 P, o115 P, o116 P, o117 P, o118 P, o119 P, o120 P, o121 P, o122 P, o123 P, o124 P, o125 P, o126 P, o127 P, o128 P, o129 P, o130 P, o131 P, o132 P, o133 P, o134 P, o135 P, o136 P, o137 P, o138 P, o139 P, o140 P, o141 P, o142 P, o143 P, o144 P, o145 P, o146 P, o147 P, o148 P, o149 P, o150 P, o151 P, o152 P, o153 P, o154 P, o155 P, o156 P, o157 P, o158 P, o159 P, o160 P, o161 P, o162 P, o163 P, o164 P, o165 P, o166 P, o167 P, o168 P, o169 P, o170 P, o171 P, o172 P, o173 P, o174 P, o175 P, o176 P, o177 P, o178 P, o179 P, o180 P, o181 P, o182 P, o183 P, o184 P, o185 P, o186 P, o187 P, o188 P, o189 P, o190 P, o191 P, o192 P, o193 P, o194 P, o195 P, o196 P, o197 P, o198 P, o199 P, o200 P, o201 P, o202 P, o203 P, o204 P, o205 P, o206 P, o207 P, o208 P, o209 P, o210 P, o211 P, o212 P, o213 P, o214 P, o215 P, o216 P, o217 P, o218 P, o219 P, o220 P, o221 P, o222 P, o223 P, o224 P, o225 P, o226 P, o227 P, o228 P, o229 P, o230 P, o231 P, o232 P, o233 P, o234 P, o235 P, o236 P, o237 P, o238 P, o239 P, o240 P, o241 P, o242 P, o243 P, o244 P, o245 P, o246 P, o247 P, o248 P, o249 P, o250 P, o251 P, o252 P, o253 P, o254 P, o255 P, o256 P, o257 P, o258 P, o259 P, o260 P, o261 P, o262 P, o263 P, o264 P, o265 P, o266 P, o267 P, o268 P, o269 P, o270 P, o271 P, o272 P, o273 P, o274 P, o275 P, o276 P, o277 P, o278 P, o279 P, o280 P, o281 P, o282 P, o283 P, o284 P, o285 P, o286 P, o287 P, o288 P, o289 P, o290 P, o291 P, o292 P, o293 P, o294 P, o295 P, o296 P, o297 P, o298 P, o299 P, o300 P, o301 P, o302 P, o303 P, o304 P, o305 P, o306 P, o307 P, o308 P, o309 P, o310 P, o311 P, o312 P, o313 P, o314 P, o315 P, o316 P, o317 P, o318 P, o319 P, o320 P, o321 P, o322 P, o323 P, o324 P, o325 P, o326 P, o327 P, o328 P, o329 P, o330 P, o331 P, o332 P, o333 P, o334 P, o335 P, o336 P, o337 P, o338 P, o339 P, o340 P, o341 P, o342 P, o343 P, o344 P, o345 P, o346 P, o347 P, o348 P, o349 P, o350 P, o351 P, o352 P, o353 P, o354 P, o355 P, o356 P, o357 P, o358 P, o359 P, o360 P, o361 P, o362 P, o363 P, o364 P, o365 P, o366 P, o367 P, o368 P, o369 P, o370 P, o371 P, o372 P, o373 P, o374 P, o375 P, o376 P, o377 P, o378 P, o379 P, o380 P, o381 P, o382 P, o383 P, o384 P, o385 P, o386 P, o387 P, o388 P, o389 P, o390 P, o391 P, o392 P, o393 P, o394 P, o395 P, o396 P, o397 P, o398 P, o399 P, o400 P, o401 P, o402 P, o403 P, o404 P, o405 P, o406 P, o407 P, o408 P, o409 P, o410 P, o411 P, o412 P, o413 P, o414 P, o415 P, o416 P, o417 P, o418 P, o419 P, o420 P, o421 P, o422 P, o423 P, o424 P, o425 P, o426 P, o427 P, o428 P, o429 P, o430 P, o431 P, o432 P, o433 P, o434 P, o435 P, o436 P, o437 P, o438 P, o439 P, o440 P, o441 P, o442 P, o443 P, o444 P, o445 P, o446 P, o447 P, o448 P, o449 P, o450 P, o451 P, o452 P, o453 P, o454 P, o455 P, o456 P, o457 P, o458 P, o459 P, o460 P, o461 P, o462 P, o463 P, o464 P, o465 P, o466 P, o467 P, o468 P, o469 P, o470 P, o471 P, o472 P, o473 P, o474 P, o475 P, o476 P, o477 P, o478 P, o479 P, o480 P, o481 P, o482 P, o483 P, o484 P, o485 P, o486 P, o487 P, o488 P, o489 P, o490 P, o491 P, o492 P, o493 P, o494 P, o495 P, o496 P, o497 P, o498 P, o499 P, o500 P, o501 P, o502 P, o503 P, o504 P, o505 P, o506 P, o507 P, o508 P, o509 P, o510 P, o511 P, o512 P, o513 P, o514 P, o515 P, o516 P, o517 P, o518 P, o519 P, o520 P, o521 P, o522 P, o523 P, o524 P, o525 P, o526 P, o527 P, o528 P, o529 P, o530 P, o531 P, o532 P, o533 P, o534 P, o535 P, o536 P, o537 P, o538 P, o539 P, o540 P, o541 P, o542 P, o543 P, o544 P, o545 P, o546 P, o547 P, o548 P, o549 P, o550 P, o551 P, o552 P, o553 P, o554 P, o555 P, o556 P, o557 P, o558 P, o559 P, o560 P, o561 P, o562 P, o563 P, o564 P, o565 P, o566 P, o567 P, o568 P, o569 P, o570 P, o571 P, o572 P, o573 P, o574 P, o575 P, o576 P, o577 P, o578 P, o579 P, o580 P, o581 P, o582 P, o583 P, o584 P, o585 P, o586 P, o587 P, o588 P, o589 P, o590 P, o591 P, o592 P, o593 P, o594 P, o595 P, o596 P, o597 P, o598 P, o599 P, o600 P, o601 P, o602 P, o603 P, o604 P, o605 P, o606 P, o607 P, o608 P, o609 P, o610 P, o611 P, o612 P, o613 P, o614 P, o615 P, o616 P, o617 P, o618 P, o619 P, o620 P, o621 P, o622 P, o623 P, o624 P, o625 P, o626 P, o627 P, o628 P, o629 P, o630 P, o631 P, o632 P, o633 P, o634 P, o635 P, o636 P, o637 P, o638 P, o639 P, o640 P, o641 P, o642 P, o643 P, o644 P, o645 P, o646 P, o647 P, o648 P, o649 P, o650 P, o651 P, o652 P, o653 P, o654 P, o655 P, o656 P, o657 P, o658 P, o659 P, o660 P, o661 P, o662 P, o663 P, o664 P, o665 P, o666 P, o667 P, o668 P, o669 P, o670 P, o671 P, o672 P, o673 P, o674 P, o675 P, o676 P, o677 P, o678 P, o679 P, o680 P, o681 P, o682 P, o683 P, o684 P, o685 P, o686 P, o687 P, o688 P, o689 P, o690 P, o691 P, o692 P, o693 P, o694 P, o695 P, o696 P, o697 P, o698 P, o699 P, o700 P, o701 P, o702 P, o703 P, o704 P, o705 P, o706 P, o707 P, o708 P, o709 P, o710 P, o711 P, o712 P, o713 P, o714 P, o715 P, o716 P, o717 P, o718 P, o719 P, o720 P, o721 P, o722 P, o723 P, o724 P, o725 P, o726 P, o727 P, o728 P, o729 P, o730 P, o731 P, o732 P, o733 P, o734 P, o735 P, o736 P, o737 P, o738 P, o739 P, o740 P, o741 P, o742 P, o743 P, o744 P, o745 P, o746 P, o747 P, o748 P, o749 P, o750 P, o751 P, o752 P, o753 P, o754 P, o755 P, o756 P, o757 P, o758 P, o759 P, o760 P, o761 P, o762 P, o763 P, o764 P, o765 P, o766 P, o767 P, o768 P, o769 P, o770 P, o771 P, o772 P, o773 P, o774 P, o775 P, o776 P, o777 P, o778 P, o779 P, o780 P, o781 P, o782 P, o783 P, o784 P, o785 P, o786 P, o787 P, o788 P, o789 P, o790 P, o791 P, o792 P, o793 P, o794 P, o795 P, o796 P, o797 P, o798 P, o799 P, o800 P, o801 P, o802 P, o803 P, o804 P, o805 P, o806 P, o807 P, o808 P, o809 P, o810 P, o811 P, o812 P, o813 P, o814 P, o815 P, o816 P, o817 P, o818 P, o819 P, o820 P, o821 P, o822 P, o823 P, o824 P, o825 P, o826 P, o827 P, o828 P, o829 P, o830 P, o831 P, o832 P, o833 P, o834 P, o835 P, o836 P, o837 P, o838 P, o839 P, o840 P, o841 P, o842 P, o843 P, o844 P, o845 P, o846 P, o847 P, o848 P, o849 P, o850 P, o851 P, o852 P, o853 P, o854 P, o855 P, o856 P, o857 P, o858 P, o859 P, o860 P, o861 P, o862 P, o863 P, o864 P, o865 P, o866 P, o867 P, o868 P, o869 P, o870 P, o871 P, o872 P, o873 P, o874 P, o875 P, o876 P, o877 P, o878 P, o879 P, o880 P, o881 P, o882 P, o883 P, o884 P, o885 P, o886 P, o887 P, o888 P, o889 P, o890 P, o891 P, o892 P, o893 P, o894 P, o895 P, o896 P, o897 P, o898 P, o899 P, o900 P, o901 P, o902 P, o903 P, o904 P, o905 P, o906 P, o907 P, o908 P, o909 P, o910 P, o911 P, o912 P, o913 P, o914 P, o915 P, o916 P, o917 P, o918 P, o919 P, o920 P], {}⟩
theorem finRun (w : World) (os : OsState) : topRun treeTable pw w 11 annE 2 (stT T5 921 1412 w os).abs ⟨doneF .next, cE, ⟨922, 0, 968, 73⟩, B0⟩ = some ⟨H1 w.params, #[], {}, 1412, os⟩ := by
 rw [tab_twin]
 kernel_rfl
theorem body_parts : bodyE = sts1 ++ (sts2 ++ (sts3 ++ (sts4 ++ (sts5 ++ [])))) := by kernel_rfl
theorem topRan (w : World) (os : OsState) : topRun treeTable pw w 11 annE (12 + (1 + (1624 + (786 + (660 + (734 + (1052 + 2))))))) (s0 w os) (topStub pw) = some ⟨H1 w.params, #[], {}, 1412, os⟩ := by
 refine go_top (preRun w os) ?_
 refine piece_block (env := envM) (q := p0) (blockRun w os) ?_
 rw [body_parts]
 refine piece_app (segRun_of (piece1 w os)) ?_
 refine piece_app (segRun_of (piece2 w os)) ?_
 refine piece_app (segRun_of (piece3 w os)) ?_
 refine piece_app (segRun_of (piece4 w os)) ?_
 refine piece_app (segRun_of (piece5 w os)) ?_
 exact piece_nil (finRun w os)
end
section
def qv : Program := view pw [139]
def looseN : List Str := (pw.main.scope.names.map (·.1)).filter (fun n => !(n == Str.ofString "law"))
noncomputable def Yv (w : World) : Heap := H1 w.params
theorem seen_twin : @openSeen = @PySem.W.Fast.tw4187177175401517315 := PySem.W.Fast.te4187177175401517315
theorem look1 (w : World) (os : OsState) : staticsOk (importedModules pw.main.body) (boot_heap w.params) (H1 w.params) = true := by kernel_rfl
theorem look2 (w : World) (os : OsState) : namesBound pw (H1 w.params) = true := by kernel_rfl
theorem look3 (w : World) (os : OsState) : gensDone ⟨H1 w.params, #[], {}, 1412, os⟩ = true := by kernel_rfl
theorem look4 (w : World) (os : OsState) : laidKept (boot_heap w.params) (H1 w.params) = true := by kernel_rfl
theorem look5 (w : World) (os : OsState) : openSeen qv looseN (importedModules pw.main.body) (fun zz => true) true ⟨H1 w.params, #[], {}, 1412, os⟩ = openGood qv looseN := by
 rw [seen_twin]
 kernel_rfl
end
section
theorem left : LeftO pw qv looseN (fun zz => true) Shared.heap Yv 10000 :=
 LeftO.of_pieces (H₀ := boot_heap) (H₁ := H1) (gs₀ := Array.mk []) (gs₁ := #[]) (d₀ := boot_drawn) (d₁ := {}) (k₀ := boot_toks) (k₁ := 1412) (m₀ := 11) (ann := annE) (M := 12 + (1 + (1624 + (786 + (660 + (734 + (1052 + 2))))))) booted
  (fun w => by kernel_rfl) (fun w os => topRan w os) (by decide)
  (fun w => funext fun os => by
   rw [look1 w os, look2 w os, look3 w os, look4 w os, look5 w os]
   rfl)
theorem law_twin : OpenLaw.wellSaid = PySem.W.Fast.tw9446332074065402090 := PySem.W.Fast.te9446332074065402090
theorem law_ok : rwL.wellSaid = true := by
 rw [law_twin]
 kernel_rfl
end
section
def dLaw : DefRec := ⟨Str.ofString "law", (fd 139).1, (fd 139).2.1, (fd 139).2.2, ⟨922, 0, 968, 73⟩⟩
theorem hdef : defOf qv rwL.row.name = some (dLaw, []) := by kernel_rfl
theorem hpdef : rwL.row.prog.theDef rwL.row.name = some (dLaw.params, dLaw.body, dLaw.scope) := by kernel_rfl
theorem hkw : kwWritten? dLaw.params.kwonlyargs dLaw.params.kw_defaults = some [] := by kernel_rfl
theorem hok : (chainsOk qv && opensWell rwL.row.prog && (frees rwL.row.toRowW && rwL.row.within.isEmpty)) = true := by kernel_rfl
abbrev YP (w : World) (h : Heap) : Prop := ∀ b o, (H1 w.params).get? b = some o → h.get? b = some o
theorem head (call : WalkO qv looseN (fun zz zz => True) YP rwL.row.toRowW dLaw [] fun f vs => PySem.call f vs) : rwL.Holds :=
 holds_law law_ok fun said =>
  holds_open (q := qv) (loose := looseN) (Xt := fun zz => true) (XP := fun zz zz => True) (Yf := Shared.heap) (Ya := Yv) (YP := YP) (d := dLaw) (kwd := []) (N := 10000) left
   (fun w s e b o h => by rw [e]; exact h) (fun w h h' y k b o q => k b o (y b o q)) (fun zz zz => trivial) (fun zz zz zz zz zz => trivial) hdef hpdef hkw (fun zz zz => recFacts_nil rfl) rfl said hok ⟨rfl, rfl, rfl, rfl, rfl, by decide +kernel⟩
   (by w_witness2) call
end
section
def sq (a : Array Lean.Syntax) : Lean.Syntax := .node .none `Lean.Parser.Tactic.tacticSeq #[.node .none `Lean.Parser.Tactic.tacticSeq1Indented #[.node .none `null a]]
def tR : Lean.Syntax := .node .none `Lean.Parser.Tactic.tacticRfl #[Lean.mkAtom "rfl"]
def aRfl : Lean.Syntax := sq #[tR]
def aInt : Lean.Syntax := sq #[.node .none `Lean.Parser.Tactic.intros #[Lean.mkAtom "intros", .node .none `null #[]], Lean.mkAtom ";", tR]
def aLe : Lean.Syntax := sq #[.node .none `Lean.Parser.Tactic.exact #[Lean.mkAtom "exact", .node .none `Lean.Parser.Term.app #[Lean.mkIdent `Nat.le_of_ble_eq_true, .node .none `null #[Lean.mkIdent `rfl]]]]
inductive V where
 | none
 | bool (b : Bool)
 | int (i : Int)
 | str (s : Str)
 | tup (l : List V)
 | lst (l : List V)
 | dic (ks : List Str) (vs : List V)
 | ins (C : Addr) (ks : List Str) (vs : List V)
 | rng (a b s : Int)
 | ref (a : Addr)
 | val (v : Value)
inductive O where
 | list (l : List V)
 | dict (ks : List Str) (vs : List V)
 | inst (C d : Addr)
noncomputable abbrev Prt := Addr → Obj → Prop
noncomputable abbrev Sto := Addr → Option O
noncomputable abbrev Loc := Nat → Option V
noncomputable def KeysOf (W : Params) : List Str → List DictEntry → Prop
 | [], [] => True
 | k :: r, e :: s => (∃ t, e.key = .str k t) ∧ e.hash = PyData.keyHash W k ∧ KeysOf W r s
 | [], _ :: _ => False
 | _ :: _, [] => False
theorem KeysOf.length {W : Params} : ∀ {l : List Str} {xs : List DictEntry}, KeysOf W l xs → xs.length = l.length
 | [], [], _ => rfl
 | _ :: _, _ :: _, ⟨_, _, b⟩ => by simp [KeysOf.length b]
 | [], _ :: _, e => e.elim
 | _ :: _, [], e => e.elim
mutual
noncomputable def VR (W : Params) (P : Prt) : V → Value → Prop
 | .none, v => v = Value.none
 | .bool b, v => v = Value.bool b
 | .int i, v => ∃ t, v = Value.int i t
 | .str s, v => ∃ t, v = Value.str s t
 | .tup l, v => ∃ a vs n, v = Value.ref a ∧ P a { cls := .type "tuple", data := .seq vs n } ∧ VRs W P l vs.toList
 | .lst l, v => ∃ a vs n, v = Value.ref a ∧ P a { cls := .type "list", data := .seq vs n } ∧ VRs W P l vs.toList
 | .dic ks vs, v => ∃ a es n, v = Value.ref a ∧ P a (dictOf es n) ∧ (KeysOf W ks es ∧ a ≠ sysModules) ∧ VRs W P vs (es.map (·.val))
 | .ins C ks vs, v => ∃ a d es n, v = Value.ref a ∧ P a (instObj C d) ∧ P d (dictOf es n) ∧ KeysOf W ks es ∧ VRs W P vs (es.map (·.val))
 | .rng x y z, v => ∃ a t u w, v = Value.ref a ∧ P a { cls := .type "range", dict := none, data := .fields #[.int x t, .int y u, .int z w], slots := #[] }
 | .ref a, v => v = Value.ref a
 | .val x, v => v = x
noncomputable def VRs (W : Params) (P : Prt) : List V → List Value → Prop
 | [], [] => True
 | v :: r, x :: s => VR W P v x ∧ VRs W P r s
 | [], _ :: _ => False
 | _ :: _, [] => False
end
noncomputable def PLe (P P' : Prt) : Prop := ∀ a o, P a o → P' a o
theorem PLe.refl (P : Prt) : PLe P P := fun zz zz h => h
theorem PLe.trans {P P' P'' : Prt} (h : PLe P P') (h' : PLe P' P'') : PLe P P'' := fun a o x => h' a o (h a o x)
mutual
theorem VR.mono {W : Params} {P P' : Prt} (h : PLe P P') : ∀ {v : V} {x : Value}, VR W P v x → VR W P' v x
 | .none, _, e => e
 | .bool _, _, e => e
 | .int _, _, e => e
 | .str _, _, e => e
 | .tup l, _, q => by obtain ⟨a, vs, n, e, p, r⟩ := q; exact ⟨a, vs, n, e, h a _ p, VRs.mono h r⟩
 | .lst l, _, q => by obtain ⟨a, vs, n, e, p, r⟩ := q; exact ⟨a, vs, n, e, h a _ p, VRs.mono h r⟩
 | .dic _ _, _, q => by obtain ⟨a, es, n, e, p, k, r⟩ := q; exact ⟨a, es, n, e, h a _ p, k, VRs.mono h r⟩
 | .ins _ _ _, _, q => by obtain ⟨a, d, es, n, e, p, p', k, r⟩ := q; exact ⟨a, d, es, n, e, h a _ p, h d _ p', k, VRs.mono h r⟩
 | .rng _ _ _, _, q => by obtain ⟨a, t, u, w, e, p⟩ := q; exact ⟨a, t, u, w, e, h a _ p⟩
 | .ref _, _, e => e
 | .val _, _, e => e
theorem VRs.mono {W : Params} {P P' : Prt} (h : PLe P P') : ∀ {l : List V} {xs : List Value}, VRs W P l xs → VRs W P' l xs
 | [], [], _ => trivial
 | _ :: _, _ :: _, ⟨a, b⟩ => ⟨VR.mono h a, VRs.mono h b⟩
 | [], _ :: _, e => e.elim
 | _ :: _, [], e => e.elim
end
theorem VRs.length {W : Params} {P : Prt} : ∀ {l : List V} {xs : List Value}, VRs W P l xs → xs.length = l.length
 | [], [], _ => rfl
 | _ :: _, _ :: _, ⟨_, b⟩ => by simp [VRs.length b]
 | [], _ :: _, e => e.elim
 | _ :: _, [], e => e.elim
theorem VRs.get {W : Params} {P : Prt} : ∀ {l : List V} {xs : List Value} {i : Nat} {v : V}, VRs W P l xs → l[i]? = some v → ∃ x, xs[i]? = some x ∧ VR W P v x
 | _ :: _, x :: _, 0, _, ⟨a, _⟩, e => by cases e; exact ⟨x, rfl, a⟩
 | _ :: r, _ :: s, i + 1, _, ⟨_, b⟩, e => by
  obtain ⟨x, h1, h2⟩ := VRs.get (i := i) b e
  exact ⟨x, h1, h2⟩
 | [], [], _, _, _, e => by simp at e
 | [], _ :: _, _, _, e, _ => e.elim
 | _ :: _, [], _, _, e, _ => e.elim
theorem VRs.one {W : Params} {P : Prt} {v : V} {xs : List Value} (r : VRs W P [v] xs) : ∃ x, xs = [x] ∧ VR W P v x := by
 cases xs with
 | nil => exact r.elim
 | cons x xs =>
  obtain ⟨h, t⟩ := r
  cases xs with
  | nil => exact ⟨x, rfl, h⟩
  | cons _ _ => exact t.elim
theorem VRs.two {W : Params} {P : Prt} {v w : V} {xs : List Value} (r : VRs W P [v, w] xs) : ∃ x y, xs = [x, y] ∧ VR W P v x ∧ VR W P w y := by
 cases xs with
 | nil => exact r.elim
 | cons x xs =>
  obtain ⟨h, t⟩ := r
  obtain ⟨y, rfl, h'⟩ := VRs.one t
  exact ⟨x, y, rfl, h, h'⟩
theorem VRs.append {W : Params} {P : Prt} : ∀ {l : List V} {xs : List Value} {l' : List V} {xs' : List Value}, VRs W P l xs → VRs W P l' xs' → VRs W P (l ++ l') (xs ++ xs')
 | [], [], _, _, _, h => h
 | _ :: _, _ :: _, _, _, ⟨a, b⟩, h => ⟨a, VRs.append b h⟩
 | [], _ :: _, _, _, e, _ => e.elim
 | _ :: _, [], _, _, e, _ => e.elim
theorem VRs.take {W : Params} {P : Prt} : ∀ (n : Nat) {l : List V} {xs : List Value}, VRs W P l xs → VRs W P (l.take n) (xs.take n)
 | 0, _, _, _ => by simp [VRs]
 | n + 1, [], [], _ => trivial
 | n + 1, _ :: _, _ :: _, ⟨a, b⟩ => ⟨a, VRs.take n b⟩
 | _ + 1, [], _ :: _, e => e.elim
 | _ + 1, _ :: _, [], e => e.elim
theorem VRs.drop {W : Params} {P : Prt} : ∀ (n : Nat) {l : List V} {xs : List Value}, VRs W P l xs → VRs W P (l.drop n) (xs.drop n)
 | 0, _, _, h => h
 | n + 1, [], [], _ => trivial
 | n + 1, _ :: _, _ :: _, ⟨_, b⟩ => VRs.drop n b
 | _ + 1, [], _ :: _, e => e.elim
 | _ + 1, _ :: _, [], e => e.elim
theorem VRs.reverse {W : Params} {P : Prt} : ∀ {l : List V} {xs : List Value}, VRs W P l xs → VRs W P l.reverse xs.reverse
 | [], [], _ => trivial
 | _ :: _, _ :: _, ⟨a, b⟩ => by
  rw [List.reverse_cons, List.reverse_cons]
  exact VRs.append (VRs.reverse b) ⟨a, trivial⟩
 | [], _ :: _, e => e.elim
 | _ :: _, [], e => e.elim
set_option genInjectivity false in
structure Cx where
 w : World
 g : Heap
 tabA : Addr
 tabL : Int
 tabC : Int
 tabQ : Str
 gens : Array GenState
 os : OsState
 mg : Str → Option Value
 mb : Str → Option Value
 K : Frag
 hK : K.In g
 hg : g.Ns mainGlobals mg
 hb : g.Ns builtinsNs mb
 hlim : g.NoLimit
 htab : g.get? tabA = none
noncomputable def OR (W : Params) (P : Prt) : O → Obj → Prop
 | .list l, o => ∃ vs n, o = { cls := .type "list", data := .seq vs n } ∧ VRs W P l vs.toList
 | .dict ks vs, o => ∃ es n, o = dictOf es n ∧ KeysOf W ks es ∧ VRs W P vs (es.map (·.val))
 | .inst C d, o => o = instObj C d
theorem OR.mono {W : Params} {P P' : Prt} (h : PLe P P') : ∀ {x : O} {o : Obj}, OR W P x o → OR W P' x o
 | .list _, _, ⟨vs, n, e, r⟩ => ⟨vs, n, e, r.mono h⟩
 | .dict _ _, _, ⟨es, n, e, k, r⟩ => ⟨es, n, e, k, r.mono h⟩
 | .inst _ _, _, e => e
noncomputable def TabOk (c : Cx) (P : Prt) (ps : Array Value) : Prop := ps = #[] ∨ ∃ cv oc vs t, ps = #[rawInt c.tabL, rawInt c.tabC, .ref cv] ∧ P cv oc ∧ oc.data = .fields vs ∧ vs[1]? = some (.str c.tabQ t)
theorem TabOk.mono {c : Cx} {P P' : Prt} (le : PLe P P') {ps : Array Value} : TabOk c P ps → TabOk c P' ps
 | .inl e => .inl e
 | .inr ⟨cv, oc, vs, t, e, p, r⟩ => .inr ⟨cv, oc, vs, t, e, le _ _ p, r⟩
noncomputable def Obj.still (o : Obj) (x : Option Obj) : Prop := ∃ sl, x = some { o with slots := sl } ∧ ((∃ vs, o.data = .fields vs) ∨ (∃ vs n, o.data = .seq vs n) → sl = o.slots)
theorem Obj.still.rfl {o : Obj} {x : Option Obj} (h : x = some o) : Obj.still o x := ⟨o.slots, h, fun zz => Eq.refl _⟩
theorem Obj.still.fields {o : Obj} {x : Option Obj} {vs : Array Value} (h : Obj.still o x) (hd : o.data = .fields vs) : x = some o := by
 obtain ⟨sl, e, k⟩ := h
 have := k (.inl ⟨vs, hd⟩)
 subst this
 exact e
theorem Obj.still.seq {o : Obj} {x : Option Obj} {vs : Array Value} {n : Nat} (h : Obj.still o x) (hd : o.data = .seq vs n) : x = some o := by
 obtain ⟨sl, e, k⟩ := h
 have := k (.inr ⟨vs, n, hd⟩)
 subst this
 exact e
structure RepC (c : Cx) (F P : Prt) (σ : Sto) (s : Shared) : Prop where
 sub : ∀ a o, P a o → s.heap.get? a = some o
 subF : ∀ a o, F a o → Obj.still o (s.heap.get? a)
 base : ∀ a o, c.g.get? a = some o → P a o
 off : ∀ a x, σ a = some x → ∀ o, ¬ P a o
 offF : ∀ a o, F a o → σ a = none ∧ (∀ o', ¬ P a o') ∧ a ≠ c.tabA
 obj : ∀ a x, σ a = some x → ∃ o, s.heap.get? a = some o ∧ OR c.w.params P x o
 tab : ∃ ps, s.heap.get? c.tabA = some (tabObj ps) ∧ TabOk c P ps
 tabσ : σ c.tabA = none
 tabP : ∀ o, ¬ P c.tabA o
 gens : s.gens = c.gens
 os : s.os = c.os
structure LocAt (env : Env) (i : Nat) (x : Str) (k : NameKind) : Prop where
 a : env.kindOf x = some k ∧ (x == ("__debug__" : Str)) = false
 b : env.scope.names[i]? = some (x, k) ∧ ∀ j k', env.scope.names[j]? = some (x, k') → j = i
noncomputable def CellAt (env : Env) (i : Nat) (x : Str) : Prop := LocAt env i x .cell ∨ LocAt env i x .free
theorem CellAt.apart {env : Env} {i j : Nat} {x z : Str} (hx : LocAt env i x .local) (hz : CellAt env j z) : j ≠ i := by
 rintro rfl
 rcases hz with hz | hz <;> (have := hz.2.1.symm.trans hx.2.1; cases this)
theorem CellAt.same {env : Env} {i : Nat} {x z : Str} (hx : CellAt env i x) (hz : CellAt env i z) : z = x := by
 rcases hz with hz | hz <;> rcases hx with hx | hx <;> (have := hz.2.1.symm.trans hx.2.1; cases this) <;> rfl
noncomputable def Slot (W : Params) (P : Prt) : Option V → Option Value → Prop
 | some v, some x => VR W P v x
 | none, none => True
 | _, _ => False
theorem Slot.mono {W : Params} {P P' : Prt} (h : PLe P P') : ∀ {v : Option V} {x : Option Value}, Slot W P v x → Slot W P' v x
 | some _, some _, r => VR.mono h r
 | none, none, _ => trivial
 | some _, none, e => e.elim
 | none, some _, e => e.elim
structure RepL (c : Cx) (env : Env) (own : Bool) (F P : Prt) (ρ : Loc) (σ : Sto) (s : Shared) : Prop where
 ns : ∃ m, s.heap.Ns env.locals m ∧ ∀ i x, LocAt env i x .local → Slot c.w.params P (ρ i) (m x)
 offP : ∀ o, ¬ P env.locals o
 offF : ∀ o, ¬ F env.locals o
 offσ : σ env.locals = none
 offT : env.locals ≠ c.tabA
 cell : ∀ i x, CellAt env i x → ∃ a v, env.cells.lookup x = some a ∧ s.heap.IsCell a v ∧ Slot c.w.params P (ρ i) v
 cown : own = true → ∀ i x, CellAt env i x → ∀ a, env.cells.lookup x = some a → (∀ o, ¬ P a o) ∧ (∀ o, ¬ F a o) ∧ σ a = none ∧ a ≠ env.locals ∧ a ≠ c.tabA ∧
  ∀ j y, CellAt env j y → env.cells.lookup y = some a → j = i
 ckept : own = false → ∀ i x, CellAt env i x → ∀ a, env.cells.lookup x = some a → ∃ o, F a o
structure Rep (c : Cx) (env : Env) (own : Bool) (F P : Prt) (ρ : Loc) (σ : Sto) (s : Shared) : Prop where
 toC : RepC c F P σ s
 toL : RepL c env own F P ρ σ s
variable {c : Cx} {env : Env} {own : Bool} {F P : Prt} {ρ : Loc} {σ : Sto} {s : Shared}
noncomputable def upd (σ : Sto) (a : Addr) (x : O) : Sto := fun b => if b = a then some x else σ b
noncomputable def upl (ρ : Loc) (i : Nat) (v : V) : Loc := fun j => if j = i then some v else ρ j
theorem upd_self (σ : Sto) (a : Addr) (x : O) : upd σ a x a = some x := if_pos rfl
theorem upd_ne {σ : Sto} {a b : Addr} {x : O} (h : b ≠ a) : upd σ a x b = σ b := if_neg h
noncomputable def addP (P : Prt) (a : Addr) (o : Obj) : Prt := fun b x => P b x ∨ (b = a ∧ x = o)
theorem addP_le (P : Prt) (a : Addr) (o : Obj) : PLe P (addP P a o) := fun zz zz h => .inl h
theorem addP_self (P : Prt) (a : Addr) (o : Obj) : addP P a o a o := .inr ⟨rfl, rfl⟩
noncomputable def SLe (σ' σ : Sto) : Prop := ∀ a x, σ' a = some x → σ a = some x
theorem SLe.refl (σ : Sto) : SLe σ σ := fun zz zz h => h
theorem SLe.trans {σ σ' σ'' : Sto} (h : SLe σ σ') (h' : SLe σ' σ'') : SLe σ σ'' := fun a x e => h' a x (h a x e)
theorem SLe.upd {σ : Sto} {a : Addr} {x : O} (h : σ a = none) : SLe σ (upd σ a x) := fun b y e => by
 by_cases hb : b = a
 ·subst hb; rw [h] at e; cases e
 ·rw [upd_ne hb]; exact e
theorem RepC.new (R : RepC c F P σ s) {a : Addr} (h : s.heap.objs.size ≤ a) : σ a = none ∧ (∀ o, ¬ P a o) ∧ (∀ o, ¬ F a o) ∧ a ≠ c.tabA := by
 refine ⟨?_, fun o p => ?_, fun o p => ?_, fun e => ?_⟩
 ·cases q : σ a with
  | none => rfl
  | some x => obtain ⟨o, ho, _⟩ := R.obj a x q; exact absurd (Heap.lt_size ho) (Nat.not_lt.mpr h)
 ·exact absurd (Heap.lt_size (R.sub a o p)) (Nat.not_lt.mpr h)
 ·obtain ⟨sl, e, _⟩ := R.subF a o p; exact absurd (Heap.lt_size e) (Nat.not_lt.mpr h)
 ·obtain ⟨m, hm, _⟩ := R.tab; exact absurd (Heap.lt_size hm) (Nat.not_lt.mpr (e ▸ h))
theorem RepC.grow (R : RepC c F P σ s) {h' : Heap} {t : Nat} (k : ∀ a o, s.heap.get? a = some o → h'.get? a = some o) : RepC c F P σ { s with heap := h', toks := t } :=
 ⟨fun a o p => k a o (R.sub a o p), fun a o p => let ⟨sl, e, z⟩ := R.subF a o p; ⟨sl, k _ _ e, z⟩, R.base, R.off, R.offF, fun a x e => let ⟨o, h1, h2⟩ := R.obj a x e; ⟨o, k a o h1, h2⟩, let ⟨m, h, z⟩ := R.tab; ⟨m, k _ _ h, z⟩, R.tabσ, R.tabP, R.gens, R.os⟩
theorem RepC.weak (R : RepC c F P σ s) {σ' : Sto} (h : SLe σ' σ) : RepC c F P σ' s := by
 have n : ∀ a, σ a = none → σ' a = none := fun a e => by
  cases q : σ' a with
  | none => rfl
  | some x => rw [h a x q] at e; cases e
 exact ⟨R.sub, R.subF, R.base, fun a x e => R.off a x (h a x e), fun a o p => let ⟨k1, k2⟩ := R.offF a o p; ⟨n a k1, k2⟩, fun a x e => R.obj a x (h a x e), R.tab, n _ R.tabσ, R.tabP, R.gens, R.os⟩
theorem RepC.weakF (R : RepC c F P σ s) {F' : Prt} (h : PLe F' F) : RepC c F' P σ s :=
 ⟨R.sub, fun a o p => R.subF a o (h a o p), R.base, R.off, fun a o p => R.offF a o (h a o p), R.obj, R.tab, R.tabσ, R.tabP, R.gens, R.os⟩
theorem RepC.keepP (R : RepC c F P σ s) {a : Addr} {o : Obj} (h : s.heap.get? a = some o) (hσ : σ a = none) (hF : ∀ o, ¬ F a o) (ht : a ≠ c.tabA) : RepC c F (addP P a o) σ s := by
 refine ⟨?_, R.subF, fun b x e => .inl (R.base b x e), ?_, ?_, ?_, R.tab.imp fun zz h => ⟨h.1, h.2.mono (addP_le P a o)⟩, R.tabσ, ?_, R.gens, R.os⟩
 ·rintro b x (p | ⟨rfl, rfl⟩)
  ·exact R.sub b x p
  ·exact h
 ·rintro b x e y (p | ⟨rfl, rfl⟩)
  ·exact R.off b x e y p
  ·rw [hσ] at e; cases e
 ·intro b x p
  obtain ⟨k1, k2, k3⟩ := R.offF b x p
  refine ⟨k1, ?_, k3⟩
  rintro y (q | ⟨rfl, _⟩)
  ·exact k2 y q
  ·exact hF x p
 ·intro b x e
  obtain ⟨y, h1, h2⟩ := R.obj b x e
  exact ⟨y, h1, h2.mono (addP_le P a o)⟩
 ·rintro y (p | ⟨rfl, rfl⟩)
  ·exact R.tabP y p
  ·exact ht rfl
theorem RepC.keepF (R : RepC c F P σ s) {a : Addr} {o : Obj} (h : Obj.still o (s.heap.get? a)) (hσ : σ a = none) (hP : ∀ o, ¬ P a o) (ht : a ≠ c.tabA) : RepC c (addP F a o) P σ s := by
 refine ⟨R.sub, ?_, R.base, R.off, ?_, R.obj, R.tab, R.tabσ, R.tabP, R.gens, R.os⟩
 ·rintro b x (p | ⟨rfl, rfl⟩)
  ·exact R.subF b x p
  ·exact h
 ·rintro b x (p | ⟨rfl, rfl⟩)
  ·exact R.offF b x p
  ·exact ⟨hσ, hP, ht⟩
theorem RepC.keepσ (R : RepC c F P σ s) {a : Addr} {o : Obj} {x : O} (h : s.heap.get? a = some o) (hP : ∀ o, ¬ P a o) (hF : ∀ o, ¬ F a o) (ht : a ≠ c.tabA) (hx : OR c.w.params P x o) : RepC c F P (upd σ a x) s := by
 refine ⟨R.sub, R.subF, R.base, ?_, ?_, ?_, R.tab, ?_, R.tabP, R.gens, R.os⟩
 ·intro b y e
  by_cases hb : b = a
  ·subst hb; exact hP
  ·rw [upd_ne hb] at e; exact R.off b y e
 ·intro b y p
  obtain ⟨k1, k2, k3⟩ := R.offF b y p
  exact ⟨by rw [upd_ne (fun (e : b = a) => hF y (e ▸ p))]; exact k1, k2, k3⟩
 ·intro b y e
  by_cases hb : b = a
  ·subst hb; rw [upd_self] at e; cases e; exact ⟨o, h, hx⟩
  ·rw [upd_ne hb] at e; exact R.obj b y e
 ·rw [upd_ne (Ne.symm ht)]; exact R.tabσ
theorem RepC.turn (R : RepC c F P σ s) {a : Addr} {x : O} {h' : Heap} {o' : Obj} {t : Nat} (hs : Heap.SameBut a s.heap h') (ho : h'.get? a = some o') (hP : ∀ o, ¬ P a o) (hF : ∀ o, ¬ F a o) (ht : a ≠ c.tabA) (hx : OR c.w.params P x o') :
  RepC c F P (upd σ a x) { s with heap := h', toks := t } := by
 refine ⟨fun b o p => ?_, fun b o p => ?_, R.base, ?_, ?_, ?_, ?_, ?_, R.tabP, R.gens, R.os⟩
 ·have hb : b ≠ a := fun e => hP o (e ▸ p)
  exact (hs.2 b hb).trans (R.sub b o p)
 ·have hb : b ≠ a := fun e => hF o (e ▸ p)
  show Obj.still o (h'.get? b)
  rw [hs.2 b hb]; exact R.subF b o p
 ·intro b y e
  by_cases hb : b = a
  ·subst hb; exact hP
  ·rw [upd_ne hb] at e; exact R.off b y e
 ·intro b y p
  obtain ⟨k1, k2, k3⟩ := R.offF b y p
  exact ⟨by rw [upd_ne (fun (e : b = a) => hF y (e ▸ p))]; exact k1, k2, k3⟩
 ·intro b y e
  by_cases hb : b = a
  ·subst hb; rw [upd_self] at e; cases e; exact ⟨o', ho, hx⟩
  ·rw [upd_ne hb] at e
   obtain ⟨z, h1, h2⟩ := R.obj b y e
   exact ⟨z, (hs.2 b hb).trans h1, h2⟩
 ·obtain ⟨m, hm, z⟩ := R.tab
  exact ⟨m, (hs.2 _ (Ne.symm ht)).trans hm, z⟩
 ·rw [upd_ne (Ne.symm ht)]; exact R.tabσ
theorem RepC.outside (R : RepC c F P σ s) {a : Addr} {h' : Heap} {t : Nat} (hs : Heap.SameBut a s.heap h') (hP : ∀ o, ¬ P a o) (hF : ∀ o, ¬ F a o) (hσ : σ a = none) (ht : a ≠ c.tabA) : RepC c F P σ { s with heap := h', toks := t } := by
 refine ⟨fun b o p => ?_, fun b o p => ?_, R.base, R.off, R.offF, ?_, ?_, R.tabσ, R.tabP, R.gens, R.os⟩
 ·have hb : b ≠ a := fun e => hP o (e ▸ p)
  exact (hs.2 b hb).trans (R.sub b o p)
 ·have hb : b ≠ a := fun e => hF o (e ▸ p)
  show Obj.still o (h'.get? b)
  rw [hs.2 b hb]; exact R.subF b o p
 ·intro b y e
  have hb : b ≠ a := fun q => by rw [q, hσ] at e; cases e
  obtain ⟨z, h1, h2⟩ := R.obj b y e
  exact ⟨z, (hs.2 b hb).trans h1, h2⟩
 ·obtain ⟨m, hm, z⟩ := R.tab
  exact ⟨m, (hs.2 _ (Ne.symm ht)).trans hm, z⟩
theorem Ns_of {h h' : Heap} {a : Addr} {m : Str → Option Value} (x : h.Ns a m) (k : ∀ o, h.get? a = some o → Obj.still o (h'.get? a)) : h'.Ns a m := by
 obtain ⟨o, es, ep, ho, hd, r⟩ := x
 obtain ⟨sl, e, _⟩ := k o ho
 exact ⟨_, es, ep, e, hd, r⟩
theorem IsCell_of {h h' : Heap} {a : Addr} {v : Option Value} (x : h.IsCell a v) (k : ∀ o, h.get? a = some o → Obj.still o (h'.get? a)) : h'.IsCell a v := by
 obtain ⟨o, ho, hd⟩ := x
 obtain ⟨sl, e, _⟩ := k o ho
 exact ⟨_, e, hd⟩
theorem RepL.move (L : RepL c env own F P ρ σ s) {F' P' : Prt} {σ' : Sto} {s' : Shared} (le : PLe P P')
  (hL : ∀ o, s.heap.get? env.locals = some o → Obj.still o (s'.heap.get? env.locals)) (hC : ∀ i x a, CellAt env i x → env.cells.lookup x = some a → ∀ o, s.heap.get? a = some o → Obj.still o (s'.heap.get? a))
  (oP : ∀ o, ¬ P' env.locals o) (oF : ∀ o, ¬ F' env.locals o) (oσ : σ' env.locals = none)
  (oC : own = true → ∀ i x a, CellAt env i x → env.cells.lookup x = some a → (∀ o, ¬ P' a o) ∧ (∀ o, ¬ F' a o) ∧ σ' a = none)
  (oK : own = false → ∀ i x a, CellAt env i x → env.cells.lookup x = some a → ∀ o, F a o → F' a o) : RepL c env own F' P' ρ σ' s' := by
 refine ⟨?_, oP, oF, oσ, L.offT, ?_, ?_, ?_⟩
 ·obtain ⟨m, h1, h2⟩ := L.ns
  exact ⟨m, Ns_of h1 hL, fun i x hx => (h2 i x hx).mono le⟩
 ·intro i x hx
  obtain ⟨a, v, h1, h2, h3⟩ := L.cell i x hx
  exact ⟨a, v, h1, IsCell_of h2 (hC i x a hx h1), h3.mono le⟩
 ·intro ho i x hx a ha
  obtain ⟨_, _, _, h3, h4, h5⟩ := L.cown ho i x hx a ha
  obtain ⟨k1, k2, k3⟩ := oC ho i x a hx ha
  exact ⟨k1, k2, k3, h3, h4, h5⟩
 ·intro ho i x hx a ha
  obtain ⟨o, h⟩ := L.ckept ho i x hx a ha
  exact ⟨o, oK ho i x a hx ha o h⟩
theorem RepL.lt (L : RepL c env own F P ρ σ s) : env.locals < s.heap.objs.size := L.ns.elim fun zz h => h.1.lt
theorem RepL.cell_lt (L : RepL c env own F P ρ σ s) {i : Nat} {x : Str} {a : Addr} (hx : CellAt env i x) (ha : env.cells.lookup x = some a) : a < s.heap.objs.size := by
 obtain ⟨a', v, h1, h2, _⟩ := L.cell i x hx
 rw [ha] at h1; cases h1; exact h2.lt
theorem RepL.out (L : RepL c env own F P ρ σ s) : own = true → ∀ i x a, CellAt env i x → env.cells.lookup x = some a → (∀ o, ¬ P a o) ∧ (∀ o, ¬ F a o) ∧ σ a = none :=
 fun o i x a hx ha => ⟨(L.cown o i x hx a ha).1, (L.cown o i x hx a ha).2.1, (L.cown o i x hx a ha).2.2.1⟩
theorem Rep.grow (R : Rep c env own F P ρ σ s) {h' : Heap} {t : Nat} (k : ∀ a o, s.heap.get? a = some o → h'.get? a = some o) : Rep c env own F P ρ σ { s with heap := h', toks := t } :=
 ⟨R.toC.grow k, R.toL.move (PLe.refl P) (fun zz h => .rfl (k _ _ h)) (fun zz zz zz zz zz zz h => .rfl (k _ _ h)) R.toL.offP R.toL.offF R.toL.offσ R.toL.out fun zz zz zz zz zz zz zz h => h⟩
theorem Rep.toks (R : Rep c env own F P ρ σ s) (t : Nat) : Rep c env own F P ρ σ { s with toks := t } := R.grow (h' := s.heap) (t := t) fun zz zz h => h
theorem Rep.weak (R : Rep c env own F P ρ σ s) {σ' : Sto} (h : SLe σ' σ) : Rep c env own F P ρ σ' s := by
 have n : ∀ a, σ a = none → σ' a = none := fun a e => by
  cases q : σ' a with
  | none => rfl
  | some x => rw [h a x q] at e; cases e
 exact ⟨R.toC.weak h, R.toL.move (PLe.refl P) (fun zz h => .rfl h) (fun zz zz zz zz zz zz h => .rfl h) R.toL.offP R.toL.offF (n _ R.toL.offσ)
  (fun o i x a hx ha => let ⟨k1, k2, k3⟩ := R.toL.out o i x a hx ha; ⟨k1, k2, n _ k3⟩) fun zz zz zz zz zz zz zz h => h⟩
theorem Rep.keepP (R : Rep c env own F P ρ σ s) {a : Addr} {o : Obj} (h : s.heap.get? a = some o) (hσ : σ a = none) (hF : ∀ o, ¬ F a o) (ht : a ≠ c.tabA) (hl : a ≠ env.locals)
  (hc : ∀ i x b, CellAt env i x → env.cells.lookup x = some b → own = true → a ≠ b) : Rep c env own F (addP P a o) ρ σ s := by
 refine ⟨R.toC.keepP h hσ hF ht, R.toL.move (addP_le P a o) (fun zz h => .rfl h) (fun zz zz zz zz zz zz h => .rfl h) ?_ R.toL.offF R.toL.offσ ?_ fun zz zz zz zz zz zz zz h => h⟩
 ·rintro x (p | ⟨e, _⟩)
  ·exact R.toL.offP x p
  ·exact hl e.symm
 ·intro ho i x b hx hb
  obtain ⟨k1, k2, k3⟩ := R.toL.out ho i x b hx hb
  refine ⟨?_, k2, k3⟩
  rintro y (p | ⟨e, _⟩)
  ·exact k1 y p
  ·exact hc i x b hx hb ho e.symm
theorem Rep.freeze (R : Rep c env own F P ρ σ s) {a : Addr} {x : O} (ha : σ a = some x) {σ' : Sto} (h : SLe σ' σ) (hn : σ' a = none) : ∃ o, OR c.w.params P x o ∧ Rep c env own F (addP P a o) ρ σ' s := by
 obtain ⟨o, h1, h2⟩ := R.toC.obj a x ha
 refine ⟨o, h2, (R.weak h).keepP h1 hn ?_ ?_ ?_ ?_⟩
 ·intro y p; have := (R.toC.offF a y p).1; rw [ha] at this; cases this
 ·intro e; have := R.toC.tabσ; rw [← e, ha] at this; cases this
 ·intro e; have := R.toL.offσ; rw [← e, ha] at this; cases this
 ·intro i y b hy hb ho e; have := (R.toL.out ho i y b hy hb).2.2; rw [← e, ha] at this; cases this
theorem Rep.keepσ (R : Rep c env own F P ρ σ s) {a : Addr} {o : Obj} {x : O} (h : s.heap.get? a = some o) (hP : ∀ o, ¬ P a o) (hF : ∀ o, ¬ F a o) (ht : a ≠ c.tabA) (hx : OR c.w.params P x o) (hl : a ≠ env.locals)
  (hc : ∀ i x b, CellAt env i x → env.cells.lookup x = some b → own = true → a ≠ b) : Rep c env own F P ρ (upd σ a x) s := by
 refine ⟨R.toC.keepσ h hP hF ht hx, R.toL.move (PLe.refl P) (fun zz h => .rfl h) (fun zz zz zz zz zz zz h => .rfl h) R.toL.offP R.toL.offF ?_ ?_ fun zz zz zz zz zz zz zz h => h⟩
 ·rw [upd_ne (Ne.symm hl)]; exact R.toL.offσ
 ·intro ho i x b hx hb
  obtain ⟨k1, k2, k3⟩ := R.toL.out ho i x b hx hb
  refine ⟨k1, k2, ?_⟩
  rw [upd_ne (Ne.symm (hc i x b hx hb ho))]; exact k3
theorem Rep.pushP (R : Rep c env own F P ρ σ s) (o : Obj) (hf : o.isFreed = false) : Rep c env own F (addP P s.heap.objs.size o) ρ σ { s with heap := s.heap.push o } := by
 have R' : Rep c env own F P ρ σ { s with heap := s.heap.push o } := R.grow (t := s.toks) fun a x h => Heap.get?_push_of_some _ h
 have n := R.toC.new (Nat.le_refl _)
 exact R'.keepP (Heap.get?_push_size _ hf) n.1 n.2.2.1 n.2.2.2 (Nat.ne_of_gt R.toL.lt) fun i x b hx hb zz => Nat.ne_of_gt (R.toL.cell_lt hx hb)
theorem Rep.pushσ (R : Rep c env own F P ρ σ s) (o : Obj) {x : O} (hf : o.isFreed = false) (hx : OR c.w.params P x o) : Rep c env own F P ρ (upd σ s.heap.objs.size x) { s with heap := s.heap.push o } := by
 have R' : Rep c env own F P ρ σ { s with heap := s.heap.push o } := R.grow (t := s.toks) fun a x h => Heap.get?_push_of_some _ h
 have n := R.toC.new (Nat.le_refl _)
 exact R'.keepσ (Heap.get?_push_size _ hf) n.2.1 n.2.2.1 n.2.2.2 hx (Nat.ne_of_gt R.toL.lt) fun i x b hx hb zz => Nat.ne_of_gt (R.toL.cell_lt hx hb)
theorem Rep.push (R : Rep c env own F P ρ σ s) (o : Obj) : Rep c env own F P ρ σ { s with heap := s.heap.push o } := R.grow (t := s.toks) fun a x h => Heap.get?_push_of_some _ h
theorem Rep.pushF (R : Rep c env own F P ρ σ s) (o : Obj) (hf : o.isFreed = false) : Rep c env own (addP F s.heap.objs.size o) P ρ σ { s with heap := s.heap.push o } := by
 have R' : Rep c env own F P ρ σ { s with heap := s.heap.push o } := R.grow (t := s.toks) fun a x h => Heap.get?_push_of_some _ h
 have n := R.toC.new (Nat.le_refl _)
 refine ⟨R'.toC.keepF (.rfl (Heap.get?_push_size _ hf)) n.1 n.2.1 n.2.2.2, R'.toL.move (PLe.refl P) (fun zz h => .rfl h) (fun zz zz zz zz zz zz h => .rfl h) R.toL.offP ?_ R.toL.offσ ?_ fun zz zz zz zz zz zz zz h => .inl h⟩
 ·rintro x (p | ⟨e, _⟩)
  ·exact R.toL.offF x p
  ·exact Nat.ne_of_gt R.toL.lt e.symm
 ·intro ho i x b hx hb
  obtain ⟨k1, k2, k3⟩ := R.toL.out ho i x b hx hb
  refine ⟨k1, ?_, k3⟩
  rintro y (p | ⟨e, _⟩)
  ·exact k2 y p
  ·exact Nat.ne_of_gt (R.toL.cell_lt hx hb) e.symm
theorem Rep.turnF {a₀ : Addr} {o₀ : Obj} (R : Rep c env own (addP F a₀ o₀) P ρ σ s) {h' : Heap} {o' : Obj} {t : Nat} (hn : ∀ o, ¬ F a₀ o) (hs : Heap.ExtBut a₀ s.heap h') (ho : Obj.still o' (h'.get? a₀)) (hcl : ∀ o, addP F a₀ o₀ a₀ o → ∀ v, o.data ≠ .cell v) :
  Rep c env own (addP F a₀ o') P ρ σ { s with heap := h', toks := t } := by
 have hb : ∀ b o, b ≠ a₀ → s.heap.get? b = some o → h'.get? b = some o := fun b o hb h => hs b o hb h
 obtain ⟨f1, f2, f3⟩ := R.toC.offF a₀ o₀ (.inr ⟨rfl, rfl⟩)
 have hl : env.locals ≠ a₀ := fun e => R.toL.offF o₀ (.inr ⟨e, rfl⟩)
 have hc : ∀ i x b, CellAt env i x → env.cells.lookup x = some b → b ≠ a₀ := fun i x b hx hb e => by
  cases own with
  | true => exact (R.toL.cown rfl i x hx b hb).2.1 o₀ (.inr ⟨e, rfl⟩)
  | false =>
   obtain ⟨o, p⟩ := R.toL.ckept rfl i x hx b hb
   obtain ⟨b', v, h1, ⟨o1, ho1, hd1⟩, _⟩ := R.toL.cell i x hx
   rw [hb] at h1; cases h1
   obtain ⟨sl, q, _⟩ := R.toC.subF b o p
   rw [q] at ho1; cases ho1
   exact hcl o (e ▸ p) v hd1
 have RC : RepC c F P σ { s with heap := h', toks := t } := by
  refine ⟨fun b o p => hb b o (fun e => f2 o (e ▸ p)) (R.toC.sub b o p), fun b o p => ?_, R.toC.base, R.toC.off, fun b o p => R.toC.offF b o (.inl p), fun b x e => ?_, ?_, R.toC.tabσ, R.toC.tabP, R.toC.gens, R.toC.os⟩
  ·obtain ⟨sl, q, z⟩ := R.toC.subF b o (.inl p)
   exact ⟨sl, hb b _ (fun e => hn o (e ▸ p)) q, z⟩
  ·obtain ⟨o, h1, h2⟩ := R.toC.obj b x e
   exact ⟨o, hb b o (fun q => by rw [q, f1] at e; cases e) h1, h2⟩
  ·obtain ⟨m, hm, z⟩ := R.toC.tab
   exact ⟨m, hb _ _ (Ne.symm f3) hm, z⟩
 refine ⟨RC.keepF ho f1 f2 f3, R.toL.move (PLe.refl P) (fun o h => .rfl (hb _ o hl h)) (fun i x a hx ha o h => .rfl (hb _ o (hc i x a hx ha) h)) R.toL.offP ?_ R.toL.offσ ?_ ?_⟩
 ·rintro x (p | ⟨e, _⟩)
  ·exact R.toL.offF x (.inl p)
  ·exact hl e
 ·intro ho i x b hx hb
  obtain ⟨k1, k2, k3⟩ := R.toL.out ho i x b hx hb
  refine ⟨k1, ?_, k3⟩
  rintro y (p | ⟨e, _⟩)
  ·exact k2 y (.inl p)
  ·exact hc i x b hx hb e
 ·intro ho i x b hx hb o p
  rcases p with p | ⟨e, _⟩
  ·exact .inl p
  ·exact absurd e (hc i x b hx hb)
theorem Rep.dropF {a₀ : Addr} {o₀ : Obj} (R : Rep c env own (addP F a₀ o₀) P ρ σ s) (hcl : ∀ o, addP F a₀ o₀ a₀ o → ∀ v, o.data ≠ .cell v) : Rep c env own F P ρ σ s := by
 refine ⟨R.toC.weakF (addP_le _ _ _), R.toL.move (PLe.refl P) (fun zz h => .rfl h) (fun zz zz zz zz zz zz h => .rfl h) R.toL.offP (fun o p => R.toL.offF o (.inl p)) R.toL.offσ
  (fun ho i x b hx hb => let ⟨k1, k2, k3⟩ := R.toL.out ho i x b hx hb; ⟨k1, fun o p => k2 o (.inl p), k3⟩) ?_⟩
 intro ho i x b hx hb o p
 rcases p with p | ⟨e, e2⟩
 ·exact p
 ·obtain ⟨b', v, h1, ⟨o1, ho1, hd1⟩, _⟩ := R.toL.cell i x hx
  rw [hb] at h1; cases h1
  obtain ⟨sl, q, _⟩ := R.toC.subF b o (.inr ⟨e, e2⟩)
  rw [q] at ho1; cases ho1
  exact absurd hd1 (hcl o (.inr ⟨rfl, e2⟩) v)
theorem Rep.turn (R : Rep c env own F P ρ σ s) {a : Addr} {x₀ x : O} {h' : Heap} {o' : Obj} {t : Nat} (hσ : σ a = some x₀) (hs : Heap.SameBut a s.heap h') (ho : h'.get? a = some o') (hx : OR c.w.params P x o') :
  Rep c env own F P ρ (upd σ a x) { s with heap := h', toks := t } := by
 have hP := R.toC.off a x₀ hσ
 have hF : ∀ o, ¬ F a o := fun o p => by have := (R.toC.offF a o p).1; rw [hσ] at this; cases this
 have ht : a ≠ c.tabA := fun e => by rw [e, R.toC.tabσ] at hσ; cases hσ
 have hl : a ≠ env.locals := fun e => by rw [e, R.toL.offσ] at hσ; cases hσ
 have hc : ∀ i y b, CellAt env i y → env.cells.lookup y = some b → a ≠ b := fun i y b hy hb e => by
  cases own with
  | true => have := (R.toL.out rfl i y b hy hb).2.2; rw [← e, hσ] at this; cases this
  | false => obtain ⟨o, p⟩ := R.toL.ckept rfl i y hy b hb; exact hF o (e ▸ p)
 refine ⟨R.toC.turn hs ho hP hF ht hx, R.toL.move (PLe.refl P) (fun o h => .rfl ((hs.2 _ (Ne.symm hl)).trans h)) (fun i y b hy hb o h => .rfl ((hs.2 _ (Ne.symm (hc i y b hy hb))).trans h)) R.toL.offP R.toL.offF ?_ ?_ fun zz zz zz zz zz zz zz h => h⟩
 ·rw [upd_ne (Ne.symm hl)]; exact R.toL.offσ
 ·intro ho i y b hy hb
  obtain ⟨k1, k2, k3⟩ := R.toL.out ho i y b hy hb
  refine ⟨k1, k2, ?_⟩
  rw [upd_ne (Ne.symm (hc i y b hy hb))]; exact k3
theorem Rep.setL (R : Rep c env own F P ρ σ s) {i : Nat} {x : Str} {v : V} {y : Value} {h' : Heap} {t : Nat} {m : Str → Option Value} (hx : LocAt env i x .local) (hv : VR c.w.params P v y)
  (hm2 : ∀ i x, LocAt env i x .local → Slot c.w.params P (ρ i) (m x))
  (hn : h'.Ns env.locals (fun z => if z = x then some y else m z)) (hs : Heap.SameBut env.locals s.heap h') : Rep c env own F P (upl ρ i v) σ { s with heap := h', toks := t } := by
 have hL := R.toL
 refine ⟨R.toC.outside hs hL.offP hL.offF hL.offσ hL.offT, ⟨⟨_, hn, ?_⟩, hL.offP, hL.offF, hL.offσ, hL.offT, ?_, hL.cown, hL.ckept⟩⟩
 ·intro j z hz
  unfold upl
  by_cases e : z = x
  ·subst e
   have : j = i := hx.2.2 j _ hz.2.1
   rw [if_pos this, if_pos rfl]; exact hv
  ·have : j ≠ i := fun q => by
    subst q
    have := hz.2.1.symm.trans hx.2.1
    exact e (by cases this; rfl)
   rw [if_neg this, if_neg e]; exact hm2 j z hz
 ·intro j z hz
  obtain ⟨a, w, h1, h2, h3⟩ := hL.cell j z hz
  have hji : j ≠ i := CellAt.apart hx hz
  refine ⟨a, w, h1, ?_, by unfold upl; rw [if_neg hji]; exact h3⟩
  have ha : a ≠ env.locals := by
   cases own with
   | true => exact (hL.cown rfl j z hz a h1).2.2.2.1
   | false => obtain ⟨o, p⟩ := hL.ckept rfl j z hz a h1; exact fun e => hL.offF o (e ▸ p)
  obtain ⟨o, ho, hd⟩ := h2
  exact ⟨o, (hs.2 a ha).trans ho, hd⟩
theorem Rep.setC (R : Rep c env true F P ρ σ s) {i : Nat} {x : Str} {v : V} {y : Value} {h' : Heap} {a : Addr} (hx : CellAt env i x) (hv : VR c.w.params P v y) (ha : env.cells.lookup x = some a)
  (hn : h'.IsCell a (some y)) (hs : Heap.SameBut a s.heap h') : Rep c env true F P (upl ρ i v) σ { s with heap := h' } := by
 have hL := R.toL
 obtain ⟨c1, c1', c2, c3, c4, c5⟩ := hL.cown rfl i x hx a ha
 have hC : RepC c F P σ { s with heap := h', toks := s.toks } := R.toC.outside hs c1 c1' c2 c4
 refine ⟨hC, ⟨?_, hL.offP, hL.offF, hL.offσ, hL.offT, ?_, hL.cown, hL.ckept⟩⟩
 ·obtain ⟨m, h1, h2⟩ := hL.ns
  refine ⟨m, Ns_of h1 fun o h => .rfl ((hs.2 _ (Ne.symm c3)).trans h), fun j z hz => ?_⟩
  have : j ≠ i := fun q => by
   subst q
   exact CellAt.apart hz hx rfl
  unfold upl
  rw [if_neg this]; exact h2 j z hz
 ·intro j z hz
  obtain ⟨b, w, h1, h2, h3⟩ := hL.cell j z hz
  by_cases e : j = i
  ·subst e
   have e2 : z = x := CellAt.same hx hz
   subst e2
   rw [ha] at h1; cases h1
   exact ⟨a, some y, ha, hn, by unfold upl; rw [if_pos rfl]; exact hv⟩
  ·refine ⟨b, w, h1, ?_, by unfold upl; rw [if_neg e]; exact h3⟩
   have hb : b ≠ a := fun q => e (c5 j z hz (q ▸ h1))
   obtain ⟨o, ho, hd⟩ := h2
   exact ⟨o, (hs.2 b hb).trans ho, hd⟩
theorem Rep.reL (R : Rep c env own F P ρ σ s) {P' : Prt} {σ' : Sto} (R' : Rep c env own F P' ρ σ' s) {i : Nat} {v : V} {u : V} (hi : ρ i = some u) (h : ∀ x, VR c.w.params P' u x → VR c.w.params P' v x) : Rep c env own F P' (upl ρ i v) σ' s := by
 have hL := R'.toL
 refine ⟨R'.toC, ⟨?_, hL.offP, hL.offF, hL.offσ, hL.offT, ?_, hL.cown, hL.ckept⟩⟩
 ·obtain ⟨m, h1, h2⟩ := hL.ns
  refine ⟨m, h1, fun j z hz => ?_⟩
  have := h2 j z hz
  unfold upl
  by_cases e : j = i
  ·subst e
   rw [if_pos rfl]
   rw [hi] at this
   cases q : m z with
   | none => rw [q] at this; exact this.elim
   | some y => rw [q] at this; exact h y this
  ·rw [if_neg e]; exact this
 ·intro j z hz
  obtain ⟨a, w, h1, h2, h3⟩ := hL.cell j z hz
  refine ⟨a, w, h1, h2, ?_⟩
  unfold upl
  by_cases e : j = i
  ·subst e
   rw [if_pos rfl]
   rw [hi] at h3
   cases w with
   | none => exact h3.elim
   | some y => exact h y h3
  ·rw [if_neg e]; exact h3
noncomputable def FF (F : Prt) (env : Env) (own : Bool) (h : Heap) : Prt := fun a o => F a o ∨ (h.get? a = some o ∧ (a = env.locals ∨ (own = true ∧ ∃ i x, CellAt env i x ∧ env.cells.lookup x = some a)))
theorem Rep.enter (R : Rep c env own F P ρ σ s) : RepC c (FF F env own s.heap) P σ s := by
 have C := R.toC
 refine ⟨C.sub, ?_, C.base, C.off, ?_, C.obj, C.tab, C.tabσ, C.tabP, C.gens, C.os⟩
 ·rintro a o (p | ⟨p, _⟩)
  ·exact C.subF a o p
  ·exact .rfl p
 ·rintro a o (p | ⟨_, rfl | ⟨ho, i, x, hx, ha⟩⟩)
  ·exact C.offF a o p
  ·exact ⟨R.toL.offσ, R.toL.offP, R.toL.offT⟩
  ·obtain ⟨k1, k2, k3, k4, k5, k6⟩ := R.toL.cown ho i x hx a ha
   exact ⟨k3, k1, k5⟩
theorem Rep.back (R : Rep c env own F P ρ σ s) {P' : Prt} {σ' : Sto} {s' : Shared} (C : RepC c (FF F env own s.heap) P' σ' s') (le : PLe P P') : Rep c env own F P' ρ σ' s' := by
 have hL : ∀ o, s.heap.get? env.locals = some o → FF F env own s.heap env.locals o := fun o h => .inr ⟨h, .inl rfl⟩
 have hlo : ∃ o, s.heap.get? env.locals = some o := R.toL.ns.elim fun m h => let ⟨o, _, _, ho, _⟩ := h.1; ⟨o, ho⟩
 obtain ⟨lo, hlo⟩ := hlo
 have hlF := C.offF _ _ (hL lo hlo)
 refine ⟨C.weakF fun a o p => .inl p, R.toL.move le (fun o h => C.subF _ _ (hL o h)) (fun i x a hx ha o h => ?_) hlF.2.1 R.toL.offF hlF.1 ?_ fun zz zz zz zz zz zz zz h => h⟩
 ·cases own with
  | true => exact C.subF a o (.inr ⟨h, .inr ⟨rfl, i, x, hx, ha⟩⟩)
  | false =>
   obtain ⟨o', p⟩ := R.toL.ckept rfl i x hx a ha
   obtain ⟨sl, e, z⟩ := R.toC.subF a o' p
   obtain ⟨sl', e', z'⟩ := C.subF a o' (.inl p)
   rw [h] at e; cases e
   exact ⟨sl', e', fun q => (z' q).trans (z q).symm⟩
 ·intro ho i x a hx ha
  obtain ⟨b, v, h1, ⟨o, h2, _⟩, _⟩ := R.toL.cell i x hx
  rw [ha] at h1; cases h1
  have := C.offF a o (.inr ⟨h2, .inr ⟨ho, i, x, hx, ha⟩⟩)
  exact ⟨this.2.1, (R.toL.out ho i x a hx ha).2.1, this.1⟩
structure Room (n : Nat) (A : Around) : Prop where
 handled : A.handled = none
 depth : A.depth + n < recursionLimit
 units : A.units + 8 * n + 8 < cLine
noncomputable abbrev MM (c : Cx) : Model := model pw c.w
noncomputable abbrev XP := Prt → Prt → Value → Shared → Prop
noncomputable def No : XP := fun zz zz zz zz => False
noncomputable def PX (X : XP) (F P : Prt) (e : Value) (s : Shared) : Prop := ∃ P', PLe P P' ∧ X F P' e s
theorem PX.of {X : XP} {P P' : Prt} {e : Value} {s : Shared} (h : PX X F P' e s) (le : PLe P P') : PX X F P e s := let ⟨P₁, l, r⟩ := h; ⟨P₁, le.trans l, r⟩
noncomputable def IfB (S1 S2 : Sto → Prop) (b : Bool) (σ : Sto) : Prop := if b = true then S1 σ else S2 σ
section
variable (c : Cx) (A : Around) (env : Env) (own : Bool)
inductive PV (F : Prt) (ρ : Loc) (P : Prt) (Q : V → Sto → Prop) (v : Value) (s' : Shared) : Prop
 | mk (P' : Prt) (a : V) (σ' : Sto) (le : PLe P P') (R : Rep c env own F P' ρ σ' s') (r : VR c.w.params P' a v) (q : Q a σ') : PV F ρ P Q v s'
inductive PVs (F : Prt) (ρ : Loc) (P : Prt) (Q : List V → Sto → Prop) (v : List Value) (s' : Shared) : Prop
 | mk (P' : Prt) (a : List V) (σ' : Sto) (le : PLe P P') (R : Rep c env own F P' ρ σ' s') (r : VRs c.w.params P' a v) (q : Q a σ') : PVs F ρ P Q v s'
inductive PB (F : Prt) (ρ : Loc) (P : Prt) (Q : Bool → Sto → Prop) (v : Bool) (s' : Shared) : Prop
 | mk (P' : Prt) (σ' : Sto) (le : PLe P P') (R : Rep c env own F P' ρ σ' s') (q : Q v σ') : PB F ρ P Q v s'
structure EV (X : XP) (ρ : Loc) (e : Expr) (Q : V → Sto → Prop) (σ : Sto) : Prop where
 run : ∀ F P s, Rep c env own F P ρ σ s → wpAny (MM c) A (eval e env) (PV c env own F ρ P Q) (PX X F P) s
structure EB (X : XP) (ρ : Loc) (e : Expr) (Q : Bool → Sto → Prop) (σ : Sto) : Prop where
 run : ∀ F P s, Rep c env own F P ρ σ s → wpAny (MM c) A (isTrue e env (eval e env)) (PB c env own F ρ P Q) (PX X F P) s
structure ES (X : XP) (ρ : Loc) (es : List Expr) (Q : List V → Sto → Prop) (σ : Sto) : Prop where
 run : ∀ pos F P s, Rep c env own F P ρ σ s → wpAny (MM c) A (spliced (backTo pos (starEach es env))) (PVs c env own F ρ P Q) (PX X F P) s
structure OP1 (X : XP) (ρ : Loc) (Q : V → Sto → Prop) (f : Value → Sem Value) (a : V) (σ : Sto) : Prop where
 run : ∀ F P s x, Rep c env own F P ρ σ s → VR c.w.params P a x → wpAny (MM c) A (f x) (PV c env own F ρ P Q) (PX X F P) s
structure OP2 (X : XP) (ρ : Loc) (Q : V → Sto → Prop) (f : Value → Value → Sem Value) (a b : V) (σ : Sto) : Prop where
 run : ∀ F P s x y, Rep c env own F P ρ σ s → VR c.w.params P a x → VR c.w.params P b y → wpAny (MM c) A (f x y) (PV c env own F ρ P Q) (PX X F P) s
structure OPN (X : XP) (ρ : Loc) (Q : V → Sto → Prop) (f : List Value → Sem Value) (l : List V) (σ : Sto) : Prop where
 run : ∀ F P s xs, Rep c env own F P ρ σ s → VRs c.w.params P l xs → wpAny (MM c) A (f xs) (PV c env own F ρ P Q) (PX X F P) s
structure TRU (X : XP) (ρ : Loc) (Q : Bool → Sto → Prop) (a : V) (σ : Sto) : Prop where
 run : ∀ F P s x, Rep c env own F P ρ σ s → VR c.w.params P a x → wpAny (MM c) A (truthy x) (PB c env own F ρ P Q) (PX X F P) s
inductive PF (F P : Prt) (N B C : Loc → Sto → Prop) (T : V → Sto → Prop) (f : Flow) (s' : Shared) : Prop
 | mk (P' : Prt) (ρ' : Loc) (σ' : Sto) (le : PLe P P') (R : Rep c env own F P' ρ' σ' s') (q : match f with
  | .next => N ρ' σ' | .brk => B ρ' σ' | .cont => C ρ' σ' | .ret v => ∃ V, VR c.w.params P' V v ∧ T V σ') : PF F P N B C T f s'
structure SX (B C : Loc → Sto → Prop) (T : V → Sto → Prop) (X : XP) (N : Loc → Sto → Prop) (st : Stmt) (ρ : Loc) (σ : Sto) : Prop where
 run : ∀ F P s, Rep c env own F P ρ σ s → wpAny (MM c) A (exec st env) (PF c env own F P N B C T) (PX X F P) s
structure SS (B C : Loc → Sto → Prop) (T : V → Sto → Prop) (X : XP) (N : Loc → Sto → Prop) (st : List Stmt) (ρ : Loc) (σ : Sto) : Prop where
 run : ∀ F P s, Rep c env own F P ρ σ s → wpAny (MM c) A (execs st env) (PF c env own F P N B C T) (PX X F P) s
inductive PU (F P : Prt) (Q : Loc → Sto → Prop) (u : Unit) (s' : Shared) : Prop
 | mk (P' : Prt) (ρ' : Loc) (σ' : Sto) (le : PLe P P') (R : Rep c env own F P' ρ' σ' s') (q : Q ρ' σ') : PU F P Q u s'
structure AS (X : XP) (Q : Loc → Sto → Prop) (t : Expr) (ρ : Loc) (v : V) (σ : Sto) : Prop where
 run : ∀ F P s x, Rep c env own F P ρ σ s → VR c.w.params P v x → wpAny (MM c) A (assign t env x) (PU c env own F P Q) (PX X F P) s
inductive PC (c : Cx) (F P : Prt) (Q : V → Sto → Prop) (v : Value) (s' : Shared) : Prop
 | mk (P' : Prt) (a : V) (σ' : Sto) (le : PLe P P') (R : RepC c F P' σ' s') (r : VR c.w.params P' a v) (q : Q a σ') : PC c F P Q v s'
noncomputable def PR (c : Cx) (F P : Prt) (Q : V → Sto → Prop) (r : Result) (s' : Shared) : Prop := match r with | .ok (.ret v) => PC c F P Q v s' | .ok _ => False | .error _ => False
theorem PR.ok {c : Cx} {F P : Prt} {Q : V → Sto → Prop} {r : Result} {s' : Shared} (h : PR c F P Q r s') : ∃ v, r = .ok (.ret v) ∧ PC c F P Q v s' := by
 cases r with
 | error e => exact h.elim
 | ok f =>
  cases f with
  | ret v => exact ⟨v, rfl, h⟩
  | _ => exact h.elim
structure FN (c : Cx) (n : Nat) (f : Value) (l : List V) (σ : Sto) (Q : V → Sto → Prop) : Prop where
 run : ∀ A F P s xs, Room n A → RepC c F P σ s → VRs c.w.params P l xs → codeAny (MM c) A (.call f ⟨xs, []⟩) (PR c F P Q) s
end
end
section
structure EnvOk (env : Env) : Prop where
 kind : env.scope.kind = .function
 globals : env.globals = mainGlobals
 builtins : env.builtins = builtinsNs
noncomputable def GV (c : Cx) (x : Str) (V : V) : Prop := ∃ y, ((c.mg x = some y) ∨ (c.mg x = none ∧ c.mb x = some y)) ∧ ∀ P : Prt, (∀ a o, c.g.get? a = some o → P a o) → VR c.w.params P V y
noncomputable def GlobAt (c : Cx) (env : Env) (x : Str) (V : V) : Prop := (env.kindOf x = some .globalImplicit ∧ (x == ("__debug__" : Str)) = false) ∧ GV c x V
section
variable {c : Cx} {A : Around} {env : Env} {own : Bool} {F : Prt} {X : XP} {ρ : Loc} {σ : Sto} {Q : V → Sto → Prop}
theorem Rep.kept {c : Cx} {env : Env} {own : Bool} {F P : Prt} {ρ : Loc} {σ : Sto} {s : Shared} (R : Rep c env own F P ρ σ s) : ∀ b o, c.g.get? b = some o → s.heap.get? b = some o := fun b o h => R.toC.sub b o (R.toC.base b o h)
theorem PV.of {P P' : Prt} {v : Value} {s' : Shared} (h : PV c env own F ρ P' Q v s') (le : PLe P P') : PV c env own F ρ P Q v s' :=
 match h with | ⟨P₁, V, σ', l, R, r, q⟩ => ⟨P₁, V, σ', le.trans l, R, r, q⟩
theorem PB.of {P P' : Prt} {Q : Bool → Sto → Prop} {v : Bool} {s' : Shared} (h : PB c env own F ρ P' Q v s') (le : PLe P P') : PB c env own F ρ P Q v s' :=
 match h with | ⟨P₁, σ', l, R, q⟩ => ⟨P₁, σ', le.trans l, R, q⟩
theorem EV_none {k pos} (h : Q .none σ) : EV c A env own X ρ (.Constant .none k pos) Q σ := .mk fun F P s R =>
 wpAny_Constant_none ⟨P, .none, σ, .refl _, R, rfl, h⟩
theorem EV_bool {b k pos} (h : Q (.bool b) σ) : EV c A env own X ρ (.Constant (.bool b) k pos) Q σ := .mk fun F P s R =>
 wpAny_Constant_bool ⟨P, .bool b, σ, .refl _, R, rfl, h⟩
theorem EV_int {i k pos} (h : Q (.int i) σ) : EV c A env own X ρ (.Constant (.int i) k pos) Q σ := .mk fun F P s R =>
 wpAny_Constant_int ⟨P, .int i, σ, .refl _, R.toks _, ⟨_, rfl⟩, h⟩
theorem EV_str {x k pos} (h : Q (.str x) σ) : EV c A env own X ρ (.Constant (.str x) k pos) Q σ := .mk fun F P s R =>
 wpAny_Constant_str ⟨P, .str x, σ, .refl _, R.toks _, ⟨_, rfl⟩, h⟩
theorem EV_loc {i x pos v} (ok : EnvOk env) (hx : LocAt env i x .local) (hv : ρ i = some v) (h : Q v σ) : EV c A env own X ρ (.Name x pos) Q σ := .mk fun F P s R => by
 obtain ⟨m, hm, hs⟩ := R.toL.ns
 have := hs i x hx
 rw [hv] at this
 cases q : m x with
 | none => rw [q] at this; exact this.elim
 | some y => rw [q] at this; exact wpAny_Name (wpAny_loadName_local ok.kind hx.1.1 hm q ⟨P, v, σ, .refl _, R, this, h⟩) hx.1.2
theorem EV_cell {i x pos v} (ok : EnvOk env) (hx' : LocAt env i x .cell) (hv : ρ i = some v) (h : Q v σ) : EV c A env own X ρ (.Name x pos) Q σ := .mk fun F P s R => by
 obtain ⟨a, w, h1, h2, h3⟩ := R.toL.cell i x (.inl hx')
 rw [hv] at h3
 cases w with
 | none => exact h3.elim
 | some y => exact wpAny_Name (wpAny_loadName_cell ok.kind hx'.1.1 h1 h2 ⟨P, v, σ, .refl _, R, h3, h⟩) hx'.1.2
theorem EV_free {i x pos v} (ok : EnvOk env) (hx' : LocAt env i x .free) (hv : ρ i = some v) (h : Q v σ) (hn : (x == ("__classdict__" : Str)) = false := by decide) : EV c A env own X ρ (.Name x pos) Q σ := .mk fun F P s R => by
 obtain ⟨a, w, h1, h2, h3⟩ := R.toL.cell i x (.inr hx')
 rw [hv] at h3
 cases w with
 | none => exact h3.elim
 | some y => exact wpAny_Name (wpAny_loadName_free ok.kind hx'.1.1 h1 h2 ⟨P, v, σ, .refl _, R, h3, h⟩ hn) hx'.1.2
theorem EV_glob {x pos v} (ok : EnvOk env) (hx : GlobAt c env x v) (h : Q v σ) : EV c A env own X ρ (.Name x pos) Q σ := .mk fun F P s R => by
 obtain ⟨⟨h1, h2⟩, y, h3, h4⟩ := hx
 have r := h4 P R.toC.base
 refine Name_function_global ok.kind h1 ?_ h2
 rcases h3 with h3 | ⟨h3, h5⟩
 ·exact loadGlobal_global (by rw [ok.globals]; exact c.hg.keeps R.kept) h3 ⟨P, v, σ, .refl _, R, r, h⟩
 ·exact loadGlobal_builtin (by rw [ok.globals]; exact c.hg.keeps R.kept) h3 (by rw [ok.builtins]; exact c.hb.keeps R.kept) h5 ⟨P, v, σ, .refl _, R, r, h⟩
theorem EV_BinOp {l op r pos} (h : EV c A env own X ρ l (fun a => EV c A env own X ρ r (OP2 c A env own X ρ Q (binaryOp op) a)) σ) : EV c A env own X ρ (.BinOp l op r pos) Q σ := .mk fun F P s R => by
 refine wpAny_BinOp (wpAny_mono (h.run F P s R) ?_ (fun zz zz x => x))
 rintro va s₁ ⟨P₁, a, σ₁, le₁, R₁, ra, h₁⟩
 refine wpAny_mono (h₁.run F P₁ s₁ R₁) ?_ (fun zz zz x => x.of le₁)
 rintro vb s₂ ⟨P₂, b, σ₂, le₂, R₂, rb, h₂⟩
 exact wpAny_mono (h₂.run F P₂ s₂ va vb R₂ (ra.mono le₂) rb) (fun v s₃ h₃ => h₃.of (le₁.trans le₂)) (fun zz zz x => x.of (le₁.trans le₂))
theorem EV_Cmp {l op r pos} (h : EV c A env own X ρ l (fun a => EV c A env own X ρ r (OP2 c A env own X ρ Q (compareOp op) a)) σ)
  (hm : behindInMarks op r = false) : EV c A env own X ρ (.Compare l [op] [r] pos) Q σ := .mk fun F P s R => by
 refine wpAny_Compare1 (wpAny_mono (h.run F P s R) ?_ (fun zz zz x => x)) hm
 rintro va s₁ ⟨P₁, a, σ₁, le₁, R₁, ra, h₁⟩
 refine wpAny_mono (h₁.run F P₁ s₁ R₁) ?_ (fun zz zz x => x.of le₁)
 rintro vb s₂ ⟨P₂, b, σ₂, le₂, R₂, rb, h₂⟩
 exact wpAny_mono (h₂.run F P₂ s₂ va vb R₂ (ra.mono le₂) rb) (fun v s₃ h₃ => h₃.of (le₁.trans le₂)) (fun zz zz x => x.of (le₁.trans le₂))
theorem EV_Unary {op x pos} (h : EV c A env own X ρ x (OP1 c A env own X ρ Q (unaryOp op)) σ) : EV c A env own X ρ (.UnaryOp op x pos) Q σ := .mk fun F P s R => by
 refine wpAny_UnaryOp (wpAny_mono (h.run F P s R) ?_ (fun zz zz x => x))
 rintro va s₁ ⟨P₁, a, σ₁, le₁, R₁, ra, h₁⟩
 exact wpAny_mono (h₁.run F P₁ s₁ va R₁ ra) (fun v s₃ h₃ => h₃.of le₁) (fun zz zz x => x.of le₁)
theorem EV_IfExp {t b o pos} (h : EB c A env own X ρ t (IfB (EV c A env own X ρ b Q) (EV c A env own X ρ o Q)) σ) : EV c A env own X ρ (.IfExp t b o pos) Q σ := .mk fun F P s R => by
 refine wpAny_IfExp (wpAny_mono (h.run F P s R) ?_ (fun zz zz x => x))
 rintro x s₁ ⟨P₁, σ₁, le₁, R₁, h₁⟩
 cases x
 ·exact wpAny_mono (h₁.run F P₁ s₁ R₁) (fun v s₃ h₃ => h₃.of le₁) (fun zz zz x => x.of le₁)
 ·exact wpAny_mono (h₁.run F P₁ s₁ R₁) (fun v s₃ h₃ => h₃.of le₁) (fun zz zz x => x.of le₁)
structure BO (c : Cx) (A : Around) (env : Env) (own : Bool) (X : XP) (ρ : Loc) (op : BoolOp) (es : List Expr) (Q : V → Sto → Prop) (σ : Sto) : Prop where
 run : ∀ pos F P s, Rep c env own F P ρ σ s → wpAny (MM c) A (boolOp pos op (evalEach es env)) (PV c env own F ρ P Q) (PX X F P) s
theorem EV_BoolOp {op es pos} (h : BO c A env own X ρ op es Q σ) : EV c A env own X ρ (.BoolOp op es pos) Q σ := .mk fun F P s R => by
 rw [arm_eval_BoolOp]; exact h.run pos F P s R
theorem BO_one {op e} (h : EV c A env own X ρ e Q σ) : BO c A env own X ρ op [e] Q σ := .mk fun pos F P s R => h.run F P s R
theorem BO_and {e e' es} (h : EV c A env own X ρ e (fun a => TRU c A env own X ρ (IfB (BO c A env own X ρ .And (e' :: es) Q) (Q a)) a) σ) : BO c A env own X ρ .And (e :: e' :: es) Q σ := .mk fun pos F P s R => by
 show wpAny _ A (do
  let v ← eval e env
  standAt pos
  let t ← holding [v] (truthy v)
  match BoolOp.And, t with
  | .And, false | .Or, true => pure v
  | _, _ => boolOp pos .And (evalEach (e' :: es) env)) _ (PX X F P) s
 refine wpAny_bind (wpAny_mono (h.run F P s R) ?_ fun zz zz x => x)
 rintro va s₁ ⟨P₁, a, σ₁, le₁, R₁, ra, h₁⟩
 refine wpAny_bind (wpAny_standAt (wpAny_bind (wpAny_holding (wpAny_mono (h₁.run F P₁ s₁ va R₁ ra) ?_ fun zz zz x => x.of le₁))))
 rintro b s₂ ⟨P₂, σ₂, le₂, R₂, h₂⟩
 cases b
 ·exact wpAny_pure ⟨P₂, a, σ₂, le₁.trans le₂, R₂, ra.mono le₂, h₂⟩
 ·exact wpAny_mono (h₂.run pos F P₂ s₂ R₂) (fun v s₃ h₃ => h₃.of (le₁.trans le₂)) (fun zz zz x => x.of (le₁.trans le₂))
theorem BO_or {e e' es} (h : EV c A env own X ρ e (fun a => TRU c A env own X ρ (IfB (Q a) (BO c A env own X ρ .Or (e' :: es) Q)) a) σ) : BO c A env own X ρ .Or (e :: e' :: es) Q σ := .mk fun pos F P s R => by
 show wpAny _ A (do
  let v ← eval e env
  standAt pos
  let t ← holding [v] (truthy v)
  match BoolOp.Or, t with
  | .And, false | .Or, true => pure v
  | _, _ => boolOp pos .Or (evalEach (e' :: es) env)) _ (PX X F P) s
 refine wpAny_bind (wpAny_mono (h.run F P s R) ?_ fun zz zz x => x)
 rintro va s₁ ⟨P₁, a, σ₁, le₁, R₁, ra, h₁⟩
 refine wpAny_bind (wpAny_standAt (wpAny_bind (wpAny_holding (wpAny_mono (h₁.run F P₁ s₁ va R₁ ra) ?_ fun zz zz x => x.of le₁))))
 rintro b s₂ ⟨P₂, σ₂, le₂, R₂, h₂⟩
 cases b
 ·exact wpAny_mono (h₂.run pos F P₂ s₂ R₂) (fun v s₃ h₃ => h₃.of (le₁.trans le₂)) (fun zz zz x => x.of (le₁.trans le₂))
 ·exact wpAny_pure ⟨P₂, a, σ₂, le₁.trans le₂, R₂, ra.mono le₂, h₂⟩
end
section
variable {c : Cx} {A : Around} {env : Env} {own : Bool} {F : Prt} {X : XP} {ρ : Loc} {σ : Sto} {Q : Bool → Sto → Prop}
theorem EB_val {e : Expr} (h : EV c A env own X ρ e (TRU c A env own X ρ Q) σ)
  (he : autoParam (isTrue e env (eval e env) = (do let v ← eval e env; standAt e.pos; holding [v] (truthy v))) aRfl) : EB c A env own X ρ e Q σ := .mk fun F P s R => by
 refine wpAny_isTrue_value (wpAny_mono (h.run F P s R) ?_ (fun zz zz x => x)) he
 rintro va s₁ ⟨P₁, a, σ₁, le₁, R₁, ra, h₁⟩
 exact wpAny_mono (h₁.run F P₁ s₁ va R₁ ra) (fun v s₃ h₃ => h₃.of le₁) (fun zz zz x => x.of le₁)
theorem EB_Name {x pos} (h : EV c A env own X ρ (.Name x pos) (TRU c A env own X ρ Q) σ) : EB c A env own X ρ (.Name x pos) Q σ := EB_val h
theorem EB_Call {f as ks pos} (h : EV c A env own X ρ (.Call f as ks pos) (TRU c A env own X ρ Q) σ) : EB c A env own X ρ (.Call f as ks pos) Q σ := EB_val h
theorem EB_Attr {o x pos} (h : EV c A env own X ρ (.Attribute o x pos) (TRU c A env own X ρ Q) σ) : EB c A env own X ρ (.Attribute o x pos) Q σ := EB_val h
theorem EB_Cmp {l op r pos} (h : EV c A env own X ρ l (fun a => EV c A env own X ρ r (OP2 c A env own X ρ (TRU c A env own X ρ Q) (compareOp op) a)) σ)
  (hm : behindInMarks op r = false) : EB c A env own X ρ (.Compare l [op] [r] pos) Q σ := .mk fun F P s R => by
 refine wpAny_isTrue_Compare1 (wpAny_mono (h.run F P s R) ?_ (fun zz zz x => x)) hm
 rintro va s₁ ⟨P₁, a, σ₁, le₁, R₁, ra, h₁⟩
 refine wpAny_mono (h₁.run F P₁ s₁ R₁) ?_ (fun zz zz x => x.of le₁)
 rintro vb s₂ ⟨P₂, b, σ₂, le₂, R₂, rb, h₂⟩
 refine wpAny_mono (h₂.run F P₂ s₂ va vb R₂ (ra.mono le₂) rb) ?_ (fun zz zz x => x.of (le₁.trans le₂))
 rintro v s₃ ⟨P₃, V, σ₃, le₃, R₃, rv, h₃⟩
 exact wpAny_mono (h₃.run F P₃ s₃ v R₃ rv) (fun b s₄ h₄ => h₄.of (le₁.trans (le₂.trans le₃))) (fun zz zz x => x.of (le₁.trans (le₂.trans le₃)))
theorem EB_Not {x pos} (h : EB c A env own X ρ x (fun b σ₁ => Q (!b) σ₁) σ) : EB c A env own X ρ (.UnaryOp .Not x pos) Q σ := .mk fun F P s R =>
 wpAny_isTrue_Not (wpAny_mono (h.run F P s R) (fun b s₁ h₁ => match h₁ with | ⟨P₁, σ₁, l, R, q⟩ => ⟨P₁, σ₁, l, R, q⟩) (fun zz zz x => x))
structure BT' (c : Cx) (A : Around) (env : Env) (own : Bool) (X : XP) (ρ : Loc) (op : BoolOp) (es : List Expr) (Q : Bool → Sto → Prop) (σ : Sto) : Prop where
 run : ∀ F P s, Rep c env own F P ρ σ s → wpAny (MM c) A (allTrue op es env) (PB c env own F ρ P Q) (PX X F P) s
theorem EB_BoolOp {op es pos} (h : BT' c A env own X ρ op es Q σ) : EB c A env own X ρ (.BoolOp op es pos) Q σ := .mk fun F P s R => wpAny_isTrue_BoolOp (h.run F P s R)
theorem BT_and {e es} (h : EB c A env own X ρ e (IfB (BT' c A env own X ρ .And es Q) (Q false)) σ) : BT' c A env own X ρ .And (e :: es) Q σ := .mk fun F P s R => by
 refine wpAny_allTrue_And_cons (wpAny_mono (h.run F P s R) ?_ (fun zz zz x => x))
 rintro x s₁ ⟨P₁, σ₁, le₁, R₁, h₁⟩
 cases x
 ·exact ⟨P₁, σ₁, le₁, R₁, h₁⟩
 ·exact wpAny_mono (h₁.run F P₁ s₁ R₁) (fun v s₃ h₃ => h₃.of le₁) (fun zz zz x => x.of le₁)
theorem BT_or {e es} (h : EB c A env own X ρ e (IfB (Q true) (BT' c A env own X ρ .Or es Q)) σ) : BT' c A env own X ρ .Or (e :: es) Q σ := .mk fun F P s R => by
 refine wpAny_allTrue_Or_cons (wpAny_mono (h.run F P s R) ?_ (fun zz zz x => x))
 rintro x s₁ ⟨P₁, σ₁, le₁, R₁, h₁⟩
 cases x
 ·exact wpAny_mono (h₁.run F P₁ s₁ R₁) (fun v s₃ h₃ => h₃.of le₁) (fun zz zz x => x.of le₁)
 ·exact ⟨P₁, σ₁, le₁, R₁, h₁⟩
theorem BT_and_nil (h : Q true σ) : BT' c A env own X ρ .And [] Q σ := .mk fun F P s R => wpAny_allTrue_And_nil ⟨P, σ, .refl _, R, h⟩
theorem BT_or_nil (h : Q false σ) : BT' c A env own X ρ .Or [] Q σ := .mk fun F P s R => wpAny_allTrue_Or_nil ⟨P, σ, .refl _, R, h⟩
end
section
variable {c : Cx} {A : Around} {env : Env} {own : Bool} {F : Prt} {X : XP} {ρ : Loc} {σ : Sto} {Q : List V → Sto → Prop}
theorem ES_nil (h : Q [] σ) : ES c A env own X ρ [] Q σ := .mk fun pos F P s R => spliced_nil ⟨P, [], σ, .refl _, R, trivial, h⟩
theorem ES_cons {e es} (h : EV c A env own X ρ e (fun v => ES c A env own X ρ es (fun vs => Q (v :: vs))) σ)
  (he : autoParam (starEach (e :: es) env = (false, eval e env) :: starEach es env) aRfl) : ES c A env own X ρ (e :: es) Q σ := .mk fun pos F P s R => by
 rw [he]
 refine spliced_cons (wpAny_mono (h.run F P s R) ?_ fun zz zz x => x)
 rintro va s₁ ⟨P₁, a, σ₁, le₁, R₁, ra, h₁⟩
 refine wpAny_mono (h₁.run pos F P₁ s₁ R₁) ?_ fun zz zz x => x.of le₁
 rintro vs s₂ ⟨P₂, l, σ₂, le₂, R₂, rl, h₂⟩
 exact ⟨P₂, a :: l, σ₂, le₁.trans le₂, R₂, ⟨ra.mono le₂, rl⟩, h₂⟩
end
section
variable {c : Cx} {A : Around} {env : Env} {own : Bool} {F : Prt} {X : XP} {ρ : Loc} {σ : Sto} {Q : V → Sto → Prop}
theorem EV_Tuple {es k pos} (h : ES c A env own X ρ es (fun l σ₁ => l.length ≤ 1000 ∧ Q (.tup l) σ₁) σ) : EV c A env own X ρ (.Tuple es k pos) Q σ := .mk fun F P s R => by
 refine wpAny_Tuple_spliced (wpAny_mono (h.run pos F P s R) ?_ fun zz zz x => x)
 rintro vs s₁ ⟨P₁, l, σ₁, le₁, R₁, rl, hl, h₁⟩
 refine ⟨by rw [rl.length, sizeLine_eq]; omega, addP P₁ s₁.heap.objs.size _, .tup l, σ₁, le₁.trans (addP_le _ _ _), R₁.pushP _ rfl, ?_, h₁⟩
 exact ⟨_, vs.toArray, 0, rfl, addP_self _ _ _, rl.mono (addP_le _ _ _)⟩
theorem EV_List {es pos} (h : ES c A env own X ρ es (fun l σ₁ => l.length ≤ 1000 ∧ ∀ a, σ₁ a = none → Q (.ref a) (upd σ₁ a (.list l))) σ) : EV c A env own X ρ (.List es pos) Q σ := .mk fun F P s R => by
 refine wpAny_List_spliced (wpAny_mono (h.run pos F P s R) ?_ fun zz zz x => x)
 rintro vs s₁ ⟨P₁, l, σ₁, le₁, R₁, rl, hl, h₁⟩
 exact ⟨by rw [rl.length, sizeLine_eq]; omega, P₁, .ref s₁.heap.objs.size, _, le₁, R₁.pushσ _ (x := .list l) rfl ⟨_, _, rfl, rl⟩, rfl, h₁ _ (R₁.toC.new (Nat.le_refl _)).1⟩
end
end
section
open PySem.MeetsSeq
section
variable {c : Cx} {A : Around} {env : Env} {own : Bool} {X : XP} {ρ : Loc} {σ : Sto} {Q : V → Sto → Prop} {QB : Bool → Sto → Prop}
theorem op_add {a b : Int} (h : Q (.int (a + b)) σ) : OP2 c A env own X ρ Q (binaryOp .Add) (.int a) (.int b) σ := by
 refine ⟨?_⟩; rintro F P s _ _ R ⟨t, rfl⟩ ⟨u, rfl⟩; exact @PySem.P.add_int _ _ _ _ _ _ _ _ _ _ ⟨P, .int (a + b), σ, .refl _, R.toks _, ⟨_, rfl⟩, h⟩
theorem op_iadd {a b : Int} (h : Q (.int (a + b)) σ) : OP2 c A env own X ρ Q (inplaceOp .Add) (.int a) (.int b) σ := by
 refine ⟨?_⟩; rintro F P s _ _ R ⟨t, rfl⟩ ⟨u, rfl⟩; exact @PySem.P.iadd_int _ _ _ _ _ _ _ _ _ _ ⟨P, .int (a + b), σ, .refl _, R.toks _, ⟨_, rfl⟩, h⟩
theorem op_sub {a b : Int} (h : Q (.int (a - b)) σ) : OP2 c A env own X ρ Q (binaryOp .Sub) (.int a) (.int b) σ := by
 refine ⟨?_⟩; rintro F P s _ _ R ⟨t, rfl⟩ ⟨u, rfl⟩; exact @PySem.P.sub_int _ _ _ _ _ _ _ _ _ _ ⟨P, .int (a - b), σ, .refl _, R.toks _, ⟨_, rfl⟩, h⟩
theorem op_mul {a b : Int} (hm : IntMulOk a b) (h : Q (.int (a * b)) σ) : OP2 c A env own X ρ Q (binaryOp .Mult) (.int a) (.int b) σ := by
 refine ⟨?_⟩; rintro F P s _ _ R ⟨t, rfl⟩ ⟨u, rfl⟩; exact @PySem.P.mul_int _ _ _ _ _ _ _ _ _ _ ⟨P, .int (a * b), σ, .refl _, R.toks _, ⟨_, rfl⟩, h⟩ hm
theorem op_div {a b : Int} (hb : b ≠ 0) (hp : Builtin.divisionGoesByPylong a b = false) (h : Q (.int (a.fdiv b)) σ) : OP2 c A env own X ρ Q (binaryOp .FloorDiv) (.int a) (.int b) σ := by
 refine ⟨?_⟩; rintro F P s _ _ R ⟨t, rfl⟩ ⟨u, rfl⟩; exact @floordiv_int _ _ _ _ _ _ _ _ _ _ hb ⟨P, .int (a.fdiv b), σ, .refl _, R.toks _, ⟨_, rfl⟩, h⟩ (.inl hp)
theorem op_mod {a b : Int} (hb : b ≠ 0) (h : Q (.int (a.fmod b)) σ) : OP2 c A env own X ρ Q (binaryOp .Mod) (.int a) (.int b) σ := by
 refine ⟨?_⟩; rintro F P s _ _ R ⟨t, rfl⟩ ⟨u, rfl⟩; exact @mod_int' _ _ _ _ _ _ _ _ _ _ hb ⟨P, .int (a.fmod b), σ, .refl _, R.toks _, ⟨_, rfl⟩, h⟩
theorem op_neg {a : Int} (h : Q (.int (-a)) σ) : OP1 c A env own X ρ Q (unaryOp .USub) (.int a) σ := by
 refine ⟨?_⟩; rintro F P s _ R ⟨t, rfl⟩; exact @PySem.P.neg_int _ _ _ _ _ _ _ _ ⟨P, .int (-a), σ, .refl _, R.toks _, ⟨_, rfl⟩, h⟩
theorem op_eqI {a b : Int} (h : Q (.bool (decide (a = b))) σ) : OP2 c A env own X ρ Q (compareOp .Eq) (.int a) (.int b) σ := by
 refine ⟨?_⟩; rintro F P s _ _ R ⟨t, rfl⟩ ⟨u, rfl⟩; exact @PySem.P.eq_int _ _ _ _ _ _ _ _ _ _ ⟨P, .bool (a == b), σ, .refl _, R, rfl, by rw [show (a == b) = decide (a = b) by rw [Bool.eq_iff_iff]; simp]; exact h⟩
theorem op_neI {a b : Int} (h : Q (.bool (decide (a ≠ b))) σ) : OP2 c A env own X ρ Q (compareOp .NotEq) (.int a) (.int b) σ := by
 refine ⟨?_⟩; rintro F P s _ _ R ⟨t, rfl⟩ ⟨u, rfl⟩; exact @PySem.P.ne_int _ _ _ _ _ _ _ _ _ _ ⟨P, .bool (a != b), σ, .refl _, R, rfl, by rw [show (a != b) = decide (a ≠ b) by rw [Bool.eq_iff_iff]; simp]; exact h⟩
theorem op_ltI {a b : Int} (h : Q (.bool (decide (a < b))) σ) : OP2 c A env own X ρ Q (compareOp .Lt) (.int a) (.int b) σ := by
 refine ⟨?_⟩; rintro F P s _ _ R ⟨t, rfl⟩ ⟨u, rfl⟩; exact @PySem.P.lt_int _ _ _ _ _ _ _ _ _ _ ⟨P, .bool (decide (a < b)), σ, .refl _, R, rfl, h⟩
theorem op_leI {a b : Int} (h : Q (.bool (decide (a ≤ b))) σ) : OP2 c A env own X ρ Q (compareOp .LtE) (.int a) (.int b) σ := by
 refine ⟨?_⟩; rintro F P s _ _ R ⟨t, rfl⟩ ⟨u, rfl⟩; exact @PySem.P.le_int _ _ _ _ _ _ _ _ _ _ ⟨P, .bool (decide (a ≤ b)), σ, .refl _, R, rfl, h⟩
theorem op_gtI {a b : Int} (h : Q (.bool (decide (b < a))) σ) : OP2 c A env own X ρ Q (compareOp .Gt) (.int a) (.int b) σ := by
 refine ⟨?_⟩; rintro F P s _ _ R ⟨t, rfl⟩ ⟨u, rfl⟩; exact @PySem.P.gt_int _ _ _ _ _ _ _ _ _ _ ⟨P, .bool (decide (b < a)), σ, .refl _, R, rfl, h⟩
theorem op_geI {a b : Int} (h : Q (.bool (decide (b ≤ a))) σ) : OP2 c A env own X ρ Q (compareOp .GtE) (.int a) (.int b) σ := by
 refine ⟨?_⟩; rintro F P s _ _ R ⟨t, rfl⟩ ⟨u, rfl⟩; exact @PySem.P.ge_int _ _ _ _ _ _ _ _ _ _ ⟨P, .bool (decide (b ≤ a)), σ, .refl _, R, rfl, h⟩
theorem op_eqS {a b : Str} (h : Q (.bool (a == b)) σ) : OP2 c A env own X ρ Q (compareOp .Eq) (.str a) (.str b) σ := by
 refine ⟨?_⟩; rintro F P s _ _ R ⟨t, rfl⟩ ⟨u, rfl⟩; exact @PyProof.Rows.eq_str _ _ _ _ _ _ _ _ _ _ ⟨P, .bool (a == b), σ, .refl _, R, rfl, h⟩
theorem op_eqS' {a b : Str} {r : Bool} (e : (a == b) = r) (h : Q (.bool r) σ) : OP2 c A env own X ρ Q (compareOp .Eq) (.str a) (.str b) σ := op_eqS (by rw [e]; exact h)
theorem op_neS {a b : Str} (h : Q (.bool (a != b)) σ) : OP2 c A env own X ρ Q (compareOp .NotEq) (.str a) (.str b) σ := by
 refine ⟨?_⟩; rintro F P s _ _ R ⟨t, rfl⟩ ⟨u, rfl⟩
 refine @PySem.P.ne_str _ _ _ _ _ _ _ _ _ _ ⟨P, .bool (a != b), σ, .refl _, R, ?_, h⟩
 show Value.bool _ = Value.bool _
 congr 1
 rw [Bool.eq_iff_iff]
 simp only [bne_iff_ne, ne_eq]
 constructor
 ·intro q e; exact q (by rw [e])
 ·intro q e; apply q; cases a; cases b; simp only [Str.mk.injEq]; exact Array.toList_inj.mp e
theorem op_neS' {a b : Str} {r : Bool} (e : (a != b) = r) (h : Q (.bool r) σ) : OP2 c A env own X ρ Q (compareOp .NotEq) (.str a) (.str b) σ := op_neS (by rw [e]; exact h)
theorem op_eqNS {b : Str} (h : Q (.bool false) σ) : OP2 c A env own X ρ Q (compareOp .Eq) .none (.str b) σ := by
 refine ⟨?_⟩; rintro F P s _ _ R rfl ⟨u, rfl⟩; exact @PySem.EqNone.eq_none_str _ _ _ _ _ _ _ _ ⟨P, .bool false, σ, .refl _, R, rfl, h⟩
theorem op_neNS {b : Str} (h : Q (.bool true) σ) : OP2 c A env own X ρ Q (compareOp .NotEq) .none (.str b) σ := by
 refine ⟨?_⟩; rintro F P s _ _ R rfl ⟨u, rfl⟩; exact @PySem.EqNone.ne_none_str _ _ _ _ _ _ _ _ ⟨P, .bool true, σ, .refl _, R, rfl, h⟩
noncomputable def isN : V → Bool
 | .none => true
 | .val .none => true
 | _ => false
theorem VR.isN {W : Params} {P : Prt} {v : V} {x : Value} (r : VR W P v x) : (x == .none) = Mine.Internal.isN v := by
 cases v with
 | none => cases r; rfl
 | bool b => cases r; rfl
 | int i => obtain ⟨t, rfl⟩ := r; rfl
 | str i => obtain ⟨t, rfl⟩ := r; rfl
 | tup l => obtain ⟨a, vs, n, rfl, _⟩ := r; rfl
 | lst l => obtain ⟨a, vs, n, rfl, _⟩ := r; rfl
 | dic k l => obtain ⟨a, vs, n, rfl, _⟩ := r; rfl
 | ins C k l => obtain ⟨a, d, vs, n, rfl, _⟩ := r; rfl
 | rng x y z => obtain ⟨a, t, u, w, rfl, _⟩ := r; rfl
 | ref a => cases r; rfl
 | val y => cases r; cases x <;> rfl
theorem op_is {a : V} (h : Q (.bool (isN a)) σ) : OP2 c A env own X ρ Q (compareOp .Is) a .none σ := by
 refine ⟨?_⟩; rintro F P s x _ R r rfl
 exact @is_none _ _ _ _ _ _ ⟨P, .bool (isN a), σ, .refl _, R, by rw [r.isN]; rfl, h⟩
theorem op_isNot {a : V} (h : Q (.bool (!isN a)) σ) : OP2 c A env own X ρ Q (compareOp .IsNot) a .none σ := by
 refine ⟨?_⟩; rintro F P s x _ R r rfl
 exact @isNot_none _ _ _ _ _ _ ⟨P, .bool (!isN a), σ, .refl _, R, by rw [r.isN]; rfl, h⟩
theorem tru_bool {b : Bool} (h : QB b σ) : TRU c A env own X ρ QB (.bool b) σ := by
 refine ⟨?_⟩; rintro F P s _ R rfl; exact @wpAny_truthy_bool _ _ _ _ _ _ ⟨P, σ, .refl _, R, h⟩
theorem ite_dec {p : Prop} [Decidable p] {X Y : Prop} (h1 : p → X) (h2 : ¬ p → Y) : if decide p = true then X else Y := by
 by_cases h : p
 ·rw [if_pos (decide_eq_true h)]; exact h1 h
 ·rw [if_neg (by simp [h])]; exact h2 h
theorem ite_b {b : Bool} {X Y : Prop} (h1 : b = true → X) (h2 : b = false → Y) : if b = true then X else Y := by
 cases b
 ·rw [if_neg (by simp)]; exact h2 rfl
 ·rw [if_pos rfl]; exact h1 rfl
theorem ite_t {b : Bool} {X Y : Prop} (e : b = true) (h : X) : if b = true then X else Y := by rw [if_pos e]; exact h
theorem ite_f {b : Bool} {X Y : Prop} (e : b = false) (h : Y) : if b = true then X else Y := by rw [if_neg (by simp [e])]; exact h
end
end
section
open PySem.MeetsSeq Builtin Builtin.ObjectAttr
noncomputable def assoc : List Str → List V → Str → Option V
 | k :: ks, v :: vs, n => if k == n then some v else assoc ks vs n
 | _, _, _ => none
theorem find_of {W : Params} {P : Prt} : ∀ {ks : List Str} {vs : List V} {es : List DictEntry} {n : Str} {v : V}, KeysOf W ks es → VRs W P vs (es.map (·.val)) → assoc ks vs n = some v →
  ∃ e, es.find? (·.key.isStr n) = some e ∧ VR W P v e.val
 | [], _, _, _, _, _, _, h => by cases h
 | _ :: _, [], _, _, _, _, _, h => by cases h
 | k :: ks, v :: vs, e :: es, n, u, ⟨⟨t, k1⟩, k2, k3⟩, ⟨r1, r2⟩, h => by
  unfold assoc at h
  by_cases q : (k == n) = true
  ·rw [if_pos q] at h; cases h
   exact ⟨e, List.find?_cons_of_pos (by rw [k1]; exact q), r1⟩
  ·rw [if_neg q] at h
   obtain ⟨e', h1, h2⟩ := find_of k3 r2 h
   exact ⟨e', by rw [List.find?_cons_of_neg (by rw [k1]; exact q)]; exact h1, h2⟩
 | _ :: _, _ :: _, [], _, _, h, _, _ => h.elim
theorem none_of {W : Params} {P : Prt} : ∀ {ks : List Str} {vs : List V} {es : List DictEntry} {n : Str}, KeysOf W ks es → VRs W P vs (es.map (·.val)) → assoc ks vs n = none →
  es.find? (·.key.isStr n) = none
 | [], _, [], _, _, _, _ => rfl
 | [], _, _ :: _, _, h, _, _ => h.elim
 | _ :: _, _, [], _, h, _, _ => h.elim
 | _ :: _, [], _ :: _, _, _, h, _ => h.elim
 | k :: ks, v :: vs, e :: es, n, ⟨⟨t, k1⟩, k2, k3⟩, ⟨r1, r2⟩, h => by
  unfold assoc at h
  by_cases q : (k == n) = true
  ·rw [if_pos q] at h; cases h
  ·rw [if_neg q] at h
   rw [List.find?_cons_of_neg (by rw [k1]; exact q)]; exact none_of k3 r2 h
theorem KeysOf.noRef {W : Params} : ∀ {ks : List Str} {es : List DictEntry}, KeysOf W ks es → es.any (·.refKey) = false
 | [], [], _ => rfl
 | [], _ :: _, h => h.elim
 | _ :: _, [], h => h.elim
 | k :: ks, e :: es, ⟨⟨t, k1⟩, k2, k3⟩ => by
  rw [List.any_cons, KeysOf.noRef k3, Bool.or_false]
  unfold DictEntry.refKey; rw [k1]
theorem lookIn_some {W : Params} {P : Prt} {ks : List Str} {vs : List V} {es : List DictEntry} {m : Nat} {n : Str} {v : V} (k : KeysOf W ks es) (r : VRs W P vs (es.map (·.val))) (h : assoc ks vs n = some v) :
  ∃ x, lookIn n (dictOf es m) = some (some x) ∧ VR W P v x := by
 obtain ⟨e, h1, h2⟩ := find_of k r h
 refine ⟨e.val, ?_, h2⟩
 unfold lookIn
 simp only [List.toList_toArray, h1]
theorem lookIn_none {W : Params} {P : Prt} {ks : List Str} {vs : List V} {es : List DictEntry} {m : Nat} {n : Str} (k : KeysOf W ks es) (r : VRs W P vs (es.map (·.val))) (h : assoc ks vs n = none) :
  lookIn n (dictOf es m) = some none := by
 have := none_of k r h
 unfold lookIn
 simp only [List.toList_toArray, this, k.noRef]
 rfl
structure AttrOk (c : Cx) (C : Addr) (n : Str) : Prop where
 ga : findIn c.K (.ref C) "__getattribute__" = some (some (.builtin "object.__getattribute__"))
 cls : findIn c.K (.ref C) n = some none
 dict : (clsIn c.K C).any (·.hasDict) = true
theorem findObj_own {K : Frag} {C : Addr} {od : Obj} {n : Str} {v : Value} (h1 : findIn K (.ref C) n = some none) (h2 : (clsIn K C).any (·.hasDict) = true) (h3 : lookIn n od = some (some v)) :
  findObj K C (some od) n = some (.value v) := by
 obtain ⟨cd, hc, hd⟩ := any_some h2
 have e : PySem.W.ownOf cd (some od) n = some (some v) := by unfold PySem.W.ownOf; rw [if_pos hd]; exact h3
 unfold findObj
 rw [hc, h1]
 dsimp only [Option.bind_some]
 rw [e]; rfl
noncomputable def handedV : V → Bool
 | .val _ => false
 | _ => true
theorem VR.handed {W : Params} {P : Prt} {v : V} {x : Value} (r : VR W P v x) (h : handedV v = true) : handedIn x = true := by
 cases v with
 | none => cases r; rfl
 | bool b => cases r; rfl
 | int i => obtain ⟨t, rfl⟩ := r; rfl
 | str i => obtain ⟨t, rfl⟩ := r; rfl
 | tup l => obtain ⟨a, vs, n, rfl, _⟩ := r; rfl
 | lst l => obtain ⟨a, vs, n, rfl, _⟩ := r; rfl
 | dic k l => obtain ⟨a, vs, n, rfl, _⟩ := r; rfl
 | ins C k l => obtain ⟨a, d, vs, n, rfl, _⟩ := r; rfl
 | rng x y z => obtain ⟨a, t, u, w, rfl, _⟩ := r; rfl
 | ref a => cases r; rfl
 | val y => cases h
section
variable {c : Cx} {A : Around} {env : Env} {own : Bool} {F : Prt} {X : XP} {ρ : Loc} {σ : Sto} {Q : V → Sto → Prop} {QU : Loc → Sto → Prop}
theorem Rep.K {P : Prt} {s : Shared} (R : Rep c env own F P ρ σ s) : c.K.In s.heap := c.hK.keeps R.kept
theorem get_ins {C : Addr} {ks : List Str} {vs : List V} {n : Str} {v : V} (ok : AttrOk c C n) (h : assoc ks vs n = some v) (hv : handedV v = true) (q : Q v σ) :
  OP1 c A env own X ρ Q (fun o => getAttr o n true) (.ins C ks vs) σ := by
 refine ⟨?_⟩; rintro F P s _ R ⟨a, d, es, m, rfl, p1, p2, k, r⟩
 obtain ⟨x, l1, l2⟩ := lookIn_some (m := m) k r h
 have I : InstAt s.heap a (instObj C d) C (some (dictOf es m)) := ⟨R.toC.sub _ _ p1, rfl, rfl, R.toC.sub _ _ p2⟩
 exact @get_value _ _ _ _ _ _ _ _ _ _ _ _ _ _ R.K I ok.ga (findObj_own ok.cls ok.dict l1) (l2.handed hv) ⟨P, v, σ, .refl _, R.toks _, l2, q⟩
theorem get_ref {a d C : Addr} {ks : List Str} {vs : List V} {n : Str} {v : V} (ok : AttrOk c C n) (h1 : σ a = some (.inst C d)) (h2 : σ d = some (.dict ks vs)) (h : assoc ks vs n = some v) (hv : handedV v = true) (q : Q v σ) :
  OP1 c A env own X ρ Q (fun o => getAttr o n true) (.ref a) σ := by
 refine ⟨?_⟩; rintro F P s _ R rfl
 obtain ⟨o1, g1, rfl⟩ := R.toC.obj a _ h1
 obtain ⟨o2, g2, es, m, rfl, k, r⟩ := R.toC.obj d _ h2
 obtain ⟨x, l1, l2⟩ := lookIn_some (m := m) k r h
 have I : InstAt s.heap a (instObj C d) C (some (dictOf es m)) := ⟨g1, rfl, rfl, g2⟩
 exact @get_value _ _ _ _ _ _ _ _ _ _ _ _ _ _ R.K I ok.ga (findObj_own ok.cls ok.dict l1) (l2.handed hv) ⟨P, v, σ, .refl _, R.toks _, l2, q⟩
theorem EV_Attr {o : Expr} {n : Str} {pos : Pos} (h : EV c A env own X ρ o (OP1 c A env own X ρ Q (fun x => getAttr x n true)) σ)
  (he : eval (.Attribute o n pos) env = (do
   let x ← eval o env
   standAt pos.atName
   let r ← holding [x] (getAttr x n true)
   letTemporaryGo o x r
   pure r) := by with_unfolding_all rfl) : EV c A env own X ρ (.Attribute o n pos) Q σ := .mk fun F P s R => by
 refine @Attribute_any_ _ _ _ _ _ _ _ _ _ _ (wpAny_mono (h.run F P s R) ?_ (fun zz zz x => x)) he
 rintro va s₁ ⟨P₁, a, σ₁, le₁, R₁, ra, h₁⟩
 exact wpAny_mono (h₁.run F P₁ s₁ va R₁ ra) (fun v s₃ h₃ => h₃.of le₁) (fun zz zz x => x.of le₁)
noncomputable def putK : List Str → Str → List Str
 | k :: ks, n => if k == n then k :: ks else k :: putK ks n
 | [], n => [n]
noncomputable def putV : List Str → List V → Str → V → List V
 | k :: ks, v :: vs, n, u => if k == n then u :: vs else v :: putV ks vs n u
 | _, _, _, u => [u]
noncomputable def putE (n : Str) (h : Int) (key v : Value) : List DictEntry → List DictEntry × Bool
 | [] => ([⟨h, key, v⟩], true)
 | e :: es => if e.key.isStr n then ({ e with val := v } :: es, false) else (e :: (putE n h key v es).1, (putE n h key v es).2)
theorem putE_ok {W : Params} {P : Prt} {n : Str} {t : Tok} {u : V} {x : Value} (hu : VR W P u x) : ∀ {ks : List Str} {vs : List V} {es : List DictEntry}, KeysOf W ks es → VRs W P vs (es.map (·.val)) →
  KeysOf W (putK ks n) (putE n (PyData.keyHash W n) (.str n t) x es).1 ∧ VRs W P (putV ks vs n u) ((putE n (PyData.keyHash W n) (.str n t) x es).1.map (·.val))
 | [], [], [], _, _ => ⟨⟨⟨t, rfl⟩, rfl, trivial⟩, hu, trivial⟩
 | [], _ :: _, [], _, h => h.elim
 | [], _, _ :: _, h, _ => h.elim
 | _ :: _, _, [], h, _ => h.elim
 | _ :: _, [], _ :: _, _, h => h.elim
 | k :: ks, v :: vs, e :: es, ⟨⟨t', k1⟩, k2, k3⟩, ⟨r1, r2⟩ => by
  unfold putK putV putE
  simp only [k1, Value.isStr]
  by_cases q : (k == n) = true
  ·simp only [q, if_true]
   exact ⟨⟨⟨t', rfl⟩, k2, k3⟩, hu, r2⟩
  ·simp only [q, if_false, Bool.false_eq_true]
   obtain ⟨a, b⟩ := putE_ok (n := n) (t := t) hu k3 r2
   exact ⟨⟨⟨t', k1⟩, k2, a⟩, r1, b⟩
theorem putE_modify {n : Str} {h : Int} {key v : Value} : ∀ {es : List DictEntry}, (match es.findIdx? (·.key.isStr n) with
  | some i => (es.modify i (fun e => { e with val := v }), false)
  | none => (es ++ [⟨h, key, v⟩], true)) = putE n h key v es
 | [] => rfl
 | e :: es => by
  have ih := putE_modify (n := n) (h := h) (key := key) (v := v) (es := es)
  unfold putE
  by_cases q : e.key.isStr n = true
  ·rw [if_pos q, List.findIdx?_cons, q]; rfl
  ·rw [if_neg q, List.findIdx?_cons]
   rw [Bool.not_eq_true] at q
   rw [q, ← ih]
   simp only [Bool.false_eq_true, if_false]
   cases es.findIdx? (·.key.isStr n) <;> simp
theorem putE_len {n : Str} {h : Int} {key v : Value} : ∀ {es : List DictEntry}, (putE n h key v es).1.length ≤ es.length + 1
 | [] => by simp [putE]
 | e :: es => by
  unfold putE
  have := putE_len (n := n) (h := h) (key := key) (v := v) (es := es)
  split
  ·simp
  ·simp only [List.length_cons]; omega
theorem putName_dictOf {n : Str} {h : Int} {key v : Value} {es : List DictEntry} {m : Nat} : ∃ m', Obj.putName n h key v (dictOf es m) = dictOf (putE n h key v es).1 m' := by
 rw [Obj.putName_eq]
 have e := putE_modify (n := n) (h := h) (key := key) (v := v) (es := es)
 unfold Obj.putNameByArray
 simp only [dictOf, List.findIdx?_toArray]
 cases q : es.findIdx? (·.key.isStr n) with
 | some i => rw [q] at e; rw [← e]; exact ⟨m, by simp⟩
 | none => rw [q] at e; rw [← e]; exact ⟨m + 1, by simp⟩
structure SetOk (c : Cx) (C : Addr) (n : Str) : Prop where
 sa : findIn c.K (.ref C) "__setattr__" = some (some (.builtin "object.__setattr__"))
 over : plainOver c.K C = true
 taker : takerIn c.K C n = some none
 dict : (clsIn c.K C).any (·.hasDict) = true
theorem set_ref {a d C : Addr} {ks : List Str} {vs : List V} {n : Str} {v : V} (ok : SetOk c C n) (h1 : σ a = some (.inst C d)) (h2 : σ d = some (.dict ks vs)) (hz : ks.length ≤ 500)
  {P : Prt} {s : Shared} {x : Value} (R : Rep c env own F P ρ σ s) (rx : VR c.w.params P v x) (q : QU ρ (upd σ d (.dict (putK ks n) (putV ks vs n v)))) {E : Value → Shared → Prop} :
  wpAny (MM c) A (setAttr (.ref a) n x) (PU c env own F P QU) E s := by
 obtain ⟨o1, g1, rfl⟩ := R.toC.obj a _ h1
 obtain ⟨o2, g2, es, m, rfl, k, r⟩ := R.toC.obj d _ h2
 have I : InstAt s.heap a (instObj C d) C (some (dictOf es m)) := ⟨g1, rfl, rfl, g2⟩
 refine @set_plain _ _ _ _ _ _ _ _ _ _ _ _ _ R.K I ok.sa ?_
 have Rt := R.toks (s.toks + 1)
 generalize hs : ({ s with toks := s.toks + 1 } : Shared) = s₁ at Rt ⊢
 have hk : ({ s with toks := s.toks + 1 + 1 } : Shared) = { s₁ with toks := s₁.toks + 1 } := by rw [← hs]
 have g1' : s₁.heap.get? a = some (instObj C d) := by rw [← hs]; exact g1
 have g2' : s₁.heap.get? d = some (dictOf es m) := by rw [← hs]; exact g2
 have I' : InstAt s₁.heap a (instObj C d) C (some (dictOf es m)) := ⟨g1', rfl, rfl, g2'⟩
 refine osa_open Rt.K I' ok.over ok.taker fun b => ?_
 obtain ⟨cd, hc, hd'⟩ := any_some ok.dict
 refine wpAny_bind (wpAny_pure (wpAny_bind (wpAny_bind (wpAny_loadPart g1' (wpAny_bind ((looks_clsIn Rt.K hc).here ?_))))))
 rw [hd']
 refine wpAny_pure (a := some d) (wpAny_bind (wpAny_pure (wpAny_bind ?_)))
 unfold nsSet
 refine wpAny_bind (wpAny_bind (wpAny_askSetting (wpAny_pure (wpAny_bind (wpAny_mkText (wpAny_bind (wpAny_loadPart g2' ?_)))))))
 have cc : aRefKeyMayBeTheName n es.toArray = false := by
  rw [aRefKeyMayBeTheName_at]; simp only [List.any_toArray, k.noRef, Bool.and_false]
 dsimp only
 rw [cc]
 obtain ⟨m', e⟩ := putName_dictOf (n := n) (h := PyData.keyHash c.w.params n) (key := .str n s₁.toks) (v := x) (es := es) (m := m)
 have D' : (s₁.heap.update d (Obj.putName n (PyData.keyHash c.w.params n) (.str n s₁.toks) x)).get? d = some (dictOf (putE n (PyData.keyHash c.w.params n) (.str n s₁.toks) x es).1 m') := by
  rw [← e]; exact Heap.get?_update_self _ g2' (by rw [e]; rfl)
 refine wpAny_updatePart g2' ?_
 refine wpAny_bind (wpAny_lookBehind D' (pastItsLine_dict ?_) ?_)
 ·have := putE_len (n := n) (h := PyData.keyHash c.w.params n) (key := .str n s₁.toks) (v := x) (es := es)
  rw [List.size_toArray, sizeLine_eq]; have := k.length; omega
 refine wpAny_pure ?_
 obtain ⟨k1, k2⟩ := putE_ok (n := n) (t := s₁.toks) rx k r
 exact ⟨P, ρ, _, .refl _, Rt.turn (t := s₁.toks + 1) (x := .dict (putK ks n) (putV ks vs n v)) h2 (Heap.SameBut.update ..) D' ⟨_, _, rfl, k1, k2⟩, q⟩
end
end
section
open PySem.MeetsSeq PySem.SeqAt
mutual
noncomputable def dat : V → Option PyData
 | .none => some .none
 | .bool b => some (.bool b)
 | .int i => some (.int i)
 | .str x => some (.str x)
 | .tup l => (dats l).map .tuple
 | .lst l => (dats l).map .list
 | _ => none
noncomputable def dats : List V → Option (List PyData)
 | [] => some []
 | v :: r => match dat v, dats r with
  | some d, some ds => some (d :: ds)
  | _, _ => none
end
mutual
theorem VR.reads {W : Params} {P : Prt} {h : Heap} (k : ∀ a o, P a o → h.get? a = some o) : ∀ {v : V} {x : Value} {d : PyData}, VR W P v x → dat v = some d → ∃ as, Reads h x d as
 | .none, _, _, e, q => by cases e; cases q; exact ⟨_, .none⟩
 | .bool b, _, _, e, q => by cases e; cases q; exact ⟨_, .bool b⟩
 | .int i, _, _, ⟨t, e⟩, q => by cases e; cases q; exact ⟨_, .int i t⟩
 | .str i, _, _, ⟨t, e⟩, q => by cases e; cases q; exact ⟨_, .str i t⟩
 | .tup l, _, _, ⟨a, vs, n, e, p, r⟩, q => by
  obtain ⟨ds, h1, h2⟩ := Option.map_eq_some_iff.mp q
  obtain ⟨as, r'⟩ := VRs.reads k r h1
  cases e; cases h2
  exact ⟨_, .tuple (k _ _ p) rfl rfl r'⟩
 | .lst l, _, _, ⟨a, vs, n, e, p, r⟩, q => by
  obtain ⟨ds, h1, h2⟩ := Option.map_eq_some_iff.mp q
  obtain ⟨as, r'⟩ := VRs.reads k r h1
  cases e; cases h2
  exact ⟨_, .list (k _ _ p) rfl rfl r'⟩
 | .dic _ _, _, _, _, q => by cases q
 | .ins _ _ _, _, _, _, q => by cases q
 | .rng _ _ _, _, _, _, q => by cases q
 | .ref _, _, _, _, q => by cases q
 | .val _, _, _, _, q => by cases q
theorem VRs.reads {W : Params} {P : Prt} {h : Heap} (k : ∀ a o, P a o → h.get? a = some o) : ∀ {l : List V} {xs : List Value} {ds : List PyData}, VRs W P l xs → dats l = some ds → ∃ as, ReadsAll h xs ds as
 | [], [], _, _, q => by cases q; exact ⟨_, .nil⟩
 | v :: l, x :: xs, _, ⟨r1, r2⟩, q => by
  unfold dats at q
  cases h1 : dat v with
  | none => rw [h1] at q; cases q
  | some d =>
   cases h2 : dats l with
   | none => rw [h1, h2] at q; cases q
   | some ds =>
    rw [h1, h2] at q; cases q
    obtain ⟨as, k1⟩ := VR.reads k r1 h1
    obtain ⟨bs, k2⟩ := VRs.reads k r2 h2
    exact ⟨_, .cons k1 k2⟩
 | [], _ :: _, _, e, _ => e.elim
 | _ :: _, [], _, e, _ => e.elim
end
section
variable {c : Cx} {A : Around} {env : Env} {own : Bool} {F : Prt} {X : XP} {ρ : Loc} {σ : Sto} {Q : V → Sto → Prop} {QU : Loc → Sto → Prop}
theorem op_inL {a : V} {l : List V} {d : PyData} {ds : List PyData} (h1 : dat a = some d) (h2 : dats l = some ds) (c1 : PyData.canLayAll0 ds = true) (c2 : d.canLay0 = true) (hu : A.units + 1 + d.depth < cLine)
  (h : Q (.bool (ds.any fun y => PyData.eqv y d)) σ) : OP2 c A env own X ρ Q (compareOp .In) a (.lst l) σ := by
 refine ⟨?_⟩; rintro F P s x _ R ra rb
 obtain ⟨as, k1⟩ := ra.reads R.toC.sub h1
 obtain ⟨bs, k2⟩ := VR.reads (v := .lst l) R.toC.sub rb (show (dats l).map PyData.list = some (.list ds) by rw [h2]; rfl)
 exact @in_list_reads _ _ _ _ _ _ _ _ _ _ _ _ k2 k1 c1 c2 (by omega) ⟨P, .bool _, σ, .refl _, R, rfl, h⟩
theorem op_notInL {a : V} {l : List V} {d : PyData} {ds : List PyData} (h1 : dat a = some d) (h2 : dats l = some ds) (c1 : PyData.canLayAll0 ds = true) (c2 : d.canLay0 = true) (hu : A.units + 1 + d.depth < cLine)
  (h : Q (.bool (!ds.any fun y => PyData.eqv y d)) σ) : OP2 c A env own X ρ Q (compareOp .NotIn) a (.lst l) σ := by
 refine ⟨?_⟩; rintro F P s x _ R ra rb
 obtain ⟨as, k1⟩ := ra.reads R.toC.sub h1
 obtain ⟨bs, k2⟩ := VR.reads (v := .lst l) R.toC.sub rb (show (dats l).map PyData.list = some (.list ds) by rw [h2]; rfl)
 exact @notIn_list_reads _ _ _ _ _ _ _ _ _ _ _ _ k2 k1 c1 c2 (by omega) ⟨P, .bool _, σ, .refl _, R, rfl, h⟩
theorem op_notInT {a : V} {l : List V} {d : PyData} {ds : List PyData} (h1 : dat a = some d) (h2 : dats l = some ds) (c1 : PyData.canLayAll0 ds = true) (c2 : d.canLay0 = true) (hu : A.units + 1 + d.depth < cLine)
  (h : Q (.bool (!ds.any fun y => PyData.eqv y d)) σ) : OP2 c A env own X ρ Q (compareOp .NotIn) a (.tup l) σ := by
 refine ⟨?_⟩; rintro F P s x _ R ra rb
 obtain ⟨as, k1⟩ := ra.reads R.toC.sub h1
 obtain ⟨bs, k2⟩ := VR.reads (v := .tup l) R.toC.sub rb (show (dats l).map PyData.tuple = some (.tuple ds) by rw [h2]; rfl)
 exact @notIn_tuple_reads _ _ _ _ _ _ _ _ _ _ _ _ k2 k1 c1 c2 (by omega) ⟨P, .bool _, σ, .refl _, R, rfl, h⟩
theorem op_eqD {a b : V} {d e : PyData} (h1 : dat a = some d) (h2 : dat b = some e) (c1 : d.canLay0 = true) (c2 : e.canLay0 = true) (hu : A.units + min d.depth e.depth < cLine)
  (h : Q (.bool (PyData.eqv d e)) σ) : OP2 c A env own X ρ Q (compareOp .Eq) a b σ := by
 refine ⟨?_⟩; rintro F P s x y R ra rb
 obtain ⟨as, k1⟩ := ra.reads R.toC.sub h1
 obtain ⟨bs, k2⟩ := rb.reads R.toC.sub h2
 exact (rcAt_reads k1 k2 c1 c2 hu) pw c.w _ _ ⟨P, .bool _, σ, .refl _, R, rfl, h⟩
theorem op_neD {a b : V} {d e : PyData} (h1 : dat a = some d) (h2 : dat b = some e) (c1 : d.canLay0 = true) (c2 : e.canLay0 = true) (hu : A.units + min d.depth e.depth < cLine)
  (h : Q (.bool (!PyData.eqv d e)) σ) : OP2 c A env own X ρ Q (compareOp .NotEq) a b σ := by
 refine ⟨?_⟩; rintro F P s x y R ra rb
 obtain ⟨as, k1⟩ := ra.reads R.toC.sub h1
 obtain ⟨bs, k2⟩ := rb.reads R.toC.sub h2
 exact (rcNeAt_reads k1 k2 c1 c2 hu) pw c.w _ _ ⟨P, .bool _, σ, .refl _, R, rfl, h⟩
theorem EV_Sub {o i : Expr} {pos : Pos} (h : EV c A env own X ρ o (fun a => EV c A env own X ρ i (OP2 c A env own X ρ Q (subscriptTail o i) a)) σ) : EV c A env own X ρ (.Subscript o i pos) Q σ := .mk fun F P s R => by
 refine @Subscript_ _ _ _ _ _ _ _ _ _ (wpAny_mono (h.run F P s R) ?_ (fun zz zz x => x))
 rintro va s₁ ⟨P₁, a, σ₁, le₁, R₁, ra, h₁⟩
 refine wpAny_mono (h₁.run F P₁ s₁ R₁) ?_ (fun zz zz x => x.of le₁)
 rintro vb s₂ ⟨P₂, b, σ₂, le₂, R₂, rb, h₂⟩
 exact wpAny_mono (h₂.run F P₂ s₂ va vb R₂ (ra.mono le₂) rb) (fun v s₃ h₃ => h₃.of (le₁.trans le₂)) (fun zz zz x => x.of (le₁.trans le₂))
noncomputable def PlainAt (i : Expr) : Prop := ∀ a k u, subscripted i false (.ref a) (.int k u) = operate [.ref a, .int k u] (getItem (.ref a) (.int k u))
theorem idx_ok {k : Int} {n : Nat} {j : Nat} (h0 : 0 ≤ k) (h : k.toNat < n) : seqIndex? k n = some k.toNat := by
 obtain ⟨m, rfl⟩ := Int.eq_ofNat_of_zero_le h0
 have h' : m < n := h
 show (if _ then _ else _) = _
 simp only [Int.toNat_natCast]
 split <;> simp_all <;> omega
theorem sub_tup {l : List V} {k : Int} {v : V} {o i : Expr} (hv : l[k.toNat]? = some v) (h0 : 0 ≤ k) (hb : k < 2 ^ 63) (hs : PlainAt i) (h : Q v σ) : OP2 c A env own X ρ Q (subscriptTail o i) (.tup l) (.int k) σ := by
 refine ⟨?_⟩; rintro F P s _ _ R ⟨a, vs, n, rfl, p, r⟩ ⟨u, rfl⟩
 obtain ⟨x, hx, rx⟩ := r.get hv
 have ht : IsTup s.heap a vs.toList.toArray := ⟨_, R.toC.sub _ _ p, rfl, n, by simp⟩
 exact @item_tupleT _ _ _ _ _ _ _ _ _ _ _ _ _ _ ht (by omega) hb (idx_ok (j := 0) h0 (by rw [r.length]; exact (List.getElem?_eq_some_iff.mp hv).1)) hx ⟨P, v, σ, .refl _, R, rx, h⟩ (hs _ _ _)
theorem sub_lst {l : List V} {k : Int} {v : V} {o i : Expr} (hv : l[k.toNat]? = some v) (h0 : 0 ≤ k) (hb : k < 2 ^ 63) (hs : PlainAt i) (h : Q v σ) : OP2 c A env own X ρ Q (subscriptTail o i) (.lst l) (.int k) σ := by
 refine ⟨?_⟩; rintro F P s _ _ R ⟨a, vs, n, rfl, p, r⟩ ⟨u, rfl⟩
 obtain ⟨x, hx, rx⟩ := r.get hv
 have hl : s.heap.IsList a vs := ⟨_, R.toC.sub _ _ p, rfl, n, rfl⟩
 exact @tail_any _ _ _ _ _ _ _ _ _ _ _ _ _ hl.typeIs slot_list_getitem.lookup (@wpAny_getItem_list _ _ _ _ _ _ _ _ _ _ _ hl h0 hb (by simpa using hx) ⟨P, v, σ, .refl _, R, rx, h⟩) (hs _ _ _)
theorem sub_ref {a : Addr} {l : List V} {k : Int} {v : V} {o i : Expr} (hσ : σ a = some (.list l)) (hv : l[k.toNat]? = some v) (h0 : 0 ≤ k) (hb : k < 2 ^ 63) (hs : PlainAt i) (h : Q v σ) : OP2 c A env own X ρ Q (subscriptTail o i) (.ref a) (.int k) σ := by
 refine ⟨?_⟩; rintro F P s _ _ R rfl ⟨u, rfl⟩
 obtain ⟨ob, g, vs, n, rfl, r⟩ := R.toC.obj a _ hσ
 obtain ⟨x, hx, rx⟩ := r.get hv
 have hl : s.heap.IsList a vs := ⟨_, g, rfl, n, rfl⟩
 exact @tail_any _ _ _ _ _ _ _ _ _ _ _ _ _ hl.typeIs slot_list_getitem.lookup (@wpAny_getItem_list _ _ _ _ _ _ _ _ _ _ _ hl h0 hb (by simpa using hx) ⟨P, v, σ, .refl _, R, rx, h⟩) (hs _ _ _)
noncomputable def sliceV (l : List V) (lo hi : Option Int) : List V := (l.take (hi.elim l.length (clipAt l.length))).drop (lo.elim 0 (clipAt l.length))
theorem VRs.slice {W : Params} {P : Prt} {l : List V} {vs : Array Value} (r : VRs W P l vs.toList) (lo hi : Option Int) : VRs W P (sliceV l lo hi) (slicePick vs lo hi none).toList := by
 rw [slicePick_plain]
 have len : vs.size = l.length := by rw [← r.length, Array.length_toList]
 unfold sliceV
 rw [len]
 simp only [List.toList_toArray]
 first
  | exact (r.take _).drop _
  | (rw [← List.drop_take]; exact (r.take _).drop _)
  | (rw [List.drop_take]; exact (r.drop _).take _)
noncomputable def IsL (σ : Sto) (a : V) (l : List V) : Prop := a = .lst l ∨ ∃ ad, a = .ref ad ∧ σ ad = some (.list l)
theorem IsL.at {P : Prt} {s : Shared} {a : V} {l : List V} (R : Rep c env own F P ρ σ s) (h : IsL σ a l) {x : Value} (r : VR c.w.params P a x) : ∃ ad vs n, x = .ref ad ∧ s.heap.get? ad = some { cls := .type "list", data := .seq vs n } ∧ VRs c.w.params P l vs.toList := by
 rcases h with rfl | ⟨ad, rfl, h⟩
 ·obtain ⟨a, vs, n, rfl, p, r⟩ := r; exact ⟨a, vs, n, rfl, R.toC.sub _ _ p, r⟩
 ·cases r
  obtain ⟨ob, g, vs, n, rfl, r⟩ := R.toC.obj ad _ h
  exact ⟨ad, vs, n, rfl, g, r⟩
inductive PartV : V → Option Int → Prop
 | none : PartV .none none
 | int (i : Int) : PartV (.int i) (some i)
theorem PartV.is {W : Params} {P : Prt} {v : V} {k : Option Int} (h : PartV v k) {x : Value} (r : VR W P v x) : IsPart x k := by
 cases h
 ·cases r; exact .none
 ·obtain ⟨t, rfl⟩ := r; exact .int _ t
structure EO (c : Cx) (A : Around) (env : Env) (own : Bool) (X : XP) (ρ : Loc) (e : Option Expr) (Q : V → Sto → Prop) (σ : Sto) : Prop where
 run : ∀ F P s, Rep c env own F P ρ σ s → wpAny (MM c) A (evalPart e env) (PV c env own F ρ P Q) (PX X F P) s
theorem EO_none (h : Q .none σ) : EO c A env own X ρ none Q σ := .mk fun F P s R => wpAny_pure ⟨P, .none, σ, .refl _, R, rfl, h⟩
theorem EO_some {e : Expr} (h : EV c A env own X ρ e Q σ) : EO c A env own X ρ (some e) Q σ := .mk fun F P s R => h.run F P s R
theorem EV_Slice {o : Expr} {lo up : Option Expr} {p pos : Pos} (h : EV c A env own X ρ o (fun a => EO c A env own X ρ lo (fun b => EO c A env own X ρ up (fun d σ₃ =>
   ∃ l i j, IsL σ₃ a l ∧ PartV b i ∧ PartV d j ∧ l.length ≤ 1000000 ∧ Q (.lst (sliceV l i j)) σ₃))) σ)
  (ht : autoParam (∀ o' r, letTemporaryGo o o' r = pure ()) aInt) : EV c A env own X ρ (.Subscript o (.Slice lo up none p) pos) Q σ := .mk fun F P s R => by
 refine @wpAny_Subscript_list_slice _ _ _ _ _ _ _ _ _ _ _ _ (wpAny_mono (h.run F P s R) ?_ (fun zz zz x => x)) ht
 rintro va s₁ ⟨P₁, a, σ₁, le₁, R₁, ra, h₁⟩
 refine wpAny_mono (h₁.run F P₁ s₁ R₁) ?_ (fun zz zz x => x.of le₁)
 rintro vb s₂ ⟨P₂, b, σ₂, le₂, R₂, rb, h₂⟩
 refine wpAny_mono (h₂.run F P₂ s₂ R₂) ?_ (fun zz zz x => x.of (le₁.trans le₂))
 rintro vd s₃ ⟨P₃, d, σ₃, le₃, R₃, rd, l, i, j, h4, h5, h6, h7, h8⟩
 obtain ⟨ad, vs, n, rfl, g, r⟩ := h4.at R₃ (ra.mono (le₂.trans le₃))
 have len : vs.size = l.length := by rw [← r.length, Array.length_toList]
 refine ⟨ad, vs, i, j, rfl, ⟨_, g, rfl, n, rfl⟩, by rw [len, sizeLine_eq]; omega, h5.is (rb.mono le₃), h6.is rd, ?_⟩
 have R4 := R₃.push { cls := .type "slice", data := .fields #[vb, vd, .none] }
 have R5 := R4.pushP { cls := .type "list", data := .seq (slicePick vs i j none) } rfl
 have e : (s₃.heap.push { cls := .type "slice", data := .fields #[vb, vd, .none] }).objs.size = s₃.heap.objs.size + 1 := Heap.size_push ..
 rw [e] at R5
 refine ⟨_, .lst (sliceV l i j), σ₃, (le₁.trans (le₂.trans le₃)).trans (addP_le _ _ _), R5, ⟨_, _, 0, rfl, addP_self _ _ _, ?_⟩, h8⟩
 exact (r.slice i j).mono (addP_le _ _ _)
end
end
section
theorem PX.no {F P : Prt} {e : Value} {s : Shared} : ¬ PX No F P e s := fun ⟨_, _, h⟩ => h
theorem Room.deeper {n : Nat} {A : Around} (r : Room (n + 1) A) (env : Env) : Room n (A.deeper env) :=
 ⟨r.handled, by have := r.depth; show A.depth + 1 + n < _; omega, by have := r.units; show A.units + 3 + 8 * n + 8 < _; omega⟩
theorem Room.mono {n m : Nat} {A : Around} (r : Room n A) (h : m ≤ n) : Room m A :=
 ⟨r.handled, by have := r.depth; omega, by have := r.units; omega⟩
section
variable {c : Cx} {A : Around} {env : Env} {own : Bool} {X : XP} {ρ : Loc} {σ : Sto} {Q : V → Sto → Prop} {QU : Loc → Sto → Prop}
noncomputable def CalleeOk (c : Cx) (f : Value) : Prop := ∀ (h : Heap), (∀ b o, c.g.get? b = some o → h.get? b = some o) → ∃ k, (k = Keeper.frame ∨ k = Keeper.machine ∨ k = Keeper.boundFrame) ∧ Looks (MM c) h (keeperOf f) k
theorem callee_builtin {id : String} : CalleeOk c (.builtin id) := fun zz zz => ⟨.machine, .inr (.inl rfl), .now⟩
theorem callee_type {T : String} : CalleeOk c (.type T) := fun zz zz => ⟨.machine, .inr (.inl rfl), .now⟩
theorem callee_K {f : Value} (h : keepIn c.K f = true) : CalleeOk c f := fun h' k => keeps_K h h' (c.hK.keeps k)
theorem callee_fn {a : Addr} {o : Obj} {fd : FuncData} (ho : c.g.get? a = some o) (hd : o.data = .func fd) : CalleeOk c (.ref a) := fun h k =>
 ⟨.frame, .inl rfl, (Looks.ld (part := none) (k _ _ ho)).andThen (by rw [hd]; exact .now)⟩
theorem evalArgs_of {f : Value} {trees : List (Bool × Sem Value)} {M : Model} {E : Value → Shared → Prop} {s : Shared} {Q : Args → Shared → Prop} (hp : trees.any (·.1) = false)
  (h : wpAny M A (spliced trees) (fun vs s' => Q ⟨vs, []⟩ s') E s) : wpAny M A (evalArgs f true trees []) Q E s := by
 cases trees with
 | nil =>
  unfold evalArgs
  show wpAny M A (spliced [] >>= _) Q E s
  refine wpAny_bind (wpAny_mono h (fun vs s' h' => ?_) fun zz zz x => x)
  refine wpAny_bind (wpAny_pure ?_)
  exact wpAny_holding (wpAny_bind (wpAny_pure (wpAny_bind (wpAny_pure (wpAny_pure h')))))
 | cons t r =>
  obtain ⟨b, t⟩ := t
  cases b with
  | true => simp at hp
  | false => exact evalArgs_plain h
theorem CW_of {f : Value} {first : List Value} {pos : Pos} {es : List Expr} {F P : Prt} {s : Shared} (R : Rep c env own F P ρ σ s) (hc : CalleeOk c f) (hp : (backTo pos (starEach es env)).any (·.1) = false)
  (h : ES c A env own X ρ es (fun l σ₁ => ∀ F P s xs, Rep c env own F P ρ σ₁ s → VRs c.w.params P l xs → wpAny (MM c) A (call f (first ++ xs)) (PV c env own F ρ P Q) (PX X F P) s) σ) :
  wpAny (MM c) A (callWith pos f first (backTo pos (starEach es env)) []) (PV c env own F ρ P Q) (PX X F P) s := by
 refine callWith_of (P := fun h => ∀ b o, c.g.get? b = some o → h.get? b = some o) (by rw [hp]; rfl) (fun h k => hc h k) ?_
 refine evalArgs_of hp (wpAny_mono (h.run pos F P s R) ?_ fun zz zz x => x)
 rintro vs s₁ ⟨P₁, l, σ₁, le₁, R₁, rl, h₁⟩
 exact ⟨R₁.kept, wpAny_mono (h₁ F P₁ s₁ vs R₁ rl) (fun v s₂ h₂ => h₂.of le₁) fun zz zz x => x.of le₁⟩
inductive CallOn (c : Cx) (A : Around) (env : Env) (own : Bool) (X : XP) (ρ : Loc) (Q : V → Sto → Prop) (es : List Expr) (a : V) (σ : Sto) : Prop
 | mk (f : Value) (e : a = .val f) (ok : CalleeOk c f) (h : ES c A env own X ρ es (OPN c A env own X ρ Q (call f ·)) σ) : CallOn c A env own X ρ Q es a σ
theorem EV_Call {x : Str} {p pos : Pos} {es : List Expr} (h : EV c A env own X ρ (.Name x p) (CallOn c A env own X ρ Q es) σ)
  (hp : autoParam ((backTo pos (starEach es env)).any (·.1) = false) aRfl) : EV c A env own X ρ (.Call (.Name x p) es [] pos) Q σ := .mk fun F P s R => by
 refine @wpAny_Call_Name_kw _ _ _ _ _ _ _ _ _ _ _ (wpAny_mono (h.run F P s R) ?_ fun zz zz x => x)
 rintro va s₁ ⟨P₁, a, σ₁, le₁, R₁, ra, f, rfl, hc, h₁⟩
 cases ra
 refine wpAny_mono (CW_of (Q := Q) R₁ hc hp (.mk fun pos F P s R => wpAny_mono (h₁.run pos F P s R) ?_ fun zz zz x => x)) (fun v s₃ h₃ => h₃.of le₁) fun zz zz x => x.of le₁
 rintro vs s₂ ⟨P₂, l, σ₂, le₂, R₂, rl, h₂⟩
 exact ⟨P₂, l, σ₂, le₂, R₂, rl, fun F P s xs R rl => h₂.run F P s xs R rl⟩
theorem OPN_fn {n : Nat} {f : Value} {l : List V} (room : Room n A) (h : FN c n f l σ Q) : OPN c A env own X ρ Q (call f ·) l σ := .mk fun F P s xs R rl => by
 refine wpAny_call (codeAny_mono (h.run A _ P s xs room R.enter rl) ?_)
 intro r s₁ hr
 obtain ⟨v, rfl, P₁, V, σ₁, le, C, rv, q⟩ := hr.ok
 exact ⟨P₁, V, σ₁, le, R.back C le, rv, q⟩
theorem lookup_of_at {k : NameKind} {x : Str} : ∀ {names : List (Str × NameKind)} {i : Nat}, (names.map (·.1)).Nodup → names[i]? = some (x, k) → names.lookup x = some k
 | [], _, _, h => by simp at h
 | (y, k') :: r, 0, _, h => by
  simp only [List.getElem?_cons_zero, Option.some.injEq, Prod.mk.injEq] at h
  obtain ⟨rfl, rfl⟩ := h
  simp [List.lookup_cons]
 | (y, k') :: r, i + 1, nd, h => by
  rw [List.map_cons, List.nodup_cons] at nd
  rw [List.getElem?_cons_succ] at h
  have ne : (x == y) = false := by
   rw [beq_eq_false_iff_ne]
   rintro rfl
   exact nd.1 (List.mem_map.mpr ⟨(x, k), List.mem_of_getElem? h, rfl⟩)
  rw [List.lookup_cons, ne]
  exact lookup_of_at nd.2 h
theorem bindL_out {kind : Str → Option NameKind} {x : Str} : ∀ {bs : List (Str × Value)} {m : Str → Option Value}, x ∉ bs.map (·.1) → bindL kind bs m x = m x
 | [], _, _ => rfl
 | (n, v) :: r, m, h => by
  rw [List.map_cons, List.mem_cons, not_or] at h
  unfold bindL
  rw [bindL_out h.2]
  split
  ·show (if x = n then _ else _) = _
   rw [if_neg h.1]
  ·rfl
theorem bindC_out {kind : Str → Option NameKind} {x : Str} : ∀ {bs : List (Str × Value)} {m : Str → Option Value}, x ∉ bs.map (·.1) → bindC kind bs m x = m x
 | [], _, _ => rfl
 | (n, v) :: r, m, h => by
  rw [List.map_cons, List.mem_cons, not_or] at h
  unfold bindC
  rw [bindC_out h.2]
  split
  ·rfl
  ·show (if x = n then _ else _) = _
   rw [if_neg h.1]
theorem bindL_in {kind : Str → Option NameKind} {x : Str} (hk : kind x = some .local) : ∀ {bs : List (Str × Value)} {m : Str → Option Value} {i : Nat} {v : Value}, (bs.map (·.1)).Nodup → bs[i]? = some (x, v) → bindL kind bs m x = some v
 | [], _, _, _, _, h => by simp at h
 | (n, v) :: r, m, 0, _, nd, h => by
  simp only [List.getElem?_cons_zero, Option.some.injEq, Prod.mk.injEq] at h
  obtain ⟨rfl, rfl⟩ := h
  rw [List.map_cons, List.nodup_cons] at nd
  unfold bindL
  rw [bindL_out nd.1, if_pos hk]
  simp
 | (n, v) :: r, m, i + 1, _, nd, h => by
  rw [List.map_cons, List.nodup_cons] at nd
  rw [List.getElem?_cons_succ] at h
  unfold bindL
  exact bindL_in hk nd.2 h
theorem bindC_in {kind : Str → Option NameKind} {x : Str} (hk : kind x ≠ some .local) : ∀ {bs : List (Str × Value)} {m : Str → Option Value} {i : Nat} {v : Value}, (bs.map (·.1)).Nodup → bs[i]? = some (x, v) → bindC kind bs m x = some v
 | [], _, _, _, _, h => by simp at h
 | (n, v) :: r, m, 0, _, nd, h => by
  simp only [List.getElem?_cons_zero, Option.some.injEq, Prod.mk.injEq] at h
  obtain ⟨rfl, rfl⟩ := h
  rw [List.map_cons, List.nodup_cons] at nd
  unfold bindC
  rw [bindC_out nd.1, if_neg hk]
  simp
 | (n, v) :: r, m, i + 1, _, nd, h => by
  rw [List.map_cons, List.nodup_cons] at nd
  rw [List.getElem?_cons_succ] at h
  unfold bindC
  exact bindC_in hk nd.2 h
theorem cellsFrom_acc {x : Str} : ∀ {names : List (Str × NameKind)} {n : Nat} {acc : List (Str × Addr)}, (acc.lookup x).isSome = true → ((cellsFrom n names acc).lookup x).isSome = true
 | [], _, _, h => h
 | (y, k) :: r, n, acc, h => by
  unfold cellsFrom
  split
  ·refine cellsFrom_acc ?_
   rw [List.lookup_cons]
   split
   ·rfl
   ·exact h
  ·exact cellsFrom_acc h
theorem cellsFrom_some {x : Str} : ∀ {names : List (Str × NameKind)} {n : Nat} {acc : List (Str × Addr)}, (x, NameKind.cell) ∈ names → ((cellsFrom n names acc).lookup x).isSome = true
 | (y, k) :: r, n, acc, h => by
  unfold cellsFrom
  rcases List.mem_cons.mp h with e | h
  ·cases e
   rw [if_pos (by decide)]
   exact cellsFrom_acc (by simp [List.lookup_cons])
  ·split
   ·exact cellsFrom_some h
   ·exact cellsFrom_some h
theorem VRs.at {W : Params} {P : Prt} : ∀ {l : List V} {xs : List Value} {i : Nat}, VRs W P l xs → Slot W P l[i]? xs[i]?
 | [], [], _, _ => trivial
 | _ :: _, _ :: _, 0, ⟨a, _⟩ => a
 | _ :: r, _ :: s, i + 1, ⟨_, b⟩ => VRs.at (l := r) (xs := s) (i := i) b
 | [], _ :: _, _, e => e.elim
 | _ :: _, [], _, e => e.elim
structure FnIs (scope : Scope) (ks : List Str) : Prop where
 pre : (scope.names.map (·.1)).take ks.length = ks
 nd : (scope.names.map (·.1)).Nodup
 kinds : ∀ x ∈ scope.names.take ks.length, x.2 = .local ∨ x.2 = .cell
 free : ∀ x ∈ scope.names, x.2 ≠ .free
theorem Rep.frame {F P : Prt} {s s₁ : Shared} {scope : Scope} {ks : List Str} {l : List V} {ys : List Value} (C : RepC c F P σ s) (fi : FnIs scope ks) (hs : env.scope = scope) (hl : ks.length = l.length) (hv : VRs c.w.params P l ys)
  (x : InCallC s env.locals (bindL env.kindOf (ks.zip ys) fun zz => none) env.cells (bindC env.kindOf (ks.zip ys) fun zz => none) s₁) (hcl : env.cells = cellsFrom (s.heap.objs.size + 1) scope.names []) :
  Rep c env true F P (fun i => l[i]?) σ s₁ := by
 subst hs
 obtain ⟨h', tk, hs₁⟩ := x.toInCall.same
 have C₁ : RepC c F P σ s₁ := by
  have := C.grow (h' := h') (t := tk) (by have := x.toInCall.keep; rw [hs₁] at this; exact this)
  rw [← hs₁] at this; exact this
 have new := C.new x.toInCall.fresh
 have hz : (ks.zip ys).map (·.1) = ks := by
  rw [List.map_fst_zip]; rw [hl, hv.length]; exact Nat.le_refl _
 have hks : ∀ i z k, env.scope.names[i]? = some (z, k) → i < ks.length → ks[i]? = some z := fun i z k h hi => by
  have e : ((env.scope.names.map (·.1)).take ks.length)[i]? = ks[i]? := by rw [fi.pre]
  rw [List.getElem?_take_of_lt hi, List.getElem?_map, h] at e
  exact e.symm
 have hin : ∀ i z k, env.scope.names[i]? = some (z, k) → i < ks.length → ∀ y, ys[i]? = some y → (ks.zip ys)[i]? = some (z, y) := fun i z k h hi y hy => by
  rw [List.getElem?_zip_eq_some]; exact ⟨hks i z k h hi, hy⟩
 have hout : ∀ i z k, LocAt env i z k → ¬ i < ks.length → z ∉ (ks.zip ys).map (·.1) := fun i z k h hi hm => by
  rw [hz] at hm
  obtain ⟨j, hj⟩ := List.getElem?_of_mem hm
  have hjl : j < ks.length := (List.getElem?_eq_some_iff.mp hj).1
  have e : ((env.scope.names.map (·.1)).take ks.length)[j]? = some z := by rw [fi.pre]; exact hj
  rw [List.getElem?_take_of_lt hjl, List.getElem?_map] at e
  obtain ⟨⟨z', k'⟩, e1, rfl⟩ := Option.map_eq_some_iff.mp e
  have := h.2.2 j k' e1
  omega
 have hnd : ((ks.zip ys).map (·.1)).Nodup := by
  rw [hz, ← fi.pre]; exact fi.nd.sublist (List.take_sublist _ _)
 refine ⟨C₁, ⟨⟨_, x.toInCall.ns, ?_⟩, new.2.1, new.2.2.1, new.1, new.2.2.2, ?_, ?_, fun h => by cases h⟩⟩
 ·intro i z hz'
  by_cases hi : i < ks.length
  ·have hy : i < ys.length := by rw [hv.length, ← hl]; exact hi
   have hy' : ys[i]? = some ys[i] := List.getElem?_eq_getElem hy
   show Slot _ _ l[i]? _
   rw [bindL_in hz'.1.1 hnd (hin i z _ hz'.2.1 hi _ hy'), ← hy']
   exact hv.at
  ·show Slot _ _ l[i]? _
   rw [bindL_out (hout i z _ hz' hi), List.getElem?_eq_none (by omega)]
   trivial
 ·intro i z hz'
  rcases hz' with hz' | hz'
  ·have hsome : ((cellsFrom (s.heap.objs.size + 1) env.scope.names []).lookup z).isSome = true := cellsFrom_some (List.mem_of_getElem? hz'.2.1)
   obtain ⟨a, ha⟩ := Option.isSome_iff_exists.mp hsome
   rw [← hcl] at ha
   refine ⟨a, _, ha, x.cell z a ha, ?_⟩
   have hnl : env.kindOf z ≠ some .local := by rw [hz'.1.1]; decide
   by_cases hi : i < ks.length
   ·have hy : i < ys.length := by rw [hv.length, ← hl]; exact hi
    have hy' : ys[i]? = some ys[i] := List.getElem?_eq_getElem hy
    show Slot _ _ l[i]? _
    rw [bindC_in hnl hnd (hin i z _ hz'.2.1 hi _ hy'), ← hy']
    exact hv.at
   ·show Slot _ _ l[i]? _
    rw [bindC_out (hout i z _ hz' hi), List.getElem?_eq_none (by omega)]
    trivial
  ·exact absurd rfl (fi.free _ (List.mem_of_getElem? hz'.2.1))
 ·intro _ i z hz' a ha
  have hab := x.above z a (mem_of_lookup ha)
  have new' := C.new (Nat.le_trans x.toInCall.fresh (Nat.le_of_lt hab))
  refine ⟨new'.2.1, new'.2.2.1, new'.1, Nat.ne_of_gt hab, new'.2.2.2, fun j y hy hya => ?_⟩
  have e := name_of_addr x.apart (mem_of_lookup ha) (mem_of_lookup hya)
  subst e
  rcases hy with hy | hy <;> rcases hz' with hz' | hz' <;> exact hz'.2.2 j _ hy.2.1
theorem FN_introC {n : Nat} {fa : Addr} {o : Obj} {fd : FuncData} {body : List Stmt} {l l' : List V} {ks : List Str}
  (ho : c.g.get? fa = some o) (hd : o.data = .func fd) (hcd : c.g.CodeRec fd.code fd.qualname) (hbody : fd.body = .stmts body)
  (hg : fd.globals = mainGlobals) (hb : fd.builtins = builtinsNs) (hclo : fd.closure = []) (hco : fd.scope.isCoroutine = false) (hgen : fd.scope.isGenerator = false) (hk : fd.scope.kind = .function)
  (fi : FnIs fd.scope ks) (hl : ks.length = l'.length)
  (hbind : ∀ s P xs, (∀ a o, c.g.get? a = some o → P a o) → (∀ a o, P a o → s.heap.get? a = some o) → VRs c.w.params P l xs → ∃ ys, BindsTo s fd ⟨xs, []⟩ (ks.zip ys) ∧ VRs c.w.params P l' ys)
  (hrun : ∀ A env, Room n A → EnvOk env → env.scope = fd.scope → env.code = fd.code ∧ env.qual = fd.qualname ++ ".<locals>." → SS c A env true (fun zz zz => False) (fun zz zz => False) Q No (fun zz σ' => Q .none σ') body (fun i => l'[i]?) σ) :
  FN c (n + 1) (.ref fa) l σ Q := .mk fun A F P s xs room C rl => by
 obtain ⟨ys, hbt, ry⟩ := hbind s P xs C.base C.sub rl
 have kept : ∀ b o, c.g.get? b = some o → s.heap.get? b = some o := fun b o e => C.sub b o (C.base b o e)
 refine codeAny_call_function (by have := room.depth; omega) (kept _ _ ho) hd hco hgen hbody (hcd.keeps kept) (hbt _ _ _ _ ?_)
 rw [hclo]
 refine wpAny_newFunctionEnv_cells hk ?_ ?_
 ·intro x hx
  obtain ⟨i, hi⟩ := List.getElem?_of_mem hx
  have hi' := List.getElem?_zip_eq_some.mp hi
  have hlt : i < ks.length := (List.getElem?_eq_some_iff.mp hi'.1).1
  have e : ((fd.scope.names.map (·.1)).take ks.length)[i]? = some x.1 := by rw [fi.pre]; exact hi'.1
  rw [List.getElem?_take_of_lt hlt, List.getElem?_map] at e
  obtain ⟨⟨z, k⟩, e1, e2⟩ := Option.map_eq_some_iff.mp e
  have e2 : z = x.1 := e2
  subst e2
  have lk := lookup_of_at fi.nd e1
  have hm : (x.1, k) ∈ fd.scope.names.take ks.length := List.mem_of_getElem? (i := i) (by rw [List.getElem?_take_of_lt hlt]; exact e1)
  rcases fi.kinds _ hm with q | q
  ·cases q; exact .inl lk
  ·cases q; exact .inr ⟨lk, cellsFrom_some (List.mem_of_getElem? e1)⟩
 ·intro env he s₁ x
  have hsc : env.scope = fd.scope := by rw [he]; rfl
  have hcl : env.cells = cellsFrom (s.heap.objs.size + 1) fd.scope.names [] := by rw [he]; rfl
  have R := Rep.frame C fi hsc hl ry x hcl
  refine ⟨(c.hlim.keeps R.kept), codeAny_func ?_⟩
  have ok : EnvOk env := ⟨by rw [hsc]; exact hk, by rw [he]; exact hg, by rw [he]; exact hb⟩
  refine wpAny_mono ((hrun (A.deeper env) env (room.deeper env) ok hsc ⟨by rw [he]; rfl, by rw [he]; rfl⟩).run F P s₁ R) ?_ fun zz zz x => (PX.no x).elim
  rintro f s₂ ⟨P₂, ρ₂, σ₂, le₂, R₂, q⟩
  cases f with
  | next => exact ⟨P₂, .none, σ₂, le₂, R₂.toC, rfl, q⟩
  | brk => exact q.elim
  | cont => exact q.elim
  | ret v => obtain ⟨V, rv, q⟩ := q; exact ⟨P₂, V, σ₂, le₂, R₂.toC, rv, q⟩
theorem FN_intro {n : Nat} {fa : Addr} {o : Obj} {fd : FuncData} {body : List Stmt} {l l' : List V} {ks : List Str}
  (ho : c.g.get? fa = some o) (hd : o.data = .func fd) (hcd : c.g.CodeRec fd.code fd.qualname) (hbody : fd.body = .stmts body)
  (hg : fd.globals = mainGlobals) (hb : fd.builtins = builtinsNs) (hclo : fd.closure = []) (hco : fd.scope.isCoroutine = false) (hgen : fd.scope.isGenerator = false) (hk : fd.scope.kind = .function)
  (fi : FnIs fd.scope ks) (hl : ks.length = l'.length)
  (hbind : ∀ s P xs, (∀ a o, c.g.get? a = some o → P a o) → (∀ a o, P a o → s.heap.get? a = some o) → VRs c.w.params P l xs → ∃ ys, BindsTo s fd ⟨xs, []⟩ (ks.zip ys) ∧ VRs c.w.params P l' ys)
  (hrun : ∀ A env, Room n A → EnvOk env → env.scope = fd.scope → SS c A env true (fun zz zz => False) (fun zz zz => False) Q No (fun zz σ' => Q .none σ') body (fun i => l'[i]?) σ) :
  FN c (n + 1) (.ref fa) l σ Q := FN_introC ho hd hcd hbody hg hb hclo hco hgen hk fi hl hbind fun A env r ok hs zz => hrun A env r ok hs
end
end
section
section
variable {c : Cx} {A : Around} {env : Env} {own : Bool} {X : XP} {ρ : Loc} {σ : Sto} {N B C : Loc → Sto → Prop} {T : V → Sto → Prop} {QU : Loc → Sto → Prop}
theorem PF.of {F P P' : Prt} {f : Flow} {s' : Shared} (h : PF c env own F P' N B C T f s') (le : PLe P P') : PF c env own F P N B C T f s' :=
 match h with | ⟨P₁, ρ₁, σ₁, l, R, r⟩ => ⟨P₁, ρ₁, σ₁, le.trans l, R, r⟩
theorem PU.of {F P P' : Prt} {u : Unit} {s' : Shared} (h : PU c env own F P' QU u s') (le : PLe P P') : PU c env own F P QU u s' :=
 match h with | ⟨P₁, ρ₁, σ₁, l, R, r⟩ => ⟨P₁, ρ₁, σ₁, le.trans l, R, r⟩
theorem store_local {F P : Prt} {s : Shared} {i : Nat} {x : Str} {v : V} {y : Value} {E : Value → Shared → Prop} (ok : EnvOk env) (hx : LocAt env i x .local) (R : Rep c env own F P ρ σ s) (rv : VR c.w.params P v y) (q : QU (upl ρ i v) σ) :
  wpAny (MM c) A (storeName env x y) (PU c env own F P QU) E s := by
 obtain ⟨m, hm, hs⟩ := R.toL.ns
 refine wpAny_storeName_local hx.1.1 hm (fun h' hn hsb => ⟨P, _, σ, .refl _, R.setL hx rv hs hn hsb, q⟩) ?_
 rw [ok.kind]; rfl
theorem store_cell {F P : Prt} {s : Shared} {i : Nat} {x : Str} {v : V} {y : Value} {E : Value → Shared → Prop} (ok : EnvOk env) (hx : LocAt env i x .cell) (R : Rep c env true F P ρ σ s) (rv : VR c.w.params P v y) (q : QU (upl ρ i v) σ) :
  wpAny (MM c) A (storeName env x y) (PU c env true F P QU) E s := by
 obtain ⟨a, w, h1, h2, h3⟩ := R.toL.cell i x (.inl hx)
 exact wpAny_storeName_cell ok.kind hx.1.1 h1 h2 fun h' hn hsb => ⟨P, _, σ, .refl _, R.setC (.inl hx) rv h1 hn hsb, q⟩
noncomputable def VarAt (env : Env) (own : Bool) (i : Nat) (x : Str) : Prop := LocAt env i x .local ∨ (own = true ∧ LocAt env i x .cell)
theorem store_var {F P : Prt} {s : Shared} {i : Nat} {x : Str} {v : V} {y : Value} {E : Value → Shared → Prop} (ok : EnvOk env) (hx : VarAt env own i x) (R : Rep c env own F P ρ σ s) (rv : VR c.w.params P v y) (q : QU (upl ρ i v) σ) :
  wpAny (MM c) A (storeName env x y) (PU c env own F P QU) E s := by
 rcases hx with hx | ⟨rfl, hx⟩
 ·exact store_local ok hx R rv q
 ·exact store_cell ok hx R rv q
theorem AS_Name {i : Nat} {x : Str} {pos : Pos} {v : V} (ok : EnvOk env) (hx : VarAt env own i x) (q : QU (upl ρ i v) σ) : AS c A env own X QU (.Name x pos) ρ v σ :=
 .mk fun F P s y R rv => wpAny_assign_Name (store_var ok hx R rv q)
structure ASL (c : Cx) (A : Around) (env : Env) (own : Bool) (X : XP) (Q : Loc → Sto → Prop) (ts : List Expr) (ρ : Loc) (vs : List V) (σ : Sto) : Prop where
 run : ∀ F P s xs, Rep c env own F P ρ σ s → VRs c.w.params P vs xs → wpAny (MM c) A (assignInOrder ((assignEach ts env).map (·.2)) xs) (PU c env own F P Q) (PX X F P) s
theorem ASL_nil (h : QU ρ σ) : ASL c A env own X QU [] ρ [] σ := .mk fun F P s xs R r => wpAny_pure ⟨P, ρ, σ, .refl _, R, h⟩
theorem ASL_cons {t : Expr} {ts : List Expr} {v : V} {vs : List V} (h : AS c A env own X (fun ρ' => ASL c A env own X QU ts ρ' vs) t ρ v σ)
  (he : autoParam (assignEach (t :: ts) env = (false, assign t env) :: assignEach ts env) aRfl) : ASL c A env own X QU (t :: ts) ρ (v :: vs) σ := .mk fun F P s xs R r => by
 cases xs with
 | nil => exact r.elim
 | cons x xs =>
  rw [he]
  show wpAny _ A (do holding xs (assign t env x); assignInOrder _ xs) _ _ s
  refine wpAny_bind (wpAny_holding (wpAny_mono (h.run F P s x R r.1) ?_ fun zz zz x => x))
  rintro _ s₁ ⟨P₁, ρ₁, σ₁, le₁, R₁, h₁⟩
  exact wpAny_mono (h₁.run F P₁ s₁ xs R₁ (r.2.mono le₁)) (fun zz zz x => x.of le₁) fun zz zz x => x.of le₁
theorem Rep.ext {F P : Prt} {s : Shared} (R : Rep c env own F P ρ σ s) {h' : Heap} {t : Nat} (he : Heap.ExtBut s.heap.objs.size s.heap h') : Rep c env own F P ρ σ { s with heap := h', toks := t } :=
 R.grow fun a o h => he a o (Nat.ne_of_lt (Heap.lt_size h)) h
theorem AS_Tuple {ts : List Expr} {k : Nat} {pos : Pos} {l : List V} (hh : A.handled = none) (h : ASL c A env own X QU ts ρ l σ) (hn : autoParam ((assignEach ts env).length = l.length) aRfl)
  (hstar : autoParam ((assignEach ts env).findIdx? (·.1) = none) aRfl) : AS c A env own X QU (.Tuple ts k pos) ρ (.tup l) σ := .mk fun F P s x R rv => by
 obtain ⟨a, vs, n, rfl, p, r⟩ := rv
 refine wpAny_assign_Tuple hh ⟨_, R.toC.sub _ _ p, rfl, n, rfl⟩ (by rw [hn, ← r.length, Array.length_toList]) hstar fun h' he => ?_
 exact h.run F P _ _ (R.ext (t := s.toks) he) r
theorem SS_nil (h : N ρ σ) : SS c A env own B C T X N [] ρ σ := .mk fun F P s R => wpAny_execs_nil ⟨P, ρ, σ, .refl _, R, h⟩
theorem SS_cons {st : Stmt} {rest : List Stmt} (h : SX c A env own B C T X (SS c A env own B C T X N rest) st ρ σ) : SS c A env own B C T X N (st :: rest) ρ σ := .mk fun F P s R => by
 refine wpAny_execs_cons (wpAny_mono (h.run F P s R) ?_ fun zz zz x => x)
 rintro f s₁ ⟨P₁, ρ₁, σ₁, le₁, R₁, h₁⟩
 cases f with
 | next => exact wpAny_mono (h₁.run F P₁ s₁ R₁) (fun zz zz x => x.of le₁) fun zz zz x => x.of le₁
 | brk => exact ⟨P₁, ρ₁, σ₁, le₁, R₁, h₁⟩
 | cont => exact ⟨P₁, ρ₁, σ₁, le₁, R₁, h₁⟩
 | ret v => exact ⟨P₁, ρ₁, σ₁, le₁, R₁, h₁⟩
theorem SX.mono {st : Stmt} {N' B' C' : Loc → Sto → Prop} {T' : V → Sto → Prop} {X' : XP} (h : SX c A env own B' C' T' X' N' st ρ σ) (hN : ∀ ρ σ, N' ρ σ → N ρ σ) (hB : ∀ ρ σ, B' ρ σ → B ρ σ) (hC : ∀ ρ σ, C' ρ σ → C ρ σ) (hT : ∀ v σ, T' v σ → T v σ)
  (hX : ∀ F P e s, X' F P e s → X F P e s) : SX c A env own B C T X N st ρ σ := .mk fun F P s R => by
 refine wpAny_mono (h.run F P s R) ?_ fun e s' ⟨P', l, x⟩ => ⟨P', l, hX _ _ _ _ x⟩
 rintro f s₁ ⟨P₁, ρ₁, σ₁, le₁, R₁, h₁⟩
 refine ⟨P₁, ρ₁, σ₁, le₁, R₁, ?_⟩
 cases f with
 | next => exact hN _ _ h₁
 | brk => exact hB _ _ h₁
 | cont => exact hC _ _ h₁
 | ret v => obtain ⟨V, a, b⟩ := h₁; exact ⟨V, a, hT _ _ b⟩
theorem SS_mid {st : Stmt} {rest : List Stmt} (M : Loc → Sto → Prop) (h : SX c A env own B C T X M st ρ σ) (h' : ∀ ρ σ, M ρ σ → SS c A env own B C T X N rest ρ σ) : SS c A env own B C T X N (st :: rest) ρ σ :=
 SS_cons (h.mono h' (fun zz zz x => x) (fun zz zz x => x) (fun zz zz x => x) fun zz zz zz zz x => x)
theorem SX_If {t : Expr} {b o : List Stmt} {pos : Pos} (h : EB c A env own X ρ t (IfB (SS c A env own B C T X N b ρ) (SS c A env own B C T X N o ρ)) σ) : SX c A env own B C T X N (.If t b o pos) ρ σ := .mk fun F P s R => by
 refine wpAny_If (wpAny_mono (h.run F P s R) ?_ fun zz zz x => x)
 rintro x s₁ ⟨P₁, σ₁, le₁, R₁, h₁⟩
 cases x
 ·exact wpAny_mono (h₁.run F P₁ s₁ R₁) (fun zz zz x => x.of le₁) fun zz zz x => x.of le₁
 ·exact wpAny_mono (h₁.run F P₁ s₁ R₁) (fun zz zz x => x.of le₁) fun zz zz x => x.of le₁
theorem SX_Return {e : Expr} {pos : Pos} (h : EV c A env own X ρ e T σ) : SX c A env own B C T X N (.Return (some e) pos) ρ σ := .mk fun F P s R => by
 refine wpAny_Return_some (wpAny_mono (h.run F P s R) ?_ fun zz zz x => x)
 rintro v s₁ ⟨P₁, V, σ₁, le₁, R₁, rv, h₁⟩
 exact ⟨P₁, ρ, σ₁, le₁, R₁, V, rv, h₁⟩
theorem SX_Return_none {pos : Pos} (h : T .none σ) : SX c A env own B C T X N (.Return none pos) ρ σ := .mk fun F P s R =>
 wpAny_Return_none ⟨P, ρ, σ, .refl _, R, .none, rfl, h⟩
theorem SX_Break {pos : Pos} (h : B ρ σ) : SX c A env own B C T X N (.Break pos) ρ σ := .mk fun F P s R => wpAny_Break ⟨P, ρ, σ, .refl _, R, h⟩
theorem SX_Expr {e : Expr} {pos : Pos} (ok : EnvOk env) (h : EV c A env own X ρ e (fun v σ₁ => v = .none ∧ N ρ σ₁) σ) (hs : autoParam (swapsWith e none pos.line env = pure false) aRfl) : SX c A env own B C T X N (.Expr e pos) ρ σ := .mk fun F P s R => by
 refine wpAny_Expr (wpAny_mono (h.run F P s R) ?_ fun zz zz x => x) (by unfold interactive; rw [ok.kind]; rfl) hs
 rintro v s₁ ⟨P₁, V, σ₁, le₁, R₁, rv, rfl, h₁⟩
 cases rv
 exact ⟨P₁, ρ, σ₁, le₁, R₁, h₁⟩
theorem SX_Assign_Name {i : Nat} {x : Str} {p pos : Pos} {e : Expr} (ok : EnvOk env) (hx : VarAt env own i x) (h : EV c A env own X ρ e (fun v => N (upl ρ i v)) σ)
  (hs : autoParam (swapsWith e (some (.Name x p)) pos.line env = pure false) aRfl) : SX c A env own B C T X N (.Assign [.Name x p] e pos) ρ σ := .mk fun F P s R => by
 refine wpAny_Assign_Name (wpAny_mono (h.run F P s R) ?_ fun zz zz x => x) hs
 rintro v s₁ ⟨P₁, V, σ₁, le₁, R₁, rv, h₁⟩
 refine wpAny_mono (store_var (QU := N) ok hx R₁ rv h₁) ?_ fun zz zz x => x
 rintro _ s₂ ⟨P₂, ρ₂, σ₂, le₂, R₂, h₂⟩
 exact ⟨P₂, ρ₂, σ₂, le₁.trans le₂, R₂, h₂⟩
theorem SX_AugAssign_Name {i : Nat} {x : Str} {p pos : Pos} {op : Operator} {e : Expr} {v : V} (ok : EnvOk env) (hx : LocAt env i x .local) (hv : ρ i = some v)
  (h : EV c A env own X ρ e (OP2 c A env own X ρ (fun r => N (upl ρ i r)) (inplaceOp op) v) σ) : SX c A env own B C T X N (.AugAssign (.Name x p) op e pos) ρ σ := .mk fun F P s R => by
 obtain ⟨m, hm, hs⟩ := R.toL.ns
 have := hs i x hx
 rw [hv] at this
 cases q : m x with
 | none => rw [q] at this; exact this.elim
 | some y =>
  rw [q] at this
  refine wpAny_AugAssign_Name (wpAny_loadName_local ok.kind hx.1.1 hm q (wpAny_mono (h.run F P s R) ?_ fun zz zz x => x))
  rintro vb s₁ ⟨P₁, b, σ₁, le₁, R₁, rb, h₁⟩
  refine wpAny_mono (h₁.run F P₁ s₁ y vb R₁ (VR.mono le₁ this) rb) ?_ fun zz zz x => x.of le₁
  rintro vr s₂ ⟨P₂, r, σ₂, le₂, R₂, rr, h₂⟩
  refine wpAny_mono (store_local (QU := N) ok hx R₂ rr h₂) ?_ fun zz zz x => x
  rintro _ s₃ ⟨P₃, ρ₃, σ₃, le₃, R₃, h₃⟩
  exact ⟨P₃, ρ₃, σ₃, (le₁.trans le₂).trans le₃, R₃, h₃⟩
theorem SX_Assign_Tuple {ts : List Expr} {k : Nat} {p pos : Pos} {e : Expr} (h : EV c A env own X ρ e (AS c A env own X N (.Tuple ts k p) ρ) σ)
  (hs : autoParam (swapsWithSole [.Tuple ts k p] e pos.line env = pure false) aRfl) (hw : autoParam (swappedStores [.Tuple ts k p] e env = pure none) aRfl) : SX c A env own B C T X N (.Assign [.Tuple ts k p] e pos) ρ σ := .mk fun F P s R => by
 refine Assign_Tuple (wpAny_mono (h.run F P s R) ?_ fun zz zz x => x) hs hw
 rintro v s₁ ⟨P₁, V, σ₁, le₁, R₁, rv, h₁⟩
 refine wpAny_mono (h₁.run F P₁ s₁ v R₁ rv) ?_ fun zz zz x => x.of le₁
 rintro _ s₂ ⟨P₂, ρ₂, σ₂, le₂, R₂, h₂⟩
 exact ⟨P₂, ρ₂, σ₂, le₁.trans le₂, R₂, h₂⟩
theorem SX_Swap {ts : List Expr} {k i j : Nat} {p pos : Pos} {e : Expr} {x y : Str} (ok : EnvOk env) (hh : A.handled = none) (hx : LocAt env i x .local) (hy : LocAt env j y .local)
  (h : EV c A env own X ρ e (fun v σ₁ => ∃ a b, v = .tup [a, b] ∧ N (upl (upl ρ j b) i a) σ₁) σ)
  (hw : swappedStores [.Tuple ts k p] e env = pure (some [x, y])) (hs : autoParam (swapsWithSole [.Tuple ts k p] e pos.line env = pure false) aRfl) : SX c A env own B C T X N (.Assign [.Tuple ts k p] e pos) ρ σ := .mk fun F P s R => by
 refine Assign_Tuple_swapped (names := [x, y]) (wpAny_mono (h.run F P s R) ?_ fun zz zz x => x) hs hw
 rintro v s₁ ⟨P₁, V, σ₁, le₁, R₁, rv, va, vb, rfl, h₁⟩
 obtain ⟨t, vs, n, rfl, p1, r⟩ := rv
 obtain ⟨l⟩ := vs
 obtain ⟨ya, yb, rfl, ra, rb⟩ := r.two
 refine wpAny_unpackItems_tuple (items := #[ya, yb]) hh ⟨_, R₁.toC.sub _ _ p1, rfl, n, rfl⟩ fun h' he => ?_
 have R₂ := R₁.ext (t := s₁.toks) he
 show wpAny _ A (do holding [ya] (bindName env y yb); do holding [] (bindName env x ya); pure ()) _ _ _
 refine wpAny_bind (wpAny_holding (wpAny_bindName (wpAny_mono (store_local (QU := fun ρ' σ' => ρ' = upl ρ j vb ∧ σ' = σ₁) ok hy R₂ rb ⟨rfl, rfl⟩) ?_ fun zz zz x => x)))
 rintro _ s₃ ⟨P₃, ρ₃, σ₃, le₃, R₃, rfl, rfl⟩
 refine wpAny_bind (wpAny_holding (wpAny_bindName (wpAny_mono (store_local (QU := N) ok hx R₃ (ra.mono le₃) h₁) ?_ fun zz zz x => x)))
 rintro _ s₄ ⟨P₄, ρ₄, σ₄, le₄, R₄, h₄⟩
 exact wpAny_pure ⟨P₄, ρ₄, σ₄, (le₁.trans le₃).trans le₄, R₄, h₄⟩
theorem SX_Assign_Attr {o : Expr} {n : Str} {p pos : Pos} {e : Expr} (h : EV c A env own X ρ e (fun v => EV c A env own X ρ o (fun ov σ₂ => ∃ a d C' ks vs, ov = .ref a ∧ σ₂ a = some (.inst C' d) ∧ σ₂ d = some (.dict ks vs) ∧ SetOk c C' n ∧ ks.length ≤ 500 ∧ N ρ (upd σ₂ d (.dict (putK ks n) (putV ks vs n v))))) σ)
  (hs : autoParam (swapsWith e (some (.Attribute o n p)) pos.line env = pure false) aRfl) : SX c A env own B C T X N (.Assign [.Attribute o n p] e pos) ρ σ := .mk fun F P s R => by
 refine plainObj_wpAny_Assign_Attribute (wpAny_mono (h.run F P s R) ?_ fun zz zz x => x) hs
 rintro v s₁ ⟨P₁, V, σ₁, le₁, R₁, rv, h₁⟩
 refine wpAny_mono (h₁.run F P₁ s₁ R₁) ?_ fun zz zz x => x.of le₁
 rintro va s₂ ⟨P₂, a, σ₂, le₂, R₂, ra, a', d, C', ks, vs, rfl, h1, h2, ok, hz, q⟩
 cases ra
 refine wpAny_mono (set_ref (QU := N) ok h1 h2 hz R₂ (rv.mono le₂) q) ?_ fun zz zz x => x
 rintro _ s₃ ⟨P₃, ρ₃, σ₃, le₃, R₃, h₃⟩
 exact ⟨P₃, ρ₃, σ₃, (le₁.trans le₂).trans le₃, R₃, h₃⟩
structure OP3 (c : Cx) (A : Around) (env : Env) (own : Bool) (a b v : V) (ρ : Loc) (σ : Sto) (Q : Sto → Prop) (X : XP) : Prop where
 run : ∀ F P s x y z, Rep c env own F P ρ σ s → VR c.w.params P a x → VR c.w.params P b y → VR c.w.params P v z → wpAny (MM c) A (setItem x y z) (fun zz s' => ∃ P' σ', PLe P P' ∧ Rep c env own F P' ρ σ' s' ∧ Q σ') (PX X F P) s
theorem SX_Assign_Sub {o i : Expr} {p pos : Pos} {e : Expr} (h : EV c A env own X ρ e (fun v => EV c A env own X ρ o (fun a => EV c A env own X ρ i (fun b σ₃ => OP3 c A env own a b v ρ σ₃ (N ρ) X))) σ)
  (hs : autoParam (swapsWith e (some (.Subscript o i p)) pos.line env = pure false) aRfl) : SX c A env own B C T X N (.Assign [.Subscript o i p] e pos) ρ σ := .mk fun F P s R => by
 refine wpAny_Assign_Subscript (wpAny_mono (h.run F P s R) ?_ fun zz zz x => x) hs
 rintro v s₁ ⟨P₁, V, σ₁, le₁, R₁, rv, h₁⟩
 refine wpAny_mono (h₁.run F P₁ s₁ R₁) ?_ fun zz zz x => x.of le₁
 rintro va s₂ ⟨P₂, a, σ₂, le₂, R₂, ra, h₂⟩
 refine wpAny_mono (h₂.run F P₂ s₂ R₂) ?_ fun zz zz x => x.of (le₁.trans le₂)
 rintro vb s₃ ⟨P₃, b, σ₃, le₃, R₃, rb, h₃⟩
 refine wpAny_mono (h₃.run F P₃ s₃ va vb v R₃ (ra.mono le₃) rb (rv.mono (le₂.trans le₃))) ?_ fun zz zz x => x.of ((le₁.trans le₂).trans le₃)
 rintro _ s₄ ⟨P₄, σ₄, le₄, R₄, h₄⟩
 exact ⟨P₄, ρ, σ₄, ((le₁.trans le₂).trans le₃).trans le₄, R₄, h₄⟩
theorem SS_weak {st : List Stmt} {σ' : Sto} (le : SLe σ' σ) (h : SS c A env own B C T X N st ρ σ') : SS c A env own B C T X N st ρ σ := .mk fun F P s R => h.run F P s (R.weak le)
theorem SS_freezeL {st : List Stmt} {i : Nat} {a : Addr} {l : List V} {σ' : Sto} (hi : ρ i = some (.ref a)) (ha : σ a = some (.list l)) (le : SLe σ' σ) (hn : σ' a = none) (h : SS c A env own B C T X N st (upl ρ i (.lst l)) σ') :
  SS c A env own B C T X N st ρ σ := .mk fun F P s R => by
 obtain ⟨o, ho, R'⟩ := R.freeze ha le hn
 obtain ⟨vs, n, rfl, r⟩ := ho
 have R₂ := R.reL R' hi (v := .lst l) (fun x e => by cases e; exact ⟨a, vs, n, rfl, addP_self _ _ _, r.mono (addP_le _ _ _)⟩)
 exact wpAny_mono (h.run F _ s R₂) (fun zz zz x => x.of (addP_le _ _ _)) fun zz zz x => x.of (addP_le _ _ _)
theorem EV_freezeL {e : Expr} {Q : V → Sto → Prop} (h : EV c A env own X ρ e (fun v σ₁ => ∃ a l σ', v = .ref a ∧ σ₁ a = some (.list l) ∧ SLe σ' σ₁ ∧ σ' a = none ∧ Q (.lst l) σ') σ) : EV c A env own X ρ e Q σ := .mk fun F P s R => by
 refine wpAny_mono (h.run F P s R) ?_ fun zz zz x => x
 rintro v s₁ ⟨P₁, V, σ₁, le₁, R₁, rv, a, l, σ', rfl, ha, le, hn, q⟩
 obtain ⟨o, ho, R'⟩ := R₁.freeze ha le hn
 obtain ⟨vs, n, rfl, r⟩ := ho
 cases rv
 exact ⟨_, .lst l, σ', le₁.trans (addP_le _ _ _), R', ⟨a, vs, n, rfl, addP_self _ _ _, r.mono (addP_le _ _ _)⟩, q⟩
theorem EV.mono {e : Expr} {Q Q' : V → Sto → Prop} (h : EV c A env own X ρ e Q' σ) (k : ∀ v σ, Q' v σ → Q v σ) : EV c A env own X ρ e Q σ := .mk fun F P s R => by
 refine wpAny_mono (h.run F P s R) ?_ fun zz zz x => x
 rintro v s₁ ⟨P₁, V, σ₁, le₁, R₁, rv, q⟩
 exact ⟨P₁, V, σ₁, le₁, R₁, rv, k _ _ q⟩
end
end
section
section
variable {c : Cx} {A : Around} {env : Env} {own : Bool} {X : XP} {ρ : Loc} {σ : Sto} {N B C : Loc → Sto → Prop} {T : V → Sto → Prop} {QU : Loc → Sto → Prop}
theorem Rep.endF {F P : Prt} {s : Shared} {a₀ : Addr} {o₀ : Obj} (R : Rep c env own (addP F a₀ o₀) P ρ σ s) {h' : Heap} {t : Nat} (hn : ∀ o, ¬ F a₀ o) (hs : Heap.ExtBut a₀ s.heap h') (hcl : ∀ o, addP F a₀ o₀ a₀ o → ∀ v, o.data ≠ .cell v) :
  Rep c env own F P ρ σ { s with heap := h', toks := t } := by
 have hb : ∀ b o, b ≠ a₀ → s.heap.get? b = some o → h'.get? b = some o := fun b o hb h => hs b o hb h
 obtain ⟨f1, f2, f3⟩ := R.toC.offF a₀ o₀ (.inr ⟨rfl, rfl⟩)
 have hl : env.locals ≠ a₀ := fun e => R.toL.offF o₀ (.inr ⟨e, rfl⟩)
 have hc : ∀ i x b, CellAt env i x → env.cells.lookup x = some b → b ≠ a₀ := fun i x b hx hb e => by
  cases own with
  | true => exact (R.toL.cown rfl i x hx b hb).2.1 o₀ (.inr ⟨e, rfl⟩)
  | false =>
   obtain ⟨o, p⟩ := R.toL.ckept rfl i x hx b hb
   obtain ⟨b', v, h1, ⟨o1, ho1, hd1⟩, _⟩ := R.toL.cell i x hx
   rw [hb] at h1; cases h1
   obtain ⟨sl, q, _⟩ := R.toC.subF b o p
   rw [q] at ho1; cases ho1
   exact hcl o (e ▸ p) v hd1
 have RC : RepC c F P σ { s with heap := h', toks := t } := by
  refine ⟨fun b o p => hb b o (fun e => f2 o (e ▸ p)) (R.toC.sub b o p), fun b o p => ?_, R.toC.base, R.toC.off, fun b o p => R.toC.offF b o (.inl p), fun b x e => ?_, ?_, R.toC.tabσ, R.toC.tabP, R.toC.gens, R.toC.os⟩
  ·obtain ⟨sl, q, z⟩ := R.toC.subF b o (.inl p)
   exact ⟨sl, hb b _ (fun e => hn o (e ▸ p)) q, z⟩
  ·obtain ⟨o, h1, h2⟩ := R.toC.obj b x e
   exact ⟨o, hb b o (fun q => by rw [q, f1] at e; cases e) h1, h2⟩
  ·obtain ⟨m, hm, z⟩ := R.toC.tab
   exact ⟨m, hb _ _ (Ne.symm f3) hm, z⟩
 refine ⟨RC, R.toL.move (PLe.refl P) (fun o h => .rfl (hb _ o hl h)) (fun i x a hx ha o h => .rfl (hb _ o (hc i x a hx ha) h)) R.toL.offP (fun x p => R.toL.offF x (.inl p)) R.toL.offσ ?_ ?_⟩
 ·intro ho i x b hx hb
  obtain ⟨k1, k2, k3⟩ := R.toL.out ho i x b hx hb
  exact ⟨k1, fun y p => k2 y (.inl p), k3⟩
 ·intro ho i x b hx hb o p
  rcases p with p | ⟨e, _⟩
  ·exact p
  ·exact absurd e (hc i x b hx hb)
noncomputable def upFrom (x step : Int) : Nat → List V
 | 0 => []
 | n + 1 => .int x :: upFrom (x + step) step n
inductive ItObj (W : Params) (P : Prt) : Obj → List V → Prop
 | list {a : Addr} {vs : Array Value} {n i : Nat} {l : List V} {o : Obj} (hc : o.cls = .type "list_iterator") (hd : o.data = .fields #[.ref a, .int i 0]) (p : P a { cls := .type "list", data := .seq vs n }) (r : VRs W P l (vs.toList.drop i)) : ItObj W P o l
 | tuple {a : Addr} {vs : Array Value} {n i : Nat} {l : List V} {o : Obj} (hc : o.cls = .type "tuple_iterator") (hd : o.data = .fields #[.ref a, .int i 0]) (p : P a { cls := .type "tuple", data := .seq vs n }) (r : VRs W P l (vs.toList.drop i)) : ItObj W P o l
 | range {x step : Int} {n : Nat} : ItObj W P { cls := .type "range_iterator", dict := none, data := .fields #[rawInt x, rawInt (n : Int), rawInt step], slots := #[] } (upFrom x step n)
theorem ItObj.mono {W : Params} {P P' : Prt} {o : Obj} {l : List V} (h : ItObj W P o l) (le : PLe P P') : ItObj W P' o l := by
 cases h with
 | list hc hd p r => exact .list hc hd (le _ _ p) (r.mono le)
 | tuple hc hd p r => exact .tuple hc hd (le _ _ p) (r.mono le)
 | range => exact .range
theorem ItObj.fields {W : Params} {P : Prt} {o : Obj} {l : List V} (h : ItObj W P o l) : ∃ vs, o.data = .fields vs := by
 cases h with
 | list hc hd p r => exact ⟨_, hd⟩
 | tuple hc hd p r => exact ⟨_, hd⟩
 | range => exact ⟨_, rfl⟩
theorem ItObj.noCell {W : Params} {P F : Prt} {a : Addr} {o : Obj} {l : List V} (h : ItObj W P o l) (hn : ∀ o, ¬ F a o) : ∀ o', addP F a o a o' → ∀ v, o'.data ≠ .cell v := by
 rintro o' (p | ⟨_, rfl⟩) v e
 ·exact hn _ p
 ·obtain ⟨vs, q⟩ := h.fields
  rw [q] at e; cases e
theorem Rep.itAt {F P : Prt} {s : Shared} {a : Addr} {o : Obj} {l : List V} (R : Rep c env own (addP F a o) P ρ σ s) (h : ItObj c.w.params P o l) : s.heap.get? a = some o := by
 obtain ⟨vs, q⟩ := h.fields
 exact (R.toC.subF a o (.inr ⟨rfl, rfl⟩)).fields q
theorem drop_cons {α : Type} {l : List α} {i : Nat} {x : α} {r : List α} (h : l.drop i = x :: r) : l[i]? = some x ∧ l.drop (i + 1) = r := by
 have h1 : (l.drop i)[0]? = some x := by rw [h]; rfl
 rw [List.getElem?_drop] at h1
 refine ⟨h1, ?_⟩
 rw [← List.tail_drop, h]; rfl
theorem drop_nil {α : Type} {l : List α} {i : Nat} (h : l.drop i = []) : l[i]? = none := by
 rw [List.getElem?_eq_none_iff]; exact List.drop_eq_nil_iff.mp h
set_option tactic.hygienic true in
theorem next_item {F P : Prt} {s : Shared} {it : Addr} {o : Obj} {v : V} {l : List V} {E : Value → Shared → Prop} (R : Rep c env own (addP F it o) P ρ σ s) (hi : ItObj c.w.params P o (v :: l)) (hn : ∀ o, ¬ F it o) :
  wpAny (MM c) A (pyNext (.ref it)) (fun r s' => ∃ x o', r = some x ∧ VR c.w.params P v x ∧ Rep c env own (addP F it o') P ρ σ s' ∧ ItObj c.w.params P o' l) E s := by
 have g := R.itAt hi
 have nc := hi.noCell hn
 generalize hvl : v :: l = vl at hi
 cases hi with
 | list hc hd p r =>
  rename_i a vs n i
  cases hvl
  match hq : vs.toList.drop i, r with
  | x :: xs, ⟨r1, r2⟩ =>
   obtain ⟨e1, e2⟩ := drop_cons hq
   refine wpAny_pyNext_list_item ⟨o, g, hc, hd⟩ ⟨_, R.toC.sub _ _ p, rfl, n, rfl⟩ (x := x) (by simpa using e1) fun h' hit hs => ?_
   obtain ⟨o', g', hc', hd'⟩ := hit
   exact ⟨x, o', rfl, r1, R.turnF (t := s.toks) hn hs.extBut (.rfl g') nc, .list hc' hd' p (by rw [e2]; exact r2)⟩
 | tuple hc hd p r =>
  rename_i a vs n i
  cases hvl
  match hq : vs.toList.drop i, r with
  | x :: xs, ⟨r1, r2⟩ =>
   obtain ⟨e1, e2⟩ := drop_cons hq
   refine wpAny_pyNext_tuple_item ⟨o, g, hc, hd⟩ ⟨_, R.toC.sub _ _ p, rfl, n, rfl⟩ (x := x) (by simpa using e1) fun h' hit hs => ?_
   obtain ⟨o', g', hc', hd'⟩ := hit
   exact ⟨x, o', rfl, r1, R.turnF (t := s.toks) hn hs.extBut (.rfl g') nc, .tuple hc' hd' p (by rw [e2]; exact r2)⟩
 | range =>
  rename_i x step n
  cases n with
  | zero => cases hvl
  | succ n =>
   cases hvl
   refine wpAny_pyNext_range_item g (by omega) fun h' hit hs => ?_
   have hit' : h'.get? it = some { cls := .type "range_iterator", dict := none, data := .fields #[rawInt (x + step), rawInt (n : Int), rawInt step], slots := #[] } := by
    have : ((n + 1 : Nat) : Int) - 1 = (n : Int) := by omega
    rw [← this]; exact hit
   exact ⟨_, _, rfl, ⟨_, rfl⟩, R.turnF (t := s.toks + 1) hn hs.extBut (.rfl hit') nc, .range⟩
set_option tactic.hygienic true in
theorem next_end {F P : Prt} {s : Shared} {it : Addr} {o : Obj} {E : Value → Shared → Prop} (hh : A.handled = none) (R : Rep c env own (addP F it o) P ρ σ s) (hi : ItObj c.w.params P o []) (hn : ∀ o, ¬ F it o) :
  wpAny (MM c) A (pyNext (.ref it)) (fun r s' => r = none ∧ Rep c env own F P ρ σ s') E s := by
 have g := R.itAt hi
 have nc := hi.noCell hn
 generalize hvl : ([] : List V) = vl at hi
 cases hi with
 | list hc hd p r =>
  rename_i a vs n i
  cases hvl
  match hq : vs.toList.drop i, r with
  | [], _ =>
   exact wpAny_pyNext_list_end hh ⟨o, g, hc, hd⟩ ⟨_, R.toC.sub _ _ p, rfl, n, rfl⟩ (by simpa using drop_nil hq) fun h' hs => ⟨rfl, R.endF (t := s.toks) hn hs nc⟩
 | tuple hc hd p r =>
  rename_i a vs n i
  cases hvl
  match hq : vs.toList.drop i, r with
  | [], _ =>
   exact wpAny_pyNext_tuple_end hh ⟨o, g, hc, hd⟩ ⟨_, R.toC.sub _ _ p, rfl, n, rfl⟩ (by simpa using drop_nil hq) fun h' hs => ⟨rfl, R.endF (t := s.toks) hn hs nc⟩
 | range =>
  rename_i x step n
  cases n with
  | succ n => cases hvl
  | zero => exact wpAny_pyNext_range_end hh g (by simp) fun h' hs => ⟨rfl, R.endF (t := s.toks) hn hs nc⟩
inductive Its : V → List V → Prop
 | lst (l : List V) : Its (.lst l) l
 | tup (l : List V) : Its (.tup l) l
 | rng {a b z : Int} {n : Nat} (hs : Builtin.Range.small a b z = true) (hn : Builtin.Range.rangeSize a b z = n) : Its (.rng a b z) (upFrom a z n)
theorem iter_raw {F P : Prt} {s : Shared} {v : V} {l : List V} {x : Value} {E : Value → Shared → Prop} (R : Rep c env own F P ρ σ s) (hi : Its v l) (r : VR c.w.params P v x) :
  wpAny (MM c) A (pyIter x) (fun y s' => ∃ o, y = .ref s.heap.objs.size ∧ s' = { s with heap := s.heap.push o } ∧ o.isFreed = false ∧ ItObj c.w.params P o l) E s := by
 cases hi with
 | lst l =>
  obtain ⟨a, vs, n, rfl, p, r⟩ := r
  exact wpAny_pyIter_list ⟨_, R.toC.sub _ _ p, rfl, n, rfl⟩ ⟨_, rfl, rfl, rfl, .list (i := 0) rfl rfl p r⟩
 | tup l =>
  obtain ⟨a, vs, n, rfl, p, r⟩ := r
  exact wpAny_pyIter_tuple ⟨_, R.toC.sub _ _ p, rfl, n, rfl⟩ ⟨_, rfl, rfl, rfl, .tuple (i := 0) rfl rfl p r⟩
 | rng hs hn =>
  obtain ⟨a, t, u, w, rfl, p⟩ := r
  refine wpAny_pyIter_range (R.toC.sub _ _ p) hs ?_
  rw [hn]
  exact ⟨_, rfl, rfl, rfl, .range⟩
theorem iter_of {F P : Prt} {s : Shared} {v : V} {l : List V} {x : Value} {E : Value → Shared → Prop} (R : Rep c env own F P ρ σ s) (hi : Its v l) (r : VR c.w.params P v x) :
  wpAny (MM c) A (pyIter x) (fun y s' => ∃ it o, y = .ref it ∧ (∀ o, ¬ F it o) ∧ Rep c env own (addP F it o) P ρ σ s' ∧ ItObj c.w.params P o l) E s := by
 refine wpAny_mono (iter_raw R hi r) ?_ fun zz zz x => x
 rintro y s' ⟨o, rfl, rfl, hf, io⟩
 exact ⟨_, o, rfl, (R.toC.new (Nat.le_refl _)).2.2.1, R.pushF o hf, io⟩
theorem go_it {F P : Prt} {s : Shared} {it : Addr} {o : Obj} {l : List V} {t : Expr} {v : Value} {E : Value → Shared → Prop} {Q : Unit → Shared → Prop} (R : Rep c env own (addP F it o) P ρ σ s) (hi : ItObj c.w.params P o l) (h : Q () s) : wpAny (MM c) A (letOwnedTupleGo t (.ref it) v) Q E s := by
 have g := R.itAt hi
 have key : ∃ n vs, o.cls = .type n ∧ o.data = .fields vs ∧ ["enumerate", "zip", "dict_itemiterator", "dict_reverseitemiterator", "odict_iterator", "itertools.zip_longest", "itertools.pairwise"].contains n = false := by
  cases hi with
  | list hc hd p r => exact ⟨_, _, hc, hd, by decide⟩
  | tuple hc hd p r => exact ⟨_, _, hc, hd, by decide⟩
  | range => exact ⟨_, _, rfl, rfl, by decide⟩
 obtain ⟨n, vs, h1, h2, h3⟩ := key
 have main : wpAny (MM c) A (do
   let (.ref r, .ref a) := (Value.ref it, v) | return
   let o ← load r
   match o.cls, o.data with
   | .type n, .fields vs =>
    if ["enumerate", "zip", "dict_itemiterator", "dict_reverseitemiterator", "odict_iterator", "itertools.zip_longest", "itertools.pairwise"].contains n && vs[0]? == some (rawInt a) then
     rule "for.unpacks-the-owned-tuple"
     updateField r 0 .none
   | _, _ => pure ()) Q E s := by
  cases v with
  | ref a =>
   refine wpAny_bind (wpAny_load g ?_)
   rw [h1, h2]
   dsimp only
   rw [h3]
   exact wpAny_pure h
  | _ => exact wpAny_pure h
 unfold letOwnedTupleGo
 cases t <;> first | exact wpAny_pure h | exact main
theorem forLoopG {R : Result → Shared → Prop} {target : Expr} {it : Value} {body orelse : List Stmt} {env : Env} (I : Nat → Shared → Prop)
  (turn : ∀ n s, I n s → ∀ K : Shared → Prop, (∀ m s, m < n → I m s → K s) → wpAny (MM c) A (pyNext it) (fun r s₁ => match r with
   | none => wpAny (MM c) A (execs orelse env) (fun f s₃ => R (.ok f) s₃) (notedBy (MM c) A env fun e s' => R (.error e) s') s₁
   | some v => wpAny (MM c) A (letOwnedTupleGo target it v) (fun zz s₁ => wpAny (MM c) A (assign target env v) (fun zz s₂ => wpAny (MM c) A (execs body env) (fun f s₃ => match f with
     | .next | .cont => K s₃
     | .brk => R (.ok .next) s₃
     | .ret v => R (.ok (.ret v)) s₃) (notedBy (MM c) A env fun e s' => R (.error e) s') s₂) (notedBy (MM c) A env fun e s' => R (.error e) s') s₁) (notedBy (MM c) A env fun e s' => R (.error e) s') s₁) (notedBy (MM c) A env fun e s' => R (.error e) s') s)
  (n : Nat) {s : Shared} (h : I n s) : codeAny (MM c) A (.forLoop target it body orelse env) R s := by
 refine codeAny_loop' rfl I (fun n s hI => ?_) n h
 show wpAny _ _ ((forTurn target it body orelse env).onRaise (fun x => do noteFrame x env; theTreesLotGoes x)) _ _ s
 refine wpAny_noted ?_
 simp only [forTurn]
 refine wpAny_bind (wpAny_standAt (wpAny_bind (wpAny_onRaise (wpAny_mono (turn n s hI (fun s' => ∃ m, m < n ∧ I m s') fun m s hm h => ⟨m, hm, h⟩) (fun r s₁ h₁ => ?_) fun zz zz h' => wpAny_standAt h'))))
 cases r with
 | none => exact wpAny_pure (.inr ⟨rfl, codeAny_block h₁⟩)
 | some v =>
  refine wpAny_bind (wpAny_mono h₁ (fun zz s₁' h₁' => ?_) fun zz zz h' => h')
  refine wpAny_bind (wpAny_mono h₁' (fun zz s₂ h₂ => wpAny_bind (wpAny_mono h₂ (fun f s₃ h₃ => ?_) fun zz zz h' => h')) fun zz zz h' => h')
  cases f with
  | next => exact wpAny_pure (.inl ⟨rfl, h₃⟩)
  | cont => exact wpAny_pure (.inl ⟨rfl, h₃⟩)
  | brk => exact wpAny_pure h₃
  | ret v => exact wpAny_pure h₃
theorem exl1 {α0 : Type} {P : α0 → Prop} {p : Prop} (h : ∃ x0, P x0) (k : ∀ x0, P x0 → p) : p := by
 obtain ⟨x0, h⟩ := h; exact k x0 h
theorem exl2 {α0 α1 : Type} {P : α0 → α1 → Prop} {p : Prop} (h : ∃ x0 x1, P x0 x1) (k : ∀ x0 x1, P x0 x1 → p) : p := by
 obtain ⟨x0, x1, h⟩ := h; exact k x0 x1 h
theorem exl3 {α0 α1 α2 : Type} {P : α0 → α1 → α2 → Prop} {p : Prop} (h : ∃ x0 x1 x2, P x0 x1 x2) (k : ∀ x0 x1 x2, P x0 x1 x2 → p) : p := by
 obtain ⟨x0, x1, x2, h⟩ := h; exact k x0 x1 x2 h
theorem exl4 {α0 α1 α2 α3 : Type} {P : α0 → α1 → α2 → α3 → Prop} {p : Prop} (h : ∃ x0 x1 x2 x3, P x0 x1 x2 x3) (k : ∀ x0 x1 x2 x3, P x0 x1 x2 x3 → p) : p := by
 obtain ⟨x0, x1, x2, x3, h⟩ := h; exact k x0 x1 x2 x3 h
theorem andl4 {p0 p1 p2 p3 p : Prop} (h : p0 ∧ p1 ∧ p2 ∧ p3) (k : p0 → p1 → p2 → p3 → p) : p := by
 obtain ⟨h0, h1, h2, h3⟩ := h; exact k h0 h1 h2 h3
theorem andl5 {p0 p1 p2 p3 p4 p : Prop} (h : p0 ∧ p1 ∧ p2 ∧ p3 ∧ p4) (k : p0 → p1 → p2 → p3 → p4 → p) : p := by
 obtain ⟨h0, h1, h2, h3, h4⟩ := h; exact k h0 h1 h2 h3 h4
theorem andl6 {p0 p1 p2 p3 p4 p5 p : Prop} (h : p0 ∧ p1 ∧ p2 ∧ p3 ∧ p4 ∧ p5) (k : p0 → p1 → p2 → p3 → p4 → p5 → p) : p := by
 obtain ⟨h0, h1, h2, h3, h4, h5⟩ := h; exact k h0 h1 h2 h3 h4 h5
theorem andl7 {p0 p1 p2 p3 p4 p5 p6 p : Prop} (h : p0 ∧ p1 ∧ p2 ∧ p3 ∧ p4 ∧ p5 ∧ p6) (k : p0 → p1 → p2 → p3 → p4 → p5 → p6 → p) : p := by
 obtain ⟨h0, h1, h2, h3, h4, h5, h6⟩ := h; exact k h0 h1 h2 h3 h4 h5 h6
theorem andl8 {p0 p1 p2 p3 p4 p5 p6 p7 p : Prop} (h : p0 ∧ p1 ∧ p2 ∧ p3 ∧ p4 ∧ p5 ∧ p6 ∧ p7) (k : p0 → p1 → p2 → p3 → p4 → p5 → p6 → p7 → p) : p := by
 obtain ⟨h0, h1, h2, h3, h4, h5, h6, h7⟩ := h; exact k h0 h1 h2 h3 h4 h5 h6 h7
theorem andl9 {p0 p1 p2 p3 p4 p5 p6 p7 p8 p : Prop} (h : p0 ∧ p1 ∧ p2 ∧ p3 ∧ p4 ∧ p5 ∧ p6 ∧ p7 ∧ p8) (k : p0 → p1 → p2 → p3 → p4 → p5 → p6 → p7 → p8 → p) : p := by
 obtain ⟨h0, h1, h2, h3, h4, h5, h6, h7, h8⟩ := h; exact k h0 h1 h2 h3 h4 h5 h6 h7 h8
theorem andl10 {p0 p1 p2 p3 p4 p5 p6 p7 p8 p9 p : Prop} (h : p0 ∧ p1 ∧ p2 ∧ p3 ∧ p4 ∧ p5 ∧ p6 ∧ p7 ∧ p8 ∧ p9) (k : p0 → p1 → p2 → p3 → p4 → p5 → p6 → p7 → p8 → p9 → p) : p := by
 obtain ⟨h0, h1, h2, h3, h4, h5, h6, h7, h8, h9⟩ := h; exact k h0 h1 h2 h3 h4 h5 h6 h7 h8 h9
structure Into (I K : Loc → Sto → Prop) : Prop where
 go : ∀ ρ σ, I ρ σ → K ρ σ
structure Begin (I : List V → Loc → Sto → Prop) (ρ : Loc) (K : List V → Sto → Prop) : Prop where
 go : ∀ l σ, I l ρ σ → K l σ
inductive FInv (c : Cx) (env : Env) (own : Bool) (F : Prt) (itr : Addr) (P : Prt) (I : List V → Loc → Sto → Prop) (n : Nat) (s' : Shared) : Prop
 | mk (P' : Prt) (ρ' : Loc) (σ' : Sto) (o' : Obj) (l' : List V) (hn : n = l'.length) (le : PLe P P') (R : Rep c env own (addP F itr o') P' ρ' σ' s') (io : ItObj c.w.params P' o' l') (h : I l' ρ' σ') : FInv c env own F itr P I n s'
theorem SX_For {t it : Expr} {body : List Stmt} {pos : Pos} {I : List V → Loc → Sto → Prop} (hh : A.handled = none)
  (h : ∀ K, Begin I ρ K → EV c A env own No ρ it (fun v σ₁ => ∃ l, Its v l ∧ K l σ₁) σ)
  (step : ∀ v l ρ σ, I (v :: l) ρ σ → ∀ K Kb, Into (I l) K → Into N Kb → AS c A env own No (SS c A env own Kb K T No K body) t ρ v σ)
  (done : ∀ ρ σ, I [] ρ σ → N ρ σ)
  (hs : autoParam (∀ x, foldedSetIterable it env x = pure x) aInt) :
  SX c A env own B C T X N (.For t it body [] pos) ρ σ := .mk fun F P s R => by
 refine wpAny_For (wpAny_mono ((h (fun l σ => I l ρ σ) ⟨fun zz zz h => h⟩).run F P s R) ?_ fun zz zz x => (PX.no x).elim) hs
 rintro x s₁ ⟨P₁, v, σ₁, le₁, R₁, rv, l, hi, hI⟩
 refine wpAny_mono (iter_of R₁ hi rv) ?_ fun zz zz x => x
 rintro y s₂ ⟨itr, o, rfl, hn, R₂, io⟩
 refine forLoopG (FInv c env own F itr P I) ?_ l.length ⟨P₁, ρ, σ₁, o, l, rfl, le₁, R₂, io, hI⟩
 rintro n s₃ ⟨P₃, ρ₃, σ₃, o₃, l₃, rfl, le₃, R₃, io₃, hI₃⟩ K hK
 cases l₃ with
 | nil =>
  refine wpAny_mono (next_end hh R₃ io₃ hn) ?_ fun zz zz x => x
  rintro r s₄ ⟨rfl, R₄⟩
  exact wpAny_execs_nil ⟨P₃, ρ₃, σ₃, le₃, R₄, done _ _ hI₃⟩
 | cons v l₃ =>
  refine wpAny_mono (next_item R₃ io₃ hn) ?_ fun zz zz x => x
  rintro r s₄ ⟨x, o', rfl, rx, R₄, io₄⟩
  refine go_it R₄ io₄ ?_
  refine wpAny_mono ((step v l₃ ρ₃ σ₃ hI₃ (I l₃) N ⟨fun zz zz h => h⟩ ⟨fun zz zz h => h⟩).run _ _ _ x R₄ rx) ?_ fun zz zz x => (PX.no x).elim
  rintro _ s₅ ⟨P₅, ρ₅, σ₅, le₅, R₅, h₅⟩
  refine wpAny_mono (h₅.run _ _ _ R₅) ?_ fun zz zz x => (PX.no x).elim
  rintro f s₆ ⟨P₆, ρ₆, σ₆, le₆, R₆, h₆⟩
  have io₆ := io₄.mono (le₅.trans le₆)
  have le := (le₃.trans le₅).trans le₆
  cases f with
  | next => exact hK l₃.length _ (by simp) ⟨P₆, ρ₆, σ₆, o', l₃, rfl, le, R₆, io₆, h₆⟩
  | cont => exact hK l₃.length _ (by simp) ⟨P₆, ρ₆, σ₆, o', l₃, rfl, le, R₆, io₆, h₆⟩
  | brk => exact ⟨P₆, ρ₆, σ₆, le, R₆.dropF (io₆.noCell hn), h₆⟩
  | ret v => exact ⟨P₆, ρ₆, σ₆, le, R₆.dropF (io₆.noCell hn), h₆⟩
theorem SX_While {t : Expr} {body : List Stmt} {pos : Pos} {I : Nat → Loc → Sto → Prop} {n : Nat}
  (h : I n ρ σ) (step : ∀ n ρ σ, I n ρ σ → ∀ K Kb, Into (fun ρ' σ' => ∃ m, m < n ∧ I m ρ' σ') K → Into N Kb → EB c A env own No ρ t (IfB (SS c A env own Kb K T No K body ρ) (Kb ρ)) σ) :
  SX c A env own B C T X N (.While t body [] pos) ρ σ := .mk fun F P s R => by
 refine wpAny_While (codeAny_whileLoop (fun n s' => ∃ P' ρ' σ', PLe P P' ∧ Rep c env own F P' ρ' σ' s' ∧ I n ρ' σ') ?_ n ⟨P, ρ, σ, .refl _, R, h⟩)
 rintro n s₁ ⟨P₁, ρ₁, σ₁, le₁, R₁, h₁⟩
 refine wpAny_mono ((step n ρ₁ σ₁ h₁ _ N ⟨fun zz zz h => h⟩ ⟨fun zz zz h => h⟩).run F P₁ s₁ R₁) ?_ fun zz zz x => (PX.no x).elim
 rintro b s₂ ⟨P₂, σ₂, le₂, R₂, h₂⟩
 cases b with
 | false => exact wpAny_execs_nil ⟨P₂, ρ₁, σ₂, le₁.trans le₂, R₂, h₂⟩
 | true =>
  refine wpAny_mono (h₂.run F P₂ s₂ R₂) ?_ fun zz zz x => (PX.no x).elim
  rintro f s₃ ⟨P₃, ρ₃, σ₃, le₃, R₃, h₃⟩
  have le := (le₁.trans le₂).trans le₃
  cases f with
  | next => obtain ⟨m, hm, h₃⟩ := h₃; exact ⟨m, hm, P₃, ρ₃, σ₃, le, R₃, h₃⟩
  | cont => obtain ⟨m, hm, h₃⟩ := h₃; exact ⟨m, hm, P₃, ρ₃, σ₃, le, R₃, h₃⟩
  | brk => exact ⟨P₃, ρ₃, σ₃, le, R₃, h₃⟩
  | ret v => exact ⟨P₃, ρ₃, σ₃, le, R₃, h₃⟩
end
end
section
noncomputable def closOf (cells : List (Str × Addr)) : List (Str × NameKind) → List (Str × Addr) → List (Str × Addr)
 | [], acc => acc
 | (x, k) :: r, acc => if k == .free then closOf cells r ((x, (cells.lookup x).getD 0) :: acc) else closOf cells r acc
theorem closureFor_aux {env : Env} : ∀ (names : List (Str × NameKind)) (acc : List (Str × Addr)), (∀ x, (x, NameKind.free) ∈ names → (env.cells.lookup x).isSome = true) →
  (forIn names acc fun x cs => (do
   let (name, kind) := x
   if kind == .free then
    let a ← cellOf env name
    pure (ForInStep.yield ((name, a) :: cs))
   else pure (ForInStep.yield cs) : Sem (ForInStep (List (Str × Addr))))) = pure (closOf env.cells names acc)
 | [], acc, _ => by rw [List.forIn_nil]; rfl
 | (x, k) :: r, acc, h => by
  rw [List.forIn_cons]
  have ih := fun acc => closureFor_aux (env := env) r acc fun y hy => h y (List.mem_cons_of_mem _ hy)
  unfold closOf
  by_cases hk : (k == NameKind.free) = true
  ·have hk' : k = .free := by simpa using hk
   subst hk'
   obtain ⟨a, ha⟩ := Option.isSome_iff_exists.mp (h x List.mem_cons_self)
   have hc : cellOf env x = pure a := by unfold cellOf; rw [ha]
   simp only [beq_self_eq_true, if_true, hc, pure_bind, ha, Option.getD_some]
   exact ih _
  ·simp only [hk, if_false, Bool.false_eq_true, pure_bind]
   exact ih _
theorem closureFor_of {env : Env} {scope : Scope} (h : ∀ x, (x, NameKind.free) ∈ scope.names → (env.cells.lookup x).isSome = true) : closureFor scope env = pure (closOf env.cells scope.names []) := by
 have := closureFor_aux (env := env) scope.names [] h
 rw [← this]
 simp only [closureFor]
 refine (bind_pure _).trans ?_
 congr 1
theorem closOf_out {cells : List (Str × Addr)} {x : Str} : ∀ {names : List (Str × NameKind)} {acc : List (Str × Addr)}, x ∉ names.map (·.1) → (closOf cells names acc).lookup x = acc.lookup x
 | [], _, _ => rfl
 | (y, k) :: r, acc, h => by
  rw [List.map_cons, List.mem_cons, not_or] at h
  unfold closOf
  split
  ·rw [closOf_out h.2, List.lookup_cons, beq_eq_false_iff_ne.mpr h.1]
  ·exact closOf_out h.2
theorem closOf_in {cells : List (Str × Addr)} {x : Str} {a : Addr} (ha : cells.lookup x = some a) : ∀ {names : List (Str × NameKind)} {acc : List (Str × Addr)}, (names.map (·.1)).Nodup → (x, NameKind.free) ∈ names → (closOf cells names acc).lookup x = some a
 | (y, k) :: r, acc, nd, h => by
  rw [List.map_cons, List.nodup_cons] at nd
  unfold closOf
  rcases List.mem_cons.mp h with e | h
  ·cases e
   rw [if_pos (by decide), closOf_out nd.1, List.lookup_cons, beq_self_eq_true, ha]; rfl
  ·split
   ·exact closOf_in ha nd.2 h
   ·exact closOf_in ha nd.2 h
noncomputable def CapsL (env : Env) (ρ : Loc) : List (Str × NameKind) → List (Option V) → Prop
 | [], [] => True
 | (x, .free) :: r, v :: s => (∃ i, CellAt env i x ∧ ρ i = v) ∧ CapsL env ρ r s
 | _ :: r, v :: s => v = none ∧ CapsL env ρ r s
 | [], _ :: _ => False
 | _ :: _, [] => False
noncomputable def locOf (l : List (Option V)) : Loc := fun i => (l[i]?).join
theorem CapsL.free {env : Env} {ρ : Loc} : ∀ {names : List (Str × NameKind)} {l : List (Option V)} {j : Nat} {x : Str}, CapsL env ρ names l → names[j]? = some (x, .free) → ∃ i, CellAt env i x ∧ ρ i = locOf l j
 | (y, k) :: r, v :: s, 0, x, h, e => by
  simp only [List.getElem?_cons_zero, Option.some.injEq, Prod.mk.injEq] at e
  obtain ⟨rfl, rfl⟩ := e
  obtain ⟨i, a, b⟩ := h.1
  exact ⟨i, a, by rw [b]; rfl⟩
 | (y, k) :: r, v :: s, j + 1, x, h, e => by
  rw [List.getElem?_cons_succ] at e
  have h' : CapsL env ρ r s := by cases k <;> exact h.2
  obtain ⟨i, a, b⟩ := CapsL.free h' e
  exact ⟨i, a, b⟩
 | [], [], j, _, _, e => by simp at e
 | [], _ :: _, _, _, h, _ => h.elim
 | (_, k) :: _, [], _, _, h, _ => by cases k <;> exact h.elim
theorem CapsL.loc {env : Env} {ρ : Loc} : ∀ {names : List (Str × NameKind)} {l : List (Option V)} {j : Nat} {x : Str}, CapsL env ρ names l → names[j]? = some (x, .local) → locOf l j = none
 | (y, k) :: r, v :: s, 0, x, h, e => by
  simp only [List.getElem?_cons_zero, Option.some.injEq, Prod.mk.injEq] at e
  obtain ⟨rfl, rfl⟩ := e
  have : v = none := h.1
  subst this; rfl
 | (y, k) :: r, v :: s, j + 1, x, h, e => by
  rw [List.getElem?_cons_succ] at e
  have h' : CapsL env ρ r s := by cases k <;> exact h.2
  have := CapsL.loc (j := j) h' e
  exact this
 | [], [], j, _, _, e => by simp at e
 | [], _ :: _, _, _, h, _ => h.elim
 | (_, k) :: _, [], _, _, h, _ => by cases k <;> exact h.elim
structure TS (c : Cx) (A : Around) (env : Env) (own : Bool) (ifs : List Expr) (ρ : Loc) (σ : Sto) (Q : Bool → Sto → Prop) : Prop where
 run : ∀ F P s E, Rep c env own F P ρ σ s → wpAny (MM c) A (forIn ifs true fun c r => if r = true then do let ok ← isTrue c env (eval c env); pure (ForInStep.yield ok) else pure (ForInStep.yield r)) (PB c env own F ρ P Q) E s
section
variable {c : Cx} {A : Around} {env : Env} {own : Bool} {X : XP} {ρ : Loc} {σ : Sto} {N B C : Loc → Sto → Prop} {T : V → Sto → Prop} {QU : Loc → Sto → Prop} {Q : V → Sto → Prop}
theorem TS_nil {Q : Bool → Sto → Prop} (h : Q true σ) : TS c A env own [] ρ σ Q := .mk fun F P s E R => wpAny_tests_nil ⟨P, σ, .refl _, R, h⟩
theorem TS_one {e : Expr} {Q : Bool → Sto → Prop} (h : EB c A env own No ρ e Q σ) : TS c A env own [e] ρ σ Q := .mk fun F P s E R =>
 wpAny_tests_one (wpAny_mono (h.run F P s R) (fun zz zz x => x) fun zz zz x => (PX.no x).elim)
structure CompOk (scope : Scope) : Prop where
 kind : scope.kind = .function
 nd : (scope.names.map (·.1)).Nodup
 noCell : ∀ x ∈ scope.names, x.2 ≠ .cell
theorem lookup_of_mem {names : List (Str × NameKind)} {x : Str} {k : NameKind} (nd : (names.map (·.1)).Nodup) (h : (x, k) ∈ names) : names.lookup x = some k :=
 let ⟨_, hi⟩ := List.getElem?_of_mem h; lookup_of_at nd hi
structure CompStep (c : Cx) (A : Around) (env : Env) (scope : Scope) (elt t : Expr) (ifs : List Expr) (l : List V) (g : V → Option V) (J : Loc → Prop) (σ : Sto) : Prop where
 run : ∀ cenv, cenv.scope = relabel scope env → EnvOk cenv → ∀ σ' ρ' v, v ∈ l → J ρ' → SLe σ σ' → AS c A cenv false No (fun ρ'' σ'' => J ρ'' ∧ σ'' = σ' ∧ TS c A cenv false ifs ρ'' σ' (fun b σ₃ => σ₃ = σ' ∧
  if b = true then EV c A cenv false No ρ'' elt (fun y σ₄ => σ₄ = σ' ∧ g v = some y) σ' else g v = none)) t ρ' v σ'
theorem relabel_at {scope : Scope} {env : Env} {j : Nat} {x : Str} {k : NameKind} (h : (relabel scope env).names[j]? = some (x, k)) : ∃ k₀, scope.names[j]? = some (x, k₀) ∧ (k = k₀ ∨ (k₀ = .free ∧ k = .cell)) := by
 unfold relabel at h
 rw [List.getElem?_map] at h
 obtain ⟨⟨y, k₀⟩, h1, h2⟩ := Option.map_eq_some_iff.mp h
 by_cases q : (k₀ == NameKind.free && env.scope.kind == .function && env.kindOf y == some .cell) = true
 ·simp only [q, if_true, Prod.mk.injEq] at h2
  obtain ⟨rfl, rfl⟩ := h2
  simp only [Bool.and_eq_true] at q
  exact ⟨k₀, h1, .inr ⟨by simpa using q.1.1, rfl⟩⟩
 ·simp only [q, if_false, Bool.false_eq_true, Prod.mk.injEq] at h2
  obtain ⟨rfl, rfl⟩ := h2
  exact ⟨k₀, h1, .inl rfl⟩
theorem FF.lt {F P : Prt} {s : Shared} {a : Addr} {o : Obj} (R : Rep c env own F P ρ σ s) (h : FF F env own s.heap a o) : a < s.heap.objs.size := by
 rcases h with p | ⟨p, _⟩
 ·obtain ⟨sl, e, _⟩ := R.toC.subF a o p; exact Heap.lt_size e
 ·exact Heap.lt_size p
theorem compLoopG {elt target iter : Expr} {ifs : List Expr} {scope : Scope} {pos : Pos} {it acc : Value} {env : Env} {R : Result → Shared → Prop} (I : Nat → Shared → Prop)
  (turn : ∀ n s, I n s → ∀ K : Shared → Prop, (∀ m s, m < n → I m s → K s) → wpAny (MM c) A (pyNext it) (fun r s₁ => match r with
   | none => R (.ok .next) s₁
   | some v => wpAny (MM c) A (letOwnedTupleGo target it v) (fun zz s₁ => wpAny (MM c) A (assign target env v) (fun zz s₂ =>
     wpAny (MM c) A (forIn ifs true fun c r => if r = true then do let ok ← isTrue c env (eval c env); pure (ForInStep.yield ok) else pure (ForInStep.yield r)) (fun ok s₃ =>
      if ok = true then wpAny (MM c) A (eval elt env) (fun x s₄ =>
       wpAny (MM c) A (call (.builtin "list.append") [acc, x]) (fun zz s₅ => K s₅) (notedBy (MM c) A env fun e s' => R (.error e) s') s₄) (notedBy (MM c) A env fun e s' => R (.error e) s') s₃
      else K s₃) (notedBy (MM c) A env fun e s' => R (.error e) s') s₂) (notedBy (MM c) A env fun e s' => R (.error e) s') s₁) (notedBy (MM c) A env fun e s' => R (.error e) s') s₁) (notedBy (MM c) A env fun e s' => R (.error e) s') s)
  (n : Nat) {s : Shared} (h : I n s) :
  codeAny (MM c) A (.compLoop (.ListComp elt [⟨target, iter, ifs, 0⟩] scope pos) 0 it acc env) R s := by
 refine codeAny_loop rfl I (fun n s hI => ?_) n h
 show wpAny _ A ((compTurn (.ListComp elt [⟨target, iter, ifs, 0⟩] scope pos) 0 it acc env).onRaise (fun x => do noteFrame x env; theTreesLotGoes x)) _ _ s
 refine wpAny_noted ?_
 rw [compTurn_list]
 refine wpAny_bind (wpAny_standAt (wpAny_bind (wpAny_mono (turn n s hI (fun s' => ∃ m, m < n ∧ I m s') fun m s hm h => ⟨m, hm, h⟩) (fun r s₁ h₁ => ?_) fun zz zz h' => h')))
 cases r with
 | none => exact wpAny_pure h₁
 | some v =>
  refine wpAny_bind (wpAny_mono h₁ (fun zz s₁' h₁' => ?_) fun zz zz h' => h')
  refine wpAny_bind (wpAny_mono h₁' (fun zz s₂ h₂ => wpAny_bind (wpAny_mono h₂ (fun ok s₃ h₃ => ?_) fun zz zz h' => h')) fun zz zz h' => h')
  cases ok with
  | false => exact wpAny_pure ⟨rfl, h₃⟩
  | true =>
   exact wpAny_bind (wpAny_bind (wpAny_mono h₃ (fun x s₄ h₄ => wpAny_bind (wpAny_mono h₄ (fun zz s₅ h₅ => wpAny_pure (wpAny_pure ⟨rfl, h₅⟩)) fun zz zz h' => h')) fun zz zz h' => h'))
inductive CInv (c : Cx) (cenv : Env) (F : Prt) (itr : Addr) (P : Prt) (σ : Sto) (J : Loc → Prop) (g : V → Option V) (l : List V) (n : Nat) (s' : Shared) : Prop
 | mk (P' : Prt) (ρ' : Loc) (o' : Obj) (l' acc : List V) (hn : n = l'.length) (le : PLe P P') (R : Rep c cenv false (addP F itr o') P' ρ' (upd σ (itr + 1) (.list acc)) s') (io : ItObj c.w.params P' o' l') (hJ : J ρ')
  (ha : acc ++ l'.filterMap g = l.filterMap g) (hs : ∀ v ∈ l', v ∈ l) (hl : acc.length + l'.length ≤ l.length) : CInv c cenv F itr P σ J g l n s'
theorem comp_core {elt t it : Expr} {ifs : List Expr} {scope : Scope} {pos : Pos} {ρl : List (Option V)} {J : Loc → Prop} {l : List V} {g : V → Option V} {F P : Prt} {s : Shared} {x : Value} {v : V} {E : Value → Shared → Prop}
  {RR : Value → Addr → Result → Shared → Prop} (hh : A.handled = none) (ok : EnvOk env) (co : CompOk scope) (hcap : CapsL env ρ scope.names ρl) (R : Rep c env own F P ρ σ s) (hi : Its v l) (rv : VR c.w.params P v x) (hz : l.length ≤ 1000000)
  (hJ : J (locOf ρl)) (step : CompStep c A env scope elt t ifs l g J σ)
  (hRR : ∀ D C s' P' m, PLe P P' → σ D = none → s.heap.objs.size ≤ C → D ≠ C → RepC c (FF F env own s.heap) P' (upd σ D (.list (l.filterMap g))) s' → s'.heap.Ns C m → (∀ o, ¬ P' C o) → C ≠ c.tabA → σ C = none → RR (.ref D) C (.ok .next) s') :
  wpAny (MM c) A (pyIter x) (fun it' s₂ => wpAny (MM c) A (newList []) (fun acc s₃ => wpAny (MM c) A (newFunctionEnv scope env.globals (closOf env.cells scope.names []) [] env.qual none .none (some env)) (fun cenv s₄ =>
   codeAny (MM c) A (.compStart (.ListComp elt [⟨t, it, ifs, 0⟩] scope pos) 0 it' acc { cenv with scope := relabel scope env }) (RR acc cenv.locals) s₄) E s₃) E s₂) E s := by
 refine wpAny_mono (iter_raw R hi rv) ?_ fun zz zz x => x
 rintro y s₂ ⟨o, rfl, rfl, hf, io⟩
 generalize hitr : s.heap.objs.size = itr
 have ne1 : itr + 1 ≠ itr + 2 := Nat.ne_of_lt (Nat.lt_succ_self _)
 have ne0 : itr ≠ itr + 1 := Nat.ne_of_lt (Nat.lt_succ_self _)
 have ne2 : itr ≠ itr + 2 := Nat.ne_of_lt (Nat.lt_succ_of_lt (Nat.lt_succ_self _))
 refine wpAny_newObj_type (hd := by size_fits) (wpAny_newFunctionEnv co.noCell (by intro y hy; simp at hy) (fun h₁ hns₁ hsb₁ => ?_) co.kind)
 dsimp only at hns₁ hsb₁ ⊢
 generalize hH1 : s.heap.push o = H1 at hns₁ hsb₁ ⊢
 have hD : H1.objs.size = itr + 1 := by rw [← hH1, Heap.size_push, hitr]
 generalize hH2 : H1.push { cls := .type "list", dict := none, data := .seq ([] : List Value).toArray } = H2 at hns₁ hsb₁ ⊢
 have hC : H2.objs.size = itr + 2 := by rw [← hH2, Heap.size_push, hD]
 rw [hC] at hns₁ hsb₁
 rw [hD, hC]
 have old₁ : ∀ b o, s.heap.get? b = some o → h₁.get? b = some o := fun b o' e => by
  have hb : b < itr := hitr ▸ Heap.lt_size e
  exact hsb₁.extBut b o' (Nat.ne_of_lt (Nat.lt_succ_of_lt (Nat.lt_succ_of_lt hb))) (Heap.get?_push_of_some _ (hH2 ▸ Heap.get?_push_of_some _ (hH1 ▸ Heap.get?_push_of_some _ e)))
 have git : h₁.get? itr = some o := hsb₁.extBut _ _ ne2 (Heap.get?_push_of_some _ (hH2 ▸ Heap.get?_push_of_some _ (hH1 ▸ (hitr ▸ Heap.get?_push_size _ hf))))
 have gD : h₁.get? (itr + 1) = some { cls := .type "list", dict := none, data := .seq ([] : List Value).toArray } := hsb₁.extBut _ _ ne1 (Heap.get?_push_of_some _ (hH2 ▸ (hD ▸ Heap.get?_push_size _ rfl)))
 have C₀ : RepC c (FF F env own s.heap) P σ s := R.enter
 have newF := fun a (h : s.heap.objs.size ≤ a) => C₀.new (a := a) h
 have C₁ : RepC c (FF F env own s.heap) P σ { s with heap := h₁, toks := s.toks + 0 } := C₀.grow old₁
 have nD := newF (itr + 1) (by omega)
 have nC := newF (itr + 2) (by omega)
 have nI := newF itr (by omega)
 have C₂ : RepC c (addP (FF F env own s.heap) itr o) P σ { s with heap := h₁, toks := s.toks + 0 } := C₁.keepF (.rfl git) nI.1 nI.2.1 nI.2.2.2
 have C₃ : RepC c (addP (FF F env own s.heap) itr o) P (upd σ (itr + 1) (.list [])) { s with heap := h₁, toks := s.toks + 0 } := by
  refine C₂.keepσ gD nD.2.1 ?_ nD.2.2.2 ⟨#[], 0, rfl, trivial⟩
  rintro o' (p | ⟨e, _⟩)
  ·exact nD.2.2.1 _ p
  ·exact ne0 e.symm
 generalize hce : compEnvC scope (closOf env.cells scope.names []) (itr + 2) env = cenv
 have hcs : cenv.scope = relabel scope env := by rw [← hce]; rfl
 have hcl : cenv.locals = itr + 2 := by rw [← hce]; rfl
 have hcc : cenv.cells = closOf env.cells scope.names [] := by rw [← hce]; rfl
 have okc : EnvOk cenv := ⟨by rw [hcs]; exact co.kind, by rw [← hce]; exact ok.globals, by rw [← hce]; exact ok.builtins⟩
 have cellOf' : ∀ j z, CellAt cenv j z → ∃ i a, CellAt env i z ∧ ρ i = locOf ρl j ∧ env.cells.lookup z = some a ∧ cenv.cells.lookup z = some a := by
  intro j z hz
  have : ∃ k, cenv.scope.names[j]? = some (z, k) ∧ (k = .cell ∨ k = .free) := by
   rcases hz with hz | hz
   ·exact ⟨_, hz.2.1, .inl rfl⟩
   ·exact ⟨_, hz.2.1, .inr rfl⟩
  obtain ⟨k, hk1, hk2⟩ := this
  rw [hcs] at hk1
  obtain ⟨k₀, h1, h2⟩ := relabel_at hk1
  have hm := List.mem_of_getElem? h1
  have hk₀ : k₀ = .free := by
   rcases h2 with rfl | ⟨h, _⟩
   ·rcases hk2 with rfl | rfl
    ·exact absurd rfl (co.noCell _ hm)
    ·rfl
   ·exact h
  subst hk₀
  obtain ⟨i, hi1, hi2⟩ := hcap.free h1
  obtain ⟨a, w, ha, _⟩ := R.toL.cell i z hi1
  exact ⟨i, a, hi1, hi2, ha, by rw [hcc]; exact closOf_in ha co.nd hm⟩
 have R₃ : Rep c cenv false (addP (FF F env own s.heap) itr o) P (locOf ρl) (upd σ (itr + 1) (.list [])) { s with heap := h₁, toks := s.toks + 0 } := by
  refine ⟨C₃, ⟨⟨_, by rw [hcl]; exact hns₁, ?_⟩, by rw [hcl]; exact nC.2.1, ?_, ?_, by rw [hcl]; exact nC.2.2.2, ?_, (fun h => by cases h), ?_⟩⟩
  ·intro j z hz
   have hk1 := hz.2.1
   rw [hcs] at hk1
   obtain ⟨k₀, h1, h2⟩ := relabel_at hk1
   have : k₀ = .local := by
    rcases h2 with rfl | ⟨_, h⟩
    ·rfl
    ·cases h
   subst this
   rw [hcap.loc h1]; trivial
  ·rw [hcl]
   rintro o' (p | ⟨e, _⟩)
   ·exact nC.2.2.1 _ p
   ·exact ne2 e.symm
  ·rw [hcl, upd_ne ne1.symm]; exact nC.1
  ·intro j z hz
   obtain ⟨i, a, h1, h2, h3, h4⟩ := cellOf' j z hz
   obtain ⟨a', w, ha, hw, hs⟩ := R.toL.cell i z h1
   rw [h3] at ha; cases ha
   refine ⟨a, w, h4, IsCell_of hw fun o' e => .rfl (old₁ _ _ e), ?_⟩
   rw [← h2]; exact hs
  ·intro _ j z hz a ha
   obtain ⟨i, a', h1, h2, h3, h4⟩ := cellOf' j z hz
   rw [ha] at h4; cases h4
   cases hown : own with
   | true =>
    obtain ⟨a'', w, ha', ⟨ob, hob, _⟩, hs⟩ := R.toL.cell i z h1
    rw [h3] at ha'; cases ha'
    exact ⟨ob, .inl (.inr ⟨hob, .inr ⟨rfl, i, z, h1, h3⟩⟩)⟩
   | false =>
    obtain ⟨ob, p⟩ := R.toL.ckept hown i z h1 a h3
    exact ⟨ob, .inl (.inl p)⟩
 have hnI : ∀ o, ¬ FF F env own s.heap itr o := nI.2.2.1
 have loop : ∀ s₃ : Shared, s₃ = { s with heap := h₁, toks := s.toks + 0 } →
   codeAny (MM c) A (.compLoop (.ListComp elt [⟨t, it, ifs, 0⟩] scope pos) 0 (.ref itr) (.ref (itr + 1)) cenv) (RR (.ref (itr + 1)) (itr + 2)) s₃ := by
  rintro s₃ rfl
  refine compLoopG (CInv c cenv (FF F env own s.heap) itr P σ J g l) ?_ l.length ⟨P, _, o, l, [], rfl, .refl _, R₃, io, hJ, rfl, fun zz h => h, by simp⟩
  rintro n s₄ ⟨P₄, ρ₄, o₄, l₄, acc, rfl, le₄, R₄, io₄, hJ₄, hacc, hsub, hlen⟩ K hK
  cases l₄ with
  | nil =>
   refine wpAny_mono (next_end hh R₄ io₄ hnI) ?_ fun zz zz x => x
   rintro r s₅ ⟨rfl, R₅⟩
   obtain ⟨m, hm, _⟩ := R₅.toL.ns
   rw [hcl] at hm
   have : acc = l.filterMap g := by simpa using hacc
   subst this
   exact hRR (itr + 1) (itr + 2) s₅ P₄ m le₄ nD.1 (hitr ▸ Nat.le_succ_of_le (Nat.le_succ _)) ne1 R₅.toC hm (hcl ▸ R₅.toL.offP) nC.2.2.2 nC.1
  | cons v l₄ =>
   refine wpAny_mono (next_item R₄ io₄ hnI) ?_ fun zz zz x => x
   rintro r s₅ ⟨x, o', rfl, rx, R₅, io₅⟩
   refine go_it R₅ io₅ ?_
   have sle : SLe σ (upd σ (itr + 1) (.list acc)) := .upd nD.1
   refine wpAny_mono ((step.run cenv hcs okc _ _ v (hsub _ List.mem_cons_self) hJ₄ sle).run _ _ _ x R₅ rx) ?_ fun zz zz x => (PX.no x).elim
   rintro _ s₆ ⟨P₆, ρ₆, σ₆, le₆, R₆, hJ₆, rfl, h₆⟩
   refine wpAny_mono (h₆.run _ _ _ _ R₆) ?_ fun zz zz x => x
   rintro b s₇ ⟨P₇, σ₇, le₇, R₇, rfl, h₇⟩
   cases b with
   | false =>
    have hg : g v = none := by simpa using h₇
    rw [if_neg (by decide)]
    refine hK l₄.length _ (by simp) ⟨P₇, ρ₆, o', l₄, acc, rfl, (le₄.trans le₆).trans le₇, R₇, io₅.mono (le₆.trans le₇), hJ₆, ?_, fun v h => hsub v (List.mem_cons_of_mem _ h), ?_⟩
    ·rw [List.filterMap_cons, hg] at hacc; exact hacc
    ·simp only [List.length_cons] at hlen; omega
   | true =>
    rw [if_pos rfl] at h₇ ⊢
    refine wpAny_mono (h₇.run _ _ _ R₇) ?_ fun zz zz x => (PX.no x).elim
    rintro y s₈ ⟨P₈, V, σ₈, le₈, R₈, ry, rfl, hg⟩
    obtain ⟨od, hod, vs, nn, rfl, rvs⟩ := R₈.toC.obj (itr + 1) (.list acc) (upd_self ..)
    have hvs : vs.size = acc.length := by rw [← rvs.length, Array.length_toList]
    refine wpAny_list_append_plain (items := vs) ⟨nn, hod⟩ (fun h' hp hsb => ?_) (by rw [hvs, sizeLine_eq]; simp only [List.length_cons] at hlen; omega)
    obtain ⟨n', hp⟩ := hp
    have R₉ := R₈.turn (t := s₈.toks) (x := .list (acc ++ [V])) (upd_self ..) hsb hp ⟨_, _, rfl, by rw [Array.toList_push]; exact rvs.append ⟨ry, trivial⟩⟩
    have e : upd (upd σ (itr + 1) (.list acc)) (itr + 1) (.list (acc ++ [V])) = upd σ (itr + 1) (.list (acc ++ [V])) := by
     funext b; unfold upd; by_cases q : b = itr + 1 <;> simp [q]
    rw [e] at R₉
    refine hK l₄.length _ (by simp) ⟨P₈, ρ₆, o', l₄, acc ++ [V], rfl, ((le₄.trans le₆).trans le₇).trans le₈, R₉, io₅.mono ((le₆.trans le₇).trans le₈), hJ₆, ?_, fun v h => hsub v (List.mem_cons_of_mem _ h), ?_⟩
    ·rw [List.filterMap_cons, hg] at hacc
     rw [List.append_assoc]; exact hacc
    ·simp only [List.length_append, List.length_cons, List.length_nil] at hlen ⊢; omega
 have loop' := loop _ rfl
 subst hce
 refine codeAny_compStart_list loop' ?_
 cases io with
 | list hc hd p r => exact wpAny_pyIter_listiter ⟨_, git, hc, hd⟩ loop'
 | tuple hc hd p r => exact wpAny_pyIter_tupleiter ⟨_, git, hc, hd⟩ loop'
 | range => exact wpAny_pyIter_rangeiter git loop'
end
end
section
section
variable {c : Cx} {A : Around} {env : Env} {own : Bool} {X : XP} {ρ : Loc} {σ : Sto} {N B C : Loc → Sto → Prop} {T : V → Sto → Prop} {QU : Loc → Sto → Prop} {Q : V → Sto → Prop}
theorem FF.notAt {F P : Prt} {s : Shared} {a : Addr} (R : Rep c env own F P ρ σ s) (h : s.heap.objs.size ≤ a) : ∀ o, ¬ FF F env own s.heap a o := fun o p => Nat.not_le.mpr (FF.lt R p) h
theorem CapsL.look {F P : Prt} {s : Shared} {scope : Scope} {ρl : List (Option V)} (hcap : CapsL env ρ scope.names ρl) (R : Rep c env own F P ρ σ s) (x : Str) (h : (x, NameKind.free) ∈ scope.names) : (env.cells.lookup x).isSome = true := by
 obtain ⟨j, hj⟩ := List.getElem?_of_mem h
 obtain ⟨i, hi, _⟩ := hcap.free hj
 obtain ⟨a, w, ha, _⟩ := R.toL.cell i x hi
 rw [ha]; rfl
theorem EV_ListComp {elt t it : Expr} {ifs : List Expr} {scope : Scope} {pos : Pos} {ρl : List (Option V)} {J : Loc → Prop} (g : V → Option V) (hh : A.handled = none) (ok : EnvOk env) (co : CompOk scope)
  (hcap : CapsL env ρ scope.names ρl) (hJ : J (locOf ρl))
  (h : EV c A env own X ρ it (fun v σ₁ => ∃ l, Its v l ∧ l.length ≤ 1000000 ∧ CompStep c A env scope elt t ifs l g J σ₁ ∧ ∀ D, σ₁ D = none → Q (.ref D) (upd σ₁ D (.list (l.filterMap g)))) σ)
  (hs : autoParam (∀ x, foldedSetIterable it env x = pure x) aInt) :
  EV c A env own X ρ (.ListComp elt [⟨t, it, ifs, 0⟩] scope pos) Q σ := .mk fun F P s R => by
 rw [eval_ListComp]
 refine wpAny_comprehension_free (use := none) rfl hs (closureFor_of (hcap.look R)) co.kind (fun x hx hl => lookup_of_mem co.nd (by obtain ⟨y, k⟩ := x; dsimp only at hl; subst hl; exact hx)) ?_
 refine wpAny_mono (h.run F P s R) ?_ fun zz zz x => x
 rintro xv s₁ ⟨P₁, v, σ₁, le₁, R₁, rv, l, hi, hz, step, hQ⟩
 refine comp_core (RR := fun acc C => compPost (MM c) A _ none _ acc C) hh ok co hcap R₁ hi rv hz hJ step ?_
 intro D C s' P' m le hD hCs hDC RC hn hPC hCt hCσ
 refine ⟨m, hn, fun h' hsb => ?_⟩
 have RC' := RC.outside (t := s'.toks) hsb hPC (FF.notAt R₁ hCs) (by rw [upd_ne (Ne.symm hDC)]; exact hCσ) hCt
 exact ⟨P', .ref D, _, le₁.trans le, R₁.back RC' le, rfl, hQ D hD⟩
theorem EV_ListCompF {elt t it : Expr} {ifs : List Expr} {scope : Scope} {pos : Pos} {ρl : List (Option V)} {J : Loc → Prop} (g : V → Option V) (hh : A.handled = none) (ok : EnvOk env) (co : CompOk scope)
  (hcap : CapsL env ρ scope.names ρl) (hJ : J (locOf ρl))
  (h : EV c A env own X ρ it (fun v σ₁ => ∃ l, Its v l ∧ l.length ≤ 1000000 ∧ CompStep c A env scope elt t ifs l g J σ₁ ∧ Q (.lst (l.filterMap g)) σ₁) σ)
  (hs : autoParam (∀ x, foldedSetIterable it env x = pure x) aInt) :
  EV c A env own X ρ (.ListComp elt [⟨t, it, ifs, 0⟩] scope pos) Q σ := by
 refine EV_freezeL (EV_ListComp g hh ok co hcap hJ (h.mono ?_) hs)
 rintro v σ₁ ⟨l, hi, hz, step, q⟩
 exact ⟨l, hi, hz, step, fun D hD => ⟨D, _, σ₁, rfl, upd_self .., .upd hD, hD, q⟩⟩
theorem SX_Assign_Comp {i : Nat} {x : Str} {p ps : Pos} {elt t it : Expr} {ifs : List Expr} {scope : Scope} {pos : Pos} {ρl : List (Option V)} {J : Loc → Prop} (g : V → Option V) (hh : A.handled = none) (ok : EnvOk env) (co : CompOk scope)
  (hx : LocAt env i x .local) (hcap : CapsL env ρ scope.names ρl) (hJ : J (locOf ρl))
  (h : EV c A env own X ρ it (fun v σ₁ => ∃ l, Its v l ∧ l.length ≤ 1000000 ∧ CompStep c A env scope elt t ifs l g J σ₁ ∧ ∀ D, σ₁ D = none → N (upl ρ i (.ref D)) (upd σ₁ D (.list (l.filterMap g)))) σ)
  (hl : (p.line == pos.line) = true) (hno : (scope.names.any fun (n, k) => n == x && (k == .local || k == .cell)) = false)
  (hs : autoParam (∀ x, foldedSetIterable it env x = pure x) aInt) :
  SX c A env own B C T X N (.Assign [.Name x p] (.ListComp elt [⟨t, it, ifs, 0⟩] scope pos) ps) ρ σ := .mk fun F P s R => by
 have hsw : swapsWith (.ListComp elt [⟨t, it, ifs, 0⟩] scope pos) (some (.Name x p)) ps.line env = pure true := by
  show (pure _ : Sem Bool) = _
  congr 1
  show (env.blockKind == .function && env.kindOf x == some .local && p.line == pos.line && !(scope.names.any fun (n, k) => n == x && (k == .local || k == .cell))) = true
  have hb : env.blockKind = .function := by unfold Env.blockKind; rw [ok.kind]; rfl
  rw [hb, hx.1.1, hl, hno]; rfl
 rw [exec_Assign_Name_used _ _ _ _ hsw]
 refine wpAny_bind (wpAny_standAt (wpAny_bind ?_))
 show wpAny _ A (do let _ ← comprehension (.ListComp elt [⟨t, it, ifs, 0⟩] scope pos) scope env _ (newList []) false (eval it env) (some (assign (.Name x p) env))) _ _ s
 refine wpAny_bind (wpAny_mono (wpAny_comprehension_free (use := some (assign (.Name x p) env)) (Q := fun zz s' => PF c env own F P N B C T .next s') rfl hs (closureFor_of (hcap.look R)) co.kind
  (fun x hx hl => lookup_of_mem co.nd (by obtain ⟨y, k⟩ := x; dsimp only at hl; subst hl; exact hx)) (wpAny_mono (h.run F P s R) ?_ fun zz zz x => x)) (fun zz s' hq => wpAny_pure (wpAny_pure hq)) fun zz zz x => x)
 rintro xv s₁ ⟨P₁, v, σ₁, le₁, R₁, rv, l, hi, hz, step, hQ⟩
 refine comp_core (RR := fun acc C => compPost (MM c) A _ (some (assign (.Name x p) env)) _ acc C) hh ok co hcap R₁ hi rv hz hJ step ?_
 intro D C s' P' m le hD hCs hDC RC hn hPC hCt hCσ
 have R₂ := R₁.back RC le
 show wpAny _ A (assign (.Name x p) env (.ref D)) _ _ _
 have hLC : env.locals ≠ C := fun e => Nat.not_le.mpr R₁.toL.lt (e ▸ hCs)
 obtain ⟨m₂, hm₂, hs₂⟩ := R₂.toL.ns
 refine wpAny_assign_Name (wpAny_storeName_local hx.1.1 hm₂ (fun h₂ hn₂ hsb₂ => ?_) (by rw [ok.kind]; rfl))
 have R₃ := R₂.setL (t := s'.toks + 1) (v := .ref D) hx rfl hs₂ hn₂ hsb₂
 refine ⟨m, hn.sameBut hsb₂ (Ne.symm hLC), fun h₃ hsb₃ => ?_⟩
 have fC : ∀ o, ¬ FF F env own h₂ C o := by
  rintro o (q | ⟨q, e | ⟨ho, j, z, hz, ha⟩⟩)
  ·exact FF.notAt R₁ hCs o (.inl q)
  ·exact hLC e.symm
  ·obtain ⟨a, w, ha', _⟩ := R₁.toL.cell j z hz
   have := R₁.toL.cell_lt hz ha'
   rw [ha] at ha'; cases ha'
   exact Nat.not_le.mpr this hCs
 have RC' := R₃.enter.outside (t := s'.toks + 1) hsb₃ hPC fC (by rw [upd_ne (Ne.symm hDC)]; exact hCσ) hCt
 exact ⟨P', _, _, le₁.trans le, R₃.back RC' (.refl _), hQ D hD⟩
theorem SX_Assign_CompF {i : Nat} {x : Str} {p ps : Pos} {elt t it : Expr} {ifs : List Expr} {scope : Scope} {pos : Pos} {ρl : List (Option V)} {J : Loc → Prop} (g : V → Option V) (hh : A.handled = none) (ok : EnvOk env) (co : CompOk scope)
  (hx : LocAt env i x .local) (hcap : CapsL env ρ scope.names ρl) (hJ : J (locOf ρl))
  (h : EV c A env own X ρ it (fun v σ₁ => ∃ l, Its v l ∧ l.length ≤ 1000000 ∧ CompStep c A env scope elt t ifs l g J σ₁ ∧ N (upl ρ i (.lst (l.filterMap g))) σ₁) σ)
  (hl : (p.line == pos.line) = true) (hno : (scope.names.any fun (n, k) => n == x && (k == .local || k == .cell)) = false)
  (hs : autoParam (∀ x, foldedSetIterable it env x = pure x) aInt) :
  SX c A env own B C T X N (.Assign [.Name x p] (.ListComp elt [⟨t, it, ifs, 0⟩] scope pos) ps) ρ σ := by
 have hN : SX c A env own B C T X (fun ρ' σ' => ∃ D l σ₁, ρ' = upl ρ i (.ref D) ∧ σ₁ D = none ∧ σ' = upd σ₁ D (.list l) ∧ N (upl ρ i (.lst l)) σ₁) (.Assign [.Name x p] (.ListComp elt [⟨t, it, ifs, 0⟩] scope pos) ps) ρ σ :=
  SX_Assign_Comp g hh ok co hx hcap hJ (h.mono fun v σ₁ ⟨l, hi, hz, step, q⟩ => ⟨l, hi, hz, step, fun D hD => ⟨D, _, σ₁, rfl, hD, rfl, q⟩⟩) hl hno hs
 refine .mk fun F P s R => wpAny_mono (hN.run F P s R) ?_ fun zz zz x => x
 rintro f s₁ ⟨P₁, ρ₁, σ₁, le₁, R₁, h₁⟩
 cases f with
 | next =>
  obtain ⟨D, l, σ₂, rfl, hD, rfl, q⟩ := h₁
  obtain ⟨o, ho, R'⟩ := R₁.freeze (upd_self ..) (.upd hD) hD
  obtain ⟨vs, n, rfl, r⟩ := ho
  have R₂ := R₁.reL R' (i := i) (if_pos rfl) (v := .lst l) (fun x e => by cases e; exact ⟨D, vs, n, rfl, addP_self _ _ _, r.mono (addP_le _ _ _)⟩)
  have e : upl (upl ρ i (.ref D)) i (.lst l) = upl ρ i (.lst l) := by funext b; unfold upl; by_cases q : b = i <;> simp [q]
  rw [e] at R₂
  exact ⟨_, _, σ₂, le₁.trans (addP_le _ _ _), R₂, q⟩
 | brk => exact ⟨P₁, ρ₁, σ₁, le₁, R₁, h₁⟩
 | cont => exact ⟨P₁, ρ₁, σ₁, le₁, R₁, h₁⟩
 | ret v => exact ⟨P₁, ρ₁, σ₁, le₁, R₁, h₁⟩
theorem nodup_inj {α : Type} : ∀ {l : List α} {i j : Nat} {x : α}, l.Nodup → l[i]? = some x → l[j]? = some x → i = j
 | [], _, _, _, _, h, _ => by simp at h
 | a :: l, 0, 0, _, _, _, _ => rfl
 | a :: l, i + 1, j + 1, x, nd, h1, h2 => by
  rw [List.nodup_cons] at nd
  rw [List.getElem?_cons_succ] at h1 h2
  rw [nodup_inj nd.2 h1 h2]
 | a :: l, 0, j + 1, x, nd, h1, h2 => by
  rw [List.nodup_cons] at nd
  rw [List.getElem?_cons_succ] at h2
  simp only [List.getElem?_cons_zero, Option.some.injEq] at h1
  subst h1
  exact absurd (List.mem_of_getElem? h2) nd.1
 | a :: l, i + 1, 0, x, nd, h1, h2 => by
  rw [List.nodup_cons] at nd
  rw [List.getElem?_cons_succ] at h1
  simp only [List.getElem?_cons_zero, Option.some.injEq] at h2
  subst h2
  exact absurd (List.mem_of_getElem? h1) nd.1
theorem LocAt_of {names : List (Str × NameKind)} {i : Nat} {x : Str} {k : NameKind} (h : env.scope.names = names) (nd : (names.map (·.1)).Nodup) (hi : names[i]? = some (x, k)) (hd : (x == ("__debug__" : Str)) = false := by decide) : LocAt env i x k := by
 refine ⟨⟨?_, hd⟩, by rw [h]; exact hi, fun j k' hj => ?_⟩
 ·show env.scope.names.lookup x = _
  rw [h]; exact lookup_of_at nd hi
 ·rw [h] at hj
  have h1 : (names.map (·.1))[i]? = some x := by rw [List.getElem?_map, hi]; rfl
  have h2 : (names.map (·.1))[j]? = some x := by rw [List.getElem?_map, hj]; rfl
  obtain ⟨hi', e1⟩ := List.getElem?_eq_some_iff.mp h1
  obtain ⟨hj', e2⟩ := List.getElem?_eq_some_iff.mp h2
  exact nodup_inj nd h2 h1
theorem Glob_of {names : List (Str × NameKind)} {x : Str} {v : V} (h : env.scope.names = names) (hi : names.lookup x = some .globalImplicit) (g : GV c x v) (hd : (x == ("__debug__" : Str)) = false := by decide) : GlobAt c env x v := by
 refine ⟨⟨?_, hd⟩, g⟩
 show env.scope.names.lookup x = _
 rw [h]; exact hi
end
end
section
noncomputable def BIG : Int := 10 ^ 5000
noncomputable def MSC : Int := 10 ^ 300
noncomputable abbrev tabN : Addr := 766
noncomputable def esOf (o : Obj) : Array DictEntry := match o.data with | .dict es _ => es | _ => #[]
noncomputable def mgN (P : Params) (n : Str) : Option Value := nsFind (esOf (o3v5 P)) n
noncomputable def mbN (P : Params) (n : Str) : Option Value := nsFind (esOf (o0 P)) n
noncomputable def KF (P : Params) : Frag := [(96, o96 P), (97, o97 P), (98, o98 P), (114, o114 P), (116, o116 P), (117, o117 P), (134, o134 P), (141, o141 P), (143, o143 P), (144, o144 P), (145, o145 P), (146, o146 P), (197, o197 P), (204, o204 P), (211, o211 P), (218, o218 P), (225, o225 P), (232, o232 P), (237, o237 P), (239, o239 P), (240, o240 P), (241, o241 P), (242, o242 P)]
structure Good (c : Cx) : Prop where
 tA : c.tabA = tabN
 tL : c.tabL = 757
 tC : c.tabC = 4
 tQ : c.tabQ = Str.ofString "ascending" ++ ".<locals>." ++ S "place"
 K : c.K = KF c.w.params
 g : ∀ a o, (H1 c.w.params).get? a = some o → a ≠ tabN → c.g.get? a = some o
 mg : c.mg = mgN c.w.params
 mb : c.mb = mbN c.w.params
theorem gv_of {c : Cx} (G : Good c) {x : Str} {y : Value} {v : V} (h : mgN c.w.params x = some y) (r : ∀ P : Prt, (∀ a o, (H1 c.w.params).get? a = some o → a ≠ tabN → P a o) → VR c.w.params P v y) : GV c x v :=
 ⟨y, .inl (by rw [G.mg]; exact h), fun P k => r P fun a o e n => k a o (G.g a o e n)⟩
theorem gv_val {c : Cx} (G : Good c) {x : Str} {y : Value} (h : mgN c.w.params x = some y) : GV c x (.val y) := gv_of G h fun zz zz => rfl
theorem gv_int {c : Cx} (G : Good c) {x : Str} {i : Int} {t : Tok} (h : mgN c.w.params x = some (.int i t)) : GV c x (.int i) := gv_of G h fun zz zz => ⟨t, rfl⟩
theorem gv_bi {c : Cx} (G : Good c) {x : Str} {y : Value} (h : mgN c.w.params x = none) (h' : mbN c.w.params x = some y) : GV c x (.val y) :=
 ⟨y, .inr ⟨by rw [G.mg]; exact h, by rw [G.mb]; exact h'⟩, fun zz zz => rfl⟩
theorem FN_goC {c : Cx} {n : Nat} {σ : Sto} {Q : V → Sto → Prop} (G : Good c) {fa ca : Addr} {nm q : String} {d : Arguments × List Stmt × Scope} {dV pm : Value} {x0 : Value} {t : Tok} {cl : List Value} {ks : List Str} {l l' : List V}
  (ho : (H1 c.w.params).get? fa = some (fno nm q d dV pm (.ref ca))) (hc : (H1 c.w.params).get? ca = some (cdo (x0 :: .str (Str.ofString q) t :: cl))) (hne : (fa == tabN || ca == tabN) = false)
  (fi : FnIs d.2.2 ks) (hco : d.2.2.isCoroutine = false) (hgen : d.2.2.isGenerator = false) (hk : d.2.2.kind = .function) (hl : ks.length = l'.length)
  (hbind : ∀ fd o s P xs, o = fno nm q d dV pm (.ref ca) → o.data = .func fd → (∀ a o, (H1 c.w.params).get? a = some o → a ≠ tabN → P a o) → (∀ a o, P a o → s.heap.get? a = some o) → VRs c.w.params P l xs → ∃ ys, BindsTo s fd ⟨xs, []⟩ (ks.zip ys) ∧ VRs c.w.params P l' ys)
  (hrun : ∀ A env, Room n A → EnvOk env → env.scope = d.2.2 → env.code = .ref ca ∧ env.qual = Str.ofString q ++ ".<locals>." → SS c A env true (fun zz zz => False) (fun zz zz => False) Q No (fun zz σ' => Q .none σ') d.2.1 (fun i => l'[i]?) σ) :
  FN c (n + 1) (.ref fa) l σ Q := by
 have hf : fa ≠ tabN := fun e => by subst e; simp at hne
 have hf' : ca ≠ tabN := fun e => by subst e; simp at hne
 refine FN_introC (o := fno nm q d dV pm (.ref ca)) (G.g _ _ ho hf) rfl ⟨ca, _, _, t, rfl, G.g _ _ hc hf', rfl, rfl⟩ rfl rfl rfl rfl hco hgen hk fi hl ?_ hrun
 intro s P xs k1 k2 r
 exact hbind _ _ s P xs rfl rfl (fun a o e n => k1 a o (G.g a o e n)) k2 r
theorem bind_pos {W : Params} {P : Prt} {s : Shared} {fd : FuncData} {l : List V} {xs : List Value} {ks : List Str} (h : ∀ xs : List Value, xs.length = ks.length → bindArgs fd ⟨xs, []⟩ = pure (ks.zip xs)) (hl : ks.length = l.length) (r : VRs W P l xs) :
  ∃ ys, BindsTo s fd ⟨xs, []⟩ (ks.zip ys) ∧ VRs W P l ys := ⟨xs, .of_eq (h xs (by rw [hl]; exact r.length)), r⟩
section
variable {W : Params} {P : Prt} {s : Shared} {fd : FuncData} {l : List V} {xs : List Value} {k1 k2 k3 k4 k5 : Str}
theorem ex_cons {α : Type} {n : Nat} {xs : List α} (h : xs.length = n + 1) : ∃ a ys, xs = a :: ys ∧ ys.length = n := by
 cases xs with
 | nil => cases h
 | cons a ys => exact ⟨a, ys, rfl, Nat.succ.inj h⟩
theorem bind1 (h : ∀ a, bindArgs fd ⟨[a], []⟩ = pure ([k1].zip [a])) (hl : 1 = l.length) (r : VRs W P l xs) : ∃ ys, BindsTo s fd ⟨xs, []⟩ ([k1].zip ys) ∧ VRs W P l ys :=
 bind_pos (fun xs e0 => by
  obtain ⟨a, x1, rfl, e1⟩ := ex_cons e0
  cases List.eq_nil_of_length_eq_zero e1
  exact h _) hl r
theorem bind2 (h : ∀ a b, bindArgs fd ⟨[a, b], []⟩ = pure ([k1, k2].zip [a, b])) (hl : 2 = l.length) (r : VRs W P l xs) : ∃ ys, BindsTo s fd ⟨xs, []⟩ ([k1, k2].zip ys) ∧ VRs W P l ys :=
 bind_pos (fun xs e0 => by
  obtain ⟨a, x1, rfl, e1⟩ := ex_cons e0
  obtain ⟨b, x2, rfl, e2⟩ := ex_cons e1
  cases List.eq_nil_of_length_eq_zero e2
  exact h _ _) hl r
theorem bind3 (h : ∀ a b c, bindArgs fd ⟨[a, b, c], []⟩ = pure ([k1, k2, k3].zip [a, b, c])) (hl : 3 = l.length) (r : VRs W P l xs) : ∃ ys, BindsTo s fd ⟨xs, []⟩ ([k1, k2, k3].zip ys) ∧ VRs W P l ys :=
 bind_pos (fun xs e0 => by
  obtain ⟨a, x1, rfl, e1⟩ := ex_cons e0
  obtain ⟨b, x2, rfl, e2⟩ := ex_cons e1
  obtain ⟨c, x3, rfl, e3⟩ := ex_cons e2
  cases List.eq_nil_of_length_eq_zero e3
  exact h _ _ _) hl r
theorem bind4 (h : ∀ a b c d, bindArgs fd ⟨[a, b, c, d], []⟩ = pure ([k1, k2, k3, k4].zip [a, b, c, d])) (hl : 4 = l.length) (r : VRs W P l xs) : ∃ ys, BindsTo s fd ⟨xs, []⟩ ([k1, k2, k3, k4].zip ys) ∧ VRs W P l ys :=
 bind_pos (fun xs e0 => by
  obtain ⟨a, x1, rfl, e1⟩ := ex_cons e0
  obtain ⟨b, x2, rfl, e2⟩ := ex_cons e1
  obtain ⟨c, x3, rfl, e3⟩ := ex_cons e2
  obtain ⟨d, x4, rfl, e4⟩ := ex_cons e3
  cases List.eq_nil_of_length_eq_zero e4
  exact h _ _ _ _) hl r
end
end
section
noncomputable abbrev LL (env : Env) (i : Nat) (x : String) : Prop := LocAt env i (S x) .local
noncomputable abbrev LC (env : Env) (i : Nat) (x : String) : Prop := LocAt env i (S x) .cell
noncomputable abbrev GG (c : Cx) (env : Env) (x : String) (a : Addr) : Prop := GlobAt c env (S x) (.val (.ref a))
noncomputable abbrev NL : Type := List (Str × NameKind)
noncomputable abbrev nl (s : String) : Str × NameKind := (S s, .local)
noncomputable abbrev nc (s : String) : Str × NameKind := (S s, .cell)
noncomputable abbrev ng (s : String) : Str × NameKind := (S s, .globalImplicit)
noncomputable abbrev Hat (P : Params) (a : Addr) (o : Params → Obj) : Prop := (H1 P).get? a = some (o P)
variable {c : Cx} {env : Env}
structure EE (env : Env) (k : NL) : Prop where
 e : env.scope.names = k
 nd : (k.map (·.1)).Nodup
 db : (k.all fun p => !(p.1 == ("__debug__" : Str))) = true
theorem ee {sc : Scope} {k : NL} {ks : List Str} (h : env.scope = sc) (nm : sc.names = k) (fi : FnIs sc ks) (db : (k.all fun p => !(p.1 == ("__debug__" : Str))) = true := by decide +kernel) : EE env k := ⟨by rw [h]; exact nm, by rw [← nm]; exact fi.nd, db⟩
theorem EE.no {k : NL} {i : Nat} {x : Str} {q : NameKind} (e : EE env k) (hi : k[i]? = some (x, q)) : (x == ("__debug__" : Str)) = false := by
 have := List.all_eq_true.mp e.db _ (List.mem_of_getElem? hi)
 simpa using this
theorem la {k : NL} {i : Nat} {x : Str} {q : NameKind} (e : EE env k) (hi : k[i]? = some (x, q)) : LocAt env i x q := LocAt_of e.e e.nd hi (e.no hi)
theorem ga {k : NL} {x : Str} {v : V} (e : EE env k) (g : GV c x v) (i : Nat) (hi : k[i]? = some (x, .globalImplicit)) : GlobAt c env x v := Glob_of e.e (lookup_of_at e.nd hi) g (e.no hi)
theorem fi_of {sc : Scope} {k : NL} {ks : List Str} (nm : sc.names = k) (h : (decide ((k.map (·.1)).take ks.length = ks) && decide (k.map (·.1)).Nodup && (k.take ks.length).all (fun x => x.2 == .local || x.2 == .cell) && k.all fun x => x.2 != .free) = true := by decide +kernel) : FnIs sc ks := by
 simp only [Bool.and_eq_true, decide_eq_true_eq, List.all_eq_true, Bool.or_eq_true, beq_iff_eq, bne_iff_ne] at h
 obtain ⟨⟨⟨h1, h2⟩, h3⟩, h4⟩ := h
 exact ⟨by rw [nm]; exact h1, by rw [nm]; exact h2, by rw [nm]; exact h3, by rw [nm]; exact h4⟩
noncomputable abbrev Go (c : Cx) (d : Arguments × List Stmt × Scope) (n : Nat) (l : List V) (σ : Sto) (Q : V → Sto → Prop) : Prop :=
 ∀ A env, Room n A → EnvOk env → env.scope = d.2.2 → SS c A env true (fun zz zz => False) (fun zz zz => False) Q No (fun zz σ' => Q .none σ') d.2.1 (fun i => l[i]?) σ
noncomputable def scB (s : Scope) : Bool := !s.isCoroutine && !s.isGenerator && s.kind == .function
theorem scB_ok {s : Scope} (h : scB s = true) : s.isCoroutine = false ∧ s.isGenerator = false ∧ s.kind = .function := by
 unfold scB at h
 simpa [and_assoc] using h
noncomputable def codeB (o : Obj) (q : Str) : Bool := match o.data with
 | .fields vs => (match (vs[1]? : Option Value) with
  | some (.str s _) => s == q
  | _ => false)
 | _ => false
set_option tactic.hygienic true in
theorem codeB_ok {o : Obj} {q : Str} (h : codeB o q = true) : ∃ vs t, o.data = .fields vs ∧ vs[1]? = some (.str q t) := by
 unfold codeB at h
 split at h
 ·rename_i vs hd
  split at h
  ·rename_i s t hs
   exact ⟨vs, t, hd, by rw [hs, eq_of_beq h]⟩
  ·cases h
 ·cases h
theorem FNg {n : Nat} {σ : Sto} {Q : V → Sto → Prop} (G : Good c) {fa ca : Addr} {oc : Obj} {nm q : String} {d : Arguments × List Stmt × Scope} {dV pm : Value} {ks : List Str} {l l' : List V}
  (ho : (H1 c.w.params).get? fa = some (fno nm q d dV pm (.ref ca))) (hc : (H1 c.w.params).get? ca = some oc) (fi : FnIs d.2.2 ks) (hs : scB d.2.2 = true)
  (hbind : ∀ fd o s P xs, o = fno nm q d dV pm (.ref ca) → o.data = .func fd → (∀ a o, (H1 c.w.params).get? a = some o → a ≠ tabN → P a o) → (∀ a o, P a o → s.heap.get? a = some o) → VRs c.w.params P l xs → ∃ ys, BindsTo s fd ⟨xs, []⟩ (ks.zip ys) ∧ VRs c.w.params P l' ys)
  (hrun : Go c d n l' σ Q) (hcb : codeB oc (Str.ofString q) = true := by kernel_rfl) (hne : autoParam ((fa == tabN || ca == tabN) = false) aRfl) (hl : autoParam (ks.length = l'.length) aRfl) : FN c (n + 1) (.ref fa) l σ Q := by
 have hf : fa ≠ tabN := fun e => by subst e; simp at hne
 have hf' : ca ≠ tabN := fun e => by subst e; simp at hne
 obtain ⟨h1, h2, h3⟩ := scB_ok hs
 obtain ⟨vs, t, e1, e2⟩ := codeB_ok hcb
 exact FN_intro (o := fno nm q d dV pm (.ref ca)) (G.g _ _ ho hf) rfl ⟨ca, oc, vs, t, rfl, G.g _ _ hc hf', e1, e2⟩ rfl rfl rfl rfl h1 h2 h3 fi hl (fun s P xs k1 k2 r => hbind _ _ s P xs rfl rfl (fun a o e n => k1 a o (G.g a o e n)) k2 r) hrun
variable {n : Nat} {σ : Sto} {Q : V → Sto → Prop} {v0 v1 v2 v3 v4 v5 : V}
local macro_rules | `(tactic| k_subL) => `(tactic| (intro fd o s P xs e hd _ _ r; subst e; cases hd; first | exact bind1 (fun zz => rfl) rfl r | exact bind2 (fun zz zz => rfl) rfl r | exact bind3 (fun zz zz zz => rfl) rfl r | exact bind4 (fun zz zz zz zz => rfl) rfl r))
noncomputable def k_fd_2 : NL := [nl "v", nl "name"]
noncomputable def k_fd_3 : NL := [nl "v", nl "tag", nl "dims", nl "rows", nl "names", ng "sorted", ng "dim_of", ng "len", ng "dimnames_of", ng "get_attr", ng "list"]
noncomputable def k_fd_4 : NL := [nl "v", nl "dims", ng "get_attr", ng "list"]
noncomputable def k_fd_6 : NL := [nl "v", nl "found", ng "get_attr", ng "list"]
noncomputable def k_fd_8 : NL := [nl "v", nl "dims", ng "dim_of", ng "len"]
noncomputable def k_fd_9 : NL := [nl "v", nl "kind", ng "language_class"]
noncomputable def k_fd_10 : NL := [nl "v", nl "rows", ng "class_attr", ng "len", ng "shape_class", ng "plain_class"]
noncomputable def k_fd_11 : NL := [nl "v", nl "names", nl "one", ng "class_of"]
noncomputable def k_md_14_0 : NL := [nl "self", nl "message"]
noncomputable def k_md_16_0 : NL := [nl "self", nl "kind", nl "items", nl "attrs"]
noncomputable def k_fd_18 : NL := [nl "b", ng "Vector"]
noncomputable def k_md_23_0 : NL := [nl "self", nl "formals", nl "tags", ng "len"]
noncomputable def k_md_23_1 : NL := [nl "self", nl "name", nl "place", ng "range", ng "len", ng "Refusal", ng "doubled_text"]
noncomputable def k_md_23_2 : NL := [nl "self", nl "name"]
noncomputable def k_md_23_3 : NL := [nl "self", nl "name", nl "place", nl "tag", ng "range", ng "len", ng "Refusal", ng "doubled_text"]
noncomputable def k_md_23_4 : NL := [nl "self", nl "place", nl "name", ng "len"]
noncomputable def k_md_23_5 : NL := [nl "self", nl "place"]
noncomputable def k_md_23_6 : NL := [nc "self", ng "range", ng "len"]
noncomputable def k_fd_28 : NL := [nl "formals", nl "args", nl "show", nl "matching", nl "rest", ng "Matching", ng "len", ng "Refusal", ng "unused_text"]
noncomputable def k_fd_29 : NL := [nl "value", nl "name", ng "Refusal"]
noncomputable def k_fd_30 : NL := [nc "args", nl "formals", nl "show", nl "places", nl "rest", nl "values", nl "name", ng "match_names", ng "list", ng "plain_text"]
noncomputable def k_fd_37 : NL := [nl "a", nl "b"]
noncomputable def k_fd_38 : NL := [nl "n", nl "d", ng "abs", ng "MOST_PART", ng "Refusal"]
noncomputable def k_fd_39 : NL := [nl "n", nl "d", nl "common", ng "NAN", ng "gcd", ng "abs", ng "bounded"]
noncomputable def k_fd_40 : NL := [nl "n"]
noncomputable def k_fd_41 : NL := [nl "x"]
noncomputable def k_fd_42 : NL := [nl "x"]
noncomputable def k_fd_43 : NL := [nl "x", nl "y", ng "NAN"]
noncomputable def k_fd_44 : NL := [nl "x"]
noncomputable def k_fd_45 : NL := [nl "x", nl "y", ng "is_na", ng "marked", ng "NAN", ng "make"]
noncomputable def k_fd_46 : NL := [nl "x", nl "y", ng "add", ng "neg"]
noncomputable def k_fd_47 : NL := [nl "x", nl "y", ng "is_na", ng "marked", ng "make"]
noncomputable def k_fd_48 : NL := [nl "x", nl "y", ng "is_na", ng "marked", ng "NAN", ng "neg", ng "make"]
noncomputable def k_fd_49 : NL := [nl "x", ng "is_finite"]
noncomputable def k_fd_53 : NL := [nl "x", nl "y", nl "left", nl "right", ng "is_na"]
noncomputable def k_fd_90 : NL := [nl "v", nl "names", ng "share", ng "character"]
noncomputable def k_fd_91 : NL := [nc "v", nc "kind", nc "notes", nl "items", ng "isinstance", ng "Vector", ng "as_vector_kind", ng "with_names", ng "list", ng "names_of"]
noncomputable def k_fd_93 : NL := [nl "kind", nl "item", ng "is_na"]
noncomputable def k_fd_96 : NL := [nl "kind", nl "item", ng "is_na"]
noncomputable def k_fd_97 : NL := [nl "vs", nl "texts", nl "found", nl "v", ng "Refusal"]
noncomputable def k_fd_98 : NL := [nc "v", nl "skip"]
noncomputable def k_fd_99 : NL := [nl "vs", nl "kind", nl "skip", nl "found", nl "v", nl "item", ng "kept_items", ng "from_int", ng "to_text"]
noncomputable def k_fd_100 : NL := [nl "items", nl "total", nl "item", ng "ZERO", ng "add"]
noncomputable def k_fd_101 : NL := [nl "kind", nl "a", nl "b", ng "compare"]
noncomputable def k_fd_102 : NL := [nl "kind", nl "items", nl "order", nl "best", nl "item", ng "is_lacking", ng "marked", ng "item_order"]
noncomputable def k_fd_103 : NL := [nl "vs", nl "skip", nl "notes", nl "order", nl "kind", nl "items", ng "summed_kind", ng "gathered", ng "Vector", ng "extreme_item", ng "neg", ng "INF"]
noncomputable def k_fd_104 : NL := [nl "vs", nl "skip", nl "notes", ng "extreme_of"]
noncomputable def k_fd_105 : NL := [nl "vs", nl "skip", nl "notes", ng "extreme_of"]
noncomputable def k_fd_106 : NL := [nl "vs", nl "skip", nl "notes", nl "low", nl "high", ng "min_of", ng "max_of", ng "Vector"]
noncomputable def k_fd_107 : NL := [nl "v", ng "Refusal"]
noncomputable def k_fd_108 : NL := [nl "items", ng "NAN", ng "div", ng "double_sum", ng "from_int", ng "len"]
noncomputable def k_fd_109 : NL := [nl "v", nl "items", nl "middle", nl "total", nl "item", nl "gap", ng "number_items", ng "len", ng "mean_items", ng "ZERO", ng "sub", ng "add", ng "mul", ng "div", ng "from_int"]
noncomputable def k_fd_112 : NL := [nl "left", nl "right", nl "one", nl "other", nl "total", nl "i", ng "len", ng "mean_items", ng "ZERO", ng "range", ng "add", ng "mul", ng "sub", ng "div", ng "from_int"]
noncomputable def k_fd_113 : NL := [nl "items", nl "part", nl "row", nl "away", ng "compare", ng "ZERO", ng "mean_items", ng "lacking_item", ng "ascending", ng "max", ng "len", ng "floor", ng "mul", ng "from_int"]
noncomputable def k_fd_114 : NL := [nl "items", nl "item", nl "place", nc "scale", ng "MOST_SCALE", ng "by_comparing", ng "sorted"]
noncomputable def k_fd_115 : NL := [nl "items", nl "item", ng "is_na"]
noncomputable def k_fd_116 : NL := [nl "v", nl "items", nl "kind", nl "row", nl "half", ng "number_items", ng "lacking_item", ng "Vector", ng "ascending", ng "len", ng "mean_items"]
noncomputable def k_fd_118 : NL := [nl "interp", nl "notes", nl "value"]
noncomputable def k_fd_119 : NL := [nl "args", nl "vectors", nl "skip", nl "tag", nl "value", ng "is_set"]
noncomputable def k_fd_120 : NL := [nl "v", ng "truth_item"]
noncomputable def k_fd_121 : NL := [nl "interp", nl "args", nl "env", nl "vectors", nl "skip", nl "notes", ng "summary_parts", ng "len", ng "finish", ng "range_of"]
noncomputable def k_fd_122 : NL := [nl "v", ng "Vector"]
noncomputable def k_fd_123 : NL := [nc "v", nl "skip", ng "Vector"]
noncomputable def k_fd_124 : NL := [nl "rest", nl "tag", nl "value"]
noncomputable def k_fd_125 : NL := [nl "args", nl "fault", nl "x", nl "rest", nl "skip", ng "take", ng "inherits", ng "needed", ng "Refusal", ng "without_lacking", ng "is_set", ng "untagged"]
noncomputable def k_fd_126 : NL := [nl "value", nl "parts", ng "as_kind", ng "len", ng "is_na", ng "Refusal"]
noncomputable def k_fd_127 : NL := [nl "interp", nl "args", nl "env", nl "x", nl "rest", nl "skip", nl "notes", nl "plain", nl "trims", nl "part", ng "take", ng "needed", ng "inherits", ng "finish", ng "Vector", ng "len", ng "trim_part", ng "trimmed_mean", ng "number_items", ng "without_lacking", ng "is_set"]
noncomputable def k_fd_128 : NL := [nl "interp", nl "args", nl "env", ng "median_of", ng "numeric_arg"]
noncomputable def k_fd_129 : NL := [nl "use", nl "skip", ng "is_set", ng "len", ng "Refusal"]
noncomputable def k_fd_130 : NL := [nl "interp", nl "args", nl "env", nl "x", nl "y", nl "skip", nl "use", nl "away", nl "v", nc "left", nc "right", nl "kept", ng "take", ng "pairs_kept", ng "needed", ng "inherits", ng "Refusal", ng "dim_of", ng "len", ng "Vector", ng "var_of", ng "without_lacking", ng "number_items", ng "range", ng "cov_of"]
noncomputable def k_fd_132 : NL := [nl "script", nl "studs", nl "cell", nl "bulk", nl "lap", ng "range"]
noncomputable def k_fd_133 : NL := [nl "studs", nl "many", ng "len"]
noncomputable def k_fd_134 : NL := [nl "top", nl "below", nl "one", nl "other", ng "abs"]
noncomputable def k_fd_135 : NL := [nl "studs", nl "size_of", nl "row", nl "lap", nl "draw", ng "range", ng "_law_stud"]
noncomputable def k_fd_136 : NL := [nl "entries", nl "tenths", nl "rising", nl "away", nl "inner", ng "sorted", ng "len", ng "max", ng "_law_least", ng "sum"]
noncomputable def k_fd_137 : NL := [nl "one", nl "other", nl "count", nl "total", nl "spot", ng "len", ng "range", ng "sum", ng "_law_least"]
noncomputable def k_fd_138 : NL := [nl "fn", nl "args", nl "error", ng "Refusal"]
noncomputable def k_fd_139 : NL := [nl "script", nl "studs", nc "one", nc "other", nl "tenths", nc "skip", nl "x", nl "y", nl "left_now", nl "part_told", nl "args", nl "told", nl "due", nl "kept", nl "square", nl "wide", nl "twice", nl "low", nl "high", ng "_law_studs", ng "_law_row", ng "_law_stud", ng "len", ng "Vector", ng "list", ng "_law_least", ng "flag", ng "_law_told", ng "b_mean", ng "_law_middle", ng "b_median", ng "b_var", ng "range", ng "_law_shared", ng "b_range", ng "min", ng "max"]
theorem nth {α : Type} {l l' : List α} {a b : α} (e : l = l') (k : Nat) (h : l[k]? = some a) (h' : l'[k]? = some b) : a = b := by
 rw [e, h'] at h
 cases h; rfl
noncomputable def gvL (P : Params) : List (Option Value) := [mgN P (S "INF"), mgN P (S "MOST_PART"), mgN P (S "MOST_SCALE"), mgN P (S "Matching"), mgN P (S "NAN"), mgN P (S "Refusal"), mgN P (S "Vector"), mgN P (S "ZERO"), mgN P (S "_law_least"), mgN P (S "_law_middle"), mgN P (S "_law_row"), mgN P (S "_law_shared"), mgN P (S "_law_stud"), mgN P (S "_law_studs"), mgN P (S "_law_told"), mgN P (S "abs"), mgN P (S "add"), mgN P (S "as_kind"), mgN P (S "as_vector_kind"), mgN P (S "ascending"), mgN P (S "b_mean"), mgN P (S "b_median"), mgN P (S "b_range"), mgN P (S "b_var"), mgN P (S "bounded"), mgN P (S "by_comparing"), mgN P (S "character"), mgN P (S "class_attr"), mgN P (S "class_of"), mgN P (S "compare"), mgN P (S "cov_of"), mgN P (S "dim_of"), mgN P (S "dimnames_of"), mgN P (S "div"), mgN P (S "double_sum"), mgN P (S "doubled_text"), mgN P (S "extreme_item"), mgN P (S "extreme_of"), mgN P (S "finish"), mgN P (S "finite_part"), mgN P (S "flag"), mgN P (S "floor"), mgN P (S "from_int"), mgN P (S "gathered"), mgN P (S "gcd"), mgN P (S "get_attr"), mgN P (S "inherits"), mgN P (S "is_finite"), mgN P (S "is_lacking"), mgN P (S "is_na"), mgN P (S "is_set"), mgN P (S "isinstance"), mgN P (S "item_as"), mgN P (S "item_order"), mgN P (S "kept_items"), mgN P (S "lacking_item"), mgN P (S "language_class"), mgN P (S "len"), mgN P (S "list"), mgN P (S "make"), mgN P (S "marked"), mgN P (S "match_names"), mgN P (S "max"), mgN P (S "max_of"), mgN P (S "mean_items"), mgN P (S "median_of"), mgN P (S "min"), mgN P (S "min_of"), mgN P (S "mul"), mgN P (S "names_of"), mgN P (S "needed"), mgN P (S "neg"), mgN P (S "number_items"), mgN P (S "numeric_arg"), mgN P (S "pairs_kept"), mgN P (S "plain_class"), mgN P (S "plain_text"), mgN P (S "range"), mgN P (S "range_of"), mgN P (S "shape_class"), mgN P (S "share"), mgN P (S "sorted"), mgN P (S "sub"), mgN P (S "sum"), mgN P (S "summary_parts"), mgN P (S "summed_kind"), mgN P (S "take"), mgN P (S "to_text"), mgN P (S "trim_part"), mgN P (S "trimmed_mean"), mgN P (S "truth_item"), mgN P (S "untagged"), mgN P (S "unused_text"), mgN P (S "var_of"), mgN P (S "with_names"), mgN P (S "without_lacking")]
noncomputable def gvR : List (Option Value) := [some (.ref 291), some (.int BIG 552), some (.int MSC 1028), some (.ref 240), some (.ref 290), some (.ref 117), some (.ref 144), some (.ref 292), some (.ref 887), some (.ref 901), some (.ref 894), some (.ref 908), some (.ref 880), some (.ref 873), some (.ref 915), none, some (.ref 355), some (.ref 637), some (.ref 625), some (.ref 771), some (.ref 847), some (.ref 854), some (.ref 811), some (.ref 866), some (.ref 306), some (.ref 750), some (.ref 155), some (.ref 52), some (.ref 80), some (.ref 411), some (.ref 757), some (.ref 40), some (.ref 45), some (.ref 376), some (.ref 677), some (.ref 251), some (.ref 691), some (.ref 698), some (.ref 792), some (.ref 816), some (.ref 162), some (.ref 383), some (.ref 320), some (.ref 670), some (.ref 299), some (.ref 28), some (.ref 87), some (.ref 334), some (.ref 651), some (.ref 327), some (.ref 806), none, some (.ref 599), some (.ref 684), some (.ref 663), some (.ref 778), some (.ref 59), none, none, some (.ref 313), some (.ref 341), some (.ref 276), none, some (.ref 705), some (.ref 731), some (.ref 785), none, some (.ref 712), some (.ref 369), some (.ref 33), some (.ref 283), some (.ref 348), some (.ref 724), some (.ref 835), some (.ref 861), some (.ref 73), some (.ref 265), none, some (.ref 719), some (.ref 66), some (.ref 183), none, some (.ref 362), none, some (.ref 799), some (.ref 658), some (.ref 289), some (.ref 592), some (.ref 842), some (.ref 764), some (.ref 644), some (.ref 828), some (.ref 270), some (.ref 738), some (.ref 632), some (.ref 821)]
theorem gvA (P : Params) : gvL P = gvR := by kernel_rfl
theorem gvB (P : Params) : [mbN P (S "abs"), mbN P (S "isinstance"), mbN P (S "len"), mbN P (S "list"), mbN P (S "max"), mbN P (S "min"), mbN P (S "range"), mbN P (S "sorted"), mbN P (S "sum")] = [some (.builtin "abs"), some (.builtin "isinstance"), some (.builtin "len"), some (.type "list"), some (.builtin "max"), some (.builtin "min"), some (.type "range"), some (.builtin "sorted"), some (.builtin "sum")] := by kernel_rfl
theorem hA (P : Params) : [(H1 P).get? 291, (H1 P).get? 290, (H1 P).get? 292, (H1 P).get? 28, (H1 P).get? 27, (H1 P).get? 33, (H1 P).get? 32, (H1 P).get? 40, (H1 P).get? 39, (H1 P).get? 52, (H1 P).get? 51, (H1 P).get? 66, (H1 P).get? 65, (H1 P).get? 73, (H1 P).get? 72, (H1 P).get? 80, (H1 P).get? 79, (H1 P).get? 87, (H1 P).get? 86, (H1 P).get? 114, (H1 P).get? 113, (H1 P).get? 134, (H1 P).get? 133, (H1 P).get? 162, (H1 P).get? 161, (H1 P).get? 197, (H1 P).get? 196, (H1 P).get? 204, (H1 P).get? 203, (H1 P).get? 211, (H1 P).get? 210, (H1 P).get? 218, (H1 P).get? 217, (H1 P).get? 225, (H1 P).get? 224, (H1 P).get? 232, (H1 P).get? 231, (H1 P).get? 237, (H1 P).get? 236, (H1 P).get? 276, (H1 P).get? 275, (H1 P).get? 283, (H1 P).get? 282, (H1 P).get? 289, (H1 P).get? 288, (H1 P).get? 299, (H1 P).get? 298, (H1 P).get? 306, (H1 P).get? 305, (H1 P).get? 313, (H1 P).get? 312, (H1 P).get? 320, (H1 P).get? 319, (H1 P).get? 327, (H1 P).get? 326, (H1 P).get? 334, (H1 P).get? 333, (H1 P).get? 341, (H1 P).get? 340, (H1 P).get? 348, (H1 P).get? 347, (H1 P).get? 355, (H1 P).get? 354, (H1 P).get? 362, (H1 P).get? 361, (H1 P).get? 369, (H1 P).get? 368, (H1 P).get? 376, (H1 P).get? 375, (H1 P).get? 383, (H1 P).get? 382, (H1 P).get? 411, (H1 P).get? 410, (H1 P).get? 632, (H1 P).get? 631, (H1 P).get? 637, (H1 P).get? 636, (H1 P).get? 644, (H1 P).get? 643, (H1 P).get? 651, (H1 P).get? 650, (H1 P).get? 658, (H1 P).get? 657, (H1 P).get? 663, (H1 P).get? 662, (H1 P).get? 670, (H1 P).get? 669, (H1 P).get? 677, (H1 P).get? 676, (H1 P).get? 684, (H1 P).get? 683, (H1 P).get? 691, (H1 P).get? 690, (H1 P).get? 698, (H1 P).get? 697, (H1 P).get? 705, (H1 P).get? 704, (H1 P).get? 712, (H1 P).get? 711, (H1 P).get? 719, (H1 P).get? 718, (H1 P).get? 724, (H1 P).get? 723, (H1 P).get? 731, (H1 P).get? 730, (H1 P).get? 738, (H1 P).get? 737, (H1 P).get? 757, (H1 P).get? 756, (H1 P).get? 764, (H1 P).get? 763, (H1 P).get? 771, (H1 P).get? 770, (H1 P).get? 778, (H1 P).get? 777, (H1 P).get? 785, (H1 P).get? 784, (H1 P).get? 792, (H1 P).get? 791, (H1 P).get? 799, (H1 P).get? 798, (H1 P).get? 806, (H1 P).get? 805, (H1 P).get? 811, (H1 P).get? 810, (H1 P).get? 816, (H1 P).get? 815, (H1 P).get? 821, (H1 P).get? 820, (H1 P).get? 828, (H1 P).get? 827, (H1 P).get? 835, (H1 P).get? 834, (H1 P).get? 842, (H1 P).get? 841, (H1 P).get? 847, (H1 P).get? 846, (H1 P).get? 854, (H1 P).get? 853, (H1 P).get? 861, (H1 P).get? 860, (H1 P).get? 866, (H1 P).get? 865, (H1 P).get? 873, (H1 P).get? 872, (H1 P).get? 880, (H1 P).get? 879, (H1 P).get? 887, (H1 P).get? 886, (H1 P).get? 894, (H1 P).get? 893, (H1 P).get? 901, (H1 P).get? 900, (H1 P).get? 908, (H1 P).get? 907, (H1 P).get? 915, (H1 P).get? 914, (H1 P).get? 920, (H1 P).get? 919] = [some (o291 P), some (o290 P), some (o292 P), some (o28 P), some (o27 P), some (o33 P), some (o32 P), some (o40 P), some (o39 P), some (o52 P), some (o51 P), some (o66 P), some (o65 P), some (o73 P), some (o72 P), some (o80 P), some (o79 P), some (o87 P), some (o86 P), some (o114 P), some (o113 P), some (o134 P), some (o133 P), some (o162 P), some (o161 P), some (o197 P), some (o196 P), some (o204 P), some (o203 P), some (o211 P), some (o210 P), some (o218 P), some (o217 P), some (o225 P), some (o224 P), some (o232 P), some (o231 P), some (o237 P), some (o236 P), some (o276 P), some (o275 P), some (o283 P), some (o282 P), some (o289 P), some (o288 P), some (o299 P), some (o298 P), some (o306 P), some (o305 P), some (o313 P), some (o312 P), some (o320 P), some (o319 P), some (o327 P), some (o326 P), some (o334 P), some (o333 P), some (o341 P), some (o340 P), some (o348 P), some (o347 P), some (o355 P), some (o354 P), some (o362 P), some (o361 P), some (o369 P), some (o368 P), some (o376 P), some (o375 P), some (o383 P), some (o382 P), some (o411 P), some (o410 P), some (o632 P), some (o631 P), some (o637 P), some (o636 P), some (o644 P), some (o643 P), some (o651 P), some (o650 P), some (o658 P), some (o657 P), some (o663 P), some (o662 P), some (o670 P), some (o669 P), some (o677 P), some (o676 P), some (o684 P), some (o683 P), some (o691 P), some (o690 P), some (o698 P), some (o697 P), some (o705 P), some (o704 P), some (o712 P), some (o711 P), some (o719 P), some (o718 P), some (o724 P), some (o723 P), some (o731 P), some (o730 P), some (o738 P), some (o737 P), some (o757 P), some (o756 P), some (o764 P), some (o763 P), some (o771 P), some (o770 P), some (o778 P), some (o777 P), some (o785 P), some (o784 P), some (o792 P), some (o791 P), some (o799 P), some (o798 P), some (o806 P), some (o805 P), some (o811 P), some (o810 P), some (o816 P), some (o815 P), some (o821 P), some (o820 P), some (o828 P), some (o827 P), some (o835 P), some (o834 P), some (o842 P), some (o841 P), some (o847 P), some (o846 P), some (o854 P), some (o853 P), some (o861 P), some (o860 P), some (o866 P), some (o865 P), some (o873 P), some (o872 P), some (o880 P), some (o879 P), some (o887 P), some (o886 P), some (o894 P), some (o893 P), some (o901 P), some (o900 P), some (o908 P), some (o907 P), some (o915 P), some (o914 P), some (o920 P), some (o919 P)] := by kernel_rfl
section
variable (P : Params)
theorem h_28 : Hat P 28 o28 := nth (hA P) 3 rfl rfl
theorem h_27 : Hat P 27 o27 := nth (hA P) 4 rfl rfl
theorem h_33 : Hat P 33 o33 := nth (hA P) 5 rfl rfl
theorem h_32 : Hat P 32 o32 := nth (hA P) 6 rfl rfl
theorem h_40 : Hat P 40 o40 := nth (hA P) 7 rfl rfl
theorem h_39 : Hat P 39 o39 := nth (hA P) 8 rfl rfl
theorem h_52 : Hat P 52 o52 := nth (hA P) 9 rfl rfl
theorem h_51 : Hat P 51 o51 := nth (hA P) 10 rfl rfl
theorem h_66 : Hat P 66 o66 := nth (hA P) 11 rfl rfl
theorem h_65 : Hat P 65 o65 := nth (hA P) 12 rfl rfl
theorem h_73 : Hat P 73 o73 := nth (hA P) 13 rfl rfl
theorem h_72 : Hat P 72 o72 := nth (hA P) 14 rfl rfl
theorem h_80 : Hat P 80 o80 := nth (hA P) 15 rfl rfl
theorem h_79 : Hat P 79 o79 := nth (hA P) 16 rfl rfl
theorem h_87 : Hat P 87 o87 := nth (hA P) 17 rfl rfl
theorem h_86 : Hat P 86 o86 := nth (hA P) 18 rfl rfl
theorem h_134 : Hat P 134 o134 := nth (hA P) 21 rfl rfl
theorem h_133 : Hat P 133 o133 := nth (hA P) 22 rfl rfl
theorem h_162 : Hat P 162 o162 := nth (hA P) 23 rfl rfl
theorem h_161 : Hat P 161 o161 := nth (hA P) 24 rfl rfl
theorem h_197 : Hat P 197 o197 := nth (hA P) 25 rfl rfl
theorem h_196 : Hat P 196 o196 := nth (hA P) 26 rfl rfl
theorem h_204 : Hat P 204 o204 := nth (hA P) 27 rfl rfl
theorem h_203 : Hat P 203 o203 := nth (hA P) 28 rfl rfl
theorem h_211 : Hat P 211 o211 := nth (hA P) 29 rfl rfl
theorem h_210 : Hat P 210 o210 := nth (hA P) 30 rfl rfl
theorem h_218 : Hat P 218 o218 := nth (hA P) 31 rfl rfl
theorem h_217 : Hat P 217 o217 := nth (hA P) 32 rfl rfl
theorem h_225 : Hat P 225 o225 := nth (hA P) 33 rfl rfl
theorem h_224 : Hat P 224 o224 := nth (hA P) 34 rfl rfl
theorem h_232 : Hat P 232 o232 := nth (hA P) 35 rfl rfl
theorem h_231 : Hat P 231 o231 := nth (hA P) 36 rfl rfl
theorem h_237 : Hat P 237 o237 := nth (hA P) 37 rfl rfl
theorem h_236 : Hat P 236 o236 := nth (hA P) 38 rfl rfl
theorem h_276 : Hat P 276 o276 := nth (hA P) 39 rfl rfl
theorem h_275 : Hat P 275 o275 := nth (hA P) 40 rfl rfl
theorem h_283 : Hat P 283 o283 := nth (hA P) 41 rfl rfl
theorem h_282 : Hat P 282 o282 := nth (hA P) 42 rfl rfl
theorem h_289 : Hat P 289 o289 := nth (hA P) 43 rfl rfl
theorem h_288 : Hat P 288 o288 := nth (hA P) 44 rfl rfl
theorem h_299 : Hat P 299 o299 := nth (hA P) 45 rfl rfl
theorem h_298 : Hat P 298 o298 := nth (hA P) 46 rfl rfl
theorem h_306 : Hat P 306 o306 := nth (hA P) 47 rfl rfl
theorem h_305 : Hat P 305 o305 := nth (hA P) 48 rfl rfl
theorem h_313 : Hat P 313 o313 := nth (hA P) 49 rfl rfl
theorem h_312 : Hat P 312 o312 := nth (hA P) 50 rfl rfl
theorem h_320 : Hat P 320 o320 := nth (hA P) 51 rfl rfl
theorem h_319 : Hat P 319 o319 := nth (hA P) 52 rfl rfl
theorem h_327 : Hat P 327 o327 := nth (hA P) 53 rfl rfl
theorem h_326 : Hat P 326 o326 := nth (hA P) 54 rfl rfl
theorem h_334 : Hat P 334 o334 := nth (hA P) 55 rfl rfl
theorem h_333 : Hat P 333 o333 := nth (hA P) 56 rfl rfl
theorem h_341 : Hat P 341 o341 := nth (hA P) 57 rfl rfl
theorem h_340 : Hat P 340 o340 := nth (hA P) 58 rfl rfl
theorem h_348 : Hat P 348 o348 := nth (hA P) 59 rfl rfl
theorem h_347 : Hat P 347 o347 := nth (hA P) 60 rfl rfl
theorem h_355 : Hat P 355 o355 := nth (hA P) 61 rfl rfl
theorem h_354 : Hat P 354 o354 := nth (hA P) 62 rfl rfl
theorem h_362 : Hat P 362 o362 := nth (hA P) 63 rfl rfl
theorem h_361 : Hat P 361 o361 := nth (hA P) 64 rfl rfl
theorem h_369 : Hat P 369 o369 := nth (hA P) 65 rfl rfl
theorem h_368 : Hat P 368 o368 := nth (hA P) 66 rfl rfl
theorem h_376 : Hat P 376 o376 := nth (hA P) 67 rfl rfl
theorem h_375 : Hat P 375 o375 := nth (hA P) 68 rfl rfl
theorem h_383 : Hat P 383 o383 := nth (hA P) 69 rfl rfl
theorem h_382 : Hat P 382 o382 := nth (hA P) 70 rfl rfl
theorem h_411 : Hat P 411 o411 := nth (hA P) 71 rfl rfl
theorem h_410 : Hat P 410 o410 := nth (hA P) 72 rfl rfl
theorem h_632 : Hat P 632 o632 := nth (hA P) 73 rfl rfl
theorem h_631 : Hat P 631 o631 := nth (hA P) 74 rfl rfl
theorem h_637 : Hat P 637 o637 := nth (hA P) 75 rfl rfl
theorem h_636 : Hat P 636 o636 := nth (hA P) 76 rfl rfl
theorem h_644 : Hat P 644 o644 := nth (hA P) 77 rfl rfl
theorem h_643 : Hat P 643 o643 := nth (hA P) 78 rfl rfl
theorem h_651 : Hat P 651 o651 := nth (hA P) 79 rfl rfl
theorem h_650 : Hat P 650 o650 := nth (hA P) 80 rfl rfl
theorem h_658 : Hat P 658 o658 := nth (hA P) 81 rfl rfl
theorem h_657 : Hat P 657 o657 := nth (hA P) 82 rfl rfl
theorem h_663 : Hat P 663 o663 := nth (hA P) 83 rfl rfl
theorem h_662 : Hat P 662 o662 := nth (hA P) 84 rfl rfl
theorem h_670 : Hat P 670 o670 := nth (hA P) 85 rfl rfl
theorem h_669 : Hat P 669 o669 := nth (hA P) 86 rfl rfl
theorem h_677 : Hat P 677 o677 := nth (hA P) 87 rfl rfl
theorem h_676 : Hat P 676 o676 := nth (hA P) 88 rfl rfl
theorem h_684 : Hat P 684 o684 := nth (hA P) 89 rfl rfl
theorem h_683 : Hat P 683 o683 := nth (hA P) 90 rfl rfl
theorem h_691 : Hat P 691 o691 := nth (hA P) 91 rfl rfl
theorem h_690 : Hat P 690 o690 := nth (hA P) 92 rfl rfl
theorem h_698 : Hat P 698 o698 := nth (hA P) 93 rfl rfl
theorem h_697 : Hat P 697 o697 := nth (hA P) 94 rfl rfl
theorem h_705 : Hat P 705 o705 := nth (hA P) 95 rfl rfl
theorem h_704 : Hat P 704 o704 := nth (hA P) 96 rfl rfl
theorem h_712 : Hat P 712 o712 := nth (hA P) 97 rfl rfl
theorem h_711 : Hat P 711 o711 := nth (hA P) 98 rfl rfl
theorem h_719 : Hat P 719 o719 := nth (hA P) 99 rfl rfl
theorem h_718 : Hat P 718 o718 := nth (hA P) 100 rfl rfl
theorem h_724 : Hat P 724 o724 := nth (hA P) 101 rfl rfl
theorem h_723 : Hat P 723 o723 := nth (hA P) 102 rfl rfl
theorem h_731 : Hat P 731 o731 := nth (hA P) 103 rfl rfl
theorem h_730 : Hat P 730 o730 := nth (hA P) 104 rfl rfl
theorem h_738 : Hat P 738 o738 := nth (hA P) 105 rfl rfl
theorem h_737 : Hat P 737 o737 := nth (hA P) 106 rfl rfl
theorem h_757 : Hat P 757 o757 := nth (hA P) 107 rfl rfl
theorem h_756 : Hat P 756 o756 := nth (hA P) 108 rfl rfl
theorem h_764 : Hat P 764 o764 := nth (hA P) 109 rfl rfl
theorem h_763 : Hat P 763 o763 := nth (hA P) 110 rfl rfl
theorem h_778 : Hat P 778 o778 := nth (hA P) 113 rfl rfl
theorem h_777 : Hat P 777 o777 := nth (hA P) 114 rfl rfl
theorem h_785 : Hat P 785 o785 := nth (hA P) 115 rfl rfl
theorem h_784 : Hat P 784 o784 := nth (hA P) 116 rfl rfl
theorem h_792 : Hat P 792 o792 := nth (hA P) 117 rfl rfl
theorem h_791 : Hat P 791 o791 := nth (hA P) 118 rfl rfl
theorem h_799 : Hat P 799 o799 := nth (hA P) 119 rfl rfl
theorem h_798 : Hat P 798 o798 := nth (hA P) 120 rfl rfl
theorem h_806 : Hat P 806 o806 := nth (hA P) 121 rfl rfl
theorem h_805 : Hat P 805 o805 := nth (hA P) 122 rfl rfl
theorem h_811 : Hat P 811 o811 := nth (hA P) 123 rfl rfl
theorem h_810 : Hat P 810 o810 := nth (hA P) 124 rfl rfl
theorem h_816 : Hat P 816 o816 := nth (hA P) 125 rfl rfl
theorem h_815 : Hat P 815 o815 := nth (hA P) 126 rfl rfl
theorem h_821 : Hat P 821 o821 := nth (hA P) 127 rfl rfl
theorem h_820 : Hat P 820 o820 := nth (hA P) 128 rfl rfl
theorem h_828 : Hat P 828 o828 := nth (hA P) 129 rfl rfl
theorem h_827 : Hat P 827 o827 := nth (hA P) 130 rfl rfl
theorem h_835 : Hat P 835 o835 := nth (hA P) 131 rfl rfl
theorem h_834 : Hat P 834 o834 := nth (hA P) 132 rfl rfl
theorem h_842 : Hat P 842 o842 := nth (hA P) 133 rfl rfl
theorem h_841 : Hat P 841 o841 := nth (hA P) 134 rfl rfl
theorem h_847 : Hat P 847 o847 := nth (hA P) 135 rfl rfl
theorem h_846 : Hat P 846 o846 := nth (hA P) 136 rfl rfl
theorem h_854 : Hat P 854 o854 := nth (hA P) 137 rfl rfl
theorem h_853 : Hat P 853 o853 := nth (hA P) 138 rfl rfl
theorem h_861 : Hat P 861 o861 := nth (hA P) 139 rfl rfl
theorem h_860 : Hat P 860 o860 := nth (hA P) 140 rfl rfl
theorem h_866 : Hat P 866 o866 := nth (hA P) 141 rfl rfl
theorem h_865 : Hat P 865 o865 := nth (hA P) 142 rfl rfl
theorem h_873 : Hat P 873 o873 := nth (hA P) 143 rfl rfl
theorem h_872 : Hat P 872 o872 := nth (hA P) 144 rfl rfl
theorem h_880 : Hat P 880 o880 := nth (hA P) 145 rfl rfl
theorem h_879 : Hat P 879 o879 := nth (hA P) 146 rfl rfl
theorem h_887 : Hat P 887 o887 := nth (hA P) 147 rfl rfl
theorem h_886 : Hat P 886 o886 := nth (hA P) 148 rfl rfl
theorem h_894 : Hat P 894 o894 := nth (hA P) 149 rfl rfl
theorem h_893 : Hat P 893 o893 := nth (hA P) 150 rfl rfl
theorem h_901 : Hat P 901 o901 := nth (hA P) 151 rfl rfl
theorem h_900 : Hat P 900 o900 := nth (hA P) 152 rfl rfl
theorem h_908 : Hat P 908 o908 := nth (hA P) 153 rfl rfl
theorem h_907 : Hat P 907 o907 := nth (hA P) 154 rfl rfl
theorem h_915 : Hat P 915 o915 := nth (hA P) 155 rfl rfl
theorem h_914 : Hat P 914 o914 := nth (hA P) 156 rfl rfl
end
theorem nmA : [(fd 2).2.2.names, (fd 3).2.2.names, (fd 4).2.2.names, (fd 6).2.2.names, (fd 8).2.2.names, (fd 9).2.2.names, (fd 10).2.2.names, (fd 11).2.2.names, (md 14 0).2.2.names, (md 16 0).2.2.names, (fd 18).2.2.names, (md 23 0).2.2.names, (md 23 1).2.2.names, (md 23 2).2.2.names, (md 23 3).2.2.names, (md 23 4).2.2.names, (md 23 5).2.2.names, (md 23 6).2.2.names, (fd 28).2.2.names, (fd 29).2.2.names, (fd 30).2.2.names, (fd 37).2.2.names, (fd 38).2.2.names, (fd 39).2.2.names, (fd 40).2.2.names, (fd 41).2.2.names, (fd 42).2.2.names, (fd 43).2.2.names, (fd 44).2.2.names, (fd 45).2.2.names, (fd 46).2.2.names, (fd 47).2.2.names, (fd 48).2.2.names, (fd 49).2.2.names, (fd 53).2.2.names, (fd 90).2.2.names, (fd 91).2.2.names, (fd 93).2.2.names, (fd 96).2.2.names, (fd 97).2.2.names, (fd 98).2.2.names, (fd 99).2.2.names, (fd 100).2.2.names, (fd 101).2.2.names, (fd 102).2.2.names, (fd 103).2.2.names, (fd 104).2.2.names, (fd 105).2.2.names, (fd 106).2.2.names, (fd 107).2.2.names, (fd 108).2.2.names, (fd 109).2.2.names, (fd 112).2.2.names, (fd 113).2.2.names, (fd 114).2.2.names, (fd 115).2.2.names, (fd 116).2.2.names, (fd 118).2.2.names, (fd 119).2.2.names, (fd 120).2.2.names, (fd 121).2.2.names, (fd 122).2.2.names, (fd 123).2.2.names, (fd 124).2.2.names, (fd 125).2.2.names, (fd 126).2.2.names, (fd 127).2.2.names, (fd 128).2.2.names, (fd 129).2.2.names, (fd 130).2.2.names, (fd 132).2.2.names, (fd 133).2.2.names, (fd 134).2.2.names, (fd 135).2.2.names, (fd 136).2.2.names, (fd 137).2.2.names, (fd 138).2.2.names, (fd 139).2.2.names] = [k_fd_2, k_fd_3, k_fd_4, k_fd_6, k_fd_8, k_fd_9, k_fd_10, k_fd_11, k_md_14_0, k_md_16_0, k_fd_18, k_md_23_0, k_md_23_1, k_md_23_2, k_md_23_3, k_md_23_4, k_md_23_5, k_md_23_6, k_fd_28, k_fd_29, k_fd_30, k_fd_37, k_fd_38, k_fd_39, k_fd_40, k_fd_41, k_fd_42, k_fd_43, k_fd_44, k_fd_45, k_fd_46, k_fd_47, k_fd_48, k_fd_49, k_fd_53, k_fd_90, k_fd_91, k_fd_93, k_fd_96, k_fd_97, k_fd_98, k_fd_99, k_fd_100, k_fd_101, k_fd_102, k_fd_103, k_fd_104, k_fd_105, k_fd_106, k_fd_107, k_fd_108, k_fd_109, k_fd_112, k_fd_113, k_fd_114, k_fd_115, k_fd_116, k_fd_118, k_fd_119, k_fd_120, k_fd_121, k_fd_122, k_fd_123, k_fd_124, k_fd_125, k_fd_126, k_fd_127, k_fd_128, k_fd_129, k_fd_130, k_fd_132, k_fd_133, k_fd_134, k_fd_135, k_fd_136, k_fd_137, k_fd_138, k_fd_139] := by kernel_rfl
theorem scA : [scB (fd 2).2.2, scB (fd 3).2.2, scB (fd 4).2.2, scB (fd 6).2.2, scB (fd 8).2.2, scB (fd 9).2.2, scB (fd 10).2.2, scB (fd 11).2.2, scB (md 14 0).2.2, scB (md 16 0).2.2, scB (fd 18).2.2, scB (md 23 0).2.2, scB (md 23 1).2.2, scB (md 23 2).2.2, scB (md 23 3).2.2, scB (md 23 4).2.2, scB (md 23 5).2.2, scB (md 23 6).2.2, scB (fd 28).2.2, scB (fd 29).2.2, scB (fd 30).2.2, scB (fd 37).2.2, scB (fd 38).2.2, scB (fd 39).2.2, scB (fd 40).2.2, scB (fd 41).2.2, scB (fd 42).2.2, scB (fd 43).2.2, scB (fd 44).2.2, scB (fd 45).2.2, scB (fd 46).2.2, scB (fd 47).2.2, scB (fd 48).2.2, scB (fd 49).2.2, scB (fd 53).2.2, scB (fd 90).2.2, scB (fd 91).2.2, scB (fd 93).2.2, scB (fd 96).2.2, scB (fd 97).2.2, scB (fd 98).2.2, scB (fd 99).2.2, scB (fd 100).2.2, scB (fd 101).2.2, scB (fd 102).2.2, scB (fd 103).2.2, scB (fd 104).2.2, scB (fd 105).2.2, scB (fd 106).2.2, scB (fd 107).2.2, scB (fd 108).2.2, scB (fd 109).2.2, scB (fd 112).2.2, scB (fd 113).2.2, scB (fd 114).2.2, scB (fd 115).2.2, scB (fd 116).2.2, scB (fd 118).2.2, scB (fd 119).2.2, scB (fd 120).2.2, scB (fd 121).2.2, scB (fd 122).2.2, scB (fd 123).2.2, scB (fd 124).2.2, scB (fd 125).2.2, scB (fd 126).2.2, scB (fd 127).2.2, scB (fd 128).2.2, scB (fd 129).2.2, scB (fd 130).2.2, scB (fd 132).2.2, scB (fd 133).2.2, scB (fd 134).2.2, scB (fd 135).2.2, scB (fd 136).2.2, scB (fd 137).2.2, scB (fd 138).2.2, scB (fd 139).2.2] = [true, true, true, true, true, true, true, true, true, true, true, true, true, true, true, true, true, true, true, true, true, true, true, true, true, true, true, true, true, true, true, true, true, true, true, true, true, true, true, true, true, true, true, true, true, true, true, true, true, true, true, true, true, true, true, true, true, true, true, true, true, true, true, true, true, true, true, true, true, true, true, true, true, true, true, true, true, true] := by kernel_rfl
noncomputable abbrev GVr (c : Cx) (x : String) (a : Addr) : Prop := GV c (S x) (.val (.ref a))
theorem gw (G : Good c) {x : String} {a : Addr} (k : Nat) (h : (gvL c.w.params)[k]? = some (mgN c.w.params (S x))) (h' : gvR[k]? = some (some (.ref a))) : GVr c x a := gv_val G (nth (gvA _) k h h')
theorem gv_INF (G : Good c) : GV c (S "INF") (.tup [.int 1, .int 0]) := gv_of G (y := .ref 291) (nth (gvA _) 0 rfl rfl) fun P k => ⟨291, #[vi 1 543, vi 0 544], 0, rfl, k 291 (o291 c.w.params) (nth (hA _) 0 rfl rfl) (by decide), ⟨_, rfl⟩, ⟨_, rfl⟩, trivial⟩
theorem gv_MOST_PART (G : Good c) : GV c (S "MOST_PART") (.int BIG) := gv_int G (t := 552) (nth (gvA _) 1 rfl rfl)
theorem gv_MOST_SCALE (G : Good c) : GV c (S "MOST_SCALE") (.int MSC) := gv_int G (t := 1028) (nth (gvA _) 2 rfl rfl)
theorem gv_Matching (G : Good c) : GVr c "Matching" 240 := gw G 3 rfl rfl
theorem gv_NAN (G : Good c) : GV c (S "NAN") (.tup [.int 0, .int 0]) := gv_of G (y := .ref 290) (nth (gvA _) 4 rfl rfl) fun P k => ⟨290, #[vi 0 540, vi 0 541], 0, rfl, k 290 (o290 c.w.params) (nth (hA _) 1 rfl rfl) (by decide), ⟨_, rfl⟩, ⟨_, rfl⟩, trivial⟩
theorem gv_Refusal (G : Good c) : GVr c "Refusal" 117 := gw G 5 rfl rfl
theorem gv_Vector (G : Good c) : GVr c "Vector" 144 := gw G 6 rfl rfl
theorem gv_ZERO (G : Good c) : GV c (S "ZERO") (.tup [.int 0, .int 1]) := gv_of G (y := .ref 292) (nth (gvA _) 7 rfl rfl) fun P k => ⟨292, #[vi 0 546, vi 1 547], 0, rfl, k 292 (o292 c.w.params) (nth (hA _) 2 rfl rfl) (by decide), ⟨_, rfl⟩, ⟨_, rfl⟩, trivial⟩
theorem gv__law_least (G : Good c) : GVr c "_law_least" 887 := gw G 8 rfl rfl
theorem gv__law_middle (G : Good c) : GVr c "_law_middle" 901 := gw G 9 rfl rfl
theorem gv__law_row (G : Good c) : GVr c "_law_row" 894 := gw G 10 rfl rfl
theorem gv__law_shared (G : Good c) : GVr c "_law_shared" 908 := gw G 11 rfl rfl
theorem gv__law_stud (G : Good c) : GVr c "_law_stud" 880 := gw G 12 rfl rfl
theorem gv__law_studs (G : Good c) : GVr c "_law_studs" 873 := gw G 13 rfl rfl
theorem gv__law_told (G : Good c) : GVr c "_law_told" 915 := gw G 14 rfl rfl
theorem gv_abs (G : Good c) : GV c (S "abs") (.val (.builtin "abs")) := gv_bi G (nth (gvA _) 15 rfl rfl) (nth (gvB _) 0 rfl rfl)
theorem gv_add (G : Good c) : GVr c "add" 355 := gw G 16 rfl rfl
theorem gv_as_kind (G : Good c) : GVr c "as_kind" 637 := gw G 17 rfl rfl
theorem gv_as_vector_kind (G : Good c) : GVr c "as_vector_kind" 625 := gw G 18 rfl rfl
theorem gv_ascending (G : Good c) : GVr c "ascending" 771 := gw G 19 rfl rfl
theorem gv_b_mean (G : Good c) : GVr c "b_mean" 847 := gw G 20 rfl rfl
theorem gv_b_median (G : Good c) : GVr c "b_median" 854 := gw G 21 rfl rfl
theorem gv_b_range (G : Good c) : GVr c "b_range" 811 := gw G 22 rfl rfl
theorem gv_b_var (G : Good c) : GVr c "b_var" 866 := gw G 23 rfl rfl
theorem gv_bounded (G : Good c) : GVr c "bounded" 306 := gw G 24 rfl rfl
theorem gv_by_comparing (G : Good c) : GVr c "by_comparing" 750 := gw G 25 rfl rfl
theorem gv_character (G : Good c) : GVr c "character" 155 := gw G 26 rfl rfl
theorem gv_class_attr (G : Good c) : GVr c "class_attr" 52 := gw G 27 rfl rfl
theorem gv_class_of (G : Good c) : GVr c "class_of" 80 := gw G 28 rfl rfl
theorem gv_compare (G : Good c) : GVr c "compare" 411 := gw G 29 rfl rfl
theorem gv_cov_of (G : Good c) : GVr c "cov_of" 757 := gw G 30 rfl rfl
theorem gv_dim_of (G : Good c) : GVr c "dim_of" 40 := gw G 31 rfl rfl
theorem gv_dimnames_of (G : Good c) : GVr c "dimnames_of" 45 := gw G 32 rfl rfl
theorem gv_div (G : Good c) : GVr c "div" 376 := gw G 33 rfl rfl
theorem gv_double_sum (G : Good c) : GVr c "double_sum" 677 := gw G 34 rfl rfl
theorem gv_doubled_text (G : Good c) : GVr c "doubled_text" 251 := gw G 35 rfl rfl
theorem gv_extreme_item (G : Good c) : GVr c "extreme_item" 691 := gw G 36 rfl rfl
theorem gv_extreme_of (G : Good c) : GVr c "extreme_of" 698 := gw G 37 rfl rfl
theorem gv_finish (G : Good c) : GVr c "finish" 792 := gw G 38 rfl rfl
theorem gv_finite_part (G : Good c) : GVr c "finite_part" 816 := gw G 39 rfl rfl
theorem gv_flag (G : Good c) : GVr c "flag" 162 := gw G 40 rfl rfl
theorem gv_floor (G : Good c) : GVr c "floor" 383 := gw G 41 rfl rfl
theorem gv_from_int (G : Good c) : GVr c "from_int" 320 := gw G 42 rfl rfl
theorem gv_gathered (G : Good c) : GVr c "gathered" 670 := gw G 43 rfl rfl
theorem gv_gcd (G : Good c) : GVr c "gcd" 299 := gw G 44 rfl rfl
theorem gv_get_attr (G : Good c) : GVr c "get_attr" 28 := gw G 45 rfl rfl
theorem gv_inherits (G : Good c) : GVr c "inherits" 87 := gw G 46 rfl rfl
theorem gv_is_finite (G : Good c) : GVr c "is_finite" 334 := gw G 47 rfl rfl
theorem gv_is_lacking (G : Good c) : GVr c "is_lacking" 651 := gw G 48 rfl rfl
theorem gv_is_na (G : Good c) : GVr c "is_na" 327 := gw G 49 rfl rfl
theorem gv_is_set (G : Good c) : GVr c "is_set" 806 := gw G 50 rfl rfl
theorem gv_isinstance (G : Good c) : GV c (S "isinstance") (.val (.builtin "isinstance")) := gv_bi G (nth (gvA _) 51 rfl rfl) (nth (gvB _) 1 rfl rfl)
theorem gv_item_order (G : Good c) : GVr c "item_order" 684 := gw G 53 rfl rfl
theorem gv_kept_items (G : Good c) : GVr c "kept_items" 663 := gw G 54 rfl rfl
theorem gv_lacking_item (G : Good c) : GVr c "lacking_item" 778 := gw G 55 rfl rfl
theorem gv_language_class (G : Good c) : GVr c "language_class" 59 := gw G 56 rfl rfl
theorem gv_len (G : Good c) : GV c (S "len") (.val (.builtin "len")) := gv_bi G (nth (gvA _) 57 rfl rfl) (nth (gvB _) 2 rfl rfl)
theorem gv_list (G : Good c) : GV c (S "list") (.val (.type "list")) := gv_bi G (nth (gvA _) 58 rfl rfl) (nth (gvB _) 3 rfl rfl)
theorem gv_make (G : Good c) : GVr c "make" 313 := gw G 59 rfl rfl
theorem gv_marked (G : Good c) : GVr c "marked" 341 := gw G 60 rfl rfl
theorem gv_match_names (G : Good c) : GVr c "match_names" 276 := gw G 61 rfl rfl
theorem gv_max (G : Good c) : GV c (S "max") (.val (.builtin "max")) := gv_bi G (nth (gvA _) 62 rfl rfl) (nth (gvB _) 4 rfl rfl)
theorem gv_max_of (G : Good c) : GVr c "max_of" 705 := gw G 63 rfl rfl
theorem gv_mean_items (G : Good c) : GVr c "mean_items" 731 := gw G 64 rfl rfl
theorem gv_median_of (G : Good c) : GVr c "median_of" 785 := gw G 65 rfl rfl
theorem gv_min (G : Good c) : GV c (S "min") (.val (.builtin "min")) := gv_bi G (nth (gvA _) 66 rfl rfl) (nth (gvB _) 5 rfl rfl)
theorem gv_min_of (G : Good c) : GVr c "min_of" 712 := gw G 67 rfl rfl
theorem gv_mul (G : Good c) : GVr c "mul" 369 := gw G 68 rfl rfl
theorem gv_names_of (G : Good c) : GVr c "names_of" 33 := gw G 69 rfl rfl
theorem gv_needed (G : Good c) : GVr c "needed" 283 := gw G 70 rfl rfl
theorem gv_neg (G : Good c) : GVr c "neg" 348 := gw G 71 rfl rfl
theorem gv_number_items (G : Good c) : GVr c "number_items" 724 := gw G 72 rfl rfl
theorem gv_numeric_arg (G : Good c) : GVr c "numeric_arg" 835 := gw G 73 rfl rfl
theorem gv_pairs_kept (G : Good c) : GVr c "pairs_kept" 861 := gw G 74 rfl rfl
theorem gv_plain_class (G : Good c) : GVr c "plain_class" 73 := gw G 75 rfl rfl
theorem gv_plain_text (G : Good c) : GVr c "plain_text" 265 := gw G 76 rfl rfl
theorem gv_range (G : Good c) : GV c (S "range") (.val (.type "range")) := gv_bi G (nth (gvA _) 77 rfl rfl) (nth (gvB _) 6 rfl rfl)
theorem gv_range_of (G : Good c) : GVr c "range_of" 719 := gw G 78 rfl rfl
theorem gv_shape_class (G : Good c) : GVr c "shape_class" 66 := gw G 79 rfl rfl
theorem gv_share (G : Good c) : GVr c "share" 183 := gw G 80 rfl rfl
theorem gv_sorted (G : Good c) : GV c (S "sorted") (.val (.builtin "sorted")) := gv_bi G (nth (gvA _) 81 rfl rfl) (nth (gvB _) 7 rfl rfl)
theorem gv_sub (G : Good c) : GVr c "sub" 362 := gw G 82 rfl rfl
theorem gv_sum (G : Good c) : GV c (S "sum") (.val (.builtin "sum")) := gv_bi G (nth (gvA _) 83 rfl rfl) (nth (gvB _) 8 rfl rfl)
theorem gv_summary_parts (G : Good c) : GVr c "summary_parts" 799 := gw G 84 rfl rfl
theorem gv_summed_kind (G : Good c) : GVr c "summed_kind" 658 := gw G 85 rfl rfl
theorem gv_take (G : Good c) : GVr c "take" 289 := gw G 86 rfl rfl
theorem gv_to_text (G : Good c) : GVr c "to_text" 592 := gw G 87 rfl rfl
theorem gv_trim_part (G : Good c) : GVr c "trim_part" 842 := gw G 88 rfl rfl
theorem gv_trimmed_mean (G : Good c) : GVr c "trimmed_mean" 764 := gw G 89 rfl rfl
theorem gv_truth_item (G : Good c) : GVr c "truth_item" 644 := gw G 90 rfl rfl
theorem gv_untagged (G : Good c) : GVr c "untagged" 828 := gw G 91 rfl rfl
theorem gv_unused_text (G : Good c) : GVr c "unused_text" 270 := gw G 92 rfl rfl
theorem gv_var_of (G : Good c) : GVr c "var_of" 738 := gw G 93 rfl rfl
theorem gv_with_names (G : Good c) : GVr c "with_names" 632 := gw G 94 rfl rfl
theorem gv_without_lacking (G : Good c) : GVr c "without_lacking" 821 := gw G 95 rfl rfl
theorem nm_fd_2 : (fd 2).2.2.names = k_fd_2 := nth nmA 0 rfl rfl
theorem fi_fd_2 : FnIs (fd 2).2.2 [S "v", S "name"] := fi_of nm_fd_2
theorem loc_fd_2 (G : Good c) (h : env.scope = (fd 2).2.2) {p : Prop} (k : LL env 0 "v" → LL env 1 "name" → p) : p :=
 have e := ee h nm_fd_2 fi_fd_2; k (la e rfl) (la e rfl)
theorem go_fd_2 (G : Good c) (h : Go c (fd 2) n [v0, v1] σ Q) : FN c (n + 1) (.ref 28) [v0, v1] σ Q :=
 FNg G (h_28 _) (h_27 _) fi_fd_2 (nth scA 0 rfl rfl) (by k_subL) h
theorem nm_fd_3 : (fd 3).2.2.names = k_fd_3 := nth nmA 1 rfl rfl
theorem fi_fd_3 : FnIs (fd 3).2.2 [S "v"] := fi_of nm_fd_3
theorem loc_fd_3 (G : Good c) (h : env.scope = (fd 3).2.2) {p : Prop} (k : LL env 0 "v" → LL env 1 "tag" → LL env 2 "dims" → LL env 3 "rows" → LL env 4 "names" → GlobAt c env (S "sorted") (.val (.builtin "sorted")) → GG c env "dim_of" 40 → GlobAt c env (S "len") (.val (.builtin "len")) → GG c env "dimnames_of" 45 → GG c env "get_attr" 28 → GlobAt c env (S "list") (.val (.type "list")) → p) : p :=
 have e := ee h nm_fd_3 fi_fd_3; k (la e rfl) (la e rfl) (la e rfl) (la e rfl) (la e rfl) (ga e (gv_sorted G) 5 rfl) (ga e (gv_dim_of G) 6 rfl) (ga e (gv_len G) 7 rfl) (ga e (gv_dimnames_of G) 8 rfl) (ga e (gv_get_attr G) 9 rfl) (ga e (gv_list G) 10 rfl)
theorem go_fd_3 (G : Good c) (h : Go c (fd 3) n [v0] σ Q) : FN c (n + 1) (.ref 33) [v0] σ Q :=
 FNg G (h_33 _) (h_32 _) fi_fd_3 (nth scA 1 rfl rfl) (by k_subL) h
theorem nm_fd_4 : (fd 4).2.2.names = k_fd_4 := nth nmA 2 rfl rfl
theorem fi_fd_4 : FnIs (fd 4).2.2 [S "v"] := fi_of nm_fd_4
theorem loc_fd_4 (G : Good c) (h : env.scope = (fd 4).2.2) {p : Prop} (k : LL env 0 "v" → LL env 1 "dims" → GG c env "get_attr" 28 → GlobAt c env (S "list") (.val (.type "list")) → p) : p :=
 have e := ee h nm_fd_4 fi_fd_4; k (la e rfl) (la e rfl) (ga e (gv_get_attr G) 2 rfl) (ga e (gv_list G) 3 rfl)
theorem go_fd_4 (G : Good c) (h : Go c (fd 4) n [v0] σ Q) : FN c (n + 1) (.ref 40) [v0] σ Q :=
 FNg G (h_40 _) (h_39 _) fi_fd_4 (nth scA 2 rfl rfl) (by k_subL) h
theorem nm_fd_6 : (fd 6).2.2.names = k_fd_6 := nth nmA 3 rfl rfl
theorem fi_fd_6 : FnIs (fd 6).2.2 [S "v"] := fi_of nm_fd_6
theorem loc_fd_6 (G : Good c) (h : env.scope = (fd 6).2.2) {p : Prop} (k : LL env 0 "v" → LL env 1 "found" → GG c env "get_attr" 28 → GlobAt c env (S "list") (.val (.type "list")) → p) : p :=
 have e := ee h nm_fd_6 fi_fd_6; k (la e rfl) (la e rfl) (ga e (gv_get_attr G) 2 rfl) (ga e (gv_list G) 3 rfl)
theorem go_fd_6 (G : Good c) (h : Go c (fd 6) n [v0] σ Q) : FN c (n + 1) (.ref 52) [v0] σ Q :=
 FNg G (h_52 _) (h_51 _) fi_fd_6 (nth scA 3 rfl rfl) (by k_subL) h
theorem nm_fd_8 : (fd 8).2.2.names = k_fd_8 := nth nmA 4 rfl rfl
theorem fi_fd_8 : FnIs (fd 8).2.2 [S "v"] := fi_of nm_fd_8
theorem loc_fd_8 (G : Good c) (h : env.scope = (fd 8).2.2) {p : Prop} (k : LL env 0 "v" → LL env 1 "dims" → GG c env "dim_of" 40 → GlobAt c env (S "len") (.val (.builtin "len")) → p) : p :=
 have e := ee h nm_fd_8 fi_fd_8; k (la e rfl) (la e rfl) (ga e (gv_dim_of G) 2 rfl) (ga e (gv_len G) 3 rfl)
theorem go_fd_8 (G : Good c) (h : Go c (fd 8) n [v0] σ Q) : FN c (n + 1) (.ref 66) [v0] σ Q :=
 FNg G (h_66 _) (h_65 _) fi_fd_8 (nth scA 4 rfl rfl) (by k_subL) h
theorem nm_fd_9 : (fd 9).2.2.names = k_fd_9 := nth nmA 5 rfl rfl
theorem fi_fd_9 : FnIs (fd 9).2.2 [S "v"] := fi_of nm_fd_9
theorem loc_fd_9 (G : Good c) (h : env.scope = (fd 9).2.2) {p : Prop} (k : LL env 0 "v" → LL env 1 "kind" → GG c env "language_class" 59 → p) : p :=
 have e := ee h nm_fd_9 fi_fd_9; k (la e rfl) (la e rfl) (ga e (gv_language_class G) 2 rfl)
theorem go_fd_9 (G : Good c) (h : Go c (fd 9) n [v0] σ Q) : FN c (n + 1) (.ref 73) [v0] σ Q :=
 FNg G (h_73 _) (h_72 _) fi_fd_9 (nth scA 5 rfl rfl) (by k_subL) h
theorem nm_fd_10 : (fd 10).2.2.names = k_fd_10 := nth nmA 6 rfl rfl
theorem fi_fd_10 : FnIs (fd 10).2.2 [S "v"] := fi_of nm_fd_10
theorem loc_fd_10 (G : Good c) (h : env.scope = (fd 10).2.2) {p : Prop} (k : LL env 0 "v" → LL env 1 "rows" → GG c env "class_attr" 52 → GlobAt c env (S "len") (.val (.builtin "len")) → GG c env "shape_class" 66 → GG c env "plain_class" 73 → p) : p :=
 have e := ee h nm_fd_10 fi_fd_10; k (la e rfl) (la e rfl) (ga e (gv_class_attr G) 2 rfl) (ga e (gv_len G) 3 rfl) (ga e (gv_shape_class G) 4 rfl) (ga e (gv_plain_class G) 5 rfl)
theorem go_fd_10 (G : Good c) (h : Go c (fd 10) n [v0] σ Q) : FN c (n + 1) (.ref 80) [v0] σ Q :=
 FNg G (h_80 _) (h_79 _) fi_fd_10 (nth scA 6 rfl rfl) (by k_subL) h
theorem nm_fd_11 : (fd 11).2.2.names = k_fd_11 := nth nmA 7 rfl rfl
theorem fi_fd_11 : FnIs (fd 11).2.2 [S "v", S "names"] := fi_of nm_fd_11
theorem loc_fd_11 (G : Good c) (h : env.scope = (fd 11).2.2) {p : Prop} (k : LL env 0 "v" → LL env 1 "names" → LL env 2 "one" → GG c env "class_of" 80 → p) : p :=
 have e := ee h nm_fd_11 fi_fd_11; k (la e rfl) (la e rfl) (la e rfl) (ga e (gv_class_of G) 3 rfl)
theorem go_fd_11 (G : Good c) (h : Go c (fd 11) n [v0, v1] σ Q) : FN c (n + 1) (.ref 87) [v0, v1] σ Q :=
 FNg G (h_87 _) (h_86 _) fi_fd_11 (nth scA 7 rfl rfl) (by k_subL) h
theorem nm_md_14_0 : (md 14 0).2.2.names = k_md_14_0 := nth nmA 8 rfl rfl
theorem fi_md_14_0 : FnIs (md 14 0).2.2 [S "self", S "message"] := fi_of nm_md_14_0
theorem loc_md_14_0 (G : Good c) (h : env.scope = (md 14 0).2.2) {p : Prop} (k : LL env 0 "self" → LL env 1 "message" → p) : p :=
 have e := ee h nm_md_14_0 fi_md_14_0; k (la e rfl) (la e rfl)
theorem nm_md_16_0 : (md 16 0).2.2.names = k_md_16_0 := nth nmA 9 rfl rfl
theorem fi_md_16_0 : FnIs (md 16 0).2.2 [S "self", S "kind", S "items", S "attrs"] := fi_of nm_md_16_0
theorem loc_md_16_0 (G : Good c) (h : env.scope = (md 16 0).2.2) {p : Prop} (k : LL env 0 "self" → LL env 1 "kind" → LL env 2 "items" → LL env 3 "attrs" → p) : p :=
 have e := ee h nm_md_16_0 fi_md_16_0; k (la e rfl) (la e rfl) (la e rfl) (la e rfl)
theorem god_md_16_0 (G : Good c) (h : Go c (md 16 0) n [v0, v1, v2, .none] σ Q) : FN c (n + 1) (.ref 134) [v0, v1, v2] σ Q := by
 refine FNg G (h_134 _) (h_133 _) fi_md_16_0 (nth scA 9 rfl rfl) ?_ h
 rintro fd o s P xs rfl hd kg kP r
 cases hd
 match xs, r with
 | [y0, y1, y2], ⟨r0, r1, r2, _⟩ =>
  refine ⟨[y0, y1, y2, .none], BindsTo.of_defaults (T := 127) rfl (kP _ _ (kg 127 (o127 c.w.params) (by kernel_rfl) (by decide))) rfl rfl rfl, r0, r1, r2, rfl, trivial⟩
theorem nm_fd_18 : (fd 18).2.2.names = k_fd_18 := nth nmA 10 rfl rfl
theorem fi_fd_18 : FnIs (fd 18).2.2 [S "b"] := fi_of nm_fd_18
theorem loc_fd_18 (G : Good c) (h : env.scope = (fd 18).2.2) {p : Prop} (k : LL env 0 "b" → GG c env "Vector" 144 → p) : p :=
 have e := ee h nm_fd_18 fi_fd_18; k (la e rfl) (ga e (gv_Vector G) 1 rfl)
theorem go_fd_18 (G : Good c) (h : Go c (fd 18) n [v0] σ Q) : FN c (n + 1) (.ref 162) [v0] σ Q :=
 FNg G (h_162 _) (h_161 _) fi_fd_18 (nth scA 10 rfl rfl) (by k_subL) h
theorem nm_md_23_0 : (md 23 0).2.2.names = k_md_23_0 := nth nmA 11 rfl rfl
theorem fi_md_23_0 : FnIs (md 23 0).2.2 [S "self", S "formals", S "tags"] := fi_of nm_md_23_0
theorem loc_md_23_0 (G : Good c) (h : env.scope = (md 23 0).2.2) {p : Prop} (k : LL env 0 "self" → LL env 1 "formals" → LL env 2 "tags" → GlobAt c env (S "len") (.val (.builtin "len")) → p) : p :=
 have e := ee h nm_md_23_0 fi_md_23_0; k (la e rfl) (la e rfl) (la e rfl) (ga e (gv_len G) 3 rfl)
theorem go_md_23_0 (G : Good c) (h : Go c (md 23 0) n [v0, v1, v2] σ Q) : FN c (n + 1) (.ref 197) [v0, v1, v2] σ Q :=
 FNg G (h_197 _) (h_196 _) fi_md_23_0 (nth scA 11 rfl rfl) (by k_subL) h
theorem nm_md_23_1 : (md 23 1).2.2.names = k_md_23_1 := nth nmA 12 rfl rfl
theorem fi_md_23_1 : FnIs (md 23 1).2.2 [S "self"] := fi_of nm_md_23_1
theorem loc_md_23_1 (G : Good c) (h : env.scope = (md 23 1).2.2) {p : Prop} (k : LL env 0 "self" → LL env 1 "name" → LL env 2 "place" → GlobAt c env (S "range") (.val (.type "range")) → GlobAt c env (S "len") (.val (.builtin "len")) → GG c env "Refusal" 117 → GG c env "doubled_text" 251 → p) : p :=
 have e := ee h nm_md_23_1 fi_md_23_1; k (la e rfl) (la e rfl) (la e rfl) (ga e (gv_range G) 3 rfl) (ga e (gv_len G) 4 rfl) (ga e (gv_Refusal G) 5 rfl) (ga e (gv_doubled_text G) 6 rfl)
theorem go_md_23_1 (G : Good c) (h : Go c (md 23 1) n [v0] σ Q) : FN c (n + 1) (.ref 204) [v0] σ Q :=
 FNg G (h_204 _) (h_203 _) fi_md_23_1 (nth scA 12 rfl rfl) (by k_subL) h
theorem nm_md_23_2 : (md 23 2).2.2.names = k_md_23_2 := nth nmA 13 rfl rfl
theorem fi_md_23_2 : FnIs (md 23 2).2.2 [S "self"] := fi_of nm_md_23_2
theorem loc_md_23_2 (G : Good c) (h : env.scope = (md 23 2).2.2) {p : Prop} (k : LL env 0 "self" → LL env 1 "name" → p) : p :=
 have e := ee h nm_md_23_2 fi_md_23_2; k (la e rfl) (la e rfl)
theorem go_md_23_2 (G : Good c) (h : Go c (md 23 2) n [v0] σ Q) : FN c (n + 1) (.ref 211) [v0] σ Q :=
 FNg G (h_211 _) (h_210 _) fi_md_23_2 (nth scA 13 rfl rfl) (by k_subL) h
theorem nm_md_23_3 : (md 23 3).2.2.names = k_md_23_3 := nth nmA 14 rfl rfl
theorem fi_md_23_3 : FnIs (md 23 3).2.2 [S "self", S "name"] := fi_of nm_md_23_3
theorem loc_md_23_3 (G : Good c) (h : env.scope = (md 23 3).2.2) {p : Prop} (k : LL env 0 "self" → LL env 1 "name" → LL env 2 "place" → LL env 3 "tag" → GlobAt c env (S "range") (.val (.type "range")) → GlobAt c env (S "len") (.val (.builtin "len")) → GG c env "Refusal" 117 → GG c env "doubled_text" 251 → p) : p :=
 have e := ee h nm_md_23_3 fi_md_23_3; k (la e rfl) (la e rfl) (la e rfl) (la e rfl) (ga e (gv_range G) 4 rfl) (ga e (gv_len G) 5 rfl) (ga e (gv_Refusal G) 6 rfl) (ga e (gv_doubled_text G) 7 rfl)
theorem go_md_23_3 (G : Good c) (h : Go c (md 23 3) n [v0, v1] σ Q) : FN c (n + 1) (.ref 218) [v0, v1] σ Q :=
 FNg G (h_218 _) (h_217 _) fi_md_23_3 (nth scA 14 rfl rfl) (by k_subL) h
theorem nm_md_23_4 : (md 23 4).2.2.names = k_md_23_4 := nth nmA 15 rfl rfl
theorem fi_md_23_4 : FnIs (md 23 4).2.2 [S "self"] := fi_of nm_md_23_4
theorem loc_md_23_4 (G : Good c) (h : env.scope = (md 23 4).2.2) {p : Prop} (k : LL env 0 "self" → LL env 1 "place" → LL env 2 "name" → GlobAt c env (S "len") (.val (.builtin "len")) → p) : p :=
 have e := ee h nm_md_23_4 fi_md_23_4; k (la e rfl) (la e rfl) (la e rfl) (ga e (gv_len G) 3 rfl)
theorem go_md_23_4 (G : Good c) (h : Go c (md 23 4) n [v0] σ Q) : FN c (n + 1) (.ref 225) [v0] σ Q :=
 FNg G (h_225 _) (h_224 _) fi_md_23_4 (nth scA 15 rfl rfl) (by k_subL) h
theorem nm_md_23_5 : (md 23 5).2.2.names = k_md_23_5 := nth nmA 16 rfl rfl
theorem fi_md_23_5 : FnIs (md 23 5).2.2 [S "self", S "place"] := fi_of nm_md_23_5
theorem loc_md_23_5 (G : Good c) (h : env.scope = (md 23 5).2.2) {p : Prop} (k : LL env 0 "self" → LL env 1 "place" → p) : p :=
 have e := ee h nm_md_23_5 fi_md_23_5; k (la e rfl) (la e rfl)
theorem go_md_23_5 (G : Good c) (h : Go c (md 23 5) n [v0, v1] σ Q) : FN c (n + 1) (.ref 232) [v0, v1] σ Q :=
 FNg G (h_232 _) (h_231 _) fi_md_23_5 (nth scA 16 rfl rfl) (by k_subL) h
theorem nm_md_23_6 : (md 23 6).2.2.names = k_md_23_6 := nth nmA 17 rfl rfl
theorem fi_md_23_6 : FnIs (md 23 6).2.2 [S "self"] := fi_of nm_md_23_6
theorem loc_md_23_6 (G : Good c) (h : env.scope = (md 23 6).2.2) {p : Prop} (k : LC env 0 "self" → GlobAt c env (S "range") (.val (.type "range")) → GlobAt c env (S "len") (.val (.builtin "len")) → p) : p :=
 have e := ee h nm_md_23_6 fi_md_23_6; k (la e rfl) (ga e (gv_range G) 1 rfl) (ga e (gv_len G) 2 rfl)
theorem go_md_23_6 (G : Good c) (h : Go c (md 23 6) n [v0] σ Q) : FN c (n + 1) (.ref 237) [v0] σ Q :=
 FNg G (h_237 _) (h_236 _) fi_md_23_6 (nth scA 17 rfl rfl) (by k_subL) h
theorem nm_fd_28 : (fd 28).2.2.names = k_fd_28 := nth nmA 18 rfl rfl
theorem fi_fd_28 : FnIs (fd 28).2.2 [S "formals", S "args", S "show"] := fi_of nm_fd_28
theorem loc_fd_28 (G : Good c) (h : env.scope = (fd 28).2.2) {p : Prop} (k : LL env 0 "formals" → LL env 1 "args" → LL env 2 "show" → LL env 3 "matching" → LL env 4 "rest" → GG c env "Matching" 240 → GlobAt c env (S "len") (.val (.builtin "len")) → GG c env "Refusal" 117 → GG c env "unused_text" 270 → p) : p :=
 have e := ee h nm_fd_28 fi_fd_28; k (la e rfl) (la e rfl) (la e rfl) (la e rfl) (la e rfl) (ga e (gv_Matching G) 5 rfl) (ga e (gv_len G) 6 rfl) (ga e (gv_Refusal G) 7 rfl) (ga e (gv_unused_text G) 8 rfl)
theorem go_fd_28 (G : Good c) (h : Go c (fd 28) n [v0, v1, v2] σ Q) : FN c (n + 1) (.ref 276) [v0, v1, v2] σ Q := by
 refine FNg G (h_276 _) (h_275 _) fi_fd_28 (nth scA 18 rfl rfl) ?_ h
 rintro fd o s P xs rfl hd kg kP r
 cases hd
 match xs, r with
 | [y0, y1, y2], r =>
  exact ⟨[y0, y1, y2], BindsTo.of_defaults (T := 271) rfl (kP _ _ (kg 271 (o271 c.w.params) (by kernel_rfl) (by decide))) rfl rfl rfl, r⟩
theorem nm_fd_29 : (fd 29).2.2.names = k_fd_29 := nth nmA 19 rfl rfl
theorem fi_fd_29 : FnIs (fd 29).2.2 [S "value", S "name"] := fi_of nm_fd_29
theorem loc_fd_29 (G : Good c) (h : env.scope = (fd 29).2.2) {p : Prop} (k : LL env 0 "value" → LL env 1 "name" → GG c env "Refusal" 117 → p) : p :=
 have e := ee h nm_fd_29 fi_fd_29; k (la e rfl) (la e rfl) (ga e (gv_Refusal G) 2 rfl)
theorem go_fd_29 (G : Good c) (h : Go c (fd 29) n [v0, v1] σ Q) : FN c (n + 1) (.ref 283) [v0, v1] σ Q :=
 FNg G (h_283 _) (h_282 _) fi_fd_29 (nth scA 19 rfl rfl) (by k_subL) h
theorem nm_fd_30 : (fd 30).2.2.names = k_fd_30 := nth nmA 20 rfl rfl
theorem fi_fd_30 : FnIs (fd 30).2.2 [S "args", S "formals", S "show"] := fi_of nm_fd_30
theorem loc_fd_30 (G : Good c) (h : env.scope = (fd 30).2.2) {p : Prop} (k : LC env 0 "args" → LL env 1 "formals" → LL env 2 "show" → LL env 3 "places" → LL env 4 "rest" → LL env 5 "values" → LL env 6 "name" → GG c env "match_names" 276 → GlobAt c env (S "list") (.val (.type "list")) → GG c env "plain_text" 265 → p) : p :=
 have e := ee h nm_fd_30 fi_fd_30; k (la e rfl) (la e rfl) (la e rfl) (la e rfl) (la e rfl) (la e rfl) (la e rfl) (ga e (gv_match_names G) 7 rfl) (ga e (gv_list G) 8 rfl) (ga e (gv_plain_text G) 9 rfl)
theorem god_fd_30 (G : Good c) (h : Go c (fd 30) n [v0, v1, .none] σ Q) : FN c (n + 1) (.ref 289) [v0, v1] σ Q := by
 refine FNg G (h_289 _) (h_288 _) fi_fd_30 (nth scA 20 rfl rfl) ?_ h
 rintro fd o s P xs rfl hd kg kP r
 cases hd
 match xs, r with
 | [y0, y1], ⟨r0, r1, _⟩ =>
  refine ⟨[y0, y1, .none], BindsTo.of_defaults (T := 284) rfl (kP _ _ (kg 284 (o284 c.w.params) (by kernel_rfl) (by decide))) rfl rfl rfl, r0, r1, rfl, trivial⟩
theorem nm_fd_37 : (fd 37).2.2.names = k_fd_37 := nth nmA 21 rfl rfl
theorem fi_fd_37 : FnIs (fd 37).2.2 [S "a", S "b"] := fi_of nm_fd_37
theorem loc_fd_37 (G : Good c) (h : env.scope = (fd 37).2.2) {p : Prop} (k : LL env 0 "a" → LL env 1 "b" → p) : p :=
 have e := ee h nm_fd_37 fi_fd_37; k (la e rfl) (la e rfl)
theorem go_fd_37 (G : Good c) (h : Go c (fd 37) n [v0, v1] σ Q) : FN c (n + 1) (.ref 299) [v0, v1] σ Q :=
 FNg G (h_299 _) (h_298 _) fi_fd_37 (nth scA 21 rfl rfl) (by k_subL) h
theorem nm_fd_38 : (fd 38).2.2.names = k_fd_38 := nth nmA 22 rfl rfl
theorem fi_fd_38 : FnIs (fd 38).2.2 [S "n", S "d"] := fi_of nm_fd_38
theorem loc_fd_38 (G : Good c) (h : env.scope = (fd 38).2.2) {p : Prop} (k : LL env 0 "n" → LL env 1 "d" → GlobAt c env (S "abs") (.val (.builtin "abs")) → GlobAt c env (S "MOST_PART") (.int BIG) → GG c env "Refusal" 117 → p) : p :=
 have e := ee h nm_fd_38 fi_fd_38; k (la e rfl) (la e rfl) (ga e (gv_abs G) 2 rfl) (ga e (gv_MOST_PART G) 3 rfl) (ga e (gv_Refusal G) 4 rfl)
theorem go_fd_38 (G : Good c) (h : Go c (fd 38) n [v0, v1] σ Q) : FN c (n + 1) (.ref 306) [v0, v1] σ Q :=
 FNg G (h_306 _) (h_305 _) fi_fd_38 (nth scA 22 rfl rfl) (by k_subL) h
theorem nm_fd_39 : (fd 39).2.2.names = k_fd_39 := nth nmA 23 rfl rfl
theorem fi_fd_39 : FnIs (fd 39).2.2 [S "n", S "d"] := fi_of nm_fd_39
theorem loc_fd_39 (G : Good c) (h : env.scope = (fd 39).2.2) {p : Prop} (k : LL env 0 "n" → LL env 1 "d" → LL env 2 "common" → GlobAt c env (S "NAN") (.tup [.int 0, .int 0]) → GG c env "gcd" 299 → GlobAt c env (S "abs") (.val (.builtin "abs")) → GG c env "bounded" 306 → p) : p :=
 have e := ee h nm_fd_39 fi_fd_39; k (la e rfl) (la e rfl) (la e rfl) (ga e (gv_NAN G) 3 rfl) (ga e (gv_gcd G) 4 rfl) (ga e (gv_abs G) 5 rfl) (ga e (gv_bounded G) 6 rfl)
theorem go_fd_39 (G : Good c) (h : Go c (fd 39) n [v0, v1] σ Q) : FN c (n + 1) (.ref 313) [v0, v1] σ Q :=
 FNg G (h_313 _) (h_312 _) fi_fd_39 (nth scA 23 rfl rfl) (by k_subL) h
theorem nm_fd_40 : (fd 40).2.2.names = k_fd_40 := nth nmA 24 rfl rfl
theorem fi_fd_40 : FnIs (fd 40).2.2 [S "n"] := fi_of nm_fd_40
theorem loc_fd_40 (G : Good c) (h : env.scope = (fd 40).2.2) : LL env 0 "n" :=
 have e := ee h nm_fd_40 fi_fd_40; la e rfl
theorem go_fd_40 (G : Good c) (h : Go c (fd 40) n [v0] σ Q) : FN c (n + 1) (.ref 320) [v0] σ Q :=
 FNg G (h_320 _) (h_319 _) fi_fd_40 (nth scA 24 rfl rfl) (by k_subL) h
theorem nm_fd_41 : (fd 41).2.2.names = k_fd_41 := nth nmA 25 rfl rfl
theorem fi_fd_41 : FnIs (fd 41).2.2 [S "x"] := fi_of nm_fd_41
theorem loc_fd_41 (G : Good c) (h : env.scope = (fd 41).2.2) : LL env 0 "x" :=
 have e := ee h nm_fd_41 fi_fd_41; la e rfl
theorem go_fd_41 (G : Good c) (h : Go c (fd 41) n [v0] σ Q) : FN c (n + 1) (.ref 327) [v0] σ Q :=
 FNg G (h_327 _) (h_326 _) fi_fd_41 (nth scA 25 rfl rfl) (by k_subL) h
theorem nm_fd_42 : (fd 42).2.2.names = k_fd_42 := nth nmA 26 rfl rfl
theorem fi_fd_42 : FnIs (fd 42).2.2 [S "x"] := fi_of nm_fd_42
theorem loc_fd_42 (G : Good c) (h : env.scope = (fd 42).2.2) : LL env 0 "x" :=
 have e := ee h nm_fd_42 fi_fd_42; la e rfl
theorem go_fd_42 (G : Good c) (h : Go c (fd 42) n [v0] σ Q) : FN c (n + 1) (.ref 334) [v0] σ Q :=
 FNg G (h_334 _) (h_333 _) fi_fd_42 (nth scA 26 rfl rfl) (by k_subL) h
theorem nm_fd_43 : (fd 43).2.2.names = k_fd_43 := nth nmA 27 rfl rfl
theorem fi_fd_43 : FnIs (fd 43).2.2 [S "x", S "y"] := fi_of nm_fd_43
theorem loc_fd_43 (G : Good c) (h : env.scope = (fd 43).2.2) {p : Prop} (k : LL env 0 "x" → LL env 1 "y" → GlobAt c env (S "NAN") (.tup [.int 0, .int 0]) → p) : p :=
 have e := ee h nm_fd_43 fi_fd_43; k (la e rfl) (la e rfl) (ga e (gv_NAN G) 2 rfl)
theorem go_fd_43 (G : Good c) (h : Go c (fd 43) n [v0, v1] σ Q) : FN c (n + 1) (.ref 341) [v0, v1] σ Q :=
 FNg G (h_341 _) (h_340 _) fi_fd_43 (nth scA 27 rfl rfl) (by k_subL) h
theorem nm_fd_44 : (fd 44).2.2.names = k_fd_44 := nth nmA 28 rfl rfl
theorem fi_fd_44 : FnIs (fd 44).2.2 [S "x"] := fi_of nm_fd_44
theorem loc_fd_44 (G : Good c) (h : env.scope = (fd 44).2.2) : LL env 0 "x" :=
 have e := ee h nm_fd_44 fi_fd_44; la e rfl
theorem go_fd_44 (G : Good c) (h : Go c (fd 44) n [v0] σ Q) : FN c (n + 1) (.ref 348) [v0] σ Q :=
 FNg G (h_348 _) (h_347 _) fi_fd_44 (nth scA 28 rfl rfl) (by k_subL) h
theorem nm_fd_45 : (fd 45).2.2.names = k_fd_45 := nth nmA 29 rfl rfl
theorem fi_fd_45 : FnIs (fd 45).2.2 [S "x", S "y"] := fi_of nm_fd_45
theorem loc_fd_45 (G : Good c) (h : env.scope = (fd 45).2.2) {p : Prop} (k : LL env 0 "x" → LL env 1 "y" → GG c env "is_na" 327 → GG c env "marked" 341 → GlobAt c env (S "NAN") (.tup [.int 0, .int 0]) → GG c env "make" 313 → p) : p :=
 have e := ee h nm_fd_45 fi_fd_45; k (la e rfl) (la e rfl) (ga e (gv_is_na G) 2 rfl) (ga e (gv_marked G) 3 rfl) (ga e (gv_NAN G) 4 rfl) (ga e (gv_make G) 5 rfl)
theorem go_fd_45 (G : Good c) (h : Go c (fd 45) n [v0, v1] σ Q) : FN c (n + 1) (.ref 355) [v0, v1] σ Q :=
 FNg G (h_355 _) (h_354 _) fi_fd_45 (nth scA 29 rfl rfl) (by k_subL) h
theorem nm_fd_46 : (fd 46).2.2.names = k_fd_46 := nth nmA 30 rfl rfl
theorem fi_fd_46 : FnIs (fd 46).2.2 [S "x", S "y"] := fi_of nm_fd_46
theorem loc_fd_46 (G : Good c) (h : env.scope = (fd 46).2.2) {p : Prop} (k : LL env 0 "x" → LL env 1 "y" → GG c env "add" 355 → GG c env "neg" 348 → p) : p :=
 have e := ee h nm_fd_46 fi_fd_46; k (la e rfl) (la e rfl) (ga e (gv_add G) 2 rfl) (ga e (gv_neg G) 3 rfl)
theorem go_fd_46 (G : Good c) (h : Go c (fd 46) n [v0, v1] σ Q) : FN c (n + 1) (.ref 362) [v0, v1] σ Q :=
 FNg G (h_362 _) (h_361 _) fi_fd_46 (nth scA 30 rfl rfl) (by k_subL) h
theorem nm_fd_47 : (fd 47).2.2.names = k_fd_47 := nth nmA 31 rfl rfl
theorem fi_fd_47 : FnIs (fd 47).2.2 [S "x", S "y"] := fi_of nm_fd_47
theorem loc_fd_47 (G : Good c) (h : env.scope = (fd 47).2.2) {p : Prop} (k : LL env 0 "x" → LL env 1 "y" → GG c env "is_na" 327 → GG c env "marked" 341 → GG c env "make" 313 → p) : p :=
 have e := ee h nm_fd_47 fi_fd_47; k (la e rfl) (la e rfl) (ga e (gv_is_na G) 2 rfl) (ga e (gv_marked G) 3 rfl) (ga e (gv_make G) 4 rfl)
theorem go_fd_47 (G : Good c) (h : Go c (fd 47) n [v0, v1] σ Q) : FN c (n + 1) (.ref 369) [v0, v1] σ Q :=
 FNg G (h_369 _) (h_368 _) fi_fd_47 (nth scA 31 rfl rfl) (by k_subL) h
theorem nm_fd_48 : (fd 48).2.2.names = k_fd_48 := nth nmA 32 rfl rfl
theorem fi_fd_48 : FnIs (fd 48).2.2 [S "x", S "y"] := fi_of nm_fd_48
theorem loc_fd_48 (G : Good c) (h : env.scope = (fd 48).2.2) {p : Prop} (k : LL env 0 "x" → LL env 1 "y" → GG c env "is_na" 327 → GG c env "marked" 341 → GlobAt c env (S "NAN") (.tup [.int 0, .int 0]) → GG c env "neg" 348 → GG c env "make" 313 → p) : p :=
 have e := ee h nm_fd_48 fi_fd_48; k (la e rfl) (la e rfl) (ga e (gv_is_na G) 2 rfl) (ga e (gv_marked G) 3 rfl) (ga e (gv_NAN G) 4 rfl) (ga e (gv_neg G) 5 rfl) (ga e (gv_make G) 6 rfl)
theorem go_fd_48 (G : Good c) (h : Go c (fd 48) n [v0, v1] σ Q) : FN c (n + 1) (.ref 376) [v0, v1] σ Q :=
 FNg G (h_376 _) (h_375 _) fi_fd_48 (nth scA 32 rfl rfl) (by k_subL) h
theorem nm_fd_49 : (fd 49).2.2.names = k_fd_49 := nth nmA 33 rfl rfl
theorem fi_fd_49 : FnIs (fd 49).2.2 [S "x"] := fi_of nm_fd_49
theorem loc_fd_49 (G : Good c) (h : env.scope = (fd 49).2.2) {p : Prop} (k : LL env 0 "x" → GG c env "is_finite" 334 → p) : p :=
 have e := ee h nm_fd_49 fi_fd_49; k (la e rfl) (ga e (gv_is_finite G) 1 rfl)
theorem go_fd_49 (G : Good c) (h : Go c (fd 49) n [v0] σ Q) : FN c (n + 1) (.ref 383) [v0] σ Q :=
 FNg G (h_383 _) (h_382 _) fi_fd_49 (nth scA 33 rfl rfl) (by k_subL) h
theorem nm_fd_53 : (fd 53).2.2.names = k_fd_53 := nth nmA 34 rfl rfl
theorem fi_fd_53 : FnIs (fd 53).2.2 [S "x", S "y"] := fi_of nm_fd_53
theorem loc_fd_53 (G : Good c) (h : env.scope = (fd 53).2.2) {p : Prop} (k : LL env 0 "x" → LL env 1 "y" → LL env 2 "left" → LL env 3 "right" → GG c env "is_na" 327 → p) : p :=
 have e := ee h nm_fd_53 fi_fd_53; k (la e rfl) (la e rfl) (la e rfl) (la e rfl) (ga e (gv_is_na G) 4 rfl)
theorem go_fd_53 (G : Good c) (h : Go c (fd 53) n [v0, v1] σ Q) : FN c (n + 1) (.ref 411) [v0, v1] σ Q :=
 FNg G (h_411 _) (h_410 _) fi_fd_53 (nth scA 34 rfl rfl) (by k_subL) h
theorem nm_fd_90 : (fd 90).2.2.names = k_fd_90 := nth nmA 35 rfl rfl
theorem fi_fd_90 : FnIs (fd 90).2.2 [S "v", S "names"] := fi_of nm_fd_90
theorem loc_fd_90 (G : Good c) (h : env.scope = (fd 90).2.2) {p : Prop} (k : LL env 0 "v" → LL env 1 "names" → GG c env "share" 183 → GG c env "character" 155 → p) : p :=
 have e := ee h nm_fd_90 fi_fd_90; k (la e rfl) (la e rfl) (ga e (gv_share G) 2 rfl) (ga e (gv_character G) 3 rfl)
theorem go_fd_90 (G : Good c) (h : Go c (fd 90) n [v0, v1] σ Q) : FN c (n + 1) (.ref 632) [v0, v1] σ Q :=
 FNg G (h_632 _) (h_631 _) fi_fd_90 (nth scA 35 rfl rfl) (by k_subL) h
theorem nm_fd_91 : (fd 91).2.2.names = k_fd_91 := nth nmA 36 rfl rfl
theorem fi_fd_91 : FnIs (fd 91).2.2 [S "v", S "kind", S "notes"] := fi_of nm_fd_91
theorem loc_fd_91 (G : Good c) (h : env.scope = (fd 91).2.2) {p : Prop} (k : LC env 0 "v" → LC env 1 "kind" → LC env 2 "notes" → LL env 3 "items" → GlobAt c env (S "isinstance") (.val (.builtin "isinstance")) → GG c env "Vector" 144 → GG c env "as_vector_kind" 625 → GG c env "with_names" 632 → GlobAt c env (S "list") (.val (.type "list")) → GG c env "names_of" 33 → p) : p :=
 have e := ee h nm_fd_91 fi_fd_91; k (la e rfl) (la e rfl) (la e rfl) (la e rfl) (ga e (gv_isinstance G) 4 rfl) (ga e (gv_Vector G) 5 rfl) (ga e (gv_as_vector_kind G) 6 rfl) (ga e (gv_with_names G) 7 rfl) (ga e (gv_list G) 8 rfl) (ga e (gv_names_of G) 9 rfl)
theorem go_fd_91 (G : Good c) (h : Go c (fd 91) n [v0, v1, v2] σ Q) : FN c (n + 1) (.ref 637) [v0, v1, v2] σ Q :=
 FNg G (h_637 _) (h_636 _) fi_fd_91 (nth scA 36 rfl rfl) (by k_subL) h
theorem nm_fd_93 : (fd 93).2.2.names = k_fd_93 := nth nmA 37 rfl rfl
theorem fi_fd_93 : FnIs (fd 93).2.2 [S "kind", S "item"] := fi_of nm_fd_93
theorem loc_fd_93 (G : Good c) (h : env.scope = (fd 93).2.2) {p : Prop} (k : LL env 0 "kind" → LL env 1 "item" → GG c env "is_na" 327 → p) : p :=
 have e := ee h nm_fd_93 fi_fd_93; k (la e rfl) (la e rfl) (ga e (gv_is_na G) 2 rfl)
theorem go_fd_93 (G : Good c) (h : Go c (fd 93) n [v0, v1] σ Q) : FN c (n + 1) (.ref 644) [v0, v1] σ Q :=
 FNg G (h_644 _) (h_643 _) fi_fd_93 (nth scA 37 rfl rfl) (by k_subL) h
theorem nm_fd_96 : (fd 96).2.2.names = k_fd_96 := nth nmA 38 rfl rfl
theorem fi_fd_96 : FnIs (fd 96).2.2 [S "kind", S "item"] := fi_of nm_fd_96
theorem loc_fd_96 (G : Good c) (h : env.scope = (fd 96).2.2) {p : Prop} (k : LL env 0 "kind" → LL env 1 "item" → GG c env "is_na" 327 → p) : p :=
 have e := ee h nm_fd_96 fi_fd_96; k (la e rfl) (la e rfl) (ga e (gv_is_na G) 2 rfl)
theorem go_fd_96 (G : Good c) (h : Go c (fd 96) n [v0, v1] σ Q) : FN c (n + 1) (.ref 651) [v0, v1] σ Q :=
 FNg G (h_651 _) (h_650 _) fi_fd_96 (nth scA 38 rfl rfl) (by k_subL) h
theorem nm_fd_97 : (fd 97).2.2.names = k_fd_97 := nth nmA 39 rfl rfl
theorem fi_fd_97 : FnIs (fd 97).2.2 [S "vs", S "texts"] := fi_of nm_fd_97
theorem loc_fd_97 (G : Good c) (h : env.scope = (fd 97).2.2) {p : Prop} (k : LL env 0 "vs" → LL env 1 "texts" → LL env 2 "found" → LL env 3 "v" → GG c env "Refusal" 117 → p) : p :=
 have e := ee h nm_fd_97 fi_fd_97; k (la e rfl) (la e rfl) (la e rfl) (la e rfl) (ga e (gv_Refusal G) 4 rfl)
theorem go_fd_97 (G : Good c) (h : Go c (fd 97) n [v0, v1] σ Q) : FN c (n + 1) (.ref 658) [v0, v1] σ Q :=
 FNg G (h_658 _) (h_657 _) fi_fd_97 (nth scA 39 rfl rfl) (by k_subL) h
theorem nm_fd_98 : (fd 98).2.2.names = k_fd_98 := nth nmA 40 rfl rfl
theorem fi_fd_98 : FnIs (fd 98).2.2 [S "v", S "skip"] := fi_of nm_fd_98
theorem loc_fd_98 (G : Good c) (h : env.scope = (fd 98).2.2) {p : Prop} (k : LC env 0 "v" → LL env 1 "skip" → p) : p :=
 have e := ee h nm_fd_98 fi_fd_98; k (la e rfl) (la e rfl)
theorem go_fd_98 (G : Good c) (h : Go c (fd 98) n [v0, v1] σ Q) : FN c (n + 1) (.ref 663) [v0, v1] σ Q :=
 FNg G (h_663 _) (h_662 _) fi_fd_98 (nth scA 40 rfl rfl) (by k_subL) h
theorem nm_fd_99 : (fd 99).2.2.names = k_fd_99 := nth nmA 41 rfl rfl
theorem fi_fd_99 : FnIs (fd 99).2.2 [S "vs", S "kind", S "skip"] := fi_of nm_fd_99
theorem loc_fd_99 (G : Good c) (h : env.scope = (fd 99).2.2) {p : Prop} (k : LL env 0 "vs" → LL env 1 "kind" → LL env 2 "skip" → LL env 3 "found" → LL env 4 "v" → LL env 5 "item" → GG c env "kept_items" 663 → GG c env "from_int" 320 → GG c env "to_text" 592 → p) : p :=
 have e := ee h nm_fd_99 fi_fd_99; k (la e rfl) (la e rfl) (la e rfl) (la e rfl) (la e rfl) (la e rfl) (ga e (gv_kept_items G) 6 rfl) (ga e (gv_from_int G) 7 rfl) (ga e (gv_to_text G) 8 rfl)
theorem go_fd_99 (G : Good c) (h : Go c (fd 99) n [v0, v1, v2] σ Q) : FN c (n + 1) (.ref 670) [v0, v1, v2] σ Q :=
 FNg G (h_670 _) (h_669 _) fi_fd_99 (nth scA 41 rfl rfl) (by k_subL) h
theorem nm_fd_100 : (fd 100).2.2.names = k_fd_100 := nth nmA 42 rfl rfl
theorem fi_fd_100 : FnIs (fd 100).2.2 [S "items"] := fi_of nm_fd_100
theorem loc_fd_100 (G : Good c) (h : env.scope = (fd 100).2.2) {p : Prop} (k : LL env 0 "items" → LL env 1 "total" → LL env 2 "item" → GlobAt c env (S "ZERO") (.tup [.int 0, .int 1]) → GG c env "add" 355 → p) : p :=
 have e := ee h nm_fd_100 fi_fd_100; k (la e rfl) (la e rfl) (la e rfl) (ga e (gv_ZERO G) 3 rfl) (ga e (gv_add G) 4 rfl)
theorem go_fd_100 (G : Good c) (h : Go c (fd 100) n [v0] σ Q) : FN c (n + 1) (.ref 677) [v0] σ Q :=
 FNg G (h_677 _) (h_676 _) fi_fd_100 (nth scA 42 rfl rfl) (by k_subL) h
theorem nm_fd_101 : (fd 101).2.2.names = k_fd_101 := nth nmA 43 rfl rfl
theorem fi_fd_101 : FnIs (fd 101).2.2 [S "kind", S "a", S "b"] := fi_of nm_fd_101
theorem loc_fd_101 (G : Good c) (h : env.scope = (fd 101).2.2) {p : Prop} (k : LL env 0 "kind" → LL env 1 "a" → LL env 2 "b" → GG c env "compare" 411 → p) : p :=
 have e := ee h nm_fd_101 fi_fd_101; k (la e rfl) (la e rfl) (la e rfl) (ga e (gv_compare G) 3 rfl)
theorem go_fd_101 (G : Good c) (h : Go c (fd 101) n [v0, v1, v2] σ Q) : FN c (n + 1) (.ref 684) [v0, v1, v2] σ Q :=
 FNg G (h_684 _) (h_683 _) fi_fd_101 (nth scA 43 rfl rfl) (by k_subL) h
theorem nm_fd_102 : (fd 102).2.2.names = k_fd_102 := nth nmA 44 rfl rfl
theorem fi_fd_102 : FnIs (fd 102).2.2 [S "kind", S "items", S "order"] := fi_of nm_fd_102
theorem loc_fd_102 (G : Good c) (h : env.scope = (fd 102).2.2) {p : Prop} (k : LL env 0 "kind" → LL env 1 "items" → LL env 2 "order" → LL env 3 "best" → LL env 4 "item" → GG c env "is_lacking" 651 → GG c env "marked" 341 → GG c env "item_order" 684 → p) : p :=
 have e := ee h nm_fd_102 fi_fd_102; k (la e rfl) (la e rfl) (la e rfl) (la e rfl) (la e rfl) (ga e (gv_is_lacking G) 5 rfl) (ga e (gv_marked G) 6 rfl) (ga e (gv_item_order G) 7 rfl)
theorem go_fd_102 (G : Good c) (h : Go c (fd 102) n [v0, v1, v2] σ Q) : FN c (n + 1) (.ref 691) [v0, v1, v2] σ Q :=
 FNg G (h_691 _) (h_690 _) fi_fd_102 (nth scA 44 rfl rfl) (by k_subL) h
theorem nm_fd_103 : (fd 103).2.2.names = k_fd_103 := nth nmA 45 rfl rfl
theorem fi_fd_103 : FnIs (fd 103).2.2 [S "vs", S "skip", S "notes", S "order"] := fi_of nm_fd_103
theorem loc_fd_103 (G : Good c) (h : env.scope = (fd 103).2.2) {p : Prop} (k : LL env 0 "vs" → LL env 1 "skip" → LL env 2 "notes" → LL env 3 "order" → LL env 4 "kind" → LL env 5 "items" → GG c env "summed_kind" 658 → GG c env "gathered" 670 → GG c env "Vector" 144 → GG c env "extreme_item" 691 → GG c env "neg" 348 → GlobAt c env (S "INF") (.tup [.int 1, .int 0]) → p) : p :=
 have e := ee h nm_fd_103 fi_fd_103; k (la e rfl) (la e rfl) (la e rfl) (la e rfl) (la e rfl) (la e rfl) (ga e (gv_summed_kind G) 6 rfl) (ga e (gv_gathered G) 7 rfl) (ga e (gv_Vector G) 8 rfl) (ga e (gv_extreme_item G) 9 rfl) (ga e (gv_neg G) 10 rfl) (ga e (gv_INF G) 11 rfl)
theorem go_fd_103 (G : Good c) (h : Go c (fd 103) n [v0, v1, v2, v3] σ Q) : FN c (n + 1) (.ref 698) [v0, v1, v2, v3] σ Q :=
 FNg G (h_698 _) (h_697 _) fi_fd_103 (nth scA 45 rfl rfl) (by k_subL) h
theorem nm_fd_104 : (fd 104).2.2.names = k_fd_104 := nth nmA 46 rfl rfl
theorem fi_fd_104 : FnIs (fd 104).2.2 [S "vs", S "skip", S "notes"] := fi_of nm_fd_104
theorem loc_fd_104 (G : Good c) (h : env.scope = (fd 104).2.2) {p : Prop} (k : LL env 0 "vs" → LL env 1 "skip" → LL env 2 "notes" → GG c env "extreme_of" 698 → p) : p :=
 have e := ee h nm_fd_104 fi_fd_104; k (la e rfl) (la e rfl) (la e rfl) (ga e (gv_extreme_of G) 3 rfl)
theorem go_fd_104 (G : Good c) (h : Go c (fd 104) n [v0, v1, v2] σ Q) : FN c (n + 1) (.ref 705) [v0, v1, v2] σ Q :=
 FNg G (h_705 _) (h_704 _) fi_fd_104 (nth scA 46 rfl rfl) (by k_subL) h
theorem nm_fd_105 : (fd 105).2.2.names = k_fd_105 := nth nmA 47 rfl rfl
theorem fi_fd_105 : FnIs (fd 105).2.2 [S "vs", S "skip", S "notes"] := fi_of nm_fd_105
theorem loc_fd_105 (G : Good c) (h : env.scope = (fd 105).2.2) {p : Prop} (k : LL env 0 "vs" → LL env 1 "skip" → LL env 2 "notes" → GG c env "extreme_of" 698 → p) : p :=
 have e := ee h nm_fd_105 fi_fd_105; k (la e rfl) (la e rfl) (la e rfl) (ga e (gv_extreme_of G) 3 rfl)
theorem go_fd_105 (G : Good c) (h : Go c (fd 105) n [v0, v1, v2] σ Q) : FN c (n + 1) (.ref 712) [v0, v1, v2] σ Q :=
 FNg G (h_712 _) (h_711 _) fi_fd_105 (nth scA 47 rfl rfl) (by k_subL) h
theorem nm_fd_106 : (fd 106).2.2.names = k_fd_106 := nth nmA 48 rfl rfl
theorem fi_fd_106 : FnIs (fd 106).2.2 [S "vs", S "skip", S "notes"] := fi_of nm_fd_106
theorem loc_fd_106 (G : Good c) (h : env.scope = (fd 106).2.2) {p : Prop} (k : LL env 0 "vs" → LL env 1 "skip" → LL env 2 "notes" → LL env 3 "low" → LL env 4 "high" → GG c env "min_of" 712 → GG c env "max_of" 705 → GG c env "Vector" 144 → p) : p :=
 have e := ee h nm_fd_106 fi_fd_106; k (la e rfl) (la e rfl) (la e rfl) (la e rfl) (la e rfl) (ga e (gv_min_of G) 5 rfl) (ga e (gv_max_of G) 6 rfl) (ga e (gv_Vector G) 7 rfl)
theorem go_fd_106 (G : Good c) (h : Go c (fd 106) n [v0, v1, v2] σ Q) : FN c (n + 1) (.ref 719) [v0, v1, v2] σ Q :=
 FNg G (h_719 _) (h_718 _) fi_fd_106 (nth scA 48 rfl rfl) (by k_subL) h
theorem nm_fd_107 : (fd 107).2.2.names = k_fd_107 := nth nmA 49 rfl rfl
theorem fi_fd_107 : FnIs (fd 107).2.2 [S "v"] := fi_of nm_fd_107
theorem loc_fd_107 (G : Good c) (h : env.scope = (fd 107).2.2) {p : Prop} (k : LL env 0 "v" → GG c env "Refusal" 117 → p) : p :=
 have e := ee h nm_fd_107 fi_fd_107; k (la e rfl) (ga e (gv_Refusal G) 1 rfl)
theorem go_fd_107 (G : Good c) (h : Go c (fd 107) n [v0] σ Q) : FN c (n + 1) (.ref 724) [v0] σ Q :=
 FNg G (h_724 _) (h_723 _) fi_fd_107 (nth scA 49 rfl rfl) (by k_subL) h
theorem nm_fd_108 : (fd 108).2.2.names = k_fd_108 := nth nmA 50 rfl rfl
theorem fi_fd_108 : FnIs (fd 108).2.2 [S "items"] := fi_of nm_fd_108
theorem loc_fd_108 (G : Good c) (h : env.scope = (fd 108).2.2) {p : Prop} (k : LL env 0 "items" → GlobAt c env (S "NAN") (.tup [.int 0, .int 0]) → GG c env "div" 376 → GG c env "double_sum" 677 → GG c env "from_int" 320 → GlobAt c env (S "len") (.val (.builtin "len")) → p) : p :=
 have e := ee h nm_fd_108 fi_fd_108; k (la e rfl) (ga e (gv_NAN G) 1 rfl) (ga e (gv_div G) 2 rfl) (ga e (gv_double_sum G) 3 rfl) (ga e (gv_from_int G) 4 rfl) (ga e (gv_len G) 5 rfl)
theorem go_fd_108 (G : Good c) (h : Go c (fd 108) n [v0] σ Q) : FN c (n + 1) (.ref 731) [v0] σ Q :=
 FNg G (h_731 _) (h_730 _) fi_fd_108 (nth scA 50 rfl rfl) (by k_subL) h
theorem nm_fd_109 : (fd 109).2.2.names = k_fd_109 := nth nmA 51 rfl rfl
theorem fi_fd_109 : FnIs (fd 109).2.2 [S "v"] := fi_of nm_fd_109
theorem loc_fd_109 (G : Good c) (h : env.scope = (fd 109).2.2) {p : Prop} (k : LL env 0 "v" → LL env 1 "items" → LL env 2 "middle" → LL env 3 "total" → LL env 4 "item" → LL env 5 "gap" → GG c env "number_items" 724 → GlobAt c env (S "len") (.val (.builtin "len")) → GG c env "mean_items" 731 → GlobAt c env (S "ZERO") (.tup [.int 0, .int 1]) → GG c env "sub" 362 → GG c env "add" 355 → GG c env "mul" 369 → GG c env "div" 376 → GG c env "from_int" 320 → p) : p :=
 have e := ee h nm_fd_109 fi_fd_109; k (la e rfl) (la e rfl) (la e rfl) (la e rfl) (la e rfl) (la e rfl) (ga e (gv_number_items G) 6 rfl) (ga e (gv_len G) 7 rfl) (ga e (gv_mean_items G) 8 rfl) (ga e (gv_ZERO G) 9 rfl) (ga e (gv_sub G) 10 rfl) (ga e (gv_add G) 11 rfl) (ga e (gv_mul G) 12 rfl) (ga e (gv_div G) 13 rfl) (ga e (gv_from_int G) 14 rfl)
theorem go_fd_109 (G : Good c) (h : Go c (fd 109) n [v0] σ Q) : FN c (n + 1) (.ref 738) [v0] σ Q :=
 FNg G (h_738 _) (h_737 _) fi_fd_109 (nth scA 51 rfl rfl) (by k_subL) h
theorem nm_fd_112 : (fd 112).2.2.names = k_fd_112 := nth nmA 52 rfl rfl
theorem fi_fd_112 : FnIs (fd 112).2.2 [S "left", S "right"] := fi_of nm_fd_112
theorem loc_fd_112 (G : Good c) (h : env.scope = (fd 112).2.2) {p : Prop} (k : LL env 0 "left" → LL env 1 "right" → LL env 2 "one" → LL env 3 "other" → LL env 4 "total" → LL env 5 "i" → GlobAt c env (S "len") (.val (.builtin "len")) → GG c env "mean_items" 731 → GlobAt c env (S "ZERO") (.tup [.int 0, .int 1]) → GlobAt c env (S "range") (.val (.type "range")) → GG c env "add" 355 → GG c env "mul" 369 → GG c env "sub" 362 → GG c env "div" 376 → GG c env "from_int" 320 → p) : p :=
 have e := ee h nm_fd_112 fi_fd_112; k (la e rfl) (la e rfl) (la e rfl) (la e rfl) (la e rfl) (la e rfl) (ga e (gv_len G) 6 rfl) (ga e (gv_mean_items G) 7 rfl) (ga e (gv_ZERO G) 8 rfl) (ga e (gv_range G) 9 rfl) (ga e (gv_add G) 10 rfl) (ga e (gv_mul G) 11 rfl) (ga e (gv_sub G) 12 rfl) (ga e (gv_div G) 13 rfl) (ga e (gv_from_int G) 14 rfl)
theorem go_fd_112 (G : Good c) (h : Go c (fd 112) n [v0, v1] σ Q) : FN c (n + 1) (.ref 757) [v0, v1] σ Q :=
 FNg G (h_757 _) (h_756 _) fi_fd_112 (nth scA 52 rfl rfl) (by k_subL) h
theorem nm_fd_113 : (fd 113).2.2.names = k_fd_113 := nth nmA 53 rfl rfl
theorem fi_fd_113 : FnIs (fd 113).2.2 [S "items", S "part"] := fi_of nm_fd_113
theorem loc_fd_113 (G : Good c) (h : env.scope = (fd 113).2.2) {p : Prop} (k : LL env 0 "items" → LL env 1 "part" → LL env 2 "row" → LL env 3 "away" → GG c env "compare" 411 → GlobAt c env (S "ZERO") (.tup [.int 0, .int 1]) → GG c env "mean_items" 731 → GG c env "lacking_item" 778 → GG c env "ascending" 771 → GlobAt c env (S "max") (.val (.builtin "max")) → GlobAt c env (S "len") (.val (.builtin "len")) → GG c env "floor" 383 → GG c env "mul" 369 → GG c env "from_int" 320 → p) : p :=
 have e := ee h nm_fd_113 fi_fd_113; k (la e rfl) (la e rfl) (la e rfl) (la e rfl) (ga e (gv_compare G) 4 rfl) (ga e (gv_ZERO G) 5 rfl) (ga e (gv_mean_items G) 6 rfl) (ga e (gv_lacking_item G) 7 rfl) (ga e (gv_ascending G) 8 rfl) (ga e (gv_max G) 9 rfl) (ga e (gv_len G) 10 rfl) (ga e (gv_floor G) 11 rfl) (ga e (gv_mul G) 12 rfl) (ga e (gv_from_int G) 13 rfl)
theorem go_fd_113 (G : Good c) (h : Go c (fd 113) n [v0, v1] σ Q) : FN c (n + 1) (.ref 764) [v0, v1] σ Q :=
 FNg G (h_764 _) (h_763 _) fi_fd_113 (nth scA 53 rfl rfl) (by k_subL) h
theorem nm_fd_114 : (fd 114).2.2.names = k_fd_114 := nth nmA 54 rfl rfl
theorem fi_fd_114 : FnIs (fd 114).2.2 [S "items"] := fi_of nm_fd_114
theorem loc_fd_114 (G : Good c) (h : env.scope = (fd 114).2.2) {p : Prop} (k : LL env 0 "items" → LL env 1 "item" → LL env 2 "place" → LC env 3 "scale" → GlobAt c env (S "MOST_SCALE") (.int MSC) → GG c env "by_comparing" 750 → GlobAt c env (S "sorted") (.val (.builtin "sorted")) → p) : p :=
 have e := ee h nm_fd_114 fi_fd_114; k (la e rfl) (la e rfl) (la e rfl) (la e rfl) (ga e (gv_MOST_SCALE G) 4 rfl) (ga e (gv_by_comparing G) 5 rfl) (ga e (gv_sorted G) 6 rfl)
theorem nm_fd_115 : (fd 115).2.2.names = k_fd_115 := nth nmA 55 rfl rfl
theorem fi_fd_115 : FnIs (fd 115).2.2 [S "items"] := fi_of nm_fd_115
theorem loc_fd_115 (G : Good c) (h : env.scope = (fd 115).2.2) {p : Prop} (k : LL env 0 "items" → LL env 1 "item" → GG c env "is_na" 327 → p) : p :=
 have e := ee h nm_fd_115 fi_fd_115; k (la e rfl) (la e rfl) (ga e (gv_is_na G) 2 rfl)
theorem go_fd_115 (G : Good c) (h : Go c (fd 115) n [v0] σ Q) : FN c (n + 1) (.ref 778) [v0] σ Q :=
 FNg G (h_778 _) (h_777 _) fi_fd_115 (nth scA 55 rfl rfl) (by k_subL) h
theorem nm_fd_116 : (fd 116).2.2.names = k_fd_116 := nth nmA 56 rfl rfl
theorem fi_fd_116 : FnIs (fd 116).2.2 [S "v"] := fi_of nm_fd_116
theorem loc_fd_116 (G : Good c) (h : env.scope = (fd 116).2.2) {p : Prop} (k : LL env 0 "v" → LL env 1 "items" → LL env 2 "kind" → LL env 3 "row" → LL env 4 "half" → GG c env "number_items" 724 → GG c env "lacking_item" 778 → GG c env "Vector" 144 → GG c env "ascending" 771 → GlobAt c env (S "len") (.val (.builtin "len")) → GG c env "mean_items" 731 → p) : p :=
 have e := ee h nm_fd_116 fi_fd_116; k (la e rfl) (la e rfl) (la e rfl) (la e rfl) (la e rfl) (ga e (gv_number_items G) 5 rfl) (ga e (gv_lacking_item G) 6 rfl) (ga e (gv_Vector G) 7 rfl) (ga e (gv_ascending G) 8 rfl) (ga e (gv_len G) 9 rfl) (ga e (gv_mean_items G) 10 rfl)
theorem go_fd_116 (G : Good c) (h : Go c (fd 116) n [v0] σ Q) : FN c (n + 1) (.ref 785) [v0] σ Q :=
 FNg G (h_785 _) (h_784 _) fi_fd_116 (nth scA 56 rfl rfl) (by k_subL) h
theorem nm_fd_118 : (fd 118).2.2.names = k_fd_118 := nth nmA 57 rfl rfl
theorem fi_fd_118 : FnIs (fd 118).2.2 [S "interp", S "notes", S "value"] := fi_of nm_fd_118
theorem loc_fd_118 (G : Good c) (h : env.scope = (fd 118).2.2) {p : Prop} (k : LL env 0 "interp" → LL env 1 "notes" → LL env 2 "value" → p) : p :=
 have e := ee h nm_fd_118 fi_fd_118; k (la e rfl) (la e rfl) (la e rfl)
theorem go_fd_118 (G : Good c) (h : Go c (fd 118) n [v0, v1, v2] σ Q) : FN c (n + 1) (.ref 792) [v0, v1, v2] σ Q :=
 FNg G (h_792 _) (h_791 _) fi_fd_118 (nth scA 57 rfl rfl) (by k_subL) h
theorem nm_fd_119 : (fd 119).2.2.names = k_fd_119 := nth nmA 58 rfl rfl
theorem fi_fd_119 : FnIs (fd 119).2.2 [S "args"] := fi_of nm_fd_119
theorem loc_fd_119 (G : Good c) (h : env.scope = (fd 119).2.2) {p : Prop} (k : LL env 0 "args" → LL env 1 "vectors" → LL env 2 "skip" → LL env 3 "tag" → LL env 4 "value" → GG c env "is_set" 806 → p) : p :=
 have e := ee h nm_fd_119 fi_fd_119; k (la e rfl) (la e rfl) (la e rfl) (la e rfl) (la e rfl) (ga e (gv_is_set G) 5 rfl)
theorem go_fd_119 (G : Good c) (h : Go c (fd 119) n [v0] σ Q) : FN c (n + 1) (.ref 799) [v0] σ Q :=
 FNg G (h_799 _) (h_798 _) fi_fd_119 (nth scA 58 rfl rfl) (by k_subL) h
theorem nm_fd_120 : (fd 120).2.2.names = k_fd_120 := nth nmA 59 rfl rfl
theorem fi_fd_120 : FnIs (fd 120).2.2 [S "v"] := fi_of nm_fd_120
theorem loc_fd_120 (G : Good c) (h : env.scope = (fd 120).2.2) {p : Prop} (k : LL env 0 "v" → GG c env "truth_item" 644 → p) : p :=
 have e := ee h nm_fd_120 fi_fd_120; k (la e rfl) (ga e (gv_truth_item G) 1 rfl)
theorem go_fd_120 (G : Good c) (h : Go c (fd 120) n [v0] σ Q) : FN c (n + 1) (.ref 806) [v0] σ Q :=
 FNg G (h_806 _) (h_805 _) fi_fd_120 (nth scA 59 rfl rfl) (by k_subL) h
theorem nm_fd_121 : (fd 121).2.2.names = k_fd_121 := nth nmA 60 rfl rfl
theorem fi_fd_121 : FnIs (fd 121).2.2 [S "interp", S "args", S "env"] := fi_of nm_fd_121
theorem loc_fd_121 (G : Good c) (h : env.scope = (fd 121).2.2) {p : Prop} (k : LL env 0 "interp" → LL env 1 "args" → LL env 2 "env" → LL env 3 "vectors" → LL env 4 "skip" → LL env 5 "notes" → GG c env "summary_parts" 799 → GlobAt c env (S "len") (.val (.builtin "len")) → GG c env "finish" 792 → GG c env "range_of" 719 → p) : p :=
 have e := ee h nm_fd_121 fi_fd_121; k (la e rfl) (la e rfl) (la e rfl) (la e rfl) (la e rfl) (la e rfl) (ga e (gv_summary_parts G) 6 rfl) (ga e (gv_len G) 7 rfl) (ga e (gv_finish G) 8 rfl) (ga e (gv_range_of G) 9 rfl)
theorem go_fd_121 (G : Good c) (h : Go c (fd 121) n [v0, v1, v2] σ Q) : FN c (n + 1) (.ref 811) [v0, v1, v2] σ Q :=
 FNg G (h_811 _) (h_810 _) fi_fd_121 (nth scA 60 rfl rfl) (by k_subL) h
theorem nm_fd_122 : (fd 122).2.2.names = k_fd_122 := nth nmA 61 rfl rfl
theorem fi_fd_122 : FnIs (fd 122).2.2 [S "v"] := fi_of nm_fd_122
theorem loc_fd_122 (G : Good c) (h : env.scope = (fd 122).2.2) {p : Prop} (k : LL env 0 "v" → GG c env "Vector" 144 → p) : p :=
 have e := ee h nm_fd_122 fi_fd_122; k (la e rfl) (ga e (gv_Vector G) 1 rfl)
theorem go_fd_122 (G : Good c) (h : Go c (fd 122) n [v0] σ Q) : FN c (n + 1) (.ref 816) [v0] σ Q :=
 FNg G (h_816 _) (h_815 _) fi_fd_122 (nth scA 61 rfl rfl) (by k_subL) h
theorem nm_fd_123 : (fd 123).2.2.names = k_fd_123 := nth nmA 62 rfl rfl
theorem fi_fd_123 : FnIs (fd 123).2.2 [S "v", S "skip"] := fi_of nm_fd_123
theorem loc_fd_123 (G : Good c) (h : env.scope = (fd 123).2.2) {p : Prop} (k : LC env 0 "v" → LL env 1 "skip" → GG c env "Vector" 144 → p) : p :=
 have e := ee h nm_fd_123 fi_fd_123; k (la e rfl) (la e rfl) (ga e (gv_Vector G) 2 rfl)
theorem go_fd_123 (G : Good c) (h : Go c (fd 123) n [v0, v1] σ Q) : FN c (n + 1) (.ref 821) [v0, v1] σ Q :=
 FNg G (h_821 _) (h_820 _) fi_fd_123 (nth scA 62 rfl rfl) (by k_subL) h
theorem nm_fd_124 : (fd 124).2.2.names = k_fd_124 := nth nmA 63 rfl rfl
theorem fi_fd_124 : FnIs (fd 124).2.2 [S "rest"] := fi_of nm_fd_124
theorem loc_fd_124 (G : Good c) (h : env.scope = (fd 124).2.2) {p : Prop} (k : LL env 0 "rest" → LL env 1 "tag" → LL env 2 "value" → p) : p :=
 have e := ee h nm_fd_124 fi_fd_124; k (la e rfl) (la e rfl) (la e rfl)
theorem go_fd_124 (G : Good c) (h : Go c (fd 124) n [v0] σ Q) : FN c (n + 1) (.ref 828) [v0] σ Q :=
 FNg G (h_828 _) (h_827 _) fi_fd_124 (nth scA 63 rfl rfl) (by k_subL) h
theorem nm_fd_125 : (fd 125).2.2.names = k_fd_125 := nth nmA 64 rfl rfl
theorem fi_fd_125 : FnIs (fd 125).2.2 [S "args", S "fault"] := fi_of nm_fd_125
theorem loc_fd_125 (G : Good c) (h : env.scope = (fd 125).2.2) {p : Prop} (k : LL env 0 "args" → LL env 1 "fault" → LL env 2 "x" → LL env 3 "rest" → LL env 4 "skip" → GG c env "take" 289 → GG c env "inherits" 87 → GG c env "needed" 283 → GG c env "Refusal" 117 → GG c env "without_lacking" 821 → GG c env "is_set" 806 → GG c env "untagged" 828 → p) : p :=
 have e := ee h nm_fd_125 fi_fd_125; k (la e rfl) (la e rfl) (la e rfl) (la e rfl) (la e rfl) (ga e (gv_take G) 5 rfl) (ga e (gv_inherits G) 6 rfl) (ga e (gv_needed G) 7 rfl) (ga e (gv_Refusal G) 8 rfl) (ga e (gv_without_lacking G) 9 rfl) (ga e (gv_is_set G) 10 rfl) (ga e (gv_untagged G) 11 rfl)
theorem go_fd_125 (G : Good c) (h : Go c (fd 125) n [v0, v1] σ Q) : FN c (n + 1) (.ref 835) [v0, v1] σ Q :=
 FNg G (h_835 _) (h_834 _) fi_fd_125 (nth scA 64 rfl rfl) (by k_subL) h
theorem nm_fd_126 : (fd 126).2.2.names = k_fd_126 := nth nmA 65 rfl rfl
theorem fi_fd_126 : FnIs (fd 126).2.2 [S "value"] := fi_of nm_fd_126
theorem loc_fd_126 (G : Good c) (h : env.scope = (fd 126).2.2) {p : Prop} (k : LL env 0 "value" → LL env 1 "parts" → GG c env "as_kind" 637 → GlobAt c env (S "len") (.val (.builtin "len")) → GG c env "is_na" 327 → GG c env "Refusal" 117 → p) : p :=
 have e := ee h nm_fd_126 fi_fd_126; k (la e rfl) (la e rfl) (ga e (gv_as_kind G) 2 rfl) (ga e (gv_len G) 3 rfl) (ga e (gv_is_na G) 4 rfl) (ga e (gv_Refusal G) 5 rfl)
theorem go_fd_126 (G : Good c) (h : Go c (fd 126) n [v0] σ Q) : FN c (n + 1) (.ref 842) [v0] σ Q :=
 FNg G (h_842 _) (h_841 _) fi_fd_126 (nth scA 65 rfl rfl) (by k_subL) h
theorem nm_fd_127 : (fd 127).2.2.names = k_fd_127 := nth nmA 66 rfl rfl
theorem fi_fd_127 : FnIs (fd 127).2.2 [S "interp", S "args", S "env"] := fi_of nm_fd_127
theorem loc_fd_127 (G : Good c) (h : env.scope = (fd 127).2.2) {p : Prop} (k : LL env 0 "interp" → LL env 1 "args" → LL env 2 "env" → LL env 3 "x" → LL env 4 "rest" → LL env 5 "skip" → LL env 6 "notes" → LL env 7 "plain" → LL env 8 "trims" → LL env 9 "part" → GG c env "take" 289 → GG c env "needed" 283 → GG c env "inherits" 87 → GG c env "finish" 792 → GG c env "Vector" 144 → GlobAt c env (S "len") (.val (.builtin "len")) → GG c env "trim_part" 842 → GG c env "trimmed_mean" 764 → GG c env "number_items" 724 → GG c env "without_lacking" 821 → GG c env "is_set" 806 → p) : p :=
 have e := ee h nm_fd_127 fi_fd_127; k (la e rfl) (la e rfl) (la e rfl) (la e rfl) (la e rfl) (la e rfl) (la e rfl) (la e rfl) (la e rfl) (la e rfl) (ga e (gv_take G) 10 rfl) (ga e (gv_needed G) 11 rfl) (ga e (gv_inherits G) 12 rfl) (ga e (gv_finish G) 13 rfl) (ga e (gv_Vector G) 14 rfl) (ga e (gv_len G) 15 rfl) (ga e (gv_trim_part G) 16 rfl) (ga e (gv_trimmed_mean G) 17 rfl) (ga e (gv_number_items G) 18 rfl) (ga e (gv_without_lacking G) 19 rfl) (ga e (gv_is_set G) 20 rfl)
theorem go_fd_127 (G : Good c) (h : Go c (fd 127) n [v0, v1, v2] σ Q) : FN c (n + 1) (.ref 847) [v0, v1, v2] σ Q :=
 FNg G (h_847 _) (h_846 _) fi_fd_127 (nth scA 66 rfl rfl) (by k_subL) h
theorem nm_fd_128 : (fd 128).2.2.names = k_fd_128 := nth nmA 67 rfl rfl
theorem fi_fd_128 : FnIs (fd 128).2.2 [S "interp", S "args", S "env"] := fi_of nm_fd_128
theorem loc_fd_128 (G : Good c) (h : env.scope = (fd 128).2.2) {p : Prop} (k : LL env 0 "interp" → LL env 1 "args" → LL env 2 "env" → GG c env "median_of" 785 → GG c env "numeric_arg" 835 → p) : p :=
 have e := ee h nm_fd_128 fi_fd_128; k (la e rfl) (la e rfl) (la e rfl) (ga e (gv_median_of G) 3 rfl) (ga e (gv_numeric_arg G) 4 rfl)
theorem go_fd_128 (G : Good c) (h : Go c (fd 128) n [v0, v1, v2] σ Q) : FN c (n + 1) (.ref 854) [v0, v1, v2] σ Q :=
 FNg G (h_854 _) (h_853 _) fi_fd_128 (nth scA 67 rfl rfl) (by k_subL) h
theorem nm_fd_129 : (fd 129).2.2.names = k_fd_129 := nth nmA 68 rfl rfl
theorem fi_fd_129 : FnIs (fd 129).2.2 [S "use", S "skip"] := fi_of nm_fd_129
theorem loc_fd_129 (G : Good c) (h : env.scope = (fd 129).2.2) {p : Prop} (k : LL env 0 "use" → LL env 1 "skip" → GG c env "is_set" 806 → GlobAt c env (S "len") (.val (.builtin "len")) → GG c env "Refusal" 117 → p) : p :=
 have e := ee h nm_fd_129 fi_fd_129; k (la e rfl) (la e rfl) (ga e (gv_is_set G) 2 rfl) (ga e (gv_len G) 3 rfl) (ga e (gv_Refusal G) 4 rfl)
theorem go_fd_129 (G : Good c) (h : Go c (fd 129) n [v0, v1] σ Q) : FN c (n + 1) (.ref 861) [v0, v1] σ Q :=
 FNg G (h_861 _) (h_860 _) fi_fd_129 (nth scA 68 rfl rfl) (by k_subL) h
theorem nm_fd_130 : (fd 130).2.2.names = k_fd_130 := nth nmA 69 rfl rfl
theorem fi_fd_130 : FnIs (fd 130).2.2 [S "interp", S "args", S "env"] := fi_of nm_fd_130
theorem loc_fd_130 (G : Good c) (h : env.scope = (fd 130).2.2) {p : Prop} (k : LL env 0 "interp" → LL env 1 "args" → LL env 2 "env" → LL env 3 "x" → LL env 4 "y" → LL env 5 "skip" → LL env 6 "use" → LL env 7 "away" → LL env 8 "v" → LC env 9 "left" → LC env 10 "right" → LL env 11 "kept" → GG c env "take" 289 → GG c env "pairs_kept" 861 → GG c env "needed" 283 → GG c env "inherits" 87 → GG c env "Refusal" 117 → GG c env "dim_of" 40 → GlobAt c env (S "len") (.val (.builtin "len")) → GG c env "Vector" 144 → GG c env "var_of" 738 → GG c env "without_lacking" 821 → GG c env "number_items" 724 → GlobAt c env (S "range") (.val (.type "range")) → GG c env "cov_of" 757 → p) : p :=
 have e := ee h nm_fd_130 fi_fd_130; k (la e rfl) (la e rfl) (la e rfl) (la e rfl) (la e rfl) (la e rfl) (la e rfl) (la e rfl) (la e rfl) (la e rfl) (la e rfl) (la e rfl) (ga e (gv_take G) 12 rfl) (ga e (gv_pairs_kept G) 13 rfl) (ga e (gv_needed G) 14 rfl) (ga e (gv_inherits G) 15 rfl) (ga e (gv_Refusal G) 16 rfl) (ga e (gv_dim_of G) 17 rfl) (ga e (gv_len G) 18 rfl) (ga e (gv_Vector G) 19 rfl) (ga e (gv_var_of G) 20 rfl) (ga e (gv_without_lacking G) 21 rfl) (ga e (gv_number_items G) 22 rfl) (ga e (gv_range G) 23 rfl) (ga e (gv_cov_of G) 24 rfl)
theorem go_fd_130 (G : Good c) (h : Go c (fd 130) n [v0, v1, v2] σ Q) : FN c (n + 1) (.ref 866) [v0, v1, v2] σ Q :=
 FNg G (h_866 _) (h_865 _) fi_fd_130 (nth scA 69 rfl rfl) (by k_subL) h
theorem nm_fd_132 : (fd 132).2.2.names = k_fd_132 := nth nmA 70 rfl rfl
theorem fi_fd_132 : FnIs (fd 132).2.2 [S "script"] := fi_of nm_fd_132
theorem loc_fd_132 (G : Good c) (h : env.scope = (fd 132).2.2) {p : Prop} (k : LL env 0 "script" → LL env 1 "studs" → LL env 2 "cell" → LL env 3 "bulk" → LL env 4 "lap" → GlobAt c env (S "range") (.val (.type "range")) → p) : p :=
 have e := ee h nm_fd_132 fi_fd_132; k (la e rfl) (la e rfl) (la e rfl) (la e rfl) (la e rfl) (ga e (gv_range G) 5 rfl)
theorem go_fd_132 (G : Good c) (h : Go c (fd 132) n [v0] σ Q) : FN c (n + 1) (.ref 873) [v0] σ Q :=
 FNg G (h_873 _) (h_872 _) fi_fd_132 (nth scA 70 rfl rfl) (by k_subL) h
theorem nm_fd_133 : (fd 133).2.2.names = k_fd_133 := nth nmA 71 rfl rfl
theorem fi_fd_133 : FnIs (fd 133).2.2 [S "studs", S "many"] := fi_of nm_fd_133
theorem loc_fd_133 (G : Good c) (h : env.scope = (fd 133).2.2) {p : Prop} (k : LL env 0 "studs" → LL env 1 "many" → GlobAt c env (S "len") (.val (.builtin "len")) → p) : p :=
 have e := ee h nm_fd_133 fi_fd_133; k (la e rfl) (la e rfl) (ga e (gv_len G) 2 rfl)
theorem go_fd_133 (G : Good c) (h : Go c (fd 133) n [v0, v1] σ Q) : FN c (n + 1) (.ref 880) [v0, v1] σ Q :=
 FNg G (h_880 _) (h_879 _) fi_fd_133 (nth scA 71 rfl rfl) (by k_subL) h
theorem nm_fd_134 : (fd 134).2.2.names = k_fd_134 := nth nmA 72 rfl rfl
theorem fi_fd_134 : FnIs (fd 134).2.2 [S "top", S "below"] := fi_of nm_fd_134
theorem loc_fd_134 (G : Good c) (h : env.scope = (fd 134).2.2) {p : Prop} (k : LL env 0 "top" → LL env 1 "below" → LL env 2 "one" → LL env 3 "other" → GlobAt c env (S "abs") (.val (.builtin "abs")) → p) : p :=
 have e := ee h nm_fd_134 fi_fd_134; k (la e rfl) (la e rfl) (la e rfl) (la e rfl) (ga e (gv_abs G) 4 rfl)
theorem go_fd_134 (G : Good c) (h : Go c (fd 134) n [v0, v1] σ Q) : FN c (n + 1) (.ref 887) [v0, v1] σ Q :=
 FNg G (h_887 _) (h_886 _) fi_fd_134 (nth scA 72 rfl rfl) (by k_subL) h
theorem nm_fd_135 : (fd 135).2.2.names = k_fd_135 := nth nmA 73 rfl rfl
theorem fi_fd_135 : FnIs (fd 135).2.2 [S "studs", S "size_of"] := fi_of nm_fd_135
theorem loc_fd_135 (G : Good c) (h : env.scope = (fd 135).2.2) {p : Prop} (k : LL env 0 "studs" → LL env 1 "size_of" → LL env 2 "row" → LL env 3 "lap" → LL env 4 "draw" → GlobAt c env (S "range") (.val (.type "range")) → GG c env "_law_stud" 880 → p) : p :=
 have e := ee h nm_fd_135 fi_fd_135; k (la e rfl) (la e rfl) (la e rfl) (la e rfl) (la e rfl) (ga e (gv_range G) 5 rfl) (ga e (gv__law_stud G) 6 rfl)
theorem go_fd_135 (G : Good c) (h : Go c (fd 135) n [v0, v1] σ Q) : FN c (n + 1) (.ref 894) [v0, v1] σ Q :=
 FNg G (h_894 _) (h_893 _) fi_fd_135 (nth scA 73 rfl rfl) (by k_subL) h
theorem nm_fd_136 : (fd 136).2.2.names = k_fd_136 := nth nmA 74 rfl rfl
theorem fi_fd_136 : FnIs (fd 136).2.2 [S "entries", S "tenths"] := fi_of nm_fd_136
theorem loc_fd_136 (G : Good c) (h : env.scope = (fd 136).2.2) {p : Prop} (k : LL env 0 "entries" → LL env 1 "tenths" → LL env 2 "rising" → LL env 3 "away" → LL env 4 "inner" → GlobAt c env (S "sorted") (.val (.builtin "sorted")) → GlobAt c env (S "len") (.val (.builtin "len")) → GlobAt c env (S "max") (.val (.builtin "max")) → GG c env "_law_least" 887 → GlobAt c env (S "sum") (.val (.builtin "sum")) → p) : p :=
 have e := ee h nm_fd_136 fi_fd_136; k (la e rfl) (la e rfl) (la e rfl) (la e rfl) (la e rfl) (ga e (gv_sorted G) 5 rfl) (ga e (gv_len G) 6 rfl) (ga e (gv_max G) 7 rfl) (ga e (gv__law_least G) 8 rfl) (ga e (gv_sum G) 9 rfl)
theorem go_fd_136 (G : Good c) (h : Go c (fd 136) n [v0, v1] σ Q) : FN c (n + 1) (.ref 901) [v0, v1] σ Q :=
 FNg G (h_901 _) (h_900 _) fi_fd_136 (nth scA 74 rfl rfl) (by k_subL) h
theorem nm_fd_137 : (fd 137).2.2.names = k_fd_137 := nth nmA 75 rfl rfl
theorem fi_fd_137 : FnIs (fd 137).2.2 [S "one", S "other"] := fi_of nm_fd_137
theorem loc_fd_137 (G : Good c) (h : env.scope = (fd 137).2.2) {p : Prop} (k : LL env 0 "one" → LL env 1 "other" → LL env 2 "count" → LL env 3 "total" → LL env 4 "spot" → GlobAt c env (S "len") (.val (.builtin "len")) → GlobAt c env (S "range") (.val (.type "range")) → GlobAt c env (S "sum") (.val (.builtin "sum")) → GG c env "_law_least" 887 → p) : p :=
 have e := ee h nm_fd_137 fi_fd_137; k (la e rfl) (la e rfl) (la e rfl) (la e rfl) (la e rfl) (ga e (gv_len G) 5 rfl) (ga e (gv_range G) 6 rfl) (ga e (gv_sum G) 7 rfl) (ga e (gv__law_least G) 8 rfl)
theorem go_fd_137 (G : Good c) (h : Go c (fd 137) n [v0, v1] σ Q) : FN c (n + 1) (.ref 908) [v0, v1] σ Q :=
 FNg G (h_908 _) (h_907 _) fi_fd_137 (nth scA 75 rfl rfl) (by k_subL) h
theorem nm_fd_138 : (fd 138).2.2.names = k_fd_138 := nth nmA 76 rfl rfl
theorem fi_fd_138 : FnIs (fd 138).2.2 [S "fn", S "args"] := fi_of nm_fd_138
theorem loc_fd_138 (G : Good c) (h : env.scope = (fd 138).2.2) {p : Prop} (k : LL env 0 "fn" → LL env 1 "args" → LL env 2 "error" → GG c env "Refusal" 117 → p) : p :=
 have e := ee h nm_fd_138 fi_fd_138; k (la e rfl) (la e rfl) (la e rfl) (ga e (gv_Refusal G) 3 rfl)
theorem go_fd_138 (G : Good c) (h : Go c (fd 138) n [v0, v1] σ Q) : FN c (n + 1) (.ref 915) [v0, v1] σ Q :=
 FNg G (h_915 _) (h_914 _) fi_fd_138 (nth scA 76 rfl rfl) (by k_subL) h
theorem nm_fd_139 : (fd 139).2.2.names = k_fd_139 := nth nmA 77 rfl rfl
theorem fi_fd_139 : FnIs (fd 139).2.2 [S "script"] := fi_of nm_fd_139
theorem loc_fd_139 (G : Good c) (h : env.scope = (fd 139).2.2) {p : Prop} (k : LL env 0 "script" → LL env 1 "studs" → LC env 2 "one" → LC env 3 "other" → LL env 4 "tenths" → LC env 5 "skip" → LL env 6 "x" → LL env 7 "y" → LL env 8 "left_now" → LL env 9 "part_told" → LL env 10 "args" → LL env 11 "told" → LL env 12 "due" → LL env 13 "kept" → LL env 14 "square" → LL env 15 "wide" → LL env 16 "twice" → LL env 17 "low" → LL env 18 "high" → GG c env "_law_studs" 873 → GG c env "_law_row" 894 → GG c env "_law_stud" 880 → GlobAt c env (S "len") (.val (.builtin "len")) → GG c env "Vector" 144 → GlobAt c env (S "list") (.val (.type "list")) → GG c env "_law_least" 887 → GG c env "flag" 162 → GG c env "_law_told" 915 → GG c env "b_mean" 847 → GG c env "_law_middle" 901 → GG c env "b_median" 854 → GG c env "b_var" 866 → GlobAt c env (S "range") (.val (.type "range")) → GG c env "_law_shared" 908 → GG c env "b_range" 811 → GlobAt c env (S "min") (.val (.builtin "min")) → GlobAt c env (S "max") (.val (.builtin "max")) → p) : p :=
 have e := ee h nm_fd_139 fi_fd_139; k (la e rfl) (la e rfl) (la e rfl) (la e rfl) (la e rfl) (la e rfl) (la e rfl) (la e rfl) (la e rfl) (la e rfl) (la e rfl) (la e rfl) (la e rfl) (la e rfl) (la e rfl) (la e rfl) (la e rfl) (la e rfl) (la e rfl) (ga e (gv__law_studs G) 19 rfl) (ga e (gv__law_row G) 20 rfl) (ga e (gv__law_stud G) 21 rfl) (ga e (gv_len G) 22 rfl) (ga e (gv_Vector G) 23 rfl) (ga e (gv_list G) 24 rfl) (ga e (gv__law_least G) 25 rfl) (ga e (gv_flag G) 26 rfl) (ga e (gv__law_told G) 27 rfl) (ga e (gv_b_mean G) 28 rfl) (ga e (gv__law_middle G) 29 rfl) (ga e (gv_b_median G) 30 rfl) (ga e (gv_b_var G) 31 rfl) (ga e (gv_range G) 32 rfl) (ga e (gv__law_shared G) 33 rfl) (ga e (gv_b_range G) 34 rfl) (ga e (gv_min G) 35 rfl) (ga e (gv_max G) 36 rfl)
end
section
local macro_rules | `(tactic| k_offL) => `(tactic| first | exact Or.inl (by with_reducible assumption) | exact Or.inr ⟨rfl, by with_reducible assumption⟩)
local macro_rules | `(tactic| k_clsL) => `(tactic| first | rfl | assumption)
local macro_rules | `(tactic| k_upd) => `(tactic| first
 | ((with_reducible show EV _ _ _ _ _ _ _ _ _); first
     | refine EV_loc (by assumption) (by with_reducible assumption) (by k_clsL) ?_
     | refine EV_glob (by assumption) (by with_reducible assumption) ?_
     | refine EV_int ?_ | refine EV_Attr ?_ (by with_unfolding_all rfl) | refine EV_Call ?_ | refine EV_str ?_ | refine EV_Cmp ?_ rfl | refine EV_Slice ?_ | refine EV_Sub ?_ | refine EV_BinOp ?_ | refine EV_Meth ?_
     | refine EV_ListF (ES_cons ?_) | refine EV_none ?_ | refine EV_bool ?_ | refine EV_Unary ?_ | refine EV_IfExp ?_ | refine EV_BoolOp ?_
     | refine EV_Tuple ?_
     | refine EV_cell (by assumption) (by with_reducible assumption) (by k_clsL) ?_
     | refine EV_free (by assumption) (by with_reducible assumption) (by k_clsL) ?_)
 | ((with_reducible show SS _ _ _ _ _ _ _ _ _ _ _ _); first
     | refine SS_cons ?_ | refine SS_nil ?_)
 | ((with_reducible show SX _ _ _ _ _ _ _ _ _ _ _ _); first
     | refine SX_If ?_ | refine SX_Return ?_ | refine SX_Assign_Name (by assumption) (by k_offL) ?_ | refine SX_Expr (by assumption) ?_ | refine SX_Assign_Tuple ?_
     | refine SX_Assign_Attr ?_ | refine SX_Assign_Sub ?_ | refine SX_AugAssign_Name (by assumption) (by with_reducible assumption) (by k_clsL) ?_ | refine SX_Return_none ?_ | refine SX_Break ?_)
 | ((with_reducible show ES _ _ _ _ _ _ _ _ _); first
     | refine ES_cons ?_ | refine ES_nil ?_)
 | ((with_reducible show OP1 _ _ _ _ _ _ _ _ _ _); first
     | refine get_ins (attr_ok (by assumption) (by decide +kernel)) rfl rfl ?_
     | refine ms_formals (by assumption) (by assumption) ?_ | refine ms_tags (by assumption) (by assumption) ?_ | refine ms_used (by assumption) (by assumption) ?_ | refine ms_places (by assumption) (by assumption) ?_ | refine op_neg ?_)
 | ((with_reducible show EB _ _ _ _ _ _ _ _ _); first
     | refine EB_Cmp ?_ rfl | refine EB_Not ?_ | refine EB_BoolOp ?_ | refine EB_Name ?_ | refine EB_Call ?_ | refine EB_Attr ?_ | refine EB_val ?_)
 | ((with_reducible show OP2 _ _ _ _ _ _ _ _ _ _ _); first
     | refine op_is ?_ | refine op_isNot ?_
     | refine eqS_t (by decide +kernel) ?_ | refine eqS_f (by decide +kernel) ?_ | refine neS_t (by decide +kernel) ?_ | refine neS_f (by decide +kernel) ?_
     | refine op_eqI ?_ | refine op_neI ?_ | refine op_ltI ?_ | refine op_leI ?_ | refine op_gtI ?_ | refine op_geI ?_ | refine op_add ?_ | refine op_sub ?_ | refine op_iadd ?_
     | refine op_eqNS ?_ | refine op_neNS ?_
     | refine sub_tup rfl (by decide) (by decide) (fun _ _ _ => rfl) ?_ | refine sub_lst rfl (by decide) (by decide) (fun _ _ _ => rfl) ?_
     | refine notIn_f (by assumption) rfl rfl (by decide +kernel) ?_
     | refine ms_in (by assumption) (by assumption) ?_ | refine ms_notIn (by assumption) (by assumption) ?_)
 | ((with_reducible show TRU _ _ _ _ _ _ _ _ _); first
     | refine tru_bool ?_)
 | ((with_reducible show BT' _ _ _ _ _ _ _ _ _ _); first
     | refine BT_and ?_ | refine BT_or ?_ | refine BT_and_nil ?_ | refine BT_or_nil ?_)
 | ((with_reducible show BO _ _ _ _ _ _ _ _ _ _); first
     | refine BO_and ?_ | refine BO_or ?_ | refine BO_one ?_)
 | ((with_reducible show EO _ _ _ _ _ _ _ _ _); first
     | refine EO_some ?_ | refine EO_none ?_)
 | ((with_reducible show AS _ _ _ _ _ _ _ _ _ _); first
     | refine AS_Name (by assumption) (by k_offL) ?_ | refine AS_Tuple (Room.handled (by assumption)) ?_ | refine AS_TupleL (Room.handled (by assumption)) ?_)
 | ((with_reducible show ASL _ _ _ _ _ _ _ _ _ _); first
     | refine ASL_cons ?_ | refine ASL_nil ?_)
 | refine ite_t rfl ?_ | refine ite_f rfl ?_
 | refine ⟨_, rfl, callee_builtin, ?_⟩ | refine ⟨_, rfl, callee_type, ?_⟩ | refine ⟨_, rfl, callee_num (by assumption) rfl, ?_⟩ | refine ⟨_, rfl, callee_cls (by assumption) rfl, ?_⟩
 | refine And.intro (Nat.le_of_ble_eq_true rfl) ?_
 | refine Into.go (by assumption) _ _ ?_)
local macro_rules | `(tactic| lk) => `(tactic| repeat' k_upd)
section
variable {c : Cx}
theorem fm2 {α β : Type} {f : α → Option β} {a b : α} {x y : β} (h1 : f a = some x) (h2 : f b = some y) : List.filterMap f [a, b] = [x, y] := by
 rw [List.filterMap_cons_some h1, List.filterMap_cons_some h2]; rfl
theorem swap2 {env : Env} {i j k k2 : Nat} {x y n1 n2 n3 : Str} {p1 p2 tp vp q1 q2 q3 q4 : Pos} (ok : EnvOk env) (lx : LocAt env i x .local) (ly : LocAt env j y .local) (hp : (p2.line == p1.line) = true) (hne : (x == y) = false) (hn : (n1 == ("__debug__" : Str)) = false) :
  swappedStores [.Tuple [.Name x p1, .Name y p2] k tp] (.Tuple [.Name n1 q1, .BinOp (.Name n2 q2) .Mod (.Name n3 q3) q4] k2 vp) env = pure (some [x, y]) := by
 have hb : env.blockKind = .function := by unfold Env.blockKind; rw [ok.kind]; rfl
 have hd : ([x, y] : List Str).eraseDups = [x, y] := by
  have hne' : (y == x) = false := by rw [beq_eq_false_iff_ne] at hne ⊢; exact Ne.symm hne
  simp [List.eraseDups_cons, hne, hne']
 have hp' : p2.line = p1.line := by simpa using hp
 have kx : (env.kindOf x == some .local) = true := by rw [lx.1.1]; rfl
 have ky : (env.kindOf y == some .local) = true := by rw [ly.1.1]; rfl
 unfold swappedStores
 refine (if_neg (by rw [hb]; exact Bool.false_ne_true)).trans ?_
 refine Eq.trans (if_neg Bool.false_ne_true) ?_
 dsimp only
 have h2 : ∀ {z : Str} {b : Bool}, (env.kindOf z == some .local) = true → b = true → (if (env.kindOf z == some .local && b) = true then some z else none) = some z := fun h hb => by rw [h, hb]; rfl
 rw [@fm2 _ _ _ (PySem.Expr.Name x p1) (PySem.Expr.Name y p2) x y ?_ ?_, hd]
 rotate_left
 ·exact h2 kx (beq_self_eq_true _)
 ·exact h2 ky hp
 refine (if_neg Bool.false_ne_true).trans ?_
 refine (if_neg Bool.false_ne_true).trans ?_
 refine (if_neg ?_).trans rfl
 show ¬ (constantsAlone 8 (.Name n1 q1) && _) = true
 rw [show constantsAlone 8 (.Name n1 q1) = false from hn]; exact Bool.false_ne_true
noncomputable def red (n d : Int) : Int × Int := (n / (Int.gcd n d : Int), d / (Int.gcd n d : Int))
theorem red_scale {k n d : Int} (hk : 0 < k) (hd : 0 < d) : red (k * n) (k * d) = red n d := by
 unfold red
 rw [Int.gcd_mul_left]
 have e : ((k.natAbs * Int.gcd n d : Nat) : Int) = k * (Int.gcd n d : Int) := by rw [Int.natCast_mul, Int.natAbs_of_nonneg (Int.le_of_lt hk)]
 rw [e, Int.mul_ediv_mul_of_pos _ _ hk, Int.mul_ediv_mul_of_pos _ _ hk]
theorem red_scale' {k n d : Int} (hk : 0 < k) (hd : 0 < d) : red (n * k) (d * k) = red n d := by rw [Int.mul_comm n, Int.mul_comm d, red_scale hk hd]
theorem red_spec {n d : Int} (hd : 0 < d) : ∃ g : Int, 0 < g ∧ n = g * (red n d).1 ∧ d = g * (red n d).2 := by
 refine ⟨Int.gcd n d, ?_, ?_, ?_⟩
 ·exact Int.natCast_pos.mpr (Int.gcd_pos_of_ne_zero_right n (Int.ne_of_gt hd))
 ·exact (Int.mul_ediv_cancel' (Int.gcd_dvd_left ..)).symm
 ·exact (Int.mul_ediv_cancel' (Int.gcd_dvd_right ..)).symm
theorem red_pos {n d : Int} (hd : 0 < d) : 0 < (red n d).2 := by
 obtain ⟨g, hg, _, h⟩ := red_spec (n := n) hd
 rw [h] at hd
 exact Int.pos_of_mul_pos_right hd hg |> fun h => h
theorem red_one (n : Int) : red n 1 = (n, 1) := by unfold red; simp
theorem red_le {n d : Int} (hd : 0 < d) : (red n d).2 ≤ d ∧ -(n.natAbs : Int) ≤ (red n d).1 ∧ (red n d).1 ≤ (n.natAbs : Int) := by
 obtain ⟨g, hg, h1, h2⟩ := red_spec (n := n) hd
 have hp := red_pos (n := n) hd
 generalize (red n d).1 = a at *
 generalize (red n d).2 = b at *
 have hb : b ≤ g * b := by
  have := Int.mul_le_mul_of_nonneg_right (show (1 : Int) ≤ g by omega) (Int.le_of_lt hp)
  omega
 have ha : (a.natAbs : Int) ≤ n.natAbs := by
  rw [h1, Int.natAbs_mul]
  have : a.natAbs ≤ g.natAbs * a.natAbs := Nat.le_mul_of_pos_left _ (by omega)
  exact_mod_cast this
 omega
noncomputable def fnAddrs : List Addr := [28, 33, 40, 45, 52, 59, 66, 73, 80, 87, 155, 162, 169, 176, 183, 251, 258, 265, 270, 276, 283, 289, 299, 306, 313, 320, 327, 334, 341, 348, 355, 362, 369, 376, 383, 390, 411, 632, 637, 644, 651, 658, 663, 670, 677, 684, 691, 698, 705, 712, 719, 724, 731, 738, 757, 764, 771, 778, 785, 792, 799, 806, 811, 816, 821, 828, 835, 842, 847, 854, 861, 866, 873, 880, 887, 894, 901, 908, 915, 920]
noncomputable def isFnObj : Option Obj → Bool
 | some o => (match o.data with | .func _ => true | _ => false)
 | none => false
theorem fnObjs (P : Params) : fnAddrs.all (fun a => isFnObj ((H1 P).get? a) && a != tabN) = true := by kernel_rfl
set_option tactic.hygienic true in
theorem callee_num {a : Addr} (G : Good c) (h : fnAddrs.contains a = true) : CalleeOk c (.ref a) := by
 have h1 := List.all_eq_true.mp (fnObjs c.w.params) a (List.contains_iff_mem.mp h)
 rw [Bool.and_eq_true] at h1
 obtain ⟨h1, h2⟩ := h1
 cases ho : (H1 c.w.params).get? a with
 | none => rw [ho] at h1; cases h1
 | some o =>
  rw [ho] at h1
  unfold isFnObj at h1
  dsimp only at h1
  split at h1
  ·rename_i fd hd
   exact callee_fn (G.g a o ho (by simpa using h2)) hd
  ·cases h1
theorem FN.mono {n m : Nat} {f : Value} {l : List V} {σ : Sto} {Q Q' : V → Sto → Prop} (h : FN c n f l σ Q') (hn : n ≤ m) (k : ∀ v σ', Q' v σ' → Q v σ') : FN c m f l σ Q := .mk fun A F P s xs r C rl => by
 refine codeAny_mono (h.run A F P s xs (r.mono hn) C rl) ?_
 intro r s' hr
 obtain ⟨v, rfl, P', V, σ', le, C', rv, q⟩ := hr.ok
 exact ⟨P', V, σ', le, C', rv, k _ _ q⟩
theorem OPN_at {A : Around} {env : Env} {own : Bool} {X : XP} {ρ : Loc} {n m : Nat} {f : Value} {l : List V} {σ : Sto} {Q : V → Sto → Prop} (room : Room m A) (h : FN c n f l σ Q) (hn : autoParam (n ≤ m) aLe) : OPN c A env own X ρ Q (call f ·) l σ :=
 OPN_fn (room.mono hn) h
noncomputable def Sm (a : Int) : Prop := -1073741824 < a ∧ a < 1073741824
theorem Sm.mul {a b : Int} (h : Sm a) : IntMulOk a b := .of_left (intBits_le_64 (by unfold Sm at h; omega) (by unfold Sm at h; omega))
theorem Sm.div {a b : Int} (h : Sm b) : Builtin.divisionGoesByPylong a b = false := PyProof.noPylong_small (by unfold Sm at h; omega)
theorem BIG_le : (1000000000000 : Int) ≤ BIG := by
 unfold BIG
 have h : (10 : Int) ^ 12 ≤ 10 ^ 5000 := by
  rw [show (5000 : Nat) = 12 + 4988 by rfl, Int.pow_add]
  have h1 : (1 : Int) ≤ 10 ^ 4988 := Int.pow_pos (by decide)
  have := Int.mul_le_mul_of_nonneg_left h1 (show (0 : Int) ≤ 10 ^ 12 by decide)
  omega
 exact h
theorem fn_gcd (G : Good c) {σ : Sto} {Q : V → Sto → Prop} {a b : Nat} (h : Q (.int (Nat.gcd a b)) σ) : FN c 1 (.ref 299) [.int a, .int b] σ Q := by
 refine go_fd_37 G fun A env room ok hs => ?_
 refine loc_fd_37 G hs fun l0 l1 => ?_
 refine SS_cons (SX_While (I := fun k ρ' σ' => ∃ x y : Nat, ρ' 0 = some (.int x) ∧ ρ' 1 = some (.int y) ∧ Nat.gcd x y = Nat.gcd a b ∧ k = y ∧ σ' = σ) ⟨a, b, rfl, rfl, rfl, rfl, rfl⟩ ?_)
 intro k ρ' σ' hI K₁ K₂ kN kB
 refine exl2 hI fun x y hJ => ?_
 refine andl5 hJ fun h0 h1 hg hk hq4 => ?_
 clear hI hJ
 obtain rfl := hq4
 lk
 refine ite_dec (fun hy => ?_) fun hy => ?_
 ·refine SS_cons (SX_Swap ok room.handled l0 l1 ?_ (swap2 ok l0 l1 rfl (by decide) (by decide)))
  lk
  have hy' : (y : Int) ≠ 0 := by omega
  refine op_mod hy' ?_
  k_upd
  lk
  refine ⟨_, _, rfl, ?_⟩
  lk
  refine ⟨x % y, hk ▸ Nat.mod_lt _ (by omega), y, x % y, rfl, ?_, ?_, rfl, rfl⟩
  ·show some _ = some _
   rw [Int.fmod_eq_emod_of_nonneg _ (by omega)]; rfl
  ·rw [← hg, Nat.gcd_comm x y, Nat.gcd_rec y x, Nat.gcd_comm]
 ·lk
  have : y = 0 := by omega
  subst this
  rw [← hg, Nat.gcd_zero_right] at h
  exact h
end
section
theorem VRs.ints {W : Params} {P : Prt} : ∀ {ns : List Int} {xs : List Value}, VRs W P (ns.map .int) xs → IntsAre xs ns
 | [], [], _ => .nil
 | n :: r, x :: xs, ⟨⟨t, e⟩, h⟩ => by subst e; exact .cons n t (VRs.ints h)
 | [], _ :: _, h => h.elim
 | _ :: _, [], h => h.elim
theorem VRs.of_ints {W : Params} {P : Prt} {xs : List Value} {ns : List Int} (h : IntsAre xs ns) : VRs W P (ns.map .int) xs := by
 induction h with
 | nil => trivial
 | cons n t _ ih => exact ⟨⟨t, rfl⟩, ih⟩
section
variable {c : Cx} {A : Around} {env : Env} {own : Bool} {X : XP} {ρ : Loc} {σ : Sto} {Q : V → Sto → Prop}
theorem bi_abs {a : Int} (h : Q (.int a.natAbs) σ) : OPN c A env own X ρ Q (call (.builtin "abs") ·) [.int a] σ := by
 refine ⟨?_⟩; rintro F P s xs R r
 obtain ⟨x0, rfl, ⟨t, rfl⟩⟩ := r.one
 refine @call_abs_int _ _ _ _ _ _ _ _ fun u tk => ⟨P, .int a.natAbs, σ, .refl _, R.toks _, ⟨u, ?_⟩, h⟩
 congr 1
 split <;> omega
theorem bi_len {a : V} {l : List V} (hl : IsL σ a l) (hz : l.length ≤ 1000000) (h : Q (.int l.length) σ) : OPN c A env own X ρ Q (call (.builtin "len") ·) [a] σ := by
 refine ⟨?_⟩; rintro F P s xs R r
 obtain ⟨x, rfl, r'⟩ := r.one
 obtain ⟨ad, vs, n, rfl, g, rv⟩ := hl.at R r'
 have len : vs.size = l.length := by rw [← rv.length, Array.length_toList]
 exact @Calls.call_len_list _ _ _ _ _ _ _ _ ⟨_, g, rfl, n, rfl⟩ (by rw [len]; omega) ⟨P, .int l.length, σ, .refl _, R.toks _, ⟨_, by rw [len]⟩, h⟩
theorem bi_lenN {a : V} {l : List V} {n : Nat} (hl : IsL σ a l) (e : l.length = n) (hz : n ≤ 1000000) (h : Q (.int n) σ) : OPN c A env own X ρ Q (call (.builtin "len") ·) [a] σ := bi_len hl (by omega) (by rw [e]; exact h)
theorem bi_max2 {a b : Int} (hh : A.handled = none) (h : Q (.int (max a b)) σ) : OPN c A env own X ρ Q (call (.builtin "max") ·) [.int a, .int b] σ := by
 refine ⟨?_⟩; rintro F P s xs R r
 obtain ⟨x0, x1, rfl, ⟨t, rfl⟩, ⟨u, rfl⟩⟩ := r.two
 refine @max_two_ints _ _ _ _ _ _ _ _ _ _ hh fun h' tk hk => ⟨P, .int (max a b), σ, .refl _, R.grow hk, ?_, h⟩
 by_cases hb : b > a
 ·rw [if_pos hb]; exact ⟨u, by rw [Int.max_eq_right (by omega)]⟩
 ·rw [if_neg hb]; exact ⟨t, by rw [Int.max_eq_left (by omega)]⟩
theorem bi_maxL {ns : List Int} {a : V} (hh : A.handled = none) (ha : IsL σ a (ns.map .int)) (hne : 0 < ns.length) (h : ∀ m, m ∈ ns → (∀ x ∈ ns, x ≤ m) → Q (.int m) σ) : OPN c A env own X ρ Q (call (.builtin "max") ·) [a] σ := by
 refine ⟨?_⟩; rintro F P s xs R r
 obtain ⟨x0, rfl, r'⟩ := r.one
 obtain ⟨ad, vs, n, rfl, g, rv⟩ := ha.at R r'
 have hi := rv.ints
 obtain ⟨ys, hy⟩ := hi.allInts.items
 have e0 : vs = intItems ys := by simpa using hy
 subst e0
 have en : ns = ys.toList.map (·.1) := by
  rw [← nums_intItems]; exact hi.numsOf.symm
 have hsz : ys.size = ns.length := by rw [en, List.length_map, Array.length_toList]
 refine @max_intList _ _ _ _ _ _ _ _ hh ⟨_, g, rfl, n, rfl⟩ (by omega) fun v h' tk hv hk => ?_
 obtain ⟨t, rfl⟩ := intItems_at hv
 obtain ⟨h1, h2⟩ := argBest_gt (numAt ys) (ys.size - 1)
 refine ⟨P, .int _, σ, .refl _, R.grow hk, ⟨t, rfl⟩, h _ ?_ fun a ha => ?_⟩
 ·rw [numAt_eq, en]; exact getD_mem (by rw [List.length_map, Array.length_toList]; omega)
 ·rw [en] at ha
  obtain ⟨j, hj, rfl⟩ := mem_getD ha
  rw [List.length_map, Array.length_toList] at hj
  rw [← numAt_eq]; exact h2 j (by omega)
theorem bi_minL {ns : List Int} {a : V} (hh : A.handled = none) (ha : IsL σ a (ns.map .int)) (hne : 0 < ns.length) (h : ∀ m, m ∈ ns → (∀ x ∈ ns, m ≤ x) → Q (.int m) σ) : OPN c A env own X ρ Q (call (.builtin "min") ·) [a] σ := by
 refine ⟨?_⟩; rintro F P s xs R r
 obtain ⟨x0, rfl, r'⟩ := r.one
 obtain ⟨ad, vs, n, rfl, g, rv⟩ := ha.at R r'
 have hi := rv.ints
 obtain ⟨ys, hy⟩ := hi.allInts.items
 have e0 : vs = intItems ys := by simpa using hy
 subst e0
 have en : ns = ys.toList.map (·.1) := by
  rw [← nums_intItems]; exact hi.numsOf.symm
 have hsz : ys.size = ns.length := by rw [en, List.length_map, Array.length_toList]
 refine @min_intList _ _ _ _ _ _ _ _ hh ⟨_, g, rfl, n, rfl⟩ (by omega) fun v h' tk hv hk => ?_
 obtain ⟨t, rfl⟩ := intItems_at hv
 obtain ⟨h1, h2⟩ := argBest_lt (numAt ys) (ys.size - 1)
 refine ⟨P, .int _, σ, .refl _, R.grow hk, ⟨t, rfl⟩, h _ ?_ fun a ha => ?_⟩
 ·rw [numAt_eq, en]; exact getD_mem (by rw [List.length_map, Array.length_toList]; omega)
 ·rw [en] at ha
  obtain ⟨j, hj, rfl⟩ := mem_getD ha
  rw [List.length_map, Array.length_toList] at hj
  rw [← numAt_eq]; exact h2 j (by omega)
theorem bi_sum {ns : List Int} {a : V} (hh : A.handled = none) (ha : IsL σ a (ns.map .int)) (h : Q (.int ns.sum) σ) : OPN c A env own X ρ Q (call (.builtin "sum") ·) [a] σ := by
 refine ⟨?_⟩; rintro F P s xs R r
 obtain ⟨x0, rfl, r'⟩ := r.one
 obtain ⟨ad, vs, n, rfl, g, rv⟩ := ha.at R r'
 have hi := rv.ints
 obtain ⟨ys, hy⟩ := hi.allInts.items
 have e0 : vs = intItems ys := by simpa using hy
 subst e0
 have en : ns = ys.toList.map (·.1) := by
  rw [← nums_intItems]; exact hi.numsOf.symm
 refine @sum_intListG _ _ _ _ _ _ _ _ hh ⟨_, g, rfl, n, rfl⟩ fun h' tk t' hk => ⟨P, .int ns.sum, σ, .refl _, R.grow hk, ⟨t', ?_⟩, h⟩
 rw [preSum_eq, List.take_of_length_le (by simp), en]
theorem bi_sorted {ns : List Int} {a : V} (ha : IsL σ a (ns.map .int)) (hz : ns.length < 64) (h : ∀ ns' : List Int, ns'.Perm ns → ns'.Pairwise (· ≤ ·) → Q (.lst (ns'.map .int)) σ) : OPN c A env own X ρ Q (call (.builtin "sorted") ·) [a] σ := by
 refine ⟨?_⟩; rintro F P s xs R r
 obtain ⟨x0, rfl, r'⟩ := r.one
 obtain ⟨ad, vs, n, rfl, g, rv⟩ := ha.at R r'
 have hi := rv.ints
 have len : vs.toList.length = ns.length := by rw [rv.length, List.length_map]
 refine @sorted_ints _ _ _ _ _ _ _ _ _ ⟨_, g, rfl, n, by rw [Array.toArray_toList]⟩ hi (by omega) fun out ns' a1 a2 a3 => ?_
 obtain ⟨e, he⟩ := sortedAll_at s.heap vs.toList out
 have R' := R.grow (h' := sortedAll s.heap vs.toList out) (t := s.toks) fun b o e => sortedAll_old e
 have new := R.toC.new (a := s.heap.objs.size + 1) (Nat.le_succ _)
 have R₂ := R'.keepP he new.1 new.2.2.1 new.2.2.2 (Nat.ne_of_gt (Nat.lt_succ_of_lt R.toL.lt)) fun i x b hx hb zz => Nat.ne_of_gt (Nat.lt_succ_of_lt (R.toL.cell_lt hx hb))
 exact ⟨_, .lst (ns'.map .int), σ, addP_le _ _ _, R₂, ⟨_, out, e, rfl, addP_self _ _ _, VRs.of_ints a1⟩, h ns' a2 a3⟩
theorem bi_listF {a : V} {l : List V} (ha : IsL σ a l) (hz : l.length ≤ 1000000) (h : Q (.lst l) σ) : OPN c A env own X ρ Q (call (.type "list") ·) [a] σ := by
 refine ⟨?_⟩; rintro F P s xs R r
 obtain ⟨x0, rfl, r'⟩ := r.one
 obtain ⟨ad, vs, n, rfl, g, rv⟩ := ha.at R r'
 have len : vs.size = l.length := by rw [← rv.length, Array.length_toList]
 refine @call_list_seq _ _ _ _ _ _ ad _ _ _ _ (.inl rfl) g rfl rfl (fun h' c' hk hD => ?_) (by rw [len, sizeLine_eq]; omega)
 have R' := R.grow (h' := h') (t := s.toks) hk
 have new := R.toC.new (Nat.le_refl _)
 have R₂ := R'.keepP hD new.1 new.2.2.1 new.2.2.2 (Nat.ne_of_gt R.toL.lt) fun i x b hx hb zz => Nat.ne_of_gt (R.toL.cell_lt hx hb)
 exact ⟨_, .lst l, σ, addP_le _ _ _, R₂, ⟨_, vs, c', rfl, addP_self _ _ _, rv.mono (addP_le _ _ _)⟩, h⟩
theorem bi_range {n : Int} (h : Q (.rng 0 n 1) σ) : OPN c A env own X ρ Q (call (.type "range") ·) [.int n] σ := by
 refine ⟨?_⟩; rintro F P s xs R r
 obtain ⟨x0, rfl, ⟨t, rfl⟩⟩ := r.one
 refine @call_range_1 _ _ _ _ _ _ _ _ ⟨_, .rng 0 n 1, σ, addP_le _ _ _, (R.pushP _ rfl).toks _, ⟨_, _, _, _, rfl, addP_self _ _ _⟩, h⟩
theorem its_range {n : Nat} (h : n ≤ 1000000) : Its (.rng 0 n 1) (upFrom 0 1 n) := by
 refine .rng (small_one (by decide) (by decide) (by omega) (by omega)) ?_
 rw [rangeSize_one]
 split <;> omega
end
end
section
noncomputable def kasRun {α : Type} (lt : Nat → Nat → Bool) : KasT α → α
 | .ret a => a
 | .ask i j k => kasRun lt (k (lt i j))
noncomputable abbrev Fac := List (Nat × Nat × Bool)
noncomputable def hasF (fs : Fac) (a b : Nat) : Bool := fs.any fun f => f.1 == a && f.2.1 == b
noncomputable def reachS (fs : Fac) (S : List Nat) : List Nat := fs.foldl (fun S f => if S.contains f.1 && !S.contains f.2.1 then f.2.1 :: S else S) S
noncomputable def reachF (fs : Fac) (a : Nat) : List Nat := reachS fs (reachS fs (reachS fs (reachS fs (reachS fs [a]))))
noncomputable def adjF (fs : Fac) : List Nat → Bool
 | a :: b :: r => (hasF fs a b || (reachF fs a).contains b) && adjF fs (b :: r)
 | _ => true
noncomputable def chkF (n : Nat) : KasT (Array Nat) → Fac → Bool
 | .ret p, fs => adjF fs p.toList && p.toList.isPerm (List.range n)
 | .ask i j k, fs => chkF n (k true) ((i, j, true) :: fs) && chkF n (k false) ((j, i, false) :: fs)
set_option tactic.hygienic true in
theorem reachS_ok {fs : Fac} {key : Nat → Int} (h : ∀ f ∈ fs, key f.1 ≤ key f.2.1) (a : Nat) : ∀ {S : List Nat}, (∀ y ∈ S, key a ≤ key y) → ∀ y ∈ reachS fs S, key a ≤ key y := by
 unfold reachS
 induction fs with
 | nil => exact fun hS => hS
 | cons f fs ih =>
  intro S hS
  rw [List.foldl_cons]
  refine ih (fun g hg => h g (List.mem_cons_of_mem _ hg)) ?_
  split
  ·rename_i q
   simp only [Bool.and_eq_true, List.contains_iff_mem] at q
   intro y hy
   rcases List.mem_cons.mp hy with rfl | hy
   ·exact Int.le_trans (hS _ q.1) (h f List.mem_cons_self)
   ·exact hS y hy
  ·exact hS
theorem reachF_ok {fs : Fac} {key : Nat → Int} (h : ∀ f ∈ fs, key f.1 ≤ key f.2.1) (a : Nat) : ∀ y ∈ reachF fs a, key a ≤ key y := by
 unfold reachF
 refine reachS_ok h a (reachS_ok h a (reachS_ok h a (reachS_ok h a (reachS_ok h a ?_))))
 intro y hy
 rw [List.mem_singleton] at hy
 subst hy
 exact Int.le_refl _
theorem adj_ok {fs : Fac} {key : Nat → Int} (h : ∀ f ∈ fs, key f.1 ≤ key f.2.1) : ∀ {l : List Nat}, adjF fs l = true → l.Pairwise fun x y => key x ≤ key y
 | [], _ => List.Pairwise.nil
 | [a], _ => by simp
 | a :: b :: r, q => by
  unfold adjF at q
  rw [Bool.and_eq_true] at q
  have ih := adj_ok h (l := b :: r) q.2
  have hab : key a ≤ key b := by
   rcases Bool.or_eq_true_iff.mp q.1 with q1 | q1
   ·unfold hasF at q1
    rw [List.any_eq_true] at q1
    obtain ⟨f, hf, e⟩ := q1
    simp only [Bool.and_eq_true, beq_iff_eq] at e
    have := h f hf
    rwa [e.1, e.2] at this
   ·exact reachF_ok h a b (List.contains_iff_mem.mp q1)
  refine List.pairwise_cons.mpr ⟨fun y hy => ?_, ih⟩
  rcases List.mem_cons.mp hy with rfl | hy
  ·exact hab
  ·exact Int.le_trans hab ((List.pairwise_cons.mp ih).1 y hy)
theorem chk_ok {n : Nat} {key : Nat → Int} : ∀ (t : KasT (Array Nat)) (fs : Fac), chkF n t fs = true → (∀ f ∈ fs, key f.1 ≤ key f.2.1) →
  (kasRun (fun i j => decide (key i < key j)) t).toList.Perm (List.range n) ∧ (kasRun (fun i j => decide (key i < key j)) t).toList.Pairwise fun x y => key x ≤ key y
 | .ret p, fs, h, hf => by
  unfold chkF at h
  rw [Bool.and_eq_true] at h
  exact ⟨List.isPerm_iff.mp h.2, adj_ok hf h.1⟩
 | .ask i j k, fs, h, hf => by
  unfold chkF at h
  rw [Bool.and_eq_true] at h
  by_cases q : key i < key j
  ·have := chk_ok (k true) _ h.1 (fun f hm => by
    rcases List.mem_cons.mp hm with rfl | hm
    ·exact Int.le_of_lt q
    ·exact hf f hm)
   show (kasRun _ (k (decide (key i < key j)))).toList.Perm _ ∧ _
   rw [show kasRun (fun i j => decide (key i < key j)) (.ask i j k) = kasRun (fun i j => decide (key i < key j)) (k (decide (key i < key j))) from rfl, decide_eq_true q]
   exact this
  ·have := chk_ok (k false) _ h.2 (fun f hm => by
    rcases List.mem_cons.mp hm with rfl | hm
    ·exact Int.not_lt.mp q
    ·exact hf f hm)
   show (kasRun _ (k (decide (key i < key j)))).toList.Perm _ ∧ _
   rw [show kasRun (fun i j => decide (key i < key j)) (.ask i j k) = kasRun (fun i j => decide (key i < key j)) (k (decide (key i < key j))) from rfl, decide_eq_false q]
   exact this
theorem chk_all : ∀ n ≤ 6, chkF n (kas_sort n) [] = true := by decide +kernel
theorem kas_sorted {n : Nat} (hn : n ≤ 6) (key : Nat → Int) : (kasRun (fun i j => decide (key i < key j)) (kas_sort n)).toList.Perm (List.range n) ∧ (kasRun (fun i j => decide (key i < key j)) (kas_sort n)).toList.Pairwise fun x y => key x ≤ key y :=
 chk_ok _ [] (chk_all n hn) fun f hf => by simp at hf
end
section
noncomputable def inR {α : Type} (n : Nat) : KasT α → Bool
 | .ret _ => true
 | .ask i j k => decide (i < n) && decide (j < n) && inR n (k true) && inR n (k false)
theorem inR_all : ∀ n ≤ 6, inR n (kas_sort n) = true := by decide +kernel
theorem kasWp_runR {α : Type} {n : Nat} {cmp : Nat → Nat → (Bool → Shared → Prop) → Shared → Prop} {lt : Nat → Nat → Bool} {s : Shared} (hc : ∀ i j, i < n → j < n → ∀ (C : Bool → Shared → Prop), C (lt i j) s → cmp i j C s) {Q : α → Shared → Prop} : ∀ (t : KasT α), inR n t = true → Q (kasRun lt t) s → t.kasWp cmp Q s
 | .ret _, _, h => h
 | .ask i j k, hr, h => by
  unfold inR at hr
  simp only [Bool.and_eq_true, decide_eq_true_eq] at hr
  refine hc i j hr.1.1.1 hr.1.1.2 _ (kasWp_runR hc (k (lt i j)) ?_ h)
  cases lt i j
  ·exact hr.2
  ·exact hr.1.2
theorem upd_updK (σ : Sto) (a : Addr) (x y : O) : upd (upd σ a x) a y = upd σ a y := by
 funext b; unfold upd; split <;> rfl
section
variable {c : Cx} {A : Around} {env : Env} {own : Bool} {F : Prt} {X : XP} {ρ : Loc} {σ : Sto} {Q : V → Sto → Prop}
noncomputable def kt (k : Nat → Int) (i : Nat) : V := .tup [.int 0, .int (k i)]
noncomputable def KeyOk (c : Cx) (A : Around) (env : Env) (own : Bool) (ρ : Loc) (P : Prt) (f : Value) (l : List V) (k : Nat → Int) : Prop :=
 ∀ F P' σ' s' i v x, PLe P P' → Rep c env own F P' ρ σ' s' → l[i]? = some v → VR c.w.params P' v x →
 wpAny (MM c) A (call f [x]) (fun y s'' => ∃ P'', PLe P' P'' ∧ Rep c env own F P'' ρ σ' s'' ∧ VR c.w.params P'' (kt k i) y) (fun zz zz => False) s'
noncomputable def Kts (k : Nat → Int) (i : Nat) : List V := (List.range i).map (kt k)
theorem Kts_succ (k : Nat → Int) (i : Nat) : Kts k (i + 1) = Kts k i ++ [kt k i] := by
 unfold Kts; rw [List.range_succ, List.map_append]; rfl
theorem key_fold {E : Value → Shared → Prop} {l : List V} {k : Nat → Int} {kS : Addr} {body : Value → PUnit → Sem (ForInStep PUnit)} {P : Prt}
  (hb : ∀ i v x s P', PLe P P' → i < l.length → Rep c env own F P' ρ (upd σ kS (.list (Kts k i))) s → l[i]? = some v → VR c.w.params P' v x →
   wpAny (MM c) A (body x ⟨⟩) (fun r s' => r = .yield ⟨⟩ ∧ ∃ P'', PLe P' P'' ∧ Rep c env own F P'' ρ (upd σ kS (.list (Kts k (i + 1)))) s') E s) :
  ∀ (r : List Value) (i : Nat) (s : Shared) (P' : Prt), PLe P P' → i + r.length = l.length → VRs c.w.params P' (l.drop i) r → Rep c env own F P' ρ (upd σ kS (.list (Kts k i))) s →
   wpAny (MM c) A (forIn r PUnit.unit body) (fun zz s' => ∃ P'', PLe P' P'' ∧ Rep c env own F P'' ρ (upd σ kS (.list (Kts k l.length))) s') E s
 | [], i, s, P', le, hl, rv, R => by
  rw [List.forIn_nil]
  have e : i = l.length := by simpa using hl
  rw [e] at R
  exact wpAny_pure ⟨P', .refl _, R⟩
 | x :: r, i, s, P', le, hl, rv, R => by
  rw [List.length_cons] at hl
  rw [List.forIn_cons]
  have hi : i < l.length := by omega
  rw [List.drop_eq_getElem_cons hi] at rv
  refine wpAny_bind (wpAny_mono (hb i _ x s P' le hi R (List.getElem?_eq_getElem hi) rv.1) (fun q s' hq => ?_) fun zz zz x => x)
  obtain ⟨rfl, P'', le', R'⟩ := hq
  refine wpAny_mono (key_fold hb r (i + 1) s' P'' (le.trans le') (by omega) (rv.2.mono le') R') (fun zz s'' h => ?_) fun zz zz x => x
  obtain ⟨P₃, le₃, R₃⟩ := h
  exact ⟨P₃, le'.trans le₃, R₃⟩
theorem kts_tups {W : Params} {P : Prt} {s : Shared} {k : Nat → Int} (sub : ∀ a o, P a o → s.heap.get? a = some o) : ∀ (is : List Nat) {ks : List Value}, VRs W P (is.map (kt k)) ks → ∃ fs : List Value, KatTups s.heap ks fs ∧ fs.length = is.length ∧ ∀ v ∈ fs, ∃ t, v = .int 0 t
 | [], [], _ => ⟨[], KatTups.nil, rfl, fun zz h => by simp at h⟩
 | [], _ :: _, h => h.elim
 | _ :: _, [], h => h.elim
 | i :: is, x :: ks, ⟨h, r⟩ => by
  obtain ⟨fs, h1, h2, h3⟩ := kts_tups sub is r
  obtain ⟨a, vs, n, rfl, p, rv⟩ := h
  obtain ⟨l⟩ := vs
  obtain ⟨x, y, e, ⟨t, rfl⟩, ⟨u, rfl⟩⟩ := rv.two
  have e : l = [.int 0 t, .int _ u] := e
  subst e
  refine ⟨.int 0 t :: fs, KatTups.cons (sub _ _ p) rfl rfl rfl h1, by simp [h2], ?_⟩
  intro v hv
  rcases List.mem_cons.mp hv with rfl | hv
  ·exact ⟨t, rfl⟩
  ·exact h3 v hv
theorem kts_lt {W : Params} {P : Prt} {s : Shared} {prog : Program} {w : World} {A : Around} {k : Nat → Int} {i j : Nat} {x y : Value} {C : Bool → Shared → Prop} {E : Value → Shared → Prop} (sub : ∀ a o, P a o → s.heap.get? a = some o) (hx : VR W P (kt k i) x) (hy : VR W P (kt k j) y)
  (h : C (decide (k i < k j)) s) : wpAny (model prog w) A (keyLt' (tuples' true) x y) C E s := by
 obtain ⟨a, vs, n, rfl, p, rv⟩ := hx
 obtain ⟨b, us, m, rfl, q, ru⟩ := hy
 obtain ⟨l⟩ := vs
 obtain ⟨l'⟩ := us
 obtain ⟨_, _, e, ⟨t, rfl⟩, ⟨u, rfl⟩⟩ := rv.two
 have e : l = [.int _ t, .int _ u] := e
 subst e
 obtain ⟨_, _, e, ⟨t', rfl⟩, ⟨u', rfl⟩⟩ := ru.two
 have e : l' = [.int _ t', .int _ u'] := e
 subst e
 refine kat_lt (sub _ _ p) rfl (sub _ _ q) rfl ?_
 show KatLex prog w A true false C [(.int 0 t, .int 0 t'), (.int (k i) u, .int (k j) u')] 0 s
 refine kat_cons (wpAny_eqBool_int ?_)
 show KatGo prog w A true false C _ _ _ 0 true s
 refine kat_yes (kat_cons (wpAny_eqBool_int ?_))
 refine kat_go (fun e => kat_yes (kat_nil ?_)) fun e => kat_no ?_
 ·rw [beq_iff_eq] at e
  rw [e, decide_eq_false (Int.lt_irrefl _)] at h
  exact h
 ·show wpAny (model prog w) A (oneLt' false (.int (k i) u) (.int (k j) u')) C (fun zz zz => False) s
  exact kat_one _ _ (wpAny_lt_int h)
theorem Rep.endFP {P : Prt} {s : Shared} {a₀ : Addr} {o₀ o' : Obj} (R : Rep c env own (addP F a₀ o₀) P ρ σ s) {h' : Heap} {t : Nat} (hn : ∀ o, ¬ F a₀ o) (hs : Heap.ExtBut a₀ s.heap h') (ho : h'.get? a₀ = some o') (hcl : ∀ o, addP F a₀ o₀ a₀ o → ∀ v, o.data ≠ .cell v) :
  Rep c env own F (addP P a₀ o') ρ σ { s with heap := h', toks := t } := by
 obtain ⟨f1, f2, f3⟩ := R.toC.offF a₀ o₀ (.inr ⟨rfl, rfl⟩)
 have hl : env.locals ≠ a₀ := fun e => R.toL.offF o₀ (.inr ⟨e, rfl⟩)
 exact (R.endF hn hs hcl).keepP ho f1 hn f3 (Ne.symm hl) fun i x b hx hb ho e => (R.toL.cown ho i x hx b hb).2.1 o₀ (.inr ⟨e.symm, rfl⟩)
theorem VRs.getD {W : Params} {P : Prt} {l : List V} {ks : List Value} (h : VRs W P l ks) (i : Nat) : VR W P (l.getD i .none) (ks.getD i Value.none) := by
 rw [List.getD_eq_getElem?_getD, List.getD_eq_getElem?_getD]
 cases e : l[i]? with
 | some v =>
  obtain ⟨x, e2, r⟩ := h.get e
  rw [e2]; exact r
 | none =>
  have : ks[i]? = none := by rw [List.getElem?_eq_none_iff] at e ⊢; rw [h.length]; exact e
  rw [this]; rfl
theorem VRs.pick {W : Params} {P : Prt} {l : List V} {ks : List Value} (h : VRs W P l ks) : ∀ p : List Nat, VRs W P (p.map fun i => l.getD i .none) (p.map fun i => ks.getD i Value.none)
 | [] => trivial
 | i :: p => ⟨h.getD i, h.pick p⟩
noncomputable def ordK (k : Nat → Int) (n : Nat) : List Nat := (kasRun (fun i j => decide (k i < k j)) (kas_sort n)).toList
theorem k_tail {E : Value → Shared → Prop} {T : PySem.Fin → Shared → Prop} {P P₁ : Prt} {s : Shared} {a kS : Addr} {e1 : Nat} {l : List V} {vs : List Value} {k : Nat → Int} {xs : List Value} {e : Nat} {st : SortSt}
  (R : Rep c env own (addP F a (seqObj "list" #[] e1)) P₁ ρ (upd σ kS (.list (Kts k l.length))) s) (hσ : σ kS = none) (hn : ∀ o, ¬ F a o) (hl : l.length ≤ 6) (hv : VRs c.w.params P₁ l vs)
  (hx : s.heap.get? kS = some (seqObj "list" xs.toArray e)) (hxl : xs.length = l.length) (hout : (arrOf st).map (·.2) = List.toArray ((ordK k l.length).map fun i => vs.getD i Value.none)) (hol : (ordK k l.length).length = l.length) (hf : failedOf st = none)
  (h : ∀ P₂ s', PLe P₁ P₂ → Rep c env own F P₂ ρ σ s' → VR c.w.params P₂ (.lst ((ordK k l.length).map fun i => l.getD i .none)) (.ref a) → T (.done (.ret .none)) s') :
  wpAny (MM c) A (ksk_tail a false e1 (.ref kS) st) T E s := by
 have s1 := Heap.SameBut.update s.heap kS (Obj.mapSeq fun zz => (#[] : Array Value))
 obtain ⟨ck, hck⟩ : ∃ ck, (s.heap.update kS (Obj.mapSeq fun zz => (#[] : Array Value))).get? kS = some (seqObj "list" #[] ck) := ⟨_, get?_update_seq hx fun zz => #[]⟩
 have R1 := R.turn (t := s.toks) (upd_self ..) s1 hck (x := .list []) ⟨_, _, rfl, trivial⟩
 have na : (s.heap.update kS (Obj.mapSeq fun zz => (#[] : Array Value))).get? a = some (seqObj "list" #[] e1) := (R1.toC.subF a _ (.inr ⟨rfl, rfl⟩)).seq rfl
 have s2 := Heap.SameBut.update (s.heap.update kS (Obj.mapSeq fun zz => (#[] : Array Value))) a (Obj.mapSeq fun zz => List.toArray ((ordK k l.length).map fun i => vs.getD i Value.none))
 obtain ⟨c2, hc2⟩ : ∃ c2, ((s.heap.update kS (Obj.mapSeq fun zz => (#[] : Array Value))).update a (Obj.mapSeq fun zz => List.toArray ((ordK k l.length).map fun i => vs.getD i Value.none))).get? a = some (seqObj "list" (List.toArray ((ordK k l.length).map fun i => vs.getD i Value.none)) c2) := ⟨_, get?_update_seq na fun zz => List.toArray ((ordK k l.length).map fun i => vs.getD i Value.none)⟩
 have R2 := R1.endFP (t := s.toks) hn (fun b o hb q => (s2.2 b hb).trans q) hc2 (fun o p => by
  rcases p with p | ⟨_, rfl⟩
  ·exact absurd p (hn o)
  ·intro v q; cases q)
 unfold ksk_tail
 try dsimp only
 rw [hout]
 refine wpAny_bind (listUpdate_at hx rfl ?_ (by rw [List.size_toArray, sizeLine_eq]; omega) (Nat.zero_le _))
 refine wpAny_bind (wpAny_letGo ?_)
 refine wpAny_bind (seqEpoch_at na rfl ?_)
 refine wpAny_bind (listUpdate_at na rfl ?_ (Nat.zero_le _) (by show (List.toArray _).size ≤ _; rw [List.size_toArray, List.length_map, hol, sizeLine_eq]; omega))
 rw [hf]
 simp only [bne_self_eq_false, Bool.false_eq_true, if_false]
 have R3 := R2.weak (σ' := σ) fun b x q => by
  by_cases hb : b = kS
  ·subst hb; rw [hσ] at q; cases q
  ·rw [upd_ne hb, upd_ne hb]; exact q
 exact wpAny_pure (h _ _ (addP_le _ _ _) R3 ⟨a, _, c2, rfl, addP_self _ _ _, (hv.mono (addP_le _ _ _)).pick _⟩)
theorem k_end {E : Value → Shared → Prop} {T : PySem.Fin → Shared → Prop} {P P₁ : Prt} {s : Shared} {a kS : Addr} {e1 : Nat} {l : List V} {vs : List Value} {k : Nat → Int} {xs : List Value} {e : Nat}
  (R : Rep c env own (addP F a (seqObj "list" #[] e1)) P₁ ρ (upd σ kS (.list (Kts k l.length))) s) (hσ : σ kS = none) (hn : ∀ o, ¬ F a o) (hl : l.length ≤ 6) (hv : VRs c.w.params P₁ l vs)
  (hx : s.heap.get? kS = some (seqObj "list" xs.toArray e)) (hxs : VRs c.w.params P₁ (Kts k l.length) xs)
  (h : ∀ P₂ s', PLe P₁ P₂ → Rep c env own F P₂ ρ σ s' → VR c.w.params P₂ (.lst ((ordK k l.length).map fun i => l.getD i .none)) (.ref a) → T (.done (.ret .none)) s') :
  wpAny (MM c) A (ksk_end a false vs.toArray e1 (.ref kS) xs.toArray) T E s := by
 have hvl : vs.length = l.length := hv.length
 have hxl : xs.length = l.length := by rw [hxs.length]; unfold Kts; rw [List.length_map, List.length_range]
 obtain ⟨fs, t1, t2, t3⟩ := kts_tups R.toC.sub (List.range l.length) hxs
 rw [List.length_range] at t2
 unfold ksk_end
 try dsimp only
 simp only [Bool.false_eq_true, if_false]
 by_cases h2 : vs.toArray.size < 2
 ·rw [if_pos h2, if_pos h2]
  refine wpAny_bind (wpAny_pure ?_)
  rw [StateT.run_pure]
  refine wpAny_bind (wpAny_pure ?_)
  try dsimp only
  rw [List.size_toArray] at h2
  refine k_tail (P := P) (k := k) (st := SortSt.mk' general' (xs.toArray.zip vs.toArray) #[] 7 none) R hσ hn hl hv hx hxl ?_ ?_ rfl h
  ·show (xs.toArray.zip vs.toArray).map (·.2) = _
   rw [hvl] at h2
   have pm := (kas_sorted hl k).1
   match vs, xs, hvl, hxl, h2 with
   | [], [], hv, hx, h2 =>
    have hv : 0 = l.length := hv
    rw [← hv] at pm
    have e : ordK k l.length = [] := by rw [← hv]; exact pm.eq_nil
    rw [e]; simp
   | [v], [x], hv, hx, h2 =>
    have hv : 1 = l.length := hv
    rw [← hv] at pm
    have e : ordK k l.length = [0] := by rw [← hv]; exact List.perm_singleton.mp pm
    rw [e]; simp
   | _ :: _ :: _, _, hv, hx, h2 => rw [← hv] at h2; simp only [List.length_cons] at h2; omega
   | [], _ :: _, hv, hx, h2 => rw [← hv] at hx; simp at hx
   | [_], [], hv, hx, h2 => rw [← hv] at hx; simp at hx
   | [_], _ :: _ :: _, hv, hx, h2 => rw [← hv] at hx; simp at hx
  ·have := (kas_sorted hl k).1.length_eq
   rwa [List.length_range] at this
 rw [if_neg h2, if_neg h2]
 rw [List.size_toArray] at h2
 refine wpAny_bind (kat_kind (T := .type "int") t1 (by omega) (fun v hv => ?_) rfl ?_)
 ·obtain ⟨t, rfl⟩ := t3 v hv
  exact Looks.of_pure rfl
 refine wpAny_bind (wpAny_mono (kat_run (ks := xs) (vs := vs) (Q := fun st' s' => s' = s ∧ (arrOf st').map (·.2) = List.toArray ((ordK k l.length).map fun i => vs.getD i Value.none) ∧ failedOf st' = none)
  (G := fun p s' => s' = s ∧ p = kasRun (fun i j => decide (k i < k j)) (kas_sort l.length)) (by omega) (by omega) (by omega) ?_ ?_) ?_ fun zz zz x => x)
 ·rintro p st' s' a1 a2 a3 ⟨rfl, rfl⟩
  exact ⟨rfl, kat_snds (by omega) a2, a3⟩
 ·rw [hvl]
  refine kasWp_runR (n := l.length) (fun i j hi hj C hC => ?_) _ (inR_all _ hl) ⟨rfl, rfl⟩
  have gi : ∀ i < l.length, VR c.w.params P₁ (kt k i) (xs.getD i Value.none) := fun i hi => by
   have := hxs.getD i
   rwa [show (Kts k l.length).getD i .none = kt k i by unfold Kts; rw [List.getD_eq_getElem?_getD, List.getElem?_map, List.getElem?_range hi]; rfl] at this
  exact kts_lt R.toC.sub (gi i hi) (gi j hj) hC
 ·rintro ⟨⟨⟩, st'⟩ s' ⟨rfl, b1, b2⟩
  try dsimp only
  refine k_tail (P := P) R hσ hn hl hv hx hxl b1 ?_ b2 h
  have := (kas_sorted hl k).1.length_eq
  rwa [List.length_range] at this
theorem k_rest {E : Value → Shared → Prop} {T : PySem.Fin → Shared → Prop} {P P₁ : Prt} {s : Shared} {f : Value} {a kS : Addr} {e1 : Nat} {l : List V} {vs : List Value} {k : Nat → Int}
  (R : Rep c env own (addP F a (seqObj "list" #[] e1)) P₁ ρ (upd σ kS (.list (Kts k 0))) s) (hσ : σ kS = none) (hn : ∀ o, ¬ F a o) (hl : l.length ≤ 6) (hv : VRs c.w.params P₁ l vs) (K : KeyOk c A env own ρ P f l k) (le : PLe P P₁)
  (h : ∀ P₂ s', PLe P₁ P₂ → Rep c env own F P₂ ρ σ s' → VR c.w.params P₂ (.lst ((ordK k l.length).map fun i => l.getD i .none)) (.ref a) → T (.done (.ret .none)) s') :
  wpAny (MM c) A (ksk_rest a f false vs.toArray e1 (.ref kS)) T E s := by
 unfold ksk_rest
 refine wpAny_bind (wpAny_rule ?_)
 first
  | rw [List.forIn_toArray]
  | (rw [← Array.forIn_toList]; simp only [List.toList_toArray])
 refine wpAny_bind (wpAny_mono (key_fold (l := l) (P := P₁) (k := k) (kS := kS) (fun i v x s P' le' hi R' hv rx => ?_) vs 0 s P₁ (.refl _) (by rw [hv.length]; omega) (by rwa [List.drop_zero]) R) ?_ fun zz zz x => x)
 ·refine wpAny_bind (wpAny_attempt (wpAny_mono (K _ P' _ s i v x (le.trans le') R' hv rx) (fun y s'' hk => ?_) fun zz zz hF => hF.elim))
  obtain ⟨P'', le'', R'', ry⟩ := hk
  obtain ⟨o, ho, xs, n, rfl, rxs⟩ := R''.toC.obj kS _ (upd_self ..)
  have s1 := Heap.SameBut.update s''.heap kS (Obj.mapSeq (·.push y))
  obtain ⟨c2, hc2⟩ : ∃ c2, (s''.heap.update kS (Obj.mapSeq (·.push y))).get? kS = some (seqObj "list" (xs.push y) c2) := ⟨_, get?_update_seq ho (·.push y)⟩
  have hxl : xs.size = i := by
   have := rxs.length
   unfold Kts at this
   rwa [List.length_map, List.length_range, Array.length_toList] at this
  try dsimp only
  refine wpAny_bind (listUpdate_at ho rfl ?_ (by rw [hxl, sizeLine_eq]; omega) (by show (xs.push y).size ≤ _; rw [Array.size_push, hxl, sizeLine_eq]; omega))
  have R3 := R''.turn (t := s''.toks) (upd_self ..) s1 hc2 (x := .list (Kts k (i + 1))) ⟨_, _, rfl, by rw [Kts_succ, Array.toList_push]; exact rxs.append ⟨ry, trivial⟩⟩
  rw [upd_updK] at R3
  exact wpAny_pure ⟨rfl, P'', le'', R3⟩
 ·rintro _ s' ⟨P₂, le₂, R₂⟩
  obtain ⟨o, ho, xs, n, rfl, rxs⟩ := R₂.toC.obj kS _ (upd_self ..)
  try dsimp only
  refine wpAny_bind (listItems_at ho rfl ?_)
  obtain ⟨xs⟩ := xs
  exact k_end (P := P) R₂ hσ hn hl (hv.mono le₂) ho rxs fun P₃ s'' le₃ => h P₃ s'' (le₂.trans le₃)
theorem k_tree {E : Value → Shared → Prop} {T : PySem.Fin → Shared → Prop} {P : Prt} {s : Shared} {f : Value} {a : Addr} {n : Nat} {l : List V} {vs : List Value} {k : Nat → Int}
  (R : Rep c env own (addP F a (seqObj "list" vs.toArray n)) P ρ σ s) (hn : ∀ o, ¬ F a o) (hl : l.length ≤ 6) (hv : VRs c.w.params P l vs) (K : KeyOk c A env own ρ P f l k)
  (h : ∀ P₂ s', PLe P P₂ → Rep c env own F P₂ ρ σ s' → VR c.w.params P₂ (.lst ((ordK k l.length).map fun i => l.getD i .none)) (.ref a) → T (.done (.ret .none)) s') :
  wpAny (MM c) A (ksk_tree a f false) T E s := by
 have na : s.heap.get? a = some (seqObj "list" vs.toArray n) := (R.toC.subF a _ (.inr ⟨rfl, rfl⟩)).seq rfl
 have hvl : vs.length = l.length := hv.length
 have s1 := Heap.SameBut.update s.heap a (Obj.mapSeq fun zz => (#[] : Array Value))
 obtain ⟨e1, ho1⟩ : ∃ e1, (s.heap.update a (Obj.mapSeq fun zz => (#[] : Array Value))).get? a = some (seqObj "list" #[] e1) := ⟨_, get?_update_seq na fun zz => #[]⟩
 have R1 := R.turnF (t := s.toks) hn (fun b o hb q => (s1.2 b hb).trans q) (.rfl ho1) (fun o p => by
  rcases p with p | ⟨_, rfl⟩
  ·exact absurd p (hn o)
  ·intro v q; cases q)
 have R2 := R1.push (seqObj "tuple" vs.toArray 0)
 have R3 := R2.pushσ (seqObj "list" #[] 0) (x := .list (Kts k 0)) rfl ⟨_, _, rfl, trivial⟩
 have new := R2.toC.new (Nat.le_refl _)
 unfold ksk_tree
 refine wpAny_bind (listItems_at na rfl ?_)
 refine wpAny_bind (listUpdate_at na rfl ?_ (by rw [List.size_toArray, sizeLine_eq]; omega) (Nat.zero_le _))
 refine wpAny_bind (seqEpoch_at ho1 rfl ?_)
 refine wpAny_bind (wpAny_newTuple ?_ (by show vs.length ≤ _; rw [sizeLine_eq]; omega))
 refine wpAny_bind (wpAny_newList ?_ (Nat.zero_le _))
 refine wpAny_holding ?_
 exact k_rest (P := P) R3 new.1 hn hl hv K (.refl _) h
theorem sortedK_run {E : Value → Shared → Prop} {P : Prt} {s : Shared} {x : Value} {q : Addr} {l : List V} {k : Nat → Int}
  (R : Rep c env own F P ρ σ s) (hl : l.length ≤ 6) (hv : VR c.w.params P (.lst l) x) (K : KeyOk c A.in1.in1 env own ρ P (.ref q) l k) (h : Q (.lst ((ordK k l.length).map fun i => l.getD i .none)) σ) :
  wpAny (MM c) A (call (.builtin "sorted") [x] [(Str.ofString "key", .ref q)]) (PV c env own F ρ P Q) E s := by
 obtain ⟨ad, va, n, rfl, g, rv⟩ := hv
 obtain ⟨vs⟩ := va
 have hvl : vs.length = l.length := rv.length
 refine call_function_entry_kw kind_sorted plain_sorted entry_sorted (ksk_s1 _ _) ?_
 unfold Builtin.«sorted»
 refine wpAny_bind (m := checkCount "sorted" 1 1 _) (wpAny_pure ?_)
 refine wpAny_bind (collect_list ⟨_, R.toC.sub _ _ g, rfl, n, rfl⟩ ?_ (by rw [sizeLine_eq]; omega))
 have R1 := R.grow (h' := (s.heap.push (seqObj "list" #[] 0)).update s.heap.objs.size (Obj.mapSeq (· ++ vs.toArray))) (t := s.toks) fun b o q => by
  have hlt : b < s.heap.objs.size := Heap.lt_size q
  rw [Heap.get?_update_ne _ _ _ _ (Nat.ne_of_lt hlt), Heap.get?_push_ne _ _ _ (Nat.ne_of_lt hlt)]
  exact q
 refine wpAny_bind (wpAny_newList ?_ (by rw [sizeLine_eq]; omega))
 have new := R1.toC.new (Nat.le_refl _)
 have R2 := R1.pushF (seqObj "list" vs.toArray 0) rfl
 have hoL := (R2.toC.subF _ _ (.inr ⟨rfl, rfl⟩)).seq rfl
 refine wpAny_bind (wpAny_holding (wpAny_call_entry_kw slot_list_sort ⟨_, hoL, rfl⟩ entry_list_sort ?body (ksk_l1 _ _)))
 case body =>
  rw [ksk_t1]
  refine k_tree (P := P) R2 new.2.2.1 hl rv K fun P₂ s' le R' rr => ?_
  exact ⟨_, rfl, wpAny_pure ⟨_, rfl, P₂, _, σ, le, R', rr, h⟩⟩
theorem sortedE_run {x y : Str} {p p1 p2 p3 pos : Pos} {l : List V} {k : Nat → Int} {q : Addr} {P : Prt} {s : Shared} (R : Rep c env own F P ρ σ s)
  (hg : EV c A env own X ρ (.Name (S "sorted") p) (fun v σ₁ => v = .val (.builtin "sorted") ∧ σ₁ = σ) σ)
  (hx : EV c A env own X ρ (.Name x p1) (fun v σ₁ => v = .lst l ∧ σ₁ = σ) σ) (hy : EV c A env own X ρ (.Name y p2) (fun v σ₁ => v = .ref q ∧ σ₁ = σ) σ) (hl : l.length ≤ 6)
  (K : KeyOk c A.in1.in1 env own ρ P (.ref q) l k) (h : Q (.lst ((ordK k l.length).map fun i => l.getD i .none)) σ) :
  wpAny (MM c) A (eval (.Call (.Name (S "sorted") p) [.Name x p1] [⟨some (Str.ofString "key"), .Name y p2, p3⟩] pos) env) (PV c env own F ρ P Q) (PX X F P) s := by
 refine @wpAny_Call_Name_kw _ _ _ _ _ _ _ _ _ _ _ (wpAny_mono (hg.run F P s R) ?_ fun zz zz x => x)
 rintro va s₁ ⟨P₁, a, σ₁, le₁, R₁, ra, rfl, rfl⟩
 cases ra
 refine callWith_kw (spliced_more (wpAny_mono (hx.run F P₁ s₁ R₁) ?_ fun zz zz x => x.of le₁))
 rintro vb s₂ ⟨P₂, b, σ₂, le₂, R₂, rb, rfl, rfl⟩
 refine spliced_none ?_
 refine kwAll_cons (wpAny_mono (hy.run F P₂ s₂ R₂) ?_ fun zz zz x => x.of (le₁.trans le₂))
 rintro vd s₃ ⟨P₃, d, σ₃, le₃, R₃, rd, rfl, rfl⟩
 cases rd
 refine kwAll_nil ?_
 exact wpAny_mono (sortedK_run (E := PX X F P₃) (Q := Q) R₃ hl (rb.mono le₃) (fun F' P' σ' s' i v x le => K F' P' σ' s' i v x (((le₁.trans le₂).trans le₃).trans le)) h) (fun zz zz x => x.of ((le₁.trans le₂).trans le₃)) fun zz zz x => x.of ((le₁.trans le₂).trans le₃)
end
end
section
variable {c : Cx} {σ : Sto} {Q : V → Sto → Prop}
noncomputable def fr (n d : Int) : V := .tup [.int (red n d).1, .int (red n d).2]
theorem fr_one (n : Int) : fr n 1 = .tup [.int n, .int 1] := by unfold fr; rw [red_one]
noncomputable def Md (a : Int) : Prop := -1000000000000 ≤ a ∧ a ≤ 1000000000000
theorem fn_bounded (G : Good c) {n d : Int} (hn : Md n) (hd : Md d) (h : Q (.tup [.int n, .int d]) σ) : FN c 1 (.ref 306) [.int n, .int d] σ Q := by
 refine go_fd_38 G fun A env room ok hs => ?_
 refine loc_fd_38 G hs fun l0 l1 g1 g2 g3 => ?_
 have hb := BIG_le
 generalize BIG = B at g2 hb
 unfold Md at hn hd
 lk
 refine bi_abs ?_
 lk
 refine ite_dec (fun hx => absurd hx (by omega)) fun hx => ?_
 lk
 refine ite_dec (fun hx => absurd hx (by omega)) fun hx => ?_
 lk
 exact h
theorem fdiv_pos {a b : Int} (hb : 0 < b) : a.fdiv b = a / b := Int.fdiv_eq_ediv_of_nonneg _ (Int.le_of_lt hb)
theorem fn_make (G : Good c) {n d : Int} (hn : Md n) (hd : 0 < d) (hd' : Sm d) (h : Q (fr n d) σ) : FN c 2 (.ref 313) [.int n, .int d] σ Q := by
 refine go_fd_39 G fun A env room ok hs => ?_
 refine loc_fd_39 G hs fun l0 l1 l2 g1 g2 g3 g4 => ?_
 obtain ⟨k, rfl⟩ := Int.eq_ofNat_of_zero_le (Int.le_of_lt hd)
 have hk : 0 < k := by omega
 lk
 refine ite_dec (fun hx => absurd hx (by omega)) fun hx => ?_
 lk
 refine bi_abs ?_
 lk
 refine OPN_at room (fn_gcd G ?_)
 lk
 obtain ⟨r1, r2, r3⟩ := red_le (n := n) hd
 have hg : 0 < Nat.gcd n.natAbs k := Nat.gcd_pos_of_pos_right _ hk
 have hgk : Nat.gcd n.natAbs k ≤ k := Nat.gcd_le_right _ hk
 have hgs : Sm (Nat.gcd n.natAbs k : Int) := by unfold Sm at hd' ⊢; omega
 refine op_div (by omega) hgs.div ?_
 lk
 refine op_div (by omega) hgs.div ?_
 lk
 refine OPN_at room (fn_bounded G ?_ ?_ ?_)
 ·rw [fdiv_pos (by omega)]
  show Md (red n k).1
  unfold Md at hn ⊢; omega
 ·rw [fdiv_pos (by omega)]
  show Md (red n k).2
  have := red_pos (n := n) hd
  unfold Sm at hd'; unfold Md at hn ⊢; omega
 ·rw [fdiv_pos (by omega), fdiv_pos (by omega)]
  exact h
end
section
variable {c : Cx} {σ : Sto} {Q : V → Sto → Prop}
theorem fn_is_na_none (G : Good c) (h : Q (.bool true) σ) : FN c 1 (.ref 327) [.none] σ Q := by
 refine go_fd_41 G fun A env room ok hs => ?_
 have l0 := loc_fd_41 G hs
 lk
 exact h
theorem fn_is_na (G : Good c) {p q : Int} (hq : q ≠ 0) (h : Q (.bool false) σ) : FN c 1 (.ref 327) [.tup [.int p, .int q]] σ Q := by
 refine go_fd_41 G fun A env room ok hs => ?_
 have l0 := loc_fd_41 G hs
 lk
 refine ite_dec (fun hx => ?_) fun hx => ?_
 ·lk
  rw [decide_eq_false hq]
  exact h
 ·rw [decide_eq_false hx]
  exact h
theorem fn_from_int (G : Good c) {i : Int} (h : Q (.tup [.int i, .int 1]) σ) : FN c 1 (.ref 320) [.int i] σ Q := by
 refine go_fd_40 G fun A env room ok hs => ?_
 have l0 := loc_fd_40 G hs
 lk
 exact h
theorem fn_from_int_none (G : Good c) (h : Q .none σ) : FN c 1 (.ref 320) [.none] σ Q := by
 refine go_fd_40 G fun A env room ok hs => ?_
 have l0 := loc_fd_40 G hs
 lk
 exact h
theorem fn_neg (G : Good c) {p q : Int} (h : Q (.tup [.int (0 - p), .int q]) σ) : FN c 1 (.ref 348) [.tup [.int p, .int q]] σ Q := by
 refine go_fd_44 G fun A env room ok hs => ?_
 have l0 := loc_fd_44 G hs
 lk
 exact h
structure Fn (a b : Int) : Prop where
 a : a.natAbs ≤ 1000000
 p : 0 < b
 b : b ≤ 1000
structure Parts (a b x0 x1 g : Int) : Prop where
 gp : 0 < g
 e0 : a = g * x0
 e1 : b = g * x1
 p : 0 < x1
 l : x1 ≤ 1000
 s : x0.natAbs ≤ 1000000
theorem parts {a b : Int} (h : Fn a b) : ∃ x0 x1 g, red a b = (x0, x1) ∧ Parts a b x0 x1 g := by
 obtain ⟨g, hg, h1, h2⟩ := red_spec (n := a) h.p
 obtain ⟨r1, r2, r3⟩ := red_le (n := a) h.p
 have := h.a
 have := h.b
 refine ⟨(red a b).1, (red a b).2, g, rfl, hg, h1, h2, red_pos h.p, ?_, ?_⟩
 ·omega
 ·omega
theorem nat_mul_le {x y : Int} {m n : Nat} (hx : x.natAbs ≤ m) (hy : y.natAbs ≤ n) : (x * y).natAbs ≤ m * n := by
 rw [Int.natAbs_mul]; exact Nat.mul_le_mul hx hy
theorem sm_of {x : Int} (h : x.natAbs ≤ 1000000) : Sm x := by unfold Sm; omega
theorem mul_pos' {a b : Int} (ha : 0 < a) (hb : 0 < b) : 0 < a * b := Int.mul_pos ha hb
theorem den_sm {x y : Int} (hx : 0 < x) (hx' : x ≤ 1000) (hy : 0 < y) (hy' : y ≤ 1000) : 0 < x * y ∧ Sm (x * y) := by
 have h1 := mul_pos' hx hy
 have h2 := nat_mul_le (x := x) (y := y) (m := 1000) (n := 1000) (by omega) (by omega)
 exact ⟨h1, by unfold Sm; omega⟩
theorem fn_add (G : Good c) {a b a' b' : Int} (hx : Fn a b) (hy : Fn a' b') (h : Q (fr (a * b' + a' * b) (b * b')) σ) : FN c 3 (.ref 355) [fr a b, fr a' b'] σ Q := by
 obtain ⟨x0, x1, g, ex, px⟩ := parts hx
 obtain ⟨y0, y1, k, ey, py⟩ := parts hy
 have e : fr (a * b' + a' * b) (b * b') = fr (x0 * y1 + y0 * x1) (x1 * y1) := by
  have h1 : a * b' + a' * b = (g * k) * (x0 * y1 + y0 * x1) := by
   rw [px.e0, px.e1, py.e0, py.e1]; grind
  have h2 : b * b' = (g * k) * (x1 * y1) := by rw [px.e1, py.e1]; grind
  unfold fr
  rw [h1, h2, red_scale (mul_pos' px.gp py.gp) (mul_pos' px.p py.p)]
 rw [e] at h
 unfold fr
 rw [ex, ey]
 dsimp only
 have n1 : x1 ≠ 0 := Int.ne_of_gt px.p
 have n2 : y1 ≠ 0 := Int.ne_of_gt py.p
 obtain ⟨d1, d2⟩ := den_sm px.p px.l py.p py.l
 refine go_fd_45 G fun A env room ok hs => ?_
 refine loc_fd_45 G hs fun l0 l1 g1 g2 g3 g4 => ?_
 lk
 refine OPN_at room (fn_is_na G n1 ?_)
 lk
 refine OPN_at room (fn_is_na G n2 ?_)
 lk
 refine ite_dec (fun hx => absurd hx n1) fun hx => ?_
 lk
 refine ite_dec (fun hx => absurd hx n1) fun hx => ?_
 lk
 refine ite_dec (fun hx => absurd hx n2) fun hx => ?_
 lk
 refine op_mul (sm_of px.s).mul ?_
 lk
 refine op_mul (sm_of py.s).mul ?_
 lk
 refine op_mul (Sm.mul (by have := px.l; have := px.p; unfold Sm; omega)) ?_
 lk
 refine OPN_at room (fn_make G ?_ d1 d2 h)
 have m1 := nat_mul_le (x := x0) (y := y1) (m := 1000000) (n := 1000) px.s (by have := py.l; have := py.p; omega)
 have m2 := nat_mul_le (x := y0) (y := x1) (m := 1000000) (n := 1000) py.s (by have := px.l; have := px.p; omega)
 unfold Md; omega
theorem fr_neg {a b : Int} (hb : 0 < b) : fr (-a) b = .tup [.int (0 - (red a b).1), .int (red a b).2] := by
 unfold fr red
 rw [Int.neg_gcd, Int.neg_ediv_of_dvd (Int.gcd_dvd_left ..)]
 simp
theorem fn_sub (G : Good c) {a b a' b' : Int} (hx : Fn a b) (hy : Fn a' b') (h : Q (fr (a * b' + -a' * b) (b * b')) σ) : FN c 4 (.ref 362) [fr a b, fr a' b'] σ Q := by
 refine go_fd_46 G fun A env room ok hs => ?_
 refine loc_fd_46 G hs fun l0 l1 g1 g2 => ?_
 lk
 refine OPN_at room (fn_neg G ?_)
 lk
 rw [← fr_neg hy.p]
 exact OPN_at room (fn_add G hx ⟨by have := hy.a; omega, hy.p, hy.b⟩ h)
theorem fn_mul (G : Good c) {a b a' b' : Int} (hx : Fn a b) (hy : Fn a' b') (h : Q (fr (a * a') (b * b')) σ) : FN c 3 (.ref 369) [fr a b, fr a' b'] σ Q := by
 obtain ⟨x0, x1, g, ex, px⟩ := parts hx
 obtain ⟨y0, y1, k, ey, py⟩ := parts hy
 have e : fr (a * a') (b * b') = fr (x0 * y0) (x1 * y1) := by
  have h1 : a * a' = (g * k) * (x0 * y0) := by rw [px.e0, py.e0]; grind
  have h2 : b * b' = (g * k) * (x1 * y1) := by rw [px.e1, py.e1]; grind
  unfold fr
  rw [h1, h2, red_scale (mul_pos' px.gp py.gp) (mul_pos' px.p py.p)]
 rw [e] at h
 unfold fr
 rw [ex, ey]
 dsimp only
 have n1 : x1 ≠ 0 := Int.ne_of_gt px.p
 have n2 : y1 ≠ 0 := Int.ne_of_gt py.p
 obtain ⟨d1, d2⟩ := den_sm px.p px.l py.p py.l
 refine go_fd_47 G fun A env room ok hs => ?_
 refine loc_fd_47 G hs fun l0 l1 g1 g2 g3 => ?_
 lk
 refine OPN_at room (fn_is_na G n1 ?_)
 lk
 refine OPN_at room (fn_is_na G n2 ?_)
 lk
 refine op_mul (sm_of px.s).mul ?_
 lk
 refine op_mul (Sm.mul (by have := px.l; have := px.p; unfold Sm; omega)) ?_
 lk
 refine OPN_at room (fn_make G ?_ d1 d2 h)
 have m1 := nat_mul_le (x := x0) (y := y0) (m := 1000000) (n := 1000000) px.s py.s
 unfold Md; omega
theorem fn_div (G : Good c) {a b k : Int} (hx : Fn a b) (hk : 0 < k) (hk' : k ≤ 1000) (h : Q (fr a (b * k)) σ) : FN c 3 (.ref 376) [fr a b, .tup [.int k, .int 1]] σ Q := by
 obtain ⟨x0, x1, g, ex, px⟩ := parts hx
 have e : fr a (b * k) = fr (x0 * 1) (x1 * k) := by
  have h2 : b * k = g * (x1 * k) := by rw [px.e1]; grind
  unfold fr
  rw [h2, px.e0, Int.mul_one, red_scale px.gp (mul_pos' px.p hk)]
 rw [e] at h
 unfold fr
 rw [ex]
 dsimp only
 have n1 : x1 ≠ 0 := Int.ne_of_gt px.p
 obtain ⟨d1, d2⟩ := den_sm px.p px.l hk hk'
 refine go_fd_48 G fun A env room ok hs => ?_
 refine loc_fd_48 G hs fun l0 l1 g1 g2 g3 g4 g5 => ?_
 lk
 refine OPN_at room (fn_is_na G n1 ?_)
 lk
 refine OPN_at room (fn_is_na G (by decide) ?_)
 lk
 refine ite_dec (fun hx => absurd hx n1) fun hx => ?_
 lk
 refine ite_dec (fun hx => absurd hx n1) fun hx => ?_
 lk
 refine op_mul (sm_of px.s).mul ?_
 lk
 refine op_mul (Sm.mul (by have := px.l; have := px.p; unfold Sm; omega)) ?_
 lk
 refine OPN_at room (fn_make G ?_ d1 d2 h)
 have := px.s
 unfold Md; omega
end
section
variable {c : Cx} {σ : Sto} {Q : V → Sto → Prop}
noncomputable def cmp (a b : Int) : Int := if a = b then 0 else if a < b then -1 else 1
theorem fn_compare (G : Good c) {p q r s : Int} (hp : Sm p) (hr : Sm r) (hq : 0 < q) (hs : 0 < s) (h : Q (.int (cmp (p * s) (r * q))) σ) : FN c 2 (.ref 411) [.tup [.int p, .int q], .tup [.int r, .int s]] σ Q := by
 have n1 : q ≠ 0 := Int.ne_of_gt hq
 have n2 : s ≠ 0 := Int.ne_of_gt hs
 refine go_fd_53 G fun A env room ok hs => ?_
 refine loc_fd_53 G hs fun l0 l1 l2 l3 g1 => ?_
 lk
 refine OPN_at room (fn_is_na G n1 ?_)
 lk
 refine OPN_at room (fn_is_na G n2 ?_)
 lk
 refine ite_dec (fun hx => absurd hx n1) fun hx => ?_
 lk
 refine op_mul hp.mul ?_
 lk
 refine op_mul hr.mul ?_
 lk
 refine ite_dec (fun hx => absurd hx n1) fun hx => ?_
 lk
 refine ite_dec (fun hx => absurd hx n2) fun hx => ?_
 lk
 refine ite_dec (fun hx => ?_) fun hx => ?_
 ·lk
  unfold cmp at h; rw [if_pos hx] at h; exact h
 ·lk
  unfold cmp at h; rw [if_neg hx] at h
  refine ite_dec (fun hy => ?_) fun hy => ?_
  ·lk
   rw [if_pos hy] at h; exact h
  ·lk
   rw [if_neg hy] at h; exact h
theorem fn_is_finite (G : Good c) {p q : Int} (hq : 0 < q) (h : Q (.bool true) σ) : FN c 1 (.ref 334) [.tup [.int p, .int q]] σ Q := by
 refine go_fd_42 G fun A env room ok hs => ?_
 have l0 := loc_fd_42 G hs
 lk
 rw [decide_eq_true hq]
 exact h
theorem fn_floor (G : Good c) {p q : Int} (hq : 0 < q) (hq' : Sm q) (h : Q (.tup [.int (p / q), .int 1]) σ) : FN c 2 (.ref 383) [.tup [.int p, .int q]] σ Q := by
 refine go_fd_49 G fun A env room ok hs => ?_
 refine loc_fd_49 G hs fun l0 g1 => ?_
 lk
 refine OPN_at room (fn_is_finite G hq ?_)
 lk
 refine op_div (Int.ne_of_gt hq) hq'.div ?_
 lk
 rw [fdiv_pos hq]
 exact h
theorem fn_add1 (G : Good c) {k m : Int} (hk : k.natAbs ≤ 1000000) (hm : m.natAbs ≤ 1000000) (h : Q (.tup [.int (k + m), .int 1]) σ) : FN c 3 (.ref 355) [.tup [.int k, .int 1], .tup [.int m, .int 1]] σ Q := by
 rw [← fr_one, ← fr_one]
 refine fn_add G ⟨hk, by decide, by decide⟩ ⟨hm, by decide, by decide⟩ ?_
 rw [Int.mul_one, Int.mul_one, Int.mul_one, fr_one]; exact h
theorem step_abs {k m : Int} {a b c : Nat} (h : k.natAbs + c * (a + 1) ≤ b) (hm : m.natAbs ≤ c) : (k + m).natAbs + c * a ≤ b := by
 have h1 := Int.natAbs_add_le k m
 rw [Nat.mul_succ] at h
 omega
theorem more_abs {k m : Int} {a c : Nat} (h : k.natAbs ≤ c * a) (hm : m.natAbs ≤ c) : (k + m).natAbs ≤ c * (a + 1) := by
 have h1 := Int.natAbs_add_le k m
 rw [Nat.mul_succ]
 omega
noncomputable def ones (ns : List Int) : List V := ns.map fun n => .tup [.int n, .int 1]
end
section
variable {c : Cx}
noncomputable def attrsOf : List (Addr × Str) := [(144, S "kind"), (144, S "items"), (144, S "attrs"), (144, S "shared"), (144, S "loose"), (240, S "formals"), (240, S "tags"), (240, S "used"), (240, S "places")]
theorem attrs_fine (P : Params) : attrsOf.all (fun p => (findIn (KF P) (.ref p.1) "__getattribute__" == some (some (.builtin "object.__getattribute__"))) && (findIn (KF P) (.ref p.1) p.2 == some none) && (clsIn (KF P) p.1).any (·.hasDict) &&
  (findIn (KF P) (.ref p.1) "__setattr__" == some (some (.builtin "object.__setattr__"))) && plainOver (KF P) p.1 && (takerIn (KF P) p.1 p.2 == some none)) = true := by kernel_rfl
theorem attr_both (G : Good c) {C : Addr} {n : Str} (h : attrsOf.contains (C, n) = true) : AttrOk c C n ∧ SetOk c C n := by
 have h1 := List.all_eq_true.mp (attrs_fine c.w.params) (C, n) (List.contains_iff_mem.mp h)
 simp only [Bool.and_eq_true, beq_iff_eq] at h1
 obtain ⟨⟨⟨⟨⟨a1, a2⟩, a3⟩, a4⟩, a5⟩, a6⟩ := h1
 rw [← G.K] at a1 a2 a3 a4 a5 a6
 exact ⟨⟨a1, a2, a3⟩, ⟨a4, a5, a6, a3⟩⟩
theorem attr_ok (G : Good c) {C : Addr} {n : Str} (h : attrsOf.contains (C, n) = true) : AttrOk c C n := (attr_both G h).1
theorem set_ok (G : Good c) {C : Addr} {n : Str} (h : attrsOf.contains (C, n) = true) : SetOk c C n := (attr_both G h).2
noncomputable def clsNums : List Addr := [144, 240, 117]
theorem cls_fine (P : Params) : clsNums.all (fun a => keepIn (KF P) (.ref a)) = true := by kernel_rfl
theorem callee_cls (G : Good c) {a : Addr} (h : clsNums.contains a = true) : CalleeOk c (.ref a) :=
 callee_K (by rw [G.K]; exact List.all_eq_true.mp (cls_fine c.w.params) a (List.contains_iff_mem.mp h))
structure MakeOk (c : Cx) (C fI : Addr) : Prop where
 made : makesIn c.K C = true
 init : findIn c.K (.ref C) "__init__" = some (some (.ref fI))
 fn : typeIn c.K (.ref fI) = some (.type "function")
theorem Room.made {n : Nat} {A : Around} {C : Addr} {xs : List Value} (r : Room (n + 1) A) : Room n (A.under (.builtin "type.__call__" ⟨.ref C :: xs, []⟩)) := by
 refine ⟨r.handled, ?_, ?_⟩
 ·have := r.depth
  show A.depth + (Code.builtin "type.__call__" ⟨.ref C :: xs, []⟩).weight + n < _
  have : (Code.builtin "type.__call__" ⟨.ref C :: xs, []⟩).weight ≤ 1 := Nat.le_of_ble_eq_true (by kernel_rfl)
  omega
 ·have := r.units
  show A.units + (Code.builtin "type.__call__" ⟨.ref C :: xs, []⟩).cUnits + 8 * n + 8 < _
  have : (Code.builtin "type.__call__" ⟨.ref C :: xs, []⟩).cUnits ≤ 8 := Nat.le_of_ble_eq_true rfl
  omega
section
variable {A : Around} {env : Env} {own : Bool} {X : XP} {ρ : Loc} {σ : Sto} {Q : V → Sto → Prop}
theorem OPN_make {n : Nat} {C fI : Addr} {l : List V} (room : Room (n + 1) A) (mk : MakeOk c C fI)
  (h : ∀ x d, σ x = none → σ d = none → x ≠ d → FN c n (.ref fI) (.ref x :: l) (upd (upd σ d (.dict [] [])) x (.inst C d)) (fun v σ' => v = .none ∧ Q (.ref x) σ')) : OPN c A env own X ρ Q (call (.ref C) ·) l σ := by
 refine ⟨?_⟩; rintro F P s xs R r
 have RC := R.enter
 have n1 := RC.new (Nat.le_refl _)
 have n2 := RC.new (Nat.le_succ s.heap.objs.size)
 have hne : s.heap.objs.size ≠ s.heap.objs.size + 1 := Nat.ne_of_lt (Nat.lt_succ_self _)
 have keep : ∀ b o, s.heap.get? b = some o → ((s.heap.push emptyDict).push (instObj C s.heap.objs.size)).get? b = some o := fun b o e => Heap.get?_push_of_some _ (Heap.get?_push_of_some _ e)
 have R1 := RC.grow (h' := (s.heap.push emptyDict).push (instObj C s.heap.objs.size)) (t := s.toks) keep
 have g1 : ((s.heap.push emptyDict).push (instObj C s.heap.objs.size)).get? s.heap.objs.size = some emptyDict := Heap.get?_push_of_some _ (Heap.get?_push_size _ rfl)
 have g2 : ((s.heap.push emptyDict).push (instObj C s.heap.objs.size)).get? (s.heap.objs.size + 1) = some (instObj C s.heap.objs.size) := by
  have := Heap.get?_push_size (s.heap.push emptyDict) (o := instObj C s.heap.objs.size) rfl
  rwa [Heap.size_push] at this
 have R2 := R1.keepσ (x := .dict [] []) g1 n1.2.1 n1.2.2.1 n1.2.2.2 ⟨[], 0, rfl, trivial, trivial⟩
 have R3 := R2.keepσ (x := .inst C s.heap.objs.size) g2 n2.2.1 n2.2.2.1 n2.2.2.2 rfl
 have XK := c.hK.keeps R.kept
 refine wpAny_call ?_
 have key : codeAny (MM c) (A.under (.builtin "type.__call__" ⟨.ref C :: xs, []⟩)) (.call (.ref fI) ⟨.ref (s.heap.objs.size + 1) :: xs, []⟩)
   (InitBack (s.heap.objs.size + 1) (fun r s' => match r with | .ok (.ret v) => PV c env own F ρ P Q v s' | .ok _ => False | .error e => PX X F P e s'))
   { s with heap := (s.heap.push emptyDict).push (instObj C s.heap.objs.size), toks := s.toks } := by
  refine codeAny_mono ((h (s.heap.objs.size + 1) s.heap.objs.size n2.1 n1.1 (Ne.symm hne)).run _ _ P _ (.ref (s.heap.objs.size + 1) :: xs) room.made R3 ⟨rfl, r⟩) ?_
  intro r s₁ hr
  obtain ⟨v, rfl, P₁, V, σ₁, le, C₁, rv, hV, q⟩ := hr.ok
  subst hV
  cases rv
  exact ⟨rfl, P₁, .ref (s.heap.objs.size + 1), σ₁, le, R.back C₁ le, rfl, q⟩
 obtain ⟨hh, g, d, t, os⟩ := s
 exact make_core (makes_of XK mk.made) (looks_findIn XK mk.init) (fun self => bind_fn XK self mk.fn) (.inl rfl) key
theorem OPN_freezeI {f : Value} {C : Addr} {l : List V} (h : OPN c A env own X ρ (fun v σ₁ => ∃ x d ks vs σ', v = .ref x ∧ x ≠ d ∧ σ₁ x = some (.inst C d) ∧ σ₁ d = some (.dict ks vs) ∧ SLe σ' σ₁ ∧ σ' x = none ∧ σ' d = none ∧ Q (.ins C ks vs) σ') (call f ·) l σ) :
  OPN c A env own X ρ Q (call f ·) l σ := by
 refine ⟨?_⟩; rintro F P s xs R r
 refine wpAny_mono (h.run F P s xs R r) ?_ fun zz zz x => x
 rintro v s₁ ⟨P₁, V, σ₁, le₁, R₁, rv, x, d, ks, vs, σ', rfl, hne, hx, hd, le, nx, nd, q⟩
 cases rv
 have le' : SLe (fun a => if a = x then none else σ₁ a) σ₁ := fun a y e => by
  by_cases ha : a = x
  ·simp [ha] at e
  ·simpa [ha] using e
 obtain ⟨o, ho, R₂⟩ := R₁.freeze hx le' (by simp)
 have ho' : o = instObj C d := ho
 subst ho'
 have le'' : SLe σ' (fun a => if a = x then none else σ₁ a) := fun a y e => by
  have : a ≠ x := fun q => by rw [q, nx] at e; cases e
  simpa [this] using le a y e
 obtain ⟨od, hod, R₃⟩ := R₂.freeze (a := d) (x := .dict ks vs) (by simp [Ne.symm hne, hd]) le'' nd
 obtain ⟨es, n, rfl, k, r'⟩ := hod
 exact ⟨_, .ins C ks vs, σ', (le₁.trans (addP_le _ _ _)).trans (addP_le _ _ _), R₃, ⟨x, d, es, n, rfl, .inl (addP_self _ _ _), addP_self _ _ _, k, r'.mono (addP_le _ _ _)⟩, q⟩
end
theorem make_Vector (G : Good c) : MakeOk c 144 134 := ⟨by rw [G.K]; kernel_rfl, by rw [G.K]; kernel_rfl, by rw [G.K]; kernel_rfl⟩
theorem make_Matching (G : Good c) : MakeOk c 240 197 := ⟨by rw [G.K]; kernel_rfl, by rw [G.K]; kernel_rfl, by rw [G.K]; kernel_rfl⟩
end
section
variable {c : Cx} {σ : Sto} {Q : V → Sto → Prop}
theorem upd_upd (σ : Sto) (a : Addr) (x y : O) : upd (upd σ a x) a y = upd σ a y := by funext b; unfold upd; by_cases q : b = a <;> simp [q]
theorem upd_comm (σ : Sto) {a b : Addr} (x y : O) (h : a ≠ b) : upd (upd σ a x) b y = upd (upd σ b y) a x := by
 funext d; unfold upd; by_cases q : d = a <;> by_cases q' : d = b <;> simp_all
noncomputable def VK : List Str := [S "kind", S "items", S "attrs", S "shared", S "loose"]
noncomputable def vec (k it at' : V) : V := .ins 144 VK [k, it, at', .bool false, .bool false]
theorem fn_Vector_init (G : Good c) {x d : Addr} {k it : V} (hne : x ≠ d) (hx : σ x = some (.inst 144 d)) (hd : σ d = some (.dict [] [])) (h : Q .none (upd σ d (.dict VK [k, it, .none, .bool false, .bool false]))) :
  FN c 1 (.ref 134) [.ref x, k, it] σ Q := by
 refine god_md_16_0 G fun A env room ok hs => ?_
 refine loc_md_16_0 G hs fun l0 l1 l2 l3 => ?_
 have hX : ∀ o, upd σ d o x = some (.inst 144 d) := fun o => (upd_ne hne).trans hx
 lk
 refine ⟨x, d, 144, _, _, rfl, hx, hd, set_ok G (by decide +kernel), Nat.le_of_ble_eq_true rfl, ?_⟩
 lk
 refine ⟨x, d, 144, _, _, rfl, hX _, upd_self .., set_ok G (by decide +kernel), Nat.le_of_ble_eq_true rfl, ?_⟩
 rw [upd_upd]
 lk
 refine ⟨x, d, 144, _, _, rfl, hX _, upd_self .., set_ok G (by decide +kernel), Nat.le_of_ble_eq_true rfl, ?_⟩
 rw [upd_upd]
 lk
 refine ⟨x, d, 144, _, _, rfl, hX _, upd_self .., set_ok G (by decide +kernel), Nat.le_of_ble_eq_true rfl, ?_⟩
 rw [upd_upd]
 lk
 refine ⟨x, d, 144, _, _, rfl, hX _, upd_self .., set_ok G (by decide +kernel), Nat.le_of_ble_eq_true rfl, ?_⟩
 rw [upd_upd]
 lk
 exact h
section
variable {A : Around} {env : Env} {own : Bool} {X : XP} {ρ : Loc}
theorem mk_vecM (G : Good c) {n : Nat} {k it : V} (room : Room n A) (h : ∀ x d, σ x = none → σ d = none → x ≠ d → Q (.ref x) (upd (upd σ d (.dict VK [k, it, .none, .bool false, .bool false])) x (.inst 144 d))) (hn : autoParam (2 ≤ n) aLe) :
  OPN c A env own X ρ Q (call (.ref 144) ·) [k, it] σ := by
 refine OPN_make (n := 1) (room.mono hn) (make_Vector G) fun x d hx hd hne => ?_
 refine fn_Vector_init G hne (upd_self ..) ((upd_ne (Ne.symm hne)).trans (upd_self ..)) ⟨rfl, ?_⟩
 rw [upd_comm _ _ _ hne, upd_upd]
 exact h x d hx hd hne
theorem mk_vec (G : Good c) {n : Nat} {k it : V} (room : Room n A) (h : Q (vec k it .none) σ) (hn : autoParam (2 ≤ n) aLe) : OPN c A env own X ρ Q (call (.ref 144) ·) [k, it] σ := by
 refine OPN_freezeI (mk_vecM G room (fun x d hx hd hne => ⟨x, d, _, _, σ, rfl, hne, upd_self .., (upd_ne (Ne.symm hne)).trans (upd_self ..), ?_, hx, hd, h⟩) hn)
 exact (SLe.upd hd).trans (.upd (by rw [upd_ne hne]; exact hx))
end
end
section
open PySem.MeetsSeq
section
variable {c : Cx} {A : Around} {env : Env} {own : Bool} {X : XP} {ρ : Loc} {σ : Sto} {Q : V → Sto → Prop} {QB : Bool → Sto → Prop}
theorem notIn_f {n : Nat} {a : V} {l : List V} {d : PyData} {ds : List PyData} (room : Room n A) (h1 : dat a = some d) (h2 : dats l = some ds) (e : (PyData.canLayAll0 ds && d.canLay0 && decide (d.depth ≤ 6) && ds.any fun y => PyData.eqv y d) = true) (h : Q (.bool false) σ) :
  OP2 c A env own X ρ Q (compareOp .NotIn) a (.tup l) σ := by
 simp only [Bool.and_eq_true, decide_eq_true_eq] at e
 obtain ⟨⟨⟨e1, e2⟩, e3⟩, e4⟩ := e
 exact op_notInT h1 h2 e1 e2 (by have := room.units; omega) (by rw [e4]; exact h)
theorem inL_f {n : Nat} {a : V} {l : List V} {d : PyData} {ds : List PyData} (room : Room n A) (h1 : dat a = some d) (h2 : dats l = some ds) (e : (PyData.canLayAll0 ds && d.canLay0 && decide (d.depth ≤ 6) && !ds.any fun y => PyData.eqv y d) = true) (h : Q (.bool false) σ) :
  OP2 c A env own X ρ Q (compareOp .In) a (.lst l) σ := by
 simp only [Bool.and_eq_true, decide_eq_true_eq, Bool.not_eq_true'] at e
 obtain ⟨⟨⟨e1, e2⟩, e3⟩, e4⟩ := e
 exact op_inL h1 h2 e1 e2 (by have := room.units; omega) (by rw [e4]; exact h)
theorem notInL_f {n : Nat} {a : V} {l : List V} {d : PyData} {ds : List PyData} (room : Room n A) (h1 : dat a = some d) (h2 : dats l = some ds) (e : (PyData.canLayAll0 ds && d.canLay0 && decide (d.depth ≤ 6) && ds.any fun y => PyData.eqv y d) = true) (h : Q (.bool false) σ) :
  OP2 c A env own X ρ Q (compareOp .NotIn) a (.lst l) σ := by
 simp only [Bool.and_eq_true, decide_eq_true_eq] at e
 obtain ⟨⟨⟨e1, e2⟩, e3⟩, e4⟩ := e
 exact op_notInL h1 h2 e1 e2 (by have := room.units; omega) (by rw [e4]; exact h)
theorem eqS_t {a b : Str} (e : (a == b) = true) (h : Q (.bool true) σ) : OP2 c A env own X ρ Q (compareOp .Eq) (.str a) (.str b) σ := op_eqS' e h
theorem eqS_f {a b : Str} (e : (a == b) = false) (h : Q (.bool false) σ) : OP2 c A env own X ρ Q (compareOp .Eq) (.str a) (.str b) σ := op_eqS' e h
theorem neS_t {a b : Str} (e : (a != b) = true) (h : Q (.bool true) σ) : OP2 c A env own X ρ Q (compareOp .NotEq) (.str a) (.str b) σ := op_neS' e h
theorem neS_f {a b : Str} (e : (a != b) = false) (h : Q (.bool false) σ) : OP2 c A env own X ρ Q (compareOp .NotEq) (.str a) (.str b) σ := op_neS' e h
theorem tru_L {a : V} {l : List V} (ha : IsL σ a l) (hl : l.length ≤ 1000000) (h : QB (!l.isEmpty) σ) : TRU c A env own X ρ QB a σ := by
 refine ⟨?_⟩; rintro F P s x R r
 obtain ⟨ad, vs, n, rfl, g, rv⟩ := ha.at R r
 have len : vs.size = l.length := by rw [← rv.length, Array.length_toList]
 refine @wpAny_truthy_list _ _ _ _ _ _ _ _ ⟨_, g, rfl, n, rfl⟩ (by rw [len]; omega) ⟨P, σ, .refl _, R.toks _, ?_⟩
 have : vs.isEmpty = l.isEmpty := by
  rw [Bool.eq_iff_iff, Array.isEmpty_iff_size_eq_zero, List.isEmpty_iff_length_eq_zero, len]
 rw [this]; exact h
theorem EV_ListF {es : List Expr} {pos : Pos} (h : ES c A env own X ρ es (fun l σ₁ => l.length ≤ 1000 ∧ Q (.lst l) σ₁) σ) : EV c A env own X ρ (.List es pos) Q σ := .mk fun F P s R => by
 refine wpAny_List_spliced (wpAny_mono (h.run pos F P s R) ?_ fun zz zz x => x)
 rintro vs s₁ ⟨P₁, l, σ₁, le₁, R₁, rl, hl, h₁⟩
 exact ⟨by rw [rl.length, sizeLine_eq]; omega, addP P₁ s₁.heap.objs.size _, .lst l, σ₁, le₁.trans (addP_le _ _ _), R₁.pushP _ rfl, ⟨_, vs.toArray, 0, rfl, addP_self _ _ _, rl.mono (addP_le _ _ _)⟩, h₁⟩
end
end
section
variable {c : Cx} {σ : Sto} {Q : V → Sto → Prop}
noncomputable abbrev Row := List (Option Int)
noncomputable def ov : Option Int → V
 | some i => .int i
 | none => .none
noncomputable def qv' : Option Int → V
 | some i => .tup [.int i, .int 1]
 | none => .none
noncomputable def toQ : V → V
 | .int i => .tup [.int i, .int 1]
 | v => .none
noncomputable def ivec (r : Row) : V := vec (.str (S "integer")) (.lst (r.map ov)) .none
noncomputable def dvec (l : List V) : V := vec (.str (S "double")) (.lst l) .none
theorem fm_map {α : Type} {f : V → Option V} {g h : α → V} (l : List α) (e : ∀ a ∈ l, f (g a) = some (h a)) : (l.map g).filterMap f = l.map h := by
 induction l with
 | nil => rfl
 | cons a l ih => rw [List.map_cons, List.filterMap_cons, e a List.mem_cons_self, List.map_cons, ih fun b hb => e b (List.mem_cons_of_mem _ hb)]
theorem fn_from_ov (G : Good c) {o : Option Int} (h : Q (qv' o) σ) : FN c 1 (.ref 320) [ov o] σ Q := by
 cases o
 ·exact fn_from_int_none G h
 ·exact fn_from_int G h
theorem fn_number_items (G : Good c) {r : Row} {v : V} (hv : v = ivec r) (hz : r.length ≤ 1000) (h : Q (.lst (r.map qv')) σ) : FN c 2 (.ref 724) [v] σ Q := by
 subst hv
 refine go_fd_107 G fun A env room ok hs => ?_
 refine loc_fd_107 G hs fun l0 g1 => ?_
 lk
 refine EV_ListCompF (J := fun zz => True) (ρl := [none, none, none]) (fun v => some (toQ v)) room.handled ok ⟨rfl, by decide +kernel, by decide +kernel⟩ ⟨rfl, rfl, rfl, trivial⟩ trivial ?_
 lk
 refine ⟨_, .lst _, by rw [List.length_map]; omega, ⟨?_⟩, by rw [fm_map (h := qv') r (fun o zz => by cases o <;> rfl)]; exact h⟩
 intro cenv hcs okc σ' ρ' v hv _ _
 have e : cenv.scope.names = [(S ".0", .local), (S "item", .local), (S "from_int", .globalImplicit)] := by rw [hcs]; rfl
 have l1 : LocAt cenv 1 (S "item") .local := LocAt_of e (by decide +kernel) rfl (by decide +kernel)
 have g2 : GlobAt c cenv (S "from_int") (.val (.ref 320)) := Glob_of e (by decide +kernel) (gv_from_int G) (by decide +kernel)
 obtain ⟨o, ho, rfl⟩ := List.mem_map.mp hv
 lk
 refine ⟨trivial, rfl, TS_nil ⟨rfl, ?_⟩⟩
 lk
 refine OPN_at room (fn_from_ov G ?_)
 exact ⟨rfl, by cases o <;> rfl⟩
inductive Num : V → Prop
 | none : Num .none
 | frac {p q : Int} (h : q ≠ 0) : Num (.tup [.int p, .int q])
theorem num_fr {a b : Int} (h : 0 < b) : Num (fr a b) := .frac (Int.ne_of_gt (red_pos h))
theorem num_qv (o : Option Int) : Num (qv' o) := by
 cases o
 ·exact .none
 ·exact .frac (by decide)
theorem fn_marked (G : Good c) {x y : V} (hn : x = .none ∨ y = .none) (hx : Num x) (h : Q .none σ) : FN c 1 (.ref 341) [x, y] σ Q := by
 refine go_fd_43 G fun A env room ok hs => ?_
 refine loc_fd_43 G hs fun l0 l1 g1 => ?_
 cases hx with
 | none =>
  lk
  exact h
 | frac hq =>
  rcases hn with hn | rfl
  ·cases hn
  lk
  exact h
theorem fn_add_none (G : Good c) {x y : V} (hx : Num x) (hy : Num y) (hn : x = .none ∨ y = .none) (h : Q .none σ) : FN c 3 (.ref 355) [x, y] σ Q := by
 refine go_fd_45 G fun A env room ok hs => ?_
 refine loc_fd_45 G hs fun l0 l1 g1 g2 g3 g4 => ?_
 have hx' := hx
 lk
 cases hx with
 | none =>
  refine OPN_at room (fn_is_na_none G ?_)
  lk
  exact OPN_at room (fn_marked G hn hx' h)
 | frac hq =>
  rcases hn with hn | rfl
  ·cases hn
  refine OPN_at room (fn_is_na G hq ?_)
  lk
  refine OPN_at room (fn_is_na_none G ?_)
  lk
  exact OPN_at room (fn_marked G (.inr rfl) hx' h)
theorem fn_mul_none (G : Good c) {x y : V} (hx : Num x) (hy : Num y) (hn : x = .none ∨ y = .none) (h : Q .none σ) : FN c 3 (.ref 369) [x, y] σ Q := by
 refine go_fd_47 G fun A env room ok hs => ?_
 refine loc_fd_47 G hs fun l0 l1 g1 g2 g3 => ?_
 have hx' := hx
 lk
 cases hx with
 | none =>
  refine OPN_at room (fn_is_na_none G ?_)
  lk
  exact OPN_at room (fn_marked G hn hx' h)
 | frac hq =>
  rcases hn with hn | rfl
  ·cases hn
  refine OPN_at room (fn_is_na G hq ?_)
  lk
  refine OPN_at room (fn_is_na_none G ?_)
  lk
  exact OPN_at room (fn_marked G (.inr rfl) hx' h)
theorem fn_div_none (G : Good c) {y : V} (h : Q .none σ) : FN c 3 (.ref 376) [.none, y] σ Q := by
 refine go_fd_48 G fun A env room ok hs => ?_
 refine loc_fd_48 G hs fun l0 l1 g1 g2 g3 g4 g5 => ?_
 lk
 refine OPN_at room (fn_is_na_none G ?_)
 lk
 exact OPN_at room (fn_marked G (.inl rfl) .none h)
theorem fn_sub_none (G : Good c) {x y : V} (hx : Num x) (hy : Num y) (hn : x = .none ∨ y = .none) (h : Q .none σ) : FN c 4 (.ref 362) [x, y] σ Q := by
 refine go_fd_46 G fun A env room ok hs => ?_
 refine loc_fd_46 G hs fun l0 l1 g1 g2 => ?_
 lk
 have neg : ∀ Q', Q' (match y with | .tup [.int p, .int q] => .tup [.int (0 - p), .int q] | _ => .none) σ → FN c 1 (.ref 348) [y] σ Q' := by
  intro Q' q
  cases hy with
  | frac hq => exact fn_neg G q
  | none =>
   refine go_fd_44 G fun A env room ok hs => ?_
   have l0 := loc_fd_44 G hs
   lk
   exact q
 refine OPN_at room (neg _ ?_)
 lk
 cases hy with
 | none => exact OPN_at room (fn_add_none G hx .none (.inr rfl) h)
 | frac hq =>
  rcases hn with rfl | hn
  ·exact OPN_at room (fn_add_none G .none (.frac hq) (.inl rfl) h)
  ·cases hn
noncomputable def addO : Option Int → Option Int → Option Int
 | some a, some b => some (a + b)
 | _, _ => none
noncomputable def sumO : Option Int → Row → Option Int
 | t, [] => t
 | t, x :: r => sumO (addO t x) r
noncomputable def small (r : Row) : Prop := ∀ o ∈ r, ∀ i, o = some i → i.natAbs ≤ 100
theorem fn_add_row (G : Good c) {t o : Option Int} (ht : ∀ k, t = some k → k.natAbs ≤ 1000000) (ho : ∀ k, o = some k → k.natAbs ≤ 1000000) (h : Q (qv' (addO t o)) σ) : FN c 3 (.ref 355) [qv' t, qv' o] σ Q := by
 cases t with
 | none => exact fn_add_none G .none (num_qv o) (.inl rfl) h
 | some k => cases o with
  | none => exact fn_add_none G (num_qv _) .none (.inr rfl) h
  | some m => exact fn_add1 G (ht k rfl) (ho m rfl) h
theorem fn_double_row (G : Good c) {r : Row} {v : V} (hv : v = .lst (r.map qv')) (hz : r.length ≤ 1000) (hb : small r) (h : Q (qv' (sumO (some 0) r)) σ) : FN c 4 (.ref 677) [v] σ Q := by
 subst hv
 refine go_fd_100 G fun A env room ok hs => ?_
 refine loc_fd_100 G hs fun l0 l1 l2 g1 g2 => ?_
 lk
 refine SX_For (I := fun l ρ' σ' => ∃ t m, l = m.map qv' ∧ sumO t m = sumO (some 0) r ∧ (∀ k, t = some k → k.natAbs + 100 * m.length ≤ 100 * r.length) ∧ small m ∧ ρ' 1 = some (qv' t) ∧ σ' = σ) room.handled ?_ ?_ ?_
 ·intro K₀ kI
  lk
  exact ⟨_, .lst _, kI.go _ _ ⟨some 0, r, rfl, rfl, fun k e => by cases e; simp, hb, rfl, rfl⟩⟩
 ·intro v l ρ' σ' hI K₁ K₂ kN kB
  refine exl2 hI fun t m hJ => ?_
  refine andl6 hJ fun e h1 h2 h3 h4 hq5 => ?_
  clear hI hJ
  obtain rfl := hq5
  cases m with
  | nil => cases e
  | cons o m =>
   cases e
   lk
   have ho := h3 o List.mem_cons_self
   refine OPN_at room (fn_add_row G (fun k e => by have := h2 k e; omega) (fun k e => by have := ho k e; omega) ?_)
   lk
   refine ⟨addO t o, m, rfl, h1, fun k e => ?_, fun x hx => h3 x (List.mem_cons_of_mem _ hx), rfl, rfl⟩
   cases t with
   | none => cases e
   | some a => cases o with
    | none => cases e
    | some b =>
     have e1 : a + b = k := Option.some.inj e
     rw [← e1]
     exact step_abs (h2 a rfl) (ho b rfl)
 ·intro ρ' σ' hI
  refine exl2 hI fun t m hJ => ?_
  refine andl6 hJ fun e h1 h2 h3 h4 hq5 => ?_
  clear hI hJ
  obtain rfl := hq5
  cases m with
  | cons o m => cases e
  | nil =>
   rw [← show sumO t [] = t from rfl, h1] at h4
   lk
   exact h
noncomputable def meanV (r : Row) : V := if r = [] then .tup [.int 0, .int 0] else match sumO (some 0) r with | some s => fr s r.length | none => .none
theorem sum_bound : ∀ {r : Row} {t : Option Int} {k : Int}, small r → sumO t r = some k → ∃ a, t = some a ∧ k.natAbs ≤ a.natAbs + 100 * r.length
 | [], t, k, _, e => ⟨k, e, by simp⟩
 | o :: r, t, k, hb, e => by
  obtain ⟨a, h1, h2⟩ := sum_bound (r := r) (fun x hx => hb x (List.mem_cons_of_mem _ hx)) e
  cases t with
  | none => cases h1
  | some b => cases o with
   | none => cases h1
   | some d =>
    have e1 : b + d = a := by simpa [addO] using h1
    have hd := hb _ List.mem_cons_self d rfl
    have ha := Int.natAbs_add_le b d
    rw [e1] at ha
    refine ⟨b, rfl, Nat.le_trans h2 ?_⟩
    rw [List.length_cons, Nat.mul_succ]
    clear e h1 h2 e1 hb
    omega
theorem fn_mean_items (G : Good c) {r : Row} {v : V} (hv : v = .lst (r.map qv')) (hz : r.length ≤ 100) (hb : small r) (h : Q (meanV r) σ) : FN c 5 (.ref 731) [v] σ Q := by
 subst hv
 refine go_fd_108 G fun A env room ok hs => ?_
 refine loc_fd_108 G hs fun l0 g1 g2 g3 g4 g5 => ?_
 lk
 refine tru_L (.inl rfl) (by rw [List.length_map]; omega) ?_
 cases r with
 | nil =>
  lk
  exact h
 | cons o r =>
  lk
  refine OPN_at room (fn_double_row G rfl (by omega) hb ?_)
  lk
  refine bi_len (.inl rfl) (by rw [List.length_map]; omega) ?_
  lk
  refine OPN_at room (fn_from_int G ?_)
  lk
  rw [List.length_map]
  unfold meanV at h
  rw [if_neg (by simp)] at h
  cases hs : sumO (some 0) (o :: r) with
  | none =>
   rw [hs] at h
   exact OPN_at room (fn_div_none G h)
  | some k =>
   rw [hs] at h
   obtain ⟨a, e1, e2⟩ := sum_bound hb hs
   cases e1
   rw [show qv' (some k) = fr k 1 from (fr_one k).symm]
   refine OPN_at room (fn_div G ⟨by simp only [List.length_cons] at *; omega, by decide, by decide⟩ (by simp only [List.length_cons] at *; omega) (by simp only [List.length_cons] at *; omega) ?_)
   rw [Int.one_mul]
   exact h
end
section
variable {c : Cx} {σ : Sto} {Q : V → Sto → Prop}
theorem row_cases (r : Row) : none ∈ r ∨ ∃ xs : List Int, r = xs.map some := by
 induction r with
 | nil => exact .inr ⟨[], rfl⟩
 | cons o r ih =>
  cases o with
  | none => exact .inl List.mem_cons_self
  | some a =>
   rcases ih with h | ⟨xs, rfl⟩
   ·exact .inl (List.mem_cons_of_mem _ h)
   ·exact .inr ⟨a :: xs, rfl⟩
theorem sumO_full (xs : List Int) : ∀ a, sumO (some a) (xs.map some) = some (a + xs.sum) := by
 induction xs with
 | nil => intro a; simp [sumO]
 | cons x xs ih =>
  intro a
  show sumO (addO (some a) (some x)) (xs.map some) = _
  rw [show addO (some a) (some x) = some (a + x) from rfl, ih, List.sum_cons, Int.add_assoc]
theorem sumO_nn : ∀ (r : Row), sumO none r = none
 | [] => rfl
 | o :: r => by
  show sumO (addO none o) r = none
  rw [show addO none o = none from rfl]; exact sumO_nn r
theorem sumO_none {r : Row} (h : none ∈ r) : ∀ t, sumO t r = none := by
 induction r with
 | nil => simp at h
 | cons o r ih =>
  intro t
  rcases List.mem_cons.mp h with rfl | h
  ·show sumO (addO t none) r = none
   rw [show addO t none = none by cases t <;> rfl]; exact sumO_nn r
  ·exact ih h _
theorem mean_none {r : Row} (h : none ∈ r) : meanV r = .none := by
 unfold meanV
 rw [if_neg (fun e => by rw [e] at h; simp at h), sumO_none h]
theorem mean_full {xs : List Int} (h : xs ≠ []) : meanV (xs.map some) = fr xs.sum xs.length := by
 unfold meanV
 rw [if_neg (by simpa using h), sumO_full]
 simp
theorem fn_is_lacking_int (G : Good c) {o : Option Int} (h : Q (.bool o.isNone) σ) : FN c 2 (.ref 651) [.str (S "integer"), ov o] σ Q := by
 refine go_fd_96 G fun A env room ok hs => ?_
 refine loc_fd_96 G hs fun l0 l1 g1 => ?_
 lk
 cases o <;> exact h
theorem fn_lacking_item (G : Good c) {r : Row} {v : V} (hv : v = .lst (r.map qv')) (h : Q (.bool (r.any (·.isNone))) σ) : FN c 2 (.ref 778) [v] σ Q := by
 subst hv
 refine go_fd_115 G fun A env room ok hs => ?_
 refine loc_fd_115 G hs fun l0 l1 g1 => ?_
 refine SS_cons (SX_For (I := fun l ρ' σ' => ∃ m : Row, l = m.map qv' ∧ r.any (·.isNone) = m.any (·.isNone) ∧ σ' = σ) room.handled ?_ ?_ ?_)
 ·intro K₀ kI
  lk
  exact ⟨_, .lst _, kI.go _ _ ⟨r, rfl, rfl, rfl⟩⟩
 ·rintro v l ρ' σ' ⟨m, e, h1, rfl⟩ K₁ K₂ kN kB
  cases m with
  | nil => cases e
  | cons o m =>
   cases e
   lk
   cases o with
   | none =>
    refine OPN_at room (fn_is_na_none G ?_)
    lk
    rw [h1] at h
    exact h
   | some i =>
    refine OPN_at room (fn_is_na G (by decide) ?_)
    lk
    exact ⟨m, rfl, h1, rfl⟩
 ·rintro ρ' σ' ⟨m, e, h1, rfl⟩
  cases m with
  | cons o m => cases e
  | nil =>
   lk
   rw [h1] at h
   exact h
theorem fm_filter (r : Row) : (r.map ov).filterMap (fun v => if (match v with | .none => true | _ => false) = true then none else some v) = (r.filter (·.isSome)).map ov := by
 induction r with
 | nil => rfl
 | cons o r ih => cases o <;> simp_all [ov]
theorem fn_without_lacking (G : Good c) {r : Row} {b : Bool} {v : V} (hv : v = ivec r) (hz : r.length ≤ 1000) (h : Q (ivec (if b = true then r.filter (·.isSome) else r)) σ) : FN c 3 (.ref 821) [v, .bool b] σ Q := by
 subst hv
 refine go_fd_123 G fun A env room ok hs => ?_
 refine loc_fd_123 G hs fun l0 l1 g1 => ?_
 lk
 cases b with
 | false =>
  lk
  exact h
 | true =>
  lk
  refine EV_ListCompF (J := fun ρ' => ρ' 3 = some (ivec r)) (ρl := [none, none, none, some (ivec r)]) (fun v => if (match v with | .none => true | _ => false) = true then none else some v) room.handled ok ⟨rfl, by decide +kernel, by decide +kernel⟩ ?_ rfl ?_
  ·exact ⟨rfl, rfl, rfl, ⟨0, .inl l0, rfl⟩, trivial⟩
  lk
  refine ⟨_, .lst _, by rw [List.length_map]; omega, ⟨?_⟩, ?_⟩
  ·intro cenv hcs okc σ' ρ' v hv hJ _
   have e : cenv.scope.names = [(S ".0", .local), (S "item", .local), (S "is_lacking", .globalImplicit), (S "v", .cell)] := by rw [hcs]; simp [relabel, ok.kind, l0.1.1]
   have l1 : LocAt cenv 1 (S "item") .local := LocAt_of e (by decide +kernel) rfl (by decide +kernel)
   have l3 : LocAt cenv 3 (S "v") .cell := LocAt_of e (by decide +kernel) rfl (by decide +kernel)
   have g2 : GlobAt c cenv (S "is_lacking") (.val (.ref 651)) := Glob_of e (by decide +kernel) (gv_is_lacking G) (by decide +kernel)
   obtain ⟨o, ho, rfl⟩ := List.mem_map.mp hv
   lk
   refine ⟨hJ, rfl, TS_one ?_⟩
   lk
   refine OPN_at room (fn_is_lacking_int G ?_)
   lk
   refine ⟨rfl, ?_⟩
   cases o with
   | none => rfl
   | some i =>
    lk
    exact ⟨rfl, rfl⟩
  ·rw [fm_filter]
   lk
   exact mk_vec G room h
end
section
variable {c : Cx} {σ : Sto} {Q : V → Sto → Prop}
noncomputable def tiny (xs : List Int) : Prop := ∀ x ∈ xs, x.natAbs ≤ 20
theorem tiny_sum : ∀ {xs : List Int}, tiny xs → xs.sum.natAbs ≤ 20 * xs.length
 | [], _ => by simp
 | x :: xs, h => by
  rw [List.sum_cons, Int.add_comm]
  exact more_abs (tiny_sum (xs := xs) fun y hy => h y (List.mem_cons_of_mem _ hy)) (h x List.mem_cons_self)
theorem qv_somes (xs : List Int) : (xs.map some).map qv' = ones xs := by rw [List.map_map]; rfl
noncomputable def devs (n S T : Int) : List (Int × Int) → Int
 | [] => 0
 | p :: l => (n * p.1 - S) * (n * p.2 - T) + devs n S T l
theorem fr_zero {d : Int} (h : 0 < d) : fr 0 d = .tup [.int 0, .int 1] := by
 unfold fr red
 rw [show (Int.gcd 0 d : Int) = d by rw [Int.gcd_zero_left]; omega]
 rw [Int.zero_ediv, Int.ediv_self (Int.ne_of_gt h)]
theorem gap_bound {n x S : Int} (hn : 0 < n) (hn' : n ≤ 6) (hx : x.natAbs ≤ 20) (hS : S.natAbs ≤ 120) : (n * x - S).natAbs ≤ 240 := by
 have := nat_mul_le (x := n) (y := x) (m := 6) (n := 20) (by omega) hx
 omega
theorem prod_bound {a b : Int} (ha : a.natAbs ≤ 240) (hb : b.natAbs ≤ 240) : (a * b).natAbs ≤ 57600 := nat_mul_le ha hb
theorem fn_gap (G : Good c) {n S x : Int} (hn : 0 < n) (hn' : n ≤ 6) (hx : x.natAbs ≤ 20) (hS : S.natAbs ≤ 120) (h : Q (fr (n * x - S) n) σ) : FN c 4 (.ref 362) [.tup [.int x, .int 1], fr S n] σ Q := by
 rw [← fr_one]
 refine fn_sub G ⟨by omega, by decide, by decide⟩ ⟨by omega, hn, by omega⟩ ?_
 rw [Int.one_mul, Int.mul_one, Int.mul_comm x n, ← Int.sub_eq_add_neg]
 exact h
theorem fn_turn (G : Good c) {n N M : Int} (hn : 0 < n) (hn' : n ≤ 6) (hN : N.natAbs ≤ 1000000) (hM : M.natAbs ≤ 1000000) (h : Q (fr (N + M) (n * n)) σ) : FN c 3 (.ref 355) [fr N (n * n), fr M (n * n)] σ Q := by
 have hnn : 0 < n * n := mul_pos' hn hn
 have := nat_mul_le (x := n) (y := n) (m := 6) (n := 6) (by omega) (by omega)
 refine fn_add G ⟨hN, hnn, by omega⟩ ⟨hM, hnn, by omega⟩ ?_
 rw [← Int.add_mul]
 unfold fr
 rw [red_scale' hnn hnn]
 exact h
theorem fn_last (G : Good c) {n N : Int} (hn : 1 < n) (hn' : n ≤ 6) (hN : N.natAbs ≤ 1000000) (h : Q (fr N (n * n * (n - 1))) σ) : FN c 3 (.ref 376) [fr N (n * n), .tup [.int (n - 1), .int 1]] σ Q := by
 have hnn : 0 < n * n := mul_pos' (by omega) (by omega)
 have := nat_mul_le (x := n) (y := n) (m := 6) (n := 6) (by omega) (by omega)
 exact fn_div G ⟨hN, hnn, by omega⟩ (by omega) (by omega) h
noncomputable def varV (r : Row) : V := if r.length < 2 then .none else if none ∈ r then .none else
 let xs := r.filterMap id
 let n : Int := xs.length
 fr (devs n xs.sum xs.sum (xs.map fun x => (x, x))) (n * n * (n - 1))
theorem fm_some (xs : List Int) : (xs.map some).filterMap id = xs := by
 induction xs with
 | nil => rfl
 | cons x xs ih => simp
theorem fn_var_of (G : Good c) {r : Row} {v : V} (hv : v = ivec r) (hz : r.length ≤ 6) (hb : ∀ o ∈ r, ∀ i, o = some i → i.natAbs ≤ 20) (h : Q (varV r) σ) : FN c 6 (.ref 738) [v] σ Q := by
 subst hv
 have hsm : small r := fun o ho i e => by have := hb o ho i e; omega
 refine go_fd_109 G fun A env room ok hs => ?_
 refine loc_fd_109 G hs fun l0 l1 l2 l3 l4 l5 g1 g2 g3 g4 g5 g6 g7 g8 g9 => ?_
 lk
 refine OPN_at room (fn_number_items G rfl (by omega) ?_)
 lk
 refine bi_lenN (.inl rfl) (List.length_map _) (by omega) ?_
 lk
 unfold varV at h
 refine ite_dec (fun hl => ?_) fun hl => ?_
 ·lk
  rw [if_pos (by omega)] at h
  exact h
 rw [if_neg (by omega)] at h
 lk
 refine OPN_at room (fn_mean_items G rfl (by omega) hsm ?_)
 rcases row_cases r with hn | ⟨xs, rfl⟩
 ·rw [if_pos hn] at h
  rw [mean_none hn]
  lk
  refine SX_For (I := fun l ρ' σ' => ∃ (m : Row) (t : V), l = m.map qv' ∧ ρ' 2 = some .none ∧ ρ' 3 = some t ∧ Num t ∧ (m.length < r.length → t = .none) ∧ ρ' 1 = some (.lst (r.map qv')) ∧ σ' = σ) room.handled ?_ ?_ ?_
  ·intro K₀ kI
   lk
   exact ⟨_, .lst _, kI.go _ _ ⟨r, _, rfl, rfl, rfl, .frac (by decide), fun e => absurd e (Nat.lt_irrefl _), rfl, rfl⟩⟩
  ·intro v l ρ' σ' hI K₁ K₂ kN kB
   refine exl2 hI fun m t hJ => ?_
   refine andl7 hJ fun e h1 h2 h3 h4 h5 hq6 => ?_
   clear hI hJ
   obtain rfl := hq6
   cases m with
   | nil => cases e
   | cons o m =>
    cases e
    lk
    refine OPN_at room (fn_sub_none G (num_qv o) .none (.inr rfl) ?_)
    lk
    refine OPN_at room (fn_mul_none G .none .none (.inl rfl) ?_)
    lk
    refine OPN_at room (fn_add_none G h3 .none (.inr rfl) ?_)
    lk
    exact ⟨m, _, rfl, h1, rfl, .none, fun zz => rfl, h5, rfl⟩
  ·intro ρ' σ' hI
   refine exl2 hI fun m t hJ => ?_
   refine andl7 hJ fun e h1 h2 h3 h4 h5 hq6 => ?_
   clear hI hJ
   obtain rfl := hq6
   cases m with
   | cons o m => cases e
   | nil =>
    have := h4 (by simp only [List.length_nil]; omega)
    subst this
    lk
    refine bi_len (.inl rfl) (by rw [List.length_map]; omega) ?_
    lk
    refine OPN_at room (fn_from_int G ?_)
    lk
    exact OPN_at room (fn_div_none G h)
 ·have hnn : none ∉ xs.map some := by simp
  rw [if_neg hnn, fm_some] at h
  rw [List.length_map] at hl hz
  have hne : xs ≠ [] := fun e => by rw [e] at hl; simp at hl
  have ht : tiny xs := fun x hx => hb _ (List.mem_map.mpr ⟨x, hx, rfl⟩) x rfl
  have hS := tiny_sum ht
  rw [mean_full hne]
  have hn1 : (0 : Int) < xs.length := by omega
  have hn6 : (xs.length : Int) ≤ 6 := by omega
  have hnn2 := mul_pos' hn1 hn1
  lk
  refine SX_For (I := fun l ρ' σ' => ∃ (m : List Int) (N : Int), l = ones m ∧ ρ' 2 = some (fr xs.sum xs.length) ∧ ρ' 3 = some (fr N (xs.length * xs.length)) ∧ N + devs xs.length xs.sum xs.sum (m.map fun x => (x, x)) = devs xs.length xs.sum xs.sum (xs.map fun x => (x, x)) ∧
   N.natAbs + 57600 * m.length ≤ 57600 * xs.length ∧ tiny m ∧ ρ' 1 = some (.lst ((xs.map some).map qv')) ∧ σ' = σ) room.handled ?_ ?_ ?_
  ·intro K₀ kI
   lk
   refine ⟨_, .lst _, kI.go _ _ ⟨xs, 0, qv_somes xs, rfl, by rw [fr_zero hnn2]; rfl, by simp, by simp, ht, rfl, rfl⟩⟩
  ·intro v l ρ' σ' hI K₁ K₂ kN kB
   refine exl2 hI fun m N hJ => ?_
   refine andl8 hJ fun e h1 h2 h3 h4 h5 h6 hq7 => ?_
   clear hI hJ
   obtain rfl := hq7
   cases m with
   | nil => cases e
   | cons x m =>
    cases e
    have hx := h5 x List.mem_cons_self
    have gb := gap_bound hn1 hn6 hx (S := xs.sum) (by omega)
    have pb := prod_bound gb gb
    simp only [List.length_cons] at h4
    lk
    refine OPN_at room (fn_gap G hn1 hn6 hx (by omega) ?_)
    lk
    refine OPN_at room (fn_mul G ⟨by omega, hn1, by omega⟩ ⟨by omega, hn1, by omega⟩ ?_)
    lk
    refine OPN_at room (fn_turn G hn1 hn6 (by omega) (by omega) ?_)
    lk
    refine ⟨m, _, rfl, h1, rfl, ?_, ?_, fun y hy => h5 y (List.mem_cons_of_mem _ hy), h6, rfl⟩
    ·rw [← h3]
     show _ = N + ((_ * x - _) * (_ * x - _) + _)
     rw [Int.add_assoc]
    ·exact step_abs h4 pb
  ·intro ρ' σ' hI
   refine exl2 hI fun m N hJ => ?_
   refine andl8 hJ fun e h1 h2 h3 h4 h5 h6 hq7 => ?_
   clear hI hJ
   obtain rfl := hq7
   cases m with
   | cons o m => cases e
   | nil =>
    have hN : N = devs xs.length xs.sum xs.sum (xs.map fun x => (x, x)) := by rw [← h3]; simp [devs]
    lk
    refine bi_len (.inl rfl) (by simp only [List.length_map]; omega) ?_
    lk
    refine OPN_at room (fn_from_int G ?_)
    lk
    simp only [List.length_map]
    refine OPN_at room (fn_last G (by omega) hn6 (by simp only [List.length_nil] at h4; omega) ?_)
    rw [hN]
    exact h
end
section
noncomputable def plD : Arguments × List Stmt × Scope := match (fd 114).2.1 with
 | [_, _, .FunctionDef _ a b _ _ _ sc _ _ _, _] => (a, b, sc)
 | _ => (fd 114)
theorem nm_plD : plD.2.2.names = [(S "item", .local), (S "scale", .free)] := by kernel_rfl
section
variable {c : Cx} {A : Around} {env : Env} {F : Prt} {ρ : Loc} {σ : Sto}
theorem place_body {A : Around} {env : Env} {n : Nat} (room : Room n A) (ok : EnvOk env) (l0 : LocAt env 0 (S "item") .local) (l1 : LocAt env 1 (S "scale") .free) {k : Int} (hk : Sm k) :
  SS c A env false (fun zz zz => False) (fun zz zz => False) (fun v σ' => v = .tup [.int 0, .int k] ∧ σ' = σ) No (fun zz zz => False) plD.2.1 (fun j => ([.tup [.int k, .int 1], .int 1] : List V)[j]?) σ := by
 lk
 refine op_div (by decide) (Sm.div (by unfold Sm; decide)) ?_
 lk
 refine op_mul (Sm.mul hk) ?_
 lk
 exact ⟨by rw [show (1 : Int).fdiv 1 = 1 from rfl, Int.mul_one], rfl⟩
theorem place_run {n : Nat} {P : Prt} {s : Shared} {E : Value → Shared → Prop} (R : Rep c env true F P ρ σ s) (room : Room (n + 1) A) {f a cv : Addr} {doc pm ctv : Value} {oc : Obj} {vs : Array Value} {t : Tok} {qual nm : Str} {i : Nat}
  (hf : P f (fnMade nm qual plD.1 plD.2.1 plD.2.2 [(S "scale", a)] doc pm cv ctv)) (hc : P cv oc) (hcd : oc.data = .fields vs) (hq : vs[1]? = some (.str qual t))
  (hi : CellAt env i (S "scale")) (ha : env.cells.lookup (S "scale") = some a) (hρ : ρ i = some (.int 1)) {x : Value} {k : Int} (hk : Sm k) (hx : VR c.w.params P (.tup [.int k, .int 1]) x) :
  wpAny (MM c) A (call (.ref f) [x]) (fun y s'' => ∃ P'', PLe P P'' ∧ Rep c env true F P'' ρ σ s'' ∧ VR c.w.params P'' (.tup [.int 0, .int k]) y) E s := by
 refine wpAny_call ?_
 refine codeAny_call_function (by have := room.depth; omega) (R.toC.sub _ _ hf) rfl (by kernel_rfl) (by kernel_rfl) rfl ⟨cv, oc, vs, t, rfl, R.toC.sub _ _ hc, hcd, hq⟩ ?_
 rw [show bindArgs _ ⟨[x], []⟩ = pure [(S "item", x)] from rfl]
 refine wpAny_pure ?_
 have nm := nm_plD
 refine wpAny_newFunctionEnv (fun y hy => ?_) (fun y hy => ?_) (fun h' hns hsb => ?_) (by kernel_rfl)
 ·show y.2 ≠ .cell
  have hy : y ∈ plD.2.2.names := hy
  rw [nm] at hy
  rcases List.mem_cons.mp hy with rfl | hy
  ·decide
  ·rcases List.mem_cons.mp hy with rfl | hy
   ·decide
   ·simp at hy
 ·rw [List.mem_singleton] at hy
  subst hy
  show plD.2.2.names.lookup (S "item") = some .local
  rw [nm]; decide +kernel
 generalize hL : s.heap.objs.size = L at hns hsb ⊢
 have C := R.enter
 have old : ∀ b o, s.heap.get? b = some o → h'.get? b = some o := fun b o e => hsb.extBut b o (Nat.ne_of_lt (hL ▸ Heap.lt_size e)) (Heap.get?_push_of_some _ e)
 have C₁ := C.grow (h' := h') (t := s.toks + 1) old
 have new := C.new (a := L) (by omega)
 obtain ⟨a', w, h1, ⟨ob, hob, hobd⟩, h3⟩ := R.toL.cell i _ hi
 rw [ha] at h1; cases h1
 rw [hρ] at h3
 generalize he : newEnv _ L _ _ _ _ _ _ _ = env'
 have hsc : env'.scope = plD.2.2 := by rw [← he]; rfl
 have hlo : env'.locals = L := by rw [← he]; rfl
 have hce : env'.cells = [(S "scale", a)] := by rw [← he]; rfl
 have ok : EnvOk env' := ⟨by rw [hsc]; kernel_rfl, by rw [← he]; rfl, by rw [← he]; rfl⟩
 have en : env'.scope.names = [(S "item", .local), (S "scale", .free)] := by rw [hsc]; exact nm
 have nd : (([(S "item", .local), (S "scale", .free)] : List (Str × NameKind)).map (·.1)).Nodup := by decide +kernel
 have l0 : LocAt env' 0 (S "item") .local := LocAt_of en nd rfl (by decide +kernel)
 have l1 : LocAt env' 1 (S "scale") .free := LocAt_of en nd rfl (by decide +kernel)
 have R' : Rep c env' false (FF F env true s.heap) P (fun j => ([.tup [.int k, .int 1], .int 1] : List V)[j]?) σ { s with heap := h', toks := s.toks + 1 } := by
  refine ⟨C₁, ⟨⟨_, by rw [hlo]; exact hns, ?_⟩, by rw [hlo]; exact new.2.1, by rw [hlo]; exact new.2.2.1, by rw [hlo]; exact new.1, by rw [hlo]; exact new.2.2.2, ?_, (fun h => by cases h), ?_⟩⟩
  ·intro j z hz
   have h2 := hz.2.1
   rw [en] at h2
   match j, h2 with
   | 0, h2 =>
    simp only [List.getElem?_cons_zero, Option.some.injEq, Prod.mk.injEq] at h2
    rw [← h2.1]
    show Slot _ _ (some _) (List.lookup (S "item") [(S "item", x)])
    rw [show List.lookup (S "item") [(S "item", x)] = some x from rfl]
    exact hx
   | 1, h2 => simp at h2
  ·intro j z hz
   have h2 : ∃ k, ([(S "item", .local), (S "scale", .free)] : List (Str × NameKind))[j]? = some (z, k) ∧ k ≠ .local := by
    rcases hz with hz | hz
    ·exact ⟨_, by rw [← en]; exact hz.2.1, by decide⟩
    ·exact ⟨_, by rw [← en]; exact hz.2.1, by decide⟩
   obtain ⟨k', h2, hk⟩ := h2
   match j, h2 with
   | 0, h2 =>
    simp only [List.getElem?_cons_zero, Option.some.injEq, Prod.mk.injEq] at h2
    exact absurd h2.2.symm hk
   | 1, h2 =>
    simp only [List.getElem?_cons_succ, List.getElem?_cons_zero, Option.some.injEq, Prod.mk.injEq] at h2
    rw [← h2.1, hce]
    exact ⟨a, w, rfl, ⟨ob, old _ _ hob, hobd⟩, h3⟩
  ·intro _ j z hz b hb
   rw [hce] at hb
   have e : b = a := by
    unfold List.lookup at hb
    split at hb
    ·cases hb; rfl
    ·cases hb
   subst e
   exact ⟨ob, .inr ⟨hob, .inr ⟨rfl, i, _, hi, ha⟩⟩⟩
 refine ⟨c.hlim.keeps R'.kept, codeAny_func ?_⟩
 refine wpAny_mono ((place_body (room.deeper env') ok l0 l1 hk).run _ P _ R') ?_ fun zz zz x => (PX.no x).elim
 rintro fl s₂ ⟨P₂, ρ₂, σ₂, le₂, R₂, q⟩
 cases fl with
 | next => exact q.elim
 | brk => exact q.elim
 | cont => exact q.elim
 | ret v =>
  obtain ⟨V, rv, rfl, rfl⟩ := q
  exact ⟨P₂, le₂, R.back R₂.toC le₂, rv⟩
theorem Rep.tabGrow {P : Prt} {s : Shared} (R : Rep c env true F P ρ σ s) {h' : Heap} {t : Nat} (hx : Heap.ExtBut c.tabA s.heap h') {c' : Addr} {oc : Obj} (hge : s.heap.objs.size ≤ c') (hoc : h'.get? c' = some oc) {ps : Array Value}
  (htb : h'.get? c.tabA = some (tabObj ps)) (hok : TabOk c (addP P c' oc) ps) : Rep c env true F (addP P c' oc) ρ σ { s with heap := h', toks := t } := by
 have new := R.toC.new hge
 have C := R.toC
 refine ⟨⟨?_, fun a o p => ?_, fun a o e => .inl (C.base a o e), ?_, ?_, ?_, ⟨ps, htb, hok⟩, C.tabσ, ?_, C.gens, C.os⟩, R.toL.move (addP_le _ _ _) (fun o h => .rfl (hx _ o R.toL.offT h)) (fun i x a hi ha o h => .rfl (hx _ o (R.toL.cown rfl i x hi a ha).2.2.2.2.1 h)) ?_ R.toL.offF R.toL.offσ ?_ fun h => by cases h⟩
 ·rintro b o (p | ⟨rfl, rfl⟩)
  ·exact hx b o (fun e => C.tabP o (e ▸ p)) (C.sub b o p)
  ·exact hoc
 ·obtain ⟨sl, e, z⟩ := C.subF a o p
  exact ⟨sl, hx a _ (C.offF a o p).2.2 e, z⟩
 ·rintro a x e o (p | ⟨rfl, rfl⟩)
  ·exact C.off a x e o p
  ·rw [new.1] at e; cases e
 ·rintro a o p
  obtain ⟨k1, k2, k3⟩ := C.offF a o p
  refine ⟨k1, ?_, k3⟩
  rintro o' (q | ⟨rfl, rfl⟩)
  ·exact k2 o' q
  ·exact new.2.2.1 o p
 ·intro a x e
  obtain ⟨o, h1, h2⟩ := C.obj a x e
  exact ⟨o, hx a o (fun q => by rw [q, C.tabσ] at e; cases e) h1, h2.mono (addP_le _ _ _)⟩
 ·rintro o (p | ⟨e, _⟩)
  ·exact C.tabP o p
  ·exact new.2.2.2 e.symm
 ·rintro o (p | ⟨e, _⟩)
  ·exact R.toL.offP o p
  ·exact Nat.ne_of_lt (Nat.lt_of_lt_of_le R.toL.lt hge) e
 ·intro ho i x a hi ha
  obtain ⟨k1, k2, k3⟩ := R.toL.out ho i x a hi ha
  refine ⟨?_, k2, k3⟩
  rintro o (p | ⟨e, _⟩)
  ·exact k1 o p
  ·exact Nat.ne_of_lt (Nat.lt_of_lt_of_le (R.toL.cell_lt hi ha) hge) e
theorem code_hd (G : Good c) : CodeHd c.g 770 c.tabA := by
 rw [G.tA]
 exact ⟨_, _, _, _, _, _, _, _, _, G.g 770 (o770 c.w.params) (by kernel_rfl) (by decide), rfl, rfl, rfl, rfl, rfl, rfl, rfl, rfl, by decide⟩
theorem bmod_at (G : Good c) {h : Heap} (k : ∀ b o, c.g.get? b = some o → h.get? b = some o) : h.BuiltinsAt c.mg c.tabA := by
 rw [G.tA]
 exact ⟨4, o4 c.w.params, by rw [G.mg]; kernel_rfl, by decide, by decide, by decide, k _ _ (G.g 4 _ (by kernel_rfl) (by decide)), rfl, rfl, rfl⟩
theorem mk_place (G : Good c) (ok : EnvOk env) {P : Prt} {s : Shared} {E : Value → Shared → Prop} (R : Rep c env true F P ρ σ s) (hcode : env.code = .ref 770) {nm : Str} {params : Arguments} {body : List Stmt} {scope : Scope} {pos : Pos}
  (h1 : (pos.line : Int) = c.tabL) (h2 : (pos.col : Int) = c.tabC) {clos : List (Str × Addr)} (hcl : closureFor scope env = pure clos) {Q : Value → Shared → Prop}
  (h : ∀ f P' s' cv doc pm ctv oc vs t, PLe P P' → Rep c env true F P' ρ σ s' → P' f (fnMade nm c.tabQ params body scope clos doc pm cv ctv) → P' cv oc → oc.data = .fields vs → vs[1]? = some (.str c.tabQ t) → Q (.ref f) s') :
  wpAny (MM c) A (makeFunction nm c.tabQ params (.stmts body) scope env [] [] [] pos pos.line) Q E s := by
 obtain ⟨ps, hps, tok⟩ := R.toC.tab
 have hg := c.hg.keeps R.kept
 have C := (code_hd G).keeps R.kept
 have hb := bmod_at G R.kept
 rcases tok with rfl | ⟨cv, oc, vs, t, rfl, pcv, hd, hv⟩
 ·have hgP : mainGlobals ≠ c.tabA := by rw [G.tA]; decide
  refine makeFunction_K (mg := c.mg) hcl ok.globals hg hcode C hps trivial rfl hgP hb fun c' ctv doc h' tk hx hge hlt hrec htb => ?_
  obtain ⟨c₂, oc, vs, t, e2, hoc, hd, hv⟩ := hrec
  cases e2
  rw [h1, h2] at htb
  have htb' : h'.get? c.tabA = some (tabObj #[rawInt c.tabL, rawInt c.tabC, .ref c']) := by rw [htb, Array.empty_append]
  have R1 := R.tabGrow (t := s.toks) hx hge hoc htb' (.inr ⟨c', oc, vs, t, rfl, addP_self _ _ _, hd, hv⟩)
  have R2 := (R1.pushP (fnMade nm c.tabQ params body scope clos doc ((c.mg "__name__").getD .none) c' ctv) rfl).toks tk
  exact h _ _ _ c' doc _ ctv oc vs t ((addP_le _ _ _).trans (addP_le _ _ _)) R2 (addP_self _ _ _) (.inl (addP_self _ _ _)) hd hv
 ·refine makeFunction_hit (mg := c.mg) hcl ok.globals hg hcode C hps (by simp [TriplesOk, rawInt]) (cv := .ref cv) (by rw [← h1, ← h2]; simp [codeAmong, rawInt]) hb fun ctv doc h' tk hk hsz => ?_
  have R1 := R.grow (h' := h') (t := s.toks) hk
  have R2 := (R1.pushP (fnMade nm c.tabQ params body scope clos doc ((c.mg "__name__").getD .none) cv ctv) rfl).toks tk
  exact h _ _ _ cv doc _ ctv oc vs t (addP_le _ _ _) R2 (addP_self _ _ _) (.inl pcv) hd hv
theorem SS_placeDef {X : XP} {N B C : Loc → Sto → Prop} {T : V → Sto → Prop} {st : Stmt} {params : Arguments} {body : List Stmt} {scope : Scope} {pos : Pos} (G : Good c) (ok : EnvOk env) (hcode : env.code = .ref 770) (hq : env.qual = Str.ofString "ascending" ++ ".<locals>.")
  (l2 : LocAt env 2 (S "place") .local) (l3 : LocAt env 3 (S "scale") .cell) (hp : (params, body, scope) = plD) (h1 : (pos.line : Int) = 757) (h2 : (pos.col : Int) = 4)
  (h : ∀ F P s f a cv doc pm ctv oc vs t, Rep c env true F P (upl ρ 2 (.ref f)) σ s → P f (fnMade (S "place") c.tabQ plD.1 plD.2.1 plD.2.2 [(S "scale", a)] doc pm cv ctv) → P cv oc → oc.data = .fields vs → vs[1]? = some (.str c.tabQ t) → env.cells.lookup (S "scale") = some a →
   wpAny (MM c) A (execs [st] env) (PF c env true F P N B C T) (PX X F P) s) :
  SS c A env true B C T X N [.FunctionDef (S "place") params body [] none [] scope none (S "place") pos, st] ρ σ := by
 have e1 : params = plD.1 := by rw [← hp]
 have e2 : body = plD.2.1 := by rw [← hp]
 have e3 : scope = plD.2.2 := by rw [← hp]
 subst e1 e2 e3
 have qe : qualnameIn env (S "place") (S "place") = c.tabQ := by
  unfold qualnameIn
  rw [l2.1.1, if_neg (by decide), hq, G.tQ]
 refine .mk fun F P s R => ?_
 obtain ⟨a, w, ha, -, -⟩ := R.toL.cell 3 _ (.inl l3)
 have hcl : closureFor plD.2.2 env = pure [(S "scale", a)] := by
  rw [closureFor_of (fun x hx => ?_), nm_plD]
  ·simp [closOf, ha]
  ·rw [nm_plD] at hx
   simp at hx
   subst hx
   rw [ha]; rfl
 refine wpAny_execs_cons (@nestDef_K _ _ _ _ _ _ _ _ _ _ _ (by kernel_rfl) (by kernel_rfl) (by kernel_rfl) ?_)
 rw [qe]
 refine mk_place G ok R hcode (by rw [h1, G.tL]) (by rw [h2, G.tC]) hcl fun f P' s' cv doc pm ctv oc vs t le R' pf pc hd hv => ?_
 refine wpAny_mono (store_local (QU := fun ρ' σ' => ρ' = upl ρ 2 (.ref f) ∧ σ' = σ) ok l2 R' (v := .ref f) rfl ⟨rfl, rfl⟩) ?_ fun zz zz x => x
 rintro _ s₂ ⟨P₂, ρ₂, σ₂, le₂, R₂, rfl, rfl⟩
 exact wpAny_mono (h F P₂ s₂ f a cv doc pm ctv oc vs t R₂ (le₂ _ _ pf) (le₂ _ _ pc) hd hv ha) (fun zz zz x => x.of (le.trans le₂)) fun zz zz x => x.of (le.trans le₂)
theorem ret_run {X : XP} {N B C : Loc → Sto → Prop} {T : V → Sto → Prop} {e : Expr} {pos : Pos} {P : Prt} {s : Shared} (h : wpAny (MM c) A (eval e env) (PV c env true F ρ P T) (PX X F P) s) :
  wpAny (MM c) A (execs [.Return (some e) pos] env) (PF c env true F P N B C T) (PX X F P) s := by
 refine wpAny_execs_cons (wpAny_Return_some (wpAny_mono h ?_ fun zz zz x => x))
 rintro v s₁ ⟨P₁, V, σ₁, le, R, rv, q⟩
 exact ⟨P₁, ρ, σ₁, le, R, V, rv, q⟩
theorem Room.in11 {n : Nat} (r : Room (n + 1) A) : Room n A.in1.in1 := ⟨r.handled, by have := r.depth; show A.depth + n < _; omega, by have := r.units; show A.units + 1 + 1 + 8 * n + 8 < _; omega⟩
theorem go_fd_114C (G : Good c) {n : Nat} {σ : Sto} {Q : V → Sto → Prop} {v0 : V} (hrun : ∀ A env, Room n A → EnvOk env → env.scope = (fd 114).2.2 → env.code = .ref 770 ∧ env.qual = Str.ofString "ascending" ++ ".<locals>." → SS c A env true (fun zz zz => False) (fun zz zz => False) Q No (fun zz σ' => Q .none σ') (fd 114).2.1 (fun i => ([v0] : List V)[i]?) σ) : FN c (n + 1) (.ref 771) [v0] σ Q := by
 refine FN_goC G (by kernel_rfl : (H1 c.w.params).get? 771 = some (fno "ascending" "ascending" (fd 114) .none (vs "vectorcove.summaries" 1024) (.ref 770))) (by kernel_rfl : (H1 c.w.params).get? 770 = some (cdo ((vs "ascending" 1200) :: .str (Str.ofString "ascending") 1201 :: [(vs "/claim/cut.py" 1202), (vi 749 0), (vi 1 0), (vi 0 0), (vi 0 0), (vi 3 0), (vr 765), (.bool true), (vi 181 0), (vr 766), .none, (vr 767), (vr 768), (vr 769), (vi 1207 0), (vi 749 0), (vs "/claim/cut.py" 1208)]))) rfl fi_fd_114 (by kernel_rfl) (by kernel_rfl) (by kernel_rfl) rfl ?_ hrun
 rintro fd o s P xs rfl hd - - r
 cases hd
 exact bind1 (fun zz => rfl) rfl r
theorem fn_ascending {Q : V → Sto → Prop} (G : Good c) {ns : List Int} {v : V} (hv : v = .lst (ns.map fun i => qv' (some i))) (hz : ns.length ≤ 6) (hsm : ∀ i ∈ ns, Sm i)
  (h : ∀ ns' : List Int, ns'.Perm ns → ns'.Pairwise (· ≤ ·) → Q (.lst (ns'.map fun i => qv' (some i))) σ) : FN c 3 (.ref 771) [v] σ Q := by
 subst hv
 refine go_fd_114C G fun A env room ok hs ce => ?_
 refine loc_fd_114 G hs fun l0 l1 l2 l3 g1 g2 g3 => ?_
 lk
 refine SX_For (I := fun ls ρ' σ' => ∃ m : List Int, ls = m.map (fun i => qv' (some i)) ∧ ρ' 0 = some (.lst (ns.map fun i => qv' (some i))) ∧ ρ' 3 = some (.int 1) ∧ σ' = σ) room.handled ?_ ?_ ?_
 ·intro K₀ kI
  lk
  exact ⟨_, .lst _, kI.go _ _ ⟨ns, rfl, rfl, rfl, rfl⟩⟩
 ·intro v ls ρ' σ' hI K₁ K₂ kN kB
  refine exl1 hI fun m hJ => ?_
  refine andl4 hJ fun e h0 h3 hq3 => ?_
  clear hI hJ
  obtain rfl := hq3
  match m, e with
  | i :: m, e =>
   simp only [List.map_cons, List.cons.injEq] at e
   obtain ⟨rfl, rfl⟩ := e
   unfold qv'
   lk
   refine op_mod (by decide) ?_
   lk
   exact ⟨m, rfl, h0, h3, rfl⟩
 ·intro ρ' σ' hI
  refine exl1 hI fun m hJ => ?_
  refine andl4 hJ fun e h0 h3 hq3 => ?_
  clear hI hJ
  obtain rfl := hq3
  refine SS_placeDef G ok ce.1 ce.2 l2 l3 (by kernel_rfl) rfl rfl fun F P s f a cv doc pm ctv oc vs t R pf pc hd hv ha => ?_
  refine ret_run (ρ := upl ρ' 2 (.ref f)) ?_
  have ln : (ns.map fun i => qv' (some i)).length = ns.length := List.length_map ..
  refine sortedE_run (l := ns.map fun i => qv' (some i)) (k := fun i => ns.getD i 0) R (by lk; exact ⟨rfl, rfl⟩) (by lk; exact ⟨rfl, rfl⟩) (by lk; exact ⟨rfl, rfl⟩) (by omega) ?_ ?_
  ·intro F' P' σ₂ s' i v x le R' hi rx
   rw [List.getElem?_map] at hi
   obtain ⟨z, hz', rfl⟩ := Option.map_eq_some_iff.mp hi
   have e : ns.getD i 0 = z := by rw [List.getD_eq_getElem?_getD, hz']; rfl
   show wpAny _ _ _ (fun y s'' => ∃ P'', PLe P' P'' ∧ Rep c env true F' P'' (upl ρ' 2 (V.ref f)) σ₂ s'' ∧ VR c.w.params P'' (.tup [.int 0, .int (ns.getD i 0)]) y) _ _
   rw [e]
   exact place_run R' room.in11 (le _ _ pf) (le _ _ pc) hd hv (.inl l3) ha h3 (hsm z (List.mem_of_getElem? hz')) rx
  ·rw [ln]
   have ks := kas_sorted hz (fun i => ns.getD i 0)
   have pm : (ordK (fun i => ns.getD i 0) ns.length).Perm (List.range ns.length) := ks.1
   have e : ((ordK (fun i => ns.getD i 0) ns.length).map fun i => (ns.map fun i => qv' (some i)).getD i .none) = ((ordK (fun i => ns.getD i 0) ns.length).map fun i => ns.getD i 0).map fun i => qv' (some i) := by
    rw [List.map_map]
    refine List.map_congr_left fun i hi => ?_
    have hi' : i < ns.length := List.mem_range.mp (pm.mem_iff.mp hi)
    rw [List.getD_eq_getElem?_getD, List.getElem?_map]
    show _ = qv' (some (ns.getD i 0))
    rw [List.getD_eq_getElem?_getD, List.getElem?_eq_getElem hi']; rfl
   rw [e]
   refine h _ ((pm.map _).trans (List.Perm.of_eq ?_)) ?_
   ·refine List.ext_getElem (by simp) fun i h1 h2 => ?_
    rw [List.getElem_map, List.getElem_range, List.getD_eq_getElem?_getD, List.getElem?_eq_getElem h2]; rfl
   ·rw [List.pairwise_map]; exact ks.2
end
end
section
section
variable {c : Cx} {A : Around} {env : Env} {own : Bool} {X : XP} {ρ : Loc} {σ : Sto} {Q : V → Sto → Prop}
theorem sub_lstN {l : List V} {k : Nat} {v : V} {o i : Expr} (hv : l[k]? = some v) (hk : k ≤ 1000000) (hs : PlainAt i) (h : Q v σ) : OP2 c A env own X ρ Q (subscriptTail o i) (.lst l) (.int k) σ :=
 sub_lst (by simpa using hv) (by omega) (by omega) hs h
end
theorem upFrom_cons {k n : Nat} {v : V} {l : List V} (h : v :: l = upFrom (k : Int) 1 (n - k)) : k < n ∧ v = .int k ∧ l = upFrom ((k + 1 : Nat) : Int) 1 (n - (k + 1)) := by
 cases e : n - k with
 | zero => rw [e] at h; cases h
 | succ m =>
  rw [e] at h
  have h' : v :: l = .int k :: upFrom ((k : Int) + 1) 1 m := h
  cases h'
  exact ⟨by omega, rfl, by rw [show n - (k + 1) = m by omega]; rfl⟩
theorem upFrom_nil {k n : Nat} (h : [] = upFrom (k : Int) 1 (n - k)) : n ≤ k := by
 cases e : n - k with
 | zero => omega
 | succ m => rw [e] at h; cases h
variable {c : Cx} {σ : Sto} {Q : V → Sto → Prop}
end
section
variable {c : Cx} {σ : Sto} {Q : V → Sto → Prop}
noncomputable def covV (l r : Row) : V := if l.length < 2 then .none else if none ∈ l ∨ none ∈ r then .none else
 let xs := l.filterMap id
 let ys := r.filterMap id
 let n : Int := xs.length
 fr (devs n xs.sum ys.sum (xs.zip ys)) (n * n * (n - 1))
theorem devs_drop {n S T : Int} {l : List (Int × Int)} {k : Nat} {p : Int × Int} (h : l[k]? = some p) : devs n S T (l.drop k) = (n * p.1 - S) * (n * p.2 - T) + devs n S T (l.drop (k + 1)) := by
 have hk : k < l.length := (List.getElem?_eq_some_iff.mp h).1
 rw [List.drop_eq_getElem_cons hk]
 have : l[k] = p := (List.getElem?_eq_some_iff.mp h).2
 rw [this]; rfl
theorem meanV_num {r : Row} (h : r ≠ []) (hl : 0 < r.length) : Num (meanV r) := by
 rcases row_cases r with hn | ⟨xs, rfl⟩
 ·rw [mean_none hn]; exact .none
 ·rw [mean_full (by simpa using h)]; exact num_fr (by simp at hl; omega)
theorem fn_cov_of (G : Good c) {r s : Row} (hz : r.length ≤ 6) (he : s.length = r.length) (hb : ∀ o ∈ r, ∀ i, o = some i → i.natAbs ≤ 20) (hb' : ∀ o ∈ s, ∀ i, o = some i → i.natAbs ≤ 20) (h : Q (covV r s) σ) :
  FN c 6 (.ref 757) [.lst (r.map qv'), .lst (s.map qv')] σ Q := by
 have hsm : small r := fun o ho i e => by have := hb o ho i e; omega
 have hsm' : small s := fun o ho i e => by have := hb' o ho i e; omega
 refine go_fd_112 G fun A env room ok hs => ?_
 refine loc_fd_112 G hs fun l0 l1 l2 l3 l4 l5 g1 g2 g3 g4 g5 g6 g7 g8 g9 => ?_
 lk
 refine bi_lenN (.inl rfl) (List.length_map _) (by omega) ?_
 lk
 unfold covV at h
 refine ite_dec (fun hl => ?_) fun hl => ?_
 ·lk
  rw [if_pos (by omega)] at h
  exact h
 rw [if_neg (by omega)] at h
 have hr0 : r ≠ [] := fun e => by rw [e] at hl; simp at hl
 have hs0 : s ≠ [] := fun e => by rw [e] at he; simp at he; omega
 lk
 refine OPN_at room (fn_mean_items G rfl (by omega) hsm ?_)
 lk
 refine OPN_at room (fn_mean_items G rfl (by omega) hsm' ?_)
 by_cases hn : none ∈ r ∨ none ∈ s
 ·rw [if_pos hn] at h
  have hm : meanV r = .none ∨ meanV s = .none := hn.imp mean_none mean_none
  have nm := meanV_num hr0 (by omega)
  have nm' := meanV_num hs0 (by omega)
  lk
  refine SX_For (I := fun l ρ' σ' => ∃ (k : Nat) (t : V), l = upFrom k 1 (r.length - k) ∧ ρ' 0 = some (.lst (r.map qv')) ∧ ρ' 1 = some (.lst (s.map qv')) ∧ ρ' 2 = some (meanV r) ∧ ρ' 3 = some (meanV s) ∧ ρ' 4 = some t ∧ Num t ∧ (0 < k → t = .none) ∧ σ' = σ) room.handled ?_ ?_ ?_
  ·intro K₀ kI
   lk
   refine bi_lenN (.inl rfl) (List.length_map _) (by omega) ?_
   lk
   refine bi_range ?_
   exact ⟨_, its_range (by omega), kI.go _ _ ⟨0, _, rfl, rfl, rfl, rfl, rfl, rfl, .frac (by decide), fun e => absurd e (Nat.lt_irrefl _), rfl⟩⟩
  ·intro v l ρ' σ' hI K₁ K₂ kN kB
   refine exl2 hI fun k t hJ => ?_
   refine andl9 hJ fun e h0 h1 h2 h3 h4 h5 h6 hq8 => ?_
   clear hI hJ
   obtain rfl := hq8
   obtain ⟨hk, rfl, rfl⟩ := upFrom_cons e
   have a1 : (r.map qv')[k]? = some (qv' r[k]) := by simp [hk]
   have a2 : (s.map qv')[k]? = some (qv' (s[k]'(by omega))) := by simp [he, hk]
   lk
   refine sub_lstN a1 (by omega) (fun zz zz zz => rfl) ?_
   lk
   have key : ∃ x, Num x ∧ (meanV r = .none → x = .none) ∧ ∀ Q' σ', Q' x σ' → FN c 4 (.ref 362) [qv' r[k], meanV r] σ' Q' := by
    by_cases q : meanV r = .none
    ·exact ⟨.none, .none, fun zz => rfl, fun Q' σ' z => fn_sub_none G (num_qv _) nm (.inr q) z⟩
    ·have hnr : none ∉ r := fun z => q (mean_none z)
     rcases row_cases r with z | ⟨xs, hxs⟩
     ·exact absurd z hnr
     ·subst hxs
      rw [mean_full (by simpa using hr0)]
      rw [List.length_map] at hk hz hl
      have ht : tiny xs := fun x hx => hb _ (List.mem_map.mpr ⟨x, hx, rfl⟩) x rfl
      have hS := tiny_sum ht
      refine ⟨fr ((xs.length : Int) * xs[k] - xs.sum) xs.length, num_fr (by omega), fun e => (by cases e), fun Q' σ' z => ?_⟩
      have : (xs.map some)[k] = some xs[k] := by simp
      rw [this]
      exact fn_gap G (by omega) (by omega) (ht _ (List.getElem_mem hk)) (by omega) z
   have key' : ∃ x, Num x ∧ (meanV s = .none → x = .none) ∧ ∀ Q' σ', Q' x σ' → FN c 4 (.ref 362) [qv' (s[k]'(by omega)), meanV s] σ' Q' := by
    by_cases q : meanV s = .none
    ·exact ⟨.none, .none, fun zz => rfl, fun Q' σ' z => fn_sub_none G (num_qv _) nm' (.inr q) z⟩
    ·have hnr : none ∉ s := fun z => q (mean_none z)
     rcases row_cases s with z | ⟨xs, hxs⟩
     ·exact absurd z hnr
     ·subst hxs
      rw [mean_full (by simpa using hs0)]
      rw [List.length_map] at he
      have ht : tiny xs := fun x hx => hb' _ (List.mem_map.mpr ⟨x, hx, rfl⟩) x rfl
      have hS := tiny_sum ht
      refine ⟨fr ((xs.length : Int) * (xs[k]'(by omega)) - xs.sum) xs.length, num_fr (by omega), fun e => (by cases e), fun Q' σ' z => ?_⟩
      have : (xs.map some)[k]'(by rw [List.length_map]; omega) = some (xs[k]'(by omega)) := by simp
      rw [this]
      exact fn_gap G (by omega) (by omega) (ht _ (List.getElem_mem _)) (by omega) z
   obtain ⟨x, nx, hx, fx⟩ := key
   obtain ⟨y, ny, hy, fy⟩ := key'
   refine OPN_at room (fx _ _ ?_)
   lk
   refine sub_lstN a2 (by omega) (fun zz zz zz => rfl) ?_
   lk
   refine OPN_at room (fy _ _ ?_)
   lk
   refine OPN_at room (fn_mul_none G nx ny (hm.imp hx hy) ?_)
   lk
   refine OPN_at room (fn_add_none G h5 .none (.inr rfl) ?_)
   lk
   exact ⟨k + 1, _, rfl, h0, h1, h2, h3, rfl, .none, fun zz => rfl, rfl⟩
  ·intro ρ' σ' hI
   refine exl2 hI fun k t hJ => ?_
   refine andl9 hJ fun e h0 h1 h2 h3 h4 h5 h6 hq8 => ?_
   clear hI hJ
   obtain rfl := hq8
   have := upFrom_nil e
   have := h6 (by omega)
   subst this
   lk
   refine bi_len (.inl rfl) (by rw [List.length_map]; omega) ?_
   lk
   refine OPN_at room (fn_from_int G ?_)
   lk
   exact OPN_at room (fn_div_none G h)
 ·rw [if_neg hn] at h
  rw [not_or] at hn
  obtain ⟨xs, rfl⟩ := (row_cases r).resolve_left hn.1
  obtain ⟨ys, rfl⟩ := (row_cases s).resolve_left hn.2
  rw [fm_some, fm_some] at h
  simp only [List.length_map] at hl hz he
  have ht : tiny xs := fun x hx => hb _ (List.mem_map.mpr ⟨x, hx, rfl⟩) x rfl
  have ht' : tiny ys := fun x hx => hb' _ (List.mem_map.mpr ⟨x, hx, rfl⟩) x rfl
  have hS := tiny_sum ht
  have hT := tiny_sum ht'
  rw [mean_full (by simpa using hr0), mean_full (by simpa using hs0), he]
  have hn1 : (0 : Int) < xs.length := by omega
  have hn6 : (xs.length : Int) ≤ 6 := by omega
  have hnn2 := mul_pos' hn1 hn1
  have hzl : (xs.zip ys).length = xs.length := by rw [List.length_zip]; omega
  lk
  refine SX_For (I := fun l ρ' σ' => ∃ (k : Nat) (N : Int), l = upFrom k 1 (xs.length - k) ∧ k ≤ xs.length ∧ ρ' 0 = some (.lst ((xs.map some).map qv')) ∧ ρ' 1 = some (.lst ((ys.map some).map qv')) ∧ ρ' 2 = some (fr xs.sum xs.length) ∧ ρ' 3 = some (fr ys.sum xs.length) ∧
   ρ' 4 = some (fr N (xs.length * xs.length)) ∧ N + devs xs.length xs.sum ys.sum ((xs.zip ys).drop k) = devs xs.length xs.sum ys.sum (xs.zip ys) ∧ N.natAbs ≤ 57600 * k ∧ σ' = σ) room.handled ?_ ?_ ?_
  ·intro K₀ kI
   lk
   refine bi_len (.inl rfl) (by simp only [List.length_map]; omega) ?_
   simp only [List.length_map]
   lk
   refine bi_range ?_
   exact ⟨_, its_range (by omega), kI.go _ _ ⟨0, 0, rfl, Nat.zero_le _, rfl, rfl, rfl, rfl, by rw [fr_zero hnn2]; rfl, by simp, by simp, rfl⟩⟩
  ·intro v l ρ' σ' hI K₁ K₂ kN kB
   refine exl2 hI fun k N hJ => ?_
   refine andl10 hJ fun e hk' h0 h1 h2 h3 h4 h5 h6 hq9 => ?_
   clear hI hJ
   obtain rfl := hq9
   obtain ⟨hk, rfl, rfl⟩ := upFrom_cons e
   have hky : k < ys.length := by omega
   have a1 : ((xs.map some).map qv')[k]? = some (.tup [.int xs[k], .int 1]) := by simp [hk, qv']
   have a2 : ((ys.map some).map qv')[k]? = some (.tup [.int ys[k], .int 1]) := by simp [hky, qv']
   have hx := ht _ (List.getElem_mem hk)
   have hy := ht' _ (List.getElem_mem hky)
   have gb := gap_bound hn1 hn6 hx (S := xs.sum) (by omega)
   have gb' := gap_bound hn1 hn6 hy (S := ys.sum) (by omega)
   have pb := prod_bound gb gb'
   have hp : (xs.zip ys)[k]? = some (xs[k], ys[k]) := by simp [List.getElem?_zip_eq_some, hk, hky]
   rw [devs_drop hp] at h5
   lk
   refine sub_lstN a1 (by omega) (fun zz zz zz => rfl) ?_
   lk
   refine OPN_at room (fn_gap G hn1 hn6 hx (by omega) ?_)
   lk
   refine sub_lstN a2 (by omega) (fun zz zz zz => rfl) ?_
   lk
   refine OPN_at room (fn_gap G hn1 hn6 hy (by omega) ?_)
   lk
   refine OPN_at room (fn_mul G ⟨by omega, hn1, by omega⟩ ⟨by omega, hn1, by omega⟩ ?_)
   lk
   refine OPN_at room (fn_turn G hn1 hn6 (by omega) (by omega) ?_)
   lk
   refine ⟨k + 1, N + ((xs.length : Int) * xs[k] - xs.sum) * ((xs.length : Int) * ys[k] - ys.sum), rfl, hk, h0, h1, h2, h3, rfl, ?_, ?_, rfl⟩
   ·rw [← h5, Int.add_assoc]
   ·exact more_abs h6 pb
  ·intro ρ' σ' hI
   refine exl2 hI fun k N hJ => ?_
   refine andl10 hJ fun e hk' h0 h1 h2 h3 h4 h5 h6 hq9 => ?_
   clear hI hJ
   obtain rfl := hq9
   have hk := upFrom_nil e
   have hN : N = devs xs.length xs.sum ys.sum (xs.zip ys) := by
    rw [← h5, List.drop_eq_nil_of_le (by omega)]; simp [devs]
   lk
   refine bi_len (.inl rfl) (by simp only [List.length_map]; omega) ?_
   lk
   refine OPN_at room (fn_from_int G ?_)
   lk
   simp only [List.length_map]
   refine OPN_at room (fn_last G (by omega) hn6 (by omega) ?_)
   rw [hN]
   exact h
end
section
open PySem.MeetsSeq
section
variable {c : Cx} {A : Around} {env : Env} {own : Bool} {X : XP} {ρ : Loc} {σ : Sto} {Q : V → Sto → Prop} {QU : Loc → Sto → Prop}
structure MT (c : Cx) (A : Around) (env : Env) (own : Bool) (name : Str) (a : V) (ρ : Loc) (σ : Sto) (f : Value) : Prop where
 run : ∀ F P s x pl (E : Value → Shared → Prop) (Q : Value × List Value → Shared → Prop), Rep c env own F P ρ σ s → VR c.w.params P a x → Q (f, [x]) s → wpAny (MM c) A (getMethod x name pl) Q E s
inductive MethOn (c : Cx) (A : Around) (env : Env) (own : Bool) (X : XP) (ρ : Loc) (Q : V → Sto → Prop) (name : Str) (args : List Expr) (a : V) (σ : Sto) : Prop
 | mk (f : Value) (mt : MT c A env own name a ρ σ f) (ok : CalleeOk c f) (h : ES c A env own X ρ args (fun l => OPN c A env own X ρ Q (call f ·) (a :: l)) σ) : MethOn c A env own X ρ Q name args a σ
theorem EV_Meth {o : Expr} {name : Str} {apos pos : Pos} {args : List Expr} {pl : Sem Bool} (h : EV c A env own X ρ o (MethOn c A env own X ρ Q name args) σ)
  (hp : autoParam ((backTo pos (starEach args env)).any (·.1) = false) aRfl)
  (he : autoParam (eval (.Call (.Attribute o name apos) args [] pos) env = (do
   let ov ← eval o env
   standAt apos.atName
   let (f, first) ← holding [ov] (getMethod ov name pl)
   callWith pos f first (backTo pos (starEach args env)) (backToKw pos (keywordEach [] env)))) aRfl) : EV c A env own X ρ (.Call (.Attribute o name apos) args [] pos) Q σ := .mk fun F P s R => by
 refine methodCall_KW (pl := pl) (wpAny_mono (h.run F P s R) ?_ fun zz zz x => x) he
 rintro va s₁ ⟨P₁, a, σ₁, le₁, R₁, ra, f, mt, hc, h₁⟩
 refine mt.run F P₁ s₁ va pl _ _ R₁ ra ?_
 show wpAny _ A (callWith pos f [va] (backTo pos (starEach args env)) []) _ _ _
 refine wpAny_mono (E := PX X F P₁) (callWith_of (P := fun h => ∀ b o, c.g.get? b = some o → h.get? b = some o) (by rw [hp]; rfl) (fun h k => hc h k)
  (evalArgs_of (Q := fun as s' => (∀ b o, c.g.get? b = some o → s'.heap.get? b = some o) ∧ wpAny (MM c) A (call f ([va] ++ as.pos) as.kw) (PV c env own F ρ P₁ Q) (PX X F P₁) s') hp (wpAny_mono (h₁.run pos F P₁ s₁ R₁) ?_ fun zz zz x => x))) (fun v s₃ h₃ => h₃.of le₁) fun zz zz x => x.of le₁
 rintro vs s₂ ⟨P₂, l, σ₂, le₂, R₂, rl, h₂⟩
 exact ⟨R₂.kept, wpAny_mono (h₂.run F P₂ s₂ (va :: vs) R₂ ⟨ra.mono le₂, rl⟩) (fun v s₃ h₃ => h₃.of le₂) fun zz zz x => x.of le₂⟩
theorem MT_list {name : Str} {id : String} {a : V} {l : List V} (ha : IsL σ a l) (sl : PySem.Slot "list" name id) (ty : typeOf (.builtin id) = pure (.type "method_descriptor")) : MT c A env own name a ρ σ (.builtin id) := by
 refine ⟨?_⟩; intro F P s x pl E Q R r q
 obtain ⟨ad, vs, n, rfl, g, rv⟩ := ha.at R r
 exact getMethod_builtin (T := "list") ⟨_, g, rfl⟩ PySem.F.plainAttrs_list sl ty (fun a e => by cases e; exact ⟨_, g, rfl⟩) q
theorem MT_dic {name : Str} {id : String} {ks : List Str} {vs : List V} (sl : PySem.Slot "dict" name id) (ty : typeOf (.builtin id) = pure (.type "method_descriptor")) : MT c A env own name (.dic ks vs) ρ σ (.builtin id) := by
 refine ⟨?_⟩; rintro F P s x pl E Q R ⟨a, es, n, rfl, p, k, rv⟩ q
 exact getMethod_builtin (T := "dict") ⟨_, R.toC.sub _ _ p, rfl⟩ PySem.F.plainAttrs_dict sl ty (fun a e => by cases e; exact ⟨_, R.toC.sub _ _ p, rfl⟩) q
theorem MT_str {name : Str} {id : String} {y : Str} (sl : PySem.Slot "str" name id) (ty : typeOf (.builtin id) = pure (.type "method_descriptor")) : MT c A env own name (.str y) ρ σ (.builtin id) := by
 refine ⟨?_⟩; rintro F P s x pl E Q R ⟨t, rfl⟩ q
 exact getMethod_builtin (T := "str") (typeIs_str _ _ _) PySem.F.plainAttrs_str sl ty (fun a e => by cases e) q
structure MethOk (c : Cx) (C : Addr) (n : Str) (f : Addr) : Prop where
 ga : findIn c.K (.ref C) "__getattribute__" = some (some (.builtin "object.__getattribute__"))
 gt : findIn c.K (.ref C) "__getattr__" = some none
 at_ : findIn c.K (.ref C) n = some (some (.ref f))
 fn : typeIn c.K (.ref f) = some (.type "function")
theorem MT_inst {name : Str} {a d C f : Addr} {ks : List Str} {vs : List V} (ok : MethOk c C name f) (h1 : σ a = some (.inst C d)) (h2 : σ d = some (.dict ks vs)) (hn : assoc ks vs name = none) : MT c A env own name (.ref a) ρ σ (.ref f) := by
 refine ⟨?_⟩; rintro F P s x pl E Q R rfl q
 obtain ⟨o1, g1, rfl⟩ := R.toC.obj a _ h1
 obtain ⟨o2, g2, es, m, rfl, k, r⟩ := R.toC.obj d _ h2
 have I : InstAt s.heap a (instObj C d) C (some (dictOf es m)) := ⟨g1, rfl, rfl, g2⟩
 exact method_fn R.K I ok.ga ok.gt ok.at_ ok.fn (by show (lookIn name (dictOf es m)).map _ = _; rw [lookIn_none k r hn]; rfl) q
theorem Rep.setList {F P : Prt} {s : Shared} {a : Addr} {l l' : List V} {vs : Array Value} {n : Nat} (R : Rep c env own F P ρ σ s) (hσ : σ a = some (.list l)) (g : s.heap.get? a = some { cls := .type "list", data := .seq vs n }) (f : Array Value → Array Value)
  (rv : VRs c.w.params P l' (f vs).toList) : Rep c env own F P ρ (upd σ a (.list l')) { s with heap := s.heap.update a (Obj.mapSeq f) } := by
 have := PySem.IsL.update (n := n) g f
 exact R.turn (t := s.toks) (x := .list l') hσ (Heap.SameBut.update ..) this ⟨_, _, rfl, rv⟩
theorem m_append {a : Addr} {l : List V} {v : V} (hσ : σ a = some (.list l)) (hz : l.length ≤ 1000000) (h : Q .none (upd σ a (.list (l ++ [v])))) : OPN c A env own X ρ Q (call (.builtin "list.append") ·) [.ref a, v] σ := by
 refine ⟨?_⟩; rintro F P s xs R r
 obtain ⟨x0, y, rfl, rfl, ry⟩ := r.two
 obtain ⟨o, g, vs, n, rfl, rv⟩ := R.toC.obj a _ hσ
 have len : vs.size = l.length := by rw [← rv.length, Array.length_toList]
 refine call_meets PySem.F.slot_list_append ⟨_, g, rfl⟩ PySem.F.entry_list_append (PySem.F.args_list_append_2 _ _) (list_append a vs n y (by rw [len, sizeLine_eq]; omega)) ⟨g, ?_⟩
 exact ⟨P, .none, _, .refl _, R.setList hσ g (·.push y) (by rw [Array.toList_push]; exact rv.append ⟨ry, trivial⟩), rfl, h⟩
theorem m_pop {a : Addr} {l : List V} {v : V} (hσ : σ a = some (.list (l ++ [v]))) (hz : l.length ≤ 100000) (h : Q v (upd σ a (.list l))) : OPN c A env own X ρ Q (call (.builtin "list.pop") ·) [.ref a] σ := by
 refine ⟨?_⟩; rintro F P s xs R r
 obtain ⟨x0, rfl, rfl⟩ := r.one
 obtain ⟨o, g, vs, n, rfl, rv⟩ := R.toC.obj a _ hσ
 have len : vs.size = l.length + 1 := by rw [← Array.length_toList, rv.length, List.length_append]; rfl
 obtain ⟨y, hy, ry⟩ := rv.get (i := l.length) (v := v) (by simp)
 refine call_meets PySem.F.slot_list_pop ⟨_, g, rfl⟩ PySem.F.entry_list_pop (PySem.F.args_list_pop_1 _) (list_pop_last a vs n y (by rw [len]; simpa using hy) (by rw [len, sizeLine_eq]; omega)) ⟨g, ?_⟩
 refine ⟨P, v, _, .refl _, R.setList hσ g _ ?_, ry, h⟩
 have e : (vs.eraseIdxIfInBounds (vs.size - 1)).toList = vs.toList.take l.length := by
  unfold Array.eraseIdxIfInBounds
  rw [dif_pos (by omega), Array.toList_eraseIdx, len, Nat.add_sub_cancel]
  rw [List.eraseIdx_eq_take_drop_succ, List.drop_eq_nil_of_le (by rw [Array.length_toList, len]; exact Nat.le_refl _), List.append_nil]
 rw [e]
 have := rv.take l.length
 rwa [List.take_left] at this
theorem m_pop0 {a : Addr} {l : List V} {v : V} (hσ : σ a = some (.list (v :: l))) (hz : l.length ≤ 100000) (h : Q v (upd σ a (.list l))) : OPN c A env own X ρ Q (call (.builtin "list.pop") ·) [.ref a, .int 0] σ := by
 refine ⟨?_⟩; rintro F P s xs R r
 obtain ⟨x0, x1, rfl, rfl, ⟨u, rfl⟩⟩ := r.two
 obtain ⟨o, g, vs, n, rfl, rv⟩ := R.toC.obj a _ hσ
 have len : vs.size = l.length + 1 := by rw [← Array.length_toList, rv.length]; rfl
 obtain ⟨y, hy, ry⟩ := rv.get (i := 0) (v := v) rfl
 refine call_meets PySem.F.slot_list_pop ⟨_, g, rfl⟩ PySem.F.entry_list_pop (PySem.F.args_list_pop_2 _ _) (list_pop_at a vs n 0 u 0 y (by decide) (by unfold seqIndex?; simp [len]) (by simpa using hy) (by rw [len, sizeLine_eq]; omega)) ⟨g, ?_⟩
 refine ⟨P, v, _, .refl _, R.setList hσ g _ ?_, ry, h⟩
 have e : (vs.eraseIdxIfInBounds 0).toList = vs.toList.drop 1 := by
  unfold Array.eraseIdxIfInBounds
  rw [dif_pos (by omega), Array.toList_eraseIdx]
  rw [List.eraseIdx_zero]; simp
 rw [e]
 exact rv.drop 1
theorem m_reverse {a : Addr} {l : List V} (hσ : σ a = some (.list l)) (hz : l.length ≤ 1000000) (h : Q .none (upd σ a (.list l.reverse))) : OPN c A env own X ρ Q (call (.builtin "list.reverse") ·) [.ref a] σ := by
 refine ⟨?_⟩; rintro F P s xs R r
 obtain ⟨x0, rfl, rfl⟩ := r.one
 obtain ⟨o, g, vs, n, rfl, rv⟩ := R.toC.obj a _ hσ
 have len : vs.size = l.length := by rw [← rv.length, Array.length_toList]
 refine call_meets PySem.F.slot_list_reverse ⟨_, g, rfl⟩ PySem.F.entry_list_reverse (PySem.F.args_list_reverse_1 _) (AutoSeq1.list_reverse_list_0 a vs n (by rw [len, sizeLine_eq]; omega)) ⟨g, ?_⟩
 exact ⟨P, .none, _, .refl _, R.setList hσ g (·.reverse) (by rw [Array.toList_reverse]; exact rv.reverse), rfl, h⟩
theorem m_startswith {x y : Str} (h : Q (.bool (Txt.startswith x y)) σ) : OPN c A env own X ρ Q (call (.builtin "str.startswith") ·) [.str x, .str y] σ := by
 refine ⟨?_⟩; rintro F P s xs R r
 obtain ⟨x0, x1, rfl, ⟨t, rfl⟩, ⟨u, rfl⟩⟩ := r.two
 exact call_gives PySem.F.slot_str_startswith (typeIs_str _ _ _) PySem.F.entry_str_startswith (PySem.F.args_str_startswith_2 _ _) (gives_str_startswith x y t u) ⟨P, .bool _, σ, .refl _, R, rfl, h⟩
end
end
section
open PySem.MeetsSeq
theorem isStrOf_eq (k : Str) (v : Value) : Value.isStrOf k v = v.isStr k := by cases v <;> rfl
theorem KeysOf.kind {w : World} : ∀ {ks : List Str} {es : List DictEntry}, KeysOf w.params ks es → ∀ e ∈ es, ∃ k, (strKind pw w).is k e.key = true ∧ e.hash = (strKind pw w).hash k
 | [], [], _, e, h => by simp at h
 | [], _ :: _, h, _, _ => h.elim
 | _ :: _, [], h, _, _ => h.elim
 | k :: ks, e :: es, ⟨⟨t, k1⟩, k2, k3⟩, x, h => by
  rcases List.mem_cons.mp h with rfl | h
  ·exact ⟨k, by rw [k1]; exact strKind_is pw w k t, k2⟩
  ·exact KeysOf.kind k3 x h
theorem KeysOf.pairs {w : World} : ∀ {ks : List Str} {es : List DictEntry}, KeysOf w.params ks es → Pairs (strKind pw w) es (ks.zip (es.map (·.val)))
 | [], [], _ => .nil
 | [], _ :: _, h => h.elim
 | _ :: _, [], h => h.elim
 | k :: ks, e :: es, ⟨⟨t, k1⟩, k2, k3⟩ => .cons (by rw [k1]; exact strKind_is pw w k t) rfl (KeysOf.pairs k3)
theorem pairs_back {w : World} {es : List DictEntry} {kvs : List (Str × Value)} (p : Pairs (strKind pw w) es kvs) : (∀ e ∈ es, ∃ k, (strKind pw w).is k e.key = true ∧ e.hash = (strKind pw w).hash k) → KeysOf w.params (kvs.map (·.1)) es ∧ es.map (·.val) = kvs.map (·.2) := by
 induction p with
 | nil => exact fun zz => ⟨trivial, rfl⟩
 | @cons e kv es kvs h1 h2 p ih =>
  intro hk
  obtain ⟨i1, i2⟩ := ih fun x hx => hk x (List.mem_cons_of_mem _ hx)
  obtain ⟨k, e1, e2⟩ := hk e List.mem_cons_self
  have e3 := (strKind pw w).inj _ _ _ e1 h1
  subst e3
  obtain ⟨t, ht⟩ := Value.isStrOf_shape h1
  refine ⟨⟨⟨t, ht⟩, e2, i1⟩, ?_⟩
  rw [List.map_cons, List.map_cons, h2, i2]
theorem mapOf {w : World} {h : Heap} {d : Addr} {es : List DictEntry} {n : Nat} {ks : List Str} (g : h.get? d = some (dictOf es n)) (k : KeysOf w.params ks es) : h.MapOf (strKind pw w) d (fun x => (es.find? (·.key.isStr x)).map (·.val)) := by
 refine ⟨_, es.toArray, n, g, ⟨rfl, rfl, rfl⟩, rfl, fun e he => k.kind e (by simpa using he), fun x => ?_⟩
 unfold findBy
 rw [List.find?_toArray]
 congr 2
 funext e
 exact isStrOf_eq x e.key
theorem dictOf_ {w : World} {h : Heap} {d : Addr} {es : List DictEntry} {n : Nat} {ks : List Str} (g : h.get? d = some (dictOf es n)) (k : KeysOf w.params ks es) (nd : ks.Nodup) : h.DictOf (strKind pw w) d (ks.zip (es.map (·.val))) := by
 refine ⟨_, es.toArray, n, g, ⟨rfl, rfl, rfl⟩, rfl, fun e he => k.kind e (by simpa using he), by simpa using k.pairs, ?_⟩
 rw [List.map_fst_zip (by rw [List.length_map, k.length]; exact Nat.le_refl _)]
 exact nd
theorem VRs.set {W : Params} {P : Prt} {v : V} {x : Value} (r : VR W P v x) : ∀ {l : List V} {xs : List Value} {k : Nat}, VRs W P l xs → VRs W P (l.set k v) (xs.set k x)
 | [], [], _, _ => trivial
 | _ :: _, _ :: _, 0, ⟨_, b⟩ => ⟨r, b⟩
 | _ :: _, _ :: _, k + 1, ⟨a, b⟩ => ⟨a, VRs.set r b⟩
 | [], _ :: _, _, h => h.elim
 | _ :: _, [], _, h => h.elim
section
variable {c : Cx} {A : Around} {env : Env} {own : Bool} {X : XP} {ρ : Loc} {σ : Sto} {Q : V → Sto → Prop} {QS : Sto → Prop}
noncomputable def IsD (σ : Sto) (a : V) (ks : List Str) (vs : List V) : Prop := a = .dic ks vs ∨ ∃ ad, a = .ref ad ∧ σ ad = some (.dict ks vs)
theorem RepC.notMods {F P : Prt} {s : Shared} {ad : Addr} {x : O} (R : RepC c F P σ s) (hm : ∃ o, c.g.get? sysModules = some o) (h : σ ad = some x) : ad ≠ sysModules := by
 rintro rfl
 obtain ⟨o, ho⟩ := hm
 exact R.off _ _ h o (R.base _ _ ho)
theorem IsD.at {F P : Prt} {s : Shared} {a : V} {ks : List Str} {vs : List V} (hm : ∃ o, c.g.get? sysModules = some o) (R : Rep c env own F P ρ σ s) (h : IsD σ a ks vs) {x : Value} (r : VR c.w.params P a x) :
  ∃ ad es n, x = .ref ad ∧ s.heap.get? ad = some (dictOf es n) ∧ KeysOf c.w.params ks es ∧ VRs c.w.params P vs (es.map (·.val)) ∧ (ad == sysModules) = false := by
 rcases h with rfl | ⟨ad, rfl, h⟩
 ·obtain ⟨a, es, n, rfl, p, k, r⟩ := r; exact ⟨a, es, n, rfl, R.toC.sub _ _ p, k.1, r, beq_eq_false_iff_ne.mpr k.2⟩
 ·cases r
  obtain ⟨ob, g, es, n, rfl, k, r⟩ := R.toC.obj ad _ h
  exact ⟨ad, es, n, rfl, g, k, r, beq_eq_false_iff_ne.mpr (R.toC.notMods hm h)⟩
theorem find_assoc {W : Params} {P : Prt} {ks : List Str} {vs : List V} {es : List DictEntry} {x : Str} (k : KeysOf W ks es) (r : VRs W P vs (es.map (·.val))) : ((es.find? (·.key.isStr x)).map (·.val)).isSome = (assoc ks vs x).isSome := by
 cases h : assoc ks vs x with
 | none => rw [none_of k r h]; rfl
 | some v => obtain ⟨e, h1, _⟩ := find_of k r h; rw [h1]; rfl
theorem op_inD {a : V} {ks : List Str} {vs : List V} {x : Str} (hm : ∃ o, c.g.get? sysModules = some o) (ha : IsD σ a ks vs) (h : Q (.bool (assoc ks vs x).isSome) σ) : OP2 c A env own X ρ Q (compareOp .In) (.str x) a σ := by
 refine ⟨?_⟩; rintro F P s _ y R ⟨t, rfl⟩ r
 obtain ⟨ad, es, n, rfl, g, k, rv, hmd⟩ := ha.at hm R r
 refine @wpAny_in_of _ _ _ _ _ _ _ _ _ _ _ _ _ (strKind_is pw c.w x t) hmd (mapOf g k) ⟨P, .bool _, σ, .refl _, R.toks _, ?_, h⟩
 rw [find_assoc k rv]; rfl
theorem op_notInD {a : V} {ks : List Str} {vs : List V} {x : Str} (hm : ∃ o, c.g.get? sysModules = some o) (ha : IsD σ a ks vs) (h : Q (.bool (!(assoc ks vs x).isSome)) σ) : OP2 c A env own X ρ Q (compareOp .NotIn) (.str x) a σ := by
 refine ⟨?_⟩; rintro F P s _ y R ⟨t, rfl⟩ r
 obtain ⟨ad, es, n, rfl, g, k, rv, hmd⟩ := ha.at hm R r
 refine @wpAny_notIn_of _ _ _ _ _ _ _ _ _ _ _ _ _ (strKind_is pw c.w x t) hmd (mapOf g k) ⟨P, .bool _, σ, .refl _, R.toks _, ?_, h⟩
 rw [find_assoc k rv]; rfl
theorem sub_dict {a : V} {ks : List Str} {vs : List V} {x : Str} {v : V} {o i : Expr} (hm : ∃ o, c.g.get? sysModules = some o) (ha : IsD σ a ks vs) (hv : assoc ks vs x = some v) (hs : ∀ a t, subscripted i false (.ref a) (.str x t) = operate [.ref a, .str x t] (getItem (.ref a) (.str x t)))
  (h : Q v σ) : OP2 c A env own X ρ Q (subscriptTail o i) a (.str x) σ := by
 refine ⟨?_⟩; rintro F P s y _ R r ⟨t, rfl⟩
 obtain ⟨ad, es, n, rfl, g, k, rv, hmd⟩ := ha.at hm R r
 obtain ⟨e, h1, h2⟩ := find_of k rv hv
 exact @tail_any _ _ _ _ _ _ _ _ _ _ _ _ _ (show s.TypeIs (.ref ad) "dict" from ⟨_, g, rfl⟩) slot_dict_getitem.lookup (@wpAny_getItem_of _ _ _ _ _ _ _ _ _ _ _ _ _ _ (strKind_is pw c.w x t) (mapOf g k) (by rw [h1]; rfl) ⟨P, v, σ, .refl _, R.toks _, h2, h⟩) (hs _ _)
theorem set_dict {d : Addr} {ks : List Str} {vs : List V} {x : Str} {v : V} (hσ : σ d = some (.dict ks vs)) (nd : ks.Nodup) (hn : x ∉ ks) (hz : ks.length ≤ 1000) (h : QS (upd σ d (.dict (ks ++ [x]) (vs ++ [v])))) : OP3 c A env own (.ref d) (.str x) v ρ σ QS X := by
 refine ⟨?_⟩; rintro F P s _ _ z R rfl ⟨t, rfl⟩ rz
 obtain ⟨ob, g, es, n, rfl, k, rv⟩ := R.toC.obj d _ hσ
 have hl : (ks.zip (es.map (·.val))).map (·.1) = ks := List.map_fst_zip (by rw [List.length_map, k.length]; exact Nat.le_refl _)
 have hr : (ks.zip (es.map (·.val))).map (·.2) = es.map (·.val) := List.map_snd_zip (by rw [List.length_map, k.length]; exact Nat.le_refl _)
 refine wpAny_setItem_pairs (strKind_is pw c.w x t) (dictOf_ g k nd) (fun h' hd hsb => ?_) (by rw [List.length_zip, List.length_map, k.length, Nat.min_self, sizeLine_eq]; omega)
 obtain ⟨o, es', ep, ho, ⟨e1, e2, e3⟩, hdt, hk, hp, hnd⟩ := hd
 obtain ⟨b1, b2⟩ := pairs_back hp fun e he => hk e (by simpa using he)
 have hst : stored (ks.zip (es.map (·.val))) x z = ks.zip (es.map (·.val)) ++ [(x, z)] := by
  unfold stored
  rw [if_neg]
  simp only [List.any_eq_true, decide_eq_true_eq, not_exists, not_and]
  intro kv hkv e
  have : kv.1 ∈ (ks.zip (es.map (·.val))).map (·.1) := List.mem_map.mpr ⟨kv, hkv, rfl⟩
  rw [hl, e] at this
  exact hn this
 rw [hst] at b1 b2
 have ho' : o = dictOf es'.toList ep := by
  obtain ⟨oc, od, dt, sl⟩ := o
  dsimp only at e1 e2 e3 hdt
  subst e1; subst e2; subst e3; subst hdt
  rfl
 subst ho'
 refine ⟨P, _, .refl _, R.turn (t := s.toks + 1) (x := .dict (ks ++ [x]) (vs ++ [v])) hσ hsb ho ⟨es'.toList, ep, rfl, ?_, ?_⟩, h⟩
 ·rw [List.map_append, hl] at b1; exact b1
 ·rw [b2, List.map_append, hr]; exact rv.append ⟨rz, trivial⟩
theorem setItem_exact {l : Addr} {items : Array Value} {ne : Nat} {k : Int} {t : Tok} {v : Value} {s : Shared} {E : Value → Shared → Prop} {Q : Unit → Shared → Prop} (ho : s.heap.get? l = some { cls := .type "list", data := .seq items ne })
  (h0 : 0 ≤ k) (hfit : k < 2 ^ 63) (hn : k < items.size) (hQ : Q () { s with heap := s.heap.update l (Obj.mapSeq (·.setIfInBounds k.toNat v)) }) :
  wpAny (MM c) A (setItem (.ref l) (.int k t) v) Q E s := by
 have hl : s.heap.IsList l items := ⟨_, ho, rfl, ne, rfl⟩
 unfold setItem
 try with_reducible refine wpAny_holding ?_
 first | refine wpAny_bind (wpAny_pure ?_) | skip
 refine wpAny_bind (wpAny_sequenceKey hl.typeIs (by decide) ?_)
 refine wpAny_bind (wpAny_callSpecial?_slot (name := Str.ofString "__setitem__") hl.typeIs slot_list_setitem
  (wpAny_call_entry slot_list_setitem hl.typeIs entry_list_setitem ?_ (args_list_setitem _ _ _)))
 show wpAny _ _ (Builtin.List.listSubscript? (.int k t) >>= _) _ _ s
 refine wpAny_bind (wpAny_listSubscript_int (fitsIndex_of h0 hfit) ?_)
 clear hfit
 obtain ⟨j, rfl⟩ := Int.eq_ofNat_of_zero_le h0
 have hj : j < items.size := by omega
 have hx' : items[j]? = some items[j] := Array.getElem?_eq_getElem hj
 show wpAny _ _ ((seqItemAt l j >>= fun r => pure (r.map (j, ·))) >>= _) _ _ s
 refine wpAny_bind (wpAny_bind (wpAny_seqItemAt ho rfl (wpAny_pure ?_)))
 rw [hx']
 show wpAny _ _ (setSeqItemAt l j v >>= _) _ _ s
 refine wpAny_bind (wpAny_setSeqItemAt ho rfl ?_)
 first
  | exact wpAny_bind (wpAny_pure (wpAny_pure ⟨.none, rfl, wpAny_pure hQ⟩))
  | exact wpAny_pure ⟨.none, rfl, wpAny_pure hQ⟩
theorem set_list {a : Addr} {l : List V} {k : Nat} {v : V} (hσ : σ a = some (.list l)) (hk : k < l.length) (hz : l.length ≤ 1000000) (h : QS (upd σ a (.list (l.set k v)))) : OP3 c A env own (.ref a) (.int k) v ρ σ QS X := by
 refine ⟨?_⟩; rintro F P s _ _ z R rfl ⟨t, rfl⟩ rz
 obtain ⟨ob, g, vs, n, rfl, rv⟩ := R.toC.obj a _ hσ
 have len : vs.size = l.length := by rw [← rv.length, Array.length_toList]
 have hl : s.heap.IsList a vs := ⟨_, g, rfl, n, rfl⟩
 refine setItem_exact g (by omega) (by omega) (by omega) ?_
 exact ⟨P, _, .refl _, R.setList hσ g (·.setIfInBounds k z) (by rw [Array.toList_setIfInBounds]; exact rv.set rz), h⟩
end
end
section
open PySem.MeetsSeq
section
variable {c : Cx} {A : Around} {env : Env} {own : Bool} {X : XP} {ρ : Loc} {σ : Sto} {Q : V → Sto → Prop} {QU : Loc → Sto → Prop} {N B C : Loc → Sto → Prop} {T : V → Sto → Prop}
theorem EV_Dict0 {pos : Pos} (h : ∀ D, σ D = none → Q (.ref D) (upd σ D (.dict [] []))) : EV c A env own X ρ (.Dict [] [] pos) Q σ := .mk fun F P s R => by
 rw [eval_Dict_empty]
 refine wpAny_bind (wpAny_standAt ?_)
 have new := R.toC.new (Nat.le_refl _)
 exact wpAny_newObj_type ⟨P, .ref _, _, .refl _, R.pushσ _ (x := .dict [] []) rfl ⟨[], 0, rfl, trivial, trivial⟩, rfl, h _ new.1⟩
theorem EV_Dict1F {e : Expr} {x : Str} {k1 : Nat} {p1 pos : Pos} {v : V} (hm : ∃ o, c.g.get? sysModules = some o) (h : ∀ σ', SLe σ σ' → EV c A env own X ρ e (fun y σ₁ => y = v ∧ σ₁ = σ') σ') (q : Q (.dic [x] [v]) σ)
  (he : autoParam (evalEachOpt [some (.Constant (.str x) k1 p1)] env = [some (eval (.Constant (.str x) k1 p1) env)]) aRfl) (he' : autoParam (evalEach [e] env = [eval e env]) aRfl) :
  EV c A env own X ρ (.Dict [some (.Constant (.str x) k1 p1)] [e] pos) Q σ := .mk fun F P s R => by
 have new := R.toC.new (Nat.le_refl _)
 have gD : (s.heap.push { cls := .type "dict", data := .dict #[] }).get? s.heap.objs.size = some { cls := .type "dict", data := .dict #[] } := Heap.get?_push_size _ rfl
 have R₁ := R.pushσ { cls := .type "dict", data := .dict #[] } (x := .dict [] []) rfl ⟨[], 0, rfl, trivial, trivial⟩
 refine wpAny_Dict_pairs (knd := strKind pw c.w) (pairs := [(eval (.Constant (.str x) k1 p1) env, (do let y ← eval e env; standAt pos; pure y))]) (by rw [he, he']; rfl) (by simp) (Nat.le_of_ble_eq_true rfl) ?_
 refine evalPairs_cons ?_
 refine @wpAny_Constant_str _ _ _ _ _ _ _ _ _ ?_
 have R₂ := R₁.toks (s.toks + 1)
 refine wpAny_bind (wpAny_mono ((h _ (.upd new.1)).run _ _ _ R₂) ?_ fun zz zz x => x)
 rintro va s₂ ⟨P₂, V, σ₂, le₂, R₃, rv, rfl, rfl⟩
 refine wpAny_bind (wpAny_standAt (wpAny_pure (evalPairs_nil ?_)))
 obtain ⟨o, g, es, n, rfl, k, r⟩ := R₃.toC.obj s.heap.objs.size _ (upd_self ..)
 have hd := dictOf_ g k List.nodup_nil
 refine ⟨[(x, va)], ⟨strKind_is pw c.w x _, rfl, trivial⟩, hd, fun h' hd' hsb => ?_⟩
 obtain ⟨o, es', ep, ho, ⟨e1, e2, e3⟩, hdt, hk, hp, hnd⟩ := hd'
 have hp' : Pairs (strKind pw c.w) es'.toList [(x, va)] := hp
 obtain ⟨b1, b2⟩ := pairs_back hp' fun e he => hk e (by simpa using he)
 have ho' : o = dictOf es'.toList ep := by
  obtain ⟨oc, od, dt, sl⟩ := o
  dsimp only at e1 e2 e3 hdt
  subst e1; subst e2; subst e3; subst hdt
  rfl
 subst ho'
 have R₄ := R₃.turn (t := s₂.toks + 1) (x := .dict [x] [V]) (upd_self ..) hsb ho ⟨es'.toList, ep, rfl, b1, by rw [b2]; exact ⟨rv, trivial⟩⟩
 have e : upd (upd σ s.heap.objs.size (.dict [] [])) s.heap.objs.size (.dict [x] [V]) = upd σ s.heap.objs.size (.dict [x] [V]) := by funext b; unfold upd; by_cases q : b = s.heap.objs.size <;> simp [q]
 rw [e] at R₄
 have nm := R₄.toC.notMods hm (upd_self ..)
 obtain ⟨o, ho, R₅⟩ := R₄.freeze (upd_self ..) (.upd new.1) new.1
 obtain ⟨es₂, n₂, rfl, k₂, r₂⟩ := ho
 exact ⟨_, .dic [x] [V], σ, le₂.trans (addP_le _ _ _), R₅, ⟨_, es₂, n₂, rfl, addP_self _ _ _, ⟨k₂, nm⟩, r₂.mono (addP_le _ _ _)⟩, q⟩
theorem m_get {ks : List Str} {vs : List V} {x : Str} (hm : ∃ o, c.g.get? sysModules = some o) (h : Q ((assoc ks vs x).getD .none) σ) : OPN c A env own X ρ Q (call (.builtin "dict.get") ·) [.dic ks vs, .str x] σ := by
 refine ⟨?_⟩; rintro F P s xs R r
 obtain ⟨y, x1, rfl, r', ⟨t, rfl⟩⟩ := r.two
 obtain ⟨ad, es, n, rfl, g, k, rv, hmd⟩ := IsD.at hm R (.inl rfl) r'
 refine call_meetsIn PySem.F.slot_dict_get ⟨_, g, rfl⟩ PySem.F.entry_dict_get (PySem.F.args_dict_get_2 _ _) (meets_dict_get (strKind pw c.w) ad (strKind_is pw c.w x t) hmd) ⟨_, mapOf g k, ?_⟩
 refine ⟨P, _, σ, .refl _, R.toks _, ?_, h⟩
 cases hv : assoc ks vs x with
 | none => rw [none_of k rv hv]; rfl
 | some v => obtain ⟨e, h1, h2⟩ := find_of k rv hv; rw [h1]; exact h2
theorem mul_exact {a : Addr} {y : Value} {m : Nat} {x : Int} {u : Tok} {s : Shared} {E : Value → Shared → Prop} {Q : Value → Shared → Prop} (g : s.heap.get? a = some { cls := .type "list", dict := none, data := .seq #[y] m, slots := #[] }) (h0 : 0 ≤ x) (h1 : x ≤ 1000)
  (h : Q (.ref s.heap.objs.size) { s with heap := s.heap.push { cls := .type "list", data := .seq (List.foldl (fun x1 x2 => x1 ++ x2) #[] (List.replicate (if (#[y] : Array Value).isEmpty = true then 0 else x.toNat) #[y])) } }) : wpAny (MM c) A (binaryOp .Mult (.ref a) (.int x u)) Q E s :=
 wpAny_binaryOp_repeat_ref (T := "list") (U := "int") (by decide) ⟨_, g, rfl⟩ (fun s' => typeIs_int s' x u) noFill_list_mul PySem.F.fills_int_mul PySem.F.slot_int_rmul repeat_list PySem.F.slot_int_index.lookup
  (call_meets PySem.F.slot_int_rmul (typeIs_int s x u) PySem.F.entry_int_rmul (PySem.F.args_int_rmul_2 _ _) (int___rmul___int_list x u a #[y] m)
   ⟨g, rfl, ⟨_, g, rfl⟩, call_meets PySem.F.slot_list_mul ⟨_, g, rfl⟩ PySem.F.entry_list_mul (PySem.F.args_list_mul_2 _ _)
    (AutoListH.list___mul___list_int_3 a #[y] m x u (by simp [Builtin.List.listFitsIndex]; omega) (by simp; omega) (by simp [Builtin.List.listTooLong, sizeLine]; omega))
    ⟨g, h⟩⟩)
theorem op_mulL {v : V} {n : Nat} (hn : n ≤ 1000) (h : ∀ D, σ D = none → Q (.ref D) (upd σ D (.list (List.replicate n v)))) : OP2 c A env own X ρ Q (binaryOp .Mult) (.lst [v]) (.int n) σ := by
 refine ⟨?_⟩; rintro F P s _ _ R ⟨a, vs, m, rfl, p, rv⟩ ⟨u, rfl⟩
 have new := R.toC.new (Nat.le_refl _)
 have g := R.toC.sub _ _ p
 obtain ⟨l⟩ := vs
 obtain ⟨y, rfl, ry⟩ := rv.one
 refine mul_exact g (by omega) (by omega) ?_
 refine ⟨P, .ref _, _, .refl _, R.pushσ _ (x := .list (List.replicate n v)) rfl ⟨_, _, rfl, ?_⟩, rfl, h _ new.1⟩
 rw [listMul_foldl_if]
 simp only [Int.toNat_natCast, List.toList_toArray]
 clear h hn
 induction n with
 | zero => trivial
 | succ n ih =>
  rw [List.replicate_succ, List.replicate_succ]
  exact ⟨ry, ih⟩
theorem op_addL {a b : V} {l l' : List V} (ha : IsL σ a l) (hb : IsL σ b l') (hz : l.length + l'.length ≤ 1000) (h : Q (.lst (l ++ l')) σ) : OP2 c A env own X ρ Q (binaryOp .Add) a b σ := by
 refine ⟨?_⟩; rintro F P s _ _ R ra rb
 obtain ⟨x, vs, n, rfl, g, rv⟩ := ha.at R ra
 obtain ⟨y, vs', n', rfl, g', rv'⟩ := hb.at R rb
 have len : vs.size = l.length := by rw [← rv.length, Array.length_toList]
 have len' : vs'.size = l'.length := by rw [← rv'.length, Array.length_toList]
 exact PySem.P.add_list g g' ⟨_, .lst (l ++ l'), σ, addP_le _ _ _, R.pushP _ rfl, ⟨_, _, 0, rfl, addP_self _ _ _, by rw [Array.toList_append]; exact (rv.append rv').mono (addP_le _ _ _)⟩, h⟩ (by rw [len, len', sizeLine_eq]; omega)
theorem draw_it {F P : Prt} {it : Addr} (hn : ∀ o, ¬ F it o) : ∀ {l : List V} {s : Shared} {o : Obj} {E : Value → Shared → Prop}, Rep c env own (addP F it o) P ρ σ s → ItObj c.w.params P o l →
  wpAny (MM c) A (draw (.ref it) l.length) (fun xs s' => VRs c.w.params P l xs ∧ ∃ o', Rep c env own (addP F it o') P ρ σ s' ∧ ItObj c.w.params P o' []) E s
 | [], s, o, E, R, io => by
  show wpAny _ _ (pure []) _ E s
  exact wpAny_pure ⟨trivial, o, R, io⟩
 | v :: l, s, o, E, R, io => by
  show wpAny _ _ (pyNext (.ref it) >>= _) _ E s
  refine wpAny_bind (wpAny_mono (next_item R io hn) ?_ fun zz zz x => x)
  rintro r s₁ ⟨x, o', rfl, rx, R₁, io₁⟩
  refine wpAny_bind (wpAny_holding (wpAny_mono (draw_it hn R₁ io₁) ?_ fun zz zz x => x))
  rintro xs s₂ ⟨rs, o₂, R₂, io₂⟩
  exact wpAny_pure ⟨⟨rx, rs⟩, o₂, R₂, io₂⟩
theorem unpack_it {F P : Prt} {s : Shared} {x : Value} {v : V} {l : List V} {E : Value → Shared → Prop} (hh : A.handled = none) (R : Rep c env own F P ρ σ s) (hi : v = .lst l) (rv : VR c.w.params P v x) :
  wpAny (MM c) A (unpackItems x l.length none) (fun xs s' => VRs c.w.params P l xs ∧ Rep c env own F P ρ σ s') E s := by
 subst hi
 have rv' := rv
 obtain ⟨ad, vs, n, rfl, p, rvs⟩ := rv'
 have g := R.toC.sub _ _ p
 unfold unpackItems
 refine wpAny_bind ?_
 ·unfold notIterableAtAll
  refine wpAny_bind (wpAny_specialOf (T := "list") ⟨_, g, rfl⟩ slot_list_iter.lookup ?_)
  refine wpAny_pure ?_
  simp only [Bool.false_eq_true, if_false]
  refine wpAny_bind (wpAny_holding (wpAny_mono (iter_of R (.lst l) rv) ?_ fun zz zz x => x))
  rintro y s₁ ⟨it, o, rfl, hn, R₁, io⟩
  refine wpAny_bind (wpAny_holding (wpAny_mono (draw_it hn R₁ io) ?_ fun zz zz x => x))
  rintro xs s₂ ⟨rs, o₂, R₂, io₂⟩
  have hlen : ¬ xs.length < l.length := by rw [rs.length]; exact Nat.lt_irrefl _
  rw [if_neg hlen]
  refine wpAny_bind (wpAny_holding (wpAny_mono (next_end hh R₂ io₂ hn) ?_ fun zz zz x => x))
  rintro r s₃ ⟨rfl, R₃⟩
  simp only [Option.isSome_none, Bool.false_eq_true, if_false]
  exact wpAny_pure ⟨rs, R₃⟩
theorem AS_TupleL {ts : List Expr} {k : Nat} {pos : Pos} {l : List V} (hh : A.handled = none) (h : ASL c A env own X QU ts ρ l σ) (hn : autoParam ((assignEach ts env).length = l.length) aRfl)
  (hstar : autoParam ((assignEach ts env).findIdx? (·.1) = none) aRfl) : AS c A env own X QU (.Tuple ts k pos) ρ (.lst l) σ := .mk fun F P s x R rv => by
 rw [arm_assign_Tuple]
 refine wpAny_bind (wpAny_standAt ?_)
 unfold unpack
 rw [hn, hstar]
 refine wpAny_bind (wpAny_holding (wpAny_mono (unpack_it hh R rfl rv) ?_ fun zz zz x => x))
 rintro xs s₁ ⟨rs, R₁⟩
 exact h.run F P s₁ xs R₁ rs
end
end
section
noncomputable abbrev Tags := List (Option Str)
noncomputable abbrev Pl := List (Str × Nat)
noncomputable def tv : Option Str → V
 | some s => .str s
 | none => .none
noncomputable def MK : List Str := [S "formals", S "tags", S "used", S "places"]
structure MS (σ : Sto) (x d u p : Addr) (fs : List Str) (ts : Tags) : Prop where
 hx : σ x = some (.inst 240 d)
 hd : σ d = some (.dict MK [.lst (fs.map .str), .lst (ts.map tv), .ref u, .ref p])
 xu : x ≠ u
 xp : x ≠ p
 du : d ≠ u
 dp : d ≠ p
 up : u ≠ p
 hn : ts.length ≤ 100
noncomputable def MSt (σ : Sto) (u p : Addr) (us : List Int) (ps : Pl) : Sto := upd (upd σ u (.list (us.map .int))) p (.dict (ps.map (·.1)) (ps.map fun q => .int q.2))
theorem MSt.atx {σ : Sto} {x d u p : Addr} {fs : List Str} {ts : Tags} {us : List Int} {ps : Pl} (h : MS σ x d u p fs ts) : MSt σ u p us ps x = some (.inst 240 d) := by
 unfold MSt; rw [upd_ne h.xp, upd_ne h.xu]; exact h.hx
theorem MSt.atd {σ : Sto} {x d u p : Addr} {fs : List Str} {ts : Tags} {us : List Int} {ps : Pl} (h : MS σ x d u p fs ts) : MSt σ u p us ps d = some (.dict MK [.lst (fs.map .str), .lst (ts.map tv), .ref u, .ref p]) := by
 unfold MSt; rw [upd_ne h.dp, upd_ne h.du]; exact h.hd
theorem MSt.atu {σ : Sto} {x d u p : Addr} {fs : List Str} {ts : Tags} {us : List Int} {ps : Pl} (h : MS σ x d u p fs ts) : MSt σ u p us ps u = some (.list (us.map .int)) := by
 unfold MSt; rw [upd_ne h.up, upd_self]
theorem MSt.atp {σ : Sto} {u p : Addr} {us : List Int} {ps : Pl} : MSt σ u p us ps p = some (.dict (ps.map (·.1)) (ps.map fun q => .int q.2)) := upd_self ..
theorem MSt.setu {σ : Sto} {u p : Addr} {us us' : List Int} {ps : Pl} (h : u ≠ p) : upd (MSt σ u p us ps) u (.list (us'.map .int)) = MSt σ u p us' ps := by
 unfold MSt; rw [upd_comm _ _ _ (Ne.symm h), upd_upd]
theorem MSt.setp {σ : Sto} {u p : Addr} {us : List Int} {ps : Pl} {n : Str} {k : Nat} : upd (MSt σ u p us ps) p (.dict (ps.map (·.1) ++ [n]) ((ps.map fun q => .int q.2) ++ [.int k])) = MSt σ u p us (ps ++ [(n, k)]) := by
 unfold MSt; rw [upd_upd, List.map_append, List.map_append]; rfl
section
variable {c : Cx} {A : Around} {env : Env} {own : Bool} {X : XP} {ρ : Loc} {σ : Sto} {Q : V → Sto → Prop} {QS : Sto → Prop} {x d u p : Addr} {fs : List Str} {ts : Tags} {us : List Int} {ps : Pl}
theorem ms_formals (h : MS σ x d u p fs ts) (G : Good c) (q : Q (.lst (fs.map .str)) (MSt σ u p us ps)) : OP1 c A env own X ρ Q (fun o => getAttr o (S "formals") true) (.ref x) (MSt σ u p us ps) := get_ref (attr_ok G (by decide +kernel)) (MSt.atx h) (MSt.atd h) rfl rfl q
theorem ms_tags (h : MS σ x d u p fs ts) (G : Good c) (q : Q (.lst (ts.map tv)) (MSt σ u p us ps)) : OP1 c A env own X ρ Q (fun o => getAttr o (S "tags") true) (.ref x) (MSt σ u p us ps) := get_ref (attr_ok G (by decide +kernel)) (MSt.atx h) (MSt.atd h) rfl rfl q
theorem ms_used (h : MS σ x d u p fs ts) (G : Good c) (q : Q (.ref u) (MSt σ u p us ps)) : OP1 c A env own X ρ Q (fun o => getAttr o (S "used") true) (.ref x) (MSt σ u p us ps) := get_ref (attr_ok G (by decide +kernel)) (MSt.atx h) (MSt.atd h) rfl rfl q
theorem ms_places (h : MS σ x d u p fs ts) (G : Good c) (q : Q (.ref p) (MSt σ u p us ps)) : OP1 c A env own X ρ Q (fun o => getAttr o (S "places") true) (.ref x) (MSt σ u p us ps) := get_ref (attr_ok G (by decide +kernel)) (MSt.atx h) (MSt.atd h) rfl rfl q
theorem ms_used_at {o i : Expr} {k : Nat} {m : Int} (h : MS σ x d u p fs ts) (hm : us[k]? = some m) (hk : k ≤ 1000) (hs : PlainAt i) (q : Q (.int m) (MSt σ u p us ps)) : OP2 c A env own X ρ Q (subscriptTail o i) (.ref u) (.int k) (MSt σ u p us ps) :=
 sub_ref (MSt.atu h) (v := .int m) (by rw [Int.toNat_natCast, List.getElem?_map, hm]; rfl) (by omega) (by omega) hs q
theorem ms_tag_at {o i : Expr} {k : Nat} {t : Option Str} (hm : ts[k]? = some t) (hk : k ≤ 1000) (hs : PlainAt i) (q : Q (tv t) σ) : OP2 c A env own X ρ Q (subscriptTail o i) (.lst (ts.map tv)) (.int k) σ :=
 sub_lstN (by rw [List.getElem?_map, hm]; rfl) (by omega) hs q
theorem op_tag {t : Option Str} {n : Str} (q : Q (.bool (decide (t = some n))) σ) : OP2 c A env own X ρ Q (compareOp .Eq) (tv t) (.str n) σ := by
 cases t with
 | none => exact op_eqNS q
 | some s =>
  refine op_eqS ?_
  rw [show (s == n) = decide (some s = some n) by rw [Bool.eq_iff_iff]; simp]
  exact q
theorem assoc_isSome {n : Str} : ∀ {ps : Pl}, (assoc (ps.map (·.1)) (ps.map fun q => .int q.2) n).isSome = decide (n ∈ ps.map (·.1))
 | [] => rfl
 | q :: ps => by
  have ih := assoc_isSome (n := n) (ps := ps)
  rw [List.map_cons, List.map_cons]
  unfold assoc
  by_cases e : (q.1 == n) = true
  ·have e' : q.1 = n := by simpa using e
   rw [if_pos e]; simp [e']
  ·have e' : ¬ q.1 = n := by simpa using e
   rw [if_neg e, ih]
   rw [decide_eq_decide]
   simp only [List.mem_cons]
   constructor
   ·exact .inr
   ·rintro (h | h)
    ·exact absurd h.symm e'
    ·exact h
theorem ms_in {n : Str} (hm : ∃ o, c.g.get? sysModules = some o) (h : MS σ x d u p fs ts) (q : Q (.bool (decide (n ∈ ps.map (·.1)))) (MSt σ u p us ps)) : OP2 c A env own X ρ Q (compareOp .In) (.str n) (.ref p) (MSt σ u p us ps) :=
 op_inD hm (.inr ⟨p, rfl, MSt.atp⟩) (by rw [assoc_isSome]; exact q)
theorem ms_notIn {n : Str} (hm : ∃ o, c.g.get? sysModules = some o) (h : MS σ x d u p fs ts) (q : Q (.bool (!decide (n ∈ ps.map (·.1)))) (MSt σ u p us ps)) : OP2 c A env own X ρ Q (compareOp .NotIn) (.str n) (.ref p) (MSt σ u p us ps) :=
 op_notInD hm (.inr ⟨p, rfl, MSt.atp⟩) (by rw [assoc_isSome]; exact q)
theorem ms_setp {n : Str} {k : Nat} (h : MS σ x d u p fs ts) (nd : (ps.map (·.1)).Nodup) (hn : n ∉ ps.map (·.1)) (hz : ps.length ≤ 1000) (q : QS (MSt σ u p us (ps ++ [(n, k)]))) : OP3 c A env own (.ref p) (.str n) (.int k) ρ (MSt σ u p us ps) QS X :=
 set_dict MSt.atp nd hn (by rw [List.length_map]; exact hz) (by rw [MSt.setp]; exact q)
theorem ms_setu {k : Nat} {m : Int} (h : MS σ x d u p fs ts) (hk : k < us.length) (hz : us.length ≤ 1000) (q : QS (MSt σ u p (us.set k m) ps)) : OP3 c A env own (.ref u) (.int k) (.int m) ρ (MSt σ u p us ps) QS X :=
 set_list (MSt.atu h) (by rw [List.length_map]; exact hk) (by rw [List.length_map]; omega) (by
  have : (us.map V.int).set k (.int m) = (us.set k m).map .int := by rw [List.map_set]
  rw [this, MSt.setu h.up]; exact q)
end
theorem Good.mods {c : Cx} (G : Good c) : ∃ o, c.g.get? sysModules = some o := ⟨o1 c.w.params, G.g 1 _ (by kernel_rfl) (by decide)⟩
variable {c : Cx} {σ : Sto} {Q : V → Sto → Prop} {x d u p : Addr} {fs : List Str} {ts : Tags} {us : List Int} {ps : Pl}
end
section
variable {c : Cx} {σ : Sto} {Q : V → Sto → Prop} {x d u p : Addr} {fs : List Str} {ts : Tags} {us : List Int} {ps : Pl}
noncomputable abbrev St := List Int × Pl
noncomputable def exIn (name : Str) : Nat → Tags → St → Option St
 | _, [], st => some st
 | k, t :: r, (us, ps) => if t = some name ∧ us[k]? = some 0 then (if name ∈ ps.map (·.1) then none else exIn name (k + 1) r (us.set k 2, ps ++ [(name, k)])) else exIn name (k + 1) r (us, ps)
noncomputable def exAll (ts : Tags) : List Str → St → Option St
 | [], st => some st
 | n :: r, st => if n = S "..." then exAll ts r st else match exIn n 0 ts st with | some st' => exAll ts r st' | none => none
structure Fine (ts : Tags) (st : St) : Prop where
 len : st.1.length = ts.length
 nd : (st.2.map (·.1)).Nodup
 sz : st.2.length ≤ 200
theorem fn_exact (G : Good c) (h : MS σ x d u p fs ts) {st st' : St} (fine : Fine ts st) (hz : st.2.length + fs.length * ts.length ≤ 200) (hs : exAll ts fs st = some st') (q : Fine ts st' → Q .none (MSt σ u p st'.1 st'.2)) :
  FN c 1 (.ref 204) [.ref x] (MSt σ u p st.1 st.2) Q := by
 refine go_md_23_1 G fun A env room ok hsc => ?_
 refine loc_md_23_1 G hsc fun l0 l1 l2 g1 g2 g3 g4 => ?_
 have mods := G.mods
 refine SS_cons (SX_For (I := fun l ρ' σ' => ∃ (ns : List Str) (s₁ : St), l = ns.map .str ∧ exAll ts ns s₁ = some st' ∧ Fine ts s₁ ∧ s₁.2.length + ns.length * ts.length ≤ 200 ∧ ρ' 0 = some (.ref x) ∧ σ' = MSt σ u p s₁.1 s₁.2) room.handled ?_ ?_ ?_)
 ·intro K₀ kI
  lk
  exact ⟨_, .lst _, kI.go _ _ ⟨fs, st, rfl, hs, fine, hz, rfl, rfl⟩⟩
 ·intro v l ρ' σ' hI K₁ K₂ kN kB
  refine exl2 hI fun ns s₁ hJ => ?_
  refine andl6 hJ fun e h1 f1 z1 h0 hq5 => ?_
  clear hI hJ
  obtain rfl := hq5
  cases ns with
  | nil => cases e
  | cons n ns =>
   cases e
   simp only [List.length_cons, Nat.add_mul, Nat.one_mul] at z1
   unfold exAll at h1
   lk
   refine op_neS ?_
   lk
   by_cases hn : n = S "..."
   ·rw [if_pos hn] at h1
    subst hn
    rw [show (S "..." != Str.ofString "...") = false by decide +kernel]
    lk
    exact ⟨ns, s₁, rfl, h1, f1, by omega, h0, rfl⟩
   ·rw [if_neg hn] at h1
    rw [show (n != Str.ofString "...") = true by rw [bne_iff_ne]; exact hn]
    cases hi : exIn n 0 ts s₁ with
    | none => rw [hi] at h1; cases h1
    | some s₂ =>
     rw [hi] at h1
     refine SS_cons (SX_For (I := fun l ρ' σ' => ∃ (k : Nat) (us : List Int) (ps : Pl), l = upFrom k 1 (ts.length - k) ∧ exIn n k (ts.drop k) (us, ps) = some s₂ ∧ Fine ts (us, ps) ∧ ps.length + (ts.length - k) ≤ s₁.2.length + ts.length ∧ k ≤ ts.length ∧ ρ' 0 = some (.ref x) ∧ ρ' 1 = some (.str n) ∧ σ' = MSt σ u p us ps) room.handled ?_ ?_ ?_)
     ·intro K₀ kI
      lk
      refine bi_lenN (.inl rfl) (List.length_map _) (by have := h.hn; omega) ?_
      lk
      refine bi_range ?_
      exact ⟨_, its_range (by have := h.hn; omega), kI.go _ _ ⟨0, s₁.1, s₁.2, rfl, hi, f1, by omega, by omega, h0, rfl, rfl⟩⟩
     ·intro v l ρ₂ σ₂ hI K₁ K₂ kN kB
      refine exl3 hI fun k us ps hJ => ?_
      refine andl8 hJ fun e h2 f2 z2 kz h0 h1' hq7 => ?_
      clear hI hJ
      obtain rfl := hq7
      obtain ⟨hk, rfl, rfl⟩ := upFrom_cons e
      have hn := h.hn
      have ht : ts[k]? = some ts[k] := List.getElem?_eq_getElem hk
      have hd : ts.drop k = ts[k] :: ts.drop (k + 1) := List.drop_eq_getElem_cons hk
      have hlen : us.length = ts.length := f2.len
      have hu : us[k]? = some us[k] := List.getElem?_eq_getElem (by omega)
      rw [hd] at h2
      unfold exIn at h2
      have no : ¬ (ts[k] = some n ∧ us[k]? = some 0) → ∃ (k' : Nat) (us' : List Int) (ps' : Pl), upFrom ((k + 1 : Nat) : Int) 1 (ts.length - (k + 1)) = upFrom k' 1 (ts.length - k') ∧ exIn n k' (ts.drop k') (us', ps') = some s₂ ∧ Fine ts (us', ps') ∧ ps'.length + (ts.length - k') ≤ s₁.2.length + ts.length ∧ k' ≤ ts.length ∧
        upl ρ₂ 2 (V.int k) 0 = some (.ref x) ∧ upl ρ₂ 2 (V.int k) 1 = some (.str n) ∧ MSt σ u p us ps = MSt σ u p us' ps' := fun q => by
       rw [if_neg q] at h2
       exact ⟨k + 1, us, ps, rfl, h2, f2, by omega, hk, h0, h1', rfl⟩
      lk
      refine ms_tag_at ht (by omega) (fun zz zz zz => rfl) ?_
      lk
      refine op_tag ?_
      lk
      refine ite_dec (fun ht1 => ?_) fun ht1 => ?_
      ·lk
       refine ms_used_at h hu (by omega) (fun zz zz zz => rfl) ?_
       lk
       refine ite_dec (fun hu0 => ?_) fun hu0 => ?_
       ·lk
        rw [if_pos ⟨ht1, by rw [hu, hu0]⟩] at h2
        refine ite_dec (fun hm => ?_) fun hm => ?_
        ·rw [if_pos hm] at h2; cases h2
        ·rw [if_neg hm] at h2
         lk
         refine ms_setp h f2.nd hm (by omega) ?_
         lk
         refine ms_setu h (by omega) (by omega) ?_
         lk
         refine ⟨k + 1, _, _, rfl, h2, ⟨by rw [List.length_set]; exact hlen, ?_, ?_⟩, ?_, hk, h0, h1', rfl⟩
         ·rw [List.map_append]
          exact List.nodup_append.mpr ⟨f2.nd, by simp, by
           intro a ha b hb e
           rw [List.map_cons, List.map_nil, List.mem_singleton] at hb
           exact hm (by rw [← show a = n from e.trans hb]; exact ha)⟩
         ·simp only [List.length_append, List.length_cons, List.length_nil]; omega
         ·simp only [List.length_append, List.length_cons, List.length_nil]; omega
       ·lk
        refine no fun q => hu0 ?_
        have := q.2
        rw [hu] at this
        simpa using this
      ·lk
       exact no fun q => ht1 q.1
     ·intro ρ₂ σ₂ hI
      refine exl3 hI fun k us ps hJ => ?_
      refine andl8 hJ fun e h2 f2 z2 kz h0 h1' hq7 => ?_
      clear hI hJ
      obtain rfl := hq7
      have := upFrom_nil e
      rw [List.drop_eq_nil_of_le (by omega)] at h2
      unfold exIn at h2
      cases h2
      lk
      exact ⟨ns, (us, ps), rfl, h1, f2, by dsimp only; omega, h0, rfl⟩
 ·intro ρ' σ' hI
  refine exl2 hI fun ns s₁ hJ => ?_
  refine andl6 hJ fun e h1 f1 z1 h0 hq5 => ?_
  clear hI hJ
  obtain rfl := hq5
  cases ns with
  | cons n ns => cases e
  | nil =>
   unfold exAll at h1
   cases h1
   lk
   exact q f1
end
section
variable {c : Cx} {σ : Sto} {Q : V → Sto → Prop} {x d u p : Addr} {fs : List Str} {ts : Tags} {us : List Int} {ps : Pl}
noncomputable def pass (n : Str) (t : Option Str) (m : Int) : Bool := m == 2 || (match t with | none => true | some s => s == S "" || !Txt.startswith n s)
noncomputable def parOne (n : Str) (ts : Tags) (us : List Int) : Bool := (List.range ts.length).all fun k => pass n (ts[k]?.join) (us[k]?.getD 0)
noncomputable def parOk (ts : Tags) (us : List Int) (ps : Pl) : List Str → Bool
 | [] => true
 | n :: r => n == S "..." || ((decide (n ∈ ps.map (·.1)) || parOne n ts us) && parOk ts us ps r)
theorem fn_partial_of (G : Good c) (h : MS σ x d u p fs ts) {n : Str} (hl : us.length = ts.length) (ho : parOne n ts us = true) (q : Q .none (MSt σ u p us ps)) : FN c 1 (.ref 218) [.ref x, .str n] (MSt σ u p us ps) Q := by
 refine go_md_23_3 G fun A env room ok hsc => ?_
 refine loc_md_23_3 G hsc fun l0 l1 l2 l3 g1 g2 g3 g4 => ?_
 have mods := G.mods
 have hn := h.hn
 refine SS_cons (SX_For (I := fun l ρ' σ' => ∃ (k : Nat), l = upFrom k 1 (ts.length - k) ∧ ρ' 0 = some (.ref x) ∧ ρ' 1 = some (.str n) ∧ σ' = MSt σ u p us ps) room.handled ?_ ?_ ?_)
 ·intro K₀ kI
  lk
  refine bi_lenN (.inl rfl) (List.length_map _) (by omega) ?_
  lk
  refine bi_range ?_
  exact ⟨_, its_range (by omega), kI.go _ _ ⟨0, rfl, rfl, rfl, rfl⟩⟩
 ·intro v l ρ₂ σ₂ hI K₁ K₂ kN kB
  refine exl1 hI fun k hJ => ?_
  refine andl4 hJ fun e h0 h1 hq3 => ?_
  clear hI hJ
  obtain rfl := hq3
  obtain ⟨hk, rfl, rfl⟩ := upFrom_cons e
  have ht : ts[k]? = some ts[k] := List.getElem?_eq_getElem hk
  have hu : us[k]? = some us[k] := List.getElem?_eq_getElem (by omega)
  have hp : pass n ts[k] us[k] = true := by
   have := List.all_eq_true.mp ho k (List.mem_range.mpr hk)
   rw [ht, hu] at this
   exact this
  unfold pass at hp
  lk
  refine ms_tag_at ht (by omega) (fun zz zz zz => rfl) ?_
  lk
  refine ms_used_at h hu (by omega) (fun zz zz zz => rfl) ?_
  lk
  refine ite_dec (fun hm => ?_) fun hm => ?_
  ·lk
   cases hts : ts[k] with
   | none =>
    lk
    exact ⟨k + 1, rfl, h0, h1, rfl⟩
   | some s =>
    rw [hts] at hp
    have hm' : (us[k] == 2) = false := by simpa using hm
    rw [hm', Bool.false_or] at hp
    dsimp only at hp
    lk
    refine op_neS ?_
    lk
    refine ite_b (fun hs => ?_) fun hs => ?_
    ·have hs' : (s == S "") = false := by simpa using hs
     rw [hs', Bool.false_or, Bool.not_eq_true'] at hp
     lk
     refine ⟨_, MT_str PySem.F.slot_str_startswith PySem.F.type_str_startswith, callee_builtin, ?_⟩
     lk
     refine m_startswith ?_
     rw [hp]
     lk
     exact ⟨k + 1, rfl, h0, h1, rfl⟩
    ·lk
     exact ⟨k + 1, rfl, h0, h1, rfl⟩
  ·lk
   exact ⟨k + 1, rfl, h0, h1, rfl⟩
 ·intro ρ₂ σ₂ hI
  refine exl1 hI fun k hJ => ?_
  refine andl4 hJ fun e h0 h1 hq3 => ?_
  clear hI hJ
  obtain rfl := hq3
  lk
  exact q
theorem fn_partial (G : Good c) (h : MS σ x d u p fs ts) (hl : us.length = ts.length) (ho : parOk ts us ps fs = true) (q : Q .none (MSt σ u p us ps)) : FN c 2 (.ref 211) [.ref x] (MSt σ u p us ps) Q := by
 refine go_md_23_2 G fun A env room ok hsc => ?_
 refine loc_md_23_2 G hsc fun l0 l1 => ?_
 have mods := G.mods
 refine SS_cons (SX_For (I := fun l ρ' σ' => ∃ (ns : List Str), l = ns.map .str ∧ parOk ts us ps ns = true ∧ ρ' 0 = some (.ref x) ∧ σ' = MSt σ u p us ps) room.handled ?_ ?_ ?_)
 ·intro K₀ kI
  lk
  exact ⟨_, .lst _, kI.go _ _ ⟨fs, rfl, ho, rfl, rfl⟩⟩
 ·intro v l ρ₂ σ₂ hI K₁ K₂ kN kB
  refine exl1 hI fun ns hJ => ?_
  refine andl4 hJ fun e h1 h0 hq3 => ?_
  clear hI hJ
  obtain rfl := hq3
  cases ns with
  | nil => cases e
  | cons n ns =>
   cases e
   unfold parOk at h1
   lk
   refine op_eqS ?_
   lk
   refine ite_b (fun hn => ?_) fun hn => ?_
   ·lk
    exact q
   ·have hn' : (n == S "...") = false := hn
    rw [hn', Bool.false_or, Bool.and_eq_true] at h1
    lk
    by_cases hm : n ∈ ps.map (·.1)
    ·rw [decide_eq_true hm]
     lk
     exact ⟨ns, rfl, h1.2, h0, rfl⟩
    ·have h2 := h1.1
     rw [decide_eq_false hm] at h2 ⊢
     lk
     refine ⟨_, MT_inst (C := 240) (f := 218) ⟨by rw [G.K]; kernel_rfl, by rw [G.K]; kernel_rfl, by rw [G.K]; kernel_rfl, by rw [G.K]; kernel_rfl⟩ (MSt.atx h) (MSt.atd h) rfl, callee_K (by rw [G.K]; kernel_rfl), ?_⟩
     lk
     refine OPN_at room (fn_partial_of G h hl (by simpa using h2) ?_)
     refine ⟨rfl, ?_⟩
     lk
     exact ⟨ns, rfl, h1.2, h0, rfl⟩
 ·intro ρ₂ σ₂ hI
  refine exl1 hI fun ns hJ => ?_
  refine andl4 hJ fun e h1 h0 hq3 => ?_
  clear hI hJ
  obtain rfl := hq3
  lk
  exact q
noncomputable def free (ts : Tags) (us : List Int) (k : Nat) : Bool := us[k]? == some 0 && (ts[k]? == some none || ts[k]? == some (some (S "")))
theorem fn_is_free (G : Good c) (h : MS σ x d u p fs ts) {k : Nat} (hl : us.length = ts.length) (hk : k < ts.length) (q : Q (.bool (free ts us k)) (MSt σ u p us ps)) : FN c 1 (.ref 232) [.ref x, .int k] (MSt σ u p us ps) Q := by
 refine go_md_23_5 G fun A env room ok hsc => ?_
 refine loc_md_23_5 G hsc fun l0 l1 => ?_
 have hn := h.hn
 have ht : ts[k]? = some ts[k] := List.getElem?_eq_getElem hk
 have hu : us[k]? = some us[k] := List.getElem?_eq_getElem (by omega)
 unfold free at q
 rw [hu, ht] at q
 lk
 refine ms_used_at h hu (by omega) (fun zz zz zz => rfl) ?_
 lk
 refine ite_dec (fun hm => ?_) fun hm => ?_
 ·rw [show (some us[k] == some (0 : Int)) = true by simpa using hm, Bool.true_and] at q
  lk
  refine ms_tag_at ht (by omega) (fun zz zz zz => rfl) ?_
  lk
  cases hts : ts[k] with
  | none =>
   rw [hts] at q
   lk
   exact q
  | some s =>
   rw [hts] at q
   lk
   refine ms_tag_at ht (by omega) (fun zz zz zz => rfl) ?_
   rw [hts]
   lk
   refine op_eqS ?_
   have e : (some (some s) == some none || some (some s) == some (some (S ""))) = (s == S "") := by
    rw [Bool.eq_iff_iff]; simp
   rw [e] at q
   exact q
 ·rw [show (some us[k] == some (0 : Int)) = false by simpa using hm, Bool.false_and] at q
  rw [decide_eq_false hm]
  exact q
noncomputable def nextFree (ts : Tags) (us : List Int) : Nat → Nat → Nat
 | 0, k => k
 | f + 1, k => if k < ts.length ∧ free ts us k = false then nextFree ts us f (k + 1) else k
noncomputable def posAll (ts : Tags) : List Str → Nat → St → St
 | [], _, st => st
 | n :: r, k, (us, ps) => if n = S "..." then (us, ps) else if n ∈ ps.map (·.1) then posAll ts r k (us, ps) else
  if nextFree ts us (ts.length - k) k < ts.length then posAll ts r (nextFree ts us (ts.length - k) k) (us.set (nextFree ts us (ts.length - k) k) 2, ps ++ [(n, nextFree ts us (ts.length - k) k)])
  else posAll ts r (nextFree ts us (ts.length - k) k) (us, ps)
theorem nextFree_step {k : Nat} (hk : k < ts.length) (hf : free ts us k = false) : nextFree ts us (ts.length - k) k = nextFree ts us (ts.length - (k + 1)) (k + 1) := by
 rw [show ts.length - k = (ts.length - (k + 1)) + 1 by omega]
 conv => lhs; unfold nextFree
 rw [if_pos ⟨hk, hf⟩]
theorem nextFree_stop {k f : Nat} (h : ¬ (k < ts.length ∧ free ts us k = false)) : nextFree ts us f k = k := by
 cases f with
 | zero => rfl
 | succ f => unfold nextFree; rw [if_neg h]
theorem fn_positional (G : Good c) (h : MS σ x d u p fs ts) (fine : Fine ts (us, ps)) (hz : ps.length + fs.length ≤ 200) (q : Fine ts (posAll ts fs 0 (us, ps)) → Q .none (MSt σ u p (posAll ts fs 0 (us, ps)).1 (posAll ts fs 0 (us, ps)).2)) : FN c 2 (.ref 225) [.ref x] (MSt σ u p us ps) Q := by
 refine go_md_23_4 G fun A env room ok hsc => ?_
 refine loc_md_23_4 G hsc fun l0 l1 l2 g1 => ?_
 have mods := G.mods
 have hn := h.hn
 generalize hfin : posAll ts fs 0 (us, ps) = fin at q
 lk
 refine SX_For (I := fun l ρ' σ' => ∃ (ns : List Str) (k : Nat) (us' : List Int) (ps' : Pl), l = ns.map .str ∧ posAll ts ns k (us', ps') = fin ∧ Fine ts (us', ps') ∧ ps'.length + ns.length ≤ 200 ∧ k ≤ ts.length ∧ ρ' 0 = some (.ref x) ∧ ρ' 1 = some (.int k) ∧ σ' = MSt σ u p us' ps') room.handled ?_ ?_ ?_
 ·intro K₀ kI
  lk
  exact ⟨_, .lst _, kI.go _ _ ⟨fs, 0, us, ps, rfl, hfin, fine, hz, Nat.zero_le _, rfl, rfl, rfl⟩⟩
 ·intro v l ρ₂ σ₂ hI K₁ K₂ kN kB
  refine exl4 hI fun ns k us' ps' hJ => ?_
  refine andl8 hJ fun e h1 f1 z1 hk h0 hp1 hq7 => ?_
  clear hI hJ
  obtain rfl := hq7
  cases ns with
  | nil => cases e
  | cons n ns =>
   cases e
   unfold posAll at h1
   simp only [List.length_cons] at z1
   lk
   refine op_eqS ?_
   lk
   refine ite_b (fun hn => ?_) fun hn => ?_
   ·have hn' : n = S "..." := by simpa using hn
    rw [if_pos hn'] at h1
    rw [← h1] at q
    lk
    exact q f1
   ·have hn' : ¬ n = S "..." := by simpa using hn
    rw [if_neg hn'] at h1
    lk
    by_cases hm : n ∈ ps'.map (·.1)
    ·rw [if_pos hm] at h1
     rw [decide_eq_true hm]
     lk
     exact ⟨ns, k, us', ps', rfl, h1, f1, by omega, hk, h0, hp1, rfl⟩
    ·rw [if_neg hm] at h1
     rw [decide_eq_false hm]
     lk
     refine SX_While (n := ts.length - k) (I := fun m ρ' σ' => ∃ (j : Nat), m = ts.length - j ∧ j ≤ ts.length ∧ nextFree ts us' (ts.length - j) j = nextFree ts us' (ts.length - k) k ∧ ρ' 0 = some (.ref x) ∧ ρ' 1 = some (.int j) ∧ ρ' 2 = some (.str n) ∧ σ' = MSt σ u p us' ps') ⟨k, rfl, hk, rfl, h0, hp1, rfl, rfl⟩ ?_
     intro m ρ₃ σ₃ hI K₁ K₂ kN kB
     refine exl1 hI fun j hJ => ?_
     refine andl7 hJ fun hq0 hj hnf h0 hp1 hp2 hq6 => ?_
     clear hI hJ
     obtain rfl := hq0
     obtain rfl := hq6
     lk
     refine bi_lenN (.inl rfl) (List.length_map _) (by omega) ?_
     lk
     have after : ¬ (j < ts.length ∧ free ts us' j = false) → SS c A env true (fun zz zz => True) (fun zz zz => True) (fun zz zz => True) No (fun zz zz => True) [] ρ₃ (MSt σ u p us' ps') := fun zz => SS_nil trivial
     refine ite_dec (fun hj1 => ?_) fun hj1 => ?_
     ·lk
      refine ⟨_, MT_inst (C := 240) (f := 232) ⟨by rw [G.K]; kernel_rfl, by rw [G.K]; kernel_rfl, by rw [G.K]; kernel_rfl, by rw [G.K]; kernel_rfl⟩ (MSt.atx h) (MSt.atd h) rfl, callee_K (by rw [G.K]; kernel_rfl), ?_⟩
      lk
      refine OPN_at room (fn_is_free G h f1.len (by omega) ?_)
      lk
      cases hf : free ts us' j with
      | false =>
       lk
       refine ⟨ts.length - (j + 1), by omega, j + 1, rfl, by omega, ?_, h0, ?_, hp2, rfl⟩
       ·rw [← hnf, nextFree_step (by omega) hf]
       ·rfl
      | true =>
       rw [← hnf, nextFree_stop (by rw [hf]; simp)] at h1
       rw [if_pos (by omega)] at h1
       lk
       refine bi_lenN (.inl rfl) (List.length_map _) (by omega) ?_
       lk
       rw [decide_eq_true hj1]
       lk
       refine ms_setp h f1.nd hm (by have := f1.sz; omega) ?_
       lk
       refine ms_setu h (by have := f1.len; dsimp only at this; omega) (by have := f1.len; dsimp only at this; omega) ?_
       lk
       refine ⟨ns, j, _, _, rfl, h1, ⟨by rw [List.length_set]; exact f1.len, ?_, ?_⟩, ?_, hj, h0, hp1, rfl⟩
       ·rw [List.map_append]
        exact List.nodup_append.mpr ⟨f1.nd, by simp, by
         intro a ha b hb e
         rw [List.map_cons, List.map_nil, List.mem_singleton] at hb
         exact hm (by rw [← show a = n from e.trans hb]; exact ha)⟩
       ·simp only [List.length_append, List.length_cons, List.length_nil]; omega
       ·simp only [List.length_append, List.length_cons, List.length_nil]; omega
     ·rw [← hnf, nextFree_stop (by omega), if_neg (by omega)] at h1
      lk
      refine bi_lenN (.inl rfl) (List.length_map _) (by omega) ?_
      lk
      rw [decide_eq_false hj1]
      lk
      exact ⟨ns, j, us', ps', rfl, h1, f1, by omega, hj, h0, hp1, rfl⟩
 ·intro ρ₂ σ₂ hI
  refine exl4 hI fun ns k us' ps' hJ => ?_
  refine andl8 hJ fun e h1 f1 z1 hk h0 hp1 hq7 => ?_
  clear hI hJ
  obtain rfl := hq7
  cases ns with
  | cons n ns => cases e
  | nil =>
   unfold posAll at h1
   rw [← h1] at q
   lk
   exact q f1
end
section
variable {c : Cx} {σ : Sto} {Q : V → Sto → Prop} {x d u p : Addr} {fs : List Str} {ts : Tags} {us : List Int} {ps : Pl}
noncomputable def zeroAt (us : List Int) : V → Option V
 | .int k => if us[k.toNat]? = some 0 then some (.int k) else none
 | _ => none
theorem upFrom_length (n : Nat) : ∀ x s, (upFrom x s n).length = n := by
 induction n with
 | zero => intro x s; rfl
 | succ n ih => intro x s; show (upFrom (x + s) s n).length + 1 = n + 1; rw [ih]
theorem mem_upFrom {n : Nat} {v : V} : ∀ {k : Nat}, v ∈ upFrom (k : Int) 1 n → ∃ j, k ≤ j ∧ j < k + n ∧ v = .int j := by
 induction n with
 | zero => intro k h; cases h
 | succ n ih =>
  intro k h
  rcases List.mem_cons.mp (show v ∈ V.int (k : Int) :: upFrom ((k : Int) + 1) 1 n from h) with rfl | h
  ·exact ⟨k, Nat.le_refl _, by omega, rfl⟩
  ·obtain ⟨j, h1, h2, h3⟩ := ih (k := k + 1) h
   exact ⟨j, by omega, by omega, h3⟩
noncomputable def restOf (ts : Tags) (us : List Int) : List V := (upFrom 0 1 ts.length).filterMap (zeroAt us)
theorem fn_rest (G : Good c) (h : MS σ x d u p fs ts) (hl : us.length = ts.length) (q : Q (.lst (restOf ts us)) (MSt σ u p us ps)) : FN c 1 (.ref 237) [.ref x] (MSt σ u p us ps) Q := by
 refine go_md_23_6 G fun A env room ok hsc => ?_
 refine loc_md_23_6 G hsc fun l0 g1 g2 => ?_
 have hn := h.hn
 lk
 refine EV_ListCompF (J := fun ρ' => ρ' 2 = some (.ref x)) (ρl := [none, none, some (.ref x)]) (zeroAt us) room.handled ok ⟨rfl, by decide +kernel, by decide +kernel⟩ ⟨rfl, rfl, ⟨0, .inl l0, rfl⟩, trivial⟩ rfl ?_
 lk
 refine bi_lenN (.inl rfl) (List.length_map _) (by omega) ?_
 lk
 refine bi_range ?_
 refine ⟨_, its_range (by omega), by rw [upFrom_length]; omega, ⟨?_⟩, q⟩
 intro cenv hcs okc σ' ρ' v hv hJ hle
 have e : cenv.scope.names = [(S ".0", .local), (S "place", .local), (S "self", .cell)] := by rw [hcs]; simp [relabel, ok.kind, l0.1.1]
 have l1 : LocAt cenv 1 (S "place") .local := LocAt_of e (by decide +kernel) rfl (by decide +kernel)
 have l2 : LocAt cenv 2 (S "self") .cell := LocAt_of e (by decide +kernel) rfl (by decide +kernel)
 obtain ⟨k, -, hk, rfl⟩ := mem_upFrom (k := 0) hv
 have hu : us[k]? = some us[k] := List.getElem?_eq_getElem (by omega)
 lk
 refine ⟨hJ, rfl, TS_one ?_⟩
 lk
 refine get_ref (attr_ok G (by decide +kernel)) (hle _ _ (MSt.atx h)) (hle _ _ (MSt.atd h)) rfl rfl ?_
 lk
 refine sub_ref (hle _ _ (MSt.atu h)) (v := .int us[k]) (by rw [Int.toNat_natCast, List.getElem?_map, hu]; rfl) (by omega) (by omega) (fun zz zz zz => rfl) ?_
 lk
 refine ⟨rfl, ?_⟩
 refine ite_dec (fun hz => ?_) fun hz => ?_
 ·lk
  refine ⟨rfl, ?_⟩
  show (if us[(k : Int).toNat]? = some 0 then _ else _) = _
  rw [Int.toNat_natCast, if_pos (by rw [hu, hz])]
 ·show (if us[(k : Int).toNat]? = some 0 then _ else _) = _
  rw [Int.toNat_natCast, if_neg (by rw [hu]; simpa using hz)]
theorem fn_Matching_init (G : Good c) (hne : x ≠ d) (hx : σ x = some (.inst 240 d)) (hd : σ d = some (.dict [] [])) (hz : ts.length ≤ 100)
  (h : ∀ u p, σ u = none → σ p = none → u ≠ p → Q .none (MSt (upd σ d (.dict MK [.lst (fs.map .str), .lst (ts.map tv), .ref u, .ref p])) u p (List.replicate ts.length 0) [])) :
  FN c 1 (.ref 197) [.ref x, .lst (fs.map .str), .lst (ts.map tv)] σ Q := by
 refine go_md_23_0 G fun A env room ok hs => ?_
 refine loc_md_23_0 G hs fun l0 l1 l2 g1 => ?_
 have hX : ∀ o, upd σ d o x = some (.inst 240 d) := fun o => (upd_ne hne).trans hx
 lk
 refine ⟨x, d, 240, _, _, rfl, hx, hd, set_ok G (by decide +kernel), Nat.le_of_ble_eq_true rfl, ?_⟩
 lk
 refine ⟨x, d, 240, _, _, rfl, hX _, upd_self .., set_ok G (by decide +kernel), Nat.le_of_ble_eq_true rfl, ?_⟩
 rw [upd_upd]
 lk
 refine bi_lenN (.inl rfl) (List.length_map _) (by omega) ?_
 refine op_mulL (by omega) fun u hu => ?_
 have hud : u ≠ d := fun e => by rw [e, upd_self] at hu; cases hu
 have hux : u ≠ x := fun e => by rw [e, hX] at hu; cases hu
 have hu' : σ u = none := by rwa [upd_ne hud] at hu
 lk
 refine ⟨x, d, 240, _, _, rfl, (upd_ne (Ne.symm hux)).trans (hX _), (upd_ne (Ne.symm hud)).trans (upd_self ..), set_ok G (by decide +kernel), Nat.le_of_ble_eq_true rfl, ?_⟩
 rw [upd_comm _ _ _ hud, upd_upd]
 lk
 refine EV_Dict0 fun p hp => ?_
 have hpu : p ≠ u := fun e => by rw [e, upd_self] at hp; cases hp
 have hpd : p ≠ d := fun e => by rw [e, upd_ne (Ne.symm hud), upd_self] at hp; cases hp
 have hpx : p ≠ x := fun e => by rw [e, upd_ne (Ne.symm hux), hX] at hp; cases hp
 have hp' : σ p = none := by rwa [upd_ne hpu, upd_ne hpd] at hp
 lk
 refine ⟨x, d, 240, _, _, rfl, (upd_ne (Ne.symm hpx)).trans ((upd_ne (Ne.symm hux)).trans (hX _)), (upd_ne (Ne.symm hpd)).trans ((upd_ne (Ne.symm hud)).trans (upd_self ..)), set_ok G (by decide +kernel), Nat.le_of_ble_eq_true rfl, ?_⟩
 rw [upd_comm _ _ _ hpd, upd_comm _ _ _ hud, upd_upd]
 lk
 have := h u p hu' hp' (Ne.symm hpu)
 unfold MSt at this
 rw [List.map_replicate] at this
 exact this
section
variable {A : Around} {env : Env} {own : Bool} {X : XP} {ρ : Loc}
theorem mk_Matching (G : Good c) {n : Nat} (room : Room n A) (hz : ts.length ≤ 100) (h : ∀ σ₁ x d u p, MS σ₁ x d u p fs ts → (∀ us ps, SLe σ (MSt σ₁ u p us ps)) → Q (.ref x) (MSt σ₁ u p (List.replicate ts.length 0) [])) (hn : autoParam (2 ≤ n) aLe) :
  OPN c A env own X ρ Q (call (.ref 240) ·) [.lst (fs.map .str), .lst (ts.map tv)] σ := by
 refine OPN_make (n := 1) (room.mono hn) (make_Matching G) fun x d hx hd hne => ?_
 refine fn_Matching_init G hne (upd_self ..) ((upd_ne (Ne.symm hne)).trans (upd_self ..)) hz fun u p hu hp hup => ⟨rfl, ?_⟩
 have hux : u ≠ x := fun e => by rw [e, upd_self] at hu; cases hu
 have hud : u ≠ d := fun e => by rw [e, upd_ne (Ne.symm hne), upd_self] at hu; cases hu
 have hpx : p ≠ x := fun e => by rw [e, upd_self] at hp; cases hp
 have hpd : p ≠ d := fun e => by rw [e, upd_ne (Ne.symm hne), upd_self] at hp; cases hp
 have hu0 : σ u = none := by rwa [upd_ne hux, upd_ne hud] at hu
 have hp0 : σ p = none := by rwa [upd_ne hpx, upd_ne hpd] at hp
 refine h _ x d u p ⟨(upd_ne hne).trans (upd_self ..), upd_self .., Ne.symm hux, Ne.symm hpx, Ne.symm hud, Ne.symm hpd, hup, hz⟩ fun us ps a y e => ?_
 have n1 : a ≠ p := fun q => by rw [q, hp0] at e; cases e
 have n2 : a ≠ u := fun q => by rw [q, hu0] at e; cases e
 have n3 : a ≠ d := fun q => by rw [q, hd] at e; cases e
 have n4 : a ≠ x := fun q => by rw [q, hx] at e; cases e
 unfold MSt
 rw [upd_ne n1, upd_ne n2, upd_ne n3, upd_ne n4, upd_ne n3]
 exact e
end
noncomputable abbrev Args' := List (Option Str × V)
noncomputable def argV (a : Option Str × V) : V := .tup [tv a.1, a.2]
noncomputable def hd1 : V → Option V
 | .tup (a :: _) => some a
 | _ => none
structure MatchOk (fs : List Str) (ts : Tags) (st : St) : Prop where
 ex : ∃ s₁, exAll ts fs (List.replicate ts.length 0, []) = some s₁ ∧ parOk ts s₁.1 s₁.2 fs = true ∧ posAll ts fs 0 s₁ = st ∧ s₁.2.length ≤ 20
 few : restOf ts st.1 = [] ∨ ∃ ds, dats (fs.map .str) = some ds ∧ (PyData.canLayAll0 ds && (PyData.str (S "...")).canLay0 && decide ((PyData.str (S "...")).depth ≤ 6) && ds.any fun y => PyData.eqv y (.str (S "..."))) = true
 n : ts.length ≤ 10
 m : fs.length ≤ 10
theorem fn_match_names (G : Good c) {args : Args'} {sh : V} {st : St} (ok' : MatchOk fs (args.map (·.1)) st) (h : ∀ p σ', σ' p = some (.dict (st.2.map (·.1)) (st.2.map fun q => .int q.2)) → SLe σ σ' → Q (.tup [.ref p, .lst (restOf (args.map (·.1)) st.1)]) σ') :
  FN c 3 (.ref 276) [.lst (fs.map .str), .lst (args.map argV), sh] σ Q := by
 refine go_fd_28 G fun A env room ok hs => ?_
 refine loc_fd_28 G hs fun l0 l1 l2 l3 l4 g1 g2 g3 g4 => ?_
 obtain ⟨s₁, ex, par, pos, sz⟩ := ok'.ex
 have hn := ok'.n
 have hm := ok'.m
 have mods := G.mods
 rw [List.length_map] at hn
 have mul : fs.length * (args.map (·.1)).length ≤ 100 := by
  rw [List.length_map]
  exact Nat.mul_le_mul hm hn
 lk
 refine EV_ListCompF (J := fun zz => True) (ρl := [none, none]) hd1 room.handled ok ⟨rfl, by decide +kernel, by decide +kernel⟩ ⟨rfl, rfl, trivial⟩ trivial ?_
 lk
 refine ⟨_, .lst _, by rw [List.length_map]; omega, ⟨?_⟩, ?_⟩
 ·intro cenv hcs okc σ' ρ' v hv _ _
  have e : cenv.scope.names = [(S ".0", .local), (S "arg", .local)] := by rw [hcs]; rfl
  have l1 : LocAt cenv 1 (S "arg") .local := LocAt_of e (by decide +kernel) rfl (by decide +kernel)
  obtain ⟨a, ha, rfl⟩ := List.mem_map.mp hv
  lk
  refine ⟨trivial, rfl, TS_nil ⟨rfl, ?_⟩⟩
  lk
  exact ⟨rfl, rfl⟩
 rw [fm_map (f := hd1) (g := argV) (h := fun a => tv a.1) args (fun a zz => rfl)]
 rw [show args.map (fun a => tv a.1) = (args.map (·.1)).map tv by rw [List.map_map]; rfl]
 lk
 refine mk_Matching G room (by rw [List.length_map]; omega) fun σ₁ x d u p hM hle => ?_
 have meth : ∀ (n : Str) (f : Addr), (findIn c.K (.ref 240) n = some (some (.ref f))) → typeIn c.K (.ref f) = some (.type "function") → MethOk c 240 n f := fun n f h1 h2 => ⟨by rw [G.K]; kernel_rfl, by rw [G.K]; kernel_rfl, h1, h2⟩
 have fine0 : Fine (args.map (·.1)) (List.replicate (args.map (·.1)).length 0, []) := ⟨by simp, by simp, by simp⟩
 lk
 refine ⟨_, MT_inst (meth _ 204 (by rw [G.K]; kernel_rfl) (by rw [G.K]; kernel_rfl)) (MSt.atx hM) (MSt.atd hM) rfl, callee_K (by rw [G.K]; kernel_rfl), ?_⟩
 lk
 refine OPN_at room (fn_exact G hM (st := (List.replicate (args.map (·.1)).length 0, [])) fine0 (by simp only [List.length_nil]; omega) ex fun f1 => ⟨rfl, ?_⟩)
 lk
 refine ⟨_, MT_inst (meth _ 211 (by rw [G.K]; kernel_rfl) (by rw [G.K]; kernel_rfl)) (MSt.atx hM) (MSt.atd hM) rfl, callee_K (by rw [G.K]; kernel_rfl), ?_⟩
 lk
 refine OPN_at room (fn_partial G hM f1.len par ⟨rfl, ?_⟩)
 lk
 refine ⟨_, MT_inst (meth _ 225 (by rw [G.K]; kernel_rfl) (by rw [G.K]; kernel_rfl)) (MSt.atx hM) (MSt.atd hM) rfl, callee_K (by rw [G.K]; kernel_rfl), ?_⟩
 lk
 refine OPN_at room (fn_positional G hM (us := s₁.1) (ps := s₁.2) f1 (by omega) fun f2 => ⟨rfl, ?_⟩)
 rw [show posAll (args.map (·.1)) fs 0 (s₁.1, s₁.2) = st from pos] at f2 ⊢
 lk
 refine ⟨_, MT_inst (meth _ 237 (by rw [G.K]; kernel_rfl) (by rw [G.K]; kernel_rfl)) (MSt.atx hM) (MSt.atd hM) rfl, callee_K (by rw [G.K]; kernel_rfl), ?_⟩
 lk
 refine OPN_at room (fn_rest G hM f2.len ?_)
 lk
 have hrl : (restOf (args.map (·.1)) st.1).length ≤ 100 := by
  unfold restOf
  refine Nat.le_trans (List.length_filterMap_le ..) ?_
  rw [upFrom_length, List.length_map]; omega
 refine bi_len (.inl rfl) (by omega) ?_
 lk
 refine ite_dec (fun h0 => ?_) fun h0 => ?_
 ·lk
  rcases ok'.few with e | ⟨ds, e1, e2⟩
  ·rw [e] at h0; exact absurd h0 (by decide)
  ·refine notInL_f room rfl e1 e2 ?_
   lk
   exact h p _ MSt.atp (hle _ _)
 ·lk
  exact h p _ MSt.atp (hle _ _)
end
section
variable {c : Cx} {σ : Sto} {Q : V → Sto → Prop} {fs : List Str}
noncomputable def argAt (args : Args') : V → Option V
 | .int k => (args.map argV)[k.toNat]?
 | _ => none
noncomputable def valOf (args : Args') (st : St) (n : Str) : V := if n = S "..." then .lst ((restOf (args.map (·.1)) st.1).filterMap (argAt args)) else match assoc (st.2.map (·.1)) (st.2.map fun q => .int q.2) n with
 | some (.int k) => ((args[k.toNat]?).map (·.2)).getD .none
 | _ => .none
theorem assoc_mem {n : Str} {v : V} : ∀ {ps : Pl}, assoc (ps.map (·.1)) (ps.map fun q => .int q.2) n = some v → ∃ q ∈ ps, v = .int q.2
 | [], h => by cases h
 | q :: ps, h => by
  rw [List.map_cons, List.map_cons] at h
  unfold assoc at h
  by_cases e : (q.1 == n) = true
  ·rw [if_pos e] at h; cases h
   exact ⟨q, List.mem_cons_self, rfl⟩
  ·rw [if_neg e] at h
   obtain ⟨q', h1, h2⟩ := assoc_mem h
   exact ⟨q', List.mem_cons_of_mem _ h1, h2⟩
theorem fn_take (G : Good c) {args : Args'} {st : St} (ok' : MatchOk fs (args.map (·.1)) st) (hk : ∀ q ∈ st.2, q.2 < args.length) (h : Q (.lst (fs.map (valOf args st))) σ) : FN c 4 (.ref 289) [.lst (args.map argV), .lst (fs.map .str)] σ Q := by
 refine god_fd_30 G fun A env room ok hs => ?_
 refine loc_fd_30 G hs fun l0 l1 l2 l3 l4 l5 l6 g1 g2 g3 => ?_
 have hn := ok'.n
 have hm := ok'.m
 have mods := G.mods
 rw [List.length_map] at hn
 lk
 refine bi_listF (.inl rfl) (by rw [List.length_map]; omega) ?_
 lk
 refine OPN_at room (fn_match_names G ok' fun p σ₁ hp hle => ?_)
 lk
 refine EV_List (ES_nil ⟨by decide, fun w hw => ?_⟩)
 have hwp : p ≠ w := fun e => by rw [← e, hp] at hw; cases hw
 have hle' : ∀ acc, SLe σ (upd σ₁ w (.list acc)) := fun acc => hle.trans (.upd hw)
 have hrl : (restOf (args.map (·.1)) st.1).length ≤ 100 := by
  unfold restOf
  refine Nat.le_trans (List.length_filterMap_le ..) ?_
  rw [upFrom_length, List.length_map]; omega
 lk
 refine SX_For (I := fun l ρ' σ' => ∃ (ns : List Str) (acc : List V), l = ns.map .str ∧ acc ++ ns.map (valOf args st) = fs.map (valOf args st) ∧ ρ' 0 = some (.lst (args.map argV)) ∧ ρ' 3 = some (.ref p) ∧ ρ' 4 = some (.lst (restOf (args.map (·.1)) st.1)) ∧ ρ' 5 = some (.ref w) ∧ σ' = upd σ₁ w (.list acc)) room.handled ?_ ?_ ?_
 ·intro K₀ kI
  lk
  exact ⟨_, .lst _, kI.go _ _ ⟨fs, [], rfl, rfl, rfl, rfl, rfl, rfl, rfl⟩⟩
 ·intro v l ρ' σ' hI K₁ K₂ kN kB
  refine exl2 hI fun ns acc hJ => ?_
  refine andl7 hJ fun e h1 h0 h3 h4 h5 hq6 => ?_
  clear hI hJ
  obtain rfl := hq6
  cases ns with
  | nil => cases e
  | cons n ns =>
   cases e
   have hal : acc.length ≤ 100 := by
    have := congrArg List.length h1
    simp only [List.length_append, List.length_map, List.length_cons] at this
    omega
   have h1' : (acc ++ [valOf args st n]) ++ ns.map (valOf args st) = fs.map (valOf args st) := by rw [← h1]; simp
   lk
   refine op_eqS ?_
   lk
   refine ite_b (fun hn => ?_) fun hn => ?_
   ·have hn' : n = S "..." := by simpa using hn
    lk
    refine ⟨_, MT_list (.inr ⟨w, rfl, upd_self ..⟩) PySem.F.slot_list_append PySem.F.type_list_append, callee_builtin, ?_⟩
    lk
    refine EV_ListCompF (J := fun ρ' => ρ' 2 = some (.lst (args.map argV))) (ρl := [none, none, some (.lst (args.map argV))]) (argAt args) room.handled ok ⟨rfl, by decide +kernel, by decide +kernel⟩ ⟨rfl, rfl, ⟨0, .inl l0, h0⟩, trivial⟩ rfl ?_
    lk
    refine ⟨_, .lst _, by omega, ⟨?_⟩, ?_⟩
    ·intro cenv hcs okc σ' ρ' v hv hJ _
     have e : cenv.scope.names = [(S ".0", .local), (S "place", .local), (S "args", .cell)] := by rw [hcs]; simp [relabel, ok.kind, l0.1.1]
     have l1 : LocAt cenv 1 (S "place") .local := LocAt_of e (by decide +kernel) rfl (by decide +kernel)
     have l2 : LocAt cenv 2 (S "args") .cell := LocAt_of e (by decide +kernel) rfl (by decide +kernel)
     obtain ⟨v', hv', hz⟩ := List.mem_filterMap.mp hv
     obtain ⟨k, -, hk', rfl⟩ := mem_upFrom (k := 0) hv'
     have : v = .int k := by
      unfold zeroAt at hz
      dsimp only at hz
      split at hz
      ·cases hz; rfl
      ·cases hz
     subst this
     rw [List.length_map] at hk'
     have ha : (args.map argV)[k]? = some (argV (args[k]'(by omega))) := by rw [List.getElem?_map, List.getElem?_eq_getElem (by omega)]; rfl
     lk
     refine ⟨hJ, rfl, TS_nil ⟨rfl, ?_⟩⟩
     lk
     refine sub_lstN ha (by omega) (fun zz zz zz => rfl) ?_
     exact ⟨rfl, by unfold argAt; dsimp only; rw [Int.toNat_natCast, ha]⟩
    ·lk
     refine m_append (upd_self ..) (by omega) ⟨rfl, ?_⟩
     rw [upd_upd]
     lk
     refine ⟨ns, _, rfl, h1', h0, h3, h4, h5, ?_⟩
     rw [show valOf args st n = _ from if_pos hn']
   ·have hn' : ¬ n = S "..." := by simpa using hn
    have hv : valOf args st n = match assoc (st.2.map (·.1)) (st.2.map fun q => .int q.2) n with
     | some (.int k) => ((args[k.toNat]?).map (·.2)).getD .none
     | _ => .none := if_neg hn'
    lk
    refine op_inD mods (.inr ⟨p, rfl, (upd_ne hwp).trans hp⟩) ?_
    lk
    cases ha : assoc (st.2.map (·.1)) (st.2.map fun q => .int q.2) n with
    | some v =>
     obtain ⟨q, hq, rfl⟩ := assoc_mem ha
     have hkq := hk q hq
     have hat : (args.map argV)[q.2]? = some (argV args[q.2]) := by rw [List.getElem?_map, List.getElem?_eq_getElem hkq]; rfl
     lk
     refine ⟨_, MT_list (.inr ⟨w, rfl, upd_self ..⟩) PySem.F.slot_list_append PySem.F.type_list_append, callee_builtin, ?_⟩
     lk
     refine sub_dict mods (.inr ⟨p, rfl, (upd_ne hwp).trans hp⟩) ha (fun zz zz => rfl) ?_
     refine sub_lstN hat (by omega) (fun zz zz zz => rfl) ?_
     lk
     refine m_append (upd_self ..) (by omega) ⟨rfl, ?_⟩
     rw [upd_upd]
     lk
     refine ⟨ns, _, rfl, h1', h0, h3, h4, h5, ?_⟩
     rw [hv, ha]
     dsimp only
     rw [Int.toNat_natCast, List.getElem?_eq_getElem hkq]; rfl
    | none =>
     lk
     refine ⟨_, MT_list (.inr ⟨w, rfl, upd_self ..⟩) PySem.F.slot_list_append PySem.F.type_list_append, callee_builtin, ?_⟩
     lk
     refine m_append (upd_self ..) (by omega) ⟨rfl, ?_⟩
     rw [upd_upd]
     lk
     refine ⟨ns, _, rfl, h1', h0, h3, h4, h5, ?_⟩
     rw [hv, ha]
 ·intro ρ' σ' hI
  refine exl2 hI fun ns acc hJ => ?_
  refine andl7 hJ fun e h1 h0 h3 h4 h5 hq6 => ?_
  clear hI hJ
  obtain rfl := hq6
  cases ns with
  | cons n ns => cases e
  | nil =>
   rw [List.map_nil, List.append_nil] at h1
   subst h1
   refine SS_cons (SX_Return (EV_freezeL ?_))
   lk
   have hσw : σ w = none := by
    cases q : σ w with
    | none => rfl
    | some y => have := hle _ _ q; rw [hw] at this; cases this
   exact ⟨w, _, σ, rfl, upd_self .., hle' _, hσw, h⟩
end
section
variable {c : Cx} {σ : Sto} {Q : V → Sto → Prop}
noncomputable def f1 : List Str := [S "x", S "...", S "na.rm"]
noncomputable def f2 : List Str := [S "x", S "y", S "na.rm", S "use"]
noncomputable def V1 : V := .lst (f1.map .str)
noncomputable def V2 : V := .lst (f2.map .str)
theorem mo {fs : List Str} {ts : Tags} {st s₁ : St} (h1 : exAll ts fs (List.replicate ts.length 0, []) = some s₁) (h2 : parOk ts s₁.1 s₁.2 fs = true) (h3 : posAll ts fs 0 s₁ = st) (h4 : decide (s₁.2.length ≤ 20 ∧ ts.length ≤ 10 ∧ fs.length ≤ 10) = true)
  (h5 : (restOf ts st.1).isEmpty = true ∨ ((dats (fs.map .str)).any fun ds => PyData.canLayAll0 ds && (PyData.str (S "...")).canLay0 && decide ((PyData.str (S "...")).depth ≤ 6) && ds.any fun y => PyData.eqv y (.str (S "..."))) = true) : MatchOk fs ts st := by
 have h4 := of_decide_eq_true h4
 refine ⟨⟨s₁, h1, h2, h3, h4.1⟩, ?_, h4.2.1, h4.2.2⟩
 rcases h5 with h5 | h5
 ·exact .inl (by simpa using h5)
 ·cases q : dats (fs.map .str) with
  | none => rw [q] at h5; cases h5
  | some ds => rw [q] at h5; exact .inr ⟨ds, rfl, h5⟩
theorem mo_1 : MatchOk f1 [none, none, some (S "na.rm")] ([2, 0, 2], [(S "na.rm", 2), (S "x", 0)]) := mo (s₁ := ([0, 0, 2], [(S "na.rm", 2)])) (by decide +kernel) (by decide +kernel) (by decide +kernel) (by decide +kernel) (.inr (by decide +kernel))
theorem take_1 (G : Good c) {a b k : V} (h : Q (.lst [a, .lst [argV (none, b)], k]) σ) : FN c 4 (.ref 289) [.lst [argV (none, a), argV (none, b), argV (some (S "na.rm"), k)], V1] σ Q := by
 refine fn_take G (args := [(none, a), (none, b), (some (S "na.rm"), k)]) (st := ([2, 0, 2], [(S "na.rm", 2), (S "x", 0)])) mo_1 (by show ∀ q ∈ (([2, 0, 2] : List Int), ([(S "na.rm", 2), (S "x", 0)] : Pl)).2, q.2 < 3; decide +kernel) ?_
 exact (by kernel_rfl : (V.lst (f1.map (valOf [(none, a), (none, b), (some (S "na.rm"), k)] ([2, 0, 2], [(S "na.rm", 2), (S "x", 0)])))) = .lst [a, .lst [argV (none, b)], k]) ▸ h
theorem mo_2 : MatchOk f1 [none, some (S "trim"), some (S "na.rm")] ([2, 0, 2], [(S "na.rm", 2), (S "x", 0)]) := mo (s₁ := ([0, 0, 2], [(S "na.rm", 2)])) (by decide +kernel) (by decide +kernel) (by decide +kernel) (by decide +kernel) (.inr (by decide +kernel))
theorem take_2 (G : Good c) {a b k : V} (h : Q (.lst [a, .lst [argV (some (S "trim"), b)], k]) σ) : FN c 4 (.ref 289) [.lst [argV (none, a), argV (some (S "trim"), b), argV (some (S "na.rm"), k)], V1] σ Q := by
 refine fn_take G (args := [(none, a), (some (S "trim"), b), (some (S "na.rm"), k)]) (st := ([2, 0, 2], [(S "na.rm", 2), (S "x", 0)])) mo_2 (by show ∀ q ∈ (([2, 0, 2] : List Int), ([(S "na.rm", 2), (S "x", 0)] : Pl)).2, q.2 < 3; decide +kernel) ?_
 exact (by kernel_rfl : (V.lst (f1.map (valOf [(none, a), (some (S "trim"), b), (some (S "na.rm"), k)] ([2, 0, 2], [(S "na.rm", 2), (S "x", 0)])))) = .lst [a, .lst [argV (some (S "trim"), b)], k]) ▸ h
theorem mo_3 : MatchOk f1 [none, none] ([2, 0], [(S "x", 0)]) := mo (s₁ := ([0, 0], [])) (by decide +kernel) (by decide +kernel) (by decide +kernel) (by decide +kernel) (.inr (by decide +kernel))
theorem take_3 (G : Good c) {a b : V} (h : Q (.lst [a, .lst [argV (none, b)], .none]) σ) : FN c 4 (.ref 289) [.lst [argV (none, a), argV (none, b)], V1] σ Q := by
 refine fn_take G (args := [(none, a), (none, b)]) (st := ([2, 0], [(S "x", 0)])) mo_3 (by show ∀ q ∈ (([2, 0] : List Int), ([(S "x", 0)] : Pl)).2, q.2 < 2; decide +kernel) ?_
 exact (by kernel_rfl : (V.lst (f1.map (valOf [(none, a), (none, b)] ([2, 0], [(S "x", 0)])))) = .lst [a, .lst [argV (none, b)], .none]) ▸ h
theorem mo_4 : MatchOk f2 [none, none, some (S "na.rm")] ([2, 2, 2], [(S "na.rm", 2), (S "x", 0), (S "y", 1)]) := mo (s₁ := ([0, 0, 2], [(S "na.rm", 2)])) (by decide +kernel) (by decide +kernel) (by decide +kernel) (by decide +kernel) (.inl (by decide +kernel))
theorem take_4 (G : Good c) {a b k : V} (h : Q (.lst [a, b, k, .none]) σ) : FN c 4 (.ref 289) [.lst [argV (none, a), argV (none, b), argV (some (S "na.rm"), k)], V2] σ Q := by
 refine fn_take G (args := [(none, a), (none, b), (some (S "na.rm"), k)]) (st := ([2, 2, 2], [(S "na.rm", 2), (S "x", 0), (S "y", 1)])) mo_4 (by show ∀ q ∈ (([2, 2, 2] : List Int), ([(S "na.rm", 2), (S "x", 0), (S "y", 1)] : Pl)).2, q.2 < 3; decide +kernel) ?_
 exact (by kernel_rfl : (V.lst (f2.map (valOf [(none, a), (none, b), (some (S "na.rm"), k)] ([2, 2, 2], [(S "na.rm", 2), (S "x", 0), (S "y", 1)])))) = .lst [a, b, k, .none]) ▸ h
theorem mo_5 : MatchOk f2 [none, some (S "y")] ([2, 2], [(S "y", 1), (S "x", 0)]) := mo (s₁ := ([0, 2], [(S "y", 1)])) (by decide +kernel) (by decide +kernel) (by decide +kernel) (by decide +kernel) (.inl (by decide +kernel))
theorem take_5 (G : Good c) {a b : V} (h : Q (.lst [a, b, .none, .none]) σ) : FN c 4 (.ref 289) [.lst [argV (none, a), argV (some (S "y"), b)], V2] σ Q := by
 refine fn_take G (args := [(none, a), (some (S "y"), b)]) (st := ([2, 2], [(S "y", 1), (S "x", 0)])) mo_5 (by show ∀ q ∈ (([2, 2] : List Int), ([(S "y", 1), (S "x", 0)] : Pl)).2, q.2 < 2; decide +kernel) ?_
 exact (by kernel_rfl : (V.lst (f2.map (valOf [(none, a), (some (S "y"), b)] ([2, 2], [(S "y", 1), (S "x", 0)])))) = .lst [a, b, .none, .none]) ▸ h
theorem mo_6 : MatchOk f2 [none] ([2], [(S "x", 0)]) := mo (s₁ := ([0], [])) (by decide +kernel) (by decide +kernel) (by decide +kernel) (by decide +kernel) (.inl (by decide +kernel))
theorem take_6 (G : Good c) {a : V} (h : Q (.lst [a, .none, .none, .none]) σ) : FN c 4 (.ref 289) [.lst [argV (none, a)], V2] σ Q := by
 refine fn_take G (args := [(none, a)]) (st := ([2], [(S "x", 0)])) mo_6 (by show ∀ q ∈ (([2] : List Int), ([(S "x", 0)] : Pl)).2, q.2 < 1; decide +kernel) ?_
 exact (by kernel_rfl : (V.lst (f2.map (valOf [(none, a)] ([2], [(S "x", 0)])))) = .lst [a, .none, .none, .none]) ▸ h
theorem mo_7 : MatchOk f2 [some (S "x"), some (S "na.rm")] ([2, 2], [(S "x", 0), (S "na.rm", 1)]) := mo (s₁ := ([2, 2], [(S "x", 0), (S "na.rm", 1)])) (by decide +kernel) (by decide +kernel) (by decide +kernel) (by decide +kernel) (.inl (by decide +kernel))
theorem take_7 (G : Good c) {a b : V} (h : Q (.lst [a, .none, b, .none]) σ) : FN c 4 (.ref 289) [.lst [argV (some (S "x"), a), argV (some (S "na.rm"), b)], V2] σ Q := by
 refine fn_take G (args := [(some (S "x"), a), (some (S "na.rm"), b)]) (st := ([2, 2], [(S "x", 0), (S "na.rm", 1)])) mo_7 (by show ∀ q ∈ (([2, 2] : List Int), ([(S "x", 0), (S "na.rm", 1)] : Pl)).2, q.2 < 2; decide +kernel) ?_
 exact (by kernel_rfl : (V.lst (f2.map (valOf [(some (S "x"), a), (some (S "na.rm"), b)] ([2, 2], [(S "x", 0), (S "na.rm", 1)])))) = .lst [a, .none, b, .none]) ▸ h
end
section
section
variable {c : Cx} {A : Around} {env : Env} {own : Bool} {X : XP} {ρ : Loc} {σ : Sto} {Q : V → Sto → Prop}
theorem bi_isinst {C : Addr} {ks : List Str} {vs : List V} (h : Q (.bool true) σ) : OPN c A env own X ρ Q (call (.builtin "isinstance") ·) [.ins C ks vs, .val (.ref C)] σ := by
 refine ⟨?_⟩; rintro F P s xs R r
 obtain ⟨x0, x1, rfl, ⟨a, d, es, n, rfl, p1, p2, k, rv⟩, rfl⟩ := r.two
 have I : InstAt s.heap a (instObj C d) C (some (dictOf es n)) := ⟨R.toC.sub _ _ p1, rfl, rfl, R.toC.sub _ _ p2⟩
 exact isi_call (t := .ref C) R.K (fun M => I.type) (by unfold isIn; simp) (by intro e; cases e) ⟨P, .bool true, σ, .refl _, R, rfl, h⟩
end
variable {c : Cx} {σ : Sto} {Q : V → Sto → Prop}
end
section
variable {c : Cx} {σ : Sto} {Q : V → Sto → Prop}
noncomputable def lvec (b : Bool) : V := vec (.str (S "logical")) (.lst [.int (if b then 1 else 0)]) .none
theorem fn_flag (G : Good c) {b : Bool} (h : Q (lvec b) σ) : FN c 3 (.ref 162) [.bool b] σ Q := by
 refine go_fd_18 G fun A env room ok hs => ?_
 refine loc_fd_18 G hs fun l0 g1 => ?_
 cases b <;> lk <;> exact mk_vec G room h
theorem fn_needed (G : Good c) {v n : V} (hv : isN v = false) (h : Q v σ) : FN c 1 (.ref 283) [v, n] σ Q := by
 refine go_fd_29 G fun A env room ok hs => ?_
 refine loc_fd_29 G hs fun l0 l1 g1 => ?_
 lk
 rw [hv]
 lk
 exact h
theorem fn_get_attr0 (G : Good c) {k it n : V} (h : Q .none σ) : FN c 1 (.ref 28) [vec k it .none, n] σ Q := by
 refine go_fd_2 G fun A env room ok hs => ?_
 refine loc_fd_2 G hs fun l0 l1 => ?_
 lk
 exact h
theorem fn_get_attr1 (G : Good c) {k it : V} {ks : List Str} {vs : List V} {n : Str} (h : Q ((assoc ks vs n).getD .none) σ) : FN c 1 (.ref 28) [vec k it (.dic ks vs), .str n] σ Q := by
 refine go_fd_2 G fun A env room ok hs => ?_
 refine loc_fd_2 G hs fun l0 l1 => ?_
 lk
 refine ⟨_, MT_dic PySem.F.slot_dict_get PySem.F.type_dict_get, callee_builtin, ?_⟩
 lk
 exact m_get G.mods h
theorem fn_dim0 (G : Good c) {k it : V} (h : Q .none σ) : FN c 2 (.ref 40) [vec k it .none] σ Q := by
 refine go_fd_4 G fun A env room ok hs => ?_
 refine loc_fd_4 G hs fun l0 l1 g1 g2 => ?_
 lk
 refine OPN_at room (fn_get_attr0 G ?_)
 lk
 exact h
theorem fn_class0 (G : Good c) {k it : V} (h : Q (.lst []) σ) : FN c 2 (.ref 52) [vec k it .none] σ Q := by
 refine go_fd_6 G fun A env room ok hs => ?_
 refine loc_fd_6 G hs fun l0 l1 g1 g2 => ?_
 lk
 refine OPN_at room (fn_get_attr0 G ?_)
 lk
 refine EV_ListF (ES_nil ⟨by decide, ?_⟩)
 exact h
noncomputable def sqAttrs : V := .dic [S "dim"] [ivec [some 2, some 2]]
noncomputable def sqV : V := vec (.str (S "integer")) (.lst [.int 1, .int 2, .int 3, .int 4]) sqAttrs
theorem fn_dim1 (G : Good c) (h : Q (.lst [.int 2, .int 2]) σ) : FN c 2 (.ref 40) [sqV] σ Q := by
 refine go_fd_4 G fun A env room ok hs => ?_
 refine loc_fd_4 G hs fun l0 l1 g1 g2 => ?_
 lk
 refine OPN_at room (fn_get_attr1 G ?_)
 have e : (assoc [S "dim"] [ivec [some 2, some 2]] (Str.ofString "dim")).getD .none = ivec [some 2, some 2] := by kernel_rfl
 rw [e]
 lk
 exact bi_listF (.inl rfl) (by decide) h
theorem fn_class1 (G : Good c) (h : Q (.lst []) σ) : FN c 2 (.ref 52) [sqV] σ Q := by
 refine go_fd_6 G fun A env room ok hs => ?_
 refine loc_fd_6 G hs fun l0 l1 g1 g2 => ?_
 lk
 refine OPN_at room (fn_get_attr1 G ?_)
 have e : (assoc [S "dim"] [ivec [some 2, some 2]] (Str.ofString "class")).getD .none = .none := by kernel_rfl
 rw [e]
 lk
 refine EV_ListF (ES_nil ⟨by decide, ?_⟩)
 exact h
theorem fn_shape0 (G : Good c) {k it : V} (h : Q (.lst []) σ) : FN c 3 (.ref 66) [vec k it .none] σ Q := by
 refine go_fd_8 G fun A env room ok hs => ?_
 refine loc_fd_8 G hs fun l0 l1 g1 g2 => ?_
 lk
 refine OPN_at room (fn_dim0 G ?_)
 lk
 refine EV_ListF (ES_nil ⟨by decide, ?_⟩)
 exact h
theorem fn_shape1 (G : Good c) (h : Q (.lst [.str (S "matrix"), .str (S "array")]) σ) : FN c 3 (.ref 66) [sqV] σ Q := by
 refine go_fd_8 G fun A env room ok hs => ?_
 refine loc_fd_8 G hs fun l0 l1 g1 g2 => ?_
 lk
 refine OPN_at room (fn_dim1 G ?_)
 lk
 refine bi_len (.inl rfl) (by decide) ?_
 lk
 exact h
theorem fn_plain_int (G : Good c) {it : V} (h : Q (.str (S "integer")) σ) : FN c 1 (.ref 73) [vec (.str (S "integer")) it .none] σ Q := by
 refine go_fd_9 G fun A env room ok hs => ?_
 refine loc_fd_9 G hs fun l0 l1 g1 => ?_
 lk
 exact h
theorem fn_class_of_int (G : Good c) {it : V} (h : Q (.lst [.str (S "integer")]) σ) : FN c 4 (.ref 80) [vec (.str (S "integer")) it .none] σ Q := by
 refine go_fd_10 G fun A env room ok hs => ?_
 refine loc_fd_10 G hs fun l0 l1 g1 g2 g3 g4 => ?_
 lk
 refine OPN_at room (fn_class0 G ?_)
 lk
 refine bi_len (.inl rfl) (by decide) ?_
 lk
 refine OPN_at room (fn_shape0 G ?_)
 lk
 refine bi_len (.inl rfl) (by decide) ?_
 lk
 refine OPN_at room (fn_plain_int G ?_)
 lk
 exact h
theorem fn_class_of_sq (G : Good c) (h : Q (.lst [.str (S "matrix"), .str (S "array")]) σ) : FN c 4 (.ref 80) [sqV] σ Q := by
 refine go_fd_10 G fun A env room ok hs => ?_
 refine loc_fd_10 G hs fun l0 l1 g1 g2 g3 g4 => ?_
 lk
 refine OPN_at room (fn_class1 G ?_)
 lk
 refine bi_len (.inl rfl) (by decide) ?_
 lk
 refine OPN_at room (fn_shape1 G ?_)
 lk
 refine bi_len (.inl rfl) (by decide) ?_
 lk
 exact h
noncomputable def factorV : V := .lst [.str (S "factor")]
theorem fn_inherits (G : Good c) {v : V} {l : List Str} (hc : ∀ Q σ, Q (.lst (l.map .str)) σ → FN c 4 (.ref 80) [v] σ Q) (hl : l.all (fun s => (PyData.canLayAll0 [PyData.str (S "factor")] && (PyData.str s).canLay0 && decide ((PyData.str s).depth ≤ 6) && ![PyData.str (S "factor")].any fun y => PyData.eqv y (.str s))) = true)
  (h : Q (.bool false) σ) : FN c 5 (.ref 87) [v, factorV] σ Q := by
 refine go_fd_11 G fun A env room ok hs => ?_
 refine loc_fd_11 G hs fun l0 l1 l2 g1 => ?_
 refine SS_cons (SX_For (I := fun ls ρ' σ' => ∃ m : List Str, ls = m.map .str ∧ (∀ x ∈ m, x ∈ l) ∧ ρ' 1 = some factorV ∧ σ' = σ) room.handled ?_ ?_ ?_)
 ·intro K₀ kI
  lk
  refine OPN_at room (hc _ _ ?_)
  exact ⟨_, .lst _, kI.go _ _ ⟨l, rfl, fun zz h => h, rfl, rfl⟩⟩
 ·intro v ls ρ' σ' hI K₁ K₂ kN kB
  refine exl1 hI fun m hJ => ?_
  refine andl4 hJ fun e h1 h2 hq3 => ?_
  clear hI hJ
  obtain rfl := hq3
  cases m with
  | nil => cases e
  | cons x m =>
   cases e
   have := List.all_eq_true.mp hl x (h1 x List.mem_cons_self)
   lk
   refine inL_f room rfl rfl this ?_
   lk
   exact ⟨m, rfl, fun y hy => h1 y (List.mem_cons_of_mem _ hy), h2, rfl⟩
 ·intro ρ' σ' hI
  refine exl1 hI fun m hJ => ?_
  refine andl4 hJ fun e h1 h2 hq3 => ?_
  clear hI hJ
  obtain rfl := hq3
  lk
  exact h
theorem fn_inherits_int (G : Good c) {it : V} (h : Q (.bool false) σ) : FN c 5 (.ref 87) [vec (.str (S "integer")) it .none, factorV] σ Q := fn_inherits G (l := [S "integer"]) (fun Q σ q => fn_class_of_int G q) (by decide +kernel) h
theorem fn_inherits_sq (G : Good c) (h : Q (.bool false) σ) : FN c 5 (.ref 87) [sqV, factorV] σ Q := fn_inherits G (l := [S "matrix", S "array"]) (fun Q σ q => fn_class_of_sq G q) (by decide +kernel) h
theorem fn_truth_item (G : Good c) {b : Bool} (h : Q (.int (if b then 1 else 0)) σ) : FN c 1 (.ref 644) [.str (S "logical"), .int (if b then 1 else 0)] σ Q := by
 refine go_fd_93 G fun A env room ok hs => ?_
 refine loc_fd_93 G hs fun l0 l1 g1 => ?_
 cases b <;> lk <;> exact h
theorem fn_is_set (G : Good c) {b : Bool} (h : Q (.bool b) σ) : FN c 2 (.ref 806) [lvec b] σ Q := by
 refine go_fd_120 G fun A env room ok hs => ?_
 refine loc_fd_120 G hs fun l0 g1 => ?_
 lk
 refine tru_L (.inl rfl) (Nat.le_of_ble_eq_true rfl) ?_
 lk
 refine OPN_at room (fn_truth_item G ?_)
 lk
 cases b <;> exact h
theorem fn_is_set_none (G : Good c) (h : Q (.bool false) σ) : FN c 2 (.ref 806) [.none] σ Q := by
 refine go_fd_120 G fun A env room ok hs => ?_
 refine loc_fd_120 G hs fun l0 g1 => ?_
 lk
 exact h
theorem fn_pairs_kept (G : Good c) {b : Bool} (h : Q (.bool b) σ) : FN c 3 (.ref 861) [.none, lvec b] σ Q := by
 refine go_fd_129 G fun A env room ok hs => ?_
 refine loc_fd_129 G hs fun l0 l1 g1 g2 g3 => ?_
 lk
 exact OPN_at room (fn_is_set G h)
theorem fn_pairs_kept0 (G : Good c) (h : Q (.bool false) σ) : FN c 3 (.ref 861) [.none, .none] σ Q := by
 refine go_fd_129 G fun A env room ok hs => ?_
 refine loc_fd_129 G hs fun l0 l1 g1 g2 g3 => ?_
 lk
 exact OPN_at room (fn_is_set_none G h)
theorem fn_untagged (G : Good c) {v : V} (h : Q v σ) : FN c 1 (.ref 828) [.lst [argV (none, v)]] σ Q := by
 refine go_fd_124 G fun A env room ok hs => ?_
 refine loc_fd_124 G hs fun l0 l1 l2 => ?_
 refine SS_cons (SX_For (I := fun ls ρ' σ' => (ls = [argV (none, v)] ∨ ls = []) ∧ (ls = [] → False) ∧ σ' = σ) room.handled ?_ ?_ ?_)
 ·intro K₀ kI
  lk
  exact ⟨_, .lst _, kI.go _ _ ⟨.inl rfl, fun e => (by cases e), rfl⟩⟩
 ·rintro y ls ρ' σ' ⟨e | e, h1, rfl⟩ K₁ K₂ kN kB
  ·cases e
   lk
   exact h
  ·cases e
 ·rintro ρ' σ' ⟨e, h1, rfl⟩
  exact (h1 rfl).elim
theorem fn_numeric_arg (G : Good c) {r : Row} {b : Bool} {f : V} (hz : r.length ≤ 1000) (h : Q (ivec (if b = true then r.filter (·.isSome) else r)) σ) : FN c 6 (.ref 835) [.lst [argV (none, ivec r), argV (none, lvec b)], f] σ Q := by
 refine go_fd_125 G fun A env room ok hs => ?_
 refine loc_fd_125 G hs fun l0 l1 l2 l3 l4 g1 g2 g3 g4 g5 g6 g7 => ?_
 lk
 refine OPN_at room (take_3 G ?_)
 lk
 refine OPN_at room (fn_needed G rfl ?_)
 lk
 refine OPN_at room (fn_inherits_int G ?_)
 lk
 refine OPN_at room (fn_untagged G ?_)
 lk
 refine OPN_at room (fn_is_set G ?_)
 lk
 exact OPN_at room (fn_without_lacking G rfl hz h)
theorem fn_names_of (G : Good c) {l : List V} (h : Q .none σ) : FN c 3 (.ref 33) [dvec l] σ Q := by
 refine go_fd_3 G fun A env room ok hs => ?_
 refine loc_fd_3 G hs fun l0 l1 l2 l3 l4 g1 g2 g3 g4 g5 g6 => ?_
 lk
 refine OPN_at room (fn_dim0 G ?_)
 lk
 refine OPN_at room (fn_get_attr0 G ?_)
 lk
 exact h
theorem fn_with_names (G : Good c) {v : V} (h : Q v σ) : FN c 1 (.ref 632) [v, .none] σ Q := by
 refine go_fd_90 G fun A env room ok hs => ?_
 refine loc_fd_90 G hs fun l0 l1 g1 g2 => ?_
 lk
 exact h
theorem fn_as_kind (G : Good c) {l : List V} {n : V} (hz : l.length ≤ 100) (h : Q (dvec l) σ) : FN c 4 (.ref 637) [dvec l, .str (S "double"), n] σ Q := by
 refine go_fd_91 G fun A env room ok hs => ?_
 refine loc_fd_91 G hs fun l0 l1 l2 l3 g1 g2 g3 g4 g5 g6 => ?_
 lk
 refine bi_isinst ?_
 lk
 refine bi_listF (.inl rfl) (by omega) ?_
 lk
 refine mk_vec G room ?_
 lk
 refine OPN_at room (fn_names_of G ?_)
 lk
 exact OPN_at room (fn_with_names G h)
theorem fn_trim_part (G : Good c) {p q : Int} (hq : q ≠ 0) (h : Q (.tup [.int p, .int q]) σ) : FN c 5 (.ref 842) [dvec [.tup [.int p, .int q]]] σ Q := by
 refine go_fd_126 G fun A env room ok hs => ?_
 refine loc_fd_126 G hs fun l0 l1 g1 g2 g3 g4 => ?_
 lk
 refine EV_ListF (ES_nil ⟨by decide, ?_⟩)
 lk
 refine OPN_at room (fn_as_kind G (Nat.le_of_ble_eq_true rfl) ?_)
 lk
 refine bi_len (.inl rfl) (Nat.le_of_ble_eq_true rfl) ?_
 lk
 refine OPN_at room (fn_is_na G hq ?_)
 lk
 exact h
end
section
section
variable {c : Cx} {A : Around} {env : Env} {own : Bool} {X : XP} {ρ : Loc} {σ : Sto} {Q : V → Sto → Prop}
theorem EV_SliceM {o : Expr} {lo up : Option Expr} {p pos : Pos} (h : EV c A env own X ρ o (fun a => EO c A env own X ρ lo (fun b => EO c A env own X ρ up (fun d σ₃ =>
   ∃ l i j, IsL σ₃ a l ∧ PartV b i ∧ PartV d j ∧ l.length ≤ 1000000 ∧ ∀ D, σ₃ D = none → Q (.ref D) (upd σ₃ D (.list (sliceV l i j)))))) σ)
  (ht : autoParam (∀ o' r, letTemporaryGo o o' r = pure ()) aInt) : EV c A env own X ρ (.Subscript o (.Slice lo up none p) pos) Q σ := .mk fun F P s R => by
 refine wpAny_Subscript_list_slice (wpAny_mono (h.run F P s R) ?_ (fun zz zz x => x)) ht
 rintro va s₁ ⟨P₁, a, σ₁, le₁, R₁, ra, h₁⟩
 refine wpAny_mono (h₁.run F P₁ s₁ R₁) ?_ (fun zz zz x => x.of le₁)
 rintro vb s₂ ⟨P₂, b, σ₂, le₂, R₂, rb, h₂⟩
 refine wpAny_mono (h₂.run F P₂ s₂ R₂) ?_ (fun zz zz x => x.of (le₁.trans le₂))
 rintro vd s₃ ⟨P₃, d, σ₃, le₃, R₃, rd, l, i, j, h4, h5, h6, h7, h8⟩
 obtain ⟨ad, vs, n, rfl, g, r⟩ := h4.at R₃ (ra.mono (le₂.trans le₃))
 have len : vs.size = l.length := by rw [← r.length, Array.length_toList]
 refine ⟨ad, vs, i, j, rfl, ⟨_, g, rfl, n, rfl⟩, by rw [len, sizeLine_eq]; omega, h5.is (rb.mono le₃), h6.is rd, ?_⟩
 have R4 := R₃.push { cls := .type "slice", data := .fields #[vb, vd, .none] }
 have R5 := R4.pushσ { cls := .type "list", data := .seq (slicePick vs i j none) } (x := .list (sliceV l i j)) rfl ⟨_, 0, rfl, r.slice i j⟩
 have e : (s₃.heap.push { cls := .type "slice", data := .fields #[vb, vd, .none] }).objs.size = s₃.heap.objs.size + 1 := Heap.size_push ..
 rw [e] at R5
 have new := R₃.toC.new (a := s₃.heap.objs.size + 1) (Nat.le_succ _)
 exact ⟨_, .ref (s₃.heap.objs.size + 1), _, (le₁.trans le₂).trans le₃, R5, rfl, h8 _ new.1⟩
noncomputable def od : Option Int → PyData
 | some i => .int i
 | none => .none
theorem dats_row : ∀ (r : Row), dats (r.map ov) = some (r.map od)
 | [] => rfl
 | o :: r => by
  rw [List.map_cons, List.map_cons]
  unfold dats
  rw [dats_row r]
  cases o <;> rfl
theorem can_row : ∀ (r : Row), PyData.canLayAll0 (r.map od) = true
 | [] => rfl
 | o :: r => by
  rw [List.map_cons]
  unfold PyData.canLayAll0
  rw [can_row r]
  cases o <;> rfl
theorem depth_row : ∀ (r : Row), PyData.depthAll (r.map od) = 0
 | [] => rfl
 | o :: r => by
  rw [List.map_cons]
  unfold PyData.depthAll
  rw [depth_row r]
  cases o <;> rfl
theorem any_none : ∀ (r : Row), ((r.map od).any fun y => PyData.eqv y .none) = decide (none ∈ r)
 | [] => rfl
 | o :: r => by
  rw [List.map_cons, List.any_cons, any_none r]
  cases o with
  | none => simp [od, PyData.eqv]
  | some i => simp [od, PyData.eqv]
theorem op_noneIn {n : Nat} {r : Row} (room : Room n A) (h : Q (.bool (decide (none ∈ r))) σ) : OP2 c A env own X ρ Q (compareOp .In) .none (.lst (r.map ov)) σ :=
 op_inL (d := .none) rfl (dats_row r) (can_row r) rfl (by have := room.units; show A.units + 1 + 0 < cLine; omega) (by rw [any_none]; exact h)
theorem ov_some (xs : List Int) : xs.map V.int = (xs.map some).map ov := by rw [List.map_map]; rfl
theorem op_eqNil {n : Nat} {r : Row} (room : Room n A) (h : Q (.bool r.isEmpty) σ) : OP2 c A env own X ρ Q (compareOp .Eq) (.lst (r.map ov)) (.lst []) σ := by
 refine op_eqD (d := .list (r.map od)) (e := .list []) (by unfold dat; rw [dats_row r]; rfl) rfl (can_row r) rfl ?_ ?_
 ·have := room.units
  show A.units + min (PyData.depthAll (r.map od) + 1) (PyData.depthAll [] + 1) < cLine
  rw [depth_row]; omega
 ·cases r with
  | nil => exact h
  | cons o r => exact h
theorem ne_same {n : Nat} {v : V} {d : PyData} (room : Room n A) (h1 : dat v = some d) (h2 : d.canLay0 = true) (h3 : d.depth ≤ 6) (h : Q (.bool false) σ) : OP2 c A env own X ρ Q (compareOp .NotEq) v v σ :=
 op_neD h1 h1 h2 h2 (by have := room.units; omega) (by rw [PySem.SeqAt.eqv_refl d h2]; exact h)
theorem eq_same {n : Nat} {v : V} {d : PyData} (room : Room n A) (h1 : dat v = some d) (h2 : d.canLay0 = true) (h3 : d.depth ≤ 6) (h : Q (.bool true) σ) : OP2 c A env own X ρ Q (compareOp .Eq) v v σ :=
 op_eqD h1 h1 h2 h2 (by have := room.units; omega) (by rw [PySem.SeqAt.eqv_refl d h2]; exact h)
end
variable {c : Cx} {σ : Sto} {Q : V → Sto → Prop}
end
section
variable {c : Cx} {σ : Sto} {Q : V → Sto → Prop}
structure GL (l : List Int) : Prop where
 n : l.length ≤ 700
 r : ∀ e ∈ l, 0 ≤ e ∧ e < 95
theorem GL.init {l : List Int} {e : Int} (h : GL (l ++ [e])) : GL l := ⟨by have := h.n; simp only [List.length_append, List.length_cons, List.length_nil] at this; omega, fun x hx => h.r x (List.mem_append_left _ hx)⟩
theorem fn_law_stud (G : Good c) {a : Addr} {l : List Int} {m : Int} (hl : GL l) (hm : 0 < m) (hm' : m ≤ 1000) (h : ∀ r l', 0 ≤ r → r < m → GL l' → Q (.int r) (upd σ a (.list (l'.map .int)))) : FN c 1 (.ref 880) [.ref a, .int m] (upd σ a (.list (l.map .int))) Q := by
 refine go_fd_133 G fun A env room ok hs => ?_
 refine loc_fd_133 G hs fun l0 l1 g1 => ?_
 have hn := hl.n
 lk
 refine bi_lenN (.inr ⟨a, rfl, upd_self ..⟩) (List.length_map _) (by omega) ?_
 lk
 rcases List.eq_nil_or_concat l with rfl | ⟨l', e, rfl⟩
 ·lk
  exact h 0 [] (Int.le_refl _) hm hl
 ·rw [List.concat_eq_append] at *
  refine ite_dec (fun hx => ?_) fun hx => absurd (by simp only [List.length_append, List.length_cons, List.length_nil]; omega) hx
  lk
  refine ⟨_, MT_list (.inr ⟨a, rfl, upd_self ..⟩) PySem.F.slot_list_pop PySem.F.type_list_pop, callee_builtin, ?_⟩
  lk
  refine m_pop (l := l'.map .int) (v := .int e) (by rw [upd_self, List.map_append]; rfl) (by rw [List.length_map]; simp only [List.length_append] at hn; omega) ?_
  rw [upd_upd]
  lk
  refine op_mod (Int.ne_of_gt hm) ?_
  rw [Int.fmod_eq_emod_of_nonneg _ (Int.le_of_lt hm)]
  exact h _ l' (Int.emod_nonneg _ (Int.ne_of_gt hm)) (Int.emod_lt_of_pos _ hm) hl.init
theorem fn_law_least (G : Good c) {t b : Int} (hb : 0 < b) (hb' : Sm b) (h : Q (fr t b) σ) : FN c 1 (.ref 887) [.int t, .int b] σ Q := by
 refine go_fd_134 G fun A env room ok hs => ?_
 refine loc_fd_134 G hs fun l0 l1 l2 l3 g1 => ?_
 obtain ⟨k, rfl⟩ := Int.eq_ofNat_of_zero_le (Int.le_of_lt hb)
 have hk : 0 < k := by omega
 lk
 refine bi_abs ?_
 lk
 refine SX_While (n := k) (I := fun n ρ' σ' => ∃ x y : Nat, ρ' 0 = some (.int t) ∧ ρ' 1 = some (.int k) ∧ ρ' 2 = some (.int x) ∧ ρ' 3 = some (.int y) ∧ Nat.gcd x y = Nat.gcd t.natAbs k ∧ n = y ∧ σ' = σ) ⟨t.natAbs, k, rfl, rfl, rfl, rfl, rfl, rfl, rfl⟩ ?_
 intro n ρ' σ' hI K₁ K₂ kN kB
 refine exl2 hI fun x y hJ => ?_
 refine andl7 hJ fun h0 h1 h2 h3 hg hk' hq6 => ?_
 clear hI hJ
 obtain rfl := hq6
 lk
 refine ite_dec (fun hy => ?_) fun hy => ?_
 ·refine SS_cons (SX_Swap ok room.handled l2 l3 ?_ (swap2 ok l2 l3 rfl (by decide) (by decide)))
  lk
  refine op_mod hy ?_
  lk
  refine ⟨_, _, rfl, ?_⟩
  lk
  refine ⟨x % y, hk' ▸ Nat.mod_lt _ (by omega), y, x % y, h0, h1, rfl, ?_, ?_, rfl, rfl⟩
  ·show some _ = some _
   rw [Int.fmod_eq_emod_of_nonneg _ (by omega)]; rfl
  ·rw [← hg, Nat.gcd_comm x y, Nat.gcd_rec y x, Nat.gcd_comm]
 ·have : y = 0 := by omega
  subst this
  rw [Nat.gcd_zero_right] at hg
  subst hg
  have hgp : 0 < Nat.gcd t.natAbs k := Nat.gcd_pos_of_pos_right _ hk
  have hgk : Nat.gcd t.natAbs k ≤ k := Nat.gcd_le_right _ hk
  have hgs : Sm (Nat.gcd t.natAbs k : Int) := by unfold Sm at hb' ⊢; omega
  lk
  refine op_div (by omega) hgs.div ?_
  lk
  refine op_div (by omega) hgs.div ?_
  lk
  rw [fdiv_pos (by omega), fdiv_pos (by omega)]
  exact h
structure GR (r : Row) : Prop where
 r : ∀ o ∈ r, ∀ i, o = some i → -4 ≤ i ∧ i ≤ 13
theorem fn_law_row (G : Good c) {a : Addr} {l : List Int} {n : Nat} (hl : GL l) (hn : n ≤ 6) (h : ∀ r l', r.length = n → GR r → GL l' → Q (.lst (r.map ov)) (upd σ a (.list (l'.map .int)))) : FN c 2 (.ref 894) [.ref a, .int n] (upd σ a (.list (l.map .int))) Q := by
 refine go_fd_135 G fun A env room ok hs => ?_
 refine loc_fd_135 G hs fun l0 l1 l2 l3 l4 g1 g2 => ?_
 lk
 refine EV_List (ES_nil ⟨by decide, fun w hw => ?_⟩)
 have hwa : w ≠ a := fun e => by rw [e, upd_self] at hw; cases hw
 have hw' : σ w = none := by rwa [upd_ne hwa] at hw
 lk
 refine SX_For (I := fun ls ρ' σ' => ∃ (k : Nat) (r : Row) (l' : List Int), ls = upFrom k 1 (n - k) ∧ k ≤ n ∧ r.length = k ∧ GR r ∧ GL l' ∧ ρ' 0 = some (.ref a) ∧ ρ' 2 = some (.ref w) ∧ σ' = upd (upd σ a (.list (l'.map .int))) w (.list (r.map ov))) room.handled ?_ ?_ ?_
 ·intro K₀ kI
  lk
  refine bi_range ?_
  exact ⟨_, its_range (by omega), kI.go _ _ ⟨0, [], l, rfl, Nat.zero_le _, rfl, ⟨fun o ho => by simp at ho⟩, hl, rfl, rfl, rfl⟩⟩
 ·intro v ls ρ' σ' hI K₁ K₂ kN kB
  refine exl3 hI fun k r l' hJ => ?_
  refine andl8 hJ fun e hk' hr gr gl h0 h2 hq7 => ?_
  clear hI hJ
  obtain rfl := hq7
  obtain ⟨hk, rfl, rfl⟩ := upFrom_cons e
  lk
  rw [upd_comm _ _ _ (Ne.symm hwa)]
  refine OPN_at room (fn_law_stud G gl (by decide) (by decide) fun d l'' d0 d1 gl' => ?_)
  rw [upd_comm _ _ _ hwa]
  lk
  refine ⟨_, MT_list (.inr ⟨w, rfl, upd_self ..⟩) PySem.F.slot_list_append PySem.F.type_list_append, callee_builtin, ?_⟩
  lk
  have app : ∀ o : Option Int, (∀ i, o = some i → -4 ≤ i ∧ i ≤ 13) → ∃ (k' : Nat) (r' : Row) (l₂ : List Int), upFrom ((k + 1 : Nat) : Int) 1 (n - (k + 1)) = upFrom k' 1 (n - k') ∧ k' ≤ n ∧ r'.length = k' ∧ GR r' ∧ GL l₂ ∧ upl (upl ρ' 3 (V.int k)) 4 (.int d) 0 = some (.ref a) ∧ upl (upl ρ' 3 (V.int k)) 4 (.int d) 2 = some (.ref w) ∧
    upd (upd (upd σ a (.list (l''.map .int))) w (.list (r.map ov))) w (.list (r.map ov ++ [ov o])) = upd (upd σ a (.list (l₂.map .int))) w (.list (r'.map ov)) := fun o ho => by
   refine ⟨k + 1, r ++ [o], l'', rfl, hk, by simp [hr], ⟨fun x hx i e => ?_⟩, gl', h0, h2, by rw [upd_upd, List.map_append]; rfl⟩
   rcases List.mem_append.mp hx with hx | hx
   ·exact gr.r x hx i e
   ·rw [List.mem_singleton] at hx; subst hx; exact ho i e
  refine ite_dec (fun hd => ?_) fun hd => ?_
  ·lk
   refine m_append (upd_self ..) (by rw [List.length_map]; omega) ⟨rfl, ?_⟩
   lk
   exact app none (fun i e => by cases e)
  ·lk
   refine m_append (upd_self ..) (by rw [List.length_map]; omega) ⟨rfl, ?_⟩
   lk
   exact app (some (d - 4)) (fun i e => by cases e; omega)
 ·intro ρ' σ' hI
  refine exl3 hI fun k r l' hJ => ?_
  refine andl8 hJ fun e hk' hr gr gl h0 h2 hq7 => ?_
  clear hI hJ
  obtain rfl := hq7
  have := upFrom_nil e
  refine SS_cons (SX_Return (EV_freezeL ?_))
  lk
  exact ⟨w, _, _, rfl, upd_self .., .upd (by rw [upd_ne hwa]; exact hw'), by rw [upd_ne hwa]; exact hw', h r l' (by omega) gr gl⟩
end
section
variable {c : Cx} {σ : Sto} {Q : V → Sto → Prop}
noncomputable def srt (xs : List Int) : List Int := xs.mergeSort fun a b => decide (a ≤ b)
theorem srt_perm (xs : List Int) : (srt xs).Perm xs := List.mergeSort_perm xs _
theorem srt_pw (xs : List Int) : (srt xs).Pairwise (· ≤ ·) := by
 have := List.pairwise_mergeSort (le := fun a b : Int => decide (a ≤ b)) (fun a b c h1 h2 => by simp only [decide_eq_true_eq] at *; omega) (fun a b => by simp only [Bool.or_eq_true, decide_eq_true_eq]; omega) xs
 exact this.imp fun h => by simpa using h
theorem srt_eq {xs ys : List Int} (p : ys.Perm xs) (h : ys.Pairwise (· ≤ ·)) : ys = srt xs := lks_uniq (p.trans (srt_perm xs).symm) h (srt_pw xs)
noncomputable def awayN (n t : Nat) : Nat := if 5 ≤ t then (n - 1) / 2 else n * t / 10
theorem away_le {n t : Nat} (hn : n ≤ 6) (ht : t ≤ 6) : 2 * awayN n t ≤ n := by
 unfold awayN
 split
 ·omega
 ·have : n * t ≤ n * 4 := Nat.mul_le_mul_left _ (by omega)
  omega
noncomputable def cut (l : List Int) (a : Nat) : List Int := (l.take (l.length - a)).drop a
noncomputable def midL (xs : List Int) (t : Nat) : List Int := cut (srt xs) (awayN xs.length t)
noncomputable def meanI (l : List Int) : V := if l = [] then .tup [.int 0, .int 0] else fr l.sum l.length
noncomputable def midV (r : Row) (t : Nat) : V := if none ∈ r then .none else meanI (midL (r.filterMap id) t)
theorem mid_cast (n : Nat) : max ((n : Int) - 1) 0 / 2 = ((n - 1) / 2 : Nat) := by
 cases n with
 | zero => rfl
 | succ n =>
  rw [show ((n + 1 : Nat) : Int) - 1 = (n : Int) by omega, Int.max_eq_left (Int.natCast_nonneg n), Nat.add_sub_cancel]
  rfl
theorem clip_nat (n k : Nat) (h : k ≤ n) : clipAt n (k : Int) = k := by unfold clipAt; rw [if_neg (by omega)]; omega
theorem slice_cut {l : List Int} {f : Int → V} {a : Nat} (h : a ≤ l.length) : sliceV (l.map f) (some (a : Int)) (some ((l.length : Int) - (a : Int))) = (cut l a).map f := by
 unfold sliceV cut
 have e : ((l.length : Int) - (a : Int)) = ((l.length - a : Nat) : Int) := by omega
 rw [e]
 show ((l.map f).take (clipAt _ _)).drop (clipAt _ _) = _
 rw [List.length_map, clip_nat l.length (l.length - a) (by omega), clip_nat l.length a h, List.map_drop, List.map_take]
theorem cut_mem {l : List Int} {a : Nat} {x : Int} (h : x ∈ cut l a) : x ∈ l := List.mem_of_mem_take (List.mem_of_mem_drop h)
set_option tactic.hygienic true in
theorem meanV_map (l : List Int) : meanV (l.map some) = meanI l := by
 unfold meanI
 split
 ·rename_i e; subst e; rfl
 ·rename_i e; exact mean_full e
theorem sum_perm {a b : List Int} (p : a.Perm b) : a.sum = b.sum := by
 induction p with
 | nil => rfl
 | cons x _ ih => rw [List.sum_cons, List.sum_cons, ih]
 | swap x y l => simp only [List.sum_cons]; omega
 | trans _ _ ih ih' => exact ih.trans ih'
theorem midV_zero (r : Row) : midV r 0 = meanV r := by
 unfold midV
 rcases row_cases r with hn | ⟨xs, rfl⟩
 ·rw [if_pos hn, mean_none hn]
 ·rw [if_neg (by simp), fm_some, meanV_map]
  have e : midL xs 0 = srt xs := by unfold midL cut awayN; simp
  rw [e]
  unfold meanI
  have hl := (srt_perm xs).length_eq
  have hs : (srt xs).sum = xs.sum := sum_perm (srt_perm xs)
  by_cases h0 : xs = []
  ·subst h0; rw [if_pos (srt_perm []).eq_nil, if_pos rfl]
  ·rw [if_neg h0, if_neg (fun e => h0 (by rw [e] at hl; exact List.length_eq_zero_iff.mp hl.symm)), hl, hs]
theorem part_facts : ∀ t : Fin 7, 0 < (red (t.1 : Nat) 10).2 ∧ Sm (red (t.1 : Nat) 10).1 ∧ (cmp ((red (t.1 : Nat) 10).1 * 1) (0 * (red (t.1 : Nat) 10).2) ≤ 0 ↔ t.1 = 0) ∧ (cmp ((red (t.1 : Nat) 10).1 * 2) (1 * (red (t.1 : Nat) 10).2) < 0 ↔ t.1 < 5) := by
 unfold Sm; decide +kernel
theorem red_ediv {a b : Int} (hb : 0 < b) : (red a b).1 / (red a b).2 = a / b := by
 obtain ⟨g, hg, h1, h2⟩ := red_spec (n := a) hb
 calc (red a b).1 / (red a b).2 = (g * (red a b).1) / (g * (red a b).2) := (Int.mul_ediv_mul_of_pos _ _ hg).symm
  _ = a / b := by rw [← h1, ← h2]
theorem any_isNone (r : Row) : r.any (·.isNone) = decide (none ∈ r) := by
 induction r with
 | nil => rfl
 | cons o r ih => cases o <;> simp [ih]
theorem fn_trimmed (G : Good c) {r : Row} {t : Nat} (ht : t ≤ 6) (hz : r.length ≤ 6) (hb : ∀ o ∈ r, ∀ i, o = some i → i.natAbs ≤ 20) {v w : V} (hv : v = .lst (r.map qv')) (hw : w = fr t 10) (h : Q (midV r t) σ) : FN c 6 (.ref 764) [v, w] σ Q := by
 subst hv hw
 have hsm : small r := fun o ho i e => by have := hb o ho i e; omega
 obtain ⟨hq, hp, f0, f5⟩ := part_facts ⟨t, by omega⟩
 dsimp only at hq hp f0 f5
 refine go_fd_113 G fun A env room ok hs => ?_
 refine loc_fd_113 G hs fun l0 l1 l2 l3 g1 g2 g3 g4 g5 g6 g7 g8 g9 g10 => ?_
 lk
 refine OPN_at room (fn_compare G hp (by unfold Sm; decide) hq (by decide) ?_)
 lk
 refine ite_dec (fun h0 => ?_) fun h0 => ?_
 ·have e : t = 0 := f0.mp (of_decide_eq_true (by simpa using h0))
  subst e
  lk
  refine OPN_at room (fn_mean_items G rfl (by omega) hsm ?_)
  rw [← midV_zero]; exact h
 lk
 refine OPN_at room (fn_lacking_item G rfl ?_)
 rw [any_isNone]
 unfold midV at h
 lk
 rcases row_cases r with hn | ⟨xs, rfl⟩
 ·rw [if_pos hn] at h
  rw [decide_eq_true hn]
  lk
  exact h
 have hn : none ∉ xs.map some := by simp
 rw [if_neg hn, fm_some] at h
 rw [decide_eq_false hn]
 rw [List.length_map] at hz
 have hx : ∀ x ∈ xs, x.natAbs ≤ 20 := fun x hx => hb _ (List.mem_map_of_mem hx) x rfl
 lk
 refine OPN_at room (fn_ascending G (ns := xs) (by rw [List.map_map]; rfl) hz (fun x h => by have := hx x h; unfold Sm; omega) fun ns' p pw => ?_)
 have ln := p.length_eq
 obtain rfl := srt_eq p pw
 have hal := away_le hz ht
 lk
 refine bi_len (.inl rfl) (by rw [List.length_map, ln]; omega) ?_
 lk
 refine bi_max2 room.handled ?_
 lk
 refine op_div (by decide) (Sm.div (by unfold Sm; decide)) ?_
 rw [List.length_map, ln, fdiv_pos (by decide)]
 lk
 refine OPN_at room (fn_compare G hp (by unfold Sm; decide) hq (by decide) ?_)
 lk
 have hcs : small ((cut (srt xs) (awayN xs.length t)).map some) := fun o ho i e => by
  obtain ⟨x, hx', e'⟩ := List.mem_map.mp ho
  rw [e] at e'
  cases e'
  have := hx i ((srt_perm xs).mem_iff.mp (cut_mem hx'))
  omega
 have hcl : ((cut (srt xs) (awayN xs.length t)).map some).length ≤ 100 := by
  rw [List.length_map]; unfold cut; rw [List.length_drop, List.length_take]; omega
 have hce : (cut (srt xs) (awayN xs.length t)).map (fun i => qv' (some i)) = ((cut (srt xs) (awayN xs.length t)).map some).map qv' := by rw [List.map_map]; rfl
 have h' : Q (meanV ((cut (srt xs) (awayN xs.length t)).map some)) σ := by rw [meanV_map]; exact h
 refine ite_dec (fun h5 => ?_) fun h5 => ?_
 ·have h5 : t < 5 := f5.mp (by simpa using h5)
  have ea : (red (t * (xs.length : Int)) (10 * 1)).1 / (red (t * (xs.length : Int)) (10 * 1)).2 = (awayN xs.length t : Nat) := by
   rw [red_ediv (by decide)]
   unfold awayN
   rw [if_neg (by omega), Nat.mul_comm]
   omega
  lk
  refine bi_lenN (.inl rfl) ((List.length_map _).trans ln) (by omega) ?_
  lk
  refine OPN_at room (fn_from_int G ?_)
  lk
  rw [← fr_one]
  refine OPN_at room (fn_mul G ⟨by omega, by decide, by decide⟩ ⟨by omega, by decide, by decide⟩ ?_)
  lk
  have dp : 0 < (red ((t : Int) * (xs.length : Int)) (10 * 1)).2 := red_pos (by decide)
  have dl := (red_le (n := (t : Int) * (xs.length : Int)) (d := 10 * 1) (by decide)).1
  refine OPN_at room (fn_floor G dp (by unfold Sm; omega) ?_)
  rw [ea]
  lk
  refine bi_lenN (.inl rfl) (List.length_map _) (by rw [ln]; omega) ?_
  lk
  refine ⟨_, _, _, .inl rfl, .int _, .int _, by rw [List.length_map, ln]; omega, ?_⟩
  rw [slice_cut (by omega), hce]
  lk
  exact OPN_at room (fn_mean_items G rfl hcl hcs h')
 ·have h5 : ¬ t < 5 := fun q => h5 (by simpa using f5.mpr q)
  have ea : max ((xs.length : Int) - 1) 0 / 2 = (awayN xs.length t : Nat) := by
   unfold awayN
   rw [if_pos (Nat.le_of_not_lt h5)]
   exact mid_cast _
  rw [ea]
  lk
  refine bi_lenN (.inl rfl) (List.length_map _) (by rw [ln]; omega) ?_
  lk
  refine ⟨_, _, _, .inl rfl, .int _, .int _, by rw [List.length_map, ln]; omega, ?_⟩
  rw [slice_cut (by omega), hce]
  lk
  exact OPN_at room (fn_mean_items G rfl hcl hcs h')
end
section
variable {c : Cx} {σ : Sto} {Q : V → Sto → Prop}
theorem cut_len (l : List Int) (a : Nat) : (cut l a).length ≤ l.length := by unfold cut; rw [List.length_drop, List.length_take]; omega
theorem fn_law_middle (G : Good c) {r : Row} {t : Nat} (ht : t ≤ 6) (hz : r.length ≤ 6) (h : Q (midV r t) σ) : FN c 3 (.ref 901) [.lst (r.map ov), .int t] σ Q := by
 refine go_fd_136 G fun A env room ok hs => ?_
 refine loc_fd_136 G hs fun l0 l1 l2 l3 l4 g1 g2 g3 g4 g5 => ?_
 lk
 refine op_noneIn room ?_
 unfold midV at h
 lk
 rcases row_cases r with hn | ⟨xs, rfl⟩
 ·rw [if_pos hn] at h
  rw [decide_eq_true hn]
  lk
  exact h
 have hn : none ∉ xs.map some := by simp
 rw [if_neg hn, fm_some] at h
 rw [decide_eq_false hn]
 rw [List.length_map] at hz
 lk
 refine bi_sorted (ns := xs) (.inl (by rw [← ov_some])) (by omega) fun ns' p pw => ?_
 have ln := p.length_eq
 obtain rfl := srt_eq p pw
 have hal := away_le hz ht
 lk
 refine bi_lenN (.inl rfl) ((List.length_map _).trans ln) (by omega) ?_
 lk
 refine op_mul (Sm.mul (by unfold Sm; omega)) ?_
 lk
 refine op_div (by decide) (Sm.div (by unfold Sm; decide)) ?_
 rw [fdiv_pos (by decide)]
 lk
 have fin : ∀ a : Int, a = (awayN xs.length t : Nat) → ((sliceV ((srt xs).map V.int) (some a) (some (((srt xs).length : Int) - a)))) = ((cut (srt xs) (awayN xs.length t)).map some).map ov := fun a e => by
  subst e
  rw [slice_cut (by omega), List.map_map]; rfl
 have h' : Q (if ((cut (srt xs) (awayN xs.length t)).map some).isEmpty = true then .tup [.int 0, .int 0] else fr (cut (srt xs) (awayN xs.length t)).sum (cut (srt xs) (awayN xs.length t)).length) σ := by
  unfold midL meanI at h
  cases hc : cut (srt xs) (awayN xs.length t) with
  | nil => rw [hc] at h; exact h
  | cons x l => rw [hc] at h; exact h
 have hcl : (cut (srt xs) (awayN xs.length t)).length ≤ 6 := by have := cut_len (srt xs) (awayN xs.length t); omega
 have cutl : 0 < (cut (srt xs) (awayN xs.length t)).length ∨ cut (srt xs) (awayN xs.length t) = [] := by
  cases cut (srt xs) (awayN xs.length t) with
  | nil => exact .inr rfl
  | cons x l => exact .inl (by simp)
 generalize cut (srt xs) (awayN xs.length t) = cs at fin h' hcl cutl
 refine ite_dec (fun h5 => ?_) fun h5 => ?_
 ·lk
  refine bi_lenN (.inl rfl) ((List.length_map _).trans ln) (by omega) ?_
  lk
  refine bi_max2 room.handled ?_
  lk
  refine op_div (by decide) (Sm.div (by unfold Sm; decide)) ?_
  rw [fdiv_pos (by decide)]
  lk
  refine bi_lenN (.inl rfl) (List.length_map _) (by rw [ln]; omega) ?_
  lk
  refine ⟨_, _, _, .inl rfl, .int _, .int _, by rw [List.length_map, ln]; omega, ?_⟩
  rw [fin _ (by unfold awayN; rw [if_pos (by omega)]; exact mid_cast _)]
  lk
  refine EV_ListF (ES_nil ⟨by decide, ?_⟩)
  refine op_eqNil room ?_
  lk
  rcases cutl with hc | rfl
  ·rw [if_neg (by simp; intro e; rw [e] at hc; simp at hc)] at h'
   rw [show (cs.map some).isEmpty = false by cases cs with | nil => simp at hc | cons x l => rfl]
   lk
   refine bi_sum room.handled (ns := cs) (.inl (by rw [← ov_some])) ?_
   lk
   refine bi_lenN (.inl rfl) ((List.length_map _).trans (List.length_map _)) (by omega) ?_
   lk
   exact OPN_at room (fn_law_least G (by omega) (by unfold Sm; omega) h')
  ·lk
   exact h'
 ·lk
  refine bi_lenN (.inl rfl) (List.length_map _) (by rw [ln]; omega) ?_
  lk
  refine ⟨_, _, _, .inl rfl, .int _, .int _, by rw [List.length_map, ln]; omega, ?_⟩
  rw [fin _ (by unfold awayN; rw [if_neg (by omega)]; rw [Int.natCast_ediv, Int.natCast_mul]; rfl)]
  lk
  refine EV_ListF (ES_nil ⟨by decide, ?_⟩)
  refine op_eqNil room ?_
  lk
  rcases cutl with hc | rfl
  ·rw [if_neg (by simp; intro e; rw [e] at hc; simp at hc)] at h'
   rw [show (cs.map some).isEmpty = false by cases cs with | nil => simp at hc | cons x l => rfl]
   lk
   refine bi_sum room.handled (ns := cs) (.inl (by rw [← ov_some])) ?_
   lk
   refine bi_lenN (.inl rfl) ((List.length_map _).trans (List.length_map _)) (by omega) ?_
   lk
   exact OPN_at room (fn_law_least G (by omega) (by unfold Sm; omega) h')
  ·lk
   exact h'
noncomputable def medI (r : Row) : V := if r = [] ∨ none ∈ r then .none else
 let xs := r.filterMap id
 if xs.length % 2 = 0 then meanI (cut (srt xs) ((xs.length - 1) / 2)) else .int ((srt xs).getD (xs.length / 2) 0)
theorem fn_median_of (G : Good c) {r : Row} {v : V} (hv : v = ivec r) (hz : r.length ≤ 6) (hb : ∀ o ∈ r, ∀ i, o = some i → i.natAbs ≤ 20) (h : ∀ k : Str, Q (vec (.str k) (.lst [medI r]) .none) σ) : FN c 6 (.ref 785) [v] σ Q := by
 subst hv
 refine go_fd_116 G fun A env room ok hs => ?_
 refine loc_fd_116 G hs fun l0 l1 l2 l3 l4 g1 g2 g3 g4 g5 g6 => ?_
 lk
 refine OPN_at room (fn_number_items G rfl (by omega) ?_)
 unfold ivec
 lk
 refine tru_L (.inl rfl) (by rw [List.length_map]; omega) ?_
 unfold medI at h
 cases r with
 | nil =>
  lk
  exact mk_vec G room (h _)
 | cons o r =>
  generalize hr : o :: r = R at *
  have hR : R ≠ [] := by rw [← hr]; simp
  have he : (!(List.map qv' R).isEmpty) = true := by rw [← hr]; rfl
  rw [he]
  lk
  refine OPN_at room (fn_lacking_item G rfl ?_)
  rw [any_isNone]
  rcases row_cases R with hn | ⟨xs, rfl⟩
  ·rw [if_pos (.inr hn)] at h
   rw [decide_eq_true hn]
   lk
   exact mk_vec G room (h _)
  have hn : none ∉ xs.map some := by simp
  rw [if_neg (by rintro (q | q); exact hR q; exact hn q), fm_some] at h
  rw [decide_eq_false hn]
  rw [List.length_map] at hz
  have hx : ∀ x ∈ xs, x.natAbs ≤ 20 := fun x hx => hb _ (List.mem_map_of_mem hx) x rfl
  have hx0 : 0 < xs.length := by
   cases xs with
   | nil => exact absurd rfl hR
   | cons a l => simp
  lk
  refine OPN_at room (fn_ascending G (ns := xs) (by rw [List.map_map]; rfl) hz (fun x h => by have := hx x h; unfold Sm; omega) fun ns' p pw => ?_)
  have ln := p.length_eq
  obtain rfl := srt_eq p pw
  lk
  refine bi_lenN (.inl rfl) ((List.length_map _).trans ln) (by omega) ?_
  lk
  refine op_div (by decide) (Sm.div (by unfold Sm; decide)) ?_
  rw [fdiv_pos (by decide)]
  lk
  refine bi_lenN (.inl rfl) ((List.length_map _).trans ln) (by omega) ?_
  lk
  refine op_mod (by decide) ?_
  rw [Int.fmod_eq_emod_of_nonneg _ (by decide)]
  lk
  refine ite_dec (fun he => ?_) fun he => ?_
  ·have he2 : xs.length % 2 = 0 := by omega
   simp only [he2, if_true] at h
   lk
   refine ⟨_, _, _, .inl rfl, .int _, .int _, by rw [List.length_map, ln]; omega, ?_⟩
   rw [show ((xs.length : Int) / 2 - 1) = (((xs.length - 1) / 2 : Nat) : Int) by omega, show ((xs.length : Int) / 2 + 1) = (((srt xs).length : Int) - (((xs.length - 1) / 2 : Nat) : Int)) by omega, slice_cut (by omega)]
   lk
   have hcl := cut_len (srt xs) ((xs.length - 1) / 2)
   refine OPN_at room (fn_mean_items G (r := (cut (srt xs) ((xs.length - 1) / 2)).map some) (by rw [List.map_map]; rfl) (by rw [List.length_map]; omega) (fun o ho i e => ?_) ?_)
   ·obtain ⟨x, hx', e'⟩ := List.mem_map.mp ho
    rw [e] at e'
    cases e'
    have := hx i ((srt_perm xs).mem_iff.mp (cut_mem hx'))
    omega
   rw [meanV_map]
   lk
   exact mk_vec G room (h _)
  ·have he2 : ¬ xs.length % 2 = 0 := fun q => he (by omega)
   simp only [he2, if_false] at h
   lk
   have hlt : xs.length / 2 < (srt xs).length := by omega
   rw [show ((xs.length : Int) / 2) = ((xs.length / 2 : Nat) : Int) by omega]
   refine sub_lstN (v := .tup [.int ((srt xs).getD (xs.length / 2) 0), .int 1]) ?_ (by omega) (fun zz zz zz => rfl) ?_
   ·rw [List.getElem?_map, List.getElem?_eq_getElem hlt, List.getD_eq_getElem?_getD, List.getElem?_eq_getElem hlt]; rfl
   lk
   exact mk_vec G room (h _)
end
section
section
variable {c : Cx} {A : Around} {env : Env} {own : Bool} {X : XP} {ρ : Loc} {σ σ' : Sto} {Q : V → Sto → Prop}
theorem EB_mono {e : Expr} {Q Q' : Bool → Sto → Prop} (h : EB c A env own X ρ e Q' σ) (k : ∀ v σ, Q' v σ → Q v σ) : EB c A env own X ρ e Q σ := .mk fun F P s R => by
 refine wpAny_mono (h.run F P s R) ?_ fun zz zz x => x
 rintro v s₁ ⟨P₁, σ₁, le₁, R₁, q⟩
 exact ⟨P₁, σ₁, le₁, R₁, k _ _ q⟩
theorem SLe.over {τ : Sto} {D : Addr} {x : O} (h : SLe σ τ) (hD : σ D = none) : SLe σ (Mine.Internal.upd τ D x) := fun b y e => by
 by_cases q : b = D
 ·subst q; rw [hD] at e; cases e
 ·rw [upd_ne q]; exact h b y e
theorem OPN_weak {f : List Value → Sem Value} {l : List V} (le : SLe σ' σ) (h : OPN c A env own X ρ Q f l σ') : OPN c A env own X ρ Q f l σ := .mk fun F P s xs R r => h.run F P s xs (R.weak le) r
end
variable {c : Cx} {σ : Sto} {Q : V → Sto → Prop}
end
section
variable {c : Cx} {σ : Sto} {Q : V → Sto → Prop}
noncomputable def leftR (r : Row) (b : Bool) : Row := if b = true then r.filter (·.isSome) else r
theorem leftR_len (r : Row) (b : Bool) : (leftR r b).length ≤ r.length := by
 unfold leftR; split
 ·exact List.length_filter_le _ _
 ·exact Nat.le_refl _
theorem leftR_mem {r : Row} {b : Bool} {o : Option Int} (h : o ∈ leftR r b) : o ∈ r := by
 unfold leftR at h; split at h
 ·exact (List.mem_filter.mp h).1
 ·exact h
theorem fn_b_median (G : Good c) {r : Row} {b : Bool} {i e : V} (hz : r.length ≤ 6) (hb : ∀ o ∈ r, ∀ i, o = some i → i.natAbs ≤ 20) (h : ∀ k : Str, Q (vec (.str k) (.lst [medI (leftR r b)]) .none) σ) :
  FN c 7 (.ref 854) [i, .lst [argV (none, ivec r), argV (none, lvec b)], e] σ Q := by
 refine go_fd_128 G fun A env room ok hs => ?_
 refine loc_fd_128 G hs fun l0 l1 l2 g1 g2 => ?_
 lk
 refine OPN_at room (fn_numeric_arg G (by omega) ?_)
 lk
 exact OPN_at room (fn_median_of G rfl (Nat.le_trans (leftR_len r b) hz) (fun o ho => hb o (leftR_mem ho)) h)
theorem comp_tag {A : Around} {env : Env} {n : Nat} (room : Room n A) {tg : Option Str} {p : V} {scope : Scope} (hn : scope.names = [(S ".0", .local), (S "tag", .local), (S "value", .local)]) {cond : Expr} {p1 p2 p3 p4 : Pos} {k : Nat} (b : Bool)
  (hc : ∀ (cenv : Env) (ρ : Loc) (σ' : Sto), LocAt cenv 1 (S "tag") .local → EnvOk cenv → ρ 1 = some (tv tg) → EB c A cenv false No ρ cond (fun x σ₄ => x = b ∧ σ₄ = σ') σ') :
  CompStep c A env scope (.Name (S "value") p1) (.Tuple [.Name (S "tag") p2, .Name (S "value") p3] k p4) [cond] [argV (tg, p)] (fun zz => if b = true then some p else none) (fun zz => True) σ := .mk fun cenv hcs okc σ' ρ' v hv zz zz => by
 have e : cenv.scope.names = [(S ".0", .local), (S "tag", .local), (S "value", .local)] := by rw [hcs]; simp [relabel, hn]
 have l1 : LocAt cenv 1 (S "tag") .local := LocAt_of e (by decide +kernel) rfl (by decide +kernel)
 have l2 : LocAt cenv 2 (S "value") .local := LocAt_of e (by decide +kernel) rfl (by decide +kernel)
 rw [List.mem_singleton] at hv
 subst hv
 unfold argV
 lk
 refine ⟨trivial, rfl, TS_one ?_⟩
 refine EB_mono (hc cenv _ σ' l1 okc rfl) ?_
 rintro x σ₄ ⟨rfl, rfl⟩
 refine ⟨rfl, ?_⟩
 cases x with
 | false => rfl
 | true =>
  lk
  exact ⟨rfl, rfl⟩
theorem fn_b_mean (G : Good c) {r : Row} {b : Bool} {t : Nat} {tg : Option Str} {i e : V} (ht : t ≤ 6) (htg : tg = none ∨ tg = some (S "trim")) (hz : r.length ≤ 6) (hb : ∀ o ∈ r, ∀ i, o = some i → i.natAbs ≤ 20) (h : Q (dvec [midV (leftR r b) t]) σ) :
  FN c 7 (.ref 847) [i, .lst [argV (none, ivec r), argV (tg, dvec [fr t 10]), argV (some (S "na.rm"), lvec b)], e] σ Q := by
 refine go_fd_127 G fun A env room ok hs => ?_
 refine loc_fd_127 G hs fun l0 l1 l2 l3 l4 l5 l6 l7 l8 l9 g1 g2 g3 g4 g5 g6 g7 g8 g9 g10 g11 => ?_
 have hq := (part_facts ⟨t, by omega⟩).1
 dsimp only at hq
 lk
 rcases htg with rfl | rfl
 ·refine OPN_at room (take_1 G ?_)
  lk
  refine OPN_at room (fn_needed G rfl ?_)
  unfold ivec
  lk
  refine OPN_at room (fn_inherits_int G ?_)
  lk
  refine SX_Assign_Comp (ρl := [none, none, none]) (J := fun zz => True) (fun zz => some (dvec [fr t 10])) room.handled ok ⟨rfl, by decide +kernel, by decide +kernel⟩ l7 ⟨rfl, rfl, rfl, trivial⟩ trivial ?_ rfl rfl
  lk
  refine ⟨_, .lst _, by simp, comp_tag room rfl true (fun cenv ρ σ' l1 okc h1 => ?_), fun D hD => ?_⟩
  ·lk
   exact ⟨rfl, rfl⟩
  lk
  refine SX_Assign_Comp (ρl := [none, none, none]) (J := fun zz => True) (fun zz => none) room.handled ok ⟨rfl, by decide +kernel, by decide +kernel⟩ l8 ⟨rfl, rfl, rfl, trivial⟩ trivial ?_ rfl rfl
  lk
  refine ⟨_, .lst _, by simp, comp_tag room rfl false (fun cenv ρ σ' l1 okc h1 => ?_), fun D' hD' => ?_⟩
  ·lk
   exact ⟨rfl, rfl⟩
  lk
  have ne : D' ≠ D := fun e => by rw [e, upd_self] at hD'; cases hD'
  have hD'' : σ D' = none := by rwa [upd_ne ne] at hD'
  refine bi_len (l := []) (.inr ⟨_, rfl, upd_self ..⟩) (by decide) ?_
  lk
  refine bi_len (l := [dvec [fr t 10]]) (.inr ⟨_, rfl, (upd_ne (Ne.symm ne)).trans (upd_self ..)⟩) (by simp) ?_
  lk
  refine ⟨_, MT_list (l := []) (.inr ⟨_, rfl, upd_self ..⟩) PySem.F.slot_list_append PySem.F.type_list_append, callee_builtin, ?_⟩
  lk
  refine ⟨_, MT_list (l := [dvec [fr t 10]]) (.inr ⟨_, rfl, (upd_ne (Ne.symm ne)).trans (upd_self ..)⟩) PySem.F.slot_list_pop PySem.F.type_list_pop, callee_builtin, ?_⟩
  lk
  refine m_pop0 (l := []) ((upd_ne (Ne.symm ne)).trans (upd_self ..)) (by decide) ?_
  lk
  refine m_append (l := []) ((upd_ne ne).trans (upd_self ..)) (by decide) ?_
  lk
  refine ⟨rfl, ?_⟩
  lk
  refine bi_len (l := [dvec [fr t 10]]) (.inr ⟨_, rfl, upd_self ..⟩) (by simp) ?_
  lk
  refine sub_ref (l := [dvec [fr t 10]]) (upd_self ..) rfl (by decide) (by decide) (fun zz zz zz => rfl) ?_
  lk
  refine OPN_at room (fn_trim_part G (Int.ne_of_gt hq) ?_)
  lk
  refine OPN_weak (σ' := σ) (((((SLe.refl σ).over hD).over hD'').over hD).over hD'') ?_
  refine OPN_at room (fn_is_set G ?_)
  lk
  refine OPN_at room (fn_without_lacking G rfl (by omega) ?_)
  lk
  refine OPN_at room (fn_number_items G rfl (Nat.le_trans (leftR_len r b) (by omega)) ?_)
  lk
  refine OPN_at room (fn_trimmed G (r := leftR r b) ht (Nat.le_trans (leftR_len r b) hz) (fun o ho => hb o (leftR_mem ho)) rfl rfl ?_)
  lk
  exact mk_vec G room h
 ·refine OPN_at room (take_2 G ?_)
  lk
  refine OPN_at room (fn_needed G rfl ?_)
  unfold ivec
  lk
  refine OPN_at room (fn_inherits_int G ?_)
  lk
  refine SX_Assign_Comp (ρl := [none, none, none]) (J := fun zz => True) (fun zz => none) room.handled ok ⟨rfl, by decide +kernel, by decide +kernel⟩ l7 ⟨rfl, rfl, rfl, trivial⟩ trivial ?_ rfl rfl
  lk
  refine ⟨_, .lst _, by simp, comp_tag room rfl false (fun cenv ρ σ' l1 okc h1 => ?_), fun D hD => ?_⟩
  ·lk
   exact ⟨rfl, rfl⟩
  lk
  refine SX_Assign_Comp (ρl := [none, none, none]) (J := fun zz => True) (fun zz => some (dvec [fr t 10])) room.handled ok ⟨rfl, by decide +kernel, by decide +kernel⟩ l8 ⟨rfl, rfl, rfl, trivial⟩ trivial ?_ rfl rfl
  lk
  refine ⟨_, .lst _, by simp, comp_tag room rfl true (fun cenv ρ σ' l1 okc h1 => ?_), fun D' hD' => ?_⟩
  ·lk
   exact ⟨rfl, rfl⟩
  lk
  have ne : D' ≠ D := fun e => by rw [e, upd_self] at hD'; cases hD'
  have hD'' : σ D' = none := by rwa [upd_ne ne] at hD'
  refine bi_len (l := [dvec [fr t 10]]) (.inr ⟨_, rfl, upd_self ..⟩) (by simp) ?_
  lk
  refine bi_len (l := [dvec [fr t 10]]) (.inr ⟨_, rfl, upd_self ..⟩) (by simp) ?_
  lk
  refine sub_ref (l := [dvec [fr t 10]]) (upd_self ..) rfl (by decide) (by decide) (fun zz zz zz => rfl) ?_
  lk
  refine OPN_at room (fn_trim_part G (Int.ne_of_gt hq) ?_)
  lk
  refine OPN_weak (σ' := σ) (((SLe.refl σ).over hD).over hD'') ?_
  refine OPN_at room (fn_is_set G ?_)
  lk
  refine OPN_at room (fn_without_lacking G rfl (by omega) ?_)
  lk
  refine OPN_at room (fn_number_items G rfl (Nat.le_trans (leftR_len r b) (by omega)) ?_)
  lk
  refine OPN_at room (fn_trimmed G (r := leftR r b) ht (Nat.le_trans (leftR_len r b) hz) (fun o ho => hb o (leftR_mem ho)) rfl rfl ?_)
  lk
  exact mk_vec G room h
end
section
variable {c : Cx} {σ : Sto} {Q : V → Sto → Prop}
theorem fn_law_studs (G : Good c) {ns : List Int} (hz : ns.length ≤ 1000) (h : ∀ D l, σ D = none → GL l → Q (.ref D) (upd σ D (.list (l.map .int)))) : FN c 2 (.ref 873) [.lst (ns.map .int)] σ Q := by
 refine go_fd_132 G fun A env room ok hs => ?_
 refine loc_fd_132 G hs fun l0 l1 l2 l3 l4 g1 => ?_
 refine SS_cons (SX_Assign_Name ok (.inl l1) (EV_List (ES_nil ⟨by decide, fun D hD => ?_⟩)))
 refine SS_cons (SX_For (I := fun ls ρ' σ' => ∃ (m l : List Int), ls = m.map .int ∧ l.length + 12 * m.length ≤ 600 ∧ (∀ e ∈ l, 0 ≤ e ∧ e < 95) ∧ ρ' 1 = some (.ref D) ∧ σ' = upd σ D (.list (l.map .int))) room.handled ?_ ?_ ?_)
 ·intro K₀ kI
  lk
  refine ⟨_, none, some 50, .inl rfl, .none, .int _, by rw [List.length_map]; omega, ?_⟩
  refine ⟨_, .lst _, kI.go _ _ ⟨ns.take 50, [], ?_, ?_, fun e h => by simp at h, rfl, rfl⟩⟩
  ·unfold sliceV
   show ((ns.map V.int).take (clipAt _ 50)).drop 0 = _
   rw [List.drop_zero, List.length_map, List.map_take]
   unfold clipAt
   rw [if_neg (by decide)]
   rcases Nat.le_total ns.length 50 with q | q
   ·rw [List.take_of_length_le (by rw [List.length_map]; omega), List.take_of_length_le (by rw [List.length_map]; omega)]
   ·congr 1; omega
  ·rw [List.length_take, List.length_nil]; omega
 ·intro v ls ρ' σ' hI K₁ K₂ kN kB
  refine exl2 hI fun m l hJ => ?_
  refine andl5 hJ fun e hl hr h1 hq4 => ?_
  clear hI hJ
  obtain rfl := hq4
  match m, e with
  | i :: m, e =>
   simp only [List.map_cons, List.cons.injEq] at e
   obtain ⟨rfl, rfl⟩ := e
   rw [List.length_cons] at hl
   refine AS_Name ok (.inl l2) ?_
   refine SS_mid (fun ρ₂ σ₂ => ρ₂ 1 = some (.ref D) ∧ (∃ b : Int, ρ₂ 3 = some (.int b)) ∧ σ₂ = upd σ D (.list (l.map .int))) ?_ ?_
   ·lk
    refine ite_dec (fun zz => ?_) fun zz => ?_
    ·lk
     exact ⟨h1, ⟨_, rfl⟩, rfl⟩
    ·lk
     exact ⟨h1, ⟨_, rfl⟩, rfl⟩
   rintro ρ₂ σ₂ ⟨h1, ⟨b, h3⟩, rfl⟩
   refine SS_cons (SX_For (I := fun ls ρ' σ' => ∃ (k : Nat) (l : List Int) (b : Int), ls = upFrom k 1 (12 - k) ∧ k ≤ 12 ∧ l.length + 12 * m.length + 12 ≤ 600 + k ∧ (∀ e ∈ l, 0 ≤ e ∧ e < 95) ∧ ρ' 1 = some (.ref D) ∧ ρ' 3 = some (.int b) ∧ σ' = upd σ D (.list (l.map .int))) room.handled ?_ ?_ ?_)
   ·intro K₀ kI
    lk
    refine bi_range ?_
    exact ⟨_, its_range (n := 12) (by decide), kI.go _ _ ⟨0, l, b, rfl, by decide, by omega, hr, h1, h3, rfl⟩⟩
   ·intro v ls ρ₃ σ₃ hI K₁ K₂ kN kB
    refine exl3 hI fun k l b hJ => ?_
    refine andl7 hJ fun e hk hl hr h1 h3 hq6 => ?_
    clear hI hJ
    obtain rfl := hq6
    obtain ⟨hk, rfl, rfl⟩ := upFrom_cons e
    lk
    refine ⟨_, MT_list (.inr ⟨D, rfl, upd_self ..⟩) PySem.F.slot_list_append PySem.F.type_list_append, callee_builtin, ?_⟩
    lk
    refine op_mod (by decide) ?_
    rw [Int.fmod_eq_emod_of_nonneg _ (by decide)]
    lk
    refine m_append (upd_self ..) (by rw [List.length_map]; omega) ⟨rfl, ?_⟩
    rw [upd_upd]
    lk
    refine op_div (by decide) (Sm.div (by unfold Sm; decide)) ?_
    lk
    have hr' : ∀ e ∈ l ++ [b % 95], 0 ≤ e ∧ e < 95 := fun e he => by
     rcases List.mem_append.mp he with q | q
     ·exact hr e q
     ·rw [List.mem_singleton] at q; subst q; omega
    have e' : l.map V.int ++ [V.int (b % 95)] = (l ++ [b % 95]).map V.int := by rw [List.map_append]; rfl
    rw [e']
    refine ite_dec (fun zz => ?_) fun zz => ?_
    ·lk
     exact ⟨m, _, rfl, by rw [List.length_append, List.length_singleton]; omega, hr', h1, rfl⟩
    ·lk
     exact ⟨k + 1, _, _, rfl, by omega, by rw [List.length_append, List.length_singleton]; omega, hr', h1, rfl, rfl⟩
   ·intro ρ₃ σ₃ hI
    refine exl3 hI fun k l b hJ => ?_
    refine andl7 hJ fun e hk hl hr h1 h3 hq6 => ?_
    clear hI hJ
    obtain rfl := hq6
    lk
    exact ⟨m, l, rfl, by omega, hr, h1, rfl⟩
 ·intro ρ' σ' hI
  refine exl2 hI fun m l hJ => ?_
  refine andl5 hJ fun e hl hr h1 hq4 => ?_
  clear hI hJ
  obtain rfl := hq4
  refine SS_cons (SX_Assign_Name ok (.inl l1) (EV_SliceM ?_))
  lk
  refine ⟨_, none, some 70, .inr ⟨D, rfl, upd_self ..⟩, .none, .int _, by rw [List.length_map]; omega, fun D' hD' => ?_⟩
  have ne : D' ≠ D := fun e => by rw [e, upd_self] at hD'; cases hD'
  have hD'' : σ D' = none := by rwa [upd_ne ne] at hD'
  have es : ∃ l' : List Int, sliceV (l.map V.int) none (some 70) = l'.map V.int ∧ l'.length ≤ 700 ∧ ∀ e ∈ l', 0 ≤ e ∧ e < 95 := by
   unfold sliceV
   refine ⟨l.take (clipAt l.length 70), ?_, ?_, fun e h => hr e (List.mem_of_mem_take h)⟩
   ·show ((l.map V.int).take (clipAt _ 70)).drop 0 = _
    rw [List.drop_zero, List.length_map, List.map_take]
   ·rw [List.length_take]; omega
  obtain ⟨l', e1, e2, e3⟩ := es
  rw [e1]
  refine SS_weak (σ' := upd σ D' (.list (l'.map .int))) ?_ ?_
  ·intro b y e
   by_cases q : b = D'
   ·subst q; rw [upd_self] at e ⊢; exact e
   ·rw [upd_ne q] at e
    rw [upd_ne q]
    by_cases q' : b = D
    ·subst q'; rw [hD] at e; cases e
    ·rw [upd_ne q']; exact e
  lk
  refine ⟨_, MT_list (.inr ⟨D', rfl, upd_self ..⟩) PySem.F.slot_list_reverse PySem.F.type_list_reverse, callee_builtin, ?_⟩
  lk
  refine m_reverse (upd_self ..) (by rw [List.length_map]; omega) ⟨rfl, ?_⟩
  rw [upd_upd]
  lk
  rw [← List.map_reverse]
  exact h D' l'.reverse hD'' ⟨by rw [List.length_reverse]; exact e2, fun e he => e3 e (List.mem_reverse.mp he)⟩
end
section
variable {c : Cx} {σ : Sto} {Q : V → Sto → Prop}
theorem fn_law_shared (G : Good c) {r s : Row} {v w : V} (hv : v = .lst (r.map ov)) (hw : w = .lst (s.map ov)) (hz : r.length ≤ 6) (he : s.length = r.length) (hb : ∀ o ∈ r, ∀ i, o = some i → i.natAbs ≤ 20) (hb' : ∀ o ∈ s, ∀ i, o = some i → i.natAbs ≤ 20) (h : Q (covV r s) σ) :
  FN c 3 (.ref 908) [v, w] σ Q := by
 subst hv hw
 refine go_fd_137 G fun A env room ok hs => ?_
 refine loc_fd_137 G hs fun l0 l1 l2 l3 l4 g1 g2 g3 g4 => ?_
 unfold covV at h
 lk
 refine bi_lenN (.inl rfl) (List.length_map _) (by omega) ?_
 lk
 refine ite_dec (fun hl => ?_) fun hl => ?_
 ·rw [if_pos (by omega)] at h
  lk
  exact h
 rw [if_neg (by omega)] at h
 lk
 refine op_noneIn room ?_
 lk
 rcases row_cases r with hn | ⟨xs, rfl⟩
 ·rw [if_pos (.inl hn)] at h
  rw [decide_eq_true hn]
  lk
  exact h
 rw [decide_eq_false (by simp)]
 lk
 refine op_noneIn room ?_
 lk
 rcases row_cases s with hn | ⟨ys, rfl⟩
 ·rw [if_pos (.inr hn)] at h
  rw [decide_eq_true hn]
  lk
  exact h
 rw [decide_eq_false (by simp)]
 rw [if_neg (by simp), fm_some, fm_some] at h
 rw [List.length_map] at hz hl he
 rw [List.length_map] at he
 have tx : tiny xs := fun x hx => hb _ (List.mem_map_of_mem hx) x rfl
 have ty : tiny ys := fun x hx => hb' _ (List.mem_map_of_mem hx) x rfl
 have sx := tiny_sum tx
 have sy := tiny_sum ty
 have hS : xs.sum.natAbs ≤ 120 := by omega
 have hT : ys.sum.natAbs ≤ 120 := by omega
 dsimp only at h
 lk
 refine bi_lenN (.inl rfl) ((List.length_map _).trans (List.length_map _)) (by omega) ?_
 lk
 refine SX_For (I := fun ls ρ' σ' => ∃ (k : Nat) (t : Int), ls = upFrom k 1 (xs.length - k) ∧ ρ' 0 = some (.lst ((xs.map some).map ov)) ∧ ρ' 1 = some (.lst ((ys.map some).map ov)) ∧ ρ' 2 = some (.int xs.length) ∧ ρ' 3 = some (.int t) ∧
   t + devs xs.length xs.sum ys.sum ((xs.zip ys).drop k) = devs xs.length xs.sum ys.sum (xs.zip ys) ∧ σ' = σ) room.handled ?_ ?_ ?_
 ·intro K₀ kI
  lk
  refine bi_range ?_
  exact ⟨_, its_range (by omega), kI.go _ _ ⟨0, 0, rfl, rfl, rfl, rfl, rfl, by rw [List.drop_zero, Int.zero_add], rfl⟩⟩
 ·intro v ls ρ' σ' hI K₁ K₂ kN kB
  refine exl2 hI fun k t hJ => ?_
  refine andl7 hJ fun e h0 h1 h2 h3 h4 hq6 => ?_
  clear hI hJ
  obtain rfl := hq6
  obtain ⟨hk, rfl, rfl⟩ := upFrom_cons e
  have hk' : k < ys.length := by omega
  have a1 : ((xs.map some).map ov)[k]? = some (.int xs[k]) := by simp [hk]; rfl
  have a2 : ((ys.map some).map ov)[k]? = some (.int ys[k]) := by simp [hk']; rfl
  have x1 := tx _ (List.getElem_mem hk)
  have y1 := ty _ (List.getElem_mem hk')
  have b1 := gap_bound (n := xs.length) (x := xs[k]) (S := xs.sum) (by omega) (by omega) x1 hS
  have b2 := gap_bound (n := xs.length) (x := ys[k]) (S := ys.sum) (by omega) (by omega) y1 hT
  lk
  refine sub_lstN a1 (by omega) (fun zz zz zz => rfl) ?_
  refine op_mul (Sm.mul (by unfold Sm; omega)) ?_
  lk
  refine bi_sum room.handled (ns := xs) (.inl (by rw [← ov_some])) ?_
  lk
  refine sub_lstN a2 (by omega) (fun zz zz zz => rfl) ?_
  refine op_mul (Sm.mul (by unfold Sm; omega)) ?_
  lk
  refine bi_sum room.handled (ns := ys) (.inl (by rw [← ov_some])) ?_
  lk
  refine op_mul (Sm.mul (by unfold Sm; omega)) ?_
  lk
  have hz : (xs.zip ys)[k]? = some (xs[k], ys[k]) := by rw [List.getElem?_zip_eq_some]; exact ⟨List.getElem?_eq_getElem hk, List.getElem?_eq_getElem hk'⟩
  exact ⟨k + 1, _, rfl, h0, h1, h2, rfl, by rw [← h4, devs_drop hz, ← Int.add_assoc], rfl⟩
 ·intro ρ' σ' hI
  refine exl2 hI fun k t hJ => ?_
  refine andl7 hJ fun e h0 h1 h2 h3 h4 hq6 => ?_
  clear hI hJ
  obtain rfl := hq6
  have := upFrom_nil e
  rw [List.drop_of_length_le (by rw [List.length_zip]; omega)] at h4
  have h4 : t = devs xs.length xs.sum ys.sum (xs.zip ys) := by rw [← h4]; exact (Int.add_zero t).symm
  subst h4
  lk
  refine op_mul (Sm.mul (by unfold Sm; omega)) ?_
  lk
  have nn := nat_mul_le (x := (xs.length : Int)) (y := (xs.length : Int)) (m := 6) (n := 6) (by omega) (by omega)
  have np : 0 < (xs.length : Int) * xs.length := mul_pos' (by omega) (by omega)
  have nm := nat_mul_le (x := (xs.length : Int) * xs.length) (y := (xs.length : Int) - 1) (m := 36) (n := 5) (by omega) (by omega)
  have np' : 0 < (xs.length : Int) * xs.length * (xs.length - 1) := mul_pos' np (by omega)
  refine op_mul (Sm.mul (by unfold Sm; omega)) ?_
  lk
  exact OPN_at room (fn_law_least G np' (by unfold Sm; omega) h)
end
section
variable {c : Cx} {σ : Sto} {Q : V → Sto → Prop}
noncomputable def q72 : V := .tup [.int 7, .int 2]
theorem fn_is_lacking_d (G : Good c) {x : V} {b : Bool} (hx : (b = true ∧ x = .none) ∨ (b = false ∧ ∃ p q, q ≠ 0 ∧ x = .tup [.int p, .int q])) (h : Q (.bool b) σ) : FN c 2 (.ref 651) [.str (S "double"), x] σ Q := by
 refine go_fd_96 G fun A env room ok hs => ?_
 refine loc_fd_96 G hs fun l0 l1 g1 => ?_
 lk
 rcases hx with ⟨rfl, rfl⟩ | ⟨rfl, p, q, hq, rfl⟩
 ·exact OPN_at room (fn_is_na_none G h)
 ·exact OPN_at room (fn_is_na G hq h)
theorem fn_kept_i (G : Good c) {r : Row} (hz : r.length ≤ 1000) (h : Q (.lst ((r.filter (·.isSome)).map ov)) σ) : FN c 3 (.ref 663) [ivec r, .bool true] σ Q := by
 refine go_fd_98 G fun A env room ok hs => ?_
 refine loc_fd_98 G hs fun l0 l1 => ?_
 unfold ivec
 lk
 refine EV_ListCompF (J := fun ρ' => ρ' 3 = some (ivec r)) (ρl := [none, none, none, some (ivec r)]) (fun v => if (match v with | .none => true | _ => false) = true then none else some v) room.handled ok ⟨rfl, by decide +kernel, by decide +kernel⟩ ?_ rfl ?_
 ·exact ⟨rfl, rfl, rfl, ⟨0, .inl l0, rfl⟩, trivial⟩
 lk
 refine ⟨_, .lst _, by rw [List.length_map]; omega, ⟨?_⟩, ?_⟩
 ·intro cenv hcs okc σ' ρ' v hv hJ _
  have e : cenv.scope.names = [(S ".0", .local), (S "item", .local), (S "is_lacking", .globalImplicit), (S "v", .cell)] := by rw [hcs]; simp [relabel, ok.kind, l0.1.1]
  have l1 : LocAt cenv 1 (S "item") .local := LocAt_of e (by decide +kernel) rfl (by decide +kernel)
  have l3 : LocAt cenv 3 (S "v") .cell := LocAt_of e (by decide +kernel) rfl (by decide +kernel)
  have g2 : GlobAt c cenv (S "is_lacking") (.val (.ref 651)) := Glob_of e (by decide +kernel) (gv_is_lacking G) (by decide +kernel)
  obtain ⟨o, ho, rfl⟩ := List.mem_map.mp hv
  unfold ivec at hJ
  lk
  refine ⟨hJ, rfl, TS_one ?_⟩
  lk
  refine OPN_at room (fn_is_lacking_int G ?_)
  lk
  refine ⟨rfl, ?_⟩
  cases o with
  | none => rfl
  | some i =>
   lk
   exact ⟨rfl, rfl⟩
 ·rw [← fm_filter] at h
  exact h
theorem fn_kept_d (G : Good c) (h : Q (.lst [q72]) σ) : FN c 3 (.ref 663) [dvec [q72, .none], .bool true] σ Q := by
 refine go_fd_98 G fun A env room ok hs => ?_
 refine loc_fd_98 G hs fun l0 l1 => ?_
 unfold dvec
 lk
 refine EV_ListCompF (J := fun ρ' => ρ' 3 = some (dvec [q72, .none])) (ρl := [none, none, none, some (dvec [q72, .none])]) (fun v => if (match v with | .none => true | _ => false) = true then none else some v) room.handled ok ⟨rfl, by decide +kernel, by decide +kernel⟩ ?_ rfl ?_
 ·exact ⟨rfl, rfl, rfl, ⟨0, .inl l0, rfl⟩, trivial⟩
 lk
 refine ⟨_, .lst _, by decide, ⟨?_⟩, ?_⟩
 ·intro cenv hcs okc σ' ρ' v hv hJ _
  have e : cenv.scope.names = [(S ".0", .local), (S "item", .local), (S "is_lacking", .globalImplicit), (S "v", .cell)] := by rw [hcs]; simp [relabel, ok.kind, l0.1.1]
  have l1 : LocAt cenv 1 (S "item") .local := LocAt_of e (by decide +kernel) rfl (by decide +kernel)
  have l3 : LocAt cenv 3 (S "v") .cell := LocAt_of e (by decide +kernel) rfl (by decide +kernel)
  have g2 : GlobAt c cenv (S "is_lacking") (.val (.ref 651)) := Glob_of e (by decide +kernel) (gv_is_lacking G) (by decide +kernel)
  have hv : v = q72 ∨ v = .none := by simpa using hv
  unfold dvec at hJ
  lk
  refine ⟨hJ, rfl, TS_one ?_⟩
  lk
  rcases hv with rfl | rfl
  ·refine OPN_at room (fn_is_lacking_d G (.inr ⟨rfl, 7, 2, by decide, rfl⟩) ?_)
   lk
   refine ⟨rfl, ?_⟩
   lk
   exact ⟨rfl, rfl⟩
  ·refine OPN_at room (fn_is_lacking_d G (.inl ⟨rfl, rfl⟩) ?_)
   lk
   exact ⟨rfl, rfl⟩
 ·exact h
theorem fn_summed_kind (G : Good c) {r : Row} {l : List V} {b : V} (hb : b = .bool true) (h : Q (.str (S "double")) σ) : FN c 1 (.ref 658) [.lst [ivec r, dvec l], b] σ Q := by
 subst hb
 refine go_fd_97 G fun A env room ok hs => ?_
 refine loc_fd_97 G hs fun l0 l1 l2 l3 g1 => ?_
 lk
 refine SX_For (I := fun ls ρ' σ' => ρ' 1 = some (.bool true) ∧ σ' = σ ∧ ((ls = [ivec r, dvec l] ∧ ρ' 2 = some (.str (S "integer"))) ∨ (ls = [dvec l] ∧ ρ' 2 = some (.str (S "integer"))) ∨ (ls = [] ∧ ρ' 2 = some (.str (S "double"))))) room.handled ?_ ?_ ?_
 ·intro K₀ kI
  lk
  exact ⟨_, .lst _, kI.go _ _ ⟨rfl, rfl, .inl ⟨rfl, rfl⟩⟩⟩
 ·rintro v ls ρ' σ' ⟨h1, rfl, hls⟩ K₁ K₂ kN kB
  rcases hls with ⟨e, h2⟩ | ⟨e, h2⟩ | ⟨e, h2⟩
  ·cases e
   unfold ivec
   lk
   exact ⟨h1, rfl, .inr (.inl ⟨rfl, h2⟩)⟩
  ·cases e
   unfold dvec
   lk
   exact ⟨h1, rfl, .inr (.inr ⟨rfl, rfl⟩)⟩
  ·cases e
 ·rintro ρ' σ' ⟨h1, rfl, h'⟩
  rcases h' with ⟨e, h2⟩ | ⟨e, h2⟩ | ⟨e, h2⟩
  ·cases e
  ·cases e
  lk
  exact h
noncomputable def hv (d : Int) : V := fr d 2
theorem cmp_scale {k a b : Int} (hk : 0 < k) : cmp (k * a) (k * b) = cmp a b := by
 unfold cmp
 have h1 : k * a = k * b ↔ a = b := ⟨fun e => Int.eq_of_mul_eq_mul_left (Int.ne_of_gt hk) e, fun e => by rw [e]⟩
 have h2 : k * a < k * b ↔ a < b := ⟨fun e => Int.lt_of_mul_lt_mul_left e (Int.le_of_lt hk), fun e => Int.mul_lt_mul_of_pos_left e hk⟩
 by_cases q : a = b
 ·rw [if_pos q, if_pos (h1.mpr q)]
 ·rw [if_neg q, if_neg (fun e => q (h1.mp e))]
  by_cases q' : a < b
  ·rw [if_pos q', if_pos (h2.mpr q')]
  ·rw [if_neg q', if_neg (fun e => q' (h2.mp e))]
theorem cmp_halves (a b : Int) : cmp ((red a 2).1 * (red b 2).2) ((red b 2).1 * (red a 2).2) = cmp a b := by
 obtain ⟨g, hg, h1, h2⟩ := red_spec (n := a) (d := 2) (by decide)
 obtain ⟨g', hg', h3, h4⟩ := red_spec (n := b) (d := 2) (by decide)
 have e1 : (g * g') * ((red a 2).1 * (red b 2).2) = 2 * a := by
  calc (g * g') * ((red a 2).1 * (red b 2).2) = (g * (red a 2).1) * (g' * (red b 2).2) := by simp only [Int.mul_assoc, Int.mul_left_comm]
   _ = a * 2 := by rw [← h1, ← h4]
   _ = 2 * a := Int.mul_comm ..
 have e2 : (g * g') * ((red b 2).1 * (red a 2).2) = 2 * b := by
  calc (g * g') * ((red b 2).1 * (red a 2).2) = (g' * (red b 2).1) * (g * (red a 2).2) := by simp only [Int.mul_assoc, Int.mul_left_comm, Int.mul_comm g' g]
   _ = b * 2 := by rw [← h3, ← h2]
   _ = 2 * b := Int.mul_comm ..
 rw [← cmp_scale (k := g * g') (mul_pos' hg hg'), e1, e2, cmp_scale (by decide)]
theorem half_facts (a : Int) (h : a.natAbs ≤ 1000) : 0 < (red a 2).2 ∧ Sm (red a 2).1 := by
 have := red_le (n := a) (d := 2) (by decide)
 exact ⟨red_pos (by decide), by unfold Sm; omega⟩
theorem fn_item_order (G : Good c) {a b : Int} {v w : V} (hv' : v = hv a) (hw : w = hv b) (ha : a.natAbs ≤ 1000) (hb : b.natAbs ≤ 1000) (h : Q (.int (cmp a b)) σ) : FN c 3 (.ref 684) [.str (S "double"), v, w] σ Q := by
 subst hv' hw
 refine go_fd_101 G fun A env room ok hs => ?_
 refine loc_fd_101 G hs fun l0 l1 l2 g1 => ?_
 lk
 have fa := half_facts a ha
 have fb := half_facts b hb
 refine OPN_at room (fn_compare G fa.2 fb.2 fa.1 fb.1 ?_)
 rw [cmp_halves]
 exact h
theorem fn_extreme_item (G : Good c) {d : Int} {ds : List Int} {o : Int} (ho : o = 1 ∨ o = -1) (hb : ∀ x ∈ d :: ds, x.natAbs ≤ 1000) (h : ∀ m, m ∈ d :: ds → (∀ x ∈ d :: ds, cmp x m ≠ o) → Q (hv m) σ) :
  FN c 4 (.ref 691) [.str (S "double"), .lst ((d :: ds).map hv), .int o] σ Q := by
 refine go_fd_102 G fun A env room ok hs => ?_
 refine loc_fd_102 G hs fun l0 l1 l2 l3 l4 g1 g2 g3 => ?_
 lk
 refine SX_For (I := fun ls ρ' σ' => ∃ (m : Int) (xs ys : List Int), d :: ds = xs ++ ys ∧ ls = ys.map hv ∧ m ∈ d :: ds ∧ (∀ x ∈ xs, cmp x m ≠ o) ∧ ρ' 0 = some (.str (S "double")) ∧ ρ' 2 = some (.int o) ∧ ρ' 3 = some (hv m) ∧ σ' = σ) room.handled ?_ ?_ ?_
 ·intro K₀ kI
  lk
  exact ⟨_, .lst _, kI.go _ _ ⟨d, [], d :: ds, rfl, rfl, List.mem_cons_self, fun x h => by simp at h, rfl, rfl, rfl, rfl⟩⟩
 ·intro v ls ρ' σ' hI K₁ K₂ kN kB
  refine exl3 hI fun m xs ys hJ => ?_
  refine andl8 hJ fun e el hm hx h0 h2 h3 hq7 => ?_
  clear hI hJ
  obtain rfl := hq7
  match ys, el with
  | y :: ys, el =>
   simp only [List.map_cons, List.cons.injEq] at el
   obtain ⟨rfl, rfl⟩ := el
   have hy : y ∈ d :: ds := by rw [e]; exact List.mem_append_right _ List.mem_cons_self
   have e' : d :: ds = (xs ++ [y]) ++ ys := by rw [e, List.append_assoc]; rfl
   lk
   refine OPN_at room (fn_is_lacking_d G (.inr ⟨rfl, _, _, Int.ne_of_gt (half_facts m (hb m hm)).1, rfl⟩) ?_)
   lk
   refine OPN_at room (fn_is_lacking_d G (.inr ⟨rfl, _, _, Int.ne_of_gt (half_facts y (hb y hy)).1, rfl⟩) ?_)
   lk
   refine OPN_at room (fn_item_order G rfl rfl (hb y hy) (hb m hm) ?_)
   lk
   have step : ∀ m', m' ∈ d :: ds → (∀ x ∈ xs ++ [y], cmp x m' ≠ o) → ∀ ρ₂ : Loc, ρ₂ 0 = some (.str (S "double")) → ρ₂ 2 = some (.int o) → ρ₂ 3 = some (hv m') →
     ∃ (m : Int) (xs' ys' : List Int), d :: ds = xs' ++ ys' ∧ ys.map hv = ys'.map hv ∧ m ∈ d :: ds ∧ (∀ x ∈ xs', cmp x m ≠ o) ∧ ρ₂ 0 = some (.str (S "double")) ∧ ρ₂ 2 = some (.int o) ∧ ρ₂ 3 = some (hv m) ∧ σ' = σ' :=
    fun m' hm' hx' ρ₂ a b c => ⟨m', _, ys, e', rfl, hm', hx', a, b, c, rfl⟩
   refine ite_dec (fun hc => ?_) fun hc => ?_
   ·lk
    refine step y hy (fun x hx' => ?_) _ h0 h2 rfl
    rcases List.mem_append.mp hx' with q | q
    ·have := hx x q
     unfold cmp at this hc ⊢
     rcases ho with rfl | rfl
     ·split at hc <;> split at this <;> (try split at hc) <;> (try split at this) <;> split <;> (try split) <;> omega
     ·split at hc <;> split at this <;> (try split at hc) <;> (try split at this) <;> split <;> (try split) <;> omega
    ·rw [List.mem_singleton] at q
     subst q
     unfold cmp
     rw [if_pos rfl]
     rcases ho with rfl | rfl <;> decide
   ·lk
    refine step m hm (fun x hx' => ?_) _ h0 h2 h3
    rcases List.mem_append.mp hx' with q | q
    ·exact hx x q
    ·rw [List.mem_singleton] at q
     subst q
     exact hc
 ·intro ρ' σ' hI
  refine exl3 hI fun m xs ys hJ => ?_
  refine andl8 hJ fun e el hm hx h0 h2 h3 hq7 => ?_
  clear hI hJ
  obtain rfl := hq7
  lk
  have : ys = [] := List.map_eq_nil_iff.mp el.symm
  subst this
  rw [List.append_nil] at e
  exact h m hm (by rw [e]; exact hx)
end
section
variable {c : Cx} {σ : Sto} {Q : V → Sto → Prop}
noncomputable def tw (r : Row) : List Int := (r.filterMap id).map (2 * ·) ++ [7]
theorem kept_ints (r : Row) : (r.filter (·.isSome)).map ov = (r.filterMap id).map .int := by
 induction r with
 | nil => rfl
 | cons o r ih => cases o <;> simp_all [ov]
theorem hv_two (x : Int) : hv (2 * x) = .tup [.int x, .int 1] := by
 have := red_scale (k := 2) (n := x) (d := 1) (by decide) (by decide)
 rw [Int.mul_one] at this
 unfold hv fr
 rw [this, red_one]
theorem hv_seven : hv 7 = q72 := by
 have : red 7 2 = (7, 2) := by decide +kernel
 unfold hv fr
 rw [this]; rfl
noncomputable def fin2 : V := dvec [q72, .none]
theorem fn_gathered (G : Good c) {r : Row} (hz : r.length ≤ 100) (h : Q (.lst ((tw r).map hv)) σ) : FN c 4 (.ref 670) [.lst [ivec r, fin2], .str (S "double"), .bool true] σ Q := by
 refine go_fd_99 G fun A env room ok hs => ?_
 refine loc_fd_99 G hs fun l0 l1 l2 l3 l4 l5 g1 g2 g3 => ?_
 have hzf : (r.filterMap id).length ≤ 100 := Nat.le_trans (List.length_filterMap_le _ _) hz
 refine SS_cons (SX_Assign_Name ok (.inl l3) (EV_List (ES_nil ⟨by decide, fun D hD => ?_⟩)))
 refine SS_cons (SX_For (I := fun ls ρ' σ' => ρ' 1 = some (.str (S "double")) ∧ ρ' 2 = some (.bool true) ∧ ρ' 3 = some (.ref D) ∧
  ((ls = [ivec r, fin2] ∧ σ' = upd σ D (.list [])) ∨ (ls = [fin2] ∧ σ' = upd σ D (.list ((r.filterMap id).map fun x => hv (2 * x)))) ∨ (ls = [] ∧ σ' = upd σ D (.list ((tw r).map hv))))) room.handled ?_ ?_ ?_)
 ·intro K₀ kI
  lk
  exact ⟨_, .lst _, kI.go _ _ ⟨rfl, rfl, rfl, .inl ⟨rfl, rfl⟩⟩⟩
 ·intro v ls ρ' σ' hI K₁ K₂ kN kB
  refine andl4 hI fun h1 h2 h3 hls => ?_
  clear hI
  rcases hls with ⟨e, rfl⟩ | ⟨e, rfl⟩ | ⟨e, rfl⟩
  ·cases e
   refine AS_Name ok (.inl l4) ?_
   refine SS_cons (SX_For (I := fun ls ρ₂ σ₂ => ∃ xs ys : List Int, r.filterMap id = xs ++ ys ∧ ls = ys.map .int ∧ ρ₂ 1 = some (.str (S "double")) ∧ ρ₂ 2 = some (.bool true) ∧ ρ₂ 3 = some (.ref D) ∧ ρ₂ 4 = some (ivec r) ∧
    σ₂ = upd σ D (.list (xs.map fun x => hv (2 * x)))) room.handled ?_ ?_ ?_)
   ·intro K₀ kI
    lk
    refine OPN_at room (fn_kept_i G (by omega) ?_)
    rw [kept_ints]
    exact ⟨_, .lst _, kI.go _ _ ⟨[], r.filterMap id, rfl, rfl, h1, h2, h3, rfl, rfl⟩⟩
   ·intro v ls ρ₂ σ₂ hI K₁ K₂ kN kB
    refine exl2 hI fun xs ys hJ => ?_
    refine andl7 hJ fun e el h1 h2 h3 h4 hq6 => ?_
    clear hI hJ
    obtain rfl := hq6
    match ys, el with
    | y :: ys, el =>
     simp only [List.map_cons, List.cons.injEq] at el
     obtain ⟨rfl, rfl⟩ := el
     have hxl : xs.length ≤ 100 := by have := congrArg List.length e; rw [List.length_append] at this; omega
     unfold ivec at h4
     lk
     refine OPN_at room (fn_from_int G ?_)
     lk
     refine ⟨_, MT_list (.inr ⟨D, rfl, upd_self ..⟩) PySem.F.slot_list_append PySem.F.type_list_append, callee_builtin, ?_⟩
     lk
     refine m_append (upd_self ..) (by rw [List.length_map]; omega) ⟨rfl, ?_⟩
     rw [upd_upd]
     lk
     refine ⟨xs ++ [y], ys, by rw [e, List.append_assoc]; rfl, rfl, h1, h2, h3, h4, ?_⟩
     rw [List.map_append]
     show _ = upd σ D (.list (_ ++ [hv (2 * y)]))
     rw [hv_two]
   ·intro ρ₂ σ₂ hI
    refine exl2 hI fun xs ys hJ => ?_
    refine andl7 hJ fun e el h1 h2 h3 h4 hq6 => ?_
    clear hI hJ
    obtain rfl := hq6
    have : ys = [] := List.map_eq_nil_iff.mp el.symm
    subst this
    rw [List.append_nil] at e
    lk
    exact ⟨h1, h2, h3, .inr (.inl ⟨rfl, by rw [e]⟩)⟩
  ·cases e
   refine AS_Name ok (.inl l4) ?_
   refine SS_cons (SX_For (I := fun ls ρ₂ σ₂ => ρ₂ 1 = some (.str (S "double")) ∧ ρ₂ 2 = some (.bool true) ∧ ρ₂ 3 = some (.ref D) ∧ ρ₂ 4 = some fin2 ∧
    ((ls = [q72] ∧ σ₂ = upd σ D (.list ((r.filterMap id).map fun x => hv (2 * x)))) ∨ (ls = [] ∧ σ₂ = upd σ D (.list ((tw r).map hv))))) room.handled ?_ ?_ ?_)
   ·intro K₀ kI
    lk
    refine OPN_at room (fn_kept_d G ?_)
    exact ⟨_, .lst _, kI.go _ _ ⟨h1, h2, h3, rfl, .inl ⟨rfl, rfl⟩⟩⟩
   ·intro v ls ρ₂ σ₂ hI K₁ K₂ kN kB
    refine andl5 hI fun h1 h2 h3 h4 hls => ?_
    clear hI
    rcases hls with ⟨e, rfl⟩ | ⟨e, rfl⟩
    ·cases e
     unfold fin2 dvec at h4
     lk
     refine ⟨_, MT_list (.inr ⟨D, rfl, upd_self ..⟩) PySem.F.slot_list_append PySem.F.type_list_append, callee_builtin, ?_⟩
     lk
     refine m_append (upd_self ..) (by rw [List.length_map]; omega) ⟨rfl, ?_⟩
     rw [upd_upd]
     lk
     refine ⟨h1, h2, h3, h4, .inr ⟨rfl, ?_⟩⟩
     unfold tw
     rw [List.map_append, List.map_map]
     show _ = upd σ D (.list (_ ++ [hv 7]))
     rw [hv_seven]; rfl
    ·cases e
   ·intro ρ₂ σ₂ hI
    refine andl5 hI fun h1 h2 h3 h4 hls => ?_
    clear hI
    rcases hls with ⟨e, rfl⟩ | ⟨e, rfl⟩
    ·cases e
    lk
    exact ⟨h1, h2, h3, .inr (.inr ⟨rfl, rfl⟩)⟩
  ·cases e
 ·intro ρ' σ' hI
  refine andl4 hI fun h1 h2 h3 hls => ?_
  clear hI
  rcases hls with ⟨e, rfl⟩ | ⟨e, rfl⟩ | ⟨e, rfl⟩
  ·cases e
  ·cases e
  refine SS_freezeL h3 (upd_self ..) (.upd hD) hD ?_
  lk
  exact h
theorem fn_extreme_of (G : Good c) {r : Row} {n : V} {o : Int} (ho : o = 1 ∨ o = -1) (hz : r.length ≤ 100) (hb : ∀ x ∈ tw r, x.natAbs ≤ 1000) (h : ∀ m, m ∈ tw r → (∀ x ∈ tw r, cmp x m ≠ o) → Q (dvec [hv m]) σ) :
  FN c 5 (.ref 698) [.lst [ivec r, fin2], .bool true, n, .int o] σ Q := by
 refine go_fd_103 G fun A env room ok hs => ?_
 refine loc_fd_103 G hs fun l0 l1 l2 l3 l4 l5 g1 g2 g3 g4 g5 g6 => ?_
 lk
 refine OPN_at room (fn_summed_kind G rfl ?_)
 lk
 refine OPN_at room (fn_gathered G hz ?_)
 lk
 have hne : tw r ≠ [] := by unfold tw; simp
 have hl : (tw r).length ≤ 1000 := by
  unfold tw
  have := List.length_filterMap_le id r
  rw [List.length_append, List.length_map, List.length_singleton]; omega
 refine tru_L (.inl rfl) (by rw [List.length_map]; omega) ?_
 cases ht : tw r with
 | nil => exact absurd ht hne
 | cons d ds =>
  rw [ht] at h hb
  lk
  refine OPN_at room (fn_extreme_item G ho hb fun m hm hx => ?_)
  lk
  exact mk_vec G room (h m hm hx)
theorem fn_max_of (G : Good c) {r : Row} {n : V} (hz : r.length ≤ 100) (hb : ∀ x ∈ tw r, x.natAbs ≤ 1000) (h : ∀ m, m ∈ tw r → (∀ x ∈ tw r, cmp x m ≠ 1) → Q (dvec [hv m]) σ) : FN c 6 (.ref 705) [.lst [ivec r, fin2], .bool true, n] σ Q := by
 refine go_fd_104 G fun A env room ok hs => ?_
 refine loc_fd_104 G hs fun l0 l1 l2 g1 => ?_
 lk
 exact OPN_at room (fn_extreme_of G (.inl rfl) hz hb h)
theorem fn_min_of (G : Good c) {r : Row} {n : V} (hz : r.length ≤ 100) (hb : ∀ x ∈ tw r, x.natAbs ≤ 1000) (h : ∀ m, m ∈ tw r → (∀ x ∈ tw r, cmp x m ≠ -1) → Q (dvec [hv m]) σ) : FN c 6 (.ref 712) [.lst [ivec r, fin2], .bool true, n] σ Q := by
 refine go_fd_105 G fun A env room ok hs => ?_
 refine loc_fd_105 G hs fun l0 l1 l2 g1 => ?_
 lk
 exact OPN_at room (fn_extreme_of G (.inr rfl) hz hb h)
theorem fn_range_of (G : Good c) {r : Row} {n : V} (hz : r.length ≤ 100) (hb : ∀ x ∈ tw r, x.natAbs ≤ 1000)
  (h : ∀ m m', m ∈ tw r → (∀ x ∈ tw r, cmp x m ≠ -1) → m' ∈ tw r → (∀ x ∈ tw r, cmp x m' ≠ 1) → Q (dvec [hv m, hv m']) σ) : FN c 7 (.ref 719) [.lst [ivec r, fin2], .bool true, n] σ Q := by
 refine go_fd_106 G fun A env room ok hs => ?_
 refine loc_fd_106 G hs fun l0 l1 l2 l3 l4 g1 g2 g3 => ?_
 lk
 refine OPN_at room (fn_min_of G hz hb fun m h1 h2 => ?_)
 lk
 refine OPN_at room (fn_max_of G hz hb fun m' h3 h4 => ?_)
 unfold dvec at h ⊢
 lk
 refine op_addL (.inl rfl) (.inl rfl) (by simp) ?_
 lk
 exact mk_vec G room (h m m' h1 h2 h3 h4)
end
section
variable {c : Cx} {σ : Sto} {Q : V → Sto → Prop}
noncomputable def wideL : List V := [.tup [.int 1, .int 0], q72, .none, .tup [.int 0, .int 0], .tup [.int (-1), .int 0]]
theorem fn_finish (G : Good c) {i v : V} (h : Q v σ) : FN c 1 (.ref 792) [i, .lst [], v] σ Q := by
 refine go_fd_118 G fun A env room ok hs => ?_
 refine loc_fd_118 G hs fun l0 l1 l2 => ?_
 lk
 refine tru_L (.inl rfl) (by decide) ?_
 lk
 exact h
theorem fn_summary_parts (G : Good c) {a b : V} (h : Q (.tup [.lst [a, b], .bool false]) σ) : FN c 3 (.ref 799) [.lst [argV (none, a), argV (none, b)]] σ Q := by
 refine go_fd_119 G fun A env room ok hs => ?_
 refine loc_fd_119 G hs fun l0 l1 l2 l3 l4 g1 => ?_
 refine SS_cons (SX_Assign_Name ok (.inl l1) (EV_List (ES_nil ⟨by decide, fun D hD => ?_⟩)))
 refine SS_cons ?_
 k_upd
 k_upd
 refine SS_cons (SX_For (I := fun ls ρ' σ' => ρ' 1 = some (.ref D) ∧ ρ' 2 = some (.bool false) ∧ ((ls = [argV (none, a), argV (none, b)] ∧ σ' = upd σ D (.list [])) ∨ (ls = [argV (none, b)] ∧ σ' = upd σ D (.list [a])) ∨ (ls = [] ∧ σ' = upd σ D (.list [a, b])))) room.handled ?_ ?_ ?_)
 ·intro K₀ kI
  lk
  exact ⟨_, .lst _, kI.go _ _ ⟨rfl, rfl, .inl ⟨rfl, rfl⟩⟩⟩
 ·rintro v ls ρ' σ' ⟨h1, h2, hls⟩ K₁ K₂ kN kB
  rcases hls with ⟨e, rfl⟩ | ⟨e, rfl⟩ | ⟨e, rfl⟩
  ·cases e
   unfold argV
   lk
   refine ⟨_, MT_list (.inr ⟨D, rfl, upd_self ..⟩) PySem.F.slot_list_append PySem.F.type_list_append, callee_builtin, ?_⟩
   lk
   refine m_append (upd_self ..) (by decide) ⟨rfl, ?_⟩
   rw [upd_upd]
   lk
   exact ⟨h1, h2, .inr (.inl ⟨rfl, rfl⟩)⟩
  ·cases e
   unfold argV
   lk
   refine ⟨_, MT_list (.inr ⟨D, rfl, upd_self ..⟩) PySem.F.slot_list_append PySem.F.type_list_append, callee_builtin, ?_⟩
   lk
   refine m_append (upd_self ..) (by simp) ⟨rfl, ?_⟩
   rw [upd_upd]
   lk
   exact ⟨h1, h2, .inr (.inr ⟨rfl, rfl⟩)⟩
  ·cases e
 ·rintro ρ' σ' ⟨h1, h2, hls⟩
  rcases hls with ⟨e, rfl⟩ | ⟨e, rfl⟩ | ⟨e, rfl⟩
  ·cases e
  ·cases e
  refine SS_freezeL h1 (upd_self ..) (.upd hD) hD ?_
  have h2' : upl ρ' 1 (.lst [a, b]) 2 = some (.bool false) := h2
  lk
  exact h
theorem fn_finite_i (G : Good c) {r : Row} (h : Q (ivec r) σ) : FN c 3 (.ref 816) [ivec r] σ Q := by
 refine go_fd_122 G fun A env room ok hs => ?_
 refine loc_fd_122 G hs fun l0 g1 => ?_
 unfold ivec at h ⊢
 lk
 exact h
theorem fn_finite_d (G : Good c) (h : Q fin2 σ) : FN c 3 (.ref 816) [dvec wideL] σ Q := by
 refine go_fd_122 G fun A env room ok hs => ?_
 refine loc_fd_122 G hs fun l0 g1 => ?_
 unfold dvec
 lk
 refine EV_ListCompF (J := fun zz => True) (ρl := [none, none]) (fun v => match v with | .none => some .none | .tup [.int 7, .int d] => some (.tup [.int 7, .int d]) | _ => none) room.handled ok ⟨rfl, by decide +kernel, by decide +kernel⟩ ⟨rfl, rfl, trivial⟩ trivial ?_
 lk
 refine ⟨_, .lst _, by decide, ⟨?_⟩, ?_⟩
 ·intro cenv hcs okc σ' ρ' v hv hJ _
  have e : cenv.scope.names = [(S ".0", .local), (S "item", .local)] := by rw [hcs]; simp [relabel]
  have l1 : LocAt cenv 1 (S "item") .local := LocAt_of e (by decide +kernel) rfl (by decide +kernel)
  have hv : v = .tup [.int 1, .int 0] ∨ v = q72 ∨ v = .none ∨ v = .tup [.int 0, .int 0] ∨ v = .tup [.int (-1), .int 0] := by simpa [wideL] using hv
  lk
  refine ⟨trivial, rfl, TS_one ?_⟩
  rcases hv with rfl | rfl | rfl | rfl | rfl
  ·lk
   exact ⟨rfl, rfl⟩
  ·unfold q72
   lk
   refine ⟨rfl, ?_⟩
   lk
   exact ⟨rfl, rfl⟩
  ·lk
   refine ⟨rfl, ?_⟩
   lk
   exact ⟨rfl, rfl⟩
  ·lk
   exact ⟨rfl, rfl⟩
  ·lk
   exact ⟨rfl, rfl⟩
 ·lk
  exact mk_vec G room h
end
section
variable {c : Cx} {σ : Sto} {Q : V → Sto → Prop}
noncomputable def isNo : V → Bool
 | .tup [.none, _] => true
 | _ => false
noncomputable def isFin : V → Option V
 | .tup [.str _, v] => some v
 | _ => none
noncomputable def finOf (v : V) : V := match v with
 | .ins _ _ (.str k :: _) => if k = S "integer" then v else fin2
 | _ => fin2
theorem finOf_i (r : Row) : finOf (ivec r) = ivec r := by
 show (if S "integer" = S "integer" then ivec r else fin2) = _
 rw [if_pos rfl]
theorem finOf_d (l : List V) : finOf (dvec l) = fin2 := by
 show (if S "double" = S "integer" then dvec l else fin2) = _
 rw [if_neg (by decide +kernel)]
theorem fn_b_range (G : Good c) {r : Row} {i e : V} (hz : r.length ≤ 100) (hb : ∀ x ∈ tw r, x.natAbs ≤ 1000)
  (h : ∀ m m', m ∈ tw r → (∀ x ∈ tw r, cmp x m ≠ -1) → m' ∈ tw r → (∀ x ∈ tw r, cmp x m' ≠ 1) → Q (dvec [hv m, hv m']) σ) :
  FN c 8 (.ref 811) [i, .lst [argV (none, ivec r), argV (some (S "finite"), lvec true), argV (none, dvec wideL)], e] σ Q := by
 refine go_fd_121 G fun A env room ok hs => ?_
 refine loc_fd_121 G hs fun l0 l1 l2 l3 l4 l5 g1 g2 g3 g4 => ?_
 lk
 refine EV_ListCompF (J := fun zz => True) (ρl := [none, none, none]) (fun v => if isNo v = true then some v else none) room.handled ok ⟨rfl, by decide +kernel, by decide +kernel⟩ ⟨rfl, rfl, rfl, trivial⟩ trivial ?_
 lk
 refine ⟨_, .lst _, by simp, ⟨?_⟩, ?_⟩
 ·intro cenv hcs okc σ' ρ' v hv hJ _
  have e : cenv.scope.names = [(S ".0", .local), (S "tag", .local), (S "value", .local)] := by rw [hcs]; simp [relabel]
  have l1 : LocAt cenv 1 (S "tag") .local := LocAt_of e (by decide +kernel) rfl (by decide +kernel)
  have l2 : LocAt cenv 2 (S "value") .local := LocAt_of e (by decide +kernel) rfl (by decide +kernel)
  have hv : v = argV (none, ivec r) ∨ v = argV (some (S "finite"), lvec true) ∨ v = argV (none, dvec wideL) := by simpa using hv
  rcases hv with rfl | rfl | rfl
  ·unfold argV
   lk
   refine ⟨trivial, rfl, TS_one ?_⟩
   lk
   refine ⟨rfl, ?_⟩
   lk
   exact ⟨rfl, rfl⟩
  ·unfold argV
   lk
   refine ⟨trivial, rfl, TS_one ?_⟩
   lk
   exact ⟨rfl, rfl⟩
  ·unfold argV
   lk
   refine ⟨trivial, rfl, TS_one ?_⟩
   lk
   refine ⟨rfl, ?_⟩
   lk
   exact ⟨rfl, rfl⟩
 show ES c A env true No _ [] (fun vs => OPN c A env true No _ _ (call (.ref 799) ·) (.lst [argV (none, ivec r), argV (none, dvec wideL)] :: vs)) σ
 lk
 refine OPN_at room (fn_summary_parts G ?_)
 lk
 refine EV_ListCompF (J := fun zz => True) (ρl := [none, none, none, none]) isFin room.handled ok ⟨rfl, by decide +kernel, by decide +kernel⟩ ⟨rfl, rfl, rfl, rfl, trivial⟩ trivial ?_
 lk
 refine ⟨_, .lst _, by simp, ⟨?_⟩, ?_⟩
 ·intro cenv hcs okc σ' ρ' v hv hJ _
  have e : cenv.scope.names = [(S ".0", .local), (S "tag", .local), (S "value", .local), (S "is_set", .globalImplicit)] := by rw [hcs]; simp [relabel]
  have l1 : LocAt cenv 1 (S "tag") .local := LocAt_of e (by decide +kernel) rfl (by decide +kernel)
  have l2 : LocAt cenv 2 (S "value") .local := LocAt_of e (by decide +kernel) rfl (by decide +kernel)
  have g2 : GlobAt c cenv (S "is_set") (.val (.ref 806)) := Glob_of e (by decide +kernel) (gv_is_set G) (by decide +kernel)
  have hv : v = argV (none, ivec r) ∨ v = argV (some (S "finite"), lvec true) ∨ v = argV (none, dvec wideL) := by simpa using hv
  rcases hv with rfl | rfl | rfl
  ·unfold argV
   lk
   refine ⟨trivial, rfl, TS_one ?_⟩
   lk
   exact ⟨rfl, rfl⟩
  ·unfold argV
   lk
   refine ⟨trivial, rfl, TS_one ?_⟩
   lk
   refine OPN_at room (fn_is_set G ?_)
   lk
   refine ⟨rfl, ?_⟩
   lk
   exact ⟨rfl, rfl⟩
  ·unfold argV
   lk
   refine ⟨trivial, rfl, TS_one ?_⟩
   lk
   exact ⟨rfl, rfl⟩
 show ES c A env true No _ [] (fun vs => OPN c A env true No _ _ (call (.builtin "len") ·) (.lst [lvec true] :: vs)) σ
 lk
 refine bi_len (.inl rfl) (by simp) ?_
 lk
 refine SX_Assign_CompF (J := fun zz => True) (ρl := [none, none, none]) (fun v => some (finOf v)) room.handled ok ⟨rfl, by decide +kernel, by decide +kernel⟩ l3 ⟨rfl, rfl, rfl, trivial⟩ trivial ?_ rfl rfl
 lk
 refine ⟨_, .lst _, by simp, ⟨?_⟩, ?_⟩
 ·intro cenv hcs okc σ' ρ' v hv hJ _
  have e : cenv.scope.names = [(S ".0", .local), (S "v", .local), (S "finite_part", .globalImplicit)] := by rw [hcs]; simp [relabel]
  have l1 : LocAt cenv 1 (S "v") .local := LocAt_of e (by decide +kernel) rfl (by decide +kernel)
  have g2 : GlobAt c cenv (S "finite_part") (.val (.ref 816)) := Glob_of e (by decide +kernel) (gv_finite_part G) (by decide +kernel)
  have hv : v = ivec r ∨ v = dvec wideL := by simpa using hv
  lk
  refine ⟨trivial, rfl, TS_nil ⟨rfl, ?_⟩⟩
  rcases hv with rfl | rfl
  ·lk
   exact OPN_at room (fn_finite_i G ⟨rfl, by rw [finOf_i]⟩)
  ·lk
   exact OPN_at room (fn_finite_d G ⟨rfl, by rw [finOf_d]⟩)
 rw [show ([ivec r, dvec wideL] : List V).filterMap (fun v => some (finOf v)) = [ivec r, fin2] by simp [finOf_i, finOf_d]]
 lk
 refine EV_ListF (ES_nil ⟨by decide, ?_⟩)
 lk
 refine OPN_at room (fn_range_of G hz hb fun m m' h1 h2 h3 h4 => ?_)
 lk
 exact OPN_at room (fn_finish G (h m m' h1 h2 h3 h4))
end
section
section
variable {prog : Program} {w : World} {A : Around} {E : Value → Shared → Prop} {h : Heap} {g : Array GenState} {d : Drawn} {t : Nat} {os : OsState}
variable {nm q : Str} {C N : Addr} {bs bm bmB : List Value} {hdct : Bool} {sn : List Str} {sub : List Value} {ab : Bool} {col : Option Bool} {dd : Option Addr} {k0 k1 k2 k3 k5 : Option Value} {B Bn newId nid initId inN : String} {bmN : List Value}
theorem type_call_exc_initU (Fn : ExcBaseFacts Bn newId inN bmN) (hBn : bmB.contains (.type Bn) = true) (F : ExcBaseFacts B nid initId bmB) (T : OwnTail h bmB bm) {mN : Str → Option Value} {rest : List Value} {fI : Addr} {oI : Obj} {Q : Fin → Shared → Prop}
  (hC : h.get? C = some (excClassObj nm q C N bs bm hdct sn sub ab col dd k0 k1 k2 k3 k5 newId)) (hn : h.Ns N mN) (hi : mN "__init__" = some (.ref fI)) (hfI : h.get? fI = some oI) (hfc : oI.cls = .type "function")
  (hq : ∀ h' e, h' = (h.push { cls := .type "tuple", data := .seq rest.toArray }).push { cls := .ref C, data := .fields #[.ref h.objs.size, .none, .none, .none, .bool false, .none] } → e = h.objs.size + 1 →
   wpAny (model prog w) A (call (.ref fI) (.ref e :: rest)) (fun r s' => r = .none ∧ Q (.done (.ret (.ref e))) s') E ⟨h', g, d, t, os⟩) (hrest : rest.length ≤ sizeLine := by size_fits) :
  wpAny (model prog w) A (Builtin.«type.__call__» ⟨.ref C :: rest, []⟩) Q E ⟨h, g, d, t, os⟩ := by
 repeat (first | with_reducible refine wpAny_loadPart_at hC ?_ | with_reducible refine wpAny_madeBy_exc hC ?_ | wp_step)
 refine codeAny_call_builtin_code (Code.quiet_builtin _ Fn.quiet) (wpAny_check_new_subU Fn hBn T hC ?_)
 refine codeAny_exc_new_subU Fn hBn F T hC ?_ hrest
 show wpAny _ _ _ _ _ _
 have hC₁ := Heap.get?_push_of_some { cls := .ref C, data := .fields #[.ref h.objs.size, .none, .none, .none, .bool false, .none] }
  (Heap.get?_push_of_some { cls := .type "tuple", data := .seq rest.toArray } hC)
 have hfI₁ := Heap.get?_push_of_some { cls := .ref C, data := .fields #[.ref h.objs.size, .none, .none, .none, .bool false, .none] }
  (Heap.get?_push_of_some { cls := .type "tuple", data := .seq rest.toArray } hfI)
 have hn₁ : ((h.push { cls := .type "tuple", data := .seq rest.toArray }).push { cls := .ref C, data := .fields #[.ref h.objs.size, .none, .none, .none, .bool false, .none] }).Ns N mN :=
  let ⟨o, es, ep, e, r⟩ := hn; ⟨o, es, ep, Heap.get?_push_of_some _ (Heap.get?_push_of_some _ e), r⟩
 have hget : ((h.push { cls := .type "tuple", data := .seq rest.toArray }).push
   { cls := .ref C, data := .fields #[.ref h.objs.size, .none, .none, .none, .bool false, .none] }).get? (h.objs.size + 1) = some
   { cls := .ref C, data := .fields #[.ref h.objs.size, .none, .none, .none, .bool false, .none] } := by heap_get
 have hcC : (Value.ref C :: bm).contains (.ref C) = true := by simp
 have T₁ := T.keeps (h' := (h.push { cls := .type "tuple", data := .seq rest.toArray }).push { cls := .ref C, data := .fields #[.ref h.objs.size, .none, .none, .none, .bool false, .none] })
  fun b o e => Heap.get?_push_of_some _ (Heap.get?_push_of_some _ e)
 unfold isInstance
 repeat (first | with_reducible refine wpAny_loadPart_at hget ?_ | (with_reducible refine wpAny_isSubtype_exc hC₁ ?_; rw [hcC]) | wp_step)
 show wpAny _ _ (typeLookup (.ref C) _) _ _ _
 refine wpAny_typeLookup_tail hC₁ hn₁ T₁ F.mroIs F.init.lookup ?_
 rw [hi]
 refine wpAny_holding (wpAny_bind ?_)
 unfold bindSpecial
 refine wpAny_bind (wpAny_typeOf (T := "function") ⟨_, hfI₁, hfc⟩ ?_)
 rw [if_pos (by decide)]
 refine wpAny_pure (wpAny_bind (wpAny_mono (hq _ (h.objs.size + 1) rfl rfl) (fun r s' hr => ?_) fun zz zz x => x))
 obtain ⟨rfl, hQ⟩ := hr
 wp_walk
 exact hQ
theorem call_exc_initU (Fn : ExcBaseFacts Bn newId inN bmN) (hBn : bmB.contains (.type Bn) = true) (F : ExcBaseFacts B nid initId bmB) (T : OwnTail h bmB bm) {mN : Str → Option Value} {rest : List Value} {fI : Addr} {oI : Obj} {Q : Value → Shared → Prop}
  (hC : h.get? C = some (excClassObj nm q C N bs bm hdct sn sub ab col dd k0 k1 k2 k3 k5 newId)) (hn : h.Ns N mN) (hi : mN "__init__" = some (.ref fI)) (hfI : h.get? fI = some oI) (hfc : oI.cls = .type "function")
  (hq : ∀ h' e, h' = (h.push { cls := .type "tuple", data := .seq rest.toArray }).push { cls := .ref C, data := .fields #[.ref h.objs.size, .none, .none, .none, .bool false, .none] } → e = h.objs.size + 1 →
   wpAny (model prog w) (A.under (.builtin "type.__call__" ⟨.ref C :: rest, []⟩)) (call (.ref fI) (.ref e :: rest)) (fun r s' => r = .none ∧ Q (.ref e) s') E ⟨h', g, d, t, os⟩) (hrest : rest.length ≤ sizeLine := by size_fits) :
  wpAny (model prog w) A (call (.ref C) rest) Q E ⟨h, g, d, t, os⟩ := by
 have f1 := tc_lookup
 have f2 := tc_bind (.ref C)
 have hT : (⟨h, g, d, t, os⟩ : Shared).TypeIs (.ref C) "type" := ⟨_, hC, rfl⟩
 refine wpAny_call (codeAny_of_tree ?_)
 show wpAny _ _ (callAny (.ref C) _) _ _ _
 repeat (any_goals (first | assumption | with_reducible refine wpAny_loadPart_at hC ?_ | wp_step))
 refine ⟨rfl, ?_⟩
 refine codeAny_call_builtin_at (Code.quiet_builtin _ (by decide +kernel)) entry_typeCall (wpAny_check_type_call_sub hC (type_call_exc_initU (hrest := hrest) Fn hBn F T hC hn hi hfI hfc fun h' e e1 e2 => ?_))
 exact hq h' e e1 e2
end
end
section
open Builtin Builtin.ObjectAttr
section
variable {prog : Program} {w : World} {A : Around} {E : Value → Shared → Prop} {h : Heap} {g : Array GenState} {d : Drawn} {t : Nat} {os : OsState}
variable {nm q : Str} {C N x A' : Addr} {bs : List Value} {sn : List Str} {sub : List Value} {ab : Bool} {col : Option Bool} {dd : Option Addr} {k0 k1 k2 k3 k5 : Option Value} {newId : String} {K : Frag} {name : Str} {v : Value} {vs : Array Value}
noncomputable abbrev exTail (A' : Addr) : List Value := [.ref A', .type "Exception", .type "BaseException", .type "object"]
theorem exc_store_entry {tk : Tok} {Q : Fin → Shared → Prop} (X : K.In h) (hC : h.get? C = some (excClassObj nm q C N bs (exTail A') true sn sub ab col dd k0 k1 k2 k3 k5 newId)) (hf : findIn K (.ref C) name = some none)
  (hx : h.get? x = some { cls := .ref C, data := .fields vs })
  (hq : ∀ h' tk' m t', (∀ b o, b ≠ x → h.get? b = some o → h'.get? b = some o) → h'.get? x = some { cls := .ref C, dict := some h.objs.size, data := .fields vs } →
   h'.get? h.objs.size = some (dictOf [⟨PyData.keyHash w.params name, .str name t', v⟩] m) → Q (.done (.ret .none)) ⟨h', g, d, tk', os⟩) :
  wpAny (model prog w) A (Builtin.«object.__setattr__» ⟨[.ref x, .str name tk, v], []⟩) Q E ⟨h, g, d, t, os⟩ := by
 have hpass := PySem.F.store_Exception.passes (.ref x)
 unfold Builtin.«object.__setattr__»
 repeat (first | rw [refuse_eq] | (rw [refuseLoop_ref, refuseLoop_ref, hpass]) | with_reducible refine wpAny_loadPart_at hx ?_ | with_reducible refine wpAny_mroOf_exc hC ?_ | with_reducible refine (looks_findIn X hf).here ?_ | wp_step)
 have hx₁ : (h.push { cls := .type "dict", data := .dict #[] }).get? x = some { cls := .ref C, data := .fields vs } := Heap.get?_push_of_some _ hx
 have hxs : x ≠ h.objs.size := Nat.ne_of_lt (Heap.lt_size hx)
 have g2 : ((h.push { cls := .type "dict", data := .dict #[] }).update x fun o => { cls := o.cls, dict := some h.objs.size, data := o.data, slots := o.slots }).get? h.objs.size = some (dictOf [] 0) :=
  (Heap.get?_update_ne _ _ _ _ hxs.symm).trans (Heap.get?_push_at rfl rfl)
 have gx : ((h.push { cls := .type "dict", data := .dict #[] }).update x fun o => { cls := o.cls, dict := some h.objs.size, data := o.data, slots := o.slots }).get? x = some { cls := .ref C, dict := some h.objs.size, data := .fields vs } :=
  Heap.get?_update_self _ hx₁ rfl
 have keep : ∀ b o, b ≠ x → h.get? b = some o → ((h.push { cls := .type "dict", data := .dict #[] }).update x fun o => { cls := o.cls, dict := some h.objs.size, data := o.data, slots := o.slots }).get? b = some o := fun b o hb e =>
  (Heap.get?_update_ne _ _ _ _ hb).trans (Heap.get?_push_of_some _ e)
 generalize ((h.push { cls := .type "dict", data := .dict #[] }).update x fun o => { cls := o.cls, dict := some h.objs.size, data := o.data, slots := o.slots }) = H at g2 gx keep ⊢
 refine wpAny_askSetting (wpAny_pure (wpAny_bind (wpAny_mkText (wpAny_bind (wpAny_loadPart g2 ?_)))))
 dsimp only
 rw [if_neg (by rw [aRefKeyMayBeTheName_at]; simp)]
 obtain ⟨m', e⟩ := putName_dictOf (n := name) (h := PyData.keyHash w.params name) (key := .str name t) (v := v) (es := []) (m := 0)
 refine wpAny_updatePart g2 ?_
 have D' : (H.update h.objs.size (Obj.putName name (PyData.keyHash w.params name) (.str name t) v)).get? h.objs.size = some (dictOf [⟨PyData.keyHash w.params name, .str name t, v⟩] m') := by
  rw [Heap.get?_update_self _ g2 (by rw [e]; rfl), e]; rfl
 refine wpAny_bind (wpAny_lookBehind D' (pastItsLine_dict (by show 1 ≤ _; rw [sizeLine_eq]; decide)) ?_)
 exact wpAny_pure (hq _ _ m' t (fun b o hb h => (Heap.get?_update_ne _ _ _ _ (Nat.ne_of_lt (Heap.lt_size h))).trans (keep b o hb h)) ((Heap.get?_update_ne _ _ _ _ hxs).trans gx) D')
theorem exc_set_attr {Q : Unit → Shared → Prop} (X : K.In h) (hC : h.get? C = some (excClassObj nm q C N bs (exTail A') true sn sub ab col dd k0 k1 k2 k3 k5 newId)) (hf : findIn K (.ref C) name = some none)
  (hsa : findIn K (.ref C) "__setattr__" = some (some (.builtin "object.__setattr__"))) (hobj : mroIn K C (.type "object") = some true) (hx : h.get? x = some { cls := .ref C, data := .fields vs })
  (hq : ∀ h' tk' m t', (∀ b o, b ≠ x → h.get? b = some o → h'.get? b = some o) → h'.get? x = some { cls := .ref C, dict := some h.objs.size, data := .fields vs } →
   h'.get? h.objs.size = some (dictOf [⟨PyData.keyHash w.params name, .str name t', v⟩] m) → Q () ⟨h', g, d, tk', os⟩) :
  wpAny (model prog w) A (setAttr (.ref x) name v) Q E ⟨h, g, d, t, os⟩ := by
 have SF := PySem.F.store_Exception
 have f3 := SF.slot.bind (.ref x)
 have I : PySem.W.InstAt h x { cls := .ref C, data := .fields vs } C none := ⟨hx, rfl, rfl, trivial⟩
 unfold setAttr callSpecial? specialOf
 repeat (any_goals (first | assumption | with_reducible refine wpAny_loadPart_at hx ?_ | with_reducible refine (looks_findIn X hsa).here ?_ | wp_step))
 refine codeAny_call_builtin SF.slot.plain SF.entry (@check_slot (model prog w) _ _ _ "object.__setattr__" "object" "__setattr__" (.ref x) [.str name _, v] [] _ SF.kind SF.split (I.type.andThen (looks_mroIn X hobj)) (SF.args (.ref x) (.str name _) v) ?_)
 refine exc_store_entry X hC hf hx fun h' tk' m t' a1 a2 a3 => ?_
 repeat (any_goals (first | assumption | wp_step))
 exact hq h' tk' m t' a1 a2 a3
theorem exc_get_attr {ox : Obj} {od : Option Obj} {expr : Bool} {Q : Value → Shared → Prop} (X : K.In h) (I : PySem.W.InstAt h x ox C od) (hga : findIn K (.ref C) "__getattribute__" = some (some (.builtin "BaseException.__getattribute__")))
  (hgt : findIn K (.ref C) "__getattr__" = some none) (hbe : mroIn K C (.type "BaseException") = some true) (hfo : PySem.W.findObj K C od name = some (.value v)) (hh : handedIn v = true) (hq : ∀ tk', Q v ⟨h, g, d, tk', os⟩) :
  wpAny (model prog w) A (getAttr (.ref x) name expr) Q E ⟨h, g, d, t, os⟩ := by
 have FB := PySem.F.attrBase_Exception
 have f3 := FB.ga.bind (.ref x)
 have L0 := I.type (M := model prog w)
 have hx0 : (expr && onTheHeap (Value.builtin "BaseException.__getattribute__")) = false := by cases expr <;> rfl
 have hx2 : (Value.builtin "BaseException.__getattribute__" == Value.builtin "object.__getattribute__") = false := by decide +kernel
 have hx1 : (onTheHeap (Value.ref C) && Value.builtin "BaseException.__getattribute__" == Value.builtin "object.__getattribute__") = false := by rw [hx2]; rfl
 have key : ∀ tk, codeAny (model prog w) A (.call (.builtin "BaseException.__getattribute__") ⟨[.ref x, .str name tk], []⟩) (fun r s' => r = .ok (.ret v) ∧ s' = ⟨h, g, d, t + 1, os⟩) ⟨h, g, d, t + 1, os⟩ := fun tk => by
  refine codeAny_call_builtin FB.ga.plain PySem.F.entry_bexc_ga (@check_slot (model prog w) _ _ _ "BaseException.__getattribute__" "BaseException" "__getattribute__" (.ref x) [.str name tk] [] _ (by decide +kernel) (by decide +kernel) (I.type.andThen (looks_mroIn X hbe)) (PySem.F.args_bexc_ga (.ref x) (.str name tk)) ?_)
  show wpAny _ _ _ _ _ _
  refine wpAny_bind (wpAny_pure (wpAny_bind (wpAny_pure (wpAny_bind (L0.here (wpAny_bind ((looks_find X I hfo).here ?_)))))))
  exact wpAny_pure ⟨rfl, rfl⟩
 unfold getAttr getAttrBy
 refine wpAny_bind (wpAny_mkText (wpAny_holding (wpAny_bind (L0.here (wpAny_bind ((looks_findIn X hga).here ?_))))))
 show wpAny _ _ (if _ then _ else _) _ _ _
 rw [if_neg (by rw [hx1]; decide)]
 unfold getAttrByItsOwn
 unfold hookBefore callGetattribute
 repeat (any_goals (first | assumption | with_reducible refine wpAny_loadPart_at I.at_ ?_ | with_reducible refine (looks_findIn X hgt).here ?_ | wp_step))
 refine codeAny_mono (key t) ?_
 rintro r s' ⟨rfl, rfl⟩
 show wpAny _ _ (handedOut v) _ _ _
 rw [handedOut_of hh]
 exact wpAny_pure (hq _)
end
end
section
section
variable {c : Cx} {F P : Prt} {σ : Sto}
noncomputable def Out (c : Cx) (F P : Prt) (σ : Sto) (a : Addr) : Prop := σ a = none ∧ (∀ o, ¬ P a o) ∧ (∀ o, ¬ F a o) ∧ a ≠ c.tabA
inductive ExcO (c : Cx) (F P : Prt) (σ : Sto) (h : Heap) (e : Addr) (msg : Str) (tr : Bool) : Prop
 | mk (oe : Obj) (vs : Array Value) (D : Addr) (m : Nat) (t t' : Tok) (he : h.get? e = some oe) (hc : oe.cls = .ref 117) (hdi : oe.dict = some D) (hd : oe.data = .fields vs) (hsz : 1 < vs.size)
  (pD : P D (dictOf [⟨PyData.keyHash c.w.params (S "message"), .str (S "message") t', .str msg t⟩] m))
  (hT : (vs[1]? = some .none ∧ tr = false) ∨ ∃ T oT ts fl, vs[1]? = some (.ref T) ∧ T ≠ e ∧ Out c F P σ T ∧ h.get? T = some oT ∧ oT.data = .fields ts ∧ ts[3]? = some fl) : ExcO c F P σ h e msg tr
structure ExcS (c : Cx) (F P : Prt) (σ : Sto) (h : Heap) (e : Addr) (msg : Str) (tr : Bool) : Prop where
 out : Out c F P σ e
 obj : ExcO c F P σ h e msg tr
theorem ExcS.any {h : Heap} {e : Addr} {msg : Str} {tr : Bool} (x : ExcS c F P σ h e msg tr) : ExcS c F P σ h e msg false := by
 obtain ⟨out, oe, vs, D, m, t, t', he, hc, hdi, hd, hsz, pD, hT⟩ := x
 exact ⟨out, oe, vs, D, m, t, t', he, hc, hdi, hd, hsz, pD, hT.imp (fun q => ⟨q.1, rfl⟩) id⟩
noncomputable def FrameIn (F : Prt) (env : Env) : Prop := env.scope.kind ≠ .module ∧ ∃ L o es n, env.frame = some L ∧ F L o ∧ o.data = .dict es n
theorem FrameIn.mono {F F' : Prt} (le : PLe F F') {env : Env} (h : FrameIn F env) : FrameIn F' env := let ⟨a, L, o, es, n, b, p, d⟩ := h; ⟨a, L, o, es, n, b, le _ _ p, d⟩
theorem RepC.slots {s : Shared} (C : RepC c F P σ s) {as : List Addr} {h' : Heap} (hs : Heap.SlotsOnly as s.heap h') (ha : ∀ a ∈ as, ∃ o es n, F a o ∧ o.data = .dict es n) : RepC c F P σ { s with heap := h' } := by
 have nP : ∀ a ∈ as, σ a = none ∧ (∀ o, ¬ P a o) ∧ a ≠ c.tabA := fun a h => let ⟨o, _, _, p, _⟩ := ha a h; C.offF a o p
 have same : ∀ a, a ∉ as → h'.get? a = s.heap.get? a := hs.2.1
 refine ⟨fun a o p => (same a fun h => (nP a h).2.1 o p).trans (C.sub a o p), fun a o p => ?_, C.base, C.off, C.offF, fun a x e => ?_, ?_, C.tabσ, C.tabP, C.gens, C.os⟩
 ·obtain ⟨sl, e, z⟩ := C.subF a o p
  by_cases h : a ∈ as
  ·obtain ⟨o', es, n, p', d'⟩ := ha a h
   obtain ⟨sl', e', z'⟩ := C.subF a o' p'
   have hd : o.data = .dict es n := by
    rw [e] at e'
    have := congrArg Obj.data (Option.some.inj e')
    exact this.trans d'
   obtain ⟨sl2, e2⟩ := hs.2.2 a _ e
   refine ⟨sl2, e2, fun q => ?_⟩
   rcases q with ⟨vs, q⟩ | ⟨vs, k, q⟩ <;> rw [hd] at q <;> cases q
  ·exact ⟨sl, (same a h).trans e, z⟩
 ·obtain ⟨o, h1, h2⟩ := C.obj a x e
  exact ⟨o, (same a fun h => by rw [(nP a h).1] at e; cases e).trans h1, h2⟩
 ·obtain ⟨ps, h1, h2⟩ := C.tab
  exact ⟨ps, (same _ fun h => (nP _ h).2.2 rfl).trans h1, h2⟩
noncomputable abbrev noHeap : Heap := { objs := #[] }
theorem noHeap_get (a : Addr) : noHeap.get? a = none := Heap.get?_none_of_le (Nat.zero_le _)
theorem fun_frames {s : Shared} (C : RepC c F P σ s) : ∀ {l : List Env}, (∀ v ∈ l, FrameIn F v) → s.heap.FunFrames noHeap l
 | [], _ => trivial
 | v :: l, h => by
  obtain ⟨k, L, o, es, n, hf, p, hd⟩ := h v (.head _)
  obtain ⟨sl, e, _⟩ := C.subF L o p
  refine ⟨k, ⟨L, _, hf, noHeap_get _, e, fun vs q => ?_⟩, fun_frames C fun u hu => h u (.tail _ hu)⟩
  have q : o.data = .fields vs := q
  rw [hd] at q; cases q
theorem entry_run {A : Around} {E : Value → Shared → Prop} {s : Shared} {e : Addr} {msg : Str} {tr : Bool} {env : Env} {outer : List Env} {L : Addr} {head : Value} {hadNext : Bool} {Q : Unit → Shared → Prop} (C : RepC c F P σ s) (Ex : ExcS c F P σ s.heap e msg tr)
  (hfr : A.frames = some (env :: outer)) (hin : ∀ v ∈ env :: outer, FrameIn F v) (hf : env.frame = some L) (hQ : ∀ h', RepC c F P σ { s with heap := h' } → ExcS c F P σ h' e msg true → Q () { s with heap := h' }) :
  wpAny (MM c) A (do let a ← frameOf env; let pl ← entryPlaceOf L hadNext; let b ← EntryCells.newEntry head a .none (rawInt L) .none pl; setField (.ref e) 1 b) Q E s := by
 obtain ⟨out, oe, vs, D, m, t, t', he, hc, hdi, hd, hsz, pD, _⟩ := Ex
 have hin' : ∀ a ∈ (env :: outer).filterMap (·.frame), ∃ o es n, F a o ∧ o.data = .dict es n := fun a ha => by
  obtain ⟨v, hv, hva⟩ := List.mem_filterMap.mp ha
  obtain ⟨_, L', o, es, n, h1, p, d⟩ := hin v hv
  rw [h1] at hva; cases hva
  exact ⟨o, es, n, p, d⟩
 have hene : e ∉ (env :: outer).filterMap (·.frame) := fun hm => let ⟨o, _, _, p, _⟩ := hin' e hm; out.2.2.1 o p
 refine wpAny_bind (wpAny_frameOf_fun hfr (fun_frames C hin) hf fun h₁ hs₁ => ?_)
 have C₁ := C.slots hs₁ hin'
 refine wpAny_bind (wpAny_entryPlaceOf fun pl hpl => ?_)
 unfold EntryCells.newEntry newFields
 refine wpAny_bind (wpAny_newObj_type ?_ (hpl.sizeOk5 _ _ _ _ _))
 have he₁ : h₁.get? e = some oe := (hs₁.2.1 e hene).trans he
 generalize hT : ({ cls := .type "traceback", dict := none, data := .fields ([head, .ref L, .none, rawInt L, .none] ++ (if pl.isEmpty then List.replicate 6 Value.none else pl)).toArray } : Obj) = oT
 have hTd : ∃ ts, oT.data = .fields ts ∧ ts[3]? = some (rawInt L) := by rw [← hT]; exact ⟨_, rfl, by simp⟩
 obtain ⟨ts, hTd, hT3⟩ := hTd
 have hTf : oT.isFreed = false := Obj.isFreed_of_fields hTd
 have new := C₁.new (a := h₁.objs.size) (Nat.le_refl _)
 have hTe : h₁.objs.size ≠ e := Nat.ne_of_gt (Heap.lt_size he₁)
 have C₂ : RepC c F P σ { s with heap := h₁.push oT } := C₁.grow (h' := h₁.push oT) (t := s.toks) fun a o h => Heap.get?_push_of_some _ h
 have he₂ := Heap.get?_push_of_some (h := h₁) oT he₁
 refine wpAny_setField he₂ hd hsz ?_
 have hd₃ := Obj.data_mapFields hd (·.setIfInBounds 1 (Value.ref h₁.objs.size))
 have he₃ := Heap.get?_update_self (Obj.mapFields (·.setIfInBounds 1 (Value.ref h₁.objs.size))) he₂ (Obj.isFreed_of_fields hd₃)
 have C₃ := C₂.outside (t := s.toks) (Heap.SameBut.update _ e (Obj.mapFields (·.setIfInBounds 1 (Value.ref h₁.objs.size)))) out.2.1 out.2.2.1 out.1 out.2.2.2
 refine hQ _ C₃ ⟨out, _, _, D, m, t, t', he₃, (Obj.cls_mapFields _ _).trans hc, ?_, hd₃, by rw [Array.size_setIfInBounds]; exact hsz, pD, .inr ⟨h₁.objs.size, oT, ts, rawInt L, by simp [hsz], hTe, ⟨new.1, new.2.1, new.2.2.1, new.2.2.2⟩, ?_, hTd, hT3⟩⟩
 ·obtain ⟨oc, od, odt, osl⟩ := oe
  cases odt <;> first | exact hdi | cases hd
 ·exact (Heap.get?_update_other _ _ (Ne.symm hTe)).trans (Heap.get?_push_size h₁ hTf)
theorem flight_run {A : Around} {E : Value → Shared → Prop} {s : Shared} {e : Addr} {msg : Str} {tr : Bool} {fr : Option Addr} {Q : Unit → Shared → Prop} (C : RepC c F P σ s) (Ex : ExcS c F P σ s.heap e msg tr)
  (hQ : ∀ h', RepC c F P σ { s with heap := h' } → ExcS c F P σ h' e msg tr → Q () { s with heap := h' }) : wpAny (MM c) A (setFlight (.ref e) fr) Q E s := by
 obtain ⟨out, oe, vs, D, m, t, t', he, hc, hdi, hd, hsz, pD, hT⟩ := Ex
 unfold setFlight
 rcases hT with ⟨h1, ht⟩ | ⟨T, oT, ts, fl, h1, hTe, outT, hT, hTd, hT3⟩
 ·refine wpAny_bind (wpAny_field he hd h1 ?_)
  rw [if_neg (by decide)]
  exact wpAny_pure (hQ s.heap C ⟨out, oe, vs, D, m, t, t', he, hc, hdi, hd, hsz, pD, .inl ⟨h1, ht⟩⟩)
 ·refine wpAny_bind (wpAny_field he hd h1 ?_)
  rw [if_pos (show (Value.ref T != Value.none) = true from by simp)]
  have hsz3 : 3 < ts.size := (Array.getElem?_eq_some_iff.mp hT3).1
  refine wpAny_setField hT hTd hsz3 ?_
  have hd₃ := Obj.data_mapFields hTd (·.setIfInBounds 3 (fr.elim .none fun f => rawInt f))
  have C₃ := C.outside (t := s.toks) (Heap.SameBut.update _ T (Obj.mapFields (·.setIfInBounds 3 (fr.elim .none fun f => rawInt f)))) outT.2.1 outT.2.2.1 outT.1 outT.2.2.2
  refine hQ _ C₃ ⟨out, oe, vs, D, m, t, t', (Heap.get?_update_other _ _ hTe).trans he, hc, hdi, hd, hsz, pD, .inr ⟨T, _, _, fr.elim .none fun f => rawInt f, h1, hTe, outT, Heap.get?_update_self _ hT (Obj.isFreed_of_fields hd₃), hd₃, by simp [hsz3]⟩⟩
theorem note_run {A : Around} {E : Value → Shared → Prop} {s : Shared} {e : Addr} {msg : Str} {tr : Bool} {env : Env} {outer : List Env} {L : Addr} {Q : Unit → Shared → Prop} (C : RepC c F P σ s) (Ex : ExcS c F P σ s.heap e msg tr)
  (hfr : A.frames = some (env :: outer)) (hin : ∀ v ∈ env :: outer, FrameIn F v) (hf : env.frame = some L) (hQ : ∀ h', RepC c F P σ { s with heap := h' } → ExcS c F P σ h' e msg true → Q () { s with heap := h' }) :
  wpAny (MM c) A (noteFrame (.ref e) env) Q E s := by
 have Ex' := Ex
 obtain ⟨out, oe, vs, D, m, t, t', he, hc, hdi, hd, hsz, pD, hT⟩ := Ex'
 unfold noteFrame
 simp only [hf]
 rcases hT with ⟨h1, ht⟩ | ⟨T, oT, ts, fl, h1, hTe, outT, hT, hTd, hT3⟩
 ·refine wpAny_bind (wpAny_field he hd h1 ?_)
  rw [if_neg (by decide)]
  exact entry_run C Ex hfr hin hf hQ
 ·refine wpAny_bind (wpAny_field he hd h1 ?_)
  rw [if_pos (show (Value.ref T != Value.none) = true from by simp)]
  refine wpAny_bind (wpAny_field hT hTd hT3 ?_)
  by_cases q : (fl == rawInt L) = true
  ·rw [if_pos q]
   exact wpAny_pure (hQ s.heap C ⟨out, oe, vs, D, m, t, t', he, hc, hdi, hd, hsz, pD, .inr ⟨T, oT, ts, fl, h1, hTe, outT, hT, hTd, hT3⟩⟩)
  ·rw [if_neg q]
   have hsz3 : 3 < ts.size := (Array.getElem?_eq_some_iff.mp hT3).1
   refine wpAny_bind (wpAny_setField hT hTd hsz3 ?_)
   have hd₃ := Obj.data_mapFields hTd (·.setIfInBounds 3 Value.none)
   have C₃ := C.outside (t := s.toks) (Heap.SameBut.update _ T (Obj.mapFields (·.setIfInBounds 3 Value.none))) outT.2.1 outT.2.2.1 outT.1 outT.2.2.2
   have Ex₃ : ExcS c F P σ (s.heap.update T (Obj.mapFields (·.setIfInBounds 3 Value.none))) e msg true :=
    ⟨out, oe, vs, D, m, t, t', (Heap.get?_update_other _ _ hTe).trans he, hc, hdi, hd, hsz, pD, .inr ⟨T, _, _, Value.none, h1, hTe, outT, Heap.get?_update_self _ hT (Obj.isFreed_of_fields hd₃), hd₃, by simp [hsz3]⟩⟩
   exact entry_run (s := { s with heap := s.heap.update T (Obj.mapFields (·.setIfInBounds 3 Value.none)) }) C₃ Ex₃ hfr hin hf fun h' => hQ h'
theorem leave_run {A : Around} {E : Value → Shared → Prop} {s : Shared} {e : Addr} {msg : Str} {tr : Bool} {env : Env} {outer : List Env} {L : Addr} {Q : Unit → Shared → Prop} (C : RepC c F P σ s) (Ex : ExcS c F P σ s.heap e msg tr)
  (hfr : A.frames = some (env :: outer)) (hin : ∀ v ∈ env :: outer, FrameIn F v) (hf : env.frame = some L) (hQ : ∀ h', RepC c F P σ { s with heap := h' } → ExcS c F P σ h' e msg true → Q () { s with heap := h' }) :
  wpAny (MM c) A (leaving env (.ref e)) Q E s := by
 unfold leaving
 exact wpAny_bind (note_run C Ex hfr hin hf fun h₁ C₁ E₁ => flight_run (s := { s with heap := h₁ }) C₁ E₁ fun h₂ C₂ E₂ => hQ h₂ C₂ E₂)
theorem came_run {A : Around} {E : Value → Shared → Prop} {s : Shared} {e : Addr} {msg : Str} {env : Env} (C : RepC c F P σ s) (Ex : ExcS c F P σ s.heap e msg true)
  (hQ : ∀ h', RepC c F P σ { s with heap := h' } → ExcS c F P σ h' e msg true → E (.ref e) { s with heap := h' }) : cameBackBy (MM c) A env E (.ref e) s := by
 have Ex' := Ex
 obtain ⟨out, oe, vs, D, m, t, t', he, hc, hdi, hd, hsz, pD, hT⟩ := Ex'
 rcases hT with ⟨_, ht⟩ | ⟨T, oT, ts, fl, h1, hTe, outT, hT, hTd, hT3⟩
 ·cases ht
 ·unfold cameBackBy
  refine wpAny_bind (wpAny_field he hd h1 ?_)
  rw [if_neg (by simp)]
  exact flight_run C Ex hQ
end
end
section
section
variable {c : Cx} {F P : Prt} {σ : Sto}
theorem FN_raw {A : Around} {n : Nat} {s : Shared} {fa : Addr} {o : Obj} {fd : FuncData} {body : List Stmt} {l' : List V} {ks : List Str} {xs ys : List Value} {R : Result → Shared → Prop} (C : RepC c F P σ s) (room : Room (n + 1) A)
  (ho : c.g.get? fa = some o) (hd : o.data = .func fd) (hcd : c.g.CodeRec fd.code fd.qualname) (hbody : fd.body = .stmts body)
  (hg : fd.globals = mainGlobals) (hb : fd.builtins = builtinsNs) (hclo : fd.closure = []) (hco : fd.scope.isCoroutine = false) (hgen : fd.scope.isGenerator = false) (hk : fd.scope.kind = .function)
  (fi : FnIs fd.scope ks) (hl : ks.length = l'.length) (hbt : BindsTo s fd ⟨xs, []⟩ (ks.zip ys)) (ry : VRs c.w.params P l' ys)
  (hrun : ∀ env s₁, EnvOk env → env.scope = fd.scope → env.frame = some env.locals → (∀ b o, s.heap.get? b = some o → s₁.heap.get? b = some o) → Rep c env true F P (fun i => l'[i]?) σ s₁ → codeAny (MM c) A (.func body env) R s₁) :
  codeAny (MM c) A (.call (.ref fa) ⟨xs, []⟩) R s := by
 have kept : ∀ b o, c.g.get? b = some o → s.heap.get? b = some o := fun b o e => C.sub b o (C.base b o e)
 refine codeAny_call_function (by have := room.depth; omega) (kept _ _ ho) hd hco hgen hbody (hcd.keeps kept) (hbt _ _ _ _ ?_)
 rw [hclo]
 refine wpAny_newFunctionEnv_cells hk ?_ ?_
 ·intro x hx
  obtain ⟨i, hi⟩ := List.getElem?_of_mem hx
  have hi' := List.getElem?_zip_eq_some.mp hi
  have hlt : i < ks.length := (List.getElem?_eq_some_iff.mp hi'.1).1
  have e : ((fd.scope.names.map (·.1)).take ks.length)[i]? = some x.1 := by rw [fi.pre]; exact hi'.1
  rw [List.getElem?_take_of_lt hlt, List.getElem?_map] at e
  obtain ⟨⟨z, k⟩, e1, e2⟩ := Option.map_eq_some_iff.mp e
  have e2 : z = x.1 := e2
  subst e2
  have lk := lookup_of_at fi.nd e1
  have hm : (x.1, k) ∈ fd.scope.names.take ks.length := List.mem_of_getElem? (i := i) (by rw [List.getElem?_take_of_lt hlt]; exact e1)
  rcases fi.kinds _ hm with q | q
  ·cases q; exact .inl lk
  ·cases q; exact .inr ⟨lk, cellsFrom_some (List.mem_of_getElem? e1)⟩
 ·intro env he s₁ x
  have hsc : env.scope = fd.scope := by rw [he]; rfl
  have hcl : env.cells = cellsFrom (s.heap.objs.size + 1) fd.scope.names [] := by rw [he]; rfl
  have R := Rep.frame C fi hsc hl ry x hcl
  have ok : EnvOk env := ⟨by rw [hsc]; exact hk, by rw [he]; exact hg, by rw [he]; exact hb⟩
  exact ⟨(c.hlim.keeps R.kept), hrun env s₁ ok hsc (by rw [he]; rfl) x.toInCall.keep R⟩
theorem RepC.extBut {s : Shared} (C : RepC c F P σ s) {e : Addr} {h' : Heap} {t : Nat} (hk : ∀ b o, b ≠ e → s.heap.get? b = some o → h'.get? b = some o) (out : Out c F P σ e) : RepC c F P σ { s with heap := h', toks := t } := by
 refine ⟨fun a o p => hk a o (fun q => out.2.1 o (q ▸ p)) (C.sub a o p), fun a o p => ?_, C.base, C.off, C.offF, fun a x q => ?_, ?_, C.tabσ, C.tabP, C.gens, C.os⟩
 ·obtain ⟨sl, q, z⟩ := C.subF a o p
  exact ⟨sl, hk a _ (fun q => out.2.2.1 o (q ▸ p)) q, z⟩
 ·obtain ⟨o, h1, h2⟩ := C.obj a x q
  exact ⟨o, hk a o (fun z => by rw [z, out.1] at q; cases q) h1, h2⟩
 ·obtain ⟨ps, h1, h2⟩ := C.tab
  exact ⟨ps, hk _ _ (Ne.symm out.2.2.2) h1, h2⟩
theorem name_raw {A : Around} {env : Env} {own : Bool} {ρ : Loc} {E : Value → Shared → Prop} {s : Shared} {i : Nat} {x : Str} {pos : Pos} {v : V} {Q : Value → Shared → Prop} (R : Rep c env own F P ρ σ s) (ok : EnvOk env) (hx : LocAt env i x .local) (hv : ρ i = some v)
  (h : ∀ y, VR c.w.params P v y → Q y s) : wpAny (MM c) A (eval (.Name x pos) env) Q E s := by
 obtain ⟨m, hm, hs⟩ := R.toL.ns
 have := hs i x hx
 rw [hv] at this
 cases q : m x with
 | none => rw [q] at this; exact this.elim
 | some y => rw [q] at this; exact wpAny_Name (wpAny_loadName_local ok.kind hx.1.1 hm q (h y this)) hx.1.2
noncomputable def excFields (t : Addr) : Array Value := #[.ref t, .none, .none, .none, .bool false, .none]
theorem kf117 (P : Params) : (findIn (KF P) (.ref 117) (S "message") == some none && findIn (KF P) (.ref 117) "__setattr__" == some (some (.builtin "object.__setattr__")) && mroIn (KF P) 117 (.type "object") == some true
  && findIn (KF P) (.ref 117) "__getattribute__" == some (some (.builtin "BaseException.__getattribute__")) && findIn (KF P) (.ref 117) "__getattr__" == some none && mroIn (KF P) 117 (.type "BaseException") == some true && (clsIn (KF P) 117).any (·.hasDict)
  && tailIn (KF P) [.type "Exception", .type "BaseException", .type "object"] (exTail 97) && nsOkIn (KF P) 116 && nsIn (KF P) 116 "__init__" == some (some (.ref 114))) = true := by kernel_rfl
noncomputable abbrev refusalObj : Obj := excClassObj (S "Refusal") (S "Refusal") 117 116 [.ref 97] (exTail 97) true [] [] false none none (some (.ref 101)) none (some (vs "Refusal" 295)) (some (vs "Refusal" 303)) (some (.bool true)) "Exception.__new__"
theorem refusal_at (G : Good c) : c.g.get? 117 = some refusalObj := G.g 117 _ (by kernel_rfl) (by decide)
theorem init_run (G : Good c) {A : Around} {n : Nat} {s : Shared} {e t0 : Addr} {msg : Str} {x : Value} {R : Result → Shared → Prop} (C : RepC c F P σ s) (room : Room (n + 1) A) (out : Out c F P σ e) (he : s.heap.get? e = some { cls := .ref 117, data := .fields (excFields t0) })
  (rx : VR c.w.params P (.str msg) x) (hR : ∀ s' P' D, PLe P P' → RepC c F P' σ s' → s'.heap.get? e = some { cls := .ref 117, dict := some D, data := .fields (excFields t0) } → ExcS c F P' σ s'.heap e msg false → R (.ok (.ret .none)) s') :
  codeAny (MM c) A (.call (.ref 114) ⟨[.ref e, x], []⟩) R s := by
 have hK := kf117 c.w.params
 simp only [Bool.and_eq_true, beq_iff_eq] at hK
 obtain ⟨⟨⟨⟨⟨⟨⟨⟨⟨k1, k2⟩, k3⟩, k4⟩, k5⟩, k6⟩, k7⟩, k8⟩, k9⟩, k10⟩ := hK
 rw [← G.K] at k1 k2 k3
 have ho : (H1 c.w.params).get? 114 = some (fno "__init__" "Refusal.__init__" (md 14 0) .none (vs "vectorcove.errors" 273) (.ref 113)) := by kernel_rfl
 have hc : (H1 c.w.params).get? 113 = some (o113 c.w.params) := by kernel_rfl
 refine FN_raw (n := n) (ks := [S "self", S "message"]) (l' := [.val (.ref e), .str msg]) (ys := [.ref e, x]) C room (G.g _ _ ho (by decide)) rfl ⟨113, _, _, 308, rfl, G.g _ _ hc (by decide), rfl, rfl⟩ rfl rfl rfl rfl (by kernel_rfl) (by kernel_rfl) (by kernel_rfl) fi_md_14_0 rfl (.of_eq rfl) ⟨rfl, rx, trivial⟩ ?_
 intro env s₁ ok hs hfr keep R₁
 refine loc_md_14_0 G hs fun l0 l1 => ?_
 refine codeAny_func ?_
 have he₁ := keep _ _ he
 refine wpAny_execs_cons (plainObj_wpAny_Assign_Attribute (name_raw R₁ ok l1 rfl fun y ry => name_raw R₁ ok l0 rfl fun z rz => ?_))
 cases rz
 obtain ⟨t, rfl⟩ := ry
 obtain ⟨hh, g, d, tk, os⟩ := s₁
 have out₁ : Out c F P σ e := out
 refine exc_set_attr (A' := 97) (R₁.K) (R₁.kept _ _ (refusal_at G)) k1 k2 k3 he₁ fun h' tk' m t' a1 a2 a3 => ?_
 have C₂ := R₁.toC.extBut (h' := h') (t := tk') a1 out
 have new := R₁.toC.new (Nat.le_refl _)
 have C₃ := C₂.keepP a3 new.1 new.2.2.1 new.2.2.2
 have ne : e ≠ hh.objs.size := Nat.ne_of_lt (Heap.lt_size he₁)
 have out' : Out c F (addP P hh.objs.size (dictOf [⟨PyData.keyHash c.w.params (S "message"), .str (S "message") t', .str msg t⟩] m)) σ e := by
  refine ⟨out.1, ?_, out.2.2⟩
  rintro o (p | ⟨q, _⟩)
  ·exact out.2.1 o p
  ·exact ne q
 refine wpAny_execs_nil ?_
 refine hR _ _ hh.objs.size (addP_le _ _ _) C₃ a2 ⟨out', _, _, hh.objs.size, m, t, t', a2, rfl, rfl, rfl, (by show 1 < 6; decide), addP_self _ _ _, .inl ⟨rfl, rfl⟩⟩
set_option tactic.hygienic true in
theorem ns_some_of {K : Frag} {h : Heap} {N : Addr} {mg : Str → Option Value} {n : Str} {v : Value} (X : K.In h) (G : h.Ns N mg) (e : nsIn K N n = some (some v)) : mg n = some v := by
 obtain ⟨o, es, ep, ho, hd, _, hf⟩ := G
 unfold nsIn at e
 split at e
 ·rename_i c d es' n' sl q
  have := X _ _ q
  rw [ho] at this
  cases this
  cases hd
  split at e
  ·rename_i en he
   cases e
   rw [← hf]
   unfold nsFind findBy
   rw [← Array.find?_toList, he]
   rfl
  ·split at e <;> cases e
 ·cases e
theorem raiseStmt_own {M : Model} {A : Around} {E : Value → Shared → Prop} {s : Shared} {env : Env} {x : Sem Value} {Q : Flow → Shared → Prop} (hh : A.handled = none)
  (h : wpAny M A x (fun v s₁ => ∃ e t D, v = .ref e ∧ s₁.heap.get? 117 = some refusalObj ∧ s₁.heap.get? e = some { cls := .ref 117, dict := some D, data := .fields (excFields t) } ∧ E (.ref e) s₁) E s) :
  wpAny M A (raiseStmt env (some x) none) Q E s := by
 have hcB : (Value.ref 117 :: exTail 97).contains (.type "BaseException") = true := by decide
 unfold raiseStmt
 refine wpAny_bind (wpAny_mono h (fun v s₁ h₁ => ?_) fun zz zz x => x)
 obtain ⟨e, t, D, rfl, hC, he, hE⟩ := h₁
 obtain ⟨hp, g, d, tk, os⟩ := s₁
 unfold excFields at he
 repeat (first | with_reducible refine wpAny_loadPart_at he ?_ | with_reducible refine wpAny_loadPart_at hC ?_ | (with_reducible refine wpAny_isSubtype_exc hC ?_; rw [hcB]) | wp_step)
 exact wpAny_raiseNew_none hh hE
noncomputable def Comes (c : Cx) (env : Env) (msg : Str) (σ : Sto) : XP := fun F P e s => ∃ a F', e = .ref a ∧ PLe F F' ∧ (∃ o es n, F' env.locals o ∧ o.data = .dict es n) ∧ RepC c F' P σ s ∧ ExcS c F' P σ s.heap a msg false
theorem raise_run (G : Good c) {A : Around} {n : Nat} {env : Env} {own : Bool} {ρ : Loc} {s : Shared} {msg : Str} {np cpos pos : Pos} {arg : Expr} {Q : Flow → Shared → Prop} (R : Rep c env own F P ρ σ s) (room : Room (n + 2) A) (ok : EnvOk env)
  (hg : GlobAt c env (S "Refusal") (.val (.ref 117))) (harg : EV c A env own No ρ arg (fun v σ₁ => v = .str msg ∧ σ₁ = σ) σ) (hp : autoParam ((backTo cpos (starEach [arg] env)).any (·.1) = false) aRfl) (he : autoParam (starEach [arg] env = (false, eval arg env) :: starEach [] env) aRfl) :
  wpAny (MM c) A (exec (.Raise (some (.Call (.Name (S "Refusal") np) [arg] [] cpos)) none pos) env) Q (PX (Comes c env msg σ) F P) s := by
 rw [arm_exec_Raise]
 refine wpAny_bind (wpAny_standAt (raiseStmt_own room.handled ?_))
 refine wpAny_bind (wpAny_mono (wpAny_Call_ofName (wpAny_mono ((EV_glob (X := No) (Q := fun v σ' => v = .val (.ref 117) ∧ σ' = σ) ok hg ⟨rfl, rfl⟩).run F P s R) (fun f s₁ h₁ => ?_) fun zz zz x => (PX.no x).elim)) (fun v s₃ h₃ => wpAny_bind (wpAny_standAt (wpAny_pure h₃))) fun zz zz x => x)
 obtain ⟨P₁, V, σ₁, le₁, R₁, rv, rfl, rfl⟩ := h₁
 cases rv
 refine callWith_of (P := fun h => ∀ b o, c.g.get? b = some o → h.get? b = some o) (by rw [hp]; rfl) (fun h k => callee_cls G (a := 117) (by decide) h k) ?_
 refine evalArgs_of hp (wpAny_mono ((ES_cons (es := []) (Q := fun l σ' => l = [.str msg] ∧ σ' = σ₁) (harg.mono fun v σ₂ h => by obtain ⟨rfl, rfl⟩ := h; exact ES_nil ⟨rfl, rfl⟩) he).run cpos F P₁ s₁ R₁) ?_ fun zz zz x => (PX.no x).elim)
 rintro xs s₂ ⟨P₂, l, σ₂, le₂, R₂, rl, rfl, rfl⟩
 refine ⟨R₂.kept, ?_⟩
 obtain ⟨x, rfl, rx⟩ := rl.one
 have hK := kf117 c.w.params
 simp only [Bool.and_eq_true, beq_iff_eq] at hK
 obtain ⟨⟨⟨⟨⟨⟨⟨⟨⟨k1, k2⟩, k3⟩, k4⟩, k5⟩, k6⟩, k7⟩, k8⟩, k9⟩, k10⟩ := hK
 rw [← G.K] at k8 k9 k10
 have ho : (H1 c.w.params).get? 114 = some (fno "__init__" "Refusal.__init__" (md 14 0) .none (vs "vectorcove.errors" 273) (.ref 113)) := by kernel_rfl
 have CC := R₂.enter
 have KK := R₂.K
 have hC := R₂.kept _ _ (refusal_at G)
 have hI := R₂.kept _ _ (G.g _ _ ho (by decide))
 obtain ⟨hh, g, d, tk, os⟩ := s₂
 have hN : hh.Ns 116 (hh.nsMap 116) := .of_isNs (isNs_of_in KK k9)
 have hi : hh.nsMap 116 "__init__" = some (.ref 114) := ns_some_of KK hN k10
 show wpAny (MM c) A (call (.ref 117) [x]) _ _ _
 refine call_exc_initU PySem.F.excBase_Exception (by decide) PySem.F.excBase_Exception (tail_of_in KK k8) hC hN hi hI rfl (fun h' e e1 e2 => ?_) (by show 1 ≤ _; rw [sizeLine_eq]; omega)
 have keep : ∀ b o, hh.get? b = some o → h'.get? b = some o := fun b o q => by rw [e1]; exact Heap.get?_push_of_some _ (Heap.get?_push_of_some _ q)
 have C₁ := CC.grow (h' := h') (t := tk) keep
 have new := CC.new (a := e) (by rw [e2]; exact Nat.le_succ _)
 have he' : h'.get? e = some { cls := .ref 117, data := .fields (excFields hh.objs.size) } := by
  rw [e1, e2]
  have := Heap.get?_push_size (hh.push { cls := .type "tuple", data := .seq [x].toArray }) (o := { cls := .ref 117, data := .fields (excFields hh.objs.size) }) rfl
  rwa [Heap.size_push] at this
 refine wpAny_call (codeAny_mono (init_run (n := n) G (x := x) (F := FF F env own hh) (P := P₂) (σ := σ₂) (s := ⟨h', g, d, tk, os⟩) C₁ room.made ⟨new.1, new.2.1, new.2.2.1, new.2.2.2⟩ he' rx (R := fun r s' => r = .ok (.ret .none) ∧ ∃ P' D, PLe P₂ P' ∧ RepC c (FF F env own hh) P' σ₂ s' ∧ s'.heap.get? e = some { cls := .ref 117, dict := some D, data := .fields (excFields hh.objs.size) } ∧ ExcS c (FF F env own hh) P' σ₂ s'.heap e msg false) fun s' P' D le C' h1 h2 => ⟨rfl, P', D, le, C', h1, h2⟩) ?_)
 rintro r s' ⟨rfl, P', D, le, C', h1, h2⟩
 have hlo : ∃ o es n, hh.get? env.locals = some o ∧ o.data = .dict es n := R₂.toL.ns.elim fun m h => let ⟨o, es, ep, ho, hd, _⟩ := h.1; ⟨o, es, ep, ho, hd⟩
 obtain ⟨lo, les, ln, hlo, hld⟩ := hlo
 exact ⟨rfl, e, _, D, rfl, C'.sub _ _ (C'.base _ _ (refusal_at G)), h1, P', (le₁.trans le₂).trans le, e, FF F env own hh, rfl, fun a o p => .inl p, ⟨lo, les, ln, .inr ⟨hlo, .inl rfl⟩, hld⟩, C', h2⟩
end
end
section
section
variable {c : Cx} {F P : Prt} {σ : Sto}
theorem SX_Raise (G : Good c) {A : Around} {n : Nat} {env : Env} {own : Bool} {ρ : Loc} {msg : Str} {np cpos pos : Pos} {arg : Expr} {N B C : Loc → Sto → Prop} {T : V → Sto → Prop} (room : Room (n + 2) A) (ok : EnvOk env)
  (hg : GlobAt c env (S "Refusal") (.val (.ref 117))) (harg : EV c A env own No ρ arg (fun v σ₁ => v = .str msg ∧ σ₁ = σ) σ) (hp : autoParam ((backTo cpos (starEach [arg] env)).any (·.1) = false) aRfl) (he : autoParam (starEach [arg] env = (false, eval arg env) :: starEach [] env) aRfl) :
  SX c A env own B C T (Comes c env msg σ) N (.Raise (some (.Call (.Name (S "Refusal") np) [arg] [] cpos)) none pos) ρ σ := .mk fun F P s R => raise_run G R room ok hg harg hp he
theorem for_raise_run {σ₀ : Sto} {A : Around} {env : Env} {outer : List Env} {own : Bool} {ρ : Loc} {s : Shared} {msg : Str} {t it : Expr} {body : List Stmt} {pos : Pos} {Q : Flow → Shared → Prop} (R : Rep c env own F P ρ σ s) (hh : A.handled = none) (hfr : A.frames = some (env :: outer)) (hin : ∀ v ∈ outer, FrameIn F v)
  (hfe : env.frame = some env.locals) (hk : env.scope.kind ≠ .module)
  (h : EV c A env own No ρ it (fun v σ₁ => ∃ x l, Its v (x :: l) ∧ AS c A env own No (SS c A env own (fun zz zz => False) (fun zz zz => False) (fun zz zz => False) (Comes c env msg σ₀) (fun zz zz => False) body) t ρ x σ₁) σ)
  (hs : autoParam (∀ x, foldedSetIterable it env x = pure x) aInt) :
  wpAny (MM c) A (exec (.For t it body [] pos) env) Q (PX (Comes c env msg σ₀) F P) s := by
 refine wpAny_For (wpAny_mono (h.run F P s R) ?_ fun zz zz x => (PX.no x).elim) hs
 rintro x s₁ ⟨P₁, v, σ₁, le₁, R₁, rv, x₀, l, hi, has⟩
 refine wpAny_mono (iter_of R₁ hi rv) ?_ fun zz zz x => x
 rintro y s₂ ⟨itr, o, rfl, hn, R₂, io⟩
 refine forLoopG (fun n s' => ∃ o', PLe P P₁ ∧ Rep c env own (addP F itr o') P₁ ρ σ₁ s' ∧ ItObj c.w.params P₁ o' (x₀ :: l)) ?_ 0 ⟨o, le₁, R₂, io⟩
 rintro n s₃ ⟨o₃, le₃, R₃, io₃⟩ _ _
 refine wpAny_mono (next_item R₃ io₃ hn) ?_ fun zz zz x => x
 rintro r s₄ ⟨x, o', rfl, rx, R₄, io₄⟩
 refine go_it R₄ io₄ ?_
 refine wpAny_mono (has.run _ _ _ x R₄ rx) ?_ fun zz zz x => (PX.no x).elim
 rintro _ s₅ ⟨P₅, ρ₅, σ₅, le₅, R₅, h₅⟩
 refine wpAny_mono (h₅.run _ _ _ R₅) ?_ ?_
 ·rintro f s₆ ⟨P₆, ρ₆, σ₆, le₆, R₆, h₆⟩
  cases f with
  | next => exact h₆.elim
  | brk => exact h₆.elim
  | cont => exact h₆.elim
  | ret v => obtain ⟨_, _, q⟩ := h₆; exact q.elim
 ·rintro e s₆ ⟨P₆, le₆, a, F', rfl, leF, ⟨lo, es, en, hlo, hld⟩, C₆, Ex⟩
  have leF' : PLe F F' := fun a o p => leF a o (.inl p)
  have hin' : ∀ v ∈ env :: outer, FrameIn F' v := fun v hv => by
   rcases List.mem_cons.mp hv with rfl | hv
   ·exact ⟨hk, _, lo, es, en, hfe, hlo, hld⟩
   ·exact (hin v hv).mono leF'
  show notedBy _ _ _ _ _ _
  unfold notedBy
  refine note_run C₆ Ex hfr hin' hfe fun h₇ C₇ E₇ => ?_
  exact came_run (s := { s₆ with heap := h₇ }) C₇ E₇ fun h₈ C₈ E₈ => ⟨P₆, (le₁.trans le₅).trans le₆, a, F', rfl, leF', ⟨lo, es, en, hlo, hld⟩, C₈, E₈.any⟩
noncomputable def PRX (c : Cx) (F P : Prt) (σ : Sto) (msg : Str) (r : Result) (s' : Shared) : Prop := ∃ P' a, r = .error (.ref a) ∧ PLe P P' ∧ RepC c F P' σ s' ∧ ExcS c F P' σ s'.heap a msg true
structure FNX (c : Cx) (n : Nat) (f : Value) (l : List V) (σ : Sto) (msg : Str) : Prop where
 run : ∀ A outer F P s xs, Room n A → A.frames = some outer → (∀ v ∈ outer, FrameIn F v) → RepC c F P σ s → VRs c.w.params P l xs →
  codeAny (MM c) A (.call f ⟨xs, []⟩) (PRX c F P σ msg) s
theorem FNX_intro (G : Good c) {n : Nat} {fa ca : Addr} {nm q : String} {d : Arguments × List Stmt × Scope} {dV pm : Value} {x0 : Value} {t : Tok} {cl : List Value} {ks : List Str} {l l' : List V} {msg : Str}
  (ho : (H1 c.w.params).get? fa = some (fno nm q d dV pm (.ref ca))) (hc : (H1 c.w.params).get? ca = some (cdo (x0 :: .str (Str.ofString q) t :: cl))) (hne : (fa == tabN || ca == tabN) = false)
  (fi : FnIs d.2.2 ks) (hco : d.2.2.isCoroutine = false) (hgen : d.2.2.isGenerator = false) (hk : d.2.2.kind = .function) (hl : ks.length = l'.length)
  (hbind : ∀ fd o s P xs, o = fno nm q d dV pm (.ref ca) → o.data = .func fd → (∀ a o, (H1 c.w.params).get? a = some o → a ≠ tabN → P a o) → (∀ a o, P a o → s.heap.get? a = some o) → VRs c.w.params P l xs → ∃ ys, BindsTo s fd ⟨xs, []⟩ (ks.zip ys) ∧ VRs c.w.params P l' ys)
  (hrun : ∀ A env outer F P s, Room n A → A.frames = some (env :: outer) → (∀ v ∈ outer, FrameIn F v) → EnvOk env → env.scope = d.2.2 → env.frame = some env.locals → Rep c env true F P (fun i => l'[i]?) σ s →
   wpAny (MM c) A (execs d.2.1 env) (fun zz zz => False) (PX (Comes c env msg σ) F P) s) : FNX c (n + 1) (.ref fa) l σ msg := .mk fun A outer F P s xs room hfr hin C rl => by
 have hf : fa ≠ tabN := fun e => by subst e; simp at hne
 have hf' : ca ≠ tabN := fun e => by subst e; simp at hne
 obtain ⟨ys, hbt, ry⟩ := hbind _ _ s P xs rfl rfl (fun a o e n => C.base _ _ (G.g a o e n)) C.sub rl
 refine FN_raw (n := n) C room (o := fno nm q d dV pm (.ref ca)) (G.g _ _ ho hf) rfl ⟨ca, _, _, t, rfl, G.g _ _ hc hf', rfl, rfl⟩ rfl rfl rfl rfl hco hgen hk fi hl hbt ry ?_
 intro env s₁ ok hs hfe keep R₁
 refine codeAny_func ?_
 have hfr' : (A.deeper env).frames = some (env :: outer) := Around.frames_deeper hfr
 refine wpAny_mono (hrun (A.deeper env) env outer F P s₁ (room.deeper env) hfr' hin ok hs hfe R₁) (fun zz zz x => x.elim) ?_
 rintro e s₂ ⟨P₂, le₂, a, F', rfl, leF, ⟨lo, es, en, hlo, hld⟩, C₂, Ex⟩
 have hin' : ∀ v ∈ env :: outer, FrameIn F' v := fun v hv => by
  rcases List.mem_cons.mp hv with rfl | hv
  ·exact ⟨by rw [ok.kind]; decide, _, lo, es, en, hfe, hlo, hld⟩
  ·exact (hin v hv).mono leF
 refine leave_run C₂ Ex hfr' hin' hfe fun h₃ C₃ E₃ => ?_
 refine ⟨P₂, a, rfl, le₂, C₃.weakF leF, ?_⟩
 obtain ⟨out, oe, vs, D, m, t, t', he, hc, hdi, hd, hsz, pD, hT⟩ := E₃
 have om : ∀ {b}, Out c F' P₂ σ b → Out c F P₂ σ b := fun o => ⟨o.1, o.2.1, fun x p => o.2.2.1 x (leF _ _ p), o.2.2.2⟩
 exact ⟨om out, oe, vs, D, m, t, t', he, hc, hdi, hd, hsz, pD, hT.imp id fun ⟨T, oT, ts, fl, q1, q2, q3, q4⟩ => ⟨T, oT, ts, fl, q1, q2, om q3, q4⟩⟩
end
end
section
theorem swaps_cell {env : Env} {i : Nat} {x : Str} {elt : Expr} {gens : List Comprehension} {scope : Scope} {pos p : Pos} {line : Nat} (hx : LocAt env i x .cell) : swapsWith (.ListComp elt gens scope pos) (some (.Name x p)) line env = pure false := by
 show (pure _ : Sem Bool) = _
 congr 1
 show (env.blockKind == .function && env.kindOf x == some .local && p.line == pos.line && !(scope.names.any fun (n, k) => n == x && (k == .local || k == .cell))) = false
 rw [hx.1.1]
 have : ((some NameKind.cell == some NameKind.local) = false) := by decide
 rw [this, Bool.and_false, Bool.false_and, Bool.false_and]
variable {c : Cx} {σ : Sto} {Q : V → Sto → Prop}
end
section
variable {c : Cx} {σ : Sto} {Q : V → Sto → Prop}
noncomputable def kp (b : Bool) (r s : Row) : List Nat := (List.range r.length).filter fun i => !b || ((r.getD i none).isSome && (s.getD i none).isSome)
noncomputable def pick (r : Row) (ks : List Nat) : Row := ks.map fun i => r.getD i none
theorem kp_lt {b : Bool} {r s : Row} {i : Nat} (h : i ∈ kp b r s) : i < r.length := List.mem_range.mp (List.mem_filter.mp h).1
theorem pick_all (r : Row) : pick r (List.range r.length) = r := by
 unfold pick
 refine List.ext_getElem (by simp) fun i h1 h2 => ?_
 rw [List.getElem_map, List.getElem_range, List.getD_eq_getElem?_getD, List.getElem?_eq_getElem h2]; rfl
theorem kp_false (r s : Row) : kp false r s = List.range r.length := by
 unfold kp
 rw [List.filter_eq_self]; intro _ _; rfl
theorem pick_mem {r : Row} {ks : List Nat} (hk : ∀ i ∈ ks, i < r.length) {o : Option Int} (h : o ∈ pick r ks) : o ∈ r := by
 obtain ⟨i, hi, rfl⟩ := List.mem_map.mp h
 rw [List.getD_eq_getElem?_getD, List.getElem?_eq_getElem (hk i hi)]
 exact List.getElem_mem _
theorem kp_len (b : Bool) (r s : Row) : (kp b r s).length ≤ r.length := by
 unfold kp
 have := List.length_filter_le (fun i => !b || ((r.getD i none).isSome && (s.getD i none).isSome)) (List.range r.length)
 rwa [List.length_range] at this
theorem upFrom_map : ∀ (n k : Nat), upFrom (k : Int) 1 n = (List.range' k n).map fun i : Nat => V.int i
 | 0, _ => rfl
 | n + 1, k => by
  unfold upFrom
  rw [List.range'_succ, List.map_cons]
  have := upFrom_map n (k + 1)
  rw [show ((k : Int) + 1) = ((k + 1 : Nat) : Int) by omega, this]
theorem up_map (n : Nat) : upFrom 0 1 n = (List.range n).map fun i : Nat => V.int i := by
 have := upFrom_map n 0
 rwa [← List.range_eq_range'] at this
noncomputable def natOf : V → Nat
 | .int i => i.toNat
 | _ => 0
theorem fm_places (n : Nat) (p : Nat → Bool) : ((List.range n).map fun i : Nat => V.int i).filterMap (fun v => if p (natOf v) = true then some v else none) = ((List.range n).filter p).map fun i : Nat => V.int i := by
 generalize List.range n = l
 induction l with
 | nil => rfl
 | cons i l ih =>
  rw [List.map_cons, List.filterMap_cons, List.filter_cons]
  have e : natOf (V.int (i : Int)) = i := by show (i : Int).toNat = i; omega
  rw [e]
  cases p i with
  | true => simp [ih]
  | false => simp [ih]
theorem fm_pick (r : Row) (f : Option Int → V) (ks : List Nat) : (ks.map fun i : Nat => V.int i).filterMap (fun v => some (f (r.getD (natOf v) none))) = (pick r ks).map f := by
 unfold pick
 induction ks with
 | nil => rfl
 | cons i l ih =>
  rw [List.map_cons, List.filterMap_cons, List.map_cons, List.map_cons, ih]
  have e : natOf (V.int (i : Int)) = i := by show (i : Int).toNat = i; omega
  rw [e]
theorem up_len (n : Nat) : (upFrom 0 1 n).length = n := by rw [up_map, List.length_map, List.length_range]
theorem up_mem {n : Nat} {v : V} (h : v ∈ upFrom 0 1 n) : ∃ i : Nat, i < n ∧ v = .int i := by
 rw [up_map] at h
 obtain ⟨i, hi, e⟩ := List.mem_map.mp h
 exact ⟨i, List.mem_range.mp hi, e.symm⟩
theorem getD_at {r : Row} {i : Nat} (h : i < r.length) : (r.map qv')[i]? = some (qv' (r.getD i none)) := by
 rw [List.getElem?_map, List.getD_eq_getElem?_getD, List.getElem?_eq_getElem h]; rfl
theorem comp_pick {A : Around} {env : Env} {n : Nat} (room : Room n A) (ok : EnvOk env) {r : Row} {ks : List Nat} {x : Str} {j : Nat} (hj : LocAt env j x .cell) (hk : ∀ i ∈ ks, i < r.length) (hz : r.length ≤ 6) {scope : Scope} (hn : scope.names = [(S ".0", .local), (S "i", .local), (x, .free)])
  (hx : (x == ("__debug__" : Str)) = false) (hne : ([S ".0", S "i", x] : List Str).Nodup) {p1 p2 p3 p4 : Pos} :
  CompStep c A env scope (.Subscript (.Name x p1) (.Name (S "i") p2) p3) (.Name (S "i") p4) [] (ks.map fun i : Nat => V.int i) (fun v => some (qv' (r.getD (natOf v) none))) (fun ρ' => ρ' 2 = some (.lst (r.map qv'))) σ := .mk fun cenv hcs okc σ' ρ' v hv hJ zz => by
 have e : cenv.scope.names = [(S ".0", .local), (S "i", .local), (x, .cell)] := by rw [hcs]; simp [relabel, hn, ok.kind, hj.1.1]
 have l1 : LocAt cenv 1 (S "i") .local := LocAt_of e hne rfl (by decide +kernel)
 have l2 : LocAt cenv 2 x .cell := LocAt_of e hne rfl hx
 obtain ⟨i, hi, rfl⟩ := List.mem_map.mp hv
 have hi' := hk i hi
 refine AS_Name okc (.inl l1) ⟨hJ, rfl, TS_nil ⟨rfl, ?_⟩⟩
 have hJ' : upl ρ' 1 (.int i) 2 = some (.lst (r.map qv')) := hJ
 refine EV_Sub (EV_cell okc l2 hJ' (EV_loc okc l1 rfl ?_))
 refine sub_lstN (getD_at hi') (by omega) (fun zz zz zz => rfl) ⟨rfl, ?_⟩
 have e : natOf (V.int (i : Int)) = i := by show (i : Int).toNat = i; omega
 rw [e]
theorem fn_b_var2 (G : Good c) {r s : Row} {b : Bool} {i e args skip : V} (htake : ∀ (Q : V → Sto → Prop) (σ : Sto), Q (.lst [ivec r, ivec s, skip, .none]) σ → FN c 4 (.ref 289) [args, V2] σ Q)
  (hpk : ∀ (Q : V → Sto → Prop) (σ : Sto), Q (.bool b) σ → FN c 3 (.ref 861) [.none, skip] σ Q) (hz : r.length ≤ 6) (he : s.length = r.length) (hb : ∀ o ∈ r, ∀ i, o = some i → i.natAbs ≤ 20) (hb' : ∀ o ∈ s, ∀ i, o = some i → i.natAbs ≤ 20)
  (h : Q (dvec [covV (pick r (kp b r s)) (pick s (kp b r s))]) σ) : FN c 7 (.ref 866) [i, args, e] σ Q := by
 refine go_fd_130 G fun A env room ok hs => ?_
 refine loc_fd_130 G hs fun l0 l1 l2 l3 l4 l5 l6 l7 l8 l9 l10 l11 g1 g2 g3 g4 g5 g6 g7 g8 g9 g10 g11 g12 g13 => ?_
 lk
 refine OPN_at room (htake _ _ ?_)
 lk
 refine OPN_at room (hpk _ _ ?_)
 lk
 refine SX_For (I := fun ls ρ' σ' => σ' = σ ∧ ρ' 3 = some (ivec r) ∧ ρ' 4 = some (ivec s) ∧ ρ' 7 = some (.bool b) ∧ (ls = [ivec r, ivec s] ∨ ls = [ivec s] ∨ ls = [])) room.handled ?_ ?_ ?_
 ·intro K₀ kI
  lk
  refine OPN_at room (fn_needed G rfl ?_)
  lk
  exact ⟨_, .tup _, kI.go _ _ ⟨rfl, rfl, rfl, rfl, .inl rfl⟩⟩
 ·intro v ls ρ' σ' hI K₁ K₂ kN kB
  refine andl5 hI fun hq0 h3 h4 h7 hls => ?_
  clear hI
  obtain rfl := hq0
  rcases hls with e | e | e
  ·cases e
   unfold ivec
   lk
   refine OPN_at room (fn_inherits_int G ?_)
   lk
   refine OPN_at room (fn_dim0 G ?_)
   lk
   exact ⟨rfl, h3, h4, h7, .inr (.inl rfl)⟩
  ·cases e
   unfold ivec
   lk
   refine OPN_at room (fn_inherits_int G ?_)
   lk
   refine OPN_at room (fn_dim0 G ?_)
   lk
   exact ⟨rfl, h3, h4, h7, .inr (.inr rfl)⟩
  ·cases e
 intro ρ' σ' hI
 refine andl5 hI fun hq0 h3 h4 h7 zz => ?_
 clear hI
 obtain rfl := hq0
 unfold ivec at h3 h4
 lk
 refine OPN_at room (fn_number_items G (r := r) rfl (by omega) ?_)
 lk
 refine OPN_at room (fn_number_items G (r := s) rfl (by omega) ?_)
 lk
 refine bi_lenN (.inl rfl) (List.length_map _) (by omega) ?_
 lk
 refine bi_lenN (.inl rfl) (List.length_map _) (by omega) ?_
 lk
 refine ite_dec (fun hx => absurd (by omega) hx) fun zz => ?_
 lk
 have room2 := room
 cases b with
 | false =>
  rw [kp_false, pick_all, ← he, pick_all] at h
  lk
  refine OPN_at room (fn_cov_of G hz he hb hb' ?_)
  lk
  exact mk_vec G room h
 | true =>
  lk
  have hkp : ∀ i ∈ kp true r s, i < r.length := fun i hi => kp_lt hi
  refine SX_Assign_CompF (J := fun ρ' => ρ' 3 = some (.lst (r.map qv')) ∧ ρ' 4 = some (.lst (s.map qv'))) (ρl := [none, none, none, some (.lst (r.map qv')), some (.lst (s.map qv'))])
   (fun v => if ((r.getD (natOf v) none).isSome && (s.getD (natOf v) none).isSome) = true then some v else none) room.handled ok ⟨rfl, by decide +kernel, by decide +kernel⟩ l11 ⟨rfl, rfl, rfl, ⟨9, .inl l9, rfl⟩, ⟨10, .inl l10, rfl⟩, trivial⟩ ⟨rfl, rfl⟩ ?_ rfl rfl
  lk
  refine bi_lenN (.inl rfl) (List.length_map _) (by omega) ?_
  lk
  refine bi_range ?_
  refine ⟨_, its_range (by omega), by rw [up_len]; omega, ⟨?_⟩, ?_⟩
  ·intro cenv hcs okc σ' ρ' v hv hJ _
   have e : cenv.scope.names = [(S ".0", .local), (S "i", .local), (S "lacking_item", .globalImplicit), (S "left", .cell), (S "right", .cell)] := by rw [hcs]; simp [relabel, ok.kind, l9.1.1, l10.1.1]
   have l1 : LocAt cenv 1 (S "i") .local := LocAt_of e (by decide +kernel) rfl (by decide +kernel)
   have l3 : LocAt cenv 3 (S "left") .cell := LocAt_of e (by decide +kernel) rfl (by decide +kernel)
   have l4 : LocAt cenv 4 (S "right") .cell := LocAt_of e (by decide +kernel) rfl (by decide +kernel)
   have g2 : GlobAt c cenv (S "lacking_item") (.val (.ref 778)) := Glob_of e (by decide +kernel) (gv_lacking_item G) (by decide +kernel)
   obtain ⟨k, hk, rfl⟩ := up_mem hv
   obtain ⟨h3, h4⟩ := hJ
   lk
   refine ⟨⟨h3, h4⟩, rfl, TS_one ?_⟩
   lk
   refine sub_lstN (getD_at hk) (by omega) (fun zz zz zz => rfl) ?_
   lk
   refine sub_lstN (getD_at (by omega : k < s.length)) (by omega) (fun zz zz zz => rfl) ?_
   lk
   refine OPN_at room (fn_lacking_item G (r := [r.getD k none, s.getD k none]) rfl ?_)
   have ek : natOf (V.int (k : Int)) = k := by show (k : Int).toNat = k; omega
   rw [ek]
   cases ha : r.getD k none <;> cases hb : s.getD k none
   ·lk
    exact ⟨rfl, rfl⟩
   ·lk
    exact ⟨rfl, rfl⟩
   ·lk
    exact ⟨rfl, rfl⟩
   ·lk
    refine ⟨rfl, ?_⟩
    lk
    exact ⟨rfl, rfl⟩
  rw [show upFrom 0 1 r.length = (List.range r.length).map fun i : Nat => V.int i from up_map _, fm_places r.length fun i => (r.getD i none).isSome && (s.getD i none).isSome]
  rw [show ((List.range r.length).filter fun i => (r.getD i none).isSome && (s.getD i none).isSome) = kp true r s from rfl]
  refine SS_cons (SX_Assign_Name ok (.inr ⟨rfl, l9⟩) (EV_ListCompF (J := fun ρ' => ρ' 2 = some (.lst (r.map qv'))) (ρl := [none, none, some (.lst (r.map qv'))]) (fun v => some (qv' (r.getD (natOf v) none))) room.handled ok ⟨rfl, by decide +kernel, by decide +kernel⟩ ⟨rfl, rfl, ⟨9, .inl l9, rfl⟩, trivial⟩ rfl ?_) (swaps_cell l9))
  lk
  refine ⟨_, .lst _, by rw [List.length_map]; have := kp_len true r s; omega, comp_pick room ok l9 hkp hz rfl (by decide +kernel) (by decide +kernel), ?_⟩
  rw [fm_pick]
  refine SS_cons (SX_Assign_Name ok (.inr ⟨rfl, l10⟩) (EV_ListCompF (J := fun ρ' => ρ' 2 = some (.lst (s.map qv'))) (ρl := [none, none, some (.lst (s.map qv'))]) (fun v => some (qv' (s.getD (natOf v) none))) room.handled ok ⟨rfl, by decide +kernel, by decide +kernel⟩ ⟨rfl, rfl, ⟨10, .inl l10, rfl⟩, trivial⟩ rfl ?_) (swaps_cell l10))
  lk
  refine ⟨_, .lst _, by rw [List.length_map]; have := kp_len true r s; omega, comp_pick room ok l10 (fun i hi => by rw [he]; exact hkp i hi) (by omega) rfl (by decide +kernel) (by decide +kernel), ?_⟩
  rw [fm_pick]
  lk
  have kl := kp_len true r s
  have pl : ∀ u : Row, (pick u (kp true r s)).length = (kp true r s).length := fun u => by unfold pick; rw [List.length_map]
  refine OPN_at room (fn_cov_of G (by rw [pl]; omega) (by rw [pl, pl]) (fun o ho => hb o (pick_mem hkp ho)) (fun o ho => hb' o (pick_mem (fun i hi => by rw [he]; exact hkp i hi) ho)) ?_)
  lk
  exact mk_vec G room h
end
section
section
variable {c : Cx} {A : Around} {env : Env} {own : Bool} {F P : Prt} {X : XP} {ρ : Loc} {σ : Sto}
theorem run_cons {st : Stmt} {rest : List Stmt} {s : Shared} {Q : Flow → Shared → Prop} (N : Loc → Sto → Prop) (R : Rep c env own F P ρ σ s) (h : SX c A env own (fun zz zz => False) (fun zz zz => False) (fun zz zz => False) No N st ρ σ)
  (k : ∀ P₁ ρ' σ' s₁, PLe P P₁ → Rep c env own F P₁ ρ' σ' s₁ → N ρ' σ' → wpAny (MM c) A (execs rest env) Q (PX X F P₁) s₁) : wpAny (MM c) A (execs (st :: rest) env) Q (PX X F P) s := by
 refine wpAny_execs_cons (wpAny_mono (h.run F P s R) ?_ fun zz zz x => (PX.no x).elim)
 rintro f s₁ ⟨P₁, ρ₁, σ₁, le₁, R₁, h₁⟩
 cases f with
 | next => exact wpAny_mono (k P₁ ρ₁ σ₁ s₁ le₁ R₁ h₁) (fun zz zz x => x) fun zz zz x => x.of le₁
 | brk => exact h₁.elim
 | cont => exact h₁.elim
 | ret v => obtain ⟨_, _, q⟩ := h₁; exact q.elim
end
variable {c : Cx} {σ : Sto} {Q : V → Sto → Prop}
end
section
variable {c : Cx} {σ : Sto} {Q : V → Sto → Prop}
theorem fn_b_var1 (G : Good c) {r : Row} {b : Bool} {i e args skip : V} (htake : ∀ (Q : V → Sto → Prop) (σ : Sto), Q (.lst [ivec r, .none, skip, .none]) σ → FN c 4 (.ref 289) [args, V2] σ Q)
  (hpk : ∀ (Q : V → Sto → Prop) (σ : Sto), Q (.bool b) σ → FN c 3 (.ref 861) [.none, skip] σ Q) (hz : r.length ≤ 6) (hb : ∀ o ∈ r, ∀ i, o = some i → i.natAbs ≤ 20)
  (h : Q (dvec [varV (leftR r b)]) σ) : FN c 7 (.ref 866) [i, args, e] σ Q := by
 refine go_fd_130 G fun A env room ok hs => ?_
 refine loc_fd_130 G hs fun l0 l1 l2 l3 l4 l5 l6 l7 l8 l9 l10 l11 g1 g2 g3 g4 g5 g6 g7 g8 g9 g10 g11 g12 g13 => ?_
 lk
 refine OPN_at room (htake _ _ ?_)
 lk
 refine OPN_at room (hpk _ _ ?_)
 lk
 refine SX_For (I := fun ls ρ' σ' => σ' = σ ∧ ρ' 3 = some (ivec r) ∧ ρ' 4 = some .none ∧ ρ' 7 = some (.bool b) ∧ (ls = [ivec r, .none] ∨ ls = [.none] ∨ ls = [])) room.handled ?_ ?_ ?_
 ·intro K₀ kI
  lk
  refine OPN_at room (fn_needed G rfl ?_)
  lk
  exact ⟨_, .tup _, kI.go _ _ ⟨rfl, rfl, rfl, rfl, .inl rfl⟩⟩
 ·intro v ls ρ' σ' hI K₁ K₂ kN kB
  refine andl5 hI fun hq0 h3 h4 h7 hls => ?_
  clear hI
  obtain rfl := hq0
  rcases hls with e | e | e
  ·cases e
   unfold ivec
   lk
   refine OPN_at room (fn_inherits_int G ?_)
   lk
   refine OPN_at room (fn_dim0 G ?_)
   lk
   exact ⟨rfl, h3, h4, h7, .inr (.inl rfl)⟩
  ·cases e
   lk
   exact ⟨rfl, h3, h4, h7, .inr (.inr rfl)⟩
  ·cases e
 intro ρ' σ' hI
 refine andl5 hI fun hq0 h3 h4 h7 zz => ?_
 clear hI
 obtain rfl := hq0
 unfold ivec at h3
 lk
 refine OPN_at room (fn_without_lacking G (r := r) rfl (by omega) ?_)
 lk
 refine OPN_at room (fn_var_of G (r := leftR r b) rfl (Nat.le_trans (leftR_len r b) hz) (fun o ho => hb o (leftR_mem ho)) ?_)
 lk
 exact mk_vec G room h
theorem fnx_130 (G : Good c) {n : Nat} {v0 v1 v2 : V} {msg : Str}
  (hrun : ∀ A env outer F P s, Room n A → A.frames = some (env :: outer) → (∀ v ∈ outer, FrameIn F v) → EnvOk env → env.scope = (fd 130).2.2 → env.frame = some env.locals → Rep c env true F P (fun i => ([v0, v1, v2] : List V)[i]?) σ s →
   wpAny (MM c) A (execs (fd 130).2.1 env) (fun zz zz => False) (PX (Comes c env msg σ) F P) s) : FNX c (n + 1) (.ref 866) [v0, v1, v2] σ msg := by
 refine FNX_intro G (by kernel_rfl : (H1 c.w.params).get? 866 = some (fno "b_var" "b_var" (fd 130) .none (vs "vectorcove.sumcalls" 1229) (.ref 865))) (by kernel_rfl : (H1 c.w.params).get? 865 = some (cdo ((vs "b_var" 1327) :: .str (Str.ofString "b_var") 1328 :: [(vs "/claim/cut.py" 1329), (vi 854 0), (vi 3 0), (vi 0 0), (vi 0 0), (vi 3 0), (vr 862), (.bool true), (vi 181 0), (vr 863), .none, .none, .none, (vr 864), (vi 1330 0), (vi 854 0), (vs "/claim/cut.py" 1331)]))) rfl fi_fd_130 (by kernel_rfl) (by kernel_rfl) (by kernel_rfl) rfl ?_ hrun
 rintro fd o s P xs rfl hd - - r
 cases hd
 exact bind3 (fun zz zz zz => rfl) rfl r
theorem fn_b_var_len (G : Good c) {r s : Row} {b : Bool} {i e args skip : V} (htake : ∀ (Q : V → Sto → Prop) (σ : Sto), Q (.lst [ivec r, ivec s, skip, .none]) σ → FN c 4 (.ref 289) [args, V2] σ Q)
  (hpk : ∀ (Q : V → Sto → Prop) (σ : Sto), Q (.bool b) σ → FN c 3 (.ref 861) [.none, skip] σ Q) (hz : r.length ≤ 6) (hz' : s.length ≤ 6) (he : r.length ≠ s.length) : FNX c 7 (.ref 866) [i, args, e] σ (S "incompatible dimensions") := by
 refine fnx_130 G fun A env outer F P st room hfr hin ok hs hfe R => ?_
 refine loc_fd_130 G hs fun l0 l1 l2 l3 l4 l5 l6 l7 l8 l9 l10 l11 g1 g2 g3 g4 g5 g6 g7 g8 g9 g10 g11 g12 g13 => ?_
 have main : SS c A env true (fun zz zz => False) (fun zz zz => False) (fun zz zz => False) (Comes c env (S "incompatible dimensions") σ) (fun zz zz => False) (fd 130).2.1 (fun j => ([i, args, e] : List V)[j]?) σ := by
  lk
  refine OPN_at room (htake _ _ ?_)
  lk
  refine OPN_at room (hpk _ _ ?_)
  lk
  refine SX_For (I := fun ls ρ' σ' => σ' = σ ∧ ρ' 3 = some (ivec r) ∧ ρ' 4 = some (ivec s) ∧ ρ' 7 = some (.bool b) ∧ (ls = [ivec r, ivec s] ∨ ls = [ivec s] ∨ ls = [])) room.handled ?_ ?_ ?_
  ·intro K₀ kI
   lk
   refine OPN_at room (fn_needed G rfl ?_)
   lk
   exact ⟨_, .tup _, kI.go _ _ ⟨rfl, rfl, rfl, rfl, .inl rfl⟩⟩
  ·intro v ls ρ' σ' hI K₁ K₂ kN kB
   refine andl5 hI fun hq0 h3 h4 h7 hls => ?_
   clear hI
   obtain rfl := hq0
   rcases hls with e | e | e
   ·cases e
    unfold ivec
    lk
    refine OPN_at room (fn_inherits_int G ?_)
    lk
    refine OPN_at room (fn_dim0 G ?_)
    lk
    exact ⟨rfl, h3, h4, h7, .inr (.inl rfl)⟩
   ·cases e
    unfold ivec
    lk
    refine OPN_at room (fn_inherits_int G ?_)
    lk
    refine OPN_at room (fn_dim0 G ?_)
    lk
    exact ⟨rfl, h3, h4, h7, .inr (.inr rfl)⟩
   ·cases e
  intro ρ' σ' hI
  refine andl5 hI fun hq0 h3 h4 h7 zz => ?_
  clear hI
  obtain rfl := hq0
  unfold ivec at h3 h4
  lk
  refine OPN_at room (fn_number_items G (r := r) rfl (by omega) ?_)
  lk
  refine OPN_at room (fn_number_items G (r := s) rfl (by omega) ?_)
  lk
  refine bi_lenN (.inl rfl) (List.length_map _) (by omega) ?_
  lk
  refine bi_lenN (.inl rfl) (List.length_map _) (by omega) ?_
  lk
  refine ite_dec (fun zz => ?_) fun hx => absurd (by omega) hx
  refine SS_cons (SX_Raise G room ok g5 ?_)
  lk
  exact ⟨rfl, rfl⟩
 refine wpAny_mono (main.run F P st R) ?_ fun zz zz x => x
 rintro f s₁ ⟨P₁, ρ₁, σ₁, le₁, R₁, h₁⟩
 cases f with
 | next => exact h₁
 | brk => exact h₁
 | cont => exact h₁
 | ret v => obtain ⟨_, _, q⟩ := h₁; exact q
theorem fn_b_var_sq (G : Good c) {i e : V} : FNX c 7 (.ref 866) [i, .lst [argV (none, sqV)], e] σ (S "the variances of a matrix are not told") := by
 refine fnx_130 G fun A env outer F P st room hfr hin ok hs hfe R => ?_
 refine loc_fd_130 G hs fun l0 l1 l2 l3 l4 l5 l6 l7 l8 l9 l10 l11 g1 g2 g3 g4 g5 g6 g7 g8 g9 g10 g11 g12 g13 => ?_
 refine run_cons (fun ρ' σ' => ρ' 3 = some sqV ∧ ρ' 4 = some .none ∧ ρ' 5 = some .none ∧ ρ' 6 = some .none ∧ σ' = σ) R ?_ ?_
 ·lk
  refine OPN_at room (take_6 G ?_)
  lk
  exact ⟨rfl, rfl, rfl, rfl, rfl⟩
 rintro P₁ ρ₁ σ₁ s₁ le₁ R₁ ⟨h3, h4, h5, h6, rfl⟩
 refine run_cons (fun ρ' σ' => ρ' 3 = some sqV ∧ ρ' 4 = some .none ∧ σ' = σ₁) R₁ ?_ ?_
 ·lk
  refine OPN_at room (fn_pairs_kept0 G ?_)
  lk
  exact ⟨h3, h4, rfl⟩
 rintro P₂ ρ₂ σ₂ s₂ le₂ R₂ ⟨h3, h4, rfl⟩
 refine wpAny_execs_cons (for_raise_run R₂ room.handled hfr hin hfe (by rw [ok.kind]; decide) ?_)
 lk
 refine OPN_at room (fn_needed G rfl ?_)
 lk
 refine ⟨_, _, .tup _, ?_⟩
 lk
 refine OPN_at room (fn_inherits_sq G ?_)
 lk
 refine OPN_at room (fn_dim1 G ?_)
 lk
 refine OPN_at room (fn_dim1 G ?_)
 lk
 refine bi_len (.inl rfl) (by decide) ?_
 lk
 refine SX_Raise G room ok g5 ?_
 lk
 exact ⟨rfl, rfl⟩
end
section
section
variable {c : Cx} {F P : Prt} {σ : Sto}
structure FNS (c : Cx) (n : Nat) (f : Value) (l : List V) (σ : Sto) (Q : V → Sto → Prop) : Prop where
 run : ∀ A outer F P s xs, Room n A → A.frames = some outer → (∀ v ∈ outer, FrameIn F v) → RepC c F P σ s → VRs c.w.params P l xs → codeAny (MM c) A (.call f ⟨xs, []⟩) (PR c F P Q) s
theorem FNS_intro (G : Good c) {n : Nat} {fa ca : Addr} {nm q : String} {d : Arguments × List Stmt × Scope} {dV pm : Value} {x0 : Value} {t : Tok} {cl : List Value} {ks : List Str} {l l' : List V} {Q : V → Sto → Prop}
  (ho : (H1 c.w.params).get? fa = some (fno nm q d dV pm (.ref ca))) (hc : (H1 c.w.params).get? ca = some (cdo (x0 :: .str (Str.ofString q) t :: cl))) (hne : (fa == tabN || ca == tabN) = false)
  (fi : FnIs d.2.2 ks) (hco : d.2.2.isCoroutine = false) (hgen : d.2.2.isGenerator = false) (hk : d.2.2.kind = .function) (hl : ks.length = l'.length)
  (hbind : ∀ fd o s P xs, o = fno nm q d dV pm (.ref ca) → o.data = .func fd → (∀ a o, (H1 c.w.params).get? a = some o → a ≠ tabN → P a o) → (∀ a o, P a o → s.heap.get? a = some o) → VRs c.w.params P l xs → ∃ ys, BindsTo s fd ⟨xs, []⟩ (ks.zip ys) ∧ VRs c.w.params P l' ys)
  (hrun : ∀ A env outer F P s, Room n A → A.frames = some (env :: outer) → (∀ v ∈ outer, FrameIn F v) → EnvOk env → env.scope = d.2.2 → env.frame = some env.locals → Rep c env true F P (fun i => l'[i]?) σ s →
   wpAny (MM c) A (execs d.2.1 env) (fun f s' => match f with | .ret v => PC c F P Q v s' | _ => False) (fun zz zz => False) s) : FNS c (n + 1) (.ref fa) l σ Q := .mk fun A outer F P s xs room hfr hin C rl => by
 have hf : fa ≠ tabN := fun e => by subst e; simp at hne
 have hf' : ca ≠ tabN := fun e => by subst e; simp at hne
 obtain ⟨ys, hbt, ry⟩ := hbind _ _ s P xs rfl rfl (fun a o e n => C.base _ _ (G.g a o e n)) C.sub rl
 refine FN_raw (n := n) C room (o := fno nm q d dV pm (.ref ca)) (G.g _ _ ho hf) rfl ⟨ca, _, _, t, rfl, G.g _ _ hc hf', rfl, rfl⟩ rfl rfl rfl rfl hco hgen hk fi hl hbt ry ?_
 intro env s₁ ok hs hfe keep R₁
 refine codeAny_func ?_
 refine wpAny_mono (hrun (A.deeper env) env outer F P s₁ (room.deeper env) (Around.frames_deeper hfr) hin ok hs hfe R₁) ?_ (fun zz zz x => x.elim)
 intro f s₂ h₂
 cases f with
 | next => exact h₂.elim
 | brk => exact h₂.elim
 | cont => exact h₂.elim
 | ret v => exact h₂
theorem FNX.mono {n m : Nat} {f : Value} {l : List V} {msg : Str} (h : FNX c n f l σ msg) (hn : n ≤ m) : FNX c m f l σ msg := .mk fun A outer F P s xs r => h.run A outer F P s xs (r.mono hn)
structure FN0 (c : Cx) (n : Nat) (f : Value) (l : List V) (σ : Sto) (Q : V → Sto → Prop) : Prop where
 run : ∀ A F P s xs, Room n A → A.frames = some [] → RepC c F P σ s → VRs c.w.params P l xs → codeAny (MM c) A (.call f ⟨xs, []⟩) (PR c F P Q) s
theorem FN0_intro (G : Good c) {n : Nat} {fa ca : Addr} {nm q : String} {d : Arguments × List Stmt × Scope} {dV pm : Value} {x0 : Value} {t : Tok} {cl : List Value} {ks : List Str} {l l' : List V} {Q : V → Sto → Prop}
  (ho : (H1 c.w.params).get? fa = some (fno nm q d dV pm (.ref ca))) (hc : (H1 c.w.params).get? ca = some (cdo (x0 :: .str (Str.ofString q) t :: cl))) (hne : (fa == tabN || ca == tabN) = false)
  (fi : FnIs d.2.2 ks) (hco : d.2.2.isCoroutine = false) (hgen : d.2.2.isGenerator = false) (hk : d.2.2.kind = .function) (hl : ks.length = l'.length)
  (hbind : ∀ fd o s P xs, o = fno nm q d dV pm (.ref ca) → o.data = .func fd → (∀ a o, (H1 c.w.params).get? a = some o → a ≠ tabN → P a o) → (∀ a o, P a o → s.heap.get? a = some o) → VRs c.w.params P l xs → ∃ ys, BindsTo s fd ⟨xs, []⟩ (ks.zip ys) ∧ VRs c.w.params P l' ys)
  (hrun : ∀ A env, Room n A → A.frames = some [env] → EnvOk env → env.scope = d.2.2 → env.frame = some env.locals → SS c A env true (fun zz zz => False) (fun zz zz => False) Q No (fun zz σ' => Q .none σ') d.2.1 (fun i => l'[i]?) σ) : FN0 c (n + 1) (.ref fa) l σ Q := .mk fun A F P s xs room hfr C rl => by
 have hf : fa ≠ tabN := fun e => by subst e; simp at hne
 have hf' : ca ≠ tabN := fun e => by subst e; simp at hne
 obtain ⟨ys, hbt, ry⟩ := hbind _ _ s P xs rfl rfl (fun a o e n => C.base _ _ (G.g a o e n)) C.sub rl
 refine FN_raw (n := n) C room (o := fno nm q d dV pm (.ref ca)) (G.g _ _ ho hf) rfl ⟨ca, _, _, t, rfl, G.g _ _ hc hf', rfl, rfl⟩ rfl rfl rfl rfl hco hgen hk fi hl hbt ry ?_
 intro env s₁ ok hs hfe keep R₁
 refine codeAny_func ?_
 refine wpAny_mono ((hrun (A.deeper env) env (room.deeper env) (Around.frames_deeper hfr) ok hs hfe).run F P s₁ R₁) ?_ (fun zz zz x => (PX.no x).elim)
 rintro f s₂ ⟨P₂, ρ₂, σ₂, le₂, R₂, q⟩
 cases f with
 | next => exact ⟨P₂, .none, σ₂, le₂, R₂.toC, rfl, q⟩
 | brk => exact q.elim
 | cont => exact q.elim
 | ret v => obtain ⟨V, rv, q⟩ := q; exact ⟨P₂, V, σ₂, le₂, R₂.toC, rv, q⟩
theorem OPN_fns {A : Around} {env : Env} {own : Bool} {X : XP} {ρ : Loc} {n m : Nat} {f : Value} {l : List V} {Q : V → Sto → Prop} (hfr : A.frames = some [env]) (ok : EnvOk env) (hfe : env.frame = some env.locals) (room : Room m A) (h : FNS c n f l σ Q) (hn : autoParam (n ≤ m) aLe) :
  OPN c A env own X ρ Q (call f ·) l σ := .mk fun F P s xs R rl => by
 obtain ⟨m', ⟨lo, les, ln, hlo, hld, _⟩, _⟩ := R.toL.ns
 refine wpAny_call (codeAny_mono (h.run A _ _ P s xs (room.mono hn) hfr (fun v hv => ?_) R.enter rl) ?_)
 ·cases List.mem_singleton.mp hv
  exact ⟨by rw [ok.kind]; decide, _, lo, les, ln, hfe, .inr ⟨hlo, .inl rfl⟩, hld⟩
 ·intro r s₁ hr
  obtain ⟨v, rfl, P₁, V, σ₁, le, C, rv, q⟩ := hr.ok
  exact ⟨P₁, V, σ₁, le, R.back C le, rv, q⟩
theorem glob_raw {A : Around} {env : Env} {E : Value → Shared → Prop} {s : Shared} {x : Str} {pos : Pos} {v : V} {Q : Value → Shared → Prop} (R : RepC c F P σ s) (ok : EnvOk env) (hx : GlobAt c env x v)
  (h : ∀ y, VR c.w.params P v y → Q y s) : wpAny (MM c) A (eval (.Name x pos) env) Q E s := by
 obtain ⟨⟨h1, h2⟩, y, h3, h4⟩ := hx
 have r := h4 P R.base
 have kept : ∀ b o, c.g.get? b = some o → s.heap.get? b = some o := fun b o e => R.sub b o (R.base b o e)
 refine Name_function_global ok.kind h1 ?_ h2
 rcases h3 with h3 | ⟨h3, h5⟩
 ·exact loadGlobal_global (by rw [ok.globals]; exact c.hg.keeps kept) h3 (h y r)
 ·exact loadGlobal_builtin (by rw [ok.globals]; exact c.hg.keeps kept) h3 (by rw [ok.builtins]; exact c.hb.keeps kept) h5 (h y r)
theorem SX_Try {A : Around} {env : Env} {own : Bool} {ρ : Loc} {body : List Stmt} {h₀ : ExceptHandler} {hs : List ExceptHandler} {pos : Pos} {N B C : Loc → Sto → Prop} {T : V → Sto → Prop} {X : XP}
  (h : SS c A env own B C T No N body ρ σ) : SX c A env own B C T X N (.Try body (h₀ :: hs) [] [] pos) ρ σ := .mk fun F P s R => by
 refine wpAny_Try_except (wpAny_mono (h.run F P s R) ?_ fun zz zz x => (PX.no x).elim)
 intro f s₁ h₁
 cases f with
 | next => exact wpAny_execs_nil h₁
 | brk => exact h₁
 | cont => exact h₁
 | ret v => exact h₁
theorem test_ok (G : Good c) {A : Around} {env : Env} {s : Shared} {a : Addr} {msg : Str} {tr : Bool} {p5 p9 : Pos} {R : Result → Shared → Prop} (C : RepC c F P σ s) (ok : EnvOk env) (g : GlobAt c env (S "Refusal") (.val (.ref 117))) (Ex : ExcS c F P σ s.heap a msg tr) (h : R (.ok .brk) s) :
  codeAny (MM c) A (.handlers (.ref a) [.ExceptHandler (some (.Name (S "Refusal") p5)) none [] p9] env) R s := by
 refine codeAny_handlers_test ?_
 refine glob_raw C ok g fun y ry => ?_
 cases ry
 obtain ⟨hp, gg, d, tk, os⟩ := s
 obtain ⟨out, oe, vs, D, m, t, t', he, hc, hdi, hd, hsz, pD, hT⟩ := Ex
 exact wpAny_excMatches_sub_self (C.sub _ _ (C.base _ _ (refusal_at G))) he hc (by decide) h
theorem suite_ok (G : Good c) {A : Around} {env : Env} {ρ : Loc} {s₂ s : Shared} {P₃ : Prt} {a : Addr} {msg : Str} {tr : Bool} {p6 p7 p8 p9 : Pos} {R : Result → Shared → Prop} (R₂ : Rep c env true F P ρ σ s₂) (C : RepC c (FF F env true s₂.heap) P₃ σ s) (le : PLe P P₃) (ok : EnvOk env) (l2 : LocAt env 2 (S "error") .local)
  (Ex : ExcS c (FF F env true s₂.heap) P₃ σ s.heap a msg tr)
  (he2 : eval (.Attribute (.Name (S "error") p6) (S "message") p7) env = (do
   let x ← eval (.Name (S "error") p6) env
   standAt p7.atName
   let r ← holding [x] (getAttr x (S "message") true)
   letTemporaryGo (.Name (S "error") p6) x r
   pure r))
  (h : ∀ s' v, Rep c env true F P₃ (upl ρ 2 (.val (.ref a))) σ s' → VR c.w.params P₃ (.str msg) v → R (.ok (.ret v)) s') :
  codeAny (MM c) A (.handlers (.ref a) [.ExceptHandler none (some (S "error")) [.Return (some (.Attribute (.Name (S "error") p6) (S "message") p7)) p8] p9] env) R s := by
 refine codeAny_handlers_suite_as (flight_run C Ex fun h₆ C₆ E₆ => ?_)
 obtain ⟨out, oe, vs, D, m, t, t', he, hc, hdi, hd, hsz, pD, hT⟩ := E₆
 have R₆ := R₂.back C₆ le
 obtain ⟨m₆, hn₆, hs₆⟩ := R₆.toL.ns
 have hae : a ≠ env.locals := fun q => by
  obtain ⟨lo, les, ln, hlo, hld⟩ : ∃ lo es n, s₂.heap.get? env.locals = some lo ∧ lo.data = .dict es n := R₂.toL.ns.elim fun m h => let ⟨o, es, ep, ho, hd, _⟩ := h.1; ⟨o, es, ep, ho, hd⟩
  exact out.2.2.1 lo (q ▸ .inr ⟨hlo, .inl rfl⟩)
 refine wpAny_storeName_local l2.1.1 hn₆ (fun h₇ hn₇ hsb₇ => ?_) (by rw [ok.kind]; rfl)
 have R₇ := R₆.setL (t := s.toks + 1) (v := .val (.ref a)) (y := .ref a) l2 rfl hs₆ hn₇ hsb₇
 have he₇ : h₇.get? a = some oe := (hsb₇.2 _ hae).trans he
 refine wpAny_execs_cons (wpAny_Return_some (@Attribute_any_ _ _ _ _ _ _ _ _ _ _ (name_raw R₇ ok l2 (if_pos rfl) fun y ry => ?_) he2))
 cases ry
 have hK := kf117 c.w.params
 simp only [Bool.and_eq_true, beq_iff_eq] at hK
 obtain ⟨⟨⟨⟨⟨⟨⟨⟨⟨k1, k2⟩, k3⟩, k4⟩, k5⟩, k6⟩, k7⟩, k8⟩, k9⟩, k10⟩ := hK
 rw [← G.K] at k1 k4 k5 k6 k7
 have I : PySem.W.InstAt h₇ a oe 117 (some (dictOf [⟨PyData.keyHash c.w.params (S "message"), .str (S "message") t', .str msg t⟩] m)) := by
  refine ⟨he₇, hc, ?_, ?_⟩
  ·unfold PySem.W.notCls; rw [hd]
  ·rw [hdi]; exact R₇.toC.sub _ _ pD
 have lk : lookIn (S "message") (dictOf [⟨PyData.keyHash c.w.params (S "message"), .str (S "message") t', .str msg t⟩] m) = some (some (.str msg t)) := by
  unfold lookIn dictOf
  rfl
 refine exc_get_attr R₇.K I k4 k5 k6 (findObj_own k1 k7 (v := .str msg t) lk) rfl fun tk => ?_
 exact h _ _ (R₇.toks tk) ⟨_, rfl⟩
theorem error_goes {A : Around} {env : Env} {ρ : Loc} {s : Shared} {pos : Pos} {Q : Unit → Shared → Prop} {E : Value → Shared → Prop} (R : Rep c env true F P ρ σ s) (ok : EnvOk env) (l2 : LocAt env 2 (S "error") .local) (h : ∀ s', RepC c F P σ s' → Q () s') :
  wpAny (MM c) A (do bindName env (S "error") .none; unbindBehindTheSuite env (S "error") pos) Q E s := by
 obtain ⟨m, hn, hs⟩ := R.toL.ns
 exact wpAny_nameGoes_keeps l2.1.1 hn (by rw [ok.kind]; rfl) fun h' v hn' hsb => h _ (R.toC.outside hsb R.toL.offP R.toL.offF R.toL.offσ R.toL.offT)
theorem call_raises {Q : Value → Shared → Prop} {E : Value → Shared → Prop} {n : Nat} {A : Around} {env : Env} {outer : List Env} {ρ : Loc} {s : Shared} {fa : Addr} {es : List Expr} {args : List V} {msg : Str} {x : Str} {p1 p2 : Pos} (room : Room n A) (hfr : A.frames = some (env :: outer)) (hin : ∀ v ∈ outer, FrameIn F v) (ok : EnvOk env) (hfe : env.frame = some env.locals)
  (R : Rep c env true F P ρ σ s) (l0 : LocAt env 0 x .local) (h0 : ρ 0 = some (.val (.ref fa))) (hes : ES c A env true No ρ es (fun l σ₁ => l = args ∧ σ₁ = σ) σ) (hcal : CalleeOk c (.ref fa)) (hx : FNX c n (.ref fa) args σ msg) (hp : (backTo p2 (starEach es env)).any (·.1) = false)
  (h : ∀ P₂ s₂ P₃ a s₃, PLe P P₂ → Rep c env true F P₂ ρ σ s₂ → (∀ v ∈ env :: outer, FrameIn (FF F env true s₂.heap) v) → PLe P₂ P₃ → RepC c (FF F env true s₂.heap) P₃ σ s₃ → ExcS c (FF F env true s₂.heap) P₃ σ s₃.heap a msg true → E (.ref a) s₃) :
  wpAny (MM c) A (eval (.Call (.Name x p1) es [] p2) env) Q E s := by
 refine wpAny_Call_ofName (wpAny_mono ((EV_loc (X := No) (Q := fun v σ' => v = .val (.ref fa) ∧ σ' = σ) ok l0 h0 ⟨rfl, rfl⟩).run F P s R) (fun f s₁ h₁ => ?_) fun zz zz x => (PX.no x).elim)
 obtain ⟨P₁, V, σ₁, le₁, R₁, rv, rfl, rfl⟩ := h₁
 cases rv
 refine callWith_of (P := fun h => ∀ b o, c.g.get? b = some o → h.get? b = some o) (by rw [hp]; rfl) (fun h k => hcal h k) ?_
 refine evalArgs_of hp (wpAny_mono (hes.run p2 F P₁ s₁ R₁) ?_ fun zz zz x => (PX.no x).elim)
 rintro xs s₂ ⟨P₂, l, σ₂, le₂, R₂, rl, rfl, rfl⟩
 refine ⟨R₂.kept, ?_⟩
 show wpAny (MM c) A (call (.ref fa) xs) _ _ _
 obtain ⟨m', ⟨lo, les, ln, hlo, hld, _⟩, _⟩ := R₂.toL.ns
 have hlF : FF F env true s₂.heap env.locals lo := .inr ⟨hlo, .inl rfl⟩
 have leF : PLe F (FF F env true s₂.heap) := fun a o p => .inl p
 have hin' : ∀ v ∈ env :: outer, FrameIn (FF F env true s₂.heap) v := fun v hv => by
  rcases List.mem_cons.mp hv with rfl | hv
  ·exact ⟨by rw [ok.kind]; decide, _, lo, les, ln, hfe, hlF, hld⟩
  ·exact (hin v hv).mono leF
 refine wpAny_call (codeAny_mono (hx.run A _ _ P₂ s₂ xs room hfr hin' R₂.enter rl) ?_)
 intro r s₃ hr
 obtain ⟨P₃, a, rfl, le₃, C₃, Ex₃⟩ := hr
 exact h P₂ s₂ P₃ a s₃ (le₁.trans le₂) R₂ hin' le₃ C₃ Ex₃
theorem told_run (G : Good c) {Q : Flow → Shared → Prop} {E : Value → Shared → Prop} {n : Nat} {A : Around} {env : Env} {outer : List Env} {ρ : Loc} {s : Shared} {fa : Addr} {es : List Expr} {args : List V} {msg it : Str} {x : Str} {p1 p2 p3 p4 p5 p6 p7 p8 p9 p10 : Pos} (room : Room n A) (hfr : A.frames = some (env :: outer)) (hin : ∀ v ∈ outer, FrameIn F v) (ok : EnvOk env) (hfe : env.frame = some env.locals)
  (R : Rep c env true F P ρ σ s) (l0 : LocAt env 0 x .local) (l2 : LocAt env 2 (S "error") .local) (g : GlobAt c env (S "Refusal") (.val (.ref 117))) (h0 : ρ 0 = some (.val (.ref fa))) (hes : ES c A env true No ρ es (fun l σ₁ => l = args ∧ σ₁ = σ) σ)
  (hcal : CalleeOk c (.ref fa)) (hx : FNX c n (.ref fa) args σ msg)
  (hp : (backTo p2 (starEach es env)).any (·.1) = false) (hQ : ∀ P' v s', PLe P P' → RepC c F P' σ s' → VR c.w.params P' (.str msg) v → Q (.ret v) s')
  (he1 : eval (.Attribute (.Call (.Name x p1) es [] p2) it p3) env = (do
   let y ← eval (.Call (.Name x p1) es [] p2) env
   standAt p3.atName
   let r ← holding [y] (getAttr y it true)
   letTemporaryGo (.Call (.Name x p1) es [] p2) y r
   pure r))
  (he2 : eval (.Attribute (.Name (S "error") p6) (S "message") p7) env = (do
   let x ← eval (.Name (S "error") p6) env
   standAt p7.atName
   let r ← holding [x] (getAttr x (S "message") true)
   letTemporaryGo (.Name (S "error") p6) x r
   pure r)) :
  wpAny (MM c) A (execs [.Try [.Return (some (.Attribute (.Call (.Name x p1) es [] p2) it p3)) p4] [.ExceptHandler (some (.Name (S "Refusal") p5)) (some (S "error")) [.Return (some (.Attribute (.Name (S "error") p6) (S "message") p7)) p8] p9] [] [] p10] env)
   Q E s := by
 refine wpAny_execs_cons (wpAny_Try_except (wpAny_execs_cons (wpAny_Return_some (@Attribute_any_ _ _ _ _ _ _ _ _ _ _ (call_raises room hfr hin ok hfe R l0 h0 hes hcal hx hp fun P₂ s₂ P₃ a s₃ le₂ R₂ hin' le₃ C₃ Ex₃ => ?_) he1))))
 refine note_run C₃ Ex₃ hfr hin' hfe fun h₄ C₄ E₄ => ?_
 refine flight_run (s := { s₃ with heap := h₄ }) C₄ E₄ fun h₅ C₅ E₅ => ?_
 refine wpAny_handleBy_cons (test_ok G C₅ ok g E₅ ?_) (by intro q; cases q)
 refine suite_ok G (s := { s₃ with heap := h₅ }) R₂ C₅ le₃ ok l2 E₅ he2 fun s' v R₇ rv => ?_
 exact error_goes R₇ ok l2 fun s₉ C₉ => hQ P₃ _ _ (le₂.trans le₃) C₉ rv
end
end
section
variable {c : Cx} {σ : Sto} {Q : V → Sto → Prop}
theorem fn_told (G : Good c) {fa : Addr} {args : V} {l : List V} (hcal : fnAddrs.contains fa = true) (hf : ∀ (Q : V → Sto → Prop) (σ : Sto), (∀ k : Str, Q (vec (.str k) (.lst l) .none) σ) → FN c 8 (.ref fa) [.none, args, .none] σ Q) (h : Q (.lst l) σ) : FN c 9 (.ref 915) [.val (.ref fa), args] σ Q := by
 refine go_fd_138 G fun A env room ok hs => ?_
 refine loc_fd_138 G hs fun l0 l1 l2 g1 => ?_
 refine SS_cons (SX_Try ?_)
 lk
 refine ⟨_, rfl, callee_num G hcal, ?_⟩
 lk
 refine OPN_at room (hf _ _ fun k => ?_)
 lk
 exact h
theorem fn_told_exc (G : Good c) {fa : Addr} {args : V} {msg : Str} (hcal : fnAddrs.contains fa = true) (hf : FNX c 8 (.ref fa) [.none, args, .none] σ msg) (h : Q (.str msg) σ) : FNS c 9 (.ref 915) [.val (.ref fa), args] σ Q := by
 refine FNS_intro G (by kernel_rfl : (H1 c.w.params).get? 915 = some (fno "_law_told" "_law_told" (fd 138) .none (vs "law_pq1418_01" 1333) (.ref 914))) (by kernel_rfl : (H1 c.w.params).get? 914 = some (cdo ((vs "_law_told" 1397) :: .str (Str.ofString "_law_told") 1398 :: [(vs "/claim/cut.py" 1399), (vi 917 0), (vi 2 0), (vi 0 0), (vi 0 0), (vi 3 0), (vr 909), (.bool true), (vi 181 0), (vr 910), .none, (vr 911), (vr 912), (vr 913), (vi 1403 0), (vi 917 0), (vs "/claim/cut.py" 1404)]))) rfl fi_fd_138 (by kernel_rfl) (by kernel_rfl) (by kernel_rfl) rfl (l' := [.val (.ref fa), args]) ?_ ?_
 ·rintro fd o s P xs rfl hd - - r
  cases hd
  exact bind2 (fun zz zz => rfl) rfl r
 intro A env outer F P s room hfr hin ok hs hfe R
 refine loc_fd_138 G hs fun l0 l1 l2 g1 => ?_
 refine told_run (args := [.none, args, .none]) G room hfr hin ok hfe R l0 l2 g1 rfl ?_ (callee_num G hcal) hf rfl (fun P' v s' le C rv => ⟨P', _, _, le, C, rv, h⟩) (by with_unfolding_all rfl) (by with_unfolding_all rfl)
 lk
 exact ⟨rfl, rfl⟩
end
section
noncomputable def DOk (n : Nat) (v : V) : Prop := ∃ d, dat v = some d ∧ d.canLay0 = true ∧ d.depth ≤ n
theorem DOk.fr {a b : Int} : DOk 1 (fr a b) := ⟨_, rfl, rfl, Nat.le_refl _⟩
theorem DOk.none : DOk 1 .none := ⟨_, rfl, rfl, Nat.zero_le _⟩
theorem DOk.int {a : Int} : DOk 1 (.int a) := ⟨_, rfl, rfl, Nat.zero_le _⟩
theorem DOk.pair {a b : Int} : DOk 1 (.tup [.int a, .int b]) := ⟨_, rfl, rfl, Nat.le_refl _⟩
theorem DOk.lst1 {v : V} (h : DOk 1 v) : DOk 2 (.lst [v]) := by
 obtain ⟨d, h1, h2, h3⟩ := h
 refine ⟨.list [d], ?_, ?_, ?_⟩
 ·unfold dat dats; rw [h1]; rfl
 ·show PyData.canLayAll0 [d] = true
  unfold PyData.canLayAll0
  rw [h2]; rfl
 ·show PyData.depthAll [d] + 1 ≤ 2
  unfold PyData.depthAll PyData.depthAll
  omega
theorem DOk.lst2 {v w : V} (h : DOk 1 v) (h' : DOk 1 w) : DOk 2 (.lst [v, w]) := by
 obtain ⟨d, h1, h2, h3⟩ := h
 obtain ⟨e, k1, k2, k3⟩ := h'
 refine ⟨.list [d, e], ?_, ?_, ?_⟩
 ·unfold dat dats dats; rw [h1, k1]; rfl
 ·show PyData.canLayAll0 [d, e] = true
  unfold PyData.canLayAll0 PyData.canLayAll0
  rw [h2, k2]; rfl
 ·show PyData.depthAll [d, e] + 1 ≤ 2
  unfold PyData.depthAll PyData.depthAll PyData.depthAll
  omega
theorem DOk.row (r : Row) : DOk 1 (.lst (r.map ov)) := ⟨.list (r.map od), by unfold dat; rw [dats_row r]; rfl, can_row r, by show PyData.depthAll (r.map od) + 1 ≤ 1; rw [depth_row]; exact Nat.le_refl _⟩
theorem dok_meanI (l : List Int) : DOk 1 (meanI l) := by
 unfold meanI
 split
 ·exact .pair
 ·exact .fr
theorem dok_midV (r : Row) (t : Nat) : DOk 1 (midV r t) := by
 unfold midV
 split
 ·exact .none
 ·exact dok_meanI _
theorem dok_medI (r : Row) : DOk 1 (medI r) := by
 unfold medI
 split
 ·exact .none
 ·dsimp only
  split
  ·exact dok_meanI _
  ·exact .int
theorem dok_varV (r : Row) : DOk 1 (varV r) := by
 unfold varV
 split
 ·exact .none
 ·split
  ·exact .none
  ·exact .fr
theorem cov_self (r : Row) : covV r r = varV r := by
 unfold covV varV
 simp only [or_self]
 split
 ·rfl
 ·split
  ·rfl
  ·rw [show (r.filterMap id).zip (r.filterMap id) = (r.filterMap id).map fun x => (x, x) from ?_]
   generalize r.filterMap id = l
   induction l with
   | nil => rfl
   | cons x l ih => rw [List.zip_cons_cons, List.map_cons, ih]
theorem dok_covV (r s : Row) : DOk 1 (covV r s) := by
 unfold covV
 split
 ·exact .none
 ·split
  ·exact .none
  ·exact .fr
section
variable {c : Cx} {A : Around} {env : Env} {own : Bool} {X : XP} {ρ : Loc} {σ : Sto} {Q : V → Sto → Prop}
theorem ne_ok {n m : Nat} {v : V} (room : Room n A) (h : DOk m v) (hm : m ≤ 6) (q : Q (.bool false) σ) : OP2 c A env own X ρ Q (compareOp .NotEq) v v σ := let ⟨d, h1, h2, h3⟩ := h; ne_same room h1 h2 (Nat.le_trans h3 hm) q
theorem eq_ok {n m : Nat} {v : V} (room : Room n A) (h : DOk m v) (hm : m ≤ 6) (q : Q (.bool true) σ) : OP2 c A env own X ρ Q (compareOp .Eq) v v σ := let ⟨d, h1, h2, h3⟩ := h; eq_same room h1 h2 (Nat.le_trans h3 hm) q
end
theorem srt_len (xs : List Int) : (srt xs).length = xs.length := by unfold srt; exact List.length_mergeSort xs
theorem mid_odd {xs : List Int} (h : xs.length % 2 = 1) : midV (xs.map some) 5 = .tup [.int ((srt xs).getD (xs.length / 2) 0), .int 1] := by
 unfold midV
 rw [if_neg (by simp), fm_some]
 unfold midL awayN
 rw [if_pos (Nat.le_refl _)]
 have hl := srt_len xs
 have hlt : xs.length / 2 < (srt xs).length := by omega
 have e : cut (srt xs) ((xs.length - 1) / 2) = [(srt xs).getD (xs.length / 2) 0] := by
  have h1 : (xs.length - 1) / 2 = xs.length / 2 := by omega
  have h2 : (srt xs).length - xs.length / 2 - xs.length / 2 = 1 := by omega
  unfold cut
  rw [h1, List.drop_take, h2, List.drop_eq_getElem_cons hlt, List.take_succ_cons, List.take_zero, List.getD_eq_getElem?_getD, List.getElem?_eq_getElem hlt]; rfl
 rw [e]
 unfold meanI
 rw [if_neg (by simp)]
 simp only [List.sum_cons, List.sum_nil, List.length_cons, List.length_nil]
 rw [show (((0 + 1 : Nat) : Int)) = 1 by rfl, Int.add_zero, fr_one]
theorem med_odd {xs : List Int} (h : xs.length % 2 = 1) : medI (xs.map some) = .int ((srt xs).getD (xs.length / 2) 0) := by
 unfold medI
 have hne : ¬ (xs.map some = [] ∨ none ∈ xs.map some) := by
  rintro (q | q)
  ·have : xs = [] := List.map_eq_nil_iff.mp q
   subst this; simp at h
  ·simp at q
 rw [if_neg hne, fm_some]
 dsimp only
 rw [if_neg (by omega)]
theorem med_even {xs : List Int} (hne : xs ≠ []) (h : xs.length % 2 = 0) : medI (xs.map some) = midV (xs.map some) 5 := by
 unfold medI midV
 have hne : ¬ (xs.map some = [] ∨ none ∈ xs.map some) := by
  rintro (q | q)
  ·exact hne (List.map_eq_nil_iff.mp q)
  ·simp at q
 rw [if_neg hne, fm_some]
 dsimp only
 rw [if_pos h, if_neg (by simp)]
 unfold midL awayN
 rw [if_pos (Nat.le_refl _)]
theorem med_none {r : Row} (h : r = [] ∨ none ∈ r) : medI r = .none := by
 unfold medI
 rw [if_pos h]
theorem row_somes {r : Row} (h : none ∉ r) : r = (r.filterMap id).map some := by
 induction r with
 | nil => rfl
 | cons o r ih =>
  cases o with
  | none => exact absurd List.mem_cons_self h
  | some i =>
   rw [List.filterMap_cons]
   show _ = (i :: r.filterMap id).map some
   rw [List.map_cons, ← ih fun q => h (List.mem_cons_of_mem _ q)]
theorem cmp_max {l : List Int} {m m' : Int} (h : m ∈ l) (h2 : ∀ x ∈ l, x ≤ m) (h' : m' ∈ l) (h3 : ∀ x ∈ l, cmp x m' ≠ 1) : m = m' := by
 have a := h2 _ h'
 have b := h3 _ h
 unfold cmp at b
 by_cases e : m = m'
 ·exact e
 ·rw [if_neg e, if_neg (by omega)] at b
  exact absurd rfl b
theorem cmp_min {l : List Int} {m m' : Int} (h : m ∈ l) (h2 : ∀ x ∈ l, m ≤ x) (h' : m' ∈ l) (h3 : ∀ x ∈ l, cmp x m' ≠ -1) : m = m' := by
 have a := h2 _ h'
 have b := h3 _ h
 unfold cmp at b
 by_cases e : m = m'
 ·exact e
 ·rw [if_neg e, if_pos (by omega)] at b
  exact absurd rfl b
theorem var_13 : varV [some 1, some 3] = .tup [.int 2, .int 1] := by
 unfold varV
 rw [if_neg (by decide), if_neg (by decide)]
 show fr 8 4 = _
 unfold fr red
 rw [show Int.gcd 8 4 = 4 by decide]
 rfl
theorem GR.le20 {r : Row} (h : GR r) : ∀ o ∈ r, ∀ i, o = some i → i.natAbs ≤ 20 := fun o ho i e => by
 have := h.r o ho i e
 omega
theorem tw_le {r : Row} (h : GR r) : ∀ x ∈ tw r, x.natAbs ≤ 1000 := fun x hx => by
 unfold tw at hx
 rcases List.mem_append.mp hx with hx | hx
 ·obtain ⟨y, hy, rfl⟩ := List.mem_map.mp hx
  obtain ⟨o, ho, e⟩ := List.mem_filterMap.mp hy
  have := h.r o ho y e
  omega
 ·have := List.mem_singleton.mp hx
  omega
end
section
section
variable {c : Cx} {A : Around} {env : Env} {own : Bool} {X : XP} {ρ : Loc} {σ : Sto} {N B C : Loc → Sto → Prop} {T : V → Sto → Prop}
theorem SS_freezeI {st : List Stmt} {i : Nat} {x d C' : Addr} {ks : List Str} {vs : List V} {σ' : Sto} (hi : ρ i = some (.ref x)) (hne : x ≠ d) (hx : σ x = some (.inst C' d)) (hd : σ d = some (.dict ks vs)) (le : SLe σ' σ) (nx : σ' x = none) (nd : σ' d = none)
  (h : SS c A env own B C T X N st (upl ρ i (.ins C' ks vs)) σ') : SS c A env own B C T X N st ρ σ := .mk fun F P s R => by
 have le' : SLe (fun a => if a = x then none else σ a) σ := fun a y e => by
  by_cases ha : a = x
  ·simp [ha] at e
  ·simpa [ha] using e
 obtain ⟨o, ho, R₂⟩ := R.freeze hx le' (by simp)
 have ho' : o = instObj C' d := ho
 subst ho'
 have le'' : SLe σ' (fun a => if a = x then none else σ a) := fun a y e => by
  have : a ≠ x := fun q => by rw [q, nx] at e; cases e
  simpa [this] using le a y e
 obtain ⟨od, hod, R₃⟩ := R₂.freeze (a := d) (x := .dict ks vs) (by simp [Ne.symm hne, hd]) le'' nd
 obtain ⟨es, n, rfl, k, r'⟩ := hod
 have R₄ := R.reL R₃ hi (v := .ins C' ks vs) (fun z e => by cases e; exact ⟨x, d, es, n, rfl, .inl (addP_self _ _ _), addP_self _ _ _, k, r'.mono (addP_le _ _ _)⟩)
 exact wpAny_mono (h.run F _ s R₄) (fun zz zz x => x.of ((addP_le _ _ _).trans (addP_le _ _ _))) fun zz zz x => x.of ((addP_le _ _ _).trans (addP_le _ _ _))
end
structure L4 (r s : Row) (ρ : Loc) : Prop where
 h2 : ρ 2 = some (.lst (r.map ov))
 h3 : ρ 3 = some (.lst (s.map ov))
 h6 : ρ 6 = some (ivec r)
 h7 : ρ 7 = some (ivec s)
structure LS (r s : Row) (b : Bool) (ρ : Loc) : Prop where
 h2 : ρ 2 = some (.lst (r.map ov))
 h3 : ρ 3 = some (.lst (s.map ov))
 h6 : ρ 6 = some (ivec r)
 h7 : ρ 7 = some (ivec s)
 h5 : ρ 5 = some (.bool b)
 h8 : ρ 8 = some (.lst ((leftR r b).map ov))
noncomputable def LT : V → Sto → Prop := fun v zz => v = .bool true
noncomputable def LN : Loc → Sto → Prop := fun zz zz => (V.none : V) = .bool true
theorem has_min : ∀ {l : List Int}, l ≠ [] → ∃ m ∈ l, ∀ x ∈ l, m ≤ x
 | [x], _ => ⟨x, List.mem_cons_self, fun y hy => by cases List.mem_singleton.mp hy; exact Int.le_refl _⟩
 | x :: y :: l, _ => by
  obtain ⟨m, h1, h2⟩ := has_min (l := y :: l) (by simp)
  by_cases h : x ≤ m
  ·exact ⟨x, List.mem_cons_self, fun z hz => by
    rcases List.mem_cons.mp hz with rfl | hz
    ·exact Int.le_refl _
    ·exact Int.le_trans h (h2 z hz)⟩
  ·exact ⟨m, List.mem_cons_of_mem _ h1, fun z hz => by
    rcases List.mem_cons.mp hz with rfl | hz
    ·omega
    ·exact h2 z hz⟩
theorem has_max : ∀ {l : List Int}, l ≠ [] → ∃ m ∈ l, ∀ x ∈ l, x ≤ m
 | [x], _ => ⟨x, List.mem_cons_self, fun y hy => by cases List.mem_singleton.mp hy; exact Int.le_refl _⟩
 | x :: y :: l, _ => by
  obtain ⟨m, h1, h2⟩ := has_max (l := y :: l) (by simp)
  by_cases h : m ≤ x
  ·exact ⟨x, List.mem_cons_self, fun z hz => by
    rcases List.mem_cons.mp hz with rfl | hz
    ·exact Int.le_refl _
    ·exact Int.le_trans (h2 z hz) h⟩
  ·exact ⟨m, List.mem_cons_of_mem _ h1, fun z hz => by
    rcases List.mem_cons.mp hz with rfl | hz
    ·omega
    ·exact h2 z hz⟩
noncomputable def twoG : V → Option V
 | .int i => some (.int (2 * i))
 | _ => none
theorem tw_vs (r : Row) : (r.map ov).filterMap twoG ++ [.int 7] = (tw r).map V.int := by
 unfold tw
 rw [List.map_append]
 congr 1
 induction r with
 | nil => rfl
 | cons o r ih =>
  cases o with
  | none => exact ih
  | some i =>
   show V.int (2 * i) :: _ = V.int (2 * i) :: _
   rw [ih]
variable {c : Cx} {σ : Sto} {Q : V → Sto → Prop}
end
section
variable {c : Cx} {σ : Sto} {Q : V → Sto → Prop}
theorem law_5 (G : Good c) {A : Around} {env : Env} {ρ : Loc} {r s : Row} (room : Room 10 A) (hfr : A.frames = some [env]) (ok : EnvOk env) (hfe : env.frame = some env.locals) (hs : env.scope = (fd 139).2.2) (hz : r.length ≤ 6) (hg : GR r)
  (hL : L4 r s ρ) :
  SS c A env true (fun zz zz => False) (fun zz zz => False) LT No LN ((fd 139).2.1.drop 23) ρ σ := by
 obtain ⟨h2, h3, h6, h7⟩ := hL
 refine loc_fd_139 G hs fun l0 l1 l2 l3 l4 l5 l6 l7 l8 l9 l10 l11 l12 l13 l14 l15 l16 l17 l18 g1 g2 g3 g4 g5 g6 g7 g8 g9 g10 g11 g12 g13 g14 g15 g16 g17 g18 => ?_
 unfold ivec at h6 h7
 obtain ⟨m, hm, hm'⟩ := has_min (l := tw r) (by unfold tw; simp)
 obtain ⟨m₂, hm₂, hm₂'⟩ := has_max (l := tw r) (by unfold tw; simp)
 lk
 refine mk_vec G room ?_
 lk
 refine EV_ListCompF (J := fun zz => True) (ρl := [none, none]) twoG room.handled ok ⟨rfl, by decide +kernel, by decide +kernel⟩ ⟨rfl, rfl, trivial⟩ trivial ?_
 lk
 refine ⟨_, .lst _, by rw [List.length_map]; omega, ⟨?_⟩, ?_⟩
 ·intro cenv hcs okc σ' ρ' v hv hJ _
  have e : cenv.scope.names = [(S ".0", .local), (S "entry", .local)] := by rw [hcs]; simp [relabel]
  have l1 : LocAt cenv 1 (S "entry") .local := LocAt_of e (by decide +kernel) rfl (by decide +kernel)
  obtain ⟨o, ho, rfl⟩ := List.mem_map.mp hv
  lk
  refine ⟨trivial, rfl, TS_one ?_⟩
  lk
  cases o with
  | none => exact ⟨rfl, rfl⟩
  | some i =>
   refine ⟨rfl, ?_⟩
   have hi := hg.r _ ho i rfl
   lk
   exact op_mul (Sm.mul (by unfold Sm; omega)) ⟨rfl, rfl⟩
 lk
 refine op_addL (.inl rfl) (.inl rfl) ?_ ?_
 ·have := List.length_filterMap_le twoG (r.map ov)
  rw [List.length_map] at this
  show _ + 1 ≤ 1000
  omega
 rw [tw_vs]
 lk
 refine OPN_at room (fn_flag G ?_)
 lk
 refine OPN_at room (fn_told (l := [hv m, hv m₂]) G rfl (fun Q σ q => fn_b_range G (r := r) (by omega) (tw_le hg) fun k k' k1 k2 k3 k4 => ?_) ?_)
 ·rw [← cmp_min hm hm' k1 k2, ← cmp_max hm₂ hm₂' k3 k4]
  exact q _
 lk
 refine bi_minL room.handled (.inl rfl) (by unfold tw; simp) fun k k1 k2 => ?_
 have : k = m := Int.le_antisymm (k2 _ hm) (hm' _ k1)
 subst this
 lk
 refine bi_maxL room.handled (.inl rfl) (by unfold tw; simp) fun k₂ k3 k4 => ?_
 have : k₂ = m₂ := Int.le_antisymm (hm₂' _ k3) (k4 _ hm₂)
 subst this
 lk
 refine OPN_at room (fn_law_least G (by omega) (by unfold Sm; omega) ?_)
 lk
 refine OPN_at room (fn_law_least G (by omega) (by unfold Sm; omega) ?_)
 lk
 refine ne_ok room (DOk.lst2 .fr .fr) (by decide) ?_
 lk
 refine eq_ok room (DOk.row r) (by decide) ?_
 lk
 refine eq_ok room (DOk.row s) (by decide) ?_
 lk
 refine bi_len (.inl rfl) (by decide) ?_
 lk
 rfl
end
section
variable {c : Cx} {σ : Sto} {Q : V → Sto → Prop}
theorem law_4 (G : Good c) {A : Around} {env : Env} {ρ : Loc} {r s : Row} (room : Room 10 A) (hfr : A.frames = some [env]) (ok : EnvOk env) (hfe : env.frame = some env.locals) (hs : env.scope = (fd 139).2.2) (hz : r.length ≤ 6) (hg : GR r)
  (hL : L4 r s ρ) :
  SS c A env true (fun zz zz => False) (fun zz zz => False) LT No LN ((fd 139).2.1.drop 19) ρ σ := by
 obtain ⟨h2, h3, h6, h7⟩ := hL
 refine loc_fd_139 G hs fun l0 l1 l2 l3 l4 l5 l6 l7 l8 l9 l10 l11 l12 l13 l14 l15 l16 l17 l18 g1 g2 g3 g4 g5 g6 g7 g8 g9 g10 g11 g12 g13 g14 g15 g16 g17 g18 => ?_
 lk
 refine mk_vec G room ?_
 lk
 refine OPN_at room (fn_b_var1 G (r := [some 1, some 3]) (b := false) (skip := .none) (fun Q σ q => take_6 G q) (fun Q σ q => fn_pairs_kept0 G q) (by decide) (by decide) ?_)
 show OP1 _ _ _ _ _ _ _ _ (dvec [varV [some 1, some 3]]) _
 rw [var_13]
 unfold dvec
 lk
 refine ne_ok room (DOk.lst1 .pair) (by decide) ?_
 lk
 refine mk_vecM G room fun x d hx hd hne => ?_
 lk
 refine EV_Dict1F (v := ivec [some 2, some 2]) G.mods (fun σ' le => ?_) ?_
 ·lk
  exact mk_vec G room ⟨rfl, rfl⟩
 lk
 refine ⟨x, d, 144, _, _, rfl, upd_self .., (upd_ne (Ne.symm hne)).trans (upd_self ..), set_ok G (by decide +kernel), by decide, ?_⟩
 refine SS_freezeI (i := 14) (x := x) (d := d) (C' := 144) (σ' := σ) rfl hne ((upd_ne hne).trans (upd_self ..)) (upd_self ..) (fun a y q => ?_) hx hd ?_
 ·have h1 : a ≠ x := fun z => by rw [z, hx] at q; cases q
  have h2 : a ≠ d := fun z => by rw [z, hd] at q; cases q
  rw [upd_ne h2, upd_ne h1, upd_ne h2]; exact q
 show SS _ _ _ _ _ _ _ _ _ _ (upl _ 14 sqV) _
 refine SS_mid (fun ρ' zz => L4 r s ρ') ?_ fun ρ' σ' k => law_5 G room hfr ok hfe hs hz hg k
 lk
 refine OPN_fns hfr ok hfe room (fn_told_exc G rfl ((fn_b_var_sq G).mono (by decide)) ?_)
 lk
 exact ⟨h2, h3, h6, h7⟩
end
section
variable {c : Cx} {σ : Sto} {Q : V → Sto → Prop}
theorem law_3 (G : Good c) {A : Around} {env : Env} {ρ : Loc} {r s : Row} {b : Bool} (room : Room 10 A) (hfr : A.frames = some [env]) (ok : EnvOk env) (hfe : env.frame = some env.locals) (hs : env.scope = (fd 139).2.2) (hz : r.length ≤ 6) (hg : GR r)
  (hL : LS r s b ρ) :
  SS c A env true (fun zz zz => False) (fun zz zz => False) LT No LN ((fd 139).2.1.drop 17) ρ σ := by
 obtain ⟨h2, h3, h6, h7, h5, h8⟩ := hL
 refine loc_fd_139 G hs fun l0 l1 l2 l3 l4 l5 l6 l7 l8 l9 l10 l11 l12 l13 l14 l15 l16 l17 l18 g1 g2 g3 g4 g5 g6 g7 g8 g9 g10 g11 g12 g13 g14 g15 g16 g17 g18 => ?_
 have hb := hg.le20
 refine SS_mid (fun ρ' zz => LS r s b ρ') ?_ ?_
 ·lk
  refine OPN_at room (fn_told (l := [varV r]) G rfl (fun Q σ q => (fn_b_var2 G (r := r) (s := r) (b := false) (skip := .none) (fun Q σ q => take_5 G q) (fun Q σ q => fn_pairs_kept0 G q) hz rfl hb hb ?_).mono (Nat.le_succ _) fun zz zz x => x) ?_)
  ·rw [kp_false, pick_all, cov_self]; exact q _
  lk
  refine OPN_at room (fn_told (l := [varV r]) G rfl (fun Q σ q => (fn_b_var1 G (r := r) (b := false) (skip := .none) (fun Q σ q => take_6 G q) (fun Q σ q => fn_pairs_kept0 G q) hz hb ?_).mono (Nat.le_succ _) fun zz zz x => x) ?_)
  ·exact q _
  refine ne_ok room (dok_varV r).lst1 (by decide) ?_
  lk
  exact ⟨h2, h3, h6, h7, h5, h8⟩
 rintro ρ' σ' ⟨h2, h3, h6, h7, h5, h8⟩
 refine SS_mid (fun ρ' zz => L4 r s ρ') ?_ fun ρ' σ' k => law_4 G room hfr ok hfe hs hz hg k
 have hl : (leftR r b).length ≤ 6 := Nat.le_trans (leftR_len r b) hz
 have hb' : ∀ o ∈ leftR r b, ∀ i, o = some i → i.natAbs ≤ 20 := fun o ho => hb o (leftR_mem ho)
 lk
 refine OPN_at room (fn_flag G ?_)
 lk
 refine OPN_at room (fn_told (l := [varV (leftR r b)]) G rfl (fun Q σ q => (fn_b_var1 G (r := r) (b := b) (skip := lvec b) (fun Q σ q => take_7 G q) (fun Q σ q => fn_pairs_kept G q) hz hb (q _)).mono (Nat.le_succ _) fun zz zz x => x) ?_)
 lk
 refine OPN_at room (fn_law_shared G (r := leftR r b) (s := leftR r b) rfl rfl hl rfl hb' hb' ?_)
 rw [cov_self]
 lk
 refine ne_ok room (dok_varV _).lst1 (by decide) ?_
 lk
 exact ⟨h2, h3, h6, h7⟩
end
section
variable {c : Cx} {σ : Sto} {Q : V → Sto → Prop}
theorem ov_at {r : Row} {i : Nat} (h : i < r.length) : (r.map ov)[i]? = some (ov (r.getD i none)) := by
 rw [List.getElem?_map, List.getD_eq_getElem?_getD, List.getElem?_eq_getElem h]; rfl
theorem isN_ov (o : Option Int) : (!isN (ov o)) = o.isSome := by cases o <;> rfl
theorem comp_spot {A : Around} {env : Env} {n : Nat} (room : Room n A) (ok : EnvOk env) {r : Row} {ks : List Nat} {x : Str} {j : Nat} (hj : LocAt env j x .cell) (hk : ∀ i ∈ ks, i < r.length) (hz : r.length ≤ 6) {scope : Scope} (hn : scope.names = [(S ".0", .local), (S "spot", .local), (x, .free)])
  (hx : (x == ("__debug__" : Str)) = false) (hne : ([S ".0", S "spot", x] : List Str).Nodup) {p1 p2 p3 p4 : Pos} :
  CompStep c A env scope (.Subscript (.Name x p1) (.Name (S "spot") p2) p3) (.Name (S "spot") p4) [] (ks.map fun i : Nat => V.int i) (fun v => some (ov (r.getD (natOf v) none))) (fun ρ' => ρ' 2 = some (.lst (r.map ov))) σ := .mk fun cenv hcs okc σ' ρ' v hv hJ zz => by
 have e : cenv.scope.names = [(S ".0", .local), (S "spot", .local), (x, .cell)] := by rw [hcs]; simp [relabel, hn, ok.kind, hj.1.1]
 have l1 : LocAt cenv 1 (S "spot") .local := LocAt_of e hne rfl (by decide +kernel)
 have l2 : LocAt cenv 2 x .cell := LocAt_of e hne rfl hx
 obtain ⟨i, hi, rfl⟩ := List.mem_map.mp hv
 have hi' := hk i hi
 refine AS_Name okc (.inl l1) ⟨hJ, rfl, TS_nil ⟨rfl, ?_⟩⟩
 have hJ' : upl ρ' 1 (.int i) 2 = some (.lst (r.map ov)) := hJ
 refine EV_Sub (EV_cell okc l2 hJ' (EV_loc okc l1 rfl ?_))
 refine sub_lstN (ov_at hi') (by omega) (fun zz zz zz => rfl) ⟨rfl, ?_⟩
 have e : natOf (V.int (i : Int)) = i := by show (i : Int).toNat = i; omega
 rw [e]
theorem fm_spot (r : Row) (ks : List Nat) : (ks.map fun i : Nat => V.int i).filterMap (fun v => some (ov (r.getD (natOf v) none))) = (pick r ks).map ov := fm_pick r ov ks
theorem law_2 (G : Good c) {A : Around} {env : Env} {ρ : Loc} {r s : Row} {b : Bool} (room : Room 10 A) (hfr : A.frames = some [env]) (ok : EnvOk env) (hfe : env.frame = some env.locals) (hs : env.scope = (fd 139).2.2) (hz : r.length ≤ 6) (hg : GR r) (hz' : s.length ≤ 6) (hg' : GR s)
  (hL : LS r s b ρ) :
  SS c A env true (fun zz zz => False) (fun zz zz => False) LT No LN ((fd 139).2.1.drop 15) ρ σ := by
 obtain ⟨h2, h3, h6, h7, h5, h8⟩ := hL
 refine loc_fd_139 G hs fun l0 l1 l2 l3 l4 l5 l6 l7 l8 l9 l10 l11 l12 l13 l14 l15 l16 l17 l18 g1 g2 g3 g4 g5 g6 g7 g8 g9 g10 g11 g12 g13 g14 g15 g16 g17 g18 => ?_
 have hb := hg.le20
 have hb' := hg'.le20
 refine SS_mid (fun ρ' zz => LS r s b ρ' ∧ ρ' 10 = some (.lst [argV (none, ivec r), argV (none, ivec s), argV (some (S "na.rm"), lvec b)])) ?_ ?_
 ·lk
  refine OPN_at room (fn_flag G ?_)
  lk
  exact ⟨⟨h2, h3, h6, h7, h5, h8⟩, rfl⟩
 rintro ρ' σ' ⟨⟨h2, h3, h6, h7, h5, h8⟩, h10⟩
 refine SS_mid (fun ρ' zz => LS r s b ρ') ?_ fun ρ' σ' k => law_3 G room hfr ok hfe hs hz hg k
 lk
 refine bi_lenN (.inl rfl) (List.length_map _) (by omega) ?_
 lk
 refine bi_lenN (.inl rfl) (List.length_map _) (by omega) ?_
 lk
 refine ite_dec (fun hne => ?_) fun heq => ?_
 ·lk
  refine OPN_fns hfr ok hfe room (fn_told_exc G rfl ((fn_b_var_len G (r := r) (s := s) (b := b) (skip := lvec b) (fun Q σ q => take_4 G q) (fun Q σ q => fn_pairs_kept G q) hz hz' (fun e => hne (by rw [e]))).mono (by decide)) ?_)
  lk
  exact ⟨h2, h3, h6, h7, h5, h8⟩
 have he : s.length = r.length := by
  have : ¬ ((r.length : Int) ≠ s.length) := heq
  omega
 lk
 refine SX_Assign_CompF (J := fun ρ' => ρ' 2 = some (.lst (r.map ov)) ∧ ρ' 3 = some (.lst (s.map ov)) ∧ ρ' 4 = some (.bool b)) (ρl := [none, none, some (.lst (r.map ov)), some (.lst (s.map ov)), some (.bool b)])
  (fun v => if (!b || ((r.getD (natOf v) none).isSome && (s.getD (natOf v) none).isSome)) = true then some v else none) room.handled ok ⟨rfl, by decide +kernel, by decide +kernel⟩ l13 ⟨rfl, rfl, ⟨2, .inl l2, h2⟩, ⟨3, .inl l3, h3⟩, ⟨5, .inl l5, h5⟩, trivial⟩ ⟨rfl, rfl, rfl⟩ ?_ rfl rfl
 lk
 refine bi_lenN (.inl rfl) (List.length_map _) (by omega) ?_
 lk
 refine bi_range ?_
 refine ⟨_, its_range (by omega), by rw [up_len]; omega, ⟨?_⟩, ?_⟩
 ·intro cenv hcs okc σ₂ ρ₂ v hv hJ _
  have e : cenv.scope.names = [(S ".0", .local), (S "spot", .local), (S "one", .cell), (S "other", .cell), (S "skip", .cell)] := by rw [hcs]; simp [relabel, ok.kind, l2.1.1, l3.1.1, l5.1.1]
  have l1 : LocAt cenv 1 (S "spot") .local := LocAt_of e (by decide +kernel) rfl (by decide +kernel)
  have l2 : LocAt cenv 2 (S "one") .cell := LocAt_of e (by decide +kernel) rfl (by decide +kernel)
  have l3 : LocAt cenv 3 (S "other") .cell := LocAt_of e (by decide +kernel) rfl (by decide +kernel)
  have l4 : LocAt cenv 4 (S "skip") .cell := LocAt_of e (by decide +kernel) rfl (by decide +kernel)
  obtain ⟨k, hk, rfl⟩ := up_mem hv
  obtain ⟨j2, j3, j4⟩ := hJ
  have ek : natOf (V.int (k : Int)) = k := by show (k : Int).toNat = k; omega
  lk
  refine ⟨⟨j2, j3, j4⟩, rfl, TS_one ?_⟩
  rw [ek]
  cases b with
  | false =>
   lk
   refine ⟨rfl, ?_⟩
   lk
   exact ⟨rfl, rfl⟩
  | true =>
   lk
   refine sub_lstN (ov_at hk) (by omega) (fun zz zz zz => rfl) ?_
   lk
   rw [isN_ov]
   cases ha : (r.getD k none).isSome with
   | false =>
    lk
    exact ⟨rfl, rfl⟩
   | true =>
    lk
    refine sub_lstN (ov_at (by omega : k < s.length)) (by omega) (fun zz zz zz => rfl) ?_
    lk
    rw [isN_ov]
    cases hb : (s.getD k none).isSome with
    | false =>
     lk
     exact ⟨rfl, rfl⟩
    | true =>
     lk
     refine ⟨rfl, ?_⟩
     lk
     exact ⟨rfl, rfl⟩
 rw [show upFrom 0 1 r.length = (List.range r.length).map fun i : Nat => V.int i from up_map _, fm_places r.length fun i => !b || ((r.getD i none).isSome && (s.getD i none).isSome)]
 rw [show ((List.range r.length).filter fun i => !b || ((r.getD i none).isSome && (s.getD i none).isSome)) = kp b r s from rfl]
 have hkp : ∀ i ∈ kp b r s, i < r.length := fun i hi => kp_lt hi
 have kl := kp_len b r s
 have pl : ∀ u : Row, (pick u (kp b r s)).length = (kp b r s).length := fun u => by unfold pick; rw [List.length_map]
 lk
 refine OPN_at room (fn_told (l := [covV (pick r (kp b r s)) (pick s (kp b r s))]) G rfl (fun Q σ q => (fn_b_var2 G (r := r) (s := s) (b := b) (skip := lvec b) (fun Q σ q => take_4 G q) (fun Q σ q => fn_pairs_kept G q) hz he hb hb' (q _)).mono (Nat.le_succ _) fun zz zz x => x) ?_)
 lk
 refine EV_ListCompF (J := fun ρ' => ρ' 2 = some (.lst (r.map ov))) (ρl := [none, none, some (.lst (r.map ov))]) (fun v => some (ov (r.getD (natOf v) none))) room.handled ok ⟨rfl, by decide +kernel, by decide +kernel⟩ ⟨rfl, rfl, ⟨2, .inl l2, h2⟩, trivial⟩ rfl ?_
 lk
 refine ⟨_, .lst _, by rw [List.length_map]; omega, comp_spot room ok l2 hkp hz rfl (by decide +kernel) (by decide +kernel), ?_⟩
 rw [fm_spot]
 lk
 refine EV_ListCompF (J := fun ρ' => ρ' 2 = some (.lst (s.map ov))) (ρl := [none, none, some (.lst (s.map ov))]) (fun v => some (ov (s.getD (natOf v) none))) room.handled ok ⟨rfl, by decide +kernel, by decide +kernel⟩ ⟨rfl, rfl, ⟨3, .inl l3, h3⟩, trivial⟩ rfl ?_
 lk
 refine ⟨_, .lst _, by rw [List.length_map]; omega, comp_spot room ok l3 (fun i hi => by rw [he]; exact hkp i hi) hz' rfl (by decide +kernel) (by decide +kernel), ?_⟩
 rw [fm_spot]
 lk
 refine OPN_at room (fn_law_shared G (r := pick r (kp b r s)) (s := pick s (kp b r s)) rfl rfl (by rw [pl]; omega) (by rw [pl, pl]) (fun o ho => hb o (pick_mem hkp ho)) (fun o ho => hb' o (pick_mem (fun i hi => by rw [he]; exact hkp i hi) ho)) ?_)
 lk
 refine ne_ok room (dok_covV _ _).lst1 (by decide) ?_
 lk
 exact ⟨h2, h3, h6, h7, h5, h8⟩
end
section
variable {c : Cx} {σ : Sto} {Q : V → Sto → Prop}
theorem law_1 (G : Good c) {A : Around} {env : Env} {ρ : Loc} {r s : Row} {b : Bool} {t : Nat} {tg : Option Str} (room : Room 10 A) (hfr : A.frames = some [env]) (ok : EnvOk env) (hfe : env.frame = some env.locals) (hs : env.scope = (fd 139).2.2) (hz : r.length ≤ 6) (hg : GR r) (hz' : s.length ≤ 6) (hg' : GR s) (ht : t ≤ 6) (htg : tg = none ∨ tg = some (S "trim"))
  (hL : LS r s b ρ) (h4 : ρ 4 = some (.int t))
  (h10 : ρ 10 = some (.lst [argV (none, ivec r), argV (tg, dvec [fr t 10]), argV (some (S "na.rm"), lvec b)])) :
  SS c A env true (fun zz zz => False) (fun zz zz => False) LT No LN ((fd 139).2.1.drop 10) ρ σ := by
 obtain ⟨h2, h3, h6, h7, h5, h8⟩ := hL
 refine loc_fd_139 G hs fun l0 l1 l2 l3 l4 l5 l6 l7 l8 l9 l10 l11 l12 l13 l14 l15 l16 l17 l18 g1 g2 g3 g4 g5 g6 g7 g8 g9 g10 g11 g12 g13 g14 g15 g16 g17 g18 => ?_
 have hb := hg.le20
 have hl : (leftR r b).length ≤ 6 := Nat.le_trans (leftR_len r b) hz
 refine SS_mid (fun ρ' zz => LS r s b ρ') ?_ ?_
 ·lk
  refine OPN_at room (fn_told (l := [midV (leftR r b) t]) G rfl (fun Q σ q => (fn_b_mean G (r := r) (b := b) ht htg hz hb (q _)).mono (Nat.le_succ _) fun zz zz x => x) ?_)
  lk
  refine OPN_at room (fn_law_middle G (r := leftR r b) ht hl ?_)
  lk
  refine ne_ok room (dok_midV _ _).lst1 (by decide) ?_
  lk
  exact ⟨h2, h3, h6, h7, h5, h8⟩
 rintro ρ' σ' ⟨h2, h3, h6, h7, h5, h8⟩
 refine SS_mid (fun ρ' zz => LS r s b ρ' ∧ ρ' 11 = some (.lst [medI (leftR r b)])) ?_ ?_
 ·lk
  refine OPN_at room (fn_flag G ?_)
  lk
  refine OPN_at room (fn_told (l := [medI (leftR r b)]) G rfl (fun Q σ q => (fn_b_median G (r := r) (b := b) hz hb q).mono (Nat.le_succ _) fun zz zz x => x) ?_)
  exact ⟨⟨h2, h3, h6, h7, h5, h8⟩, rfl⟩
 rintro ρ' σ' ⟨⟨h2, h3, h6, h7, h5, h8⟩, h11⟩
 refine SS_mid (fun ρ' zz => LS r s b ρ' ∧ ρ' 11 = some (.lst [medI (leftR r b)]) ∧ ρ' 12 = some (midV (leftR r b) 5)) ?_ ?_
 ·lk
  refine OPN_at room (fn_law_middle G (r := leftR r b) (t := 5) (by decide) hl ?_)
  exact ⟨⟨h2, h3, h6, h7, h5, h8⟩, h11, rfl⟩
 rintro ρ' σ' ⟨⟨h2, h3, h6, h7, h5, h8⟩, h11, h12⟩
 refine SS_mid (fun ρ' zz => LS r s b ρ' ∧ ρ' 11 = some (.lst [medI (leftR r b)]) ∧ ρ' 12 = some (medI (leftR r b))) ?_ ?_
 ·have k8 := h8
  obtain ⟨L, eL⟩ : ∃ L, L = leftR r b := ⟨_, rfl⟩
  rw [← eL] at h8 h11 h12 hl ⊢
  lk
  refine EV_ListF (ES_nil ⟨by decide, ?_⟩)
  refine op_eqNil room ?_
  cases L with
  | nil =>
   lk
   exact ⟨⟨h2, h3, h6, h7, h5, k8⟩, h11, by rw [med_none (.inl rfl)]; rfl⟩
  | cons o L =>
   lk
   refine op_noneIn room ?_
   by_cases hn : none ∈ o :: L
   ·rw [decide_eq_true hn]
    lk
    exact ⟨⟨h2, h3, h6, h7, h5, k8⟩, h11, by rw [med_none (.inr hn)]; rfl⟩
   ·rw [decide_eq_false hn]
    lk
    refine bi_lenN (.inl rfl) (List.length_map _) (by omega) ?_
    lk
    refine op_mod (by decide) ?_
    have e2 : Int.fmod ((o :: L).length : Int) 2 = (((o :: L).length % 2 : Nat) : Int) := by
     rw [Int.fmod_eq_emod_of_nonneg _ (by decide)]; omega
    rw [e2]
    have hx := row_somes hn
    have hxl : ((o :: L).filterMap id).length = (o :: L).length := by
     have := congrArg List.length hx
     rw [List.length_map] at this; exact this.symm
    have hxn : (o :: L).filterMap id ≠ [] := fun q => by rw [q] at hxl; cases hxl
    generalize (o :: L).filterMap id = xs at hx hxl hxn
    lk
    refine ite_dec (fun h => ?_) fun h => ?_
    ·have ho : xs.length % 2 = 1 := by omega
     rw [hx, mid_odd ho] at h12
     rw [hx, med_odd ho] at h11 ⊢
     rw [hx] at h8
     lk
     exact ⟨⟨h2, h3, h6, h7, h5, k8⟩, h11, rfl⟩
    ·have ho : xs.length % 2 = 0 := by omega
     rw [hx, ← med_even hxn ho] at h12
     lk
     exact ⟨⟨h2, h3, h6, h7, h5, k8⟩, h11, by rw [hx]; exact h12⟩
 rintro ρ' σ' ⟨⟨h2, h3, h6, h7, h5, h8⟩, h11, h12⟩
 refine SS_mid (fun ρ' zz => LS r s b ρ') ?_ fun ρ' σ' k => law_2 G room hfr ok hfe hs hz hg hz' hg' k
 lk
 refine ne_ok room (dok_medI _).lst1 (by decide) ?_
 lk
 exact ⟨h2, h3, h6, h7, h5, h8⟩
end
section
variable {c : Cx} {σ : Sto} {Q : V → Sto → Prop}
theorem fm_left (r : Row) (b : Bool) : (r.map ov).filterMap (fun v => if (!isN v || !b) = true then some v else none) = (leftR r b).map ov := by
 unfold leftR
 induction r with
 | nil => cases b <;> rfl
 | cons o r ih =>
  rw [List.map_cons, List.filterMap_cons]
  cases b with
  | false =>
   rw [if_pos (by cases isN (ov o) <;> rfl)]
   dsimp only
   rw [ih]
   rfl
  | true =>
   cases o with
   | none => rw [if_neg (by decide)]; exact ih
   | some i =>
    rw [if_pos (by rfl)]
    dsimp only
    rw [ih]
    rfl
theorem fn_law_stud7 (G : Good c) {a : Addr} {l : List Int} (hl : GL l) (h : ∀ (n : Nat) l', n ≤ 6 → GL l' → Q (.int n) (upd σ a (.list (l'.map .int)))) : FN c 1 (.ref 880) [.ref a, .int 7] (upd σ a (.list (l.map .int))) Q :=
 fn_law_stud G hl (by decide) (by decide) fun r l' h1 h2 gl => by
  obtain ⟨n, rfl⟩ := Int.eq_ofNat_of_zero_le h1
  exact h n l' (by omega) gl
structure L7S (σ : Sto) (D : Addr) (r : Row) (ρ : Loc) (σ' : Sto) : Prop where
 x : ∃ (s : Row) (l : List Int), s.length ≤ 6 ∧ GR s ∧ GL l ∧ ρ 1 = some (.ref D) ∧ ρ 2 = some (.lst (r.map ov)) ∧ ρ 3 = some (.lst (s.map ov)) ∧ σ' = upd σ D (.list (l.map .int))
theorem law_go (G : Good c) {ns : List Int} (hn : ns.length ≤ 1000) : FN0 c 11 (.ref 920) [.lst (ns.map .int)] σ LT := by
 refine FN0_intro G (by kernel_rfl : (H1 c.w.params).get? 920 = some (fno "law" "law" (fd 139) .none (vs "law_pq1418_01" 1333) (.ref 919))) (by kernel_rfl : (H1 c.w.params).get? 919 = some (cdo ((vs "law" 1406) :: .str (Str.ofString "law") 1407 :: [(vs "/claim/cut.py" 1408), (vi 922 0), (vi 1 0), (vi 0 0), (vi 0 0), (vi 3 0), (vr 916), (.bool true), (vi 181 0), (vr 917), .none, .none, .none, (vr 918), (vi 1409 0), (vi 922 0), (vs "/claim/cut.py" 1410)]))) rfl fi_fd_139 (by kernel_rfl) (by kernel_rfl) (by kernel_rfl) rfl (l' := [.lst (ns.map .int)]) ?_ ?_
 ·rintro fd o s P xs rfl hd - - r
  cases hd
  exact bind1 (fun zz => rfl) rfl r
 intro A env room hfr ok hs hfe
 refine loc_fd_139 G hs fun l0 l1 l2 l3 l4 l5 l6 l7 l8 l9 l10 l11 l12 l13 l14 l15 l16 l17 l18 g1 g2 g3 g4 g5 g6 g7 g8 g9 g10 g11 g12 g13 g14 g15 g16 g17 g18 => ?_
 lk
 refine OPN_at room (fn_law_studs G hn fun D l hD gl => ?_)
 lk
 refine OPN_at room (fn_law_stud7 G gl fun n₁ l₁ b₁ gl => ?_)
 lk
 refine OPN_at room (fn_law_row G gl b₁ fun r l₂ hr hg gl => ?_)
 have hz : r.length ≤ 6 := by omega
 refine SS_mid (L7S σ D r) ?_ ?_
 ·lk
  refine OPN_at room (fn_law_stud G gl (by decide) (by decide) fun n₃ l₃ a₃ b₃ gl => ?_)
  lk
  refine ite_dec (fun zz => ?_) fun zz => ?_
  ·lk
   refine bi_lenN (.inl rfl) (List.length_map _) (by omega) ?_
   lk
   refine OPN_at room (fn_law_row G gl hz fun s l₄ hs' hg' gl => ?_)
   exact ⟨s, l₄, hs' ▸ hz, hg', gl, rfl, rfl, rfl, rfl⟩
  ·lk
   refine OPN_at room (fn_law_stud7 G gl fun n₁ l₁ b₁ gl => ?_)
   lk
   refine OPN_at room (fn_law_row G gl b₁ fun s l₄ hs' hg' gl => ?_)
   exact ⟨s, l₄, by omega, hg', gl, rfl, rfl, rfl, rfl⟩
 clear gl
 rintro ρ₁ σ₁ ⟨s, l, hz', hg', gl, h1, h2, h3, rfl⟩
 lk
 refine OPN_at room (fn_law_stud7 G gl fun t l₁ b₁ gl => ?_)
 have ht : t ≤ 6 := b₁
 lk
 refine OPN_at room (fn_law_stud G gl (by decide) (by decide) fun n₁ l₁ a₁ b₁ gl => ?_)
 lk
 generalize decide (n₁ = 1) = b
 refine bi_listF (.inl rfl) (by rw [List.length_map]; omega) ?_
 lk
 refine mk_vec G room ?_
 lk
 refine bi_listF (.inl rfl) (by rw [List.length_map]; omega) ?_
 lk
 refine mk_vec G room ?_
 lk
 refine SX_Assign_CompF (J := fun ρ' => ρ' 2 = some (.bool b)) (ρl := [none, none, some (.bool b)])
  (fun v => if (!isN v || !b) = true then some v else none) room.handled ok ⟨rfl, by decide +kernel, by decide +kernel⟩ l8 ⟨rfl, rfl, ⟨5, .inl l5, rfl⟩, trivial⟩ rfl ?_ rfl rfl
 lk
 refine ⟨_, .lst _, by rw [List.length_map]; omega, ⟨?_⟩, ?_⟩
 ·intro cenv hcs okc σ₂ ρ₂ v hv hJ _
  have e : cenv.scope.names = [(S ".0", .local), (S "entry", .local), (S "skip", .cell)] := by rw [hcs]; simp [relabel, ok.kind, l5.1.1]
  have l1 : LocAt cenv 1 (S "entry") .local := LocAt_of e (by decide +kernel) rfl (by decide +kernel)
  have l2 : LocAt cenv 2 (S "skip") .cell := LocAt_of e (by decide +kernel) rfl (by decide +kernel)
  have hJ' : ρ₂ 2 = some (.bool b) := hJ
  lk
  refine ⟨hJ, rfl, TS_one ?_⟩
  lk
  cases hN : isN v with
  | false =>
   lk
   refine ⟨rfl, ?_⟩
   lk
   exact ⟨rfl, rfl⟩
  | true =>
   cases b with
   | true =>
    lk
    exact ⟨rfl, rfl⟩
   | false =>
    lk
    refine ⟨rfl, ?_⟩
    lk
    exact ⟨rfl, rfl⟩
 rw [fm_left]
 lk
 refine OPN_at room (fn_law_least G (by omega) (by unfold Sm; omega) ?_)
 lk
 refine mk_vec G room ?_
 refine SS_mid (fun ρ' zz => ∃ tg : Option Str, (tg = none ∨ tg = some (S "trim")) ∧ LS r s b ρ' ∧ ρ' 4 = some (.int t) ∧ ρ' 10 = some (.lst [argV (none, ivec r), argV (tg, dvec [fr t 10]), argV (some (S "na.rm"), lvec b)])) ?_ ?_
 ·lk
  refine OPN_at room (fn_law_stud G gl (by decide) (by decide) fun n₁ l₁ a₁ b₁ gl => ?_)
  lk
  refine ite_dec (fun zz => ?_) fun zz => ?_
  ·lk
   refine OPN_at room (fn_flag G ?_)
   lk
   exact ⟨none, .inl rfl, ⟨h2, h3, rfl, rfl, rfl, rfl⟩, rfl, rfl⟩
  ·lk
   refine OPN_at room (fn_flag G ?_)
   lk
   exact ⟨some (S "trim"), .inr rfl, ⟨h2, h3, rfl, rfl, rfl, rfl⟩, rfl, rfl⟩
 rintro ρ₂ σ₂ ⟨tg, htg, hL, h4, h10⟩
 exact law_1 G room hfr ok hfe hs hz hg hz' hg' ht htg hL h4 h10
end
section
noncomputable abbrev tabs9 : List (Addr × Addr) := [(770, 766)]
theorem KF_at (P : Params) : ∀ p ∈ KF P, (H1 P).get? p.1 = some p.2 := by
 intro p hp
 unfold KF at hp
 simp only [List.mem_cons, List.not_mem_nil, or_false] at hp
 rcases hp with rfl | rfl | rfl | rfl | rfl | rfl | rfl | rfl | rfl | rfl | rfl | rfl | rfl | rfl | rfl | rfl | rfl | rfl | rfl | rfl | rfl | rfl | rfl <;> kernel_rfl
theorem tabs_at {w : World} {h : Heap} (Y : YP w h) : TabsAt tabs9 h := by
 intro q hq
 cases List.mem_singleton.mp hq
 refine ⟨⟨_, _, _, _, _, _, _, _, _, Y 770 (o770 w.params) (by kernel_rfl), rfl, rfl, rfl, rfl, rfl, rfl, rfl, rfl, by decide⟩, Y 766 _ (by kernel_rfl)⟩
theorem mg_is {w : World} {h : Heap} {mg : Str → Option Value} (Y : YP w h) (N : h.Ns mainGlobals mg) : mg = mgN w.params := by
 obtain ⟨o, es, ep, e, hd, _, hm⟩ := N
 have e2 := Y mainGlobals (o3v5 w.params) (by kernel_rfl)
 rw [e] at e2
 cases e2
 funext x
 rw [← hm x]
 unfold mgN esOf
 rw [hd]
theorem mb_is {w : World} {h : Heap} {mb : Str → Option Value} (Y : YP w h) (N : h.Ns builtinsNs mb) : mb = mbN w.params := by
 obtain ⟨o, es, ep, e, hd, _, hm⟩ := N
 have e2 := Y builtinsNs (o0 w.params) (by kernel_rfl)
 rw [e] at e2
 cases e2
 funext x
 rw [← hm x]
 unfold mbN esOf
 rw [hd]
theorem mg_law (P : Params) : mgN P (Str.ofString "law") = some (.ref 920) := by kernel_rfl
theorem ints_of : ∀ {P : Params} {h : Heap} {vs : List Value} {ns : List Int} {W : Params} {R : Prt}, WellAll P h vs (ns.map .int) → VRs W R (ns.map .int) vs
 | _, _, _, [], _, _, x => by cases x; trivial
 | _, _, _, n :: ns, _, _, x => by
  cases x with
  | cons a b => cases a; exact ⟨⟨_, rfl⟩, ints_of b⟩
theorem few {xs : List WData} (h : rwL.row.toRowW.claim.pre [.list xs] = true) : ∃ ns : List Int, xs = ns.map .int ∧ ns.length ≤ 63 := by
 have h : (WShape.hasAll [] [.list xs] [.list .int] && (OpenLaw.pre rwL).holds [] { args := [.list xs] }) = true := h
 rw [Bool.and_eq_true] at h
 obtain ⟨h1, h2⟩ := h
 unfold WShape.hasAll at h1
 rw [Bool.and_eq_true] at h1
 obtain ⟨ys, e, hi⟩ := hasW_list h1.1
 cases e
 obtain ⟨ns, rfl⟩ := items_int hi
 refine ⟨ns, rfl, ?_⟩
 have h2 : (WTm.and (.not (.lt (.lit (.int 63)) (.len (.arg 0)))) (.lit (.bool true))).holds [] { args := [.list (ns.map .int)] } = true := h2
 refine Decidable.byContradiction fun h => ?_
 have e : WTm.value [] (.lt (.lit (.int 63)) (.len (.arg 0))) { args := [.list (ns.map .int)] } = some (.bool true) := by
  show some (WData.bool (decide ((63 : Int) < ((ns.map WData.int).length : Nat)))) = _
  rw [decide_eq_true (by rw [List.length_map]; omega)]
 have k : ∀ {a b : WTm} {e : WCtx}, WTm.value [] a e = some (.bool true) → (WTm.and (.not a) b).holds [] e = false := fun h => by
  have k1 : ∀ {e : WCtx} {a : WTm}, WTm.value [] a e = some (.bool true) → WTm.value [] (.not a) e = some (.bool false) := fun h => by unfold WTm.value; rw [h]; rfl
  have k2 : ∀ {e : WCtx} {a b : WTm}, WTm.value [] a e = some (.bool false) → WTm.value [] (.and a b) e = some (.bool false) := fun h => by unfold WTm.value; rw [h]
  unfold WTm.holds; rw [k2 (k1 h)]
 rw [k e] at h2
 cases h2
theorem call_law : WalkO qv looseN (fun zz zz => True) YP rwL.row.toRowW dLaw [] fun f vs => PySem.call f vs := by
 intro w s₀ s₁ mg mb Gr Y a o pm cd doc dV kV ho hod hcd hdf hmg hgens args vals as hpre hlay hrd hwell hsm
 have hT := tabs_at Y
 have e1 := mg_is Y Gr.T.g
 have e2 := mb_is Y Gr.T.b
 subst e1
 subst e2
 have ea : a = 920 := by
  have := hmg.symm.trans (mg_law w.params)
  cases this; rfl
 subst ea
 have keepG : ∀ b x, s₁.heap.get? b = some x → b ≠ 766 → (ghostOf s₁.heap tabs9).get? b = some x := fun b x e n => ghost_ne e (by simpa using n)
 have hnone : (ghostOf s₁.heap tabs9).get? 766 = none := hideAll_none _ (by simp)
 have hK : (KF w.params).In (ghostOf s₁.heap tabs9) := fun b x e => by
  have hm := mem_of_lookupK e
  refine keepG b x (Y _ _ (KF_at w.params _ hm)) fun q => ?_
  subst q
  unfold KF at hm
  simp at hm
 have hlim : (ghostOf s₁.heap tabs9).NoLimit := let ⟨mc, a, r⟩ := Gr.T.nolimit; ⟨mc, ghost_ns hT a, r⟩
 let c : Cx := ⟨w, ghostOf s₁.heap tabs9, 766, 757, 4, Str.ofString "ascending" ++ ".<locals>." ++ S "place", #[], s₁.os, mgN w.params, mbN w.params, KF w.params, hK, ghost_ns hT Gr.T.g, ghost_ns hT Gr.T.b, hlim, hnone⟩
 have G : Good c := ⟨rfl, rfl, rfl, rfl, rfl, fun b x e n => keepG b x (Y b x e) n, rfl, rfl⟩
 have hargs : ∃ (x : Addr) (vs : List Value) (ns : List Int), vals = [.ref x] ∧ ns.length ≤ 63 ∧ s₁.heap.get? x = some { cls := .type "list", data := .seq vs.toArray } ∧ VRs w.params (fun b o => (ghostOf s₁.heap tabs9).get? b = some o) (ns.map .int) vs := by
  have h : (WShape.hasAll [] args [.list .int] && (OpenLaw.pre rwL).holds [] { args := args }) = true := hpre
  rw [Bool.and_eq_true] at h
  match args, h with
  | [], h => exact absurd h.1 (by decide)
  | [d], h =>
   have h1 := h.1
   unfold WShape.hasAll at h1
   rw [Bool.and_eq_true] at h1
   obtain ⟨xs, rfl, hi⟩ := hasW_list h1.1
   obtain ⟨ns, rfl, hn⟩ := few hpre
   cases hwell with
   | cons a b =>
    cases b
    cases a with
    | list e r => exact ⟨_, _, ns, rfl, hn, e, ints_of r⟩
  | _ :: _ :: _, h =>
   have h1 := h.1
   unfold WShape.hasAll WShape.hasAll at h1
   simp at h1
 obtain ⟨x, vs, ns, rfl, hn, hx, rv⟩ := hargs
 have C : RepC c (fun zz zz => False) (fun b o => c.g.get? b = some o) (fun zz => none) s₁ :=
  {
   sub := fun b o e => of_hideAll _ e
   subF := fun zz zz e => False.elim e
   base := fun zz zz e => e
   off := fun zz zz e => nomatch e
   offF := fun zz zz e => False.elim e
   obj := fun zz zz e => nomatch e
   tab := ⟨#[], (hT _ (List.mem_singleton.mpr rfl)).2, .inl rfl⟩
   tabσ := rfl
   tabP := fun o e => by
    have e : (ghostOf s₁.heap tabs9).get? 766 = some o := e
    rw [hnone] at e
    cases e
   gens := hgens
   os := rfl }
 have room : Room 11 callerA := ⟨rfl, by decide, by decide⟩
 have hxg : (ghostOf s₁.heap tabs9).get? x = some { cls := .type "list", data := .seq vs.toArray } := keepG _ _ hx fun q => by
  subst q
  rw [(hT _ (List.mem_singleton.mpr rfl)).2] at hx
  cases hx
 refine enter_call (kn_post (cw := rwL.row.toRowW.claim) (cl := classAt s₀.heap) (mean := ExcName.means s₀.heap) (args := args) (s₁ := s₁) hT (fun zz zz => rfl) (codeAny_mono ((law_go (σ := fun zz => none) G (ns := ns) (by omega)).run callerA _ _ s₁ [.ref x] room rfl C ⟨⟨x, vs.toArray, 0, rfl, hxg, rv⟩, trivial⟩) ?_))
 ·intro r s' hr
  obtain ⟨v, rfl, P', V, σ', le, C', rv, hv⟩ := hr.ok
  have hv : V = .bool true := hv
  subst hv
  have ev : v = .bool true := rv
  subst ev
  obtain ⟨ps, hp, _⟩ := C'.tab
  refine ⟨⟨.inl ⟨.bool true, .bool true, [], rfl, fun zz => rfl, ReadsW.bool true, ?_, fun zz => ⟨List.nodup_nil, fun zz hm => nomatch hm⟩⟩, fun b o e => C'.sub b o (le b o e), C'.os, C'.gens⟩, ⟨ps, hp⟩, trivial⟩
  show (WShape.has [] (.bool true) .bool && (WTm.eq .res (.lit (.bool true))).holds [] { args := args, res := some (.bool true), after := args }) = true
  have e1 : WShape.has [] (.bool true) .bool = true := by unfold WShape.has; rfl
  have e2 : PySem.W.same (.bool true) (.bool true) = true := by unfold PySem.W.same; rfl
  rw [e1]; unfold WTm.holds
  rw [show WTm.value [] (.eq .res (.lit (.bool true))) { args := args, res := some (.bool true), after := args } = some (.bool true) from congrArg (fun b => some (WData.bool b)) e2]; rfl
theorem done : rwL.Holds := head call_law
end
end
end Mine.Internal
theorem PySem.Challenge.cw_pq1418_01_holds : PySem.Challenge.rw_pq1418_01.Holds :=
 Mine.Internal.done
