import PyProof.Rows.All
import Wide.All
import OpenK.AllK
import Wide.FinOn
import KE.IntBitsLaws
import KE.KTurns
import KE.KTurnsDict
import KE.KPairComp
import KE.KNestM
import PyProof.P3Eq
import Lean
import PySem.Challenge.RW_qz0081_01
set_option Elab.async false
set_option maxRecDepth 100000
set_option linter.all false
set_option bootstrap.genMatcherCode false
set_option genSizeOf false
set_option genInjectivity false
noncomputable section
namespace HB
open PySem PySem.W
noncomputable abbrev P0 : Program := PySem.Challenge.pw_qz0081_01
noncomputable def V (s : String) (t : Nat) : Value := .str (Str.ofString s) t
noncomputable def Y (l : List UInt8) (t : Nat) : Value := .bytes (Array.mk l) t
noncomputable def tup (l : List Value) : Obj := { cls := .type "tuple", data := .seq (Array.mk l) }
noncomputable def fl (l : List Value) : Obj := { cls := .none, data := .fields (Array.mk l) }
noncomputable def dF (c : String) (l : List Value) : Obj := { cls := .type c, data := .fields (Array.mk l) }
noncomputable def fr (c : String) (l : List (Option Value)) : Obj := { cls := .type c, slots := Array.mk l }
noncomputable def en (P : Params) (s : String) (t : Nat) (v : Value) : DictEntry := { hash := PyData.keyHash P (Str.ofString s), key := .str (Str.ofString s) t, val := v }
noncomputable def dc (l : List DictEntry) (n : Nat) : Obj := { cls := .type "dict", data := .dict (Array.mk l) n }
noncomputable def Of (l : List DictEntry) (n : Nat) : Obj := { cls := .none, data := .dict (Array.mk l) n }
noncomputable def tst (i : Nat) : Stmt := P0.main.body.getD i (.Pass default)
noncomputable def tsu (i j : Nat) : Stmt := match tst i with | .ClassDef _ _ _ b _ _ _ _ _ _ _ => b.getD j (.Pass default) | _ => .Pass default
noncomputable def GO : Stmt → Str | .FunctionDef n _ _ _ _ _ _ _ _ _ => n | _ => default
noncomputable def vF : Stmt → Arguments | .FunctionDef _ a _ _ _ _ _ _ _ _ => a | _ => default
noncomputable def dbody : Stmt → List Stmt | .FunctionDef _ _ b _ _ _ _ _ _ _ => b | _ => []
noncomputable def dscope : Stmt → Scope | .FunctionDef _ _ _ _ _ _ s _ _ _ => s | _ => default
noncomputable def fdat (qn : String) (s : Stmt) (g : Nat) (dV pm cd : Value) : FuncData := { name := GO s, qualname := Str.ofString qn, params := vF s, body := .stmts (dbody s), scope := dscope s, globals := g, closure := [], defaults := dV, kwdefaults := .none, pyModule := pm, code := cd }
noncomputable def fn (qn : String) (s : Stmt) (g : Nat) (dV pm cd : Value) : Obj := { cls := .type "function", data := .func (fdat qn s g dV pm cd) }
noncomputable def bT (qn : String) (s : Stmt) (g : Nat) (dV pm cd : Value) : Obj := { cls := .none, data := .func (fdat qn s g dV pm cd) }
noncomputable def I (n : Int) : Value := .int n 0
noncomputable def A (n : Addr) : Value := .ref n
noncomputable def fA (a b : String) (t : Nat) (n m : Int) (r : Nat) (k : Bool) (x y z w : Value) (u : Nat) : Obj := dF "code" [V a t, V b (t + 1), V "/claim/cut.py" (t + 2), .int n 0, .int m 0, .int 0 0, .int 0 0, .int (bif k then 3 else 0) 0, .ref r, .bool k, .int 181 0, .ref (r + 1), x, y, z, w, .int (Int.ofNat u) 0, .int n 0, V "/claim/cut.py" (u + 1)]
noncomputable def cN (a : String) : Nat → Int → Int → Nat → Bool → Value → Value → Value → Value → Nat → Obj := fA a a
noncomputable def lN : BT → List (Nat × Obj) → BT
 | t, [] => t
 | t, (i, o) :: r => lN (t.ins i o) r
noncomputable def sh (t : BT) (n k : Nat) (os : OsState) : SharedT := { tree := t, n := n, life := {}, gens := Array.mk [], drawn := {}, toks := k, os := os }
noncomputable def cG : Env := { scope := P0.main.scope, locals := mainNs, globals := mainNs, cells := [], code := .ref 13, frame := some 14 }
noncomputable def d8 (f : Nat) : Nat → List Stmt
 | 0 => []
 | n + 1 => tst f :: d8 (f + 1) n
noncomputable def gj (l : List Stmt) (b : List Stmt) (p : Pos) : Thread := { cur := (Fast.tw12563942051412417395 l cG).wrap doneF deadEnd id id, code := .body b cG, pos := p, stack := [topFrame ⟨0, 0, 0, 0⟩] }
def JR : Obj := tup []
def Og : Obj := fl []
def JS : Obj := cN "<module>" 182 1 0 11 false .none .none .none .none 185
def JU : Obj := fr "frame" [(some (A 13)), (some (A 3)), (some (A 3)), none, (some (V "__main__" 164)), none, (some (A 0))]
def t0 (P : Params) : BT := lN .nil [(0, (boot_o_0 P)), (1, (boot_o_1 P)), (2, (boot_o_2 P)), (3, (boot_o_3 P)), (4, (boot_o_4 P)), (5, (boot_o_5 P)), (6, (boot_o_6 P)), (7, (boot_o_7 P)), (8, (boot_o_8 P)), (9, (boot_o_9 P)), (10, (boot_o_10 P)), (11, JR), (12, Og), (13, JS), (14, JU)]
def wm (P : Params) : Obj := Of [en P "type.__subclasses__.Exception.0" 232 (I 46), en P "type.__subclasses__.Exception.n" 233 (I 1)] 2
def JV (P : Params) : Obj := dc [en P "__name__" 165 (V "paperhold.errors" 194), en P "__doc__" 166 .none, en P "__package__" 167 .none, en P "__loader__" 168 (.builtin "__main__.__loader__#opaque"), en P "__spec__" 169 .none, en P "__annotations__" 170 (A 6), en P "__builtins__" 171 (A 4), en P "__file__" 173 (V "/claim/cut.py" 172), en P "__cached__" 174 .none, en P "_wall" 193 (A 21), en P "PaperError" 235 (A 46)] 11
def GP : Obj := fl [I 1, I 0, A 20, I 5, I 0, A 27]
def JW : Obj := tup []
def JX : Obj := fl []
def JY : Obj := tup [V "k" 190]
def JZ : Obj := tup []
def J0 : Obj := bT "_wall" (tst 0) 0 .none .none .none
def J1 : Obj := cN "_wall" 187 1 1 15 true .none (A 17) (A 18) (A 19) 191
def J2 : Obj := fn "_wall" (tst 0) 3 .none (V "__main__" 164) (A 20)
def J3 : Obj := tup [(.type "Exception")]
def J4 : Obj := dF "builtin_function_or_method" [(.builtin "type.__prepare__"), (.type "type")]
def J5 (P : Params) : Obj := dc [en P "__module__" 203 (V "paperhold.errors" 194), en P "__qualname__" 205 (V "PaperError" 204), en P "__firstlineno__" 207 (.int 5 206), en P "__init__" 218 (A 36), en P "told" 225 (A 43), en P "__static_attributes__" 228 (A 44)] 6
def J6 : Obj := tup []
def J7 : Obj := fl [I 7, I 4, A 35, I 12, I 4, A 42]
def J8 : Obj := cN "PaperError" 198 5 0 25 false .none .none .none .none 201
def J9 : Obj := fr "frame" [(some (A 27)), (some (A 3)), (some (A 24)), none, (some (V "paperhold.errors" 194)), none, (some (A 0))]
def Ka : Obj := tup [(.int (-1) 209)]
def Kb : Obj := tup []
def Kc : Obj := fl []
def Kd : Obj := tup [V "self" 213, V "what" 214, V "at" 215]
def Ke : Obj := tup []
def Kf : Obj := bT "PaperError.__init__" (tsu 2 0) 0 .none .none .none
def o35 : Obj := fA "__init__" "PaperError.__init__" 210 7 3 30 true .none (A 32) (A 33) (A 34) 216
def o36 : Obj := fn "PaperError.__init__" (tsu 2 0) 3 (A 29) (V "paperhold.errors" 194) (A 35)
def Kg : Obj := tup []
def Kh : Obj := fl []
def Ki : Obj := tup [V "self" 222]
def Kj : Obj := tup []
def Kk : Obj := bT "PaperError.told" (tsu 2 1) 0 .none .none .none
def Kl : Obj := fA "told" "PaperError.told" 219 12 1 37 true .none (A 39) (A 40) (A 41) 223
def Km : Obj := fn "PaperError.told" (tsu 2 1) 3 .none (V "paperhold.errors" 194) (A 42)
def Kn : Obj := tup [V "at" 226, V "what" 227]
def Kq (P : Params) : Obj := dc [en P "__module__" 203 (V "paperhold.errors" 194), en P "__firstlineno__" 207 (.int 5 206), en P "__init__" 218 (A 36), en P "told" 225 (A 43), en P "__static_attributes__" 228 (A 44), en P "__weakref__" 230 (A 47), en P "__doc__" 231 .none] 3
def Oh : Obj := { cls := .type "type", data := .cls { name := "PaperError", bases := [(.type "Exception")], mro := [A 46, (.type "Exception"), (.type "BaseException"), (.type "object")], ns := 45, qualname := "PaperError", hasDict := true, slotNames := [], subclasses := [], abstract := false, collection := none, hasDel := false }, slots := Array.mk [(some (A 22)), none, (some (V "PaperError" 196)), (some (V "PaperError" 204)), (some (.builtin "Exception.__new__")), (some (.bool true))] }
def Kr : Obj := dF "getset_descriptor" [V "__weakref__" 229, A 46, (.builtin "ExceptionGroup.__weakref__"), .none]
def Ks : Obj := dF "super" [A 46, A 46, A 46]
def Kt : Obj := dF "builtin_function_or_method" [(.builtin "object.__init_subclass__"), A 46]
def t1 (P : Params) : BT := lN (t0 P) [(2, (wm P)), (3, (JV P)), (12, GP), (15, JW), (16, JX), (17, JY), (18, JZ), (19, J0), (20, J1), (21, J2), (22, J3), (23, J4), (24, (J5 P)), (25, J6), (26, J7), (27, J8), (28, J9), (29, Ka), (30, Kb), (31, Kc), (32, Kd), (33, Ke), (34, Kf), (35, o35), (36, o36), (37, Kg), (38, Kh), (39, Ki), (40, Kj), (41, Kk), (42, Kl), (43, Km), (44, Kn), (45, (Kq P)), (46, Oh), (47, Kr), (48, Ks), (49, Kt)]
def Ku (P : Params) : Obj := dc [en P "__name__" 165 (V "paperhold.decimals" 252), en P "__doc__" 166 .none, en P "__package__" 167 .none, en P "__loader__" 168 (.builtin "__main__.__loader__#opaque"), en P "__spec__" 169 .none, en P "__annotations__" 170 (A 6), en P "__builtins__" 171 (A 4), en P "__file__" 173 (V "/claim/cut.py" 172), en P "__cached__" 174 .none, en P "_wall" 193 (A 21), en P "PaperError" 235 (A 46), en P "PaintFault" 251 (A 59)] 12
def GQ : Obj := fl [I 1, I 0, A 20, I 5, I 0, A 27, I 14, I 0, A 55]
def qw : Obj := { cls := .type "type", data := .cls { name := "PaperError", bases := [(.type "Exception")], mro := [A 46, (.type "Exception"), (.type "BaseException"), (.type "object")], ns := 45, qualname := "PaperError", hasDict := true, slotNames := [], subclasses := [A 59], abstract := false, collection := none, hasDel := false }, slots := Array.mk [(some (A 22)), none, (some (V "PaperError" 196)), (some (V "PaperError" 204)), (some (.builtin "Exception.__new__")), (some (.bool true))] }
def Kv : Obj := tup [A 46]
def Kw : Obj := dF "builtin_function_or_method" [(.builtin "type.__prepare__"), (.type "type")]
def Kx (P : Params) : Obj := dc [en P "__module__" 243 (V "paperhold.errors" 194), en P "__qualname__" 245 (V "PaintFault" 244), en P "__firstlineno__" 247 (.int 14 246), en P "__static_attributes__" 248 (A 57)] 4
def Ky : Obj := tup []
def Kz : Obj := fl []
def KB : Obj := cN "PaintFault" 238 14 0 53 false .none .none .none .none 241
def KC : Obj := fr "frame" [(some (A 55)), (some (A 3)), (some (A 52)), none, (some (V "paperhold.errors" 194)), none, (some (A 0))]
def KD : Obj := tup []
def KE (P : Params) : Obj := dc [en P "__module__" 243 (V "paperhold.errors" 194), en P "__firstlineno__" 247 (.int 14 246), en P "__static_attributes__" 248 (A 57), en P "__doc__" 249 .none] 2
def o59 : Obj := { cls := .type "type", data := .cls { name := "PaintFault", bases := [A 46], mro := [A 59, A 46, (.type "Exception"), (.type "BaseException"), (.type "object")], ns := 58, qualname := "PaintFault", hasDict := true, slotNames := [], subclasses := [], abstract := false, collection := none, hasDel := false }, slots := Array.mk [(some (A 50)), none, (some (V "PaintFault" 236)), (some (V "PaintFault" 244)), (some (.builtin "Exception.__new__")), (some (.bool true))] }
def KG : Obj := dF "super" [A 59, A 59, A 59]
def KH : Obj := dF "builtin_function_or_method" [(.builtin "object.__init_subclass__"), A 59]
def t2 (P : Params) : BT := lN (t1 P) [(3, (Ku P)), (12, GQ), (46, qw), (50, Kv), (51, Kw), (52, (Kx P)), (53, Ky), (54, Kz), (55, KB), (56, KC), (57, KD), (58, (KE P)), (59, o59), (60, KG), (61, KH)]
def KI (P : Params) : Obj := dc [en P "__name__" 165 (V "paperhold.decimals" 252), en P "__doc__" 166 .none, en P "__package__" 167 .none, en P "__loader__" 168 (.builtin "__main__.__loader__#opaque"), en P "__spec__" 169 .none, en P "__annotations__" 170 (A 6), en P "__builtins__" 171 (A 4), en P "__file__" 173 (V "/claim/cut.py" 172), en P "__cached__" 174 .none, en P "_wall" 193 (A 21), en P "PaperError" 235 (A 46), en P "PaintFault" 251 (A 59), en P "Decimal" 374 (A 155)] 13
def GR : Obj := fl [I 1, I 0, A 20, I 5, I 0, A 27, I 14, I 0, A 55, I 17, I 0, A 67]
def KJ : Obj := tup []
def KK : Obj := dF "builtin_function_or_method" [(.builtin "type.__prepare__"), (.type "type")]
def KL (P : Params) : Obj := dc [en P "__module__" 261 (V "paperhold.decimals" 252), en P "__qualname__" 263 (V "Decimal" 262), en P "__firstlineno__" 265 (.int 17 264), en P "__init__" 274 (A 75), en P "plus" 282 (A 82), en P "minus" 293 (A 89), en P "times" 302 (A 96), en P "negated" 309 (A 103), en P "compared" 320 (A 110), en P "is_whole" 327 (A 117), en P "floor" 334 (A 124), en P "rounded" 342 (A 131), en P "told" 349 (A 138), en P "text" 357 (A 145), en P "least_text" 364 (A 152), en P "__static_attributes__" 367 (A 153)] 16
def KM : Obj := tup []
def KN : Obj := fl [I 19, I 4, A 74, I 26, I 4, A 81, I 29, I 4, A 88, I 33, I 4, A 95, I 37, I 4, A 102, I 40, I 4, A 109, I 44, I 4, A 116, I 47, I 4, A 123, I 50, I 4, A 130, I 55, I 4, A 137, I 58, I 4, A 144, I 65, I 4, A 151]
def KO : Obj := cN "Decimal" 256 17 0 65 false .none .none .none .none 259
def KP : Obj := fr "frame" [(some (A 67)), (some (A 3)), (some (A 64)), none, (some (V "paperhold.decimals" 252)), none, (some (A 0))]
def KR : Obj := tup []
def KS : Obj := fl []
def KT : Obj := tup [V "self" 269, V "top" 270, V "places" 271]
def KU : Obj := tup []
def KV : Obj := bT "Decimal.__init__" (tsu 5 0) 0 .none .none .none
def o74 : Obj := fA "__init__" "Decimal.__init__" 266 19 3 69 true .none (A 71) (A 72) (A 73) 272
def o75 : Obj := fn "Decimal.__init__" (tsu 5 0) 3 .none (V "paperhold.decimals" 252) (A 74)
def KW : Obj := tup []
def KX : Obj := fl []
def KY : Obj := tup [V "self" 278, V "other" 279]
def KZ : Obj := tup []
def K1 : Obj := bT "Decimal.plus" (tsu 5 1) 0 .none .none .none
def K2 : Obj := fA "plus" "Decimal.plus" 275 26 2 76 true .none (A 78) (A 79) (A 80) 280
def K3 : Obj := fn "Decimal.plus" (tsu 5 1) 3 .none (V "paperhold.decimals" 252) (A 81)
def K4 : Obj := tup []
def K5 : Obj := fl []
def K6 : Obj := tup [V "self" 286, V "other" 287, V "one" 288, V "two" 289, V "places" 290]
def K7 : Obj := tup []
def K8 : Obj := bT "Decimal.minus" (tsu 5 2) 0 .none .none .none
def o88 : Obj := fA "minus" "Decimal.minus" 283 29 2 83 true .none (A 85) (A 86) (A 87) 291
def o89 : Obj := fn "Decimal.minus" (tsu 5 2) 3 .none (V "paperhold.decimals" 252) (A 88)
def K9 : Obj := tup []
def La : Obj := fl []
def Lb : Obj := tup [V "self" 297, V "other" 298, V "factor" 299]
def Lc : Obj := tup []
def Ld : Obj := bT "Decimal.times" (tsu 5 3) 0 .none .none .none
def o95 : Obj := fA "times" "Decimal.times" 294 33 2 90 true .none (A 92) (A 93) (A 94) 300
def o96 : Obj := fn "Decimal.times" (tsu 5 3) 3 .none (V "paperhold.decimals" 252) (A 95)
def Le : Obj := tup []
def Lf : Obj := fl []
def Lg : Obj := tup [V "self" 306]
def wn : Obj := tup []
def wo : Obj := bT "Decimal.negated" (tsu 5 4) 0 .none .none .none
def wp : Obj := fA "negated" "Decimal.negated" 303 37 1 97 true .none (A 99) (A 100) (A 101) 307
def wq : Obj := fn "Decimal.negated" (tsu 5 4) 3 .none (V "paperhold.decimals" 252) (A 102)
def wt : Obj := tup []
def wu : Obj := fl []
def wv : Obj := tup [V "self" 313, V "other" 314, V "one" 315, V "two" 316, V "places" 317]
def ww : Obj := tup []
def wx : Obj := bT "Decimal.compared" (tsu 5 5) 0 .none .none .none
def o109 : Obj := fA "compared" "Decimal.compared" 310 40 2 104 true .none (A 106) (A 107) (A 108) 318
def o110 : Obj := fn "Decimal.compared" (tsu 5 5) 3 .none (V "paperhold.decimals" 252) (A 109)
def wy : Obj := tup []
def wz : Obj := fl []
def wA : Obj := tup [V "self" 324]
def wB : Obj := tup []
def wC : Obj := bT "Decimal.is_whole" (tsu 5 6) 0 .none .none .none
def wD : Obj := fA "is_whole" "Decimal.is_whole" 321 44 1 111 true .none (A 113) (A 114) (A 115) 325
def wE : Obj := fn "Decimal.is_whole" (tsu 5 6) 3 .none (V "paperhold.decimals" 252) (A 116)
def wF : Obj := tup []
def wG : Obj := fl []
def wH : Obj := tup [V "self" 331]
def wI : Obj := tup []
def wJ : Obj := bT "Decimal.floor" (tsu 5 7) 0 .none .none .none
def o123 : Obj := fA "floor" "Decimal.floor" 328 47 1 118 true .none (A 120) (A 121) (A 122) 332
def o124 : Obj := fn "Decimal.floor" (tsu 5 7) 3 .none (V "paperhold.decimals" 252) (A 123)
def wK : Obj := tup []
def wL : Obj := fl []
def wM : Obj := tup [V "self" 338, V "places" 339]
def wN : Obj := tup []
def wO : Obj := bT "Decimal.rounded" (tsu 5 8) 0 .none .none .none
def o130 : Obj := fA "rounded" "Decimal.rounded" 335 50 2 125 true .none (A 127) (A 128) (A 129) 340
def o131 : Obj := fn "Decimal.rounded" (tsu 5 8) 3 .none (V "paperhold.decimals" 252) (A 130)
def wP : Obj := tup []
def wQ : Obj := fl []
def wR : Obj := tup [V "self" 346]
def wS : Obj := tup []
def wT : Obj := bT "Decimal.told" (tsu 5 9) 0 .none .none .none
def o137 : Obj := fA "told" "Decimal.told" 343 55 1 132 true .none (A 134) (A 135) (A 136) 347
def o138 : Obj := fn "Decimal.told" (tsu 5 9) 3 .none (V "paperhold.decimals" 252) (A 137)
def wU : Obj := tup []
def wV : Obj := fl []
def wW : Obj := tup [V "self" 353, V "numerals" 354]
def wX : Obj := tup []
def wY : Obj := bT "Decimal.text" (tsu 5 10) 0 .none .none .none
def wZ : Obj := fA "text" "Decimal.text" 350 58 1 139 true .none (A 141) (A 142) (A 143) 355
def w0 : Obj := fn "Decimal.text" (tsu 5 10) 3 .none (V "paperhold.decimals" 252) (A 144)
def w3 : Obj := tup []
def w5 : Obj := fl []
def w6 : Obj := tup [V "self" 361]
def w7 : Obj := tup []
def w8 : Obj := bT "Decimal.least_text" (tsu 5 11) 0 .none .none .none
def w9 : Obj := fA "least_text" "Decimal.least_text" 358 65 1 146 true .none (A 148) (A 149) (A 150) 362
def xa : Obj := fn "Decimal.least_text" (tsu 5 11) 3 .none (V "paperhold.decimals" 252) (A 151)
def xb : Obj := tup [V "places" 365, V "top" 366]
def xc (P : Params) : Obj := dc [en P "__module__" 261 (V "paperhold.decimals" 252), en P "__firstlineno__" 265 (.int 17 264), en P "__init__" 274 (A 75), en P "plus" 282 (A 82), en P "minus" 293 (A 89), en P "times" 302 (A 96), en P "negated" 309 (A 103), en P "compared" 320 (A 110), en P "is_whole" 327 (A 117), en P "floor" 334 (A 124), en P "rounded" 342 (A 131), en P "told" 349 (A 138), en P "text" 357 (A 145), en P "least_text" 364 (A 152), en P "__static_attributes__" 367 (A 153), en P "__dict__" 369 (A 156), en P "__weakref__" 371 (A 157), en P "__doc__" 372 .none] 4
def xd : Obj := { cls := .type "type", data := .cls { name := "Decimal", bases := [(.type "object")], mro := [A 155, (.type "object")], ns := 154, qualname := "Decimal", hasDict := true, slotNames := [], subclasses := [], abstract := false, collection := none, hasDel := false }, slots := Array.mk [none, none, (some (V "Decimal" 254)), (some (V "Decimal" 262)), (some (.builtin "object.__new__")), (some (.bool true))] }
def xe : Obj := dF "getset_descriptor" [V "__dict__" 368, A 155, (.builtin "function.__dict__"), (.builtin "function.__dict__#set")]
def xf : Obj := dF "getset_descriptor" [V "__weakref__" 370, A 155, (.builtin "ExceptionGroup.__weakref__"), .none]
def xg : Obj := dF "super" [A 155, A 155, A 155]
def xh : Obj := dF "builtin_function_or_method" [(.builtin "object.__init_subclass__"), A 155]
def t3 (P : Params) : BT := lN (t2 P) [(3, (KI P)), (12, GR), (62, KJ), (63, KK), (64, (KL P)), (65, KM), (66, KN), (67, KO), (68, KP), (69, KR), (70, KS), (71, KT), (72, KU), (73, KV), (74, o74), (75, o75), (76, KW), (77, KX), (78, KY), (79, KZ), (80, K1), (81, K2), (82, K3), (83, K4), (84, K5), (85, K6), (86, K7), (87, K8), (88, o88), (89, o89), (90, K9), (91, La), (92, Lb), (93, Lc), (94, Ld), (95, o95), (96, o96), (97, Le), (98, Lf), (99, Lg), (100, wn), (101, wo), (102, wp), (103, wq), (104, wt), (105, wu), (106, wv), (107, ww), (108, wx), (109, o109), (110, o110), (111, wy), (112, wz), (113, wA), (114, wB), (115, wC), (116, wD), (117, wE), (118, wF), (119, wG), (120, wH), (121, wI), (122, wJ), (123, o123), (124, o124), (125, wK), (126, wL), (127, wM), (128, wN), (129, wO), (130, o130), (131, o131), (132, wP), (133, wQ), (134, wR), (135, wS), (136, wT), (137, o137), (138, o138), (139, wU), (140, wV), (141, wW), (142, wX), (143, wY), (144, wZ), (145, w0), (146, w3), (147, w5), (148, w6), (149, w7), (150, w8), (151, w9), (152, xa), (153, xb), (154, (xc P)), (155, xd), (156, xe), (157, xf), (158, xg), (159, xh)]
def Lh (P : Params) : Obj := dc [en P "__name__" 165 (V "paperhold.objects" 470), en P "__doc__" 166 .none, en P "__package__" 167 .none, en P "__loader__" 168 (.builtin "__main__.__loader__#opaque"), en P "__spec__" 169 .none, en P "__annotations__" 170 (A 6), en P "__builtins__" 171 (A 4), en P "__file__" 173 (V "/claim/cut.py" 172), en P "__cached__" 174 .none, en P "_wall" 193 (A 21), en P "PaperError" 235 (A 46), en P "PaintFault" 251 (A 59), en P "Decimal" 374 (A 155), en P "sign_text" 381 (A 166), en P "sign_of" 388 (A 173), en P "rounded_quotient" 397 (A 180), en P "decimal_of" 404 (A 187), en P "at_one_scale" 415 (A 194), en P "tops_of" 421 (A 199), en P "over" 433 (A 206), en P "sum_of" 442 (A 213), en P "least" 451 (A 220), en P "greatest" 460 (A 227), en P "clamped" 469 (A 234), en P "MOST_HOPS" 473 (.int 30 472)] 25
def GS : Obj := fl [I 1, I 0, A 20, I 5, I 0, A 27, I 14, I 0, A 55, I 17, I 0, A 67, I 67, I 0, A 165, I 69, I 0, A 172, I 73, I 0, A 179, I 76, I 0, A 186, I 82, I 0, A 193, I 87, I 0, A 198, I 92, I 0, A 205, I 97, I 0, A 212, I 100, I 0, A 219, I 108, I 0, A 226, I 116, I 0, A 233]
def xi : Obj := tup []
def xj : Obj := fl []
def xk : Obj := tup [V "number" 378]
def xl : Obj := tup []
def xm : Obj := bT "sign_text" (tst 6) 0 .none .none .none
def xn : Obj := cN "sign_text" 375 67 1 160 true .none (A 162) (A 163) (A 164) 379
def xo : Obj := fn "sign_text" (tst 6) 3 .none (V "paperhold.decimals" 252) (A 165)
def xq : Obj := tup []
def xr : Obj := fl []
def xt : Obj := tup [V "number" 385]
def xu : Obj := tup []
def xv : Obj := bT "sign_of" (tst 7) 0 .none .none .none
def o172 : Obj := cN "sign_of" 382 69 1 167 true .none (A 169) (A 170) (A 171) 386
def o173 : Obj := fn "sign_of" (tst 7) 3 .none (V "paperhold.decimals" 252) (A 172)
def xw : Obj := tup []
def xy : Obj := fl []
def xz : Obj := tup [V "top" 392, V "below" 393, V "size" 394]
def xA : Obj := tup []
def xB : Obj := bT "rounded_quotient" (tst 8) 0 .none .none .none
def o179 : Obj := cN "rounded_quotient" 389 73 2 174 true .none (A 176) (A 177) (A 178) 395
def o180 : Obj := fn "rounded_quotient" (tst 8) 3 .none (V "paperhold.decimals" 252) (A 179)
def xC : Obj := tup []
def xD : Obj := fl []
def xE : Obj := tup [V "value" 401]
def xF : Obj := tup []
def xG : Obj := bT "decimal_of" (tst 9) 0 .none .none .none
def o186 : Obj := cN "decimal_of" 398 76 1 181 true .none (A 183) (A 184) (A 185) 402
def o187 : Obj := fn "decimal_of" (tst 9) 3 .none (V "paperhold.decimals" 252) (A 186)
def xH : Obj := tup []
def xI : Obj := fl []
def xJ : Obj := tup [V "one" 408, V "other" 409, V "first" 410, V "second" 411, V "places" 412]
def xK : Obj := tup []
def xL : Obj := bT "at_one_scale" (tst 10) 0 .none .none .none
def o193 : Obj := cN "at_one_scale" 405 82 2 188 true .none (A 190) (A 191) (A 192) 413
def o194 : Obj := fn "at_one_scale" (tst 10) 3 .none (V "paperhold.decimals" 252) (A 193)
def xM : Obj := tup []
def xN : Obj := fl []
def xO : Obj := bT "tops_of" (tst 11) 0 .none .none .none
def o198 : Obj := cN "tops_of" 416 87 1 195 true .none .none .none (A 197) 419
def o199 : Obj := fn "tops_of" (tst 11) 3 .none (V "paperhold.decimals" 252) (A 198)
def xP : Obj := tup []
def xQ : Obj := fl []
def xR : Obj := tup [V "one" 425, V "other" 426, V "places" 427, V "top" 428, V "below" 429, V "scale" 430]
def xS : Obj := tup []
def xT : Obj := bT "over" (tst 12) 0 .none .none .none
def o205 : Obj := cN "over" 422 92 3 200 true .none (A 202) (A 203) (A 204) 431
def o206 : Obj := fn "over" (tst 12) 3 .none (V "paperhold.decimals" 252) (A 205)
def xU : Obj := tup []
def xV : Obj := fl []
def xW : Obj := tup [V "values" 437, V "tops" 438, V "places" 439]
def xX : Obj := tup []
def xY : Obj := bT "sum_of" (tst 13) 0 .none .none .none
def o212 : Obj := cN "sum_of" 434 97 1 207 true .none (A 209) (A 210) (A 211) 440
def o213 : Obj := fn "sum_of" (tst 13) 3 .none (V "paperhold.decimals" 252) (A 212)
def xZ : Obj := tup []
def x4 : Obj := fl []
def x5 : Obj := tup [V "values" 446, V "best" 447, V "value" 448]
def x6 : Obj := tup []
def x7 : Obj := bT "least" (tst 14) 0 .none .none .none
def o219 : Obj := cN "least" 443 100 1 214 true .none (A 216) (A 217) (A 218) 449
def o220 : Obj := fn "least" (tst 14) 3 .none (V "paperhold.decimals" 252) (A 219)
def x8 : Obj := tup []
def x9 : Obj := fl []
def ya : Obj := tup [V "values" 455, V "best" 456, V "value" 457]
def yb : Obj := tup []
def yc : Obj := bT "greatest" (tst 15) 0 .none .none .none
def o226 : Obj := cN "greatest" 452 108 1 221 true .none (A 223) (A 224) (A 225) 458
def o227 : Obj := fn "greatest" (tst 15) 3 .none (V "paperhold.decimals" 252) (A 226)
def yd : Obj := tup []
def ye : Obj := fl []
def yf : Obj := tup [V "value" 464, V "low" 465, V "high" 466]
def yg : Obj := tup []
def yh : Obj := bT "clamped" (tst 16) 0 .none .none .none
def o233 : Obj := cN "clamped" 461 116 3 228 true .none (A 230) (A 231) (A 232) 467
def o234 : Obj := fn "clamped" (tst 16) 3 .none (V "paperhold.decimals" 252) (A 233)
def t4 (P : Params) : BT := lN (t3 P) [(3, (Lh P)), (12, GS), (160, xi), (161, xj), (162, xk), (163, xl), (164, xm), (165, xn), (166, xo), (167, xq), (168, xr), (169, xt), (170, xu), (171, xv), (172, o172), (173, o173), (174, xw), (175, xy), (176, xz), (177, xA), (178, xB), (179, o179), (180, o180), (181, xC), (182, xD), (183, xE), (184, xF), (185, xG), (186, o186), (187, o187), (188, xH), (189, xI), (190, xJ), (191, xK), (192, xL), (193, o193), (194, o194), (195, xM), (196, xN), (197, xO), (198, o198), (199, o199), (200, xP), (201, xQ), (202, xR), (203, xS), (204, xT), (205, o205), (206, o206), (207, xU), (208, xV), (209, xW), (210, xX), (211, xY), (212, o212), (213, o213), (214, xZ), (215, x4), (216, x5), (217, x6), (218, x7), (219, o219), (220, o220), (221, x8), (222, x9), (223, ya), (224, yb), (225, yc), (226, o226), (227, o227), (228, yd), (229, ye), (230, yf), (231, yg), (232, yh), (233, o233), (234, o234)]
def Li (P : Params) : Obj := dc [en P "__name__" 165 (V "paperhold.objects" 470), en P "__doc__" 166 .none, en P "__package__" 167 .none, en P "__loader__" 168 (.builtin "__main__.__loader__#opaque"), en P "__spec__" 169 .none, en P "__annotations__" 170 (A 6), en P "__builtins__" 171 (A 4), en P "__file__" 173 (V "/claim/cut.py" 172), en P "__cached__" 174 .none, en P "_wall" 193 (A 21), en P "PaperError" 235 (A 46), en P "PaintFault" 251 (A 59), en P "Decimal" 374 (A 155), en P "sign_text" 381 (A 166), en P "sign_of" 388 (A 173), en P "rounded_quotient" 397 (A 180), en P "decimal_of" 404 (A 187), en P "at_one_scale" 415 (A 194), en P "tops_of" 421 (A 199), en P "over" 433 (A 206), en P "sum_of" 442 (A 213), en P "least" 451 (A 220), en P "greatest" 460 (A 227), en P "clamped" 469 (A 234), en P "MOST_HOPS" 473 (.int 30 472), en P "Name" 502 (A 251)] 26
def GT : Obj := fl [I 1, I 0, A 20, I 5, I 0, A 27, I 14, I 0, A 55, I 17, I 0, A 67, I 67, I 0, A 165, I 69, I 0, A 172, I 73, I 0, A 179, I 76, I 0, A 186, I 82, I 0, A 193, I 87, I 0, A 198, I 92, I 0, A 205, I 97, I 0, A 212, I 100, I 0, A 219, I 108, I 0, A 226, I 116, I 0, A 233, I 122, I 0, A 240]
def yi : Obj := tup []
def yj : Obj := dF "builtin_function_or_method" [(.builtin "type.__prepare__"), (.type "type")]
def yk (P : Params) : Obj := dc [en P "__module__" 481 (V "paperhold.objects" 470), en P "__qualname__" 483 (V "Name" 482), en P "__firstlineno__" 485 (.int 122 484), en P "__init__" 493 (A 248), en P "__static_attributes__" 495 (A 249)] 5
def yl : Obj := tup []
def ym : Obj := fl [I 124, I 4, A 247]
def yn : Obj := cN "Name" 476 122 0 238 false .none .none .none .none 479
def yo : Obj := fr "frame" [(some (A 240)), (some (A 3)), (some (A 237)), none, (some (V "paperhold.objects" 470)), none, (some (A 0))]
def yp : Obj := tup []
def yq : Obj := fl []
def yr : Obj := tup [V "self" 489, V "text" 490]
def yt : Obj := tup []
def yu : Obj := bT "Name.__init__" (tsu 19 0) 0 .none .none .none
def o247 : Obj := fA "__init__" "Name.__init__" 486 124 2 242 true .none (A 244) (A 245) (A 246) 491
def o248 : Obj := fn "Name.__init__" (tsu 19 0) 3 .none (V "paperhold.objects" 470) (A 247)
def yv : Obj := tup [V "text" 494]
def yw (P : Params) : Obj := dc [en P "__module__" 481 (V "paperhold.objects" 470), en P "__firstlineno__" 485 (.int 122 484), en P "__init__" 493 (A 248), en P "__static_attributes__" 495 (A 249), en P "__dict__" 497 (A 252), en P "__weakref__" 499 (A 253), en P "__doc__" 500 .none] 4
def yx : Obj := { cls := .type "type", data := .cls { name := "Name", bases := [(.type "object")], mro := [A 251, (.type "object")], ns := 250, qualname := "Name", hasDict := true, slotNames := [], subclasses := [], abstract := false, collection := none, hasDel := false }, slots := Array.mk [none, none, (some (V "Name" 474)), (some (V "Name" 482)), (some (.builtin "object.__new__")), (some (.bool true))] }
def yy : Obj := dF "getset_descriptor" [V "__dict__" 496, A 251, (.builtin "function.__dict__"), (.builtin "function.__dict__#set")]
def yz : Obj := dF "getset_descriptor" [V "__weakref__" 498, A 251, (.builtin "ExceptionGroup.__weakref__"), .none]
def yA : Obj := dF "super" [A 251, A 251, A 251]
def yB : Obj := dF "builtin_function_or_method" [(.builtin "object.__init_subclass__"), A 251]
def t5 (P : Params) : BT := lN (t4 P) [(3, (Li P)), (12, GT), (235, yi), (236, yj), (237, (yk P)), (238, yl), (239, ym), (240, yn), (241, yo), (242, yp), (243, yq), (244, yr), (245, yt), (246, yu), (247, o247), (248, o248), (249, yv), (250, (yw P)), (251, yx), (252, yy), (253, yz), (254, yA), (255, yB)]
def Lj (P : Params) : Obj := dc [en P "__name__" 165 (V "paperhold.objects" 470), en P "__doc__" 166 .none, en P "__package__" 167 .none, en P "__loader__" 168 (.builtin "__main__.__loader__#opaque"), en P "__spec__" 169 .none, en P "__annotations__" 170 (A 6), en P "__builtins__" 171 (A 4), en P "__file__" 173 (V "/claim/cut.py" 172), en P "__cached__" 174 .none, en P "_wall" 193 (A 21), en P "PaperError" 235 (A 46), en P "PaintFault" 251 (A 59), en P "Decimal" 374 (A 155), en P "sign_text" 381 (A 166), en P "sign_of" 388 (A 173), en P "rounded_quotient" 397 (A 180), en P "decimal_of" 404 (A 187), en P "at_one_scale" 415 (A 194), en P "tops_of" 421 (A 199), en P "over" 433 (A 206), en P "sum_of" 442 (A 213), en P "least" 451 (A 220), en P "greatest" 460 (A 227), en P "clamped" 469 (A 234), en P "MOST_HOPS" 473 (.int 30 472), en P "Name" 502 (A 251), en P "String" 533 (A 273)] 27
def GU : Obj := fl [I 1, I 0, A 20, I 5, I 0, A 27, I 14, I 0, A 55, I 17, I 0, A 67, I 67, I 0, A 165, I 69, I 0, A 172, I 73, I 0, A 179, I 76, I 0, A 186, I 82, I 0, A 193, I 87, I 0, A 198, I 92, I 0, A 205, I 97, I 0, A 212, I 100, I 0, A 219, I 108, I 0, A 226, I 116, I 0, A 233, I 122, I 0, A 240, I 126, I 0, A 261]
def yC : Obj := tup []
def yD : Obj := dF "builtin_function_or_method" [(.builtin "type.__prepare__"), (.type "type")]
def yE (P : Params) : Obj := dc [en P "__module__" 510 (V "paperhold.objects" 470), en P "__qualname__" 512 (V "String" 511), en P "__firstlineno__" 514 (.int 126 513), en P "__init__" 523 (A 270), en P "__static_attributes__" 526 (A 271)] 5
def yF : Obj := tup []
def yG : Obj := fl [I 128, I 4, A 269]
def yH : Obj := cN "String" 505 126 0 259 false .none .none .none .none 508
def yI : Obj := fr "frame" [(some (A 261)), (some (A 3)), (some (A 258)), none, (some (V "paperhold.objects" 470)), none, (some (A 0))]
def o263 : Obj := tup [(.bool false)]
def yJ : Obj := tup []
def yK : Obj := fl []
def yL : Obj := tup [V "self" 518, V "octets" 519, V "is_hex" 520]
def yM : Obj := tup []
def yN : Obj := bT "String.__init__" (tsu 20 0) 0 .none .none .none
def o269 : Obj := fA "__init__" "String.__init__" 515 128 3 264 true .none (A 266) (A 267) (A 268) 521
def o270 : Obj := fn "String.__init__" (tsu 20 0) 3 (A 263) (V "paperhold.objects" 470) (A 269)
def yO : Obj := tup [V "is_hex" 524, V "octets" 525]
def yP (P : Params) : Obj := dc [en P "__module__" 510 (V "paperhold.objects" 470), en P "__firstlineno__" 514 (.int 126 513), en P "__init__" 523 (A 270), en P "__static_attributes__" 526 (A 271), en P "__dict__" 528 (A 274), en P "__weakref__" 530 (A 275), en P "__doc__" 531 .none] 4
def yQ : Obj := { cls := .type "type", data := .cls { name := "String", bases := [(.type "object")], mro := [A 273, (.type "object")], ns := 272, qualname := "String", hasDict := true, slotNames := [], subclasses := [], abstract := false, collection := none, hasDel := false }, slots := Array.mk [none, none, (some (V "String" 503)), (some (V "String" 511)), (some (.builtin "object.__new__")), (some (.bool true))] }
def yR : Obj := dF "getset_descriptor" [V "__dict__" 527, A 273, (.builtin "function.__dict__"), (.builtin "function.__dict__#set")]
def yS : Obj := dF "getset_descriptor" [V "__weakref__" 529, A 273, (.builtin "ExceptionGroup.__weakref__"), .none]
def yT : Obj := dF "super" [A 273, A 273, A 273]
def yU : Obj := dF "builtin_function_or_method" [(.builtin "object.__init_subclass__"), A 273]
def t6 (P : Params) : BT := lN (t5 P) [(3, (Lj P)), (12, GU), (256, yC), (257, yD), (258, (yE P)), (259, yF), (260, yG), (261, yH), (262, yI), (263, o263), (264, yJ), (265, yK), (266, yL), (267, yM), (268, yN), (269, o269), (270, o270), (271, yO), (272, (yP P)), (273, yQ), (274, yR), (275, yS), (276, yT), (277, yU)]
def Lk (P : Params) : Obj := dc [en P "__name__" 165 (V "paperhold.objects" 470), en P "__doc__" 166 .none, en P "__package__" 167 .none, en P "__loader__" 168 (.builtin "__main__.__loader__#opaque"), en P "__spec__" 169 .none, en P "__annotations__" 170 (A 6), en P "__builtins__" 171 (A 4), en P "__file__" 173 (V "/claim/cut.py" 172), en P "__cached__" 174 .none, en P "_wall" 193 (A 21), en P "PaperError" 235 (A 46), en P "PaintFault" 251 (A 59), en P "Decimal" 374 (A 155), en P "sign_text" 381 (A 166), en P "sign_of" 388 (A 173), en P "rounded_quotient" 397 (A 180), en P "decimal_of" 404 (A 187), en P "at_one_scale" 415 (A 194), en P "tops_of" 421 (A 199), en P "over" 433 (A 206), en P "sum_of" 442 (A 213), en P "least" 451 (A 220), en P "greatest" 460 (A 227), en P "clamped" 469 (A 234), en P "MOST_HOPS" 473 (.int 30 472), en P "Name" 502 (A 251), en P "String" 533 (A 273), en P "Stream" 564 (A 294)] 28
def GV : Obj := fl [I 1, I 0, A 20, I 5, I 0, A 27, I 14, I 0, A 55, I 17, I 0, A 67, I 67, I 0, A 165, I 69, I 0, A 172, I 73, I 0, A 179, I 76, I 0, A 186, I 82, I 0, A 193, I 87, I 0, A 198, I 92, I 0, A 205, I 97, I 0, A 212, I 100, I 0, A 219, I 108, I 0, A 226, I 116, I 0, A 233, I 122, I 0, A 240, I 126, I 0, A 261, I 131, I 0, A 283]
def yV : Obj := tup []
def yW : Obj := dF "builtin_function_or_method" [(.builtin "type.__prepare__"), (.type "type")]
def yX (P : Params) : Obj := dc [en P "__module__" 541 (V "paperhold.objects" 470), en P "__qualname__" 543 (V "Stream" 542), en P "__firstlineno__" 545 (.int 131 544), en P "__init__" 554 (A 291), en P "__static_attributes__" 557 (A 292)] 5
def yY : Obj := tup []
def yZ : Obj := fl [I 133, I 4, A 290]
def y0 : Obj := cN "Stream" 536 131 0 281 false .none .none .none .none 539
def y1 : Obj := fr "frame" [(some (A 283)), (some (A 3)), (some (A 280)), none, (some (V "paperhold.objects" 470)), none, (some (A 0))]
def y2 : Obj := tup []
def y3 : Obj := fl []
def y4 : Obj := tup [V "self" 549, V "head" 550, V "octets" 551]
def y5 : Obj := tup []
def y6 : Obj := bT "Stream.__init__" (tsu 21 0) 0 .none .none .none
def o290 : Obj := fA "__init__" "Stream.__init__" 546 133 3 285 true .none (A 287) (A 288) (A 289) 552
def o291 : Obj := fn "Stream.__init__" (tsu 21 0) 3 .none (V "paperhold.objects" 470) (A 290)
def y7 : Obj := tup [V "head" 555, V "octets" 556]
def y8 (P : Params) : Obj := dc [en P "__module__" 541 (V "paperhold.objects" 470), en P "__firstlineno__" 545 (.int 131 544), en P "__init__" 554 (A 291), en P "__static_attributes__" 557 (A 292), en P "__dict__" 559 (A 295), en P "__weakref__" 561 (A 296), en P "__doc__" 562 .none] 4
def y9 : Obj := { cls := .type "type", data := .cls { name := "Stream", bases := [(.type "object")], mro := [A 294, (.type "object")], ns := 293, qualname := "Stream", hasDict := true, slotNames := [], subclasses := [], abstract := false, collection := none, hasDel := false }, slots := Array.mk [none, none, (some (V "Stream" 534)), (some (V "Stream" 542)), (some (.builtin "object.__new__")), (some (.bool true))] }
def za : Obj := dF "getset_descriptor" [V "__dict__" 558, A 294, (.builtin "function.__dict__"), (.builtin "function.__dict__#set")]
def zb : Obj := dF "getset_descriptor" [V "__weakref__" 560, A 294, (.builtin "ExceptionGroup.__weakref__"), .none]
def zc : Obj := dF "super" [A 294, A 294, A 294]
def zd : Obj := dF "builtin_function_or_method" [(.builtin "object.__init_subclass__"), A 294]
def t7 (P : Params) : BT := lN (t6 P) [(3, (Lk P)), (12, GV), (278, yV), (279, yW), (280, (yX P)), (281, yY), (282, yZ), (283, y0), (284, y1), (285, y2), (286, y3), (287, y4), (288, y5), (289, y6), (290, o290), (291, o291), (292, y7), (293, (y8 P)), (294, y9), (295, za), (296, zb), (297, zc), (298, zd)]
def Ll (P : Params) : Obj := dc [en P "__name__" 165 (V "paperhold.objects" 470), en P "__doc__" 166 .none, en P "__package__" 167 .none, en P "__loader__" 168 (.builtin "__main__.__loader__#opaque"), en P "__spec__" 169 .none, en P "__annotations__" 170 (A 6), en P "__builtins__" 171 (A 4), en P "__file__" 173 (V "/claim/cut.py" 172), en P "__cached__" 174 .none, en P "_wall" 193 (A 21), en P "PaperError" 235 (A 46), en P "PaintFault" 251 (A 59), en P "Decimal" 374 (A 155), en P "sign_text" 381 (A 166), en P "sign_of" 388 (A 173), en P "rounded_quotient" 397 (A 180), en P "decimal_of" 404 (A 187), en P "at_one_scale" 415 (A 194), en P "tops_of" 421 (A 199), en P "over" 433 (A 206), en P "sum_of" 442 (A 213), en P "least" 451 (A 220), en P "greatest" 460 (A 227), en P "clamped" 469 (A 234), en P "MOST_HOPS" 473 (.int 30 472), en P "Name" 502 (A 251), en P "String" 533 (A 273), en P "Stream" 564 (A 294), en P "Reference" 602 (A 322), en P "kind_of" 609 (A 333), en P "is_number" 616 (A 340), en P "told_plain" 624 (A 347), en P "told" 630 (A 352), en P "told_objects" 631 (A 352)] 34
def GW : Obj := fl [I 1, I 0, A 20, I 5, I 0, A 27, I 14, I 0, A 55, I 17, I 0, A 67, I 67, I 0, A 165, I 69, I 0, A 172, I 73, I 0, A 179, I 76, I 0, A 186, I 82, I 0, A 193, I 87, I 0, A 198, I 92, I 0, A 205, I 97, I 0, A 212, I 100, I 0, A 219, I 108, I 0, A 226, I 116, I 0, A 233, I 122, I 0, A 240, I 126, I 0, A 261, I 131, I 0, A 283, I 136, I 0, A 304, I 144, I 0, A 332, I 166, I 0, A 339, I 168, I 0, A 346, I 182, I 0, A 351]
def ze : Obj := tup []
def zf : Obj := dF "builtin_function_or_method" [(.builtin "type.__prepare__"), (.type "type")]
def zg (P : Params) : Obj := dc [en P "__module__" 572 (V "paperhold.objects" 470), en P "__qualname__" 574 (V "Reference" 573), en P "__firstlineno__" 576 (.int 136 575), en P "__init__" 585 (A 312), en P "pair" 592 (A 319), en P "__static_attributes__" 595 (A 320)] 6
def zh : Obj := tup []
def zi : Obj := fl [I 138, I 4, A 311, I 142, I 4, A 318]
def zj : Obj := cN "Reference" 567 136 0 302 false .none .none .none .none 570
def zk : Obj := fr "frame" [(some (A 304)), (some (A 3)), (some (A 301)), none, (some (V "paperhold.objects" 470)), none, (some (A 0))]
def zl : Obj := tup []
def zm : Obj := fl []
def zn : Obj := tup [V "self" 580, V "number" 581, V "generation" 582]
def zo : Obj := tup []
def zp : Obj := bT "Reference.__init__" (tsu 22 0) 0 .none .none .none
def o311 : Obj := fA "__init__" "Reference.__init__" 577 138 3 306 true .none (A 308) (A 309) (A 310) 583
def o312 : Obj := fn "Reference.__init__" (tsu 22 0) 3 .none (V "paperhold.objects" 470) (A 311)
def zq : Obj := tup []
def zr : Obj := fl []
def zt : Obj := tup [V "self" 589]
def zu : Obj := tup []
def zv : Obj := bT "Reference.pair" (tsu 22 1) 0 .none .none .none
def zw : Obj := fA "pair" "Reference.pair" 586 142 1 313 true .none (A 315) (A 316) (A 317) 590
def zx : Obj := fn "Reference.pair" (tsu 22 1) 3 .none (V "paperhold.objects" 470) (A 318)
def zy : Obj := tup [V "generation" 593, V "number" 594]
def zA (P : Params) : Obj := dc [en P "__module__" 572 (V "paperhold.objects" 470), en P "__firstlineno__" 576 (.int 136 575), en P "__init__" 585 (A 312), en P "pair" 592 (A 319), en P "__static_attributes__" 595 (A 320), en P "__dict__" 597 (A 323), en P "__weakref__" 599 (A 324), en P "__doc__" 600 .none] 4
def zB : Obj := { cls := .type "type", data := .cls { name := "Reference", bases := [(.type "object")], mro := [A 322, (.type "object")], ns := 321, qualname := "Reference", hasDict := true, slotNames := [], subclasses := [], abstract := false, collection := none, hasDel := false }, slots := Array.mk [none, none, (some (V "Reference" 565)), (some (V "Reference" 573)), (some (.builtin "object.__new__")), (some (.bool true))] }
def zC : Obj := dF "getset_descriptor" [V "__dict__" 596, A 322, (.builtin "function.__dict__"), (.builtin "function.__dict__#set")]
def zD : Obj := dF "getset_descriptor" [V "__weakref__" 598, A 322, (.builtin "ExceptionGroup.__weakref__"), .none]
def zE : Obj := dF "super" [A 322, A 322, A 322]
def zF : Obj := dF "builtin_function_or_method" [(.builtin "object.__init_subclass__"), A 322]
def zG : Obj := tup []
def zH : Obj := fl []
def zI : Obj := tup [V "value" 606]
def zJ : Obj := tup []
def zK : Obj := bT "kind_of" (tst 23) 0 .none .none .none
def o332 : Obj := cN "kind_of" 603 144 1 327 true .none (A 329) (A 330) (A 331) 607
def o333 : Obj := fn "kind_of" (tst 23) 3 .none (V "paperhold.objects" 470) (A 332)
def zL : Obj := tup []
def zM : Obj := fl []
def zN : Obj := tup [V "value" 613]
def zO : Obj := tup []
def zP : Obj := bT "is_number" (tst 24) 0 .none .none .none
def o339 : Obj := cN "is_number" 610 166 1 334 true .none (A 336) (A 337) (A 338) 614
def o340 : Obj := fn "is_number" (tst 24) 3 .none (V "paperhold.objects" 470) (A 339)
def zQ : Obj := tup []
def zR : Obj := fl []
def zS : Obj := tup [V "kind" 620, V "value" 621]
def zT : Obj := tup []
def zU : Obj := bT "told_plain" (tst 25) 0 .none .none .none
def zV : Obj := cN "told_plain" 617 168 2 341 true .none (A 343) (A 344) (A 345) 622
def zW : Obj := fn "told_plain" (tst 25) 3 .none (V "paperhold.objects" 470) (A 346)
def zX : Obj := tup []
def zY : Obj := fl []
def zZ : Obj := bT "told" (tst 26) 0 .none .none .none
def z0 : Obj := cN "told" 625 182 1 348 true .none .none .none (A 350) 628
def z1 : Obj := fn "told" (tst 26) 3 .none (V "paperhold.objects" 470) (A 351)
def t8 (P : Params) : BT := lN (t7 P) [(3, (Ll P)), (12, GW), (299, ze), (300, zf), (301, (zg P)), (302, zh), (303, zi), (304, zj), (305, zk), (306, zl), (307, zm), (308, zn), (309, zo), (310, zp), (311, o311), (312, o312), (313, zq), (314, zr), (315, zt), (316, zu), (317, zv), (318, zw), (319, zx), (320, zy), (321, (zA P)), (322, zB), (323, zC), (324, zD), (325, zE), (326, zF), (327, zG), (328, zH), (329, zI), (330, zJ), (331, zK), (332, o332), (333, o333), (334, zL), (335, zM), (336, zN), (337, zO), (338, zP), (339, o339), (340, o340), (341, zQ), (342, zR), (343, zS), (344, zT), (345, zU), (346, zV), (347, zW), (348, zX), (349, zY), (350, zZ), (351, z0), (352, z1)]
def Lm (P : Params) : Obj := dc [en P "__name__" 165 (V "paperhold.objects" 470), en P "__doc__" 166 .none, en P "__package__" 167 .none, en P "__loader__" 168 (.builtin "__main__.__loader__#opaque"), en P "__spec__" 169 .none, en P "__annotations__" 170 (A 6), en P "__builtins__" 171 (A 4), en P "__file__" 173 (V "/claim/cut.py" 172), en P "__cached__" 174 .none, en P "_wall" 193 (A 21), en P "PaperError" 235 (A 46), en P "PaintFault" 251 (A 59), en P "Decimal" 374 (A 155), en P "sign_text" 381 (A 166), en P "sign_of" 388 (A 173), en P "rounded_quotient" 397 (A 180), en P "decimal_of" 404 (A 187), en P "at_one_scale" 415 (A 194), en P "tops_of" 421 (A 199), en P "over" 433 (A 206), en P "sum_of" 442 (A 213), en P "least" 451 (A 220), en P "greatest" 460 (A 227), en P "clamped" 469 (A 234), en P "MOST_HOPS" 473 (.int 30 472), en P "Name" 502 (A 251), en P "String" 533 (A 273), en P "Stream" 564 (A 294), en P "Reference" 602 (A 322), en P "kind_of" 609 (A 333), en P "is_number" 616 (A 340), en P "told_plain" 624 (A 347), en P "told" 630 (A 352), en P "told_objects" 631 (A 352), en P "Lookup" 683 (A 384)] 35
def GX : Obj := fl [I 1, I 0, A 20, I 5, I 0, A 27, I 14, I 0, A 55, I 17, I 0, A 67, I 67, I 0, A 165, I 69, I 0, A 172, I 73, I 0, A 179, I 76, I 0, A 186, I 82, I 0, A 193, I 87, I 0, A 198, I 92, I 0, A 205, I 97, I 0, A 212, I 100, I 0, A 219, I 108, I 0, A 226, I 116, I 0, A 233, I 122, I 0, A 240, I 126, I 0, A 261, I 131, I 0, A 283, I 136, I 0, A 304, I 144, I 0, A 332, I 166, I 0, A 339, I 168, I 0, A 346, I 182, I 0, A 351, I 192, I 0, A 358]
def z2 : Obj := tup []
def z3 : Obj := dF "builtin_function_or_method" [(.builtin "type.__prepare__"), (.type "type")]
def z4 (P : Params) : Obj := dc [en P "__module__" 639 (V "paperhold.objects" 470), en P "__qualname__" 641 (V "Lookup" 640), en P "__firstlineno__" 643 (.int 192 642), en P "__init__" 652 (A 367), en P "fetch" 664 (A 374), en P "get" 673 (A 381), en P "__static_attributes__" 676 (A 382)] 7
def z5 : Obj := tup []
def z6 : Obj := fl [I 194, I 4, A 366, I 198, I 4, A 373, I 209, I 4, A 380]
def z7 : Obj := cN "Lookup" 634 192 0 356 false .none .none .none .none 637
def z8 : Obj := fr "frame" [(some (A 358)), (some (A 3)), (some (A 355)), none, (some (V "paperhold.objects" 470)), none, (some (A 0))]
def o360 : Obj := tup [.none, .none]
def z9 : Obj := tup []
def Aa : Obj := fl []
def Ab : Obj := tup [V "self" 647, V "table" 648, V "trailer" 649]
def Ac : Obj := tup []
def Ad : Obj := bT "Lookup.__init__" (tsu 28 0) 0 .none .none .none
def o366 : Obj := fA "__init__" "Lookup.__init__" 644 194 3 361 true .none (A 363) (A 364) (A 365) 650
def o367 : Obj := fn "Lookup.__init__" (tsu 28 0) 3 (A 360) (V "paperhold.objects" 470) (A 366)
def Ae : Obj := tup []
def Af : Obj := fl []
def Ag : Obj := tup [V "self" 656, V "value" 657, V "here" 658, V "hop" 659, V "generation" 660, V "found" 661]
def Ah : Obj := tup []
def Ai : Obj := bT "Lookup.fetch" (tsu 28 1) 0 .none .none .none
def o373 : Obj := fA "fetch" "Lookup.fetch" 653 198 2 368 true .none (A 370) (A 371) (A 372) 662
def o374 : Obj := fn "Lookup.fetch" (tsu 28 1) 3 .none (V "paperhold.objects" 470) (A 373)
def Aj : Obj := tup []
def Ak : Obj := fl []
def Al : Obj := tup [V "self" 668, V "head" 669, V "key" 670]
def Am : Obj := tup []
def An : Obj := bT "Lookup.get" (tsu 28 2) 0 .none .none .none
def o380 : Obj := fA "get" "Lookup.get" 665 209 3 375 true .none (A 377) (A 378) (A 379) 671
def o381 : Obj := fn "Lookup.get" (tsu 28 2) 3 .none (V "paperhold.objects" 470) (A 380)
def Ao : Obj := tup [V "table" 674, V "trailer" 675]
def Ap (P : Params) : Obj := dc [en P "__module__" 639 (V "paperhold.objects" 470), en P "__firstlineno__" 643 (.int 192 642), en P "__init__" 652 (A 367), en P "fetch" 664 (A 374), en P "get" 673 (A 381), en P "__static_attributes__" 676 (A 382), en P "__dict__" 678 (A 385), en P "__weakref__" 680 (A 386), en P "__doc__" 681 .none] 4
def Ln : Obj := { cls := .type "type", data := .cls { name := "Lookup", bases := [(.type "object")], mro := [A 384, (.type "object")], ns := 383, qualname := "Lookup", hasDict := true, slotNames := [], subclasses := [], abstract := false, collection := none, hasDel := false }, slots := Array.mk [none, none, (some (V "Lookup" 632)), (some (V "Lookup" 640)), (some (.builtin "object.__new__")), (some (.bool true))] }
def Aq : Obj := dF "getset_descriptor" [V "__dict__" 677, A 384, (.builtin "function.__dict__"), (.builtin "function.__dict__#set")]
def Ar : Obj := dF "getset_descriptor" [V "__weakref__" 679, A 384, (.builtin "ExceptionGroup.__weakref__"), .none]
def As : Obj := dF "super" [A 384, A 384, A 384]
def Au : Obj := dF "builtin_function_or_method" [(.builtin "object.__init_subclass__"), A 384]
def t9 (P : Params) : BT := lN (t8 P) [(3, (Lm P)), (12, GX), (353, z2), (354, z3), (355, (z4 P)), (356, z5), (357, z6), (358, z7), (359, z8), (360, o360), (361, z9), (362, Aa), (363, Ab), (364, Ac), (365, Ad), (366, o366), (367, o367), (368, Ae), (369, Af), (370, Ag), (371, Ah), (372, Ai), (373, o373), (374, o374), (375, Aj), (376, Ak), (377, Al), (378, Am), (379, An), (380, o380), (381, o381), (382, Ao), (383, (Ap P)), (384, Ln), (385, Aq), (386, Ar), (387, As), (388, Au)]
def GY (P : Params) : Obj := dc [en P "__name__" 165 (V "paperhold.objects" 470), en P "__doc__" 166 .none, en P "__package__" 167 .none, en P "__loader__" 168 (.builtin "__main__.__loader__#opaque"), en P "__spec__" 169 .none, en P "__annotations__" 170 (A 6), en P "__builtins__" 171 (A 4), en P "__file__" 173 (V "/claim/cut.py" 172), en P "__cached__" 174 .none, en P "_wall" 193 (A 21), en P "PaperError" 235 (A 46), en P "PaintFault" 251 (A 59), en P "Decimal" 374 (A 155), en P "sign_text" 381 (A 166), en P "sign_of" 388 (A 173), en P "rounded_quotient" 397 (A 180), en P "decimal_of" 404 (A 187), en P "at_one_scale" 415 (A 194), en P "tops_of" 421 (A 199), en P "over" 433 (A 206), en P "sum_of" 442 (A 213), en P "least" 451 (A 220), en P "greatest" 460 (A 227), en P "clamped" 469 (A 234), en P "MOST_HOPS" 473 (.int 30 472), en P "Name" 502 (A 251), en P "String" 533 (A 273), en P "Stream" 564 (A 294), en P "Reference" 602 (A 322), en P "kind_of" 609 (A 333), en P "is_number" 616 (A 340), en P "told_plain" 624 (A 347), en P "told" 630 (A 352), en P "told_objects" 631 (A 352), en P "Lookup" 683 (A 384), en P "Shelf" 746 (A 438)] 36
def Av : Obj := fl [I 1, I 0, A 20, I 5, I 0, A 27, I 14, I 0, A 55, I 17, I 0, A 67, I 67, I 0, A 165, I 69, I 0, A 172, I 73, I 0, A 179, I 76, I 0, A 186, I 82, I 0, A 193, I 87, I 0, A 198, I 92, I 0, A 205, I 97, I 0, A 212, I 100, I 0, A 219, I 108, I 0, A 226, I 116, I 0, A 233, I 122, I 0, A 240, I 126, I 0, A 261, I 131, I 0, A 283, I 136, I 0, A 304, I 144, I 0, A 332, I 166, I 0, A 339, I 168, I 0, A 346, I 182, I 0, A 351, I 192, I 0, A 358, I 211, I 0, A 394]
def kN : Obj := { cls := .type "type", data := .cls { name := "Lookup", bases := [(.type "object")], mro := [A 384, (.type "object")], ns := 383, qualname := "Lookup", hasDict := true, slotNames := [], subclasses := [A 438], abstract := false, collection := none, hasDel := false }, slots := Array.mk [none, none, (some (V "Lookup" 632)), (some (V "Lookup" 640)), (some (.builtin "object.__new__")), (some (.bool true))] }
def Ax : Obj := tup [A 384]
def Ay : Obj := dF "builtin_function_or_method" [(.builtin "type.__prepare__"), (.type "type")]
def Az (P : Params) : Obj := dc [en P "__module__" 691 (V "paperhold.objects" 470), en P "__qualname__" 693 (V "Shelf" 692), en P "__firstlineno__" 695 (.int 211 694), en P "put" 705 (A 402), en P "add" 714 (A 409), en P "drop" 722 (A 416), en P "numbers" 729 (A 423), en P "root" 736 (A 430), en P "told" 742 (A 435), en P "__static_attributes__" 743 (A 436)] 10
def AA : Obj := tup []
def AB : Obj := fl [I 213, I 4, A 401, I 216, I 4, A 408, I 223, I 4, A 415, I 226, I 4, A 422, I 229, I 4, A 429, I 232, I 4, A 434]
def AC : Obj := cN "Shelf" 686 211 0 392 false .none .none .none .none 689
def AD : Obj := fr "frame" [(some (A 394)), (some (A 3)), (some (A 391)), none, (some (V "paperhold.objects" 470)), none, (some (A 0))]
def AE : Obj := tup []
def AF : Obj := fl []
def AG : Obj := tup [V "self" 699, V "number" 700, V "generation" 701, V "value" 702]
def AH : Obj := tup []
def AI : Obj := bT "Shelf.put" (tsu 29 0) 0 .none .none .none
def AJ : Obj := fA "put" "Shelf.put" 696 213 4 396 true .none (A 398) (A 399) (A 400) 703
def AK : Obj := fn "Shelf.put" (tsu 29 0) 3 .none (V "paperhold.objects" 470) (A 401)
def AL : Obj := tup []
def AM : Obj := fl []
def AN : Obj := tup [V "self" 709, V "value" 710, V "number" 711]
def AO : Obj := tup []
def AP : Obj := bT "Shelf.add" (tsu 29 1) 0 .none .none .none
def o408 : Obj := fA "add" "Shelf.add" 706 216 2 403 true .none (A 405) (A 406) (A 407) 712
def o409 : Obj := fn "Shelf.add" (tsu 29 1) 3 .none (V "paperhold.objects" 470) (A 408)
def AQ : Obj := tup []
def AR : Obj := fl []
def AS : Obj := tup [V "self" 718, V "number" 719]
def AT : Obj := tup []
def AU : Obj := bT "Shelf.drop" (tsu 29 2) 0 .none .none .none
def AV : Obj := fA "drop" "Shelf.drop" 715 223 2 410 true .none (A 412) (A 413) (A 414) 720
def AW : Obj := fn "Shelf.drop" (tsu 29 2) 3 .none (V "paperhold.objects" 470) (A 415)
def AX : Obj := tup []
def AY : Obj := fl []
def AZ : Obj := tup [V "self" 726]
def A0 : Obj := tup []
def A1 : Obj := bT "Shelf.numbers" (tsu 29 3) 0 .none .none .none
def A2 : Obj := fA "numbers" "Shelf.numbers" 723 226 1 417 true .none (A 419) (A 420) (A 421) 727
def A3 : Obj := fn "Shelf.numbers" (tsu 29 3) 3 .none (V "paperhold.objects" 470) (A 422)
def A4 : Obj := tup []
def A5 : Obj := fl []
def A6 : Obj := tup [V "self" 733]
def A7 : Obj := tup []
def A8 : Obj := bT "Shelf.root" (tsu 29 4) 0 .none .none .none
def A9 : Obj := fA "root" "Shelf.root" 730 229 1 424 true .none (A 426) (A 427) (A 428) 734
def Ba : Obj := fn "Shelf.root" (tsu 29 4) 3 .none (V "paperhold.objects" 470) (A 429)
def Bb : Obj := tup []
def Bc : Obj := fl []
def Be : Obj := bT "Shelf.told" (tsu 29 5) 0 .none .none .none
def Bf : Obj := fA "told" "Shelf.told" 737 232 1 431 true .none .none .none (A 433) 740
def Bg : Obj := fn "Shelf.told" (tsu 29 5) 3 .none (V "paperhold.objects" 470) (A 434)
def Bh : Obj := tup []
def Bj (P : Params) : Obj := dc [en P "__module__" 691 (V "paperhold.objects" 470), en P "__firstlineno__" 695 (.int 211 694), en P "put" 705 (A 402), en P "add" 714 (A 409), en P "drop" 722 (A 416), en P "numbers" 729 (A 423), en P "root" 736 (A 430), en P "told" 742 (A 435), en P "__static_attributes__" 743 (A 436), en P "__doc__" 744 .none] 2
def Bk : Obj := { cls := .type "type", data := .cls { name := "Shelf", bases := [A 384], mro := [A 438, A 384, (.type "object")], ns := 437, qualname := "Shelf", hasDict := true, slotNames := [], subclasses := [], abstract := false, collection := none, hasDel := false }, slots := Array.mk [(some (A 389)), none, (some (V "Shelf" 684)), (some (V "Shelf" 692)), (some (.builtin "object.__new__")), (some (.bool true))] }
def Bl : Obj := dF "super" [A 438, A 438, A 438]
def Bm : Obj := dF "builtin_function_or_method" [(.builtin "object.__init_subclass__"), A 438]
def GZ (P : Params) : BT := lN (t9 P) [(3, (GY P)), (12, Av), (384, kN), (389, Ax), (390, Ay), (391, (Az P)), (392, AA), (393, AB), (394, AC), (395, AD), (396, AE), (397, AF), (398, AG), (399, AH), (400, AI), (401, AJ), (402, AK), (403, AL), (404, AM), (405, AN), (406, AO), (407, AP), (408, o408), (409, o409), (410, AQ), (411, AR), (412, AS), (413, AT), (414, AU), (415, AV), (416, AW), (417, AX), (418, AY), (419, AZ), (420, A0), (421, A1), (422, A2), (423, A3), (424, A4), (425, A5), (426, A6), (427, A7), (428, A8), (429, A9), (430, Ba), (431, Bb), (432, Bc), (433, Be), (434, Bf), (435, Bg), (436, Bh), (437, (Bj P)), (438, Bk), (439, Bl), (440, Bm)]
def G0 (P : Params) : Obj := dc [en P "__name__" 165 (V "paperhold.colours" 747), en P "__doc__" 166 .none, en P "__package__" 167 .none, en P "__loader__" 168 (.builtin "__main__.__loader__#opaque"), en P "__spec__" 169 .none, en P "__annotations__" 170 (A 6), en P "__builtins__" 171 (A 4), en P "__file__" 173 (V "/claim/cut.py" 172), en P "__cached__" 174 .none, en P "_wall" 193 (A 21), en P "PaperError" 235 (A 46), en P "PaintFault" 251 (A 59), en P "Decimal" 374 (A 155), en P "sign_text" 381 (A 166), en P "sign_of" 388 (A 173), en P "rounded_quotient" 397 (A 180), en P "decimal_of" 404 (A 187), en P "at_one_scale" 415 (A 194), en P "tops_of" 421 (A 199), en P "over" 433 (A 206), en P "sum_of" 442 (A 213), en P "least" 451 (A 220), en P "greatest" 460 (A 227), en P "clamped" 469 (A 234), en P "MOST_HOPS" 473 (.int 30 472), en P "Name" 502 (A 251), en P "String" 533 (A 273), en P "Stream" 564 (A 294), en P "Reference" 602 (A 322), en P "kind_of" 609 (A 333), en P "is_number" 616 (A 340), en P "told_plain" 624 (A 347), en P "told" 630 (A 352), en P "told_objects" 631 (A 352), en P "Lookup" 683 (A 384), en P "Shelf" 746 (A 438), en P "MOST_SPACES" 750 (.int 8 749), en P "MOST_INKS" 752 (.int 32 751), en P "MOST_INDEX" 754 (.int 255 753), en P "SPECIAL" 759 (A 441), en P "Space" 810 (A 467), en P "device_spaces" 816 (A 478), en P "device_space" 823 (A 485)] 43
def Bn : Obj := fl [I 1, I 0, A 20, I 5, I 0, A 27, I 14, I 0, A 55, I 17, I 0, A 67, I 67, I 0, A 165, I 69, I 0, A 172, I 73, I 0, A 179, I 76, I 0, A 186, I 82, I 0, A 193, I 87, I 0, A 198, I 92, I 0, A 205, I 97, I 0, A 212, I 100, I 0, A 219, I 108, I 0, A 226, I 116, I 0, A 233, I 122, I 0, A 240, I 126, I 0, A 261, I 131, I 0, A 283, I 136, I 0, A 304, I 144, I 0, A 332, I 166, I 0, A 339, I 168, I 0, A 346, I 182, I 0, A 351, I 192, I 0, A 358, I 211, I 0, A 394, I 240, I 0, A 447, I 254, I 0, A 477, I 256, I 0, A 484]
def o441 : Obj := tup [V "Pattern" 755, V "Indexed" 756, V "Separation" 757, V "DeviceN" 758]
def Bo : Obj := tup []
def Bp : Obj := dF "builtin_function_or_method" [(.builtin "type.__prepare__"), (.type "type")]
def Bq (P : Params) : Obj := dc [en P "__module__" 767 (V "paperhold.colours" 747), en P "__qualname__" 769 (V "Space" 768), en P "__firstlineno__" 771 (.int 240 770), en P "__init__" 787 (A 457), en P "told" 795 (A 464), en P "__static_attributes__" 803 (A 465)] 6
def Br : Obj := tup []
def Bt : Obj := fl [I 242, I 4, A 456, I 251, I 4, A 463]
def Bu : Obj := cN "Space" 762 240 0 445 false .none .none .none .none 765
def Bv : Obj := fr "frame" [(some (A 447)), (some (A 3)), (some (A 444)), none, (some (V "paperhold.colours" 747)), none, (some (A 0))]
def o449 : Obj := tup []
def o450 : Obj := tup [.none, (Y [] 772), (.int 0 773), .none, A 449]
def Bw : Obj := tup []
def Bx : Obj := fl []
def By : Obj := tup [V "self" 777, V "name" 778, V "count" 779, V "base" 780, V "table" 781, V "most" 782, V "tint" 783, V "inks" 784]
def Bz : Obj := tup []
def BA : Obj := bT "Space.__init__" (tsu 35 0) 0 .none .none .none
def o456 : Obj := fA "__init__" "Space.__init__" 774 242 8 451 true .none (A 453) (A 454) (A 455) 785
def o457 : Obj := fn "Space.__init__" (tsu 35 0) 3 (A 450) (V "paperhold.colours" 747) (A 456)
def BB : Obj := tup []
def BC : Obj := fl []
def BD : Obj := tup [V "self" 791, V "base" 792]
def BE : Obj := tup []
def BF : Obj := bT "Space.told" (tsu 35 1) 0 .none .none .none
def BG : Obj := fA "told" "Space.told" 788 251 1 458 true .none (A 460) (A 461) (A 462) 793
def BH : Obj := fn "Space.told" (tsu 35 1) 3 .none (V "paperhold.colours" 747) (A 463)
def BI : Obj := tup [V "base" 796, V "count" 797, V "inks" 798, V "most" 799, V "name" 800, V "table" 801, V "tint" 802]
def BJ (P : Params) : Obj := dc [en P "__module__" 767 (V "paperhold.colours" 747), en P "__firstlineno__" 771 (.int 240 770), en P "__init__" 787 (A 457), en P "told" 795 (A 464), en P "__static_attributes__" 803 (A 465), en P "__dict__" 805 (A 468), en P "__weakref__" 807 (A 469), en P "__doc__" 808 .none] 4
def BK : Obj := { cls := .type "type", data := .cls { name := "Space", bases := [(.type "object")], mro := [A 467, (.type "object")], ns := 466, qualname := "Space", hasDict := true, slotNames := [], subclasses := [], abstract := false, collection := none, hasDel := false }, slots := Array.mk [none, none, (some (V "Space" 760)), (some (V "Space" 768)), (some (.builtin "object.__new__")), (some (.bool true))] }
def BL : Obj := dF "getset_descriptor" [V "__dict__" 804, A 467, (.builtin "function.__dict__"), (.builtin "function.__dict__#set")]
def BN : Obj := dF "getset_descriptor" [V "__weakref__" 806, A 467, (.builtin "ExceptionGroup.__weakref__"), .none]
def BO : Obj := dF "super" [A 467, A 467, A 467]
def BP : Obj := dF "builtin_function_or_method" [(.builtin "object.__init_subclass__"), A 467]
def BQ : Obj := tup []
def BR : Obj := fl []
def BS : Obj := tup []
def BU : Obj := tup []
def BV : Obj := bT "device_spaces" (tst 36) 0 .none .none .none
def o477 : Obj := cN "device_spaces" 811 254 0 472 true .none (A 474) (A 475) (A 476) 814
def o478 : Obj := fn "device_spaces" (tst 36) 3 .none (V "paperhold.colours" 747) (A 477)
def BW : Obj := tup []
def BX : Obj := fl []
def BY : Obj := tup [V "name" 820]
def BZ : Obj := tup []
def B1 : Obj := bT "device_space" (tst 37) 0 .none .none .none
def o484 : Obj := cN "device_space" 817 256 1 479 true .none (A 481) (A 482) (A 483) 821
def o485 : Obj := fn "device_space" (tst 37) 3 .none (V "paperhold.colours" 747) (A 484)
def G1 (P : Params) : BT := lN (GZ P) [(3, (G0 P)), (12, Bn), (441, o441), (442, Bo), (443, Bp), (444, (Bq P)), (445, Br), (446, Bt), (447, Bu), (448, Bv), (449, o449), (450, o450), (451, Bw), (452, Bx), (453, By), (454, Bz), (455, BA), (456, o456), (457, o457), (458, BB), (459, BC), (460, BD), (461, BE), (462, BF), (463, BG), (464, BH), (465, BI), (466, (BJ P)), (467, BK), (468, BL), (469, BN), (470, BO), (471, BP), (472, BQ), (473, BR), (474, BS), (475, BU), (476, BV), (477, o477), (478, o478), (479, BW), (480, BX), (481, BY), (482, BZ), (483, B1), (484, o484), (485, o485)]
def G3 (P : Params) : Obj := dc [en P "__name__" 165 (V "paperhold.colours" 747), en P "__doc__" 166 .none, en P "__package__" 167 .none, en P "__loader__" 168 (.builtin "__main__.__loader__#opaque"), en P "__spec__" 169 .none, en P "__annotations__" 170 (A 6), en P "__builtins__" 171 (A 4), en P "__file__" 173 (V "/claim/cut.py" 172), en P "__cached__" 174 .none, en P "_wall" 193 (A 21), en P "PaperError" 235 (A 46), en P "PaintFault" 251 (A 59), en P "Decimal" 374 (A 155), en P "sign_text" 381 (A 166), en P "sign_of" 388 (A 173), en P "rounded_quotient" 397 (A 180), en P "decimal_of" 404 (A 187), en P "at_one_scale" 415 (A 194), en P "tops_of" 421 (A 199), en P "over" 433 (A 206), en P "sum_of" 442 (A 213), en P "least" 451 (A 220), en P "greatest" 460 (A 227), en P "clamped" 469 (A 234), en P "MOST_HOPS" 473 (.int 30 472), en P "Name" 502 (A 251), en P "String" 533 (A 273), en P "Stream" 564 (A 294), en P "Reference" 602 (A 322), en P "kind_of" 609 (A 333), en P "is_number" 616 (A 340), en P "told_plain" 624 (A 347), en P "told" 630 (A 352), en P "told_objects" 631 (A 352), en P "Lookup" 683 (A 384), en P "Shelf" 746 (A 438), en P "MOST_SPACES" 750 (.int 8 749), en P "MOST_INKS" 752 (.int 32 751), en P "MOST_INDEX" 754 (.int 255 753), en P "SPECIAL" 759 (A 441), en P "Space" 810 (A 467), en P "device_spaces" 816 (A 478), en P "device_space" 823 (A 485), en P "device_of_count" 832 (A 492), en P "Source" 882 (A 523), en P "space_of" 892 (A 535), en P "space_within" 903 (A 542)] 47
def B2 : Obj := fl [I 1, I 0, A 20, I 5, I 0, A 27, I 14, I 0, A 55, I 17, I 0, A 67, I 67, I 0, A 165, I 69, I 0, A 172, I 73, I 0, A 179, I 76, I 0, A 186, I 82, I 0, A 193, I 87, I 0, A 198, I 92, I 0, A 205, I 97, I 0, A 212, I 100, I 0, A 219, I 108, I 0, A 226, I 116, I 0, A 233, I 122, I 0, A 240, I 126, I 0, A 261, I 131, I 0, A 283, I 136, I 0, A 304, I 144, I 0, A 332, I 166, I 0, A 339, I 168, I 0, A 346, I 182, I 0, A 351, I 192, I 0, A 358, I 211, I 0, A 394, I 240, I 0, A 447, I 254, I 0, A 477, I 256, I 0, A 484, I 258, I 0, A 491, I 263, I 0, A 498, I 276, I 0, A 534, I 278, I 0, A 541]
def B3 : Obj := tup []
def B4 : Obj := fl []
def B5 : Obj := tup [V "count" 827, V "name" 828, V "wanted" 829]
def B6 : Obj := tup []
def B7 : Obj := bT "device_of_count" (tst 38) 0 .none .none .none
def o491 : Obj := cN "device_of_count" 824 258 1 486 true .none (A 488) (A 489) (A 490) 830
def o492 : Obj := fn "device_of_count" (tst 38) 3 .none (V "paperhold.colours" 747) (A 491)
def B8 : Obj := tup []
def B9 : Obj := dF "builtin_function_or_method" [(.builtin "type.__prepare__"), (.type "type")]
def Ca (P : Params) : Obj := dc [en P "__module__" 840 (V "paperhold.colours" 747), en P "__qualname__" 842 (V "Source" 841), en P "__firstlineno__" 844 (.int 263 843), en P "__init__" 854 (A 506), en P "fetch" 862 (A 513), en P "named" 871 (A 520), en P "__static_attributes__" 875 (A 521)] 7
def Cb : Obj := tup []
def Cc : Obj := fl [I 265, I 4, A 505, I 270, I 4, A 512, I 273, I 4, A 519]
def Cd : Obj := cN "Source" 835 263 0 496 false .none .none .none .none 838
def Cf : Obj := fr "frame" [(some (A 498)), (some (A 3)), (some (A 495)), none, (some (V "paperhold.colours" 747)), none, (some (A 0))]
def Cg : Obj := tup []
def Ch : Obj := fl []
def Ci : Obj := tup [V "self" 848, V "shelf" 849, V "resources" 850, V "opener" 851]
def Cj : Obj := tup []
def Ck : Obj := bT "Source.__init__" (tsu 39 0) 0 .none .none .none
def o505 : Obj := fA "__init__" "Source.__init__" 845 265 4 500 true .none (A 502) (A 503) (A 504) 852
def o506 : Obj := fn "Source.__init__" (tsu 39 0) 3 .none (V "paperhold.colours" 747) (A 505)
def Cl : Obj := tup []
def Cm : Obj := fl []
def Cn : Obj := tup [V "self" 858, V "value" 859]
def Co : Obj := tup []
def Cp : Obj := bT "Source.fetch" (tsu 39 1) 0 .none .none .none
def o512 : Obj := fA "fetch" "Source.fetch" 855 270 2 507 true .none (A 509) (A 510) (A 511) 860
def o513 : Obj := fn "Source.fetch" (tsu 39 1) 3 .none (V "paperhold.colours" 747) (A 512)
def Cq : Obj := tup []
def Cr : Obj := fl []
def Cs : Obj := tup [V "self" 866, V "name" 867, V "found" 868]
def Ct : Obj := tup []
def Cu : Obj := bT "Source.named" (tsu 39 2) 0 .none .none .none
def o519 : Obj := fA "named" "Source.named" 863 273 2 514 true .none (A 516) (A 517) (A 518) 869
def o520 : Obj := fn "Source.named" (tsu 39 2) 3 .none (V "paperhold.colours" 747) (A 519)
def Cv : Obj := tup [V "opener" 872, V "resources" 873, V "shelf" 874]
def Cw (P : Params) : Obj := dc [en P "__module__" 840 (V "paperhold.colours" 747), en P "__firstlineno__" 844 (.int 263 843), en P "__init__" 854 (A 506), en P "fetch" 862 (A 513), en P "named" 871 (A 520), en P "__static_attributes__" 875 (A 521), en P "__dict__" 877 (A 524), en P "__weakref__" 879 (A 525), en P "__doc__" 880 .none] 4
def Cy : Obj := { cls := .type "type", data := .cls { name := "Source", bases := [(.type "object")], mro := [A 523, (.type "object")], ns := 522, qualname := "Source", hasDict := true, slotNames := [], subclasses := [], abstract := false, collection := none, hasDel := false }, slots := Array.mk [none, none, (some (V "Source" 833)), (some (V "Source" 841)), (some (.builtin "object.__new__")), (some (.bool true))] }
def Cz : Obj := dF "getset_descriptor" [V "__dict__" 876, A 523, (.builtin "function.__dict__"), (.builtin "function.__dict__#set")]
def CA : Obj := dF "getset_descriptor" [V "__weakref__" 878, A 523, (.builtin "ExceptionGroup.__weakref__"), .none]
def CB : Obj := dF "super" [A 523, A 523, A 523]
def CC : Obj := dF "builtin_function_or_method" [(.builtin "object.__init_subclass__"), A 523]
def o528 : Obj := tup [.none]
def CD : Obj := tup []
def CE : Obj := fl []
def CF : Obj := tup [V "shelf" 886, V "resources" 887, V "value" 888, V "opener" 889]
def CG : Obj := tup []
def CH : Obj := bT "space_of" (tst 40) 0 .none .none .none
def o534 : Obj := cN "space_of" 883 276 4 529 true .none (A 531) (A 532) (A 533) 890
def o535 : Obj := fn "space_of" (tst 40) 3 (A 528) (V "paperhold.colours" 747) (A 534)
def CJ : Obj := tup []
def CK : Obj := fl []
def CL : Obj := tup [V "source" 896, V "value" 897, V "deep" 898, V "found" 899, V "word" 900]
def CM : Obj := tup []
def CN : Obj := bT "space_within" (tst 41) 0 .none .none .none
def o541 : Obj := cN "space_within" 893 278 3 536 true .none (A 538) (A 539) (A 540) 901
def o542 : Obj := fn "space_within" (tst 41) 3 .none (V "paperhold.colours" 747) (A 541)
def G4 (P : Params) : BT := lN (G1 P) [(3, (G3 P)), (12, B2), (486, B3), (487, B4), (488, B5), (489, B6), (490, B7), (491, o491), (492, o492), (493, B8), (494, B9), (495, (Ca P)), (496, Cb), (497, Cc), (498, Cd), (499, Cf), (500, Cg), (501, Ch), (502, Ci), (503, Cj), (504, Ck), (505, o505), (506, o506), (507, Cl), (508, Cm), (509, Cn), (510, Co), (511, Cp), (512, o512), (513, o513), (514, Cq), (515, Cr), (516, Cs), (517, Ct), (518, Cu), (519, o519), (520, o520), (521, Cv), (522, (Cw P)), (523, Cy), (524, Cz), (525, CA), (526, CB), (527, CC), (528, o528), (529, CD), (530, CE), (531, CF), (532, CG), (533, CH), (534, o534), (535, o535), (536, CJ), (537, CK), (538, CL), (539, CM), (540, CN), (541, o541), (542, o542)]
def G5 (P : Params) : Obj := dc [en P "__name__" 165 (V "paperhold.colours" 747), en P "__doc__" 166 .none, en P "__package__" 167 .none, en P "__loader__" 168 (.builtin "__main__.__loader__#opaque"), en P "__spec__" 169 .none, en P "__annotations__" 170 (A 6), en P "__builtins__" 171 (A 4), en P "__file__" 173 (V "/claim/cut.py" 172), en P "__cached__" 174 .none, en P "_wall" 193 (A 21), en P "PaperError" 235 (A 46), en P "PaintFault" 251 (A 59), en P "Decimal" 374 (A 155), en P "sign_text" 381 (A 166), en P "sign_of" 388 (A 173), en P "rounded_quotient" 397 (A 180), en P "decimal_of" 404 (A 187), en P "at_one_scale" 415 (A 194), en P "tops_of" 421 (A 199), en P "over" 433 (A 206), en P "sum_of" 442 (A 213), en P "least" 451 (A 220), en P "greatest" 460 (A 227), en P "clamped" 469 (A 234), en P "MOST_HOPS" 473 (.int 30 472), en P "Name" 502 (A 251), en P "String" 533 (A 273), en P "Stream" 564 (A 294), en P "Reference" 602 (A 322), en P "kind_of" 609 (A 333), en P "is_number" 616 (A 340), en P "told_plain" 624 (A 347), en P "told" 630 (A 352), en P "told_objects" 631 (A 352), en P "Lookup" 683 (A 384), en P "Shelf" 746 (A 438), en P "MOST_SPACES" 750 (.int 8 749), en P "MOST_INKS" 752 (.int 32 751), en P "MOST_INDEX" 754 (.int 255 753), en P "SPECIAL" 759 (A 441), en P "Space" 810 (A 467), en P "device_spaces" 816 (A 478), en P "device_space" 823 (A 485), en P "device_of_count" 832 (A 492), en P "Source" 882 (A 523), en P "space_of" 892 (A 535), en P "space_within" 903 (A 542), en P "space_by_name" 913 (A 549), en P "default_space" 924 (A 556), en P "space_by_array" 936 (A 563), en P "base_space" 947 (A 570), en P "profile_space" 958 (A 577), en P "indexed_space" 972 (A 584), en P "opened" 980 (A 591), en P "ink_space" 996 (A 598), en P "cut_numbers" 1002 (A 603), en P "rgb" 1008 (A 609), en P "base_numbers" 1014 (A 614), en P "rest_of" 1021 (A 621)] 59
def CO : Obj := fl [I 1, I 0, A 20, I 5, I 0, A 27, I 14, I 0, A 55, I 17, I 0, A 67, I 67, I 0, A 165, I 69, I 0, A 172, I 73, I 0, A 179, I 76, I 0, A 186, I 82, I 0, A 193, I 87, I 0, A 198, I 92, I 0, A 205, I 97, I 0, A 212, I 100, I 0, A 219, I 108, I 0, A 226, I 116, I 0, A 233, I 122, I 0, A 240, I 126, I 0, A 261, I 131, I 0, A 283, I 136, I 0, A 304, I 144, I 0, A 332, I 166, I 0, A 339, I 168, I 0, A 346, I 182, I 0, A 351, I 192, I 0, A 358, I 211, I 0, A 394, I 240, I 0, A 447, I 254, I 0, A 477, I 256, I 0, A 484, I 258, I 0, A 491, I 263, I 0, A 498, I 276, I 0, A 534, I 278, I 0, A 541, I 292, I 0, A 548, I 301, I 0, A 555, I 309, I 0, A 562, I 325, I 0, A 569, I 330, I 0, A 576, I 340, I 0, A 583, I 353, I 0, A 590, I 359, I 0, A 597, I 373, I 0, A 602, I 379, I 0, A 608, I 386, I 0, A 613, I 397, I 0, A 620]
def CP : Obj := tup []
def CQ : Obj := fl []
def CR : Obj := tup [V "source" 907, V "name" 908, V "deep" 909, V "value" 910]
def CS : Obj := tup []
def CT : Obj := bT "space_by_name" (tst 42) 0 .none .none .none
def o548 : Obj := cN "space_by_name" 904 292 3 543 true .none (A 545) (A 546) (A 547) 911
def o549 : Obj := fn "space_by_name" (tst 42) 3 .none (V "paperhold.colours" 747) (A 548)
def CU : Obj := tup []
def CV : Obj := fl []
def CW : Obj := tup [V "source" 917, V "name" 918, V "deep" 919, V "value" 920, V "found" 921]
def CX : Obj := tup []
def CY : Obj := bT "default_space" (tst 43) 0 .none .none .none
def o555 : Obj := cN "default_space" 914 301 3 550 true .none (A 552) (A 553) (A 554) 922
def o556 : Obj := fn "default_space" (tst 43) 3 .none (V "paperhold.colours" 747) (A 555)
def CZ : Obj := tup []
def C0 : Obj := fl []
def C1 : Obj := tup [V "source" 928, V "word" 929, V "parts" 930, V "deep" 931, V "base" 932, V "names" 933]
def C2 : Obj := tup []
def C3 : Obj := bT "space_by_array" (tst 44) 0 .none .none .none
def o562 : Obj := cN "space_by_array" 925 309 4 557 true .none (A 559) (A 560) (A 561) 934
def o563 : Obj := fn "space_by_array" (tst 44) 3 .none (V "paperhold.colours" 747) (A 562)
def C4 : Obj := tup []
def C5 : Obj := fl []
def C6 : Obj := tup [V "source" 940, V "value" 941, V "deep" 942, V "barred" 943, V "found" 944]
def C7 : Obj := tup []
def C8 : Obj := bT "base_space" (tst 45) 0 .none .none .none
def o569 : Obj := cN "base_space" 937 325 4 564 true .none (A 566) (A 567) (A 568) 945
def o570 : Obj := fn "base_space" (tst 45) 3 .none (V "paperhold.colours" 747) (A 569)
def C9 : Obj := tup []
def Da : Obj := fl []
def Db : Obj := tup [V "source" 951, V "stream" 952, V "deep" 953, V "count" 954, V "base" 955]
def Dc : Obj := tup []
def Dd : Obj := bT "profile_space" (tst 46) 0 .none .none .none
def o576 : Obj := cN "profile_space" 948 330 3 571 true .none (A 573) (A 574) (A 575) 956
def o577 : Obj := fn "profile_space" (tst 46) 3 .none (V "paperhold.colours" 747) (A 576)
def De : Obj := tup []
def Df : Obj := fl []
def Dg : Obj := tup [V "source" 962, V "parts" 963, V "deep" 964, V "base" 965, V "most" 966, V "table" 967, V "octets" 968, V "size" 969]
def Dh : Obj := tup []
def Di : Obj := bT "indexed_space" (tst 47) 0 .none .none .none
def o583 : Obj := cN "indexed_space" 959 340 3 578 true .none (A 580) (A 581) (A 582) 970
def o584 : Obj := fn "indexed_space" (tst 47) 3 .none (V "paperhold.colours" 747) (A 583)
def Dj : Obj := tup []
def Dk : Obj := fl []
def Dl : Obj := tup [V "source" 976, V "stream" 977]
def Dm : Obj := tup []
def Dn : Obj := bT "opened" (tst 48) 0 .none .none .none
def o590 : Obj := cN "opened" 973 353 2 585 true .none (A 587) (A 588) (A 589) 978
def o591 : Obj := fn "opened" (tst 48) 3 .none (V "paperhold.colours" 747) (A 590)
def Do : Obj := tup []
def Dp : Obj := fl []
def Dq : Obj := tup [V "source" 984, V "word" 985, V "names" 986, V "parts" 987, V "deep" 988, V "inks" 989, V "part" 990, V "name" 991, V "base" 992, V "tint" 993]
def Dr : Obj := tup []
def Ds : Obj := bT "ink_space" (tst 49) 0 .none .none .none
def o597 : Obj := cN "ink_space" 981 359 5 592 true .none (A 594) (A 595) (A 596) 994
def o598 : Obj := fn "ink_space" (tst 49) 3 .none (V "paperhold.colours" 747) (A 597)
def Dt : Obj := tup []
def Du : Obj := fl []
def Dv : Obj := bT "cut_numbers" (tst 50) 0 .none .none .none
def o602 : Obj := cN "cut_numbers" 997 373 2 599 true .none .none .none (A 601) 1000
def o603 : Obj := fn "cut_numbers" (tst 50) 3 .none (V "paperhold.colours" 747) (A 602)
def o604 : Obj := tup [.none]
def Dw : Obj := tup []
def Dx : Obj := fl []
def Dy : Obj := bT "rgb" (tst 51) 0 .none .none .none
def o608 : Obj := cN "rgb" 1003 379 4 605 true .none .none .none (A 607) 1006
def o609 : Obj := fn "rgb" (tst 51) 3 (A 604) (V "paperhold.colours" 747) (A 608)
def Dz : Obj := tup []
def DA : Obj := fl []
def DB : Obj := bT "base_numbers" (tst 52) 0 .none .none .none
def o613 : Obj := cN "base_numbers" 1009 386 4 610 true .none .none .none (A 612) 1012
def o614 : Obj := fn "base_numbers" (tst 52) 3 .none (V "paperhold.colours" 747) (A 613)
def DC : Obj := tup []
def DD : Obj := fl []
def DE : Obj := tup [V "numbers" 1018]
def DF : Obj := tup []
def DG : Obj := bT "rest_of" (tst 53) 0 .none .none .none
def o620 : Obj := cN "rest_of" 1015 397 1 615 true .none (A 617) (A 618) (A 619) 1019
def o621 : Obj := fn "rest_of" (tst 53) 3 .none (V "paperhold.colours" 747) (A 620)
def G6 (P : Params) : BT := lN (G4 P) [(3, (G5 P)), (12, CO), (543, CP), (544, CQ), (545, CR), (546, CS), (547, CT), (548, o548), (549, o549), (550, CU), (551, CV), (552, CW), (553, CX), (554, CY), (555, o555), (556, o556), (557, CZ), (558, C0), (559, C1), (560, C2), (561, C3), (562, o562), (563, o563), (564, C4), (565, C5), (566, C6), (567, C7), (568, C8), (569, o569), (570, o570), (571, C9), (572, Da), (573, Db), (574, Dc), (575, Dd), (576, o576), (577, o577), (578, De), (579, Df), (580, Dg), (581, Dh), (582, Di), (583, o583), (584, o584), (585, Dj), (586, Dk), (587, Dl), (588, Dm), (589, Dn), (590, o590), (591, o591), (592, Do), (593, Dp), (594, Dq), (595, Dr), (596, Ds), (597, o597), (598, o598), (599, Dt), (600, Du), (601, Dv), (602, o602), (603, o603), (604, o604), (605, Dw), (606, Dx), (607, Dy), (608, o608), (609, o609), (610, Dz), (611, DA), (612, DB), (613, o613), (614, o614), (615, DC), (616, DD), (617, DE), (618, DF), (619, DG), (620, o620), (621, o621)]
def G7 (P : Params) : Obj := dc [en P "__name__" 165 (V "law_qz0081_01" 1028), en P "__doc__" 166 .none, en P "__package__" 167 .none, en P "__loader__" 168 (.builtin "__main__.__loader__#opaque"), en P "__spec__" 169 .none, en P "__annotations__" 170 (A 6), en P "__builtins__" 171 (A 4), en P "__file__" 173 (V "/claim/cut.py" 172), en P "__cached__" 174 .none, en P "_wall" 193 (A 21), en P "PaperError" 235 (A 46), en P "PaintFault" 251 (A 59), en P "Decimal" 374 (A 155), en P "sign_text" 381 (A 166), en P "sign_of" 388 (A 173), en P "rounded_quotient" 397 (A 180), en P "decimal_of" 404 (A 187), en P "at_one_scale" 415 (A 194), en P "tops_of" 421 (A 199), en P "over" 433 (A 206), en P "sum_of" 442 (A 213), en P "least" 451 (A 220), en P "greatest" 460 (A 227), en P "clamped" 469 (A 234), en P "MOST_HOPS" 473 (.int 30 472), en P "Name" 502 (A 251), en P "String" 533 (A 273), en P "Stream" 564 (A 294), en P "Reference" 602 (A 322), en P "kind_of" 609 (A 333), en P "is_number" 616 (A 340), en P "told_plain" 624 (A 347), en P "told" 630 (A 352), en P "told_objects" 631 (A 352), en P "Lookup" 683 (A 384), en P "Shelf" 746 (A 438), en P "MOST_SPACES" 750 (.int 8 749), en P "MOST_INKS" 752 (.int 32 751), en P "MOST_INDEX" 754 (.int 255 753), en P "SPECIAL" 759 (A 441), en P "Space" 810 (A 467), en P "device_spaces" 816 (A 478), en P "device_space" 823 (A 485), en P "device_of_count" 832 (A 492), en P "Source" 882 (A 523), en P "space_of" 892 (A 535), en P "space_within" 903 (A 542), en P "space_by_name" 913 (A 549), en P "default_space" 924 (A 556), en P "space_by_array" 936 (A 563), en P "base_space" 947 (A 570), en P "profile_space" 958 (A 577), en P "indexed_space" 972 (A 584), en P "opened" 980 (A 591), en P "ink_space" 996 (A 598), en P "cut_numbers" 1002 (A 603), en P "rgb" 1008 (A 609), en P "base_numbers" 1014 (A 614), en P "rest_of" 1021 (A 621), en P "device_rgb" 1027 (A 626), en P "_law_pen" 1035 (A 631), en P "_law_draw" 1048 (A 638), en P "_law_counts" 1054 (A 645), en P "_law_device" 1061 (A 652), en P "_law_count" 1068 (A 659), en P "_law_plain" 1078 (A 666), en P "_law_inks" 1084 (A 671), en P "_law_space" 1090 (A 676), en P "_law_laid" 1099 (A 683), en P "_law_object" 1105 (A 688), en P "_law_nearest" 1113 (A 695), en P "_law_weighted" 1119 (A 700)] 72
def DH : Obj := fl [I 1, I 0, A 20, I 5, I 0, A 27, I 14, I 0, A 55, I 17, I 0, A 67, I 67, I 0, A 165, I 69, I 0, A 172, I 73, I 0, A 179, I 76, I 0, A 186, I 82, I 0, A 193, I 87, I 0, A 198, I 92, I 0, A 205, I 97, I 0, A 212, I 100, I 0, A 219, I 108, I 0, A 226, I 116, I 0, A 233, I 122, I 0, A 240, I 126, I 0, A 261, I 131, I 0, A 283, I 136, I 0, A 304, I 144, I 0, A 332, I 166, I 0, A 339, I 168, I 0, A 346, I 182, I 0, A 351, I 192, I 0, A 358, I 211, I 0, A 394, I 240, I 0, A 447, I 254, I 0, A 477, I 256, I 0, A 484, I 258, I 0, A 491, I 263, I 0, A 498, I 276, I 0, A 534, I 278, I 0, A 541, I 292, I 0, A 548, I 301, I 0, A 555, I 309, I 0, A 562, I 325, I 0, A 569, I 330, I 0, A 576, I 340, I 0, A 583, I 353, I 0, A 590, I 359, I 0, A 597, I 373, I 0, A 602, I 379, I 0, A 608, I 386, I 0, A 613, I 397, I 0, A 620, I 399, I 0, A 625, I 406, I 0, A 630, I 408, I 0, A 637, I 425, I 0, A 644, I 427, I 0, A 651, I 429, I 0, A 658, I 439, I 0, A 665, I 449, I 0, A 670, I 455, I 0, A 675, I 467, I 0, A 682, I 469, I 0, A 687, I 495, I 0, A 694, I 497, I 0, A 699]
def DI : Obj := tup []
def DJ : Obj := fl []
def DK : Obj := bT "device_rgb" (tst 54) 0 .none .none .none
def o625 : Obj := cN "device_rgb" 1022 399 2 622 true .none .none .none (A 624) 1025
def o626 : Obj := fn "device_rgb" (tst 54) 3 .none (V "paperhold.colours" 747) (A 625)
def DL : Obj := tup []
def DM : Obj := fl []
def DN : Obj := bT "_law_pen" (tst 56) 0 .none .none .none
def o630 : Obj := cN "_law_pen" 1030 406 1 627 true .none .none .none (A 629) 1033
def o631 : Obj := fn "_law_pen" (tst 56) 3 .none (V "law_qz0081_01" 1028) (A 630)
def DO : Obj := tup []
def DP : Obj := fl []
def DQ : Obj := tup [V "pen" 1039, V "many" 1040, V "digit" 1041, V "spot" 1042, V "cell" 1043, V "great" 1044, V "churned" 1045]
def DR : Obj := tup []
def DS : Obj := bT "_law_draw" (tst 57) 0 .none .none .none
def o637 : Obj := cN "_law_draw" 1036 408 2 632 true .none (A 634) (A 635) (A 636) 1046
def o638 : Obj := fn "_law_draw" (tst 57) 3 .none (V "law_qz0081_01" 1028) (A 637)
def DT : Obj := tup []
def DV : Obj := fl []
def DW : Obj := tup []
def DX : Obj := tup []
def DY : Obj := bT "_law_counts" (tst 58) 0 .none .none .none
def o644 : Obj := cN "_law_counts" 1049 425 0 639 true .none (A 641) (A 642) (A 643) 1052
def o645 : Obj := fn "_law_counts" (tst 58) 3 .none (V "law_qz0081_01" 1028) (A 644)
def DZ : Obj := tup []
def D0 : Obj := fl []
def D1 : Obj := tup [V "pen" 1058]
def D2 : Obj := tup []
def D3 : Obj := bT "_law_device" (tst 59) 0 .none .none .none
def o651 : Obj := cN "_law_device" 1055 427 1 646 true .none (A 648) (A 649) (A 650) 1059
def o652 : Obj := fn "_law_device" (tst 59) 3 .none (V "law_qz0081_01" 1028) (A 651)
def D4 : Obj := tup []
def D5 : Obj := fl []
def D6 : Obj := tup [V "tree" 1065]
def D7 : Obj := tup []
def D8 : Obj := bT "_law_count" (tst 60) 0 .none .none .none
def o658 : Obj := cN "_law_count" 1062 429 1 653 true .none (A 655) (A 656) (A 657) 1066
def o659 : Obj := fn "_law_count" (tst 60) 3 .none (V "law_qz0081_01" 1028) (A 658)
def D9 : Obj := tup []
def Ea : Obj := fl []
def Eb : Obj := tup [V "pen" 1072, V "deep" 1073, V "way" 1074, V "base" 1075]
def Ec : Obj := tup []
def Ed : Obj := bT "_law_plain" (tst 61) 0 .none .none .none
def o665 : Obj := cN "_law_plain" 1069 439 2 660 true .none (A 662) (A 663) (A 664) 1076
def o666 : Obj := fn "_law_plain" (tst 61) 3 .none (V "law_qz0081_01" 1028) (A 665)
def Ee : Obj := tup []
def Ef : Obj := fl []
def Eg : Obj := bT "_law_inks" (tst 62) 0 .none .none .none
def o670 : Obj := cN "_law_inks" 1079 449 2 667 true .none .none .none (A 669) 1082
def o671 : Obj := fn "_law_inks" (tst 62) 3 .none (V "law_qz0081_01" 1028) (A 670)
def Eh : Obj := tup []
def Ei : Obj := fl []
def Ej : Obj := bT "_law_space" (tst 63) 0 .none .none .none
def o675 : Obj := cN "_law_space" 1085 455 1 672 true .none .none .none (A 674) 1088
def o676 : Obj := fn "_law_space" (tst 63) 3 .none (V "law_qz0081_01" 1028) (A 675)
def Ek : Obj := tup []
def El : Obj := fl []
def Em : Obj := tup [V "pen" 1094, V "shelf" 1095, V "value" 1096]
def En : Obj := tup []
def Eo : Obj := bT "_law_laid" (tst 64) 0 .none .none .none
def o682 : Obj := cN "_law_laid" 1091 467 3 677 true .none (A 679) (A 680) (A 681) 1097
def o683 : Obj := fn "_law_laid" (tst 64) 3 .none (V "law_qz0081_01" 1028) (A 682)
def Ep : Obj := tup []
def Er : Obj := fl []
def Es : Obj := bT "_law_object" (tst 65) 0 .none .none .none
def o687 : Obj := cN "_law_object" 1100 469 3 684 true .none .none .none (A 686) 1103
def o688 : Obj := fn "_law_object" (tst 65) 3 .none (V "law_qz0081_01" 1028) (A 687)
def Et : Obj := tup []
def Eu : Obj := fl []
def Ev : Obj := tup [V "top" 1109, V "below" 1110]
def Ew : Obj := tup []
def Ey : Obj := bT "_law_nearest" (tst 66) 0 .none .none .none
def o694 : Obj := cN "_law_nearest" 1106 495 2 689 true .none (A 691) (A 692) (A 693) 1111
def o695 : Obj := fn "_law_nearest" (tst 66) 3 .none (V "law_qz0081_01" 1028) (A 694)
def Ez : Obj := tup []
def EA : Obj := fl []
def EB : Obj := bT "_law_weighted" (tst 67) 0 .none .none .none
def o699 : Obj := cN "_law_weighted" 1114 497 3 696 true .none .none .none (A 698) 1117
def o700 : Obj := fn "_law_weighted" (tst 67) 3 .none (V "law_qz0081_01" 1028) (A 699)
def G8 (P : Params) : BT := lN (G6 P) [(3, (G7 P)), (12, DH), (622, DI), (623, DJ), (624, DK), (625, o625), (626, o626), (627, DL), (628, DM), (629, DN), (630, o630), (631, o631), (632, DO), (633, DP), (634, DQ), (635, DR), (636, DS), (637, o637), (638, o638), (639, DT), (640, DV), (641, DW), (642, DX), (643, DY), (644, o644), (645, o645), (646, DZ), (647, D0), (648, D1), (649, D2), (650, D3), (651, o651), (652, o652), (653, D4), (654, D5), (655, D6), (656, D7), (657, D8), (658, o658), (659, o659), (660, D9), (661, Ea), (662, Eb), (663, Ec), (664, Ed), (665, o665), (666, o666), (667, Ee), (668, Ef), (669, Eg), (670, o670), (671, o671), (672, Eh), (673, Ei), (674, Ej), (675, o675), (676, o676), (677, Ek), (678, El), (679, Em), (680, En), (681, Eo), (682, o682), (683, o683), (684, Ep), (685, Er), (686, Es), (687, o687), (688, o688), (689, Et), (690, Eu), (691, Ev), (692, Ew), (693, Ey), (694, o694), (695, o695), (696, Ez), (697, EA), (698, EB), (699, o699), (700, o700)]
def qx (P : Params) : Obj := dc [en P "__name__" 165 (V "law_qz0081_01" 1028), en P "__doc__" 166 .none, en P "__package__" 167 .none, en P "__loader__" 168 (.builtin "__main__.__loader__#opaque"), en P "__spec__" 169 .none, en P "__annotations__" 170 (A 6), en P "__builtins__" 171 (A 4), en P "__file__" 173 (V "/claim/cut.py" 172), en P "__cached__" 174 .none, en P "_wall" 193 (A 21), en P "PaperError" 235 (A 46), en P "PaintFault" 251 (A 59), en P "Decimal" 374 (A 155), en P "sign_text" 381 (A 166), en P "sign_of" 388 (A 173), en P "rounded_quotient" 397 (A 180), en P "decimal_of" 404 (A 187), en P "at_one_scale" 415 (A 194), en P "tops_of" 421 (A 199), en P "over" 433 (A 206), en P "sum_of" 442 (A 213), en P "least" 451 (A 220), en P "greatest" 460 (A 227), en P "clamped" 469 (A 234), en P "MOST_HOPS" 473 (.int 30 472), en P "Name" 502 (A 251), en P "String" 533 (A 273), en P "Stream" 564 (A 294), en P "Reference" 602 (A 322), en P "kind_of" 609 (A 333), en P "is_number" 616 (A 340), en P "told_plain" 624 (A 347), en P "told" 630 (A 352), en P "told_objects" 631 (A 352), en P "Lookup" 683 (A 384), en P "Shelf" 746 (A 438), en P "MOST_SPACES" 750 (.int 8 749), en P "MOST_INKS" 752 (.int 32 751), en P "MOST_INDEX" 754 (.int 255 753), en P "SPECIAL" 759 (A 441), en P "Space" 810 (A 467), en P "device_spaces" 816 (A 478), en P "device_space" 823 (A 485), en P "device_of_count" 832 (A 492), en P "Source" 882 (A 523), en P "space_of" 892 (A 535), en P "space_within" 903 (A 542), en P "space_by_name" 913 (A 549), en P "default_space" 924 (A 556), en P "space_by_array" 936 (A 563), en P "base_space" 947 (A 570), en P "profile_space" 958 (A 577), en P "indexed_space" 972 (A 584), en P "opened" 980 (A 591), en P "ink_space" 996 (A 598), en P "cut_numbers" 1002 (A 603), en P "rgb" 1008 (A 609), en P "base_numbers" 1014 (A 614), en P "rest_of" 1021 (A 621), en P "device_rgb" 1027 (A 626), en P "_law_pen" 1035 (A 631), en P "_law_draw" 1048 (A 638), en P "_law_counts" 1054 (A 645), en P "_law_device" 1061 (A 652), en P "_law_count" 1068 (A 659), en P "_law_plain" 1078 (A 666), en P "_law_inks" 1084 (A 671), en P "_law_space" 1090 (A 676), en P "_law_laid" 1099 (A 683), en P "_law_object" 1105 (A 688), en P "_law_nearest" 1113 (A 695), en P "_law_weighted" 1119 (A 700), en P "_law_cut" 1125 (A 705), en P "_law_index" 1134 (A 712), en P "_law_due" 1140 (A 717), en P "_law_told" 1148 (A 724), en P "_law_evaluate" 1154 (A 729), en P "_law_inner" 1161 (A 736), en P "_law_refused" 1171 (A 743), en P "law" 1177 (A 748)] 80
def nb : Obj := fl [I 1, I 0, A 20, I 5, I 0, A 27, I 14, I 0, A 55, I 17, I 0, A 67, I 67, I 0, A 165, I 69, I 0, A 172, I 73, I 0, A 179, I 76, I 0, A 186, I 82, I 0, A 193, I 87, I 0, A 198, I 92, I 0, A 205, I 97, I 0, A 212, I 100, I 0, A 219, I 108, I 0, A 226, I 116, I 0, A 233, I 122, I 0, A 240, I 126, I 0, A 261, I 131, I 0, A 283, I 136, I 0, A 304, I 144, I 0, A 332, I 166, I 0, A 339, I 168, I 0, A 346, I 182, I 0, A 351, I 192, I 0, A 358, I 211, I 0, A 394, I 240, I 0, A 447, I 254, I 0, A 477, I 256, I 0, A 484, I 258, I 0, A 491, I 263, I 0, A 498, I 276, I 0, A 534, I 278, I 0, A 541, I 292, I 0, A 548, I 301, I 0, A 555, I 309, I 0, A 562, I 325, I 0, A 569, I 330, I 0, A 576, I 340, I 0, A 583, I 353, I 0, A 590, I 359, I 0, A 597, I 373, I 0, A 602, I 379, I 0, A 608, I 386, I 0, A 613, I 397, I 0, A 620, I 399, I 0, A 625, I 406, I 0, A 630, I 408, I 0, A 637, I 425, I 0, A 644, I 427, I 0, A 651, I 429, I 0, A 658, I 439, I 0, A 665, I 449, I 0, A 670, I 455, I 0, A 675, I 467, I 0, A 682, I 469, I 0, A 687, I 495, I 0, A 694, I 497, I 0, A 699, I 499, I 0, A 704, I 501, I 0, A 711, I 504, I 0, A 716, I 519, I 0, A 723, I 524, I 0, A 728, I 528, I 0, A 735, I 532, I 0, A 742, I 539, I 0, A 747]
def EC : Obj := tup []
def ED : Obj := fl []
def EE : Obj := bT "_law_cut" (tst 68) 0 .none .none .none
def o704 : Obj := cN "_law_cut" 1120 499 2 701 true .none .none .none (A 703) 1123
def o705 : Obj := fn "_law_cut" (tst 68) 3 .none (V "law_qz0081_01" 1028) (A 704)
def EF : Obj := tup []
def EG : Obj := fl []
def EH : Obj := tup [V "tree" 1129, V "top" 1130, V "near" 1131]
def EI : Obj := tup []
def EJ : Obj := bT "_law_index" (tst 69) 0 .none .none .none
def o711 : Obj := cN "_law_index" 1126 501 2 706 true .none (A 708) (A 709) (A 710) 1132
def o712 : Obj := fn "_law_index" (tst 69) 3 .none (V "law_qz0081_01" 1028) (A 711)
def EK : Obj := tup []
def EL : Obj := fl []
def EM : Obj := bT "_law_due" (tst 70) 0 .none .none .none
def o716 : Obj := cN "_law_due" 1135 504 4 713 true .none .none .none (A 715) 1138
def o717 : Obj := fn "_law_due" (tst 70) 3 .none (V "law_qz0081_01" 1028) (A 716)
def EN : Obj := tup []
def EO : Obj := fl []
def EP : Obj := tup [V "worth" 1144, V "scale" 1145]
def EQ : Obj := tup []
def ER : Obj := bT "_law_told" (tst 71) 0 .none .none .none
def o723 : Obj := cN "_law_told" 1141 519 2 718 true .none (A 720) (A 721) (A 722) 1146
def o724 : Obj := fn "_law_told" (tst 71) 3 .none (V "law_qz0081_01" 1028) (A 723)
def ES : Obj := tup []
def ET : Obj := fl []
def EU : Obj := bT "_law_evaluate" (tst 72) 0 .none .none .none
def o728 : Obj := cN "_law_evaluate" 1149 524 3 725 true .none .none .none (A 727) 1152
def o729 : Obj := fn "_law_evaluate" (tst 72) 3 .none (V "law_qz0081_01" 1028) (A 728)
def EV : Obj := tup []
def EW : Obj := fl []
def EX : Obj := tup [V "tree" 1158]
def EY : Obj := tup []
def EZ : Obj := bT "_law_inner" (tst 73) 0 .none .none .none
def o735 : Obj := cN "_law_inner" 1155 528 1 730 true .none (A 732) (A 733) (A 734) 1159
def o736 : Obj := fn "_law_inner" (tst 73) 3 .none (V "law_qz0081_01" 1028) (A 735)
def E0 : Obj := tup []
def E1 : Obj := fl []
def E2 : Obj := tup [V "space" 1165, V "numbers" 1166, V "evaluate" 1167, V "heard" 1168]
def E3 : Obj := tup []
def E4 : Obj := bT "_law_refused" (tst 74) 0 .none .none .none
def o742 : Obj := cN "_law_refused" 1162 532 3 737 true .none (A 739) (A 740) (A 741) 1169
def o743 : Obj := fn "_law_refused" (tst 74) 3 .none (V "law_qz0081_01" 1028) (A 742)
def E5 : Obj := tup []
def G9 : Obj := fl []
def E6 : Obj := bT "law" (tst 75) 0 .none .none .none
def o747 : Obj := cN "law" 1172 539 1 744 true .none .none .none (A 746) 1175
def o748 : Obj := fn "law" (tst 75) 3 .none (V "law_qz0081_01" 1028) (A 747)
def Lo (P : Params) : BT := lN (G8 P) [(3, (qx P)), (12, nb), (701, EC), (702, ED), (703, EE), (704, o704), (705, o705), (706, EF), (707, EG), (708, EH), (709, EI), (710, EJ), (711, o711), (712, o712), (713, EK), (714, EL), (715, EM), (716, o716), (717, o717), (718, EN), (719, EO), (720, EP), (721, EQ), (722, ER), (723, o723), (724, o724), (725, ES), (726, ET), (727, EU), (728, o728), (729, o729), (730, EV), (731, EW), (732, EX), (733, EY), (734, EZ), (735, o735), (736, o736), (737, E0), (738, E1), (739, E2), (740, E3), (741, E4), (742, o742), (743, o743), (744, E5), (745, G9), (746, E6), (747, o747), (748, o748)]
noncomputable def tL (P : Params) : List Obj := [(boot_o_0 P), (boot_o_1 P), (wm P), (qx P), (boot_o_4 P), (boot_o_5 P), (boot_o_6 P), (boot_o_7 P), (boot_o_8 P), (boot_o_9 P), (boot_o_10 P), JR, nb, JS, JU, JW, JX, JY, JZ, J0, J1, J2, J3, J4, (J5 P), J6, J7, J8, J9, Ka, Kb, Kc, Kd, Ke, Kf, o35, o36, Kg, Kh, Ki, Kj, Kk, Kl, Km, Kn, (Kq P), qw, Kr, Ks, Kt, Kv, Kw, (Kx P), Ky, Kz, KB, KC, KD, (KE P), o59, KG, KH, KJ, KK, (KL P), KM, KN, KO, KP, KR, KS, KT, KU, KV, o74, o75, KW, KX, KY, KZ, K1, K2, K3, K4, K5, K6, K7, K8, o88, o89, K9, La, Lb, Lc, Ld, o95, o96, Le, Lf, Lg, wn, wo, wp, wq, wt, wu, wv, ww, wx, o109, o110, wy, wz, wA, wB, wC, wD, wE, wF, wG, wH, wI, wJ, o123, o124, wK, wL, wM, wN, wO, o130, o131, wP, wQ, wR, wS, wT, o137, o138, wU, wV, wW, wX, wY, wZ, w0, w3, w5, w6, w7, w8, w9, xa, xb, (xc P), xd, xe, xf, xg, xh, xi, xj, xk, xl, xm, xn, xo, xq, xr, xt, xu, xv, o172, o173, xw, xy, xz, xA, xB, o179, o180, xC, xD, xE, xF, xG, o186, o187, xH, xI, xJ, xK, xL, o193, o194, xM, xN, xO, o198, o199, xP, xQ, xR, xS, xT, o205, o206, xU, xV, xW, xX, xY, o212, o213, xZ, x4, x5, x6, x7, o219, o220, x8, x9, ya, yb, yc, o226, o227, yd, ye, yf, yg, yh, o233, o234, yi, yj, (yk P), yl, ym, yn, yo, yp, yq, yr, yt, yu, o247, o248, yv, (yw P), yx, yy, yz, yA, yB, yC, yD, (yE P), yF, yG, yH, yI, o263, yJ, yK, yL, yM, yN, o269, o270, yO, (yP P), yQ, yR, yS, yT, yU, yV, yW, (yX P), yY, yZ, y0, y1, y2, y3, y4, y5, y6, o290, o291, y7, (y8 P), y9, za, zb, zc, zd, ze, zf, (zg P), zh, zi, zj, zk, zl, zm, zn, zo, zp, o311, o312, zq, zr, zt, zu, zv, zw, zx, zy, (zA P), zB, zC, zD, zE, zF, zG, zH, zI, zJ, zK, o332, o333, zL, zM, zN, zO, zP, o339, o340, zQ, zR, zS, zT, zU, zV, zW, zX, zY, zZ, z0, z1, z2, z3, (z4 P), z5, z6, z7, z8, o360, z9, Aa, Ab, Ac, Ad, o366, o367, Ae, Af, Ag, Ah, Ai, o373, o374, Aj, Ak, Al, Am, An, o380, o381, Ao, (Ap P), kN, Aq, Ar, As, Au, Ax, Ay, (Az P), AA, AB, AC, AD, AE, AF, AG, AH, AI, AJ, AK, AL, AM, AN, AO, AP, o408, o409, AQ, AR, AS, AT, AU, AV, AW, AX, AY, AZ, A0, A1, A2, A3, A4, A5, A6, A7, A8, A9, Ba, Bb, Bc, Be, Bf, Bg, Bh, (Bj P), Bk, Bl, Bm, o441, Bo, Bp, (Bq P), Br, Bt, Bu, Bv, o449, o450, Bw, Bx, By, Bz, BA, o456, o457, BB, BC, BD, BE, BF, BG, BH, BI, (BJ P), BK, BL, BN, BO, BP, BQ, BR, BS, BU, BV, o477, o478, BW, BX, BY, BZ, B1, o484, o485, B3, B4, B5, B6, B7, o491, o492, B8, B9, (Ca P), Cb, Cc, Cd, Cf, Cg, Ch, Ci, Cj, Ck, o505, o506, Cl, Cm, Cn, Co, Cp, o512, o513, Cq, Cr, Cs, Ct, Cu, o519, o520, Cv, (Cw P), Cy, Cz, CA, CB, CC, o528, CD, CE, CF, CG, CH, o534, o535, CJ, CK, CL, CM, CN, o541, o542, CP, CQ, CR, CS, CT, o548, o549, CU, CV, CW, CX, CY, o555, o556, CZ, C0, C1, C2, C3, o562, o563, C4, C5, C6, C7, C8, o569, o570, C9, Da, Db, Dc, Dd, o576, o577, De, Df, Dg, Dh, Di, o583, o584, Dj, Dk, Dl, Dm, Dn, o590, o591, Do, Dp, Dq, Dr, Ds, o597, o598, Dt, Du, Dv, o602, o603, o604, Dw, Dx, Dy, o608, o609, Dz, DA, DB, o613, o614, DC, DD, DE, DF, DG, o620, o621, DI, DJ, DK, o625, o626, DL, DM, DN, o630, o631, DO, DP, DQ, DR, DS, o637, o638, DT, DV, DW, DX, DY, o644, o645, DZ, D0, D1, D2, D3, o651, o652, D4, D5, D6, D7, D8, o658, o659, D9, Ea, Eb, Ec, Ed, o665, o666, Ee, Ef, Eg, o670, o671, Eh, Ei, Ej, o675, o676, Ek, El, Em, En, Eo, o682, o683, Ep, Er, Es, o687, o688, Et, Eu, Ev, Ew, Ey, o694, o695, Ez, EA, EB, o699, o700, EC, ED, EE, o704, o705, EF, EG, EH, EI, EJ, o711, o712, EK, EL, EM, o716, o717, EN, EO, EP, EQ, ER, o723, o724, ES, ET, EU, o728, o729, EV, EW, EX, EY, EZ, o735, o736, E0, E1, E2, E3, E4, o742, o743, E5, G9, E6, o747, o748]
theorem q0 (w : World) (p : Program) (b : List Stmt) (os : OsState) : Fast.tw10110043849684766642 Fast.tw14364793385576792824 p w 11 (some (A 6)) 1 307 (sh (t0 w.params) 15 187 os) (gj (d8 0 3) b ⟨0, 0, 0, 0⟩) = some (.next, sh (t1 w.params) 50 236 os, .body b cG, ⟨5, 0, 13, 35⟩) := by kernel_rfl
theorem q1 (w : World) (p : Program) (b : List Stmt) (os : OsState) : Fast.tw10110043849684766642 Fast.tw14364793385576792824 p w 11 (some (A 6)) 1 223 (sh (t1 w.params) 50 236 os) (gj (d8 3 2) b ⟨5, 0, 13, 35⟩) = some (.next, sh (t2 w.params) 62 254 os, .body b cG, ⟨16, 0, 16, 8⟩) := by kernel_rfl
theorem q2 (w : World) (p : Program) (b : List Stmt) (os : OsState) : Fast.tw10110043849684766642 Fast.tw14364793385576792824 p w 11 (some (A 6)) 1 579 (sh (t2 w.params) 62 254 os) (gj (d8 5 1) b ⟨16, 0, 16, 8⟩) = some (.next, sh (t3 w.params) 160 375 os, .body b cG, ⟨17, 0, 66, 16⟩) := by kernel_rfl
theorem q3 (w : World) (p : Program) (b : List Stmt) (os : OsState) : Fast.tw10110043849684766642 Fast.tw14364793385576792824 p w 11 (some (A 6)) 1 354 (sh (t3 w.params) 160 375 os) (gj (d8 6 13) b ⟨17, 0, 66, 16⟩) = some (.next, sh (t4 w.params) 235 474 os, .body b cG, ⟨121, 0, 121, 9⟩) := by kernel_rfl
theorem q4 (w : World) (p : Program) (b : List Stmt) (os : OsState) : Fast.tw10110043849684766642 Fast.tw14364793385576792824 p w 11 (some (A 6)) 1 223 (sh (t4 w.params) 235 474 os) (gj (d8 19 1) b ⟨121, 0, 121, 9⟩) = some (.next, sh (t5 w.params) 256 503 os, .body b cG, ⟨122, 0, 125, 24⟩) := by kernel_rfl
theorem q5 (w : World) (p : Program) (b : List Stmt) (os : OsState) : Fast.tw10110043849684766642 Fast.tw14364793385576792824 p w 11 (some (A 6)) 1 226 (sh (t5 w.params) 256 503 os) (gj (d8 20 1) b ⟨122, 0, 125, 24⟩) = some (.next, sh (t6 w.params) 278 534 os, .body b cG, ⟨126, 0, 130, 28⟩) := by kernel_rfl
theorem q6 (w : World) (p : Program) (b : List Stmt) (os : OsState) : Fast.tw10110043849684766642 Fast.tw14364793385576792824 p w 11 (some (A 6)) 1 225 (sh (t6 w.params) 278 534 os) (gj (d8 21 1) b ⟨126, 0, 130, 28⟩) = some (.next, sh (t7 w.params) 299 565 os, .body b cG, ⟨131, 0, 135, 28⟩) := by kernel_rfl
theorem q7 (w : World) (p : Program) (b : List Stmt) (os : OsState) : Fast.tw10110043849684766642 Fast.tw14364793385576792824 p w 11 (some (A 6)) 1 380 (sh (t7 w.params) 299 565 os) (gj (d8 22 6) b ⟨131, 0, 135, 28⟩) = some (.next, sh (t8 w.params) 353 632 os, .body b cG, ⟨191, 0, 191, 12⟩) := by kernel_rfl
theorem q8 (w : World) (p : Program) (b : List Stmt) (os : OsState) : Fast.tw10110043849684766642 Fast.tw14364793385576792824 p w 11 (some (A 6)) 1 295 (sh (t8 w.params) 353 632 os) (gj (d8 28 1) b ⟨191, 0, 191, 12⟩) = some (.next, sh (t9 w.params) 389 684 os, .body b cG, ⟨192, 0, 210, 40⟩) := by kernel_rfl
theorem q9 (w : World) (p : Program) (b : List Stmt) (os : OsState) : Fast.tw10110043849684766642 Fast.tw14364793385576792824 p w 11 (some (A 6)) 1 402 (sh (t9 w.params) 389 684 os) (gj (d8 29 1) b ⟨192, 0, 210, 40⟩) = some (.next, sh (GZ w.params) 441 747 os, .body b cG, ⟨211, 0, 234, 49⟩) := by kernel_rfl
theorem Oi (w : World) (p : Program) (b : List Stmt) (os : OsState) : Fast.tw10110043849684766642 Fast.tw14364793385576792824 p w 11 (some (A 6)) 1 379 (sh (GZ w.params) 441 747 os) (gj (d8 30 8) b ⟨211, 0, 234, 49⟩) = some (.next, sh (G1 w.params) 486 824 os, .body b cG, ⟨256, 0, 257, 45⟩) := by kernel_rfl
theorem Oj (w : World) (p : Program) (b : List Stmt) (os : OsState) : Fast.tw10110043849684766642 Fast.tw14364793385576792824 p w 11 (some (A 6)) 1 389 (sh (G1 w.params) 486 824 os) (gj (d8 38 4) b ⟨256, 0, 257, 45⟩) = some (.next, sh (G4 w.params) 543 904 os, .body b cG, ⟨278, 0, 291, 56⟩) := by kernel_rfl
theorem Ol (w : World) (p : Program) (b : List Stmt) (os : OsState) : Fast.tw10110043849684766642 Fast.tw14364793385576792824 p w 11 (some (A 6)) 1 378 (sh (G4 w.params) 543 904 os) (gj (d8 42 12) b ⟨278, 0, 291, 56⟩) = some (.next, sh (G6 w.params) 622 1022 os, .body b cG, ⟨397, 0, 398, 62⟩) := by kernel_rfl
theorem Om (w : World) (p : Program) (b : List Stmt) (os : OsState) : Fast.tw10110043849684766642 Fast.tw14364793385576792824 p w 11 (some (A 6)) 1 380 (sh (G6 w.params) 622 1022 os) (gj (d8 54 14) b ⟨397, 0, 398, 62⟩) = some (.next, sh (G8 w.params) 701 1120 os, .body b cG, ⟨497, 0, 498, 119⟩) := by kernel_rfl
theorem On (w : World) (p : Program) (b : List Stmt) (os : OsState) : Fast.tw10110043849684766642 Fast.tw14364793385576792824 p w 11 (some (A 6)) 1 227 (sh (G8 w.params) 701 1120 os) (gj (d8 68 8) b ⟨497, 0, 498, 119⟩) = some (.next, sh (Lo w.params) 749 1178 os, .body b cG, ⟨539, 0, 563, 143⟩) := by kernel_rfl
end HB
namespace HB
open PySem PySem.W
noncomputable def B0 : List Stmt := behindTheImports P0
noncomputable def cE : Code := .body B0 cG
noncomputable def H1 (P : Params) : Heap := { objs := Array.mk (tL P), life := {} }
theorem r0 (w : World) (os : OsState) : segRun treeTable P0 w 11 (some (.ref 6)) 1 307 (sh (t0 w.params) 15 187 os).abs (piecesOf (d8 0 3) cG cE ⟨0, 0, 0, 0⟩ [topFrame ⟨0, 0, 0, 0⟩]) = some (.next, (sh (t1 w.params) 50 236 os).abs, cE, ⟨5, 0, 13, 35⟩) := by
 have e := q0 w P0 B0 os
 unfold gj at e
 rw [← Fast.te10110043849684766642, ← Fast.te14364793385576792824, ← Fast.te12563942051412417395] at e
 exact segRun_of e
theorem r1 (w : World) (os : OsState) : segRun treeTable P0 w 11 (some (.ref 6)) 1 223 (sh (t1 w.params) 50 236 os).abs (piecesOf (d8 3 2) cG cE ⟨5, 0, 13, 35⟩ [topFrame ⟨0, 0, 0, 0⟩]) = some (.next, (sh (t2 w.params) 62 254 os).abs, cE, ⟨16, 0, 16, 8⟩) := by
 have e := q1 w P0 B0 os
 unfold gj at e
 rw [← Fast.te10110043849684766642, ← Fast.te14364793385576792824, ← Fast.te12563942051412417395] at e
 exact segRun_of e
theorem r2 (w : World) (os : OsState) : segRun treeTable P0 w 11 (some (.ref 6)) 1 579 (sh (t2 w.params) 62 254 os).abs (piecesOf (d8 5 1) cG cE ⟨16, 0, 16, 8⟩ [topFrame ⟨0, 0, 0, 0⟩]) = some (.next, (sh (t3 w.params) 160 375 os).abs, cE, ⟨17, 0, 66, 16⟩) := by
 have e := q2 w P0 B0 os
 unfold gj at e
 rw [← Fast.te10110043849684766642, ← Fast.te14364793385576792824, ← Fast.te12563942051412417395] at e
 exact segRun_of e
theorem r3 (w : World) (os : OsState) : segRun treeTable P0 w 11 (some (.ref 6)) 1 354 (sh (t3 w.params) 160 375 os).abs (piecesOf (d8 6 13) cG cE ⟨17, 0, 66, 16⟩ [topFrame ⟨0, 0, 0, 0⟩]) = some (.next, (sh (t4 w.params) 235 474 os).abs, cE, ⟨121, 0, 121, 9⟩) := by
 have e := q3 w P0 B0 os
 unfold gj at e
 rw [← Fast.te10110043849684766642, ← Fast.te14364793385576792824, ← Fast.te12563942051412417395] at e
 exact segRun_of e
theorem r4 (w : World) (os : OsState) : segRun treeTable P0 w 11 (some (.ref 6)) 1 223 (sh (t4 w.params) 235 474 os).abs (piecesOf (d8 19 1) cG cE ⟨121, 0, 121, 9⟩ [topFrame ⟨0, 0, 0, 0⟩]) = some (.next, (sh (t5 w.params) 256 503 os).abs, cE, ⟨122, 0, 125, 24⟩) := by
 have e := q4 w P0 B0 os
 unfold gj at e
 rw [← Fast.te10110043849684766642, ← Fast.te14364793385576792824, ← Fast.te12563942051412417395] at e
 exact segRun_of e
theorem r5 (w : World) (os : OsState) : segRun treeTable P0 w 11 (some (.ref 6)) 1 226 (sh (t5 w.params) 256 503 os).abs (piecesOf (d8 20 1) cG cE ⟨122, 0, 125, 24⟩ [topFrame ⟨0, 0, 0, 0⟩]) = some (.next, (sh (t6 w.params) 278 534 os).abs, cE, ⟨126, 0, 130, 28⟩) := by
 have e := q5 w P0 B0 os
 unfold gj at e
 rw [← Fast.te10110043849684766642, ← Fast.te14364793385576792824, ← Fast.te12563942051412417395] at e
 exact segRun_of e
theorem r6 (w : World) (os : OsState) : segRun treeTable P0 w 11 (some (.ref 6)) 1 225 (sh (t6 w.params) 278 534 os).abs (piecesOf (d8 21 1) cG cE ⟨126, 0, 130, 28⟩ [topFrame ⟨0, 0, 0, 0⟩]) = some (.next, (sh (t7 w.params) 299 565 os).abs, cE, ⟨131, 0, 135, 28⟩) := by
 have e := q6 w P0 B0 os
 unfold gj at e
 rw [← Fast.te10110043849684766642, ← Fast.te14364793385576792824, ← Fast.te12563942051412417395] at e
 exact segRun_of e
theorem r7 (w : World) (os : OsState) : segRun treeTable P0 w 11 (some (.ref 6)) 1 380 (sh (t7 w.params) 299 565 os).abs (piecesOf (d8 22 6) cG cE ⟨131, 0, 135, 28⟩ [topFrame ⟨0, 0, 0, 0⟩]) = some (.next, (sh (t8 w.params) 353 632 os).abs, cE, ⟨191, 0, 191, 12⟩) := by
 have e := q7 w P0 B0 os
 unfold gj at e
 rw [← Fast.te10110043849684766642, ← Fast.te14364793385576792824, ← Fast.te12563942051412417395] at e
 exact segRun_of e
theorem r8 (w : World) (os : OsState) : segRun treeTable P0 w 11 (some (.ref 6)) 1 295 (sh (t8 w.params) 353 632 os).abs (piecesOf (d8 28 1) cG cE ⟨191, 0, 191, 12⟩ [topFrame ⟨0, 0, 0, 0⟩]) = some (.next, (sh (t9 w.params) 389 684 os).abs, cE, ⟨192, 0, 210, 40⟩) := by
 have e := q8 w P0 B0 os
 unfold gj at e
 rw [← Fast.te10110043849684766642, ← Fast.te14364793385576792824, ← Fast.te12563942051412417395] at e
 exact segRun_of e
theorem r9 (w : World) (os : OsState) : segRun treeTable P0 w 11 (some (.ref 6)) 1 402 (sh (t9 w.params) 389 684 os).abs (piecesOf (d8 29 1) cG cE ⟨192, 0, 210, 40⟩ [topFrame ⟨0, 0, 0, 0⟩]) = some (.next, (sh (GZ w.params) 441 747 os).abs, cE, ⟨211, 0, 234, 49⟩) := by
 have e := q9 w P0 B0 os
 unfold gj at e
 rw [← Fast.te10110043849684766642, ← Fast.te14364793385576792824, ← Fast.te12563942051412417395] at e
 exact segRun_of e
theorem Oo (w : World) (os : OsState) : segRun treeTable P0 w 11 (some (.ref 6)) 1 379 (sh (GZ w.params) 441 747 os).abs (piecesOf (d8 30 8) cG cE ⟨211, 0, 234, 49⟩ [topFrame ⟨0, 0, 0, 0⟩]) = some (.next, (sh (G1 w.params) 486 824 os).abs, cE, ⟨256, 0, 257, 45⟩) := by
 have e := Oi w P0 B0 os
 unfold gj at e
 rw [← Fast.te10110043849684766642, ← Fast.te14364793385576792824, ← Fast.te12563942051412417395] at e
 exact segRun_of e
theorem Op (w : World) (os : OsState) : segRun treeTable P0 w 11 (some (.ref 6)) 1 389 (sh (G1 w.params) 486 824 os).abs (piecesOf (d8 38 4) cG cE ⟨256, 0, 257, 45⟩ [topFrame ⟨0, 0, 0, 0⟩]) = some (.next, (sh (G4 w.params) 543 904 os).abs, cE, ⟨278, 0, 291, 56⟩) := by
 have e := Oj w P0 B0 os
 unfold gj at e
 rw [← Fast.te10110043849684766642, ← Fast.te14364793385576792824, ← Fast.te12563942051412417395] at e
 exact segRun_of e
theorem Oq (w : World) (os : OsState) : segRun treeTable P0 w 11 (some (.ref 6)) 1 378 (sh (G4 w.params) 543 904 os).abs (piecesOf (d8 42 12) cG cE ⟨278, 0, 291, 56⟩ [topFrame ⟨0, 0, 0, 0⟩]) = some (.next, (sh (G6 w.params) 622 1022 os).abs, cE, ⟨397, 0, 398, 62⟩) := by
 have e := Ol w P0 B0 os
 unfold gj at e
 rw [← Fast.te10110043849684766642, ← Fast.te14364793385576792824, ← Fast.te12563942051412417395] at e
 exact segRun_of e
theorem Os (w : World) (os : OsState) : segRun treeTable P0 w 11 (some (.ref 6)) 1 380 (sh (G6 w.params) 622 1022 os).abs (piecesOf (d8 54 14) cG cE ⟨397, 0, 398, 62⟩ [topFrame ⟨0, 0, 0, 0⟩]) = some (.next, (sh (G8 w.params) 701 1120 os).abs, cE, ⟨497, 0, 498, 119⟩) := by
 have e := Om w P0 B0 os
 unfold gj at e
 rw [← Fast.te10110043849684766642, ← Fast.te14364793385576792824, ← Fast.te12563942051412417395] at e
 exact segRun_of e
theorem Ot (w : World) (os : OsState) : segRun treeTable P0 w 11 (some (.ref 6)) 1 227 (sh (G8 w.params) 701 1120 os).abs (piecesOf (d8 68 8) cG cE ⟨497, 0, 498, 119⟩ [topFrame ⟨0, 0, 0, 0⟩]) = some (.next, (sh (Lo w.params) 749 1178 os).abs, cE, ⟨539, 0, 563, 143⟩) := by
 have e := On w P0 B0 os
 unfold gj at e
 rw [← Fast.te10110043849684766642, ← Fast.te14364793385576792824, ← Fast.te12563942051412417395] at e
 exact segRun_of e
theorem E7 : B0 = d8 0 3 ++ (d8 3 2 ++ (d8 5 1 ++ (d8 6 13 ++ (d8 19 1 ++ (d8 20 1 ++ (d8 21 1 ++ (d8 22 6 ++ (d8 28 1 ++ (d8 29 1 ++ (d8 30 8 ++ (d8 38 4 ++ (d8 42 12 ++ (d8 54 14 ++ (d8 68 8 ++ [])))))))))))))) := by kernel_rfl
theorem pre (w : World) (os : OsState) : topGo treeTable P0 w 11 (some (.ref 6)) 12 ⟨boot_heap w.params, Array.mk [], boot_drawn, boot_toks, os⟩ (topStub P0) = some ((sh (t0 w.params) 15 187 os).abs, ⟨denote treeTable cE, cE, ⟨0, 0, 0, 0⟩, [topFrame ⟨0, 0, 0, 0⟩]⟩) := by
 rw [Fast.te15667345088766844465, Fast.te14364793385576792824, Fast.te11892475500146522536]
 kernel_rfl
theorem blk (w : World) (os : OsState) : segRun treeTable P0 w 11 (some (.ref 6)) 1 1 (sh (t0 w.params) 15 187 os).abs (blockOf B0 cG cE ⟨0, 0, 0, 0⟩ [topFrame ⟨0, 0, 0, 0⟩]) = some (.next, (sh (t0 w.params) 15 187 os).abs, cE, ⟨0, 0, 0, 0⟩) := by
 rw [Fast.te14374325043358763698, Fast.te14364793385576792824]
 kernel_rfl
theorem fin (w : World) (os : OsState) : topRun treeTable P0 w 11 (some (.ref 6)) 2 (sh (Lo w.params) 749 1178 os).abs ⟨doneF .next, cE, ⟨539, 0, 563, 143⟩, [topFrame ⟨0, 0, 0, 0⟩]⟩ = some ⟨H1 w.params, Array.mk [], {}, 1178, os⟩ := by
 rw [Fast.te14082659384304107361, Fast.te14364793385576792824]
 kernel_rfl
theorem Ha (w : World) (os : OsState) : topRun treeTable P0 w 11 (some (.ref 6)) (12 + (1 + (307 + (223 + (579 + (354 + (223 + (226 + (225 + (380 + (295 + (402 + (379 + (389 + (378 + (380 + (227 + 2))))))))))))))))) ⟨boot_heap w.params, Array.mk [], boot_drawn, boot_toks, os⟩ (topStub P0) = some ⟨H1 w.params, Array.mk [], {}, 1178, os⟩ := by
 refine go_top (pre w os) (piece_block (blk w os) ?_)
 rw [E7]
 exact piece_app (r0 w os) (piece_app (r1 w os) (piece_app (r2 w os) (piece_app (r3 w os) (piece_app (r4 w os) (piece_app (r5 w os) (piece_app (r6 w os) (piece_app (r7 w os) (piece_app (r8 w os) (piece_app (r9 w os) (piece_app (Oo w os) (piece_app (Op w os) (piece_app (Oq w os) (piece_app (Os w os) (piece_app (Ot w os) (piece_nil (fin w os))))))))))))))))
end HB
namespace HB
open PySem PySem.W
noncomputable def qv : Program := { P0 with main := { P0.main with body := [tst 75] } }
noncomputable def loose : List Str := List.map Str.ofString (["_wall", "PaperError", "PaintFault", "Decimal", "sign_text", "sign_of", "rounded_quotient", "decimal_of", "at_one_scale", "tops_of", "over", "sum_of", "least", "greatest", "clamped", "MOST_HOPS", "Name", "String", "Stream", "Reference", "kind_of", "is_number", "told_plain", "told", "told_objects", "Lookup", "Shelf", "MOST_SPACES", "MOST_INKS", "MOST_INDEX", "SPECIAL", "Space", "device_spaces", "device_space", "device_of_count", "Source", "space_of", "space_within", "space_by_name", "default_space", "space_by_array", "base_space", "profile_space", "indexed_space", "opened", "ink_space", "cut_numbers", "rgb", "base_numbers", "rest_of", "device_rgb", "_law_pen", "_law_draw", "_law_counts", "_law_device", "_law_count", "_law_plain", "_law_inks", "_law_space", "_law_laid", "_law_object", "_law_nearest", "_law_weighted", "_law_cut", "_law_index", "_law_due", "_law_told", "_law_evaluate", "_law_inner", "_law_refused"] : List String)
noncomputable def KF (P : Params) : Frag := [(0, (boot_o_0 P)), (1, (boot_o_1 P)), (2, (wm P)), (3, (qx P)), (4, (boot_o_4 P)), (5, (boot_o_5 P)), (6, (boot_o_6 P)), (7, (boot_o_7 P)), (8, (boot_o_8 P)), (9, (boot_o_9 P)), (10, (boot_o_10 P)), (11, JR), (12, nb), (13, JS), (14, JU), (15, JW), (16, JX), (17, JY), (18, JZ), (19, J0), (20, J1), (21, J2), (22, J3), (23, J4), (24, (J5 P)), (25, J6), (26, J7), (27, J8), (28, J9), (29, Ka), (30, Kb), (31, Kc), (32, Kd), (33, Ke), (34, Kf), (35, o35), (36, o36), (37, Kg), (38, Kh), (39, Ki), (40, Kj), (41, Kk), (42, Kl), (43, Km), (44, Kn), (45, (Kq P)), (46, qw), (47, Kr), (48, Ks), (49, Kt), (50, Kv), (51, Kw), (52, (Kx P)), (53, Ky), (54, Kz), (55, KB), (56, KC), (57, KD), (58, (KE P)), (59, o59), (60, KG), (61, KH), (62, KJ), (63, KK), (64, (KL P)), (65, KM), (66, KN), (67, KO), (68, KP), (69, KR), (70, KS), (71, KT), (72, KU), (73, KV), (74, o74), (75, o75), (76, KW), (77, KX), (78, KY), (79, KZ), (80, K1), (81, K2), (82, K3), (83, K4), (84, K5), (85, K6), (86, K7), (87, K8), (88, o88), (89, o89), (90, K9), (91, La), (92, Lb), (93, Lc), (94, Ld), (95, o95), (96, o96), (97, Le), (98, Lf), (99, Lg), (100, wn), (101, wo), (102, wp), (103, wq), (104, wt), (105, wu), (106, wv), (107, ww), (108, wx), (109, o109), (110, o110), (111, wy), (112, wz), (113, wA), (114, wB), (115, wC), (116, wD), (117, wE), (118, wF), (119, wG), (120, wH), (121, wI), (122, wJ), (123, o123), (124, o124), (125, wK), (126, wL), (127, wM), (128, wN), (129, wO), (130, o130), (131, o131), (132, wP), (133, wQ), (134, wR), (135, wS), (136, wT), (137, o137), (138, o138), (139, wU), (140, wV), (141, wW), (142, wX), (143, wY), (144, wZ), (145, w0), (146, w3), (147, w5), (148, w6), (149, w7), (150, w8), (151, w9), (152, xa), (153, xb), (154, (xc P)), (155, xd), (156, xe), (157, xf), (158, xg), (159, xh), (160, xi), (161, xj), (162, xk), (163, xl), (164, xm), (165, xn), (166, xo), (167, xq), (168, xr), (169, xt), (170, xu), (171, xv), (172, o172), (173, o173), (174, xw), (175, xy), (176, xz), (177, xA), (178, xB), (179, o179), (180, o180), (181, xC), (182, xD), (183, xE), (184, xF), (185, xG), (186, o186), (187, o187), (188, xH), (189, xI), (190, xJ), (191, xK), (192, xL), (193, o193), (194, o194), (195, xM), (196, xN), (197, xO), (198, o198), (199, o199), (200, xP), (201, xQ), (202, xR), (203, xS), (204, xT), (205, o205), (206, o206), (207, xU), (208, xV), (209, xW), (210, xX), (211, xY), (212, o212), (213, o213), (214, xZ), (215, x4), (216, x5), (217, x6), (218, x7), (219, o219), (220, o220), (221, x8), (222, x9), (223, ya), (224, yb), (225, yc), (226, o226), (227, o227), (228, yd), (229, ye), (230, yf), (231, yg), (232, yh), (233, o233), (234, o234), (235, yi), (236, yj), (237, (yk P)), (238, yl), (239, ym), (240, yn), (241, yo), (242, yp), (243, yq), (244, yr), (245, yt), (246, yu), (247, o247), (248, o248), (249, yv), (250, (yw P)), (251, yx), (252, yy), (253, yz), (254, yA), (255, yB), (256, yC), (257, yD), (258, (yE P)), (259, yF), (260, yG), (261, yH), (262, yI), (263, o263), (264, yJ), (265, yK), (266, yL), (267, yM), (268, yN), (269, o269), (270, o270), (271, yO), (272, (yP P)), (273, yQ), (274, yR), (275, yS), (276, yT), (277, yU), (278, yV), (279, yW), (280, (yX P)), (281, yY), (282, yZ), (283, y0), (284, y1), (285, y2), (286, y3), (287, y4), (288, y5), (289, y6), (290, o290), (291, o291), (292, y7), (293, (y8 P)), (294, y9), (295, za), (296, zb), (297, zc), (298, zd), (299, ze), (300, zf), (301, (zg P)), (302, zh), (303, zi), (304, zj), (305, zk), (306, zl), (307, zm), (308, zn), (309, zo), (310, zp), (311, o311), (312, o312), (313, zq), (314, zr), (315, zt), (316, zu), (317, zv), (318, zw), (319, zx), (320, zy), (321, (zA P)), (322, zB), (323, zC), (324, zD), (325, zE), (326, zF), (327, zG), (328, zH), (329, zI), (330, zJ), (331, zK), (332, o332), (333, o333), (334, zL), (335, zM), (336, zN), (337, zO), (338, zP), (339, o339), (340, o340), (341, zQ), (342, zR), (343, zS), (344, zT), (345, zU), (346, zV), (347, zW), (348, zX), (349, zY), (350, zZ), (351, z0), (352, z1), (353, z2), (354, z3), (355, (z4 P)), (356, z5), (357, z6), (358, z7), (359, z8), (360, o360), (361, z9), (362, Aa), (363, Ab), (364, Ac), (365, Ad), (366, o366), (367, o367), (368, Ae), (369, Af), (370, Ag), (371, Ah), (372, Ai), (373, o373), (374, o374), (375, Aj), (376, Ak), (377, Al), (378, Am), (379, An), (380, o380), (381, o381), (382, Ao), (383, (Ap P)), (384, kN), (385, Aq), (386, Ar), (387, As), (388, Au), (389, Ax), (390, Ay), (391, (Az P)), (392, AA), (393, AB), (394, AC), (395, AD), (396, AE), (397, AF), (398, AG), (399, AH), (400, AI), (401, AJ), (402, AK), (403, AL), (404, AM), (405, AN), (406, AO), (407, AP), (408, o408), (409, o409), (410, AQ), (411, AR), (412, AS), (413, AT), (414, AU), (415, AV), (416, AW), (417, AX), (418, AY), (419, AZ), (420, A0), (421, A1), (422, A2), (423, A3), (424, A4), (425, A5), (426, A6), (427, A7), (428, A8), (429, A9), (430, Ba), (431, Bb), (432, Bc), (433, Be), (434, Bf), (435, Bg), (436, Bh), (437, (Bj P)), (438, Bk), (439, Bl), (440, Bm), (441, o441), (442, Bo), (443, Bp), (444, (Bq P)), (445, Br), (446, Bt), (447, Bu), (448, Bv), (449, o449), (450, o450), (451, Bw), (452, Bx), (453, By), (454, Bz), (455, BA), (456, o456), (457, o457), (458, BB), (459, BC), (460, BD), (461, BE), (462, BF), (463, BG), (464, BH), (465, BI), (466, (BJ P)), (467, BK), (468, BL), (469, BN), (470, BO), (471, BP), (472, BQ), (473, BR), (474, BS), (475, BU), (476, BV), (477, o477), (478, o478), (479, BW), (480, BX), (481, BY), (482, BZ), (483, B1), (484, o484), (485, o485), (486, B3), (487, B4), (488, B5), (489, B6), (490, B7), (491, o491), (492, o492), (493, B8), (494, B9), (495, (Ca P)), (496, Cb), (497, Cc), (498, Cd), (499, Cf), (500, Cg), (501, Ch), (502, Ci), (503, Cj), (504, Ck), (505, o505), (506, o506), (507, Cl), (508, Cm), (509, Cn), (510, Co), (511, Cp), (512, o512), (513, o513), (514, Cq), (515, Cr), (516, Cs), (517, Ct), (518, Cu), (519, o519), (520, o520), (521, Cv), (522, (Cw P)), (523, Cy), (524, Cz), (525, CA), (526, CB), (527, CC), (528, o528), (529, CD), (530, CE), (531, CF), (532, CG), (533, CH), (534, o534), (535, o535), (536, CJ), (537, CK), (538, CL), (539, CM), (540, CN), (541, o541), (542, o542), (543, CP), (544, CQ), (545, CR), (546, CS), (547, CT), (548, o548), (549, o549), (550, CU), (551, CV), (552, CW), (553, CX), (554, CY), (555, o555), (556, o556), (557, CZ), (558, C0), (559, C1), (560, C2), (561, C3), (562, o562), (563, o563), (564, C4), (565, C5), (566, C6), (567, C7), (568, C8), (569, o569), (570, o570), (571, C9), (572, Da), (573, Db), (574, Dc), (575, Dd), (576, o576), (577, o577), (578, De), (579, Df), (580, Dg), (581, Dh), (582, Di), (583, o583), (584, o584), (585, Dj), (586, Dk), (587, Dl), (588, Dm), (589, Dn), (590, o590), (591, o591), (592, Do), (593, Dp), (594, Dq), (595, Dr), (596, Ds), (597, o597), (598, o598), (599, Dt), (600, Du), (601, Dv), (602, o602), (603, o603), (604, o604), (605, Dw), (606, Dx), (607, Dy), (608, o608), (609, o609), (610, Dz), (611, DA), (612, DB), (613, o613), (614, o614), (615, DC), (616, DD), (617, DE), (618, DF), (619, DG), (620, o620), (621, o621), (622, DI), (623, DJ), (624, DK), (625, o625), (626, o626), (627, DL), (628, DM), (629, DN), (630, o630), (631, o631), (632, DO), (633, DP), (634, DQ), (635, DR), (636, DS), (637, o637), (638, o638), (639, DT), (640, DV), (641, DW), (642, DX), (643, DY), (644, o644), (645, o645), (646, DZ), (647, D0), (648, D1), (649, D2), (650, D3), (651, o651), (652, o652), (653, D4), (654, D5), (655, D6), (656, D7), (657, D8), (658, o658), (659, o659), (660, D9), (661, Ea), (662, Eb), (663, Ec), (664, Ed), (665, o665), (666, o666), (667, Ee), (668, Ef), (669, Eg), (670, o670), (671, o671), (672, Eh), (673, Ei), (674, Ej), (675, o675), (676, o676), (677, Ek), (678, El), (679, Em), (680, En), (681, Eo), (682, o682), (683, o683), (684, Ep), (685, Er), (686, Es), (687, o687), (688, o688), (689, Et), (690, Eu), (691, Ev), (692, Ew), (693, Ey), (694, o694), (695, o695), (696, Ez), (697, EA), (698, EB), (699, o699), (700, o700), (701, EC), (702, ED), (703, EE), (704, o704), (705, o705), (706, EF), (707, EG), (708, EH), (709, EI), (710, EJ), (711, o711), (712, o712), (713, EK), (714, EL), (715, EM), (716, o716), (717, o717), (718, EN), (719, EO), (720, EP), (721, EQ), (722, ER), (723, o723), (724, o724), (725, ES), (726, ET), (727, EU), (728, o728), (729, o729), (730, EV), (731, EW), (732, EX), (733, EY), (734, EZ), (735, o735), (736, o736), (737, E0), (738, E1), (739, E2), (740, E3), (741, E4), (742, o742), (743, o743), (744, E5), (746, E6), (747, o747), (748, o748)]
noncomputable def KA : List Addr := [0, 1, 2, 3, 4, 5, 6, 7, 8, 9, 10, 11, 12, 13, 14, 15, 16, 17, 18, 19, 20, 21, 22, 23, 24, 25, 26, 27, 28, 29, 30, 31, 32, 33, 34, 35, 36, 37, 38, 39, 40, 41, 42, 43, 44, 45, 46, 47, 48, 49, 50, 51, 52, 53, 54, 55, 56, 57, 58, 59, 60, 61, 62, 63, 64, 65, 66, 67, 68, 69, 70, 71, 72, 73, 74, 75, 76, 77, 78, 79, 80, 81, 82, 83, 84, 85, 86, 87, 88, 89, 90, 91, 92, 93, 94, 95, 96, 97, 98, 99, 100, 101, 102, 103, 104, 105, 106, 107, 108, 109, 110, 111, 112, 113, 114, 115, 116, 117, 118, 119, 120, 121, 122, 123, 124, 125, 126, 127, 128, 129, 130, 131, 132, 133, 134, 135, 136, 137, 138, 139, 140, 141, 142, 143, 144, 145, 146, 147, 148, 149, 150, 151, 152, 153, 154, 155, 156, 157, 158, 159, 160, 161, 162, 163, 164, 165, 166, 167, 168, 169, 170, 171, 172, 173, 174, 175, 176, 177, 178, 179, 180, 181, 182, 183, 184, 185, 186, 187, 188, 189, 190, 191, 192, 193, 194, 195, 196, 197, 198, 199, 200, 201, 202, 203, 204, 205, 206, 207, 208, 209, 210, 211, 212, 213, 214, 215, 216, 217, 218, 219, 220, 221, 222, 223, 224, 225, 226, 227, 228, 229, 230, 231, 232, 233, 234, 235, 236, 237, 238, 239, 240, 241, 242, 243, 244, 245, 246, 247, 248, 249, 250, 251, 252, 253, 254, 255, 256, 257, 258, 259, 260, 261, 262, 263, 264, 265, 266, 267, 268, 269, 270, 271, 272, 273, 274, 275, 276, 277, 278, 279, 280, 281, 282, 283, 284, 285, 286, 287, 288, 289, 290, 291, 292, 293, 294, 295, 296, 297, 298, 299, 300, 301, 302, 303, 304, 305, 306, 307, 308, 309, 310, 311, 312, 313, 314, 315, 316, 317, 318, 319, 320, 321, 322, 323, 324, 325, 326, 327, 328, 329, 330, 331, 332, 333, 334, 335, 336, 337, 338, 339, 340, 341, 342, 343, 344, 345, 346, 347, 348, 349, 350, 351, 352, 353, 354, 355, 356, 357, 358, 359, 360, 361, 362, 363, 364, 365, 366, 367, 368, 369, 370, 371, 372, 373, 374, 375, 376, 377, 378, 379, 380, 381, 382, 383, 384, 385, 386, 387, 388, 389, 390, 391, 392, 393, 394, 395, 396, 397, 398, 399, 400, 401, 402, 403, 404, 405, 406, 407, 408, 409, 410, 411, 412, 413, 414, 415, 416, 417, 418, 419, 420, 421, 422, 423, 424, 425, 426, 427, 428, 429, 430, 431, 432, 433, 434, 435, 436, 437, 438, 439, 440, 441, 442, 443, 444, 445, 446, 447, 448, 449, 450, 451, 452, 453, 454, 455, 456, 457, 458, 459, 460, 461, 462, 463, 464, 465, 466, 467, 468, 469, 470, 471, 472, 473, 474, 475, 476, 477, 478, 479, 480, 481, 482, 483, 484, 485, 486, 487, 488, 489, 490, 491, 492, 493, 494, 495, 496, 497, 498, 499, 500, 501, 502, 503, 504, 505, 506, 507, 508, 509, 510, 511, 512, 513, 514, 515, 516, 517, 518, 519, 520, 521, 522, 523, 524, 525, 526, 527, 528, 529, 530, 531, 532, 533, 534, 535, 536, 537, 538, 539, 540, 541, 542, 543, 544, 545, 546, 547, 548, 549, 550, 551, 552, 553, 554, 555, 556, 557, 558, 559, 560, 561, 562, 563, 564, 565, 566, 567, 568, 569, 570, 571, 572, 573, 574, 575, 576, 577, 578, 579, 580, 581, 582, 583, 584, 585, 586, 587, 588, 589, 590, 591, 592, 593, 594, 595, 596, 597, 598, 599, 600, 601, 602, 603, 604, 605, 606, 607, 608, 609, 610, 611, 612, 613, 614, 615, 616, 617, 618, 619, 620, 621, 622, 623, 624, 625, 626, 627, 628, 629, 630, 631, 632, 633, 634, 635, 636, 637, 638, 639, 640, 641, 642, 643, 644, 645, 646, 647, 648, 649, 650, 651, 652, 653, 654, 655, 656, 657, 658, 659, 660, 661, 662, 663, 664, 665, 666, 667, 668, 669, 670, 671, 672, 673, 674, 675, 676, 677, 678, 679, 680, 681, 682, 683, 684, 685, 686, 687, 688, 689, 690, 691, 692, 693, 694, 695, 696, 697, 698, 699, 700, 701, 702, 703, 704, 705, 706, 707, 708, 709, 710, 711, 712, 713, 714, 715, 716, 717, 718, 719, 720, 721, 722, 723, 724, 725, 726, 727, 728, 729, 730, 731, 732, 733, 734, 735, 736, 737, 738, 739, 740, 741, 742, 743, 744, 746, 747, 748]
theorem Hb (P : Params) : KA = (KF P).map (·.1) := by kernel_rfl
noncomputable def HK : Hook := kmHook KF KA Hb [745]
noncomputable def Xt (s : Shared) : Bool := xlAt qv [] s && recOk (RowW.records PySem.Challenge.rw_qz0081_01.row.toRowW) s
theorem Ou (w : World) (os : OsState) : (staticsOk (importedModules P0.main.body) (boot_heap w.params) (H1 w.params) && namesBound P0 (H1 w.params) && gensDone ⟨H1 w.params, Array.mk [], {}, 1178, os⟩ && laidKept (boot_heap w.params) (H1 w.params)) = true := by
 rw [Fast.te5923862056798008813]
 kernel_rfl
theorem Ov (w : World) (os : OsState) : HK.obs ⟨H1 w.params, Array.mk [], {}, 1178, os⟩ = HK.val w := by kernel_rfl
theorem Ow (w : World) (os : OsState) : openSeen qv loose (importedModules P0.main.body) Xt true ⟨H1 w.params, Array.mk [], {}, 1178, os⟩ = openGood qv loose := by
 rw [Fast.te4187177175401517315, Fast.te5923862056798008813]
 kernel_rfl
end HB
namespace HB
open PySem PySem.W PySem.Calls PyProof.Rows
abbrev L0 : OpenLaw := PySem.Challenge.rw_qz0081_01
abbrev R0 : RowW := L0.row.toRowW
theorem Ox (w : World) : (fencedOpening treeTable P0 w 10030).map (fun s => (s.heap, s.gens, s.drawn, s.toks)) = some (boot_heap w.params, Array.mk [], boot_drawn, boot_toks) :=
 boot_open (p := P0) (N := 10030) (by kernel_rfl) (by kernel_rfl) (fun s => by kernel_rfl) w
theorem size (w : World) : ((boot_heap w.params).isNs mainGlobals && (Array.mk [] : Array GenState).size == 0, (boot_heap w.params).objs.size, (boot_heap w.params).nsMap mainGlobals "__annotations__") = (true, 11, some (.ref 6)) := by kernel_rfl
theorem Lp : LeftO R0.prog qv loose Xt HK.obs HK.val 10030 :=
 LeftO.of_pieces (p := P0) (H₀ := boot_heap) (H₁ := H1) Ox size Ha (by kernel_rfl) fun w => funext fun os => by rw [Ou w os, Ow w os, Ov w os]
theorem Lq : L0.wellSaid = true := by
 rw [Fast.te9446332074065402090]
 kernel_rfl
noncomputable def dlaw : DefRec := { name := Str.ofString "law", params := vF (tst 75), body := dbody (tst 75), scope := dscope (tst 75), pos := ⟨539, 0, 563, 143⟩ }
theorem Lr : R0.promised := by w_witness2
theorem top (call : WalkO qv loose (XL qv []) HK.says R0 dlaw [] fun f vs => PySem.call f vs) : L0.Holds :=
 holds_law Lq fun k1 => holds_open (r := L0.row) (q := qv) (loose := loose) (Xt := Xt) (XP := XL qv []) (Yf := HK.obs) (Ya := HK.val) (YP := HK.says) (N := 10030) Lp HK.of HK.keeps
  (fun s e => xl_of s (Bool.and_eq_true_iff.mp e).1) XL.keeps (by kernel_rfl) (by kernel_rfl) (by kernel_rfl) (fun s e => recFacts_of (Bool.and_eq_true_iff.mp e).2) (by kernel_rfl) k1 (by kernel_rfl) ⟨rfl, rfl, rfl, rfl, rfl, by kernel_rfl⟩ Lr call
end HB
end
namespace QZ
open PySem PySem.W PySem.Calls PyProof.Rows
theorem gk {P : Prop} (h : ∀ G : Prop, (P → G) → G) : P := h P id
noncomputable def JE : Str := ⟨#[32, 110, 117, 109, 98, 101, 114, 115, 32, 97, 114, 101, 32, 119, 97, 110, 116, 101, 100]⟩
noncomputable def Oy : Str := ⟨#[32, 111, 102, 32, 115, 117, 99, 104, 32, 112, 97, 114, 116, 115]⟩
noncomputable def qy : Str := ⟨#[65, 108, 108]⟩
noncomputable def cA : Str := ⟨#[65, 108, 116, 101, 114, 110, 97, 116, 101]⟩
noncomputable def kO : Str := ⟨#[66, 108, 97, 99, 107]⟩
noncomputable def Ls : Str := ⟨#[67]⟩
noncomputable def qz : Str := ⟨#[67, 97, 108]⟩
noncomputable def fB : Str := ⟨#[67, 97, 108, 71, 114, 97, 121]⟩
noncomputable def iH : Str := ⟨#[67, 97, 108, 82, 71, 66]⟩
noncomputable def kP : Str := ⟨#[67, 111, 108, 111, 114, 83, 112, 97, 99, 101]⟩
noncomputable def pA : Str := ⟨#[68, 101, 102, 97, 117, 108, 116]⟩
noncomputable def gp : Str := ⟨#[68, 101, 118, 105, 99, 101]⟩
noncomputable def b9 : Str := ⟨#[68, 101, 118, 105, 99, 101, 67, 77, 89, 75]⟩
noncomputable def bO : Str := ⟨#[68, 101, 118, 105, 99, 101, 71, 114, 97, 121]⟩
noncomputable def bc : Str := ⟨#[68, 101, 118, 105, 99, 101, 78]⟩
noncomputable def bZ : Str := ⟨#[68, 101, 118, 105, 99, 101, 82, 71, 66]⟩
noncomputable def qA : Str := ⟨#[70, 105, 108, 116, 101, 114]⟩
noncomputable def eU : Str := ⟨#[70, 117, 110, 99, 116, 105, 111, 110, 84, 121, 112, 101]⟩
noncomputable def ng : Str := ⟨#[71, 111, 108, 100]⟩
noncomputable def ca : Str := ⟨#[73, 67, 67, 66, 97, 115, 101, 100]⟩
noncomputable def av : Str := ⟨#[73, 110, 100, 101, 120, 101, 100]⟩
noncomputable def lO : Str := ⟨#[73, 110, 107]⟩
noncomputable def tG : Str := ⟨#[78]⟩
noncomputable def dS : Str := ⟨#[78, 111, 110, 101]⟩
noncomputable def ax : Str := ⟨#[80, 97, 116, 116, 101, 114, 110]⟩
noncomputable def bg : Str := ⟨#[83, 101, 112, 97, 114, 97, 116, 105, 111, 110]⟩
noncomputable def jY : Str := ⟨#[83, 117, 98, 116, 121, 112, 101]⟩
noncomputable def GN : Str := ⟨#[87]⟩
noncomputable def kQ : Str := ⟨#[87, 104, 105, 116, 101, 80, 111, 105, 110, 116]⟩
noncomputable def Oz : Str := ⟨#[97, 32, 99, 111, 108, 111, 117, 114, 32, 115, 112, 97, 99, 101, 32, 105, 115, 32, 97, 32, 110, 97, 109, 101, 32, 111, 114, 32, 97, 110, 32, 97, 114, 114, 97, 121]⟩
noncomputable def OA : Str := ⟨#[97, 32, 100, 101, 102, 97, 117, 108, 116, 32, 115, 112, 97, 99, 101, 32, 116, 104, 97, 116, 32, 100, 111, 101, 115, 32, 110, 111, 116, 32, 102, 105, 116, 32]⟩
noncomputable def OB : Str := ⟨#[97, 32, 112, 97, 116, 116, 101, 114, 110, 32, 105, 115, 32, 110, 111, 32, 99, 111, 108, 111, 117, 114]⟩
noncomputable def OC : Str := ⟨#[97, 32, 112, 114, 111, 102, 105, 108, 101, 32, 111, 102, 32, 49, 44, 32, 51, 32, 111, 114, 32, 52, 32, 110, 117, 109, 98, 101, 114, 115, 32, 105, 115, 32, 119, 97, 110, 116, 101, 100]⟩
noncomputable def OD : Str := ⟨#[97, 32, 116, 97, 98, 108, 101, 32, 111, 102, 32, 99, 111, 108, 111, 117, 114, 115, 32, 105, 115, 32, 97, 32, 115, 116, 114, 105, 110, 103, 32, 111, 114, 32, 97, 32, 115, 116, 114, 101, 97, 109]⟩
noncomputable def N2 : Str := ⟨#[97, 32, 116, 97, 98, 108, 101, 32, 111, 102, 32, 99, 111, 108, 111, 117, 114, 115, 32, 116, 104, 97, 116, 32, 105, 115, 32, 116, 111, 111, 32, 115, 104, 111, 114, 116]⟩
noncomputable def qB : Str := ⟨#[97, 100, 100]⟩
noncomputable def OE : Str := ⟨#[97, 110, 32, 65, 108, 116, 101, 114, 110, 97, 116, 101, 32, 111, 102, 32, 111, 116, 104, 101, 114, 32, 110, 117, 109, 98, 101, 114, 115, 32, 116, 104, 97, 110, 32, 78]⟩
noncomputable def OF : Str := ⟨#[97, 110, 32, 105, 110, 100, 101, 120, 32, 102, 114, 111, 109, 32, 48, 32, 116, 111, 32, 50, 53, 53, 32, 105, 115, 32, 119, 97, 110, 116, 101, 100]⟩
noncomputable def bI : Str := ⟨#[97, 112, 112, 101, 110, 100]⟩
noncomputable def tM : Str := ⟨#[97, 114, 114, 97, 121]⟩
noncomputable def bz : Str := ⟨#[97, 115, 107]⟩
noncomputable def iI : Str := ⟨#[98, 97, 114, 114, 101, 100]⟩
noncomputable def aJ : Str := ⟨#[98, 97, 115, 101]⟩
noncomputable def cQ : Str := ⟨#[98, 101, 108, 111, 119]⟩
noncomputable def eV : Str := ⟨#[98, 101, 115, 116]⟩
noncomputable def n7 : Str := ⟨#[99, 97, 108]⟩
noncomputable def cT : Str := ⟨#[99, 101, 108, 108]⟩
noncomputable def bN : Str := ⟨#[99, 104, 117, 114, 110, 101, 100]⟩
noncomputable def eW : Str := ⟨#[99, 111, 100, 101]⟩
noncomputable def Lu : Str := ⟨#[99, 111, 108, 111, 117, 114, 32, 115, 112, 97, 99, 101, 115, 32, 119, 105, 116, 104, 105, 110, 32, 111, 110, 101, 32, 97, 110, 111, 116, 104, 101, 114, 32, 116, 111, 111, 32, 100, 101, 101, 112]⟩
noncomputable def eE : Str := ⟨#[99, 111, 109, 112, 97, 114, 101, 100]⟩
noncomputable def an : Str := ⟨#[99, 111, 117, 110, 116]⟩
noncomputable def aG : Str := ⟨#[100, 101, 101, 112]⟩
noncomputable def gq : Str := ⟨#[100, 101, 118, 105, 99, 101]⟩
noncomputable def E8 : Str := ⟨#[100, 105, 99, 116]⟩
noncomputable def n8 : Str := ⟨#[100, 105, 103, 105, 116]⟩
noncomputable def eS : Str := ⟨#[100, 117, 101]⟩
noncomputable def bD : Str := ⟨#[101, 110, 117, 109, 101, 114, 97, 116, 101]⟩
noncomputable def bC : Str := ⟨#[101, 118, 97, 108, 117, 97, 116, 101]⟩
noncomputable def iJ : Str := ⟨#[102, 97, 99, 116, 111, 114]⟩
noncomputable def bW : Str := ⟨#[102, 101, 116, 99, 104]⟩
noncomputable def cR : Str := ⟨#[102, 105, 114, 115, 116]⟩
noncomputable def n9 : Str := ⟨#[102, 108, 111, 111, 114]⟩
noncomputable def aB : Str := ⟨#[102, 111, 117, 110, 100]⟩
noncomputable def aZ : Str := ⟨#[103, 101, 110, 101, 114, 97, 116, 105, 111, 110]⟩
noncomputable def n_get : Str := ⟨#[103, 101, 116]⟩
noncomputable def fC : Str := ⟨#[103, 114, 101, 97, 116]⟩
noncomputable def ba : Str := ⟨#[104, 101, 97, 100]⟩
noncomputable def kR : Str := ⟨#[104, 101, 97, 114, 100]⟩
noncomputable def cB : Str := ⟨#[104, 101, 114, 101]⟩
noncomputable def kS : Str := ⟨#[104, 105, 103, 104]⟩
noncomputable def Hc : Str := ⟨#[104, 111, 112]⟩
noncomputable def cH : Str := ⟨#[105, 110, 100, 101, 120, 101, 100]⟩
noncomputable def aL : Str := ⟨#[105, 110, 107, 115]⟩
noncomputable def He : Str := ⟨#[105, 110, 107, 115, 32, 104, 97, 118, 101, 32, 110, 97, 109, 101, 115, 44, 32, 101, 97, 99, 104, 32, 105, 116, 115, 32, 111, 119, 110, 32, 111, 110, 101]⟩
noncomputable def Hf : Str := ⟨#[105, 110, 107, 115, 32, 119, 105, 116, 104, 111, 117, 116, 32, 97, 32, 116, 105, 110, 116, 32, 102, 117, 110, 99, 116, 105, 111, 110]⟩
noncomputable def c7 : Str := ⟨#[105, 110, 110, 101, 114]⟩
noncomputable def vG : Str := ⟨#[105, 110, 116]⟩
noncomputable def cO : Str := ⟨#[105, 115, 95, 104, 101, 120]⟩
noncomputable def eF : Str := ⟨#[105, 116, 101, 109, 115]⟩
noncomputable def qC : Str := ⟨#[107, 101, 121]⟩
noncomputable def oa : Str := ⟨#[108, 111, 119]⟩
noncomputable def dG : Str := ⟨#[109, 97, 110, 121]⟩
noncomputable def og : Str := ⟨#[109, 105, 110, 117, 115]⟩
noncomputable def bJ : Str := ⟨#[109, 111, 115, 116]⟩
noncomputable def aq : Str := ⟨#[110, 97, 109, 101]⟩
noncomputable def kT : Str := ⟨#[110, 97, 109, 101, 100]⟩
noncomputable def aM : Str := ⟨#[110, 97, 109, 101, 115]⟩
noncomputable def qD : Str := ⟨#[110, 101, 97, 114]⟩
noncomputable def Lv : Str := ⟨#[110, 111, 32, 99, 111, 108, 111, 117, 114, 32, 115, 112, 97, 99, 101, 32]⟩
noncomputable def Lw : Str := ⟨#[110, 111, 32, 99, 111, 108, 111, 117, 114, 32, 115, 112, 97, 99, 101, 32, 111, 102, 32, 111, 110, 101, 32, 119, 111, 114, 100, 58, 32]⟩
noncomputable def Lx : Str := ⟨#[110, 111, 32, 99, 111, 108, 111, 117, 114, 32, 115, 112, 97, 99, 101, 32, 111, 102, 32, 116, 104, 101, 32, 110, 97, 109, 101, 32]⟩
noncomputable def Ly : Str := ⟨#[110, 111, 32, 115, 112, 97, 99, 101, 32, 115, 116, 97, 110, 100, 115, 32, 111, 110, 32, 111, 110, 101, 32, 111, 102, 32, 116, 104, 101, 32, 102, 97, 109, 105, 108, 121, 32]⟩
noncomputable def Lz : Str := ⟨#[110, 111, 32, 115, 116, 114, 101, 97, 109, 32, 99, 97, 110, 32, 98, 101, 32, 111, 112, 101, 110, 101, 100]⟩
noncomputable def LA : Str := ⟨#[110, 111, 32, 116, 105, 110, 116, 32, 102, 117, 110, 99, 116, 105, 111, 110, 32, 99, 97, 110, 32, 98, 101, 32, 101, 118, 97, 108, 117, 97, 116, 101, 100]⟩
noncomputable def E9 : Str := ⟨#[110, 117, 108, 108]⟩
noncomputable def af : Str := ⟨#[110, 117, 109, 98, 101, 114]⟩
noncomputable def ad : Str := ⟨#[110, 117, 109, 98, 101, 114, 115]⟩
noncomputable def aF : Str := ⟨#[111, 99, 116, 101, 116, 115]⟩
noncomputable def fP : Str := ⟨#[111, 110, 101]⟩
noncomputable def LB : Str := ⟨#[110, 111, 32, 115, 112, 97, 99, 101, 32, 111, 102, 32, 115, 111, 32, 109, 97, 110, 121, 32, 110, 117, 109, 98, 101, 114, 115]⟩
noncomputable def Hg : Str := ⟨#[111, 110, 101, 32, 116, 111, 32, 116, 104, 105, 114, 116, 121, 45, 116, 119, 111, 32, 105, 110, 107, 115, 32, 97, 114, 101, 32, 119, 97, 110, 116, 101, 100]⟩
noncomputable def bw : Str := ⟨#[111, 112, 101, 110, 101, 114]⟩
noncomputable def cb : Str := ⟨#[111, 116, 104, 101, 114]⟩
noncomputable def dk : Str := ⟨#[112, 97, 114, 116]⟩
noncomputable def aR : Str := ⟨#[112, 97, 114, 116, 115]⟩
noncomputable def cW : Str := ⟨#[112, 97, 116, 116, 101, 114, 110]⟩
noncomputable def ah : Str := ⟨#[112, 101, 110]⟩
noncomputable def aa : Str := ⟨#[112, 108, 97, 99, 101, 115]⟩
noncomputable def dl : Str := ⟨#[112, 114, 111, 102, 105, 108, 101]⟩
noncomputable def qE : Str := ⟨#[114, 101, 97, 108]⟩
noncomputable def Hh : Str := ⟨#[114, 101, 102]⟩
noncomputable def aY : Str := ⟨#[114, 101, 115, 111, 117, 114, 99, 101, 115]⟩
noncomputable def qF : Str := ⟨#[114, 101, 116, 117, 114, 110]⟩
noncomputable def fD : Str := ⟨#[114, 111, 117, 110, 100, 101, 100]⟩
noncomputable def bK : Str := ⟨#[114, 111, 119]⟩
noncomputable def qG : Str := ⟨#[114, 111, 119, 115]⟩
noncomputable def aW : Str := ⟨#[115, 99, 97, 108, 101]⟩
noncomputable def n_script : Str := ⟨#[115, 99, 114, 105, 112, 116]⟩
noncomputable def gu : Str := ⟨#[115, 101, 99, 111, 110, 100]⟩
noncomputable def aj : Str := ⟨#[115, 101, 108, 102]⟩
noncomputable def ar : Str := ⟨#[115, 104, 101, 108, 102]⟩
noncomputable def du : Str := ⟨#[115, 104, 111, 114, 116]⟩
noncomputable def eX : Str := ⟨#[115, 105, 122, 101]⟩
noncomputable def al : Str := ⟨#[115, 111, 117, 114, 99, 101]⟩
noncomputable def ay : Str := ⟨#[115, 112, 97, 99, 101]⟩
noncomputable def a8 : Str := ⟨#[115, 112, 111, 116]⟩
noncomputable def ci : Str := ⟨#[115, 116, 114, 101, 97, 109]⟩
noncomputable def qH : Str := ⟨#[115, 116, 114, 105, 110, 103]⟩
noncomputable def aN : Str := ⟨#[116, 97, 98, 108, 101]⟩
noncomputable def cg : Str := ⟨#[116, 101, 120, 116]⟩
noncomputable def oh : Str := ⟨#[116, 105, 109, 101, 115]⟩
noncomputable def be : Str := ⟨#[116, 105, 110, 116]⟩
noncomputable def fX : Str := ⟨#[116, 111, 108, 100]⟩
noncomputable def aD : Str := ⟨#[116, 111, 112]⟩
noncomputable def bo : Str := ⟨#[116, 111, 112, 115]⟩
noncomputable def cX : Str := ⟨#[116, 114, 97, 105, 108, 101, 114]⟩
noncomputable def am : Str := ⟨#[116, 114, 101, 101]⟩
noncomputable def tN : Str := ⟨#[116, 114, 117, 116, 104]⟩
noncomputable def c8 : Str := ⟨#[116, 117, 114, 110]⟩
noncomputable def oi : Str := ⟨#[116, 119, 111]⟩
noncomputable def ak : Str := ⟨#[118, 97, 108, 117, 101]⟩
noncomputable def bh : Str := ⟨#[118, 97, 108, 117, 101, 115]⟩
noncomputable def lP : Str := ⟨#[119, 97, 110, 116, 101, 100]⟩
noncomputable def fQ : Str := ⟨#[119, 97, 121]⟩
noncomputable def cI : Str := ⟨#[119, 101, 105, 103, 104, 116, 115]⟩
noncomputable def br : Str := ⟨#[119, 111, 114, 100]⟩
noncomputable def eG : Str := ⟨#[119, 111, 114, 116, 104]⟩
noncomputable def dw : Str := ⟨#[119, 114, 111, 110, 103]⟩
inductive Bi where
 | len | abs | max | min | sum | isinst
inductive Ty where
 | int | str | bool | list | dict | tuple | bytes | range | exc | enum
noncomputable def Bi.s : Bi → String
 | .len => "len" | .abs => "abs" | .max => "max" | .min => "min" | .sum => "sum" | .isinst => "isinstance"
noncomputable def Ty.s : Ty → String
 | .int => "int" | .str => "str" | .bool => "bool" | .list => "list" | .dict => "dict" | .tuple => "tuple" | .bytes => "bytes" | .range => "range" | .exc => "Exception" | .enum => "enumerate"
noncomputable def iK (k : Bool) (A B : Prop) : Prop := match k with | true => A | false => B
noncomputable def ix (k : Bool) (A : Prop) : Prop := match k with | true => A | false => False
theorem aQ {k : Bool} {A : Prop} (h : ix k A) : k = true ∧ A := by
 cases k with
 | true => exact ⟨rfl, h⟩
 | false => exact h.elim
theorem cC {k : Bool} {A : Prop} (h : k = true) (a : A) : ix k A := by subst h; exact a
theorem kU {k : Bool} {A B : Prop} (ha : k = true → A) (hb : k = false → B) : iK k A B := by
 cases k with
 | true => exact ha rfl
 | false => exact hb rfl
theorem cS {p : Prop} [Decidable p] {A B : Prop} (ha : p → A) (hb : ¬ p → B) : iK (decide p) A B := kU (fun h => ha (of_decide_eq_true h)) fun h => hb (of_decide_eq_false h)
inductive V where
 | none | bool (b : Bool) | int (i : Int) | str (s : Str) | bytes (l : List UInt8)
 | tup (l : List V) | list (l : List V) | dict (l : List (Str × V)) | inst (c : Addr) (l : List (Str × V))
 | mut (a : Addr) | imut (x d c : Addr) | ref (a : Addr) | typ (n : Ty) | bi (n : Bi)
 | rng (lo hi : Int) | lam (i : Nat) (l : List (Str × V))
noncomputable abbrev Fz := List (Addr × Obj)
noncomputable def cap : Nat := 4096
noncomputable abbrev tO (vs : List Value) (n : Nat) : Obj := { cls := .type "tuple", data := .seq vs.toArray n }
noncomputable abbrev dT (vs : List Value) (n : Nat) : Obj := { cls := .type "list", data := .seq vs.toArray n }
noncomputable abbrev LC (lo hi : Int) (t1 t2 t3 : Tok) : Obj := { cls := .type "range", data := .fields #[.int lo t1, .int hi t2, .int 1 t3] }
noncomputable def ij (i : Nat) : Expr := match ((HB.dbody (HB.tst 75)).getD (if i = 0 then 7 else if i = 1 then 10 else 11) (.Pass default) : Stmt) with
 | .Assign _ v _ => v
 | _ => .Constant .none 0 default
noncomputable def im (i : Nat) : Arguments := match ij i with | .Lambda a _ _ _ => a | _ => default
noncomputable def lQ (i : Nat) : Expr := match ij i with | .Lambda _ b _ _ => b | e => e
noncomputable def cj (i : Nat) : Scope := match ij i with | .Lambda _ _ s _ => s | _ => default
noncomputable def Fa (i : Nat) (clos : List (Str × Addr)) (pm : Value) (c' : Addr) (ctv : Value) : Obj := kla_obj "<lambda>" (Str.ofString "law.<locals>.<lambda>") (im i) (lQ i) (cj i) clos pm c' ctv
noncomputable def Hi : Fz := [(441, HB.o441), (449, HB.o449)]
mutual
inductive RV (P : Params) (fz : Fz) : V → Value → Prop
 | none : RV P fz .none .none
 | bool (b : Bool) : RV P fz (.bool b) (.bool b)
 | int (i : Int) (t : Tok) : RV P fz (.int i) (.int i t)
 | str (s : Str) (t : Tok) (h : s.length ≤ cap) : RV P fz (.str s) (.str s t)
 | bytes (l : List UInt8) (t : Tok) (h : l.length ≤ cap) : RV P fz (.bytes l) (.bytes l.toArray t)
 | tup {l : List V} {a : Addr} {vs : List Value} {n : Nat} (hm : (a, tO vs n) ∈ fz) (h : l.length ≤ cap) (hv : bu P fz l vs) : RV P fz (.tup l) (.ref a)
 | list {l : List V} {a : Addr} {vs : List Value} {n : Nat} (hm : (a, dT vs n) ∈ fz) (h : l.length ≤ cap) (hv : bu P fz l vs) : RV P fz (.list l) (.ref a)
 | dict {l : List (Str × V)} {a : Addr} {es : List DictEntry} {n : Nat} (hm : (a, dictOf es n) ∈ fz) (h : l.length ≤ cap) (hv : dB P fz l es) : RV P fz (.dict l) (.ref a)
 | inst {c : Addr} {l : List (Str × V)} {x d : Addr} {es : List DictEntry} {n : Nat} (hx : (x, instObj c d) ∈ fz) (hm : (d, dictOf es n) ∈ fz) (hv : dB P fz l es) : RV P fz (.inst c l) (.ref x)
 | mut (a : Addr) : RV P fz (.mut a) (.ref a)
 | imut {x d c : Addr} (hx : (x, instObj c d) ∈ fz) : RV P fz (.imut x d c) (.ref x)
 | ref (a : Addr) : RV P fz (.ref a) (.ref a)
 | typ (n : Ty) : RV P fz (.typ n) (.type n.s)
 | bi (n : Bi) : RV P fz (.bi n) (.builtin n.s)
 | rng {lo hi : Int} {a : Addr} {t1 t2 t3 : Tok} (hm : (a, LC lo hi t1 t2 t3) ∈ fz) : RV P fz (.rng lo hi) (.ref a)
 | lam {i : Nat} {l : List (Str × V)} {a c' : Addr} {clos : List (Str × Addr)} {pm ctv : Value} {oc : Obj} {vs : Array Value} {t : Tok}
   (hm : (a, Fa i clos pm c' ctv) ∈ fz) (hc : (c', oc) ∈ fz) (hd : oc.data = .fields vs) (h1 : vs[1]? = some (.str (Str.ofString "law.<locals>.<lambda>") t)) (hv : RC P fz l clos) : RV P fz (.lam i l) (.ref a)
inductive bu (P : Params) (fz : Fz) : List V → List Value → Prop
 | nil : bu P fz [] []
 | cons {x : V} {v : Value} {l : List V} {vs : List Value} (h : RV P fz x v) (r : bu P fz l vs) : bu P fz (x :: l) (v :: vs)
inductive dB (P : Params) (fz : Fz) : List (Str × V) → List DictEntry → Prop
 | nil : dB P fz [] []
 | cons {k : Str} {x : V} {v : Value} {t : Tok} {l : List (Str × V)} {es : List DictEntry} (h : RV P fz x v) (r : dB P fz l es) : dB P fz ((k, x) :: l) (⟨PyData.keyHash P k, .str k t, v⟩ :: es)
inductive RC (P : Params) (fz : Fz) : List (Str × V) → List (Str × Addr) → Prop
 | nil : RC P fz [] []
 | cons {k : Str} {x : V} {v : Value} {c : Addr} {o : Obj} {l : List (Str × V)} {cs : List (Str × Addr)} (hm : (c, o) ∈ fz) (hd : o.data = .cell (some v)) (h : RV P fz x v) (r : RC P fz l cs) : RC P fz ((k, x) :: l) ((k, c) :: cs)
end
section
variable {P : Params} {fz fz' : Fz}
theorem RV.mono (hs : ∀ p ∈ fz, p ∈ fz') {x : V} {v : Value} (h : RV P fz x v) : RV P fz' x v :=
 RV.rec (motive_1 := fun x v _ => RV P fz' x v) (motive_2 := fun l vs _ => bu P fz' l vs) (motive_3 := fun l es _ => dB P fz' l es) (motive_4 := fun l cs _ => RC P fz' l cs)
  .none .bool .int .str .bytes (fun hm h _ hv => .tup (hs _ hm) h hv) (fun hm h _ hv => .list (hs _ hm) h hv) (fun hm h _ hv => .dict (hs _ hm) h hv) (fun hx hm _ hv => .inst (hs _ hx) (hs _ hm) hv)
  .mut (fun hx => .imut (hs _ hx)) .ref .typ .bi (fun hm => .rng (hs _ hm)) (fun hm hc hd h1 _ hv => .lam (hs _ hm) (hs _ hc) hd h1 hv)
  .nil (fun _ _ h r => .cons h r) .nil (fun _ _ h r => .cons h r) .nil (fun hm hd _ _ h r => .cons (hs _ hm) hd h r) h
theorem bu.ind {G : List V → List Value → Prop} (h1 : G [] []) (h2 : ∀ {x : V} {v : Value} {l : List V} {vs : List Value}, RV P fz x v → bu P fz l vs → G l vs → G (x :: l) (v :: vs)) {l : List V} {vs : List Value} (h : bu P fz l vs) : G l vs :=
 bu.rec (motive_1 := fun _ _ _ => True) (motive_2 := fun l vs _ => G l vs) (motive_3 := fun _ _ _ => True) (motive_4 := fun _ _ _ => True)
  ⟨⟩ (fun _ => ⟨⟩) (fun _ _ => ⟨⟩) (fun _ _ _ => ⟨⟩) (fun _ _ _ => ⟨⟩) (fun _ _ _ _ => ⟨⟩) (fun _ _ _ _ => ⟨⟩) (fun _ _ _ _ => ⟨⟩) (fun _ _ _ _ => ⟨⟩)
  (fun _ => ⟨⟩) (fun _ => ⟨⟩) (fun _ => ⟨⟩) (fun _ => ⟨⟩) (fun _ => ⟨⟩) (fun _ => ⟨⟩) (fun _ _ _ _ _ _ => ⟨⟩)
  h1 (fun h r _ g => h2 h r g) ⟨⟩ (fun _ _ _ _ => ⟨⟩) ⟨⟩ (fun _ _ _ _ _ _ => ⟨⟩) h
theorem dB.ind {G : List (Str × V) → List DictEntry → Prop} (h1 : G [] []) (h2 : ∀ {k : Str} {x : V} {v : Value} {t : Tok} {l : List (Str × V)} {es : List DictEntry}, RV P fz x v → dB P fz l es → G l es → G ((k, x) :: l) (⟨PyData.keyHash P k, .str k t, v⟩ :: es)) {l : List (Str × V)} {es : List DictEntry} (h : dB P fz l es) : G l es :=
 dB.rec (motive_1 := fun _ _ _ => True) (motive_2 := fun _ _ _ => True) (motive_3 := fun l es _ => G l es) (motive_4 := fun _ _ _ => True)
  ⟨⟩ (fun _ => ⟨⟩) (fun _ _ => ⟨⟩) (fun _ _ _ => ⟨⟩) (fun _ _ _ => ⟨⟩) (fun _ _ _ _ => ⟨⟩) (fun _ _ _ _ => ⟨⟩) (fun _ _ _ _ => ⟨⟩) (fun _ _ _ _ => ⟨⟩)
  (fun _ => ⟨⟩) (fun _ => ⟨⟩) (fun _ => ⟨⟩) (fun _ => ⟨⟩) (fun _ => ⟨⟩) (fun _ => ⟨⟩) (fun _ _ _ _ _ _ => ⟨⟩)
  ⟨⟩ (fun _ _ _ _ => ⟨⟩) h1 (fun h r _ g => h2 h r g) ⟨⟩ (fun _ _ _ _ _ _ => ⟨⟩) h
theorem RC.ind {G : List (Str × V) → List (Str × Addr) → Prop} (h1 : G [] []) (h2 : ∀ {k : Str} {x : V} {v : Value} {c : Addr} {o : Obj} {l : List (Str × V)} {cs : List (Str × Addr)}, (c, o) ∈ fz → o.data = .cell (some v) → RV P fz x v → RC P fz l cs → G l cs → G ((k, x) :: l) ((k, c) :: cs)) {l : List (Str × V)} {cs : List (Str × Addr)} (h : RC P fz l cs) : G l cs :=
 RC.rec (motive_1 := fun _ _ _ => True) (motive_2 := fun _ _ _ => True) (motive_3 := fun _ _ _ => True) (motive_4 := fun l cs _ => G l cs)
  ⟨⟩ (fun _ => ⟨⟩) (fun _ _ => ⟨⟩) (fun _ _ _ => ⟨⟩) (fun _ _ _ => ⟨⟩) (fun _ _ _ _ => ⟨⟩) (fun _ _ _ _ => ⟨⟩) (fun _ _ _ _ => ⟨⟩) (fun _ _ _ _ => ⟨⟩)
  (fun _ => ⟨⟩) (fun _ => ⟨⟩) (fun _ => ⟨⟩) (fun _ => ⟨⟩) (fun _ => ⟨⟩) (fun _ => ⟨⟩) (fun _ _ _ _ _ _ => ⟨⟩)
  ⟨⟩ (fun _ _ _ _ => ⟨⟩) ⟨⟩ (fun _ _ _ _ => ⟨⟩) h1 (fun a b h r _ g => h2 a b h r g) h
theorem bu.mono (hs : ∀ p ∈ fz, p ∈ fz') {x : List V} {v : List Value} (h : bu P fz x v) : bu P fz' x v := bu.ind .nil (fun h _ r => .cons (h.mono hs) r) h
theorem dB.mono (hs : ∀ p ∈ fz, p ∈ fz') {x : List (Str × V)} {v : List DictEntry} (h : dB P fz x v) : dB P fz' x v := dB.ind .nil (fun h _ r => .cons (h.mono hs) r) h
theorem RC.mono (hs : ∀ p ∈ fz, p ∈ fz') {x : List (Str × V)} {v : List (Str × Addr)} (h : RC P fz x v) : RC P fz' x v := RC.ind .nil (fun hm hd h _ r => .cons (hs _ hm) hd (h.mono hs) r) h
theorem bu.length {l : List V} {vs : List Value} (h : bu P fz l vs) : vs.length = l.length := bu.ind (G := fun l vs => vs.length = l.length) rfl (fun _ _ r => congrArg (· + 1) r) h
theorem dB.length {l : List (Str × V)} {vs : List DictEntry} (h : dB P fz l vs) : vs.length = l.length := dB.ind (G := fun l vs => vs.length = l.length) rfl (fun _ _ r => congrArg (· + 1) r) h
theorem bu.append {l l' : List V} {vs vs' : List Value} (h : bu P fz l vs) (r : bu P fz l' vs') : bu P fz (l ++ l') (vs ++ vs') := bu.ind (G := fun l vs => bu P fz (l ++ l') (vs ++ vs')) r (fun h _ r => .cons h r) h
theorem bu.get {l : List V} {vs : List Value} {i : Nat} {x : V} (h : bu P fz l vs) : l[i]? = some x → ∃ v, vs[i]? = some v ∧ RV P fz x v :=
 bu.ind (G := fun l vs => ∀ i : Nat, l[i]? = some x → ∃ v, vs[i]? = some v ∧ RV P fz x v) (fun _ e => nomatch e) (fun h _ g i e => by
  cases i with
  | zero => cases e; exact ⟨_, rfl, h⟩
  | succ i => exact g i e) h i
theorem bu.take {l : List V} {vs : List Value} (n : Nat) (h : bu P fz l vs) : bu P fz (l.take n) (vs.take n) :=
 bu.ind (G := fun l vs => ∀ n, bu P fz (l.take n) (vs.take n)) (fun n => by rw [List.take_nil, List.take_nil]; exact .nil) (fun h _ g n => by
  cases n with
  | zero => exact .nil
  | succ n => exact .cons h (g n)) h n
theorem bu.drop {l : List V} {vs : List Value} (n : Nat) (h : bu P fz l vs) : bu P fz (l.drop n) (vs.drop n) :=
 bu.ind (G := fun l vs => ∀ n, bu P fz (l.drop n) (vs.drop n)) (fun n => by rw [List.drop_nil, List.drop_nil]; exact .nil) (fun h r g n => by
  cases n with
  | zero => exact .cons h r
  | succ n => exact g n) h n
end
inductive M where
 | list (l : List V) | dict (l : List (Str × V)) | idict (l : List (Int × V)) | raw (o : Obj)
inductive io (P : Params) (fz : Fz) : List (Int × V) → List DictEntry → Prop
 | nil : io P fz [] []
 | cons {k : Int} {x : V} {v : Value} {t : Tok} {l : List (Int × V)} {es : List DictEntry} (h : RV P fz x v) (r : io P fz l es) : io P fz ((k, x) :: l) (⟨hashInt k, .int k t, v⟩ :: es)
inductive MR (P : Params) (fz : Fz) : M → Obj → Prop
 | list {l : List V} {vs : List Value} {n : Nat} (h : l.length ≤ cap) (hv : bu P fz l vs) : MR P fz (.list l) (dT vs n)
 | dict {l : List (Str × V)} {es : List DictEntry} {n : Nat} (h : l.length ≤ cap) (hv : dB P fz l es) : MR P fz (.dict l) (dictOf es n)
 | idict {l : List (Int × V)} {es : List DictEntry} {n : Nat} (h : l.length ≤ cap) (hv : io P fz l es) : MR P fz (.idict l) (dictOf es n)
 | raw {o : Obj} (h : ∀ u, o.data ≠ .cell u) : MR P fz (.raw o) o
section
variable {P : Params} {fz fz' : Fz}
theorem io.mono (hs : ∀ p ∈ fz, p ∈ fz') {x : List (Int × V)} {v : List DictEntry} (h : io P fz x v) : io P fz' x v := by
 induction h with
 | nil => exact .nil
 | cons h _ ih => exact .cons (h.mono hs) ih
theorem MR.mono (hs : ∀ p ∈ fz, p ∈ fz') {m : M} {o : Obj} (h : MR P fz m o) : MR P fz' m o := by
 cases h with
 | list h hv => exact .list h (hv.mono hs)
 | dict h hv => exact .dict h (hv.mono hs)
 | idict h hv => exact .idict h (hv.mono hs)
 | raw h => exact .raw h
end
noncomputable abbrev Mem := List (Addr × M)
structure St where
 loc : List (Str × V)
 mem : Mem
noncomputable def put {α : Type} [BEq α] {β : Type} (x : α) (v : β) : List (α × β) → List (α × β)
 | [] => [(x, v)]
 | (y, u) :: r => if x == y then (x, v) :: r else (y, u) :: put x v r
theorem aK {α : Type} [BEq α] [LawfulBEq α] {β : Type} (x : α) (v : β) : ∀ (l : List (α × β)) (y : α), (put x v l).lookup y = if y == x then some v else l.lookup y
 | [], y => by simp only [put, List.lookup_cons, List.lookup_nil]; split <;> simp_all
 | (z, u) :: r, y => by
  unfold put
  by_cases h : (x == z) = true
  ·rw [if_pos h]
   have hz := eq_of_beq h
   subst hz
   simp only [List.lookup_cons]
   by_cases q : (y == x) = true <;> simp [q]
  ·rw [if_neg h]
   simp only [List.lookup_cons]
   by_cases q : (y == z) = true
   ·have hz := eq_of_beq q
    subst hz
    have : (y == x) = false := by
     cases e : (y == x) with
     | false => rfl
     | true => exact absurd (by rw [eq_of_beq e]; exact beq_self_eq_true _) h
    simp [q, this]
   ·have q' : (y == z) = false := by simpa using q
    rw [q', aK x v r y]
structure Cx where
 w : World
 A : Around
 h₀ : Heap
 outer : List Env
 fenv : Env
 env : Env
 L : Addr
 own : List Addr
 d : Nat
 k : Nat
 gens : Array GenState
 os : OsState
 drawn : Drawn
 mg : Str → Option Value
 mb : Str → Option Value
noncomputable abbrev Cx.P (C : Cx) : Params := C.w.params
noncomputable abbrev Cx.frs (C : Cx) : List Addr := (C.fenv :: C.outer).filterMap (·.frame)
noncomputable def eH (h : Heap) (c : Addr) : Prop := ∃ o u, h.get? c = some o ∧ o.data = .cell u
theorem eH.isat {h : Heap} {c : Addr} (x : eH h c) : (h.get? c).isSome = true := let ⟨_, _, e, _⟩ := x; by rw [e]; rfl
theorem eH.keep {h h' : Heap} {c : Addr} (x : eH h c) (k : ∀ o, h.get? c = some o → h'.get? c = some o) : eH h' c := let ⟨o, u, e, q⟩ := x; ⟨o, u, k o e, q⟩
inductive qJ (C : Cx) (fz : Fz) (s : Shared) (x : Str) (v : V) : Prop
 | mk (c : Addr) (u : Value) (h1 : C.env.kindOf x = some .cell ∨ (C.env.kindOf x = some .free ∧ (x == ("__classdict__" : Str)) = false)) (h2 : C.env.cells.lookup x = some c) (h3 : s.heap.IsCell c (some u)) (h4 : RV C.P fz v u)
inductive Hj (C : Cx) (fz : Fz) (s : Shared) (a : Addr) (x : M) : Prop
 | mk (o : Obj) (h1 : s.heap.get? a = some o) (h2 : MR C.P fz x o) (h3 : C.h₀.get? a = none ∧ a ∉ C.own ∧ a ∉ C.frs ∧ a ≠ 1)
structure bt (C : Cx) (fz : Fz) (σ : St) (s : Shared) : Prop where
 base : ∀ b o, C.h₀.get? b = some o → s.heap.get? b = some o
 fro : ∀ p ∈ fz, s.heap.get? p.1 = some p.2 ∧ p.1 ∉ C.own ∧ σ.mem.lookup p.1 = none ∧ p.1 ∉ C.frs ∧ p.1 ≠ 1
 mem : ∀ a x, σ.mem.lookup a = some x → Hj C fz s a x
 ns : ∃ m, s.heap.Ns C.env.locals m ∧ ∀ x v, σ.loc.lookup x = some v → C.env.kindOf x = some .local → ∃ u, RV C.P fz v u ∧ m x = some u
 cell : ∀ x v, σ.loc.lookup x = some v → C.env.kindOf x ≠ some .local → qJ C fz s x v
 own : ∀ a ∈ C.own, C.h₀.get? a = none ∧ (s.heap.get? a).isSome = true
 lo : C.env.locals ∈ C.own
 fr : ∀ b ∈ C.frs, C.h₀.get? b = none ∧ ∃ o, s.heap.get? b = some o ∧ ∀ vs, o.data ≠ .fields vs
 nocell : ∀ x c, C.env.cells.lookup x = some c → c ∉ C.frs ∧ σ.mem.lookup c = none ∧ c ≠ C.env.locals ∧ eH s.heap c
 one : (s.heap.get? 1).isSome = true
 sp : ∀ p ∈ Hi, p ∈ fz
 gens : s.gens = C.gens
 os : s.os = C.os
 drawn : s.drawn = C.drawn
structure Go (C : Cx) (fz : Fz) (σ : St) (s : Shared) (fz' : Fz) (σ' : St) (s' : Shared) : Prop where
 rep : bt C fz' σ' s'
 sub : ∀ p ∈ fz, p ∈ fz'
 keep : ∀ a o, s.heap.get? a = some o → σ.mem.lookup a = none → a ∉ C.own → a ∉ C.frs → s'.heap.get? a = some o
 slot : ∀ a o, s.heap.get? a = some o → a ∉ C.own → a ∈ C.frs → ∃ sl, s'.heap.get? a = some { o with slots := sl }
 new : ∀ a x, σ'.mem.lookup a = some x → (∃ y, σ.mem.lookup a = some y) ∨ s.heap.get? a = none
 fnew : ∀ p ∈ fz', p ∈ fz ∨ s.heap.get? p.1 = none ∨ ∃ y, σ.mem.lookup p.1 = some y
 live : ∀ a, (s.heap.get? a).isSome = true → (s'.heap.get? a).isSome = true
theorem Go.refl {C : Cx} {fz : Fz} {σ : St} {s : Shared} (r : bt C fz σ s) : Go C fz σ s fz σ s := ⟨r, fun _ h => h, fun _ _ e _ _ _ => e, fun _ o e _ _ => ⟨o.slots, e⟩, fun _ x e => .inl ⟨x, e⟩, fun _ h => .inl h, fun _ h => h⟩
theorem az {α : Type} {x : Option α} {y : α} (h : x = some y) : x.isSome = true := by rw [h]; rfl
theorem aS {α : Type} {x : Option α} (h : x = none) : ¬ x.isSome = true := by rw [h]; exact Bool.false_ne_true
theorem c9 {α : Type} {x : Option α} (h : ¬ x.isSome = true) : x = none := by cases x with | none => rfl | some y => exact absurd rfl h
theorem Go.trans {C : Cx} {fz fz₁ fz₂ : Fz} {σ σ₁ σ₂ : St} {s s₁ s₂ : Shared} (a : Go C fz σ s fz₁ σ₁ s₁) (b : Go C fz₁ σ₁ s₁ fz₂ σ₂ s₂) : Go C fz σ s fz₂ σ₂ s₂ := by
 refine ⟨b.rep, fun p h => b.sub p (a.sub p h), fun c o e hm ho hf => ?_, fun c o e ho hf => ?_, fun c x e => ?_, fun p hp => ?_, fun c h => b.live c (a.live c h)⟩
 ·have e1 := a.keep c o e hm ho hf
  refine b.keep c o e1 ?_ ho hf
  cases q : σ₁.mem.lookup c with
  | none => rfl
  | some y =>
   rcases a.new c y q with ⟨z, hz⟩ | hz
   ·rw [hm] at hz; cases hz
   ·rw [e] at hz; cases hz
 ·obtain ⟨sl, e1⟩ := a.slot c o e ho hf
  obtain ⟨sl2, e2⟩ := b.slot c _ e1 ho hf
  exact ⟨sl2, e2⟩
 ·rcases b.new c x e with ⟨y, hy⟩ | hy
  ·exact a.new c y hy
  ·exact .inr (c9 fun q => aS hy (a.live c q))
 ·rcases b.fnew p hp with h | h | ⟨y, h⟩
  ·exact a.fnew p h
  ·exact .inr (.inl (c9 fun q => aS h (a.live _ q)))
  ·rcases a.new _ y h with h | h
   ·exact .inr (.inr h)
   ·exact .inr (.inl h)
theorem Go.add {C : Cx} {fz : Fz} {σ : St} {s s' : Shared} (r : bt C fz σ s) (new : Fz) (hk : ∀ b o, s.heap.get? b = some o → s'.heap.get? b = some o)
  (hn : ∀ p ∈ new, s.heap.get? p.1 = none ∧ s'.heap.get? p.1 = some p.2) (hg : s'.gens = s.gens := by rfl) (ho : s'.os = s.os := by rfl) (hd : s'.drawn = s.drawn := by rfl) :
  Go C fz σ s (new ++ fz) σ s' := by
 have sub : ∀ p ∈ fz, p ∈ new ++ fz := fun p h => List.mem_append.mpr (.inr h)
 have lv : ∀ a, (s.heap.get? a).isSome = true → (s'.heap.get? a).isSome = true := fun a h => by
  obtain ⟨o, e⟩ := Option.isSome_iff_exists.mp h
  exact az (hk a o e)
 refine ⟨⟨fun b o e => hk b o (r.base b o e), fun p hp => ?_, fun a x e => ?_, ?_, fun x v e n => ?_, fun a ha => ⟨(r.own a ha).1, lv a (r.own a ha).2⟩, r.lo, fun b hb => ?_, fun y c e => ⟨(r.nocell y c e).1, (r.nocell y c e).2.1, (r.nocell y c e).2.2.1, (r.nocell y c e).2.2.2.keep fun o q => hk c o q⟩, lv 1 r.one, fun p hp => sub p (r.sp p hp), hg.trans r.gens, ho.trans r.os, hd.trans r.drawn⟩, sub, fun a o e _ _ _ => hk a o e, fun a o e _ _ => ⟨o.slots, hk a o e⟩, fun a x e => .inl ⟨x, e⟩, fun p hp => (List.mem_append.mp hp).elim (fun h => .inr (.inl (hn p h).1)) .inl, lv⟩
 ·rcases List.mem_append.mp hp with hp | hp
  ·obtain ⟨h1, h2⟩ := hn p hp
   refine ⟨h2, fun q => aS h1 (r.own _ q).2, ?_, ?_⟩
   ·cases q : σ.mem.lookup p.1 with
    | none => rfl
    | some x => obtain ⟨o, e, _⟩ := r.mem _ x q; rw [h1] at e; cases e
   ·refine ⟨fun q => ?_, fun q => aS h1 (q ▸ r.one)⟩
    obtain ⟨_, o, e, _⟩ := r.fr _ q; rw [h1] at e; cases e
  ·obtain ⟨h1, h2, h3⟩ := r.fro p hp
   exact ⟨hk _ _ h1, h2, h3⟩
 ·obtain ⟨o, h1, h2, h3⟩ := r.mem a x e
  exact ⟨o, hk _ _ h1, h2.mono sub, h3⟩
 ·obtain ⟨m, h, k⟩ := r.ns
  exact ⟨m, h.keeps hk, fun x v e q => let ⟨u, a, b⟩ := k x v e q; ⟨u, a.mono sub, b⟩⟩
 ·obtain ⟨c, u, h1, h2, ⟨o, h3, h4⟩, h5⟩ := r.cell x v e n
  exact ⟨c, u, h1, h2, ⟨o, hk _ _ h3, h4⟩, h5.mono sub⟩
 ·obtain ⟨h1, o, h2, h3⟩ := r.fr b hb
  exact ⟨h1, o, hk _ _ h2, h3⟩
theorem Go.keeps {C : Cx} {fz : Fz} {σ : St} {s s' : Shared} (r : bt C fz σ s) (hk : ∀ b o, s.heap.get? b = some o → s'.heap.get? b = some o)
  (hg : s'.gens = s.gens := by rfl) (ho : s'.os = s.os := by rfl) (hd : s'.drawn = s.drawn := by rfl) : Go C fz σ s fz σ s' :=
 Go.add r [] hk (fun _ h => nomatch h) hg ho hd
theorem Go.addMem {C : Cx} {fz : Fz} {σ : St} {s s' : Shared} (r : bt C fz σ s) (a : Addr) (x : M) (o : Obj) (hk : ∀ b o, s.heap.get? b = some o → s'.heap.get? b = some o)
  (h1 : s.heap.get? a = none) (h2 : s'.heap.get? a = some o) (hx : MR C.P fz x o) (hg : s'.gens = s.gens := by rfl) (ho : s'.os = s.os := by rfl) (hd : s'.drawn = s.drawn := by rfl) :
  Go C fz σ s fz ⟨σ.loc, (a, x) :: σ.mem⟩ s' := by
 have G := Go.keeps r hk hg ho hd
 have g := G.rep
 have nown : a ∉ C.own := fun q => aS h1 (r.own _ q).2
 have nfr : a ∉ C.frs := fun q => by obtain ⟨_, o, e, _⟩ := r.fr _ q; rw [h1] at e; cases e
 have lk : ∀ b, ((a, x) :: σ.mem).lookup b = if b == a then some x else σ.mem.lookup b := fun b => by
  rw [List.lookup_cons]; cases (b == a) <;> rfl
 refine ⟨⟨g.base, fun p hp => ?_, fun b y e => ?_, g.ns, g.cell, g.own, g.lo, g.fr, fun y c e => ?_, g.one, g.sp, g.gens, g.os, g.drawn⟩, fun _ h => h, fun b o e _ _ _ => hk b o e, fun b o e _ _ => ⟨o.slots, hk b o e⟩, fun b y e => ?_, fun _ h => .inl h, G.live⟩
 ·obtain ⟨e1, e2, e3, e4⟩ := g.fro p hp
  refine ⟨e1, e2, ?_, e4⟩
  show ((a, x) :: σ.mem).lookup p.1 = none
  rw [lk]
  cases q : (p.1 == a) with
  | false => exact e3
  | true =>
   have := (r.fro p hp).1
   rw [eq_of_beq q, h1] at this; cases this
 ·have e' : ((a, x) :: σ.mem).lookup b = some y := e
  rw [lk] at e'
  cases q : (b == a) with
  | false => rw [q] at e'; exact g.mem b y e'
  | true =>
   rw [q] at e'
   cases e'
   rw [eq_of_beq q]
   refine ⟨o, h2, hx, ?_, nown, nfr, fun q => aS h1 (q ▸ r.one)⟩
   cases z : C.h₀.get? a with
   | none => rfl
   | some o' => rw [r.base a o' z] at h1; cases h1
 ·obtain ⟨e1, e2, e3⟩ := g.nocell y c e
  refine ⟨e1, ?_, e3⟩
  show ((a, x) :: σ.mem).lookup c = none
  rw [lk, if_neg (fun q => aS h1 (by rw [← eq_of_beq q]; exact (r.nocell y c e).2.2.2.isat))]
  exact e2
 ·have e' : ((a, x) :: σ.mem).lookup b = some y := e
  rw [lk] at e'
  cases q : (b == a) with
  | false => rw [q] at e'; exact .inl ⟨y, e'⟩
  | true => rw [eq_of_beq q]; exact .inr h1
theorem Go.setMem {C : Cx} {fz : Fz} {σ : St} {s s' : Shared} (r : bt C fz σ s) (a : Addr) (x x₀ : M) (o : Obj) (hm : σ.mem.lookup a = some x₀)
  (hk : ∀ b o, b ≠ a → s.heap.get? b = some o → s'.heap.get? b = some o)
  (h2 : s'.heap.get? a = some o) (hx : MR C.P fz x o) (hg : s'.gens = s.gens := by rfl) (ho : s'.os = s.os := by rfl) (hd : s'.drawn = s.drawn := by rfl) :
  Go C fz σ s fz ⟨σ.loc, put a x σ.mem⟩ s' := by
 obtain ⟨o₀, m1, m2, m3, m4, m5⟩ := r.mem a x₀ hm
 have kn : ∀ {c : Addr} {m : Str → Option Value}, c ≠ a → s.heap.Ns c m → s'.heap.Ns c m := fun hc h => let ⟨o, es, ep, e, q⟩ := h; ⟨o, es, ep, hk _ _ hc e, q⟩
 have lv : ∀ b, (s.heap.get? b).isSome = true → (s'.heap.get? b).isSome = true := fun b h => by
  obtain ⟨o', e⟩ := Option.isSome_iff_exists.mp h
  by_cases q : b = a
  ·rw [q]; exact az h2
  ·exact az (hk b o' q e)
 refine ⟨⟨fun b o e => hk b o (fun q => by rw [q, m3] at e; cases e) (r.base b o e), fun p hp => ?_, fun b y e => ?_, ?_, fun y v e n => ?_, fun b hb => ⟨(r.own b hb).1, lv b (r.own b hb).2⟩, r.lo, fun b hb => ?_, fun y c e => ?_, lv 1 r.one, r.sp, hg.trans r.gens, ho.trans r.os, hd.trans r.drawn⟩, fun _ h => h, fun b o e hb hn _ => ?_, fun b o e hn hf => ?_, fun b y e => ?_, fun _ h => .inl h, lv⟩
 ·obtain ⟨e1, e2, e3, e4⟩ := r.fro p hp
  have ne : p.1 ≠ a := fun q => by rw [q, hm] at e3; cases e3
  refine ⟨hk _ _ ne e1, e2, ?_, e4⟩
  show (put a x σ.mem).lookup p.1 = none
  rw [aK, if_neg (by simpa using ne)]; exact e3
 ·have e' : (put a x σ.mem).lookup b = some y := e
  rw [aK] at e'
  by_cases q : (b == a) = true
  ·rw [if_pos q] at e'; cases e'; rw [eq_of_beq q]; exact ⟨o, h2, hx, m3, m4, m5⟩
  ·rw [if_neg q] at e'
   obtain ⟨o', f1, f2, f3⟩ := r.mem b y e'
   exact ⟨o', hk _ _ (by simpa using q) f1, f2, f3⟩
 ·obtain ⟨m, h, k⟩ := r.ns
  exact ⟨m, kn (fun q => m4 (q ▸ r.lo)) h, k⟩
 ·obtain ⟨c, u, f1, f2, ⟨oc, f3, f4⟩, f5⟩ := r.cell y v e n
  refine ⟨c, u, f1, f2, ⟨oc, hk _ _ (fun q => ?_) f3, f4⟩, f5⟩
  have := (r.nocell y c f2).2.1
  rw [q, hm] at this; cases this
 ·obtain ⟨f1, o', f2, f3⟩ := r.fr b hb
  exact ⟨f1, o', hk _ _ (fun q => m5.1 (q ▸ hb)) f2, f3⟩
 ·obtain ⟨e1, e2, e3⟩ := r.nocell y c e
  refine ⟨e1, ?_, e3.1, e3.2.keep fun o q => hk c o (fun z => by rw [z, hm] at e2; cases e2) q⟩
  show (put a x σ.mem).lookup c = none
  rw [aK, if_neg (fun q => by rw [eq_of_beq q, hm] at e2; cases e2)]; exact e2
 ·exact hk b o (fun q => by rw [q, hm] at hb; cases hb) e
 ·exact ⟨o.slots, hk b o (fun q => m5.1 (q ▸ hf)) e⟩
 ·have e' : (put a x σ.mem).lookup b = some y := e
  rw [aK] at e'
  by_cases q : (b == a) = true
  ·rw [eq_of_beq q]; exact .inl ⟨x₀, hm⟩
  ·rw [if_neg q] at e'; exact .inl ⟨y, e'⟩
noncomputable def bP (a : Addr) (m : Mem) : Mem := m.filter fun p => p.1 != a
theorem bQ (a : Addr) : ∀ (m : Mem) (b : Addr), (bP a m).lookup b = if b == a then none else m.lookup b
 | [], b => by simp [bP]
 | (c, x) :: m, b => by
  have ih := bQ a m b
  unfold bP at ih ⊢
  rw [List.filter_cons]
  by_cases q : c = a
  ·subst q
   simp only [bne_self_eq_false, Bool.false_eq_true, if_false, ih, List.lookup_cons]
   by_cases z : b = c
   ·subst z; simp
   ·have : (b == c) = false := by simpa using z
    simp [this]
  ·have q' : (c != a) = true := by simpa using q
   simp only [q', if_true, List.lookup_cons, ih]
   by_cases z : b = c
   ·subst z
    have : (b == a) = false := by simpa using q
    simp [this]
   ·have : (b == c) = false := by simpa using z
    simp [this]
theorem Go.freeze {C : Cx} {fz : Fz} {σ : St} {s : Shared} (r : bt C fz σ s) (a : Addr) (x : M) (hm : σ.mem.lookup a = some x) :
  ∃ o, s.heap.get? a = some o ∧ MR C.P fz x o ∧ Go C fz σ s ((a, o) :: fz) ⟨σ.loc, bP a σ.mem⟩ s := by
 obtain ⟨o, m1, m2, m3, m4, m5, m6⟩ := r.mem a x hm
 have sub : ∀ p ∈ fz, p ∈ (a, o) :: fz := fun p h => .tail _ h
 have of : ∀ {b y}, (bP a σ.mem).lookup b = some y → b ≠ a ∧ σ.mem.lookup b = some y := fun {b y} e => by
  rw [bQ] at e
  by_cases q : (b == a) = true
  ·rw [if_pos q] at e; cases e
  ·rw [if_neg q] at e; exact ⟨by simpa using q, e⟩
 have no : ∀ {b}, σ.mem.lookup b = none → (bP a σ.mem).lookup b = none := fun {b} e => by
  rw [bQ]; split <;> first | rfl | exact e
 refine ⟨o, m1, m2, ⟨r.base, fun p hp => ?_, fun b y e => ?_, ?_, fun y v e n => ?_, r.own, r.lo, r.fr, fun y c e => ?_, r.one, fun p hp => sub p (r.sp p hp), r.gens, r.os, r.drawn⟩, sub, fun b o e _ _ _ => e, fun b o e _ _ => ⟨o.slots, e⟩, fun b y e => .inl ⟨y, (of e).2⟩, fun p hp => ?_, fun _ h => h⟩
 ·rcases List.mem_cons.mp hp with rfl | hp
  ·refine ⟨m1, m4, ?_, m5, m6⟩
   show (bP a σ.mem).lookup a = none
   rw [bQ, if_pos (beq_self_eq_true _)]
  ·obtain ⟨e1, e2, e3, e4⟩ := r.fro p hp
   exact ⟨e1, e2, no e3, e4⟩
 ·obtain ⟨o', f1, f2, f3⟩ := r.mem b y (of e).2
  exact ⟨o', f1, f2.mono sub, f3⟩
 ·obtain ⟨m, h, k⟩ := r.ns
  exact ⟨m, h, fun x v e q => let ⟨u, a, b⟩ := k x v e q; ⟨u, a.mono sub, b⟩⟩
 ·obtain ⟨c, u, f1, f2, f3, f5⟩ := r.cell y v e n
  exact ⟨c, u, f1, f2, f3, f5.mono sub⟩
 ·obtain ⟨e1, e2, e3⟩ := r.nocell y c e
  exact ⟨e1, no e2, e3⟩
 ·rcases List.mem_cons.mp hp with rfl | hp
  ·exact .inr (.inr ⟨x, hm⟩)
  ·exact .inl hp
noncomputable def Fb (C' : Cx) (σ : St) (s : Shared) : Heap := hideAll s.heap (σ.mem.map (·.1) ++ C'.own ++ C'.frs)
theorem lR {b : Addr} : ∀ {m : Mem}, b ∈ m.map (·.1) → ∃ x, m.lookup b = some x
 | (c, x) :: m, h => by
  rw [List.lookup_cons]
  cases q : (b == c) with
  | true => exact ⟨x, rfl⟩
  | false =>
   rcases List.mem_cons.mp h with h | h
   ·rw [h] at q; simp at q
   ·exact lR h
theorem lS {b : Addr} : ∀ {m : Mem} {x : M}, m.lookup b = some x → b ∈ m.map (·.1)
 | [], y, h => by simp at h
 | (c, x) :: m, y, h => by
  rw [List.lookup_cons] at h
  cases q : (b == c) with
  | true => exact List.mem_cons.mpr (.inl (eq_of_beq q))
  | false => rw [q] at h; exact List.mem_cons.mpr (.inr (lS h))
structure Sub (C C' : Cx) (fz : Fz) (σ : St) (s s₁ : Shared) : Prop where
 w : C'.w = C.w
 hk : ∀ b o, s.heap.get? b = some o → s₁.heap.get? b = some o
 base : C'.h₀ = Fb C' σ s₁
 own : ∀ a ∈ C'.own, s.heap.get? a = none ∧ (s₁.heap.get? a).isSome = true
 lo : C'.env.locals ∈ C'.own
 frs : ∀ b ∈ C'.frs, b ∈ C.frs ∨ s.heap.get? b = none ∧ ∃ o, s₁.heap.get? b = some o ∧ ∀ vs, o.data ≠ .fields vs
 gens : s₁.gens = C'.gens ∧ C'.gens = C.gens
 os : s₁.os = C'.os ∧ C'.os = C.os
 drawn : s₁.drawn = C'.drawn ∧ C'.drawn = C.drawn
section
variable {C C' : Cx} {fz : Fz} {σ : St} {s s₁ : Shared}
theorem Sub.stay (S : Sub C C' fz σ s s₁) {a : Addr} (h : (s.heap.get? a).isSome = true) : (s₁.heap.get? a).isSome = true := by
 obtain ⟨o, e⟩ := Option.isSome_iff_exists.mp h
 exact az (S.hk a o e)
theorem Sub.hid (S : Sub C C' fz σ s s₁) {b : Addr} (h : b ∈ σ.mem.map (·.1) ++ C'.own ++ C'.frs) : C'.h₀.get? b = none := by
 rw [S.base]; exact hideAll_none _ h
theorem Sub.at (S : Sub C C' fz σ s s₁) {b : Addr} {o : Obj} (e : s.heap.get? b = some o) (hm : σ.mem.lookup b = none) (hf : b ∉ C'.frs) : C'.h₀.get? b = some o := by
 rw [S.base]
 refine hideAll_get _ (S.hk b o e) fun h => ?_
 rcases List.mem_append.mp h with h | h
 ·rcases List.mem_append.mp h with h | h
  ·obtain ⟨x, e⟩ := lR h; rw [hm] at e; cases e
  ·rw [(S.own b h).1] at e; cases e
 ·exact hf h
theorem Sub.nfr (S : Sub C C' fz σ s s₁) {b : Addr} {o : Obj} (e : s.heap.get? b = some o) (hf : b ∉ C.frs) : b ∉ C'.frs := fun h => by
 rcases S.frs b h with h | h
 ·exact hf h
 ·rw [h.1] at e; cases e
theorem Sub.enter (S : Sub C C' fz σ s s₁) (r : bt C fz σ s) (loc : List (Str × V))
  (ns : ∃ m, s₁.heap.Ns C'.env.locals m ∧ ∀ x v, loc.lookup x = some v → C'.env.kindOf x = some .local → ∃ u, RV C'.P fz v u ∧ m x = some u)
  (cell : ∀ x v, loc.lookup x = some v → C'.env.kindOf x ≠ some .local → qJ C' fz s₁ x v)
  (nocell : ∀ x c, C'.env.cells.lookup x = some c → c ∉ C'.frs ∧ σ.mem.lookup c = none ∧ c ≠ C'.env.locals ∧ eH s₁.heap c) : bt C' fz ⟨loc, σ.mem⟩ s₁ := by
 have hP : C'.P = C.P := congrArg World.params S.w
 refine ⟨fun b o e => by rw [S.base] at e; exact of_hideAll _ e, fun p hp => ?_, fun a x e => ?_, ns, cell, fun a ha => ⟨S.hid (List.mem_append.mpr (.inl (List.mem_append.mpr (.inr ha)))), (S.own a ha).2⟩, S.lo, fun b hb => ⟨S.hid (List.mem_append.mpr (.inr hb)), ?_⟩, nocell, S.stay r.one, r.sp, S.gens.1, S.os.1, S.drawn.1⟩
 ·obtain ⟨e1, e2, e3, e4, e5⟩ := r.fro p hp
  refine ⟨S.hk _ _ e1, fun h => ?_, e3, S.nfr e1 e4, e5⟩
  rw [(S.own _ h).1] at e1; cases e1
 ·obtain ⟨o, e1, e2, e3, e4, e5, e6⟩ := r.mem a x e
  refine ⟨o, S.hk _ _ e1, hP ▸ e2, S.hid (List.mem_append.mpr (.inl (List.mem_append.mpr (.inl (lS e))))), fun h => ?_, S.nfr e1 e5, e6⟩
  rw [(S.own _ h).1] at e1; cases e1
 ·rcases S.frs b hb with h | h
  ·obtain ⟨_, o, e, n⟩ := r.fr b h
   exact ⟨o, S.hk _ _ e, n⟩
  ·exact h.2
theorem Sub.leave (S : Sub C C' fz σ s s₁) (r : bt C fz σ s) {loc : List (Str × V)} {fz₂ : Fz} {σ₂ : St} {s₂ : Shared} (g : Go C' fz ⟨loc, σ.mem⟩ s₁ fz₂ σ₂ s₂) : Go C fz σ s fz₂ ⟨σ.loc, σ₂.mem⟩ s₂ := by
 have hP : C'.P = C.P := congrArg World.params S.w
 have kp : ∀ b o, s.heap.get? b = some o → σ.mem.lookup b = none → b ∉ C.frs → s₂.heap.get? b = some o := fun b o e hm hf => g.rep.base b o (S.at e hm (S.nfr e hf))
 have nk : ∀ b ∈ C.frs, σ.mem.lookup b = none := fun b hb => by
  cases q : σ.mem.lookup b with
  | none => rfl
  | some x => obtain ⟨_, _, _, _, _, h, _⟩ := r.mem b x q; exact absurd hb h
 have kf : ∀ b o, s.heap.get? b = some o → b ∈ C.frs → ∃ sl, s₂.heap.get? b = some { o with slots := sl } := fun b o e hf => by
  by_cases q : b ∈ C'.frs
  ·exact g.slot b o (S.hk b o e) (fun h => by rw [(S.own b h).1] at e; cases e) q
  ·exact ⟨o.slots, g.rep.base b o (S.at e (nk b hf) q)⟩
 have lv : ∀ a, (s.heap.get? a).isSome = true → (s₂.heap.get? a).isSome = true := fun a h => g.live a (S.stay h)
 have fresh : ∀ a, s₁.heap.get? a = none → s.heap.get? a = none := fun a h => c9 fun q => aS h (S.stay q)
 have newm : ∀ a x, σ₂.mem.lookup a = some x → (∃ y, σ.mem.lookup a = some y) ∨ s.heap.get? a = none := fun a x e => (g.new a x e).imp id (fresh a)
 have nmo : ∀ a, a ∈ C.own → σ.mem.lookup a = none := fun a ha => by
  cases q : σ.mem.lookup a with
  | none => rfl
  | some x => obtain ⟨_, _, _, _, h, _⟩ := r.mem a x q; exact absurd ha h
 refine ⟨⟨fun b o e => ?_, fun p hp => ?_, fun a x e => ?_, ?_, fun x v e n => ?_, fun a ha => ⟨(r.own a ha).1, lv a (r.own a ha).2⟩, r.lo, fun b hb => ⟨(r.fr b hb).1, ?_⟩, fun x c e => ?_, lv 1 r.one, fun p hp => g.sub p (r.sp p hp), g.rep.gens.trans S.gens.2, g.rep.os.trans S.os.2, g.rep.drawn.trans S.drawn.2⟩, g.sub, fun b o e hm ho hf => kp b o e hm hf, fun b o e ho hf => kf b o e hf, newm, fun p hp => ?_, lv⟩
 ·have hn : σ.mem.lookup b = none := by
   cases q : σ.mem.lookup b with
   | none => rfl
   | some x => obtain ⟨_, _, _, h, _⟩ := r.mem b x q; rw [e] at h; cases h
  exact kp b o (r.base b o e) hn fun h => by have := (r.fr b h).1; rw [e] at this; cases this
 ·obtain ⟨e1, e2, e3, e4, e5⟩ := g.rep.fro p hp
  have hh : p.1 ∉ C.own ∧ p.1 ∉ C.frs := by
   rcases g.fnew p hp with h | h | ⟨y, h⟩
   ·exact ⟨(r.fro p h).2.1, (r.fro p h).2.2.2.1⟩
   ·refine ⟨fun q => aS (fresh _ h) (r.own _ q).2, fun q => ?_⟩
    obtain ⟨_, o, e, _⟩ := r.fr _ q; rw [fresh _ h] at e; cases e
   ·obtain ⟨_, _, _, _, h1, h2, _⟩ := r.mem _ y h; exact ⟨h1, h2⟩
  exact ⟨e1, hh.1, e3, hh.2, e5⟩
 ·obtain ⟨o, e1, e2, e3, e4, e5, e6⟩ := g.rep.mem a x e
  refine ⟨o, e1, hP ▸ e2, ?_⟩
  rcases newm a x e with ⟨y, h⟩ | h
  ·obtain ⟨_, _, _, h1, h2, h3, _⟩ := r.mem a y h; exact ⟨h1, h2, h3, e6⟩
  ·refine ⟨c9 fun q => ?_, fun q => aS h (r.own _ q).2, fun q => ?_, e6⟩
   ·obtain ⟨o', e'⟩ := Option.isSome_iff_exists.mp q
    rw [r.base a o' e'] at h; cases h
   ·obtain ⟨_, o, e, _⟩ := r.fr _ q; rw [h] at e; cases e
 ·obtain ⟨m, h, k⟩ := r.ns
  refine ⟨m, ?_, fun x v e q => let ⟨u, a, b⟩ := k x v e q; ⟨u, a.mono g.sub, b⟩⟩
  obtain ⟨o, es, ep, e, hd, rest⟩ := h
  by_cases q : C.env.locals ∈ C.frs
  ·obtain ⟨sl, e'⟩ := kf _ o e q
   exact ⟨_, es, ep, e', hd, rest⟩
  ·exact ⟨o, es, ep, kp _ o e (nmo _ r.lo) q, hd, rest⟩
 ·obtain ⟨c, u, h1, h2, ⟨o, h3, h4⟩, h5⟩ := r.cell x v e n
  exact ⟨c, u, h1, h2, ⟨o, kp c o h3 (r.nocell x c h2).2.1 (r.nocell x c h2).1, h4⟩, h5.mono g.sub⟩
 ·obtain ⟨_, o, e, n⟩ := r.fr b hb
  obtain ⟨sl, e'⟩ := kf b o e hb
  exact ⟨_, e', n⟩
 ·obtain ⟨h1, h2, h3, h4⟩ := r.nocell x c e
  refine ⟨h1, ?_, h3, h4.keep fun o q => kp c o q h2 h1⟩
  cases q : σ₂.mem.lookup c with
  | none => rfl
  | some y =>
   rcases newm c y q with ⟨z, hz⟩ | hz
   ·rw [h2] at hz; cases hz
   ·exact absurd h4.isat (aS hz)
 ·exact (g.fnew p hp).imp id fun h => h.imp (fresh _) id
end
theorem Go.store {C : Cx} {fz : Fz} {σ : St} {s s' : Shared} (r : bt C fz σ s) (x : Str) (v : V) (u : Value) (hv : RV C.P fz v u) (hx : C.env.kindOf x = some .local)
  (hn : ∀ m, s.heap.Ns C.env.locals m → s'.heap.Ns C.env.locals (fun y => if y = x then some u else m y)) (hs : Heap.SameBut C.env.locals s.heap s'.heap)
  (hg : s'.gens = s.gens := by rfl) (ho : s'.os = s.os := by rfl) (hd : s'.drawn = s.drawn := by rfl) : Go C fz σ s fz ⟨put x v σ.loc, σ.mem⟩ s' := by
 have hk : ∀ b o, b ≠ C.env.locals → s.heap.get? b = some o → s'.heap.get? b = some o := fun b o q e => (hs.2 b q).trans e
 have nl : ∀ b, b ∉ C.own → b ≠ C.env.locals := fun b h q => h (q ▸ r.lo)
 obtain ⟨m, hm, km⟩ := r.ns
 have hm' := hn m hm
 have lv : ∀ b, (s.heap.get? b).isSome = true → (s'.heap.get? b).isSome = true := fun b h => by
  obtain ⟨o', e⟩ := Option.isSome_iff_exists.mp h
  by_cases q : b = C.env.locals
  ·obtain ⟨o, _, _, e, _⟩ := hm'; rw [q]; exact az e
  ·exact az (hk b o' q e)
 refine ⟨⟨fun b o e => hk b o (fun q => ?_) (r.base b o e), fun p hp => ?_, fun a y e => ?_, ⟨_, hm', fun y w e q => ?_⟩, fun y w e n => ?_, fun a ha => ⟨(r.own a ha).1, lv a (r.own a ha).2⟩, r.lo, fun b hb => ?_, fun y c e => ?_, lv 1 r.one, r.sp, hg.trans r.gens, ho.trans r.os, hd.trans r.drawn⟩, fun _ h => h, fun b o e _ hn _ => hk b o (nl b hn) e, fun b o e hn _ => ⟨o.slots, hk b o (nl b hn) e⟩, fun b y e => .inl ⟨y, e⟩, fun _ h => .inl h, lv⟩
 ·have := (r.own _ r.lo).1; rw [q, this] at e; cases e
 ·obtain ⟨e1, e2, e3⟩ := r.fro p hp
  exact ⟨hk _ _ (nl _ e2) e1, e2, e3⟩
 ·obtain ⟨o, e1, e2, e3, e4, e5⟩ := r.mem a y e
  exact ⟨o, hk _ _ (nl _ e4) e1, e2, e3, e4, e5⟩
 ·have e' : (put x v σ.loc).lookup y = some w := e
  rw [aK] at e'
  by_cases z : (y == x) = true
  ·rw [if_pos z] at e'; cases e'
   exact ⟨u, hv, if_pos (eq_of_beq z)⟩
  ·rw [if_neg z] at e'
   obtain ⟨u', a, b⟩ := km y w e' q
   exact ⟨u', a, (if_neg (by simpa using z)).trans b⟩
 ·have e' : (put x v σ.loc).lookup y = some w := e
  rw [aK] at e'
  by_cases z : (y == x) = true
  ·exact absurd (eq_of_beq z ▸ hx) n
  ·rw [if_neg z] at e'
   refine gk fun _ kk => ?_
   obtain ⟨c, u', h1, h2, ⟨o, h3, h4⟩, h5⟩ := r.cell y w e' n
   refine kk ?_; clear kk
   exact ⟨c, u', h1, h2, ⟨o, hk _ _ (r.nocell y c h2).2.2.1 h3, h4⟩, h5⟩
 ·obtain ⟨h1, o, h2, h3⟩ := r.fr b hb
  refine ⟨h1, ?_⟩
  by_cases q : b = C.env.locals
  ·obtain ⟨o, es, ep, e, hd, _⟩ := hm'
   exact ⟨o, q ▸ e, fun vs z => by rw [hd] at z; cases z⟩
  ·exact ⟨o, hk _ _ q h2, h3⟩
 ·obtain ⟨h1, h2, h3, h4⟩ := r.nocell y c e
  exact ⟨h1, h2, h3, h4.keep fun o q => hk c o h3 q⟩
theorem Go.storeCell {C : Cx} {fz : Fz} {σ : St} {s s' : Shared} (r : bt C fz σ s) (x : Str) (v : V) (u : Value) (c : Addr) (hv : RV C.P fz v u) (hx : C.env.kindOf x = some .cell) (hc : C.env.cells.lookup x = some c) (hco : c ∈ C.own)
  (hinj : ∀ y, C.env.cells.lookup y = some c → y = x)
  (hn : s'.heap.IsCell c (some u)) (hs : Heap.SameBut c s.heap s'.heap)
  (hg : s'.gens = s.gens := by rfl) (ho : s'.os = s.os := by rfl) (hd : s'.drawn = s.drawn := by rfl) : Go C fz σ s fz ⟨put x v σ.loc, σ.mem⟩ s' := by
 have hk : ∀ b o, b ≠ c → s.heap.get? b = some o → s'.heap.get? b = some o := fun b o q e => (hs.2 b q).trans e
 have nl : ∀ b, b ∉ C.own → b ≠ c := fun b h q => h (q ▸ hco)
 refine gk fun _ kk => ?_
 obtain ⟨n1, n2, n3, n4⟩ := r.nocell x c hc
 refine kk ?_; clear kk
 have lv : ∀ b, (s.heap.get? b).isSome = true → (s'.heap.get? b).isSome = true := fun b h => by
  obtain ⟨o', e⟩ := Option.isSome_iff_exists.mp h
  by_cases q : b = c
  ·obtain ⟨o, e, _⟩ := hn; rw [q]; exact az e
  ·exact az (hk b o' q e)
 refine ⟨⟨fun b o e => hk b o (fun q => ?_) (r.base b o e), fun p hp => ?_, fun a y e => ?_, ?_, fun y w e n => ?_, fun a ha => ⟨(r.own a ha).1, lv a (r.own a ha).2⟩, r.lo, fun b hb => ?_, fun y c' e => ?_, lv 1 r.one, r.sp, hg.trans r.gens, ho.trans r.os, hd.trans r.drawn⟩, fun _ h => h, fun b o e _ hn _ => hk b o (nl b hn) e, fun b o e hn _ => ⟨o.slots, hk b o (nl b hn) e⟩, fun b y e => .inl ⟨y, e⟩, fun _ h => .inl h, lv⟩
 ·have := (r.own _ hco).1; rw [q, this] at e; cases e
 ·obtain ⟨e1, e2, e3⟩ := r.fro p hp
  exact ⟨hk _ _ (nl _ e2) e1, e2, e3⟩
 ·obtain ⟨o, e1, e2, e3, e4, e5⟩ := r.mem a y e
  exact ⟨o, hk _ _ (nl _ e4) e1, e2, e3, e4, e5⟩
 ·obtain ⟨m, hm, km⟩ := r.ns
  refine ⟨m, hm.sameBut hs (fun q => n3 q.symm), fun y w e q => ?_⟩
  have e' : (put x v σ.loc).lookup y = some w := e
  rw [aK] at e'
  by_cases z : (y == x) = true
  ·rw [eq_of_beq z, hx] at q; cases q
  ·rw [if_neg z] at e'; exact km y w e' q
 ·have e' : (put x v σ.loc).lookup y = some w := e
  rw [aK] at e'
  by_cases z : (y == x) = true
  ·rw [if_pos z] at e'; cases e'
   rw [eq_of_beq z]
   exact ⟨c, u, .inl hx, hc, hn, hv⟩
  ·rw [if_neg z] at e'
   refine gk fun _ kk => ?_
   obtain ⟨c', u', h1, h2, ⟨o, h3, h4⟩, h5⟩ := r.cell y w e' n
   refine kk ?_; clear kk
   exact ⟨c', u', h1, h2, ⟨o, hk _ _ (fun q => z (by rw [hinj y (q ▸ h2)]; exact beq_self_eq_true _)) h3, h4⟩, h5⟩
 ·obtain ⟨h1, o, h2, h3⟩ := r.fr b hb
  exact ⟨h1, o, hk _ _ (fun q => n1 (q ▸ hb)) h2, h3⟩
 ·obtain ⟨h1, h2, h3, h4⟩ := r.nocell y c' e
  refine ⟨h1, h2, h3, ?_⟩
  by_cases q : c' = c
  ·obtain ⟨o, e, d⟩ := hn; rw [q]; exact ⟨o, _, e, d⟩
  ·exact h4.keep fun o z => hk c' o q z
noncomputable def Aw (fz : Fz) (σ : St) (x : Addr) : Prop := (∀ p ∈ fz, p.1 ≠ x) ∧ σ.mem.lookup x = none
inductive OG (fls : List Value) (fz : Fz) (σ : St) (a : Addr) (h : Heap) (s : Shared) (vs : Array Value) : Prop
 | mk (T : Addr) (oT : Obj) (ts : Array Value) (h1 : vs[1]? = some (.ref T)) (h2 : s.heap.get? T = none) (h3 : T ≠ a) (h4 : h.get? T = some oT) (h5 : oT.data = .fields ts) (h6 : ∃ fl ∈ fls, ts[3]? = some fl) (h7 : Aw fz σ T)
inductive Hk (fls : List Value) (fz : Fz) (σ : St) (a : Addr) (h : Heap) (s : Shared) : Prop
 | mk (oe : Obj) (vs : Array Value) (a0 : Value) (h1 : h.get? a = some oe) (h2 : oe.cls = .ref 59) (h3 : oe.data = .fields vs) (h4 : vs[0]? = some a0) (h5 : Aw fz σ a) (h6 : vs[1]? = some .none ∨ OG fls fz σ a h s vs)
inductive nh (fls : List Value) (C : Cx) (fz : Fz) (σ : St) (s : Shared) (R : St → Prop) (e : Value) (s' : Shared) : Prop
 | mk (a : Addr) (fz' : Fz) (σ' : St) (h1 : e = .ref a) (h2 : Go C fz σ s fz' σ' s') (h3 : s.heap.get? a = none) (h4 : Hk fls fz' σ' a s'.heap s) (h5 : R σ')
noncomputable abbrev Ex (C : Cx) := nh [.none, rawInt C.L] C
inductive ai (C : Cx) (fz : Fz) (σ : St) (s : Shared) (Q : V → St → Prop) (v : Value) (s' : Shared) : Prop
 | mk (fz' : Fz) (x : V) (σ' : St) (g : Go C fz σ s fz' σ' s') (hv : RV C.P fz' x v) (q : Q x σ')
inductive vH (C : Cx) (fz : Fz) (σ : St) (s : Shared) (Q : St → Prop) (s' : Shared) : Prop
 | mk (fz' : Fz) (σ' : St) (g : Go C fz σ s fz' σ' s') (q : Q σ')
noncomputable def jZ (C : Cx) (fz : Fz) (σ : St) (s : Shared) (Q : Bool → St → Prop) : Bool → Shared → Prop := fun v s' => vH C fz σ s (Q v) s'
inductive oj (C : Cx) (fz : Fz) (σ : St) (s : Shared) (Q : List V → St → Prop) (v : List Value) (s' : Shared) : Prop
 | mk (fz' : Fz) (x : List V) (σ' : St) (g : Go C fz σ s fz' σ' s') (hv : bu C.P fz' x v) (q : Q x σ')
noncomputable def g9 (C : Cx) (fz : Fz) (σ : St) (s : Shared) (Qn : St → Prop) (Qr : V → St → Prop) : Flow → Shared → Prop := fun f s' => match f with
 | .next => vH C fz σ s Qn s'
 | .ret v => ai C fz σ s Qr v s'
 | _ => False
theorem Ex.of_go {fls : List Value} {C : Cx} {fz fz₁ : Fz} {σ σ₁ : St} {s s₁ : Shared} {R : St → Prop} (g : Go C fz σ s fz₁ σ₁ s₁) {e : Value} {s' : Shared} (x : nh fls C fz₁ σ₁ s₁ R e s') : nh fls C fz σ s R e s' := by
 refine gk fun _ kk => ?_
 obtain ⟨a, fz', σ', h1, h2, h3, ⟨oe, vs, a0, f1, f2, f3, f4, f5, f6⟩, h5⟩ := x
 refine kk ?_; clear kk
 have nn : ∀ {b : Addr}, s₁.heap.get? b = none → s.heap.get? b = none := fun h => c9 fun q => aS h (g.live _ q)
 refine ⟨a, fz', σ', h1, g.trans h2, nn h3, ⟨oe, vs, a0, f1, f2, f3, f4, f5, f6.imp id ?_⟩, h5⟩
 intro zz
 refine gk fun _ kk => ?_
 obtain ⟨T, oT, ts, a1, a2, a3, a4, a5, a6, a7⟩ := zz
 refine kk ?_; clear kk
 exact ⟨T, oT, ts, a1, nn a2, a3, a4, a5, a6, a7⟩
theorem Ex.no {C : Cx} {fz : Fz} {σ : St} {s : Shared} {e : Value} {s' : Shared} (x : Ex C fz σ s (fun _ => False) e s') : False := let ⟨_, _, _, _, _, _, _, f⟩ := x; f
theorem Ex.mono {fls : List Value} {C : Cx} {fz : Fz} {σ : St} {s : Shared} {R R' : St → Prop} {e : Value} {s' : Shared} (hr : ∀ m, R m → R' m) (x : nh fls C fz σ s R e s') : nh fls C fz σ s R' e s' :=
 let ⟨a, f, σ', h1, h2, h3, h4, h5⟩ := x; ⟨a, f, σ', h1, h2, h3, h4, hr _ h5⟩
theorem ai.of_go {C : Cx} {fz fz₁ : Fz} {σ σ₁ : St} {s s₁ : Shared} {Q : V → St → Prop} (g : Go C fz σ s fz₁ σ₁ s₁) {v : Value} {s' : Shared} (x : ai C fz₁ σ₁ s₁ Q v s') : ai C fz σ s Q v s' :=
 let ⟨fz', x, σ', h1, h2, h3⟩ := x; ⟨fz', x, σ', g.trans h1, h2, h3⟩
theorem jZ.of_go {C : Cx} {fz fz₁ : Fz} {σ σ₁ : St} {s s₁ : Shared} {Q : Bool → St → Prop} (g : Go C fz σ s fz₁ σ₁ s₁) {v : Bool} {s' : Shared} (x : jZ C fz₁ σ₁ s₁ Q v s') : jZ C fz σ s Q v s' :=
 let ⟨fz', σ', h1, h2⟩ := x; ⟨fz', σ', g.trans h1, h2⟩
theorem oj.of_go {C : Cx} {fz fz₁ : Fz} {σ σ₁ : St} {s s₁ : Shared} {Q : List V → St → Prop} (g : Go C fz σ s fz₁ σ₁ s₁) {v : List Value} {s' : Shared} (x : oj C fz₁ σ₁ s₁ Q v s') : oj C fz σ s Q v s' :=
 let ⟨fz', x, σ', h1, h2, h3⟩ := x; ⟨fz', x, σ', g.trans h1, h2, h3⟩
theorem g9.of_go {C : Cx} {fz fz₁ : Fz} {σ σ₁ : St} {s s₁ : Shared} {Qn : St → Prop} {Qr : V → St → Prop} (g : Go C fz σ s fz₁ σ₁ s₁) {v : Flow} {s' : Shared} (x : g9 C fz₁ σ₁ s₁ Qn Qr v s') : g9 C fz σ s Qn Qr v s' := by
 cases v with
 | next => obtain ⟨fz', σ', h1, h2⟩ := x; exact ⟨fz', σ', g.trans h1, h2⟩
 | ret v => exact ai.of_go g x
 | cont => exact x
 | brk => exact x
theorem g9.mono {C : Cx} {fz : Fz} {σ : St} {s : Shared} {Qn Qn' : St → Prop} {Qr Qr' : V → St → Prop} (hn : ∀ m, Qn m → Qn' m) (hr : ∀ v m, Qr v m → Qr' v m) {v : Flow} {s' : Shared} (x : g9 C fz σ s Qn Qr v s') : g9 C fz σ s Qn' Qr' v s' := by
 cases v with
 | next => obtain ⟨fz', σ', h1, h2⟩ := x; exact ⟨fz', σ', h1, hn _ h2⟩
 | ret v => obtain ⟨fz', x, σ', h1, h2, h3⟩ := x; exact ⟨fz', x, σ', h1, h2, hr _ _ h3⟩
 | cont => exact x
 | brk => exact x
structure Ok (C : Cx) : Prop where
 hA : C.A.frames = some (C.fenv :: C.outer)
 hf : C.fenv.frame = some C.L
 hfk : ∀ e ∈ C.fenv :: C.outer, e.scope.kind ≠ .module ∧ e.frame.isSome = true
 ef : C.env.frame = some C.L
 ek : C.env.scope.kind = .function
 eg : C.env.globals = mainGlobals
 eb : C.env.builtins = builtinsNs
 K : (HB.KF C.P).In C.h₀
 g : C.h₀.Ns mainGlobals C.mg
 b : C.h₀.Ns builtinsNs C.mb
 bb : ∀ x : Str, x ≠ "__name__" → C.mb x = bootBuiltins x
 nl : C.h₀.NoLimit
 nd : ∃ mc, C.h₀.Ns cStatics mc ∧ mc "sys.int_max_str_digits" = none
 hh : C.A.handled = none
 hd : C.A.depth + C.d ≤ 990
 hu : C.A.units + 16 * C.d + C.k ≤ 9800
section
variable (prog : Program)
noncomputable abbrev Md (C : Cx) : Model := model prog C.w
noncomputable def WE (C : Cx) (σ : St) (t : Sem Value) (Q : V → St → Prop) (R : St → Prop) : Prop := ∀ fz s, bt C fz σ s → wpAny (Md prog C) C.A t (ai C fz σ s Q) (Ex C fz σ s R) s
noncomputable def WB (C : Cx) (σ : St) (t : Sem Bool) (Q : Bool → St → Prop) (R : St → Prop) : Prop := ∀ fz s, bt C fz σ s → wpAny (Md prog C) C.A t (jZ C fz σ s Q) (Ex C fz σ s R) s
noncomputable def WL (C : Cx) (σ : St) (t : Sem (List Value)) (Q : List V → St → Prop) (R : St → Prop) : Prop := ∀ fz s, bt C fz σ s → wpAny (Md prog C) C.A t (oj C fz σ s Q) (Ex C fz σ s R) s
noncomputable def W1 (C : Cx) (σ : St) (a : V) (t : Value → Sem Value) (Q : V → St → Prop) (R : St → Prop) : Prop := ∀ fz s u, bt C fz σ s → RV C.P fz a u → wpAny (Md prog C) C.A (t u) (ai C fz σ s Q) (Ex C fz σ s R) s
noncomputable def W2 (C : Cx) (σ : St) (a b : V) (t : Value → Value → Sem Value) (Q : V → St → Prop) (R : St → Prop) : Prop := ∀ fz s u v, bt C fz σ s → RV C.P fz a u → RV C.P fz b v → wpAny (Md prog C) C.A (t u v) (ai C fz σ s Q) (Ex C fz σ s R) s
noncomputable def WS (C : Cx) (σ : St) (t : Sem Flow) (Qn : St → Prop) (Qr : V → St → Prop) (R : St → Prop) : Prop := ∀ fz s, bt C fz σ s → wpAny (Md prog C) C.A t (g9 C fz σ s Qn Qr) (Ex C fz σ s R) s
noncomputable def WA (C : Cx) (σ : St) (as : List V) (t : List Value → Sem Value) (Q : V → St → Prop) (R : St → Prop) : Prop := ∀ fz s us, bt C fz σ s → bu C.P fz as us → wpAny (Md prog C) C.A (t us) (ai C fz σ s Q) (Ex C fz σ s R) s
end
section
variable {prog : Program} {C : Cx} {σ : St} {Q : V → St → Prop} {R : St → Prop}
theorem ai.val {fz : Fz} {s : Shared} (r : bt C fz σ s) {x : V} {v : Value} (hv : RV C.P fz x v) (h : Q x σ) : ai C fz σ s Q v s := ⟨fz, x, σ, Go.refl r, hv, h⟩
theorem ai.tok {fz : Fz} {s : Shared} (r : bt C fz σ s) {x : V} {v : Value} (tk : Nat) (hv : RV C.P fz x v) (h : Q x σ) : ai C fz σ s Q v { s with toks := tk } := ⟨fz, x, σ, Go.keeps r fun _ _ e => e, hv, h⟩
theorem Fc {i : Int} {k : Nat} {pos : Pos} (h : Q (.int i) σ) : WE prog C σ (eval (.Constant (.int i) k pos) C.env) Q R := fun _ s r => wpAny_Constant_int (ai.tok r _ (.int i s.toks) h)
theorem Fd {x : Str} {k : Nat} {pos : Pos} (hl : x.length ≤ cap) (h : Q (.str x) σ) : WE prog C σ (eval (.Constant (.str x) k pos) C.env) Q R := fun _ s r => wpAny_Constant_str (ai.tok r _ (.str x s.toks hl) h)
theorem tP {b : Bool} {k : Nat} {pos : Pos} (h : Q (.bool b) σ) : WE prog C σ (eval (.Constant (.bool b) k pos) C.env) Q R := fun _ _ r => wpAny_Constant_bool (ai.val r (.bool b) h)
theorem tQ {k : Nat} {pos : Pos} (h : Q .none σ) : WE prog C σ (eval (.Constant .none k pos) C.env) Q R := fun _ _ r => wpAny_Constant_none (ai.val r .none h)
theorem fY (O : Ok C) {x : Str} {pos : Pos} {v : V} (hv : σ.loc.lookup x = some v) (h : Q v σ) (hd : (x == ("__debug__" : Str)) = false) : WE prog C σ (eval (.Name x pos) C.env) Q R := fun fz s r => by
 refine wpAny_Name ?_ hd
 by_cases hk : C.env.kindOf x = some .local
 ·obtain ⟨m, hm, k⟩ := r.ns
  obtain ⟨u, hu, e⟩ := k x v hv hk
  exact wpAny_loadName_local O.ek hk hm e (ai.val r hu h)
 ·obtain ⟨c, u, h1, h2, h3, h4⟩ := r.cell x v hv hk
  rcases h1 with h1 | ⟨h1, h1'⟩
  ·exact wpAny_loadName_cell O.ek h1 h2 h3 (ai.val r h4 h)
  ·exact wpAny_loadName_free O.ek h1 h2 h3 (ai.val r h4 h) h1'
theorem kW (O : Ok C) {x : Str} {pos : Pos} {v : V} {u : Value} (hk : C.env.kindOf x = some .globalImplicit) (hm : C.mg x = some u) (hr : ∀ fz s, bt C fz σ s → RV C.P fz v u) (h : Q v σ) (hd : (x == ("__debug__" : Str)) = false) :
  WE prog C σ (eval (.Name x pos) C.env) Q R := fun fz s r =>
 Name_function_global O.ek hk (loadGlobal_global (by rw [O.eg]; exact O.g.keeps r.base) hm (ai.val r (hr fz s r) h)) hd
theorem qK (O : Ok C) {x : Str} {pos : Pos} {v : V} {u : Value} (hk : C.env.kindOf x = some .globalImplicit) (hm : C.mg x = none) (hb : bootBuiltins x = some u) (hn : x ≠ "__name__") (hr : ∀ fz, RV C.P fz v u) (h : Q v σ) (hd : (x == ("__debug__" : Str)) = false) :
  WE prog C σ (eval (.Name x pos) C.env) Q R := fun fz s r =>
 Name_function_global O.ek hk (loadGlobal_builtin (by rw [O.eg]; exact O.g.keeps r.base) hm (by rw [O.eb]; exact O.b.keeps r.base) ((O.bb x hn).trans hb) (ai.val r (hr fz) h)) hd
theorem WE.mono {t : Sem Value} {Q' : V → St → Prop} {R' : St → Prop} (h : WE prog C σ t Q R) (hq : ∀ v σ', Q v σ' → Q' v σ') (hr : ∀ m, R m → R' m) : WE prog C σ t Q' R' := fun fz s r =>
 wpAny_mono (h fz s r) (fun _ _ ⟨f, x, σ', a, b, c⟩ => ⟨f, x, σ', a, b, hq _ _ c⟩) fun _ _ e => Ex.mono hr e
theorem aX {fz : Fz} {s : Shared} {t : Sem Value} {K : Value → Shared → Prop} {Q1 : V → St → Prop} (r : bt C fz σ s) (h : WE prog C σ t Q1 R)
  (k : ∀ fz₁ x σ₁ s₁ v, Go C fz σ s fz₁ σ₁ s₁ → RV C.P fz₁ x v → Q1 x σ₁ → K v s₁) : wpAny (Md prog C) C.A t K (Ex C fz σ s R) s :=
 wpAny_mono (h fz s r) (fun v s₁ ⟨fz₁, x, σ₁, g, hv, hq⟩ => k fz₁ x σ₁ s₁ v g hv hq) fun _ _ e => e
theorem da {fz fz₀ : Fz} {σ₀ : St} {s s₀ : Shared} {t : Sem Value} {K : Value → Shared → Prop} {Q1 : V → St → Prop} (g₀ : Go C fz₀ σ₀ s₀ fz σ s) (h : WE prog C σ t Q1 R)
  (k : ∀ fz₁ x σ₁ s₁ v, Go C fz₀ σ₀ s₀ fz₁ σ₁ s₁ → (∀ p ∈ fz, p ∈ fz₁) → RV C.P fz₁ x v → Q1 x σ₁ → K v s₁) : wpAny (Md prog C) C.A t K (Ex C fz₀ σ₀ s₀ R) s :=
 wpAny_mono (h fz s g₀.rep) (fun v s₁ ⟨fz₁, x, σ₁, g, hv, hq⟩ => k fz₁ x σ₁ s₁ v (g₀.trans g) g.sub hv hq) fun _ _ e => Ex.of_go g₀ e
theorem kX {fz fz₀ : Fz} {σ₀ : St} {s s₀ : Shared} {a b : V} {u v : Value} {t : Value → Value → Sem Value} (g₀ : Go C fz₀ σ₀ s₀ fz σ s) (h : W2 prog C σ a b t Q R) (hu : RV C.P fz a u) (hv : RV C.P fz b v) :
  wpAny (Md prog C) C.A (t u v) (ai C fz₀ σ₀ s₀ Q) (Ex C fz₀ σ₀ s₀ R) s :=
 wpAny_mono (h fz s u v g₀.rep hu hv) (fun _ _ p => p.of_go g₀) fun _ _ e => Ex.of_go g₀ e
theorem tR {fz fz₀ : Fz} {σ₀ : St} {s s₀ : Shared} {a : V} {u : Value} {t : Value → Sem Value} (g₀ : Go C fz₀ σ₀ s₀ fz σ s) (h : W1 prog C σ a t Q R) (hu : RV C.P fz a u) :
  wpAny (Md prog C) C.A (t u) (ai C fz₀ σ₀ s₀ Q) (Ex C fz₀ σ₀ s₀ R) s :=
 wpAny_mono (h fz s u g₀.rep hu) (fun _ _ p => p.of_go g₀) fun _ _ e => Ex.of_go g₀ e
theorem Fe {l r : Expr} {op : Operator} {pos : Pos} {Q1 : V → St → Prop} {Q2 : V → V → St → Prop} (hl : WE prog C σ (eval l C.env) Q1 R) (hr : ∀ a σ₁, Q1 a σ₁ → WE prog C σ₁ (eval r C.env) (Q2 a) R)
  (ho : ∀ a b σ₂, Q2 a b σ₂ → W2 prog C σ₂ a b (binaryOp op) Q R) : WE prog C σ (eval (.BinOp l op r pos) C.env) Q R := fun fz s rp =>
 wpAny_BinOp (aX rp hl fun fz₁ x σ₁ s₁ v g hv hq => da g (hr x σ₁ hq) fun fz₂ y σ₂ s₂ v₂ g₂ sub hv₂ hq₂ => kX g₂ (ho x y σ₂ hq₂) (hv.mono sub) hv₂)
end
theorem bX {n : Nat} (h : n ≤ cap) : n ≤ sizeLine := by rw [sizeLine_eq]; unfold cap at h; lia
structure qL (i j : Int) : Prop where
 ok : IntMulOk i j
structure qM (j : Int) : Prop where
 h1 : j ≠ 0
 h2 : j.natAbs.log2 < 9000
structure qN (i j : Int) : Prop where
 h1 : 0 ≤ j
 h2 : j ≤ 1000000
 h3 : i.natAbs < 2 ^ 64
section
variable {P : Params} {fz : Fz} {x : V} {u : Value} {d : Prop} {G : Value → Prop}
noncomputable def j0 (x : V) (k : Int → Prop) (d : Prop) : Prop := match x with | .int i => k i | _ => d
noncomputable def qp (x : V) (k : Str → Prop) (d : Prop) : Prop := match x with | .str i => k i | _ => d
noncomputable def JF (x : V) (k : List UInt8 → Prop) (d : Prop) : Prop := match x with | .bytes i => k i | _ => d
noncomputable def Hl (x : V) (k : List V → Prop) (d : Prop) : Prop := match x with | .tup i => k i | _ => d
noncomputable def qq (x : V) (k : List V → Prop) (d : Prop) : Prop := match x with | .list i => k i | _ => d
noncomputable def Hm (x : V) (k : List (Str × V) → Prop) (d : Prop) : Prop := match x with | .dict i => k i | _ => d
noncomputable def vI (x : V) (k : Addr → Prop) (d : Prop) : Prop := match x with | .mut i => k i | _ => d
noncomputable def LD (x : V) (k : Prop) (d : Prop) : Prop := match x with | .none => k | _ => d
noncomputable def JG (x : V) (k : Addr → List (Str × V) → Prop) (d : Prop) : Prop := match x with | .inst c l => k c l | _ => d
noncomputable def LE (x : V) (k : Addr → Addr → Addr → Prop) (d : Prop) : Prop := match x with | .imut x y c => k x y c | _ => d
theorem Ff {k : Addr → List (Str × V) → Prop} (h : JG x k d) (hu : RV P fz x u) (h1 : ∀ c l y d es n, (y, instObj c d) ∈ fz → (d, dictOf es n) ∈ fz → dB P fz l es → k c l → G (.ref y)) (h2 : d → G u) : G u := by
 cases hu with | inst hx hm hv => exact h1 _ _ _ _ _ _ hx hm hv h | _ => exact h2 h
theorem qO {k : Addr → Addr → Addr → Prop} (h : LE x k d) (hu : RV P fz x u) (h1 : ∀ y d c, (y, instObj c d) ∈ fz → k y d c → G (.ref y)) (h2 : d → G u) : G u := by
 cases hu with | imut hx => exact h1 _ _ _ hx h | _ => exact h2 h
theorem bU {k : Int → Prop} (h : j0 x k d) (hu : RV P fz x u) (h1 : ∀ i t, k i → G (.int i t)) (h2 : d → G u) : G u := by
 cases hu with | int i t => exact h1 i t h | _ => exact h2 h
theorem dH {k : Str → Prop} (h : qp x k d) (hu : RV P fz x u) (h1 : ∀ y t, y.length ≤ cap → k y → G (.str y t)) (h2 : d → G u) : G u := by
 cases hu with | str y t hl => exact h1 y t hl h | _ => exact h2 h
theorem ni {k : List UInt8 → Prop} (h : JF x k d) (hu : RV P fz x u) (h1 : ∀ l t, l.length ≤ cap → k l → G (.bytes l.toArray t)) (h2 : d → G u) : G u := by
 cases hu with | bytes y t hl => exact h1 y t hl h | _ => exact h2 h
theorem kY {k : List V → Prop} (h : Hl x k d) (hu : RV P fz x u) (h1 : ∀ l a vs n, (a, tO vs n) ∈ fz → l.length ≤ cap → bu P fz l vs → k l → G (.ref a)) (h2 : d → G u) : G u := by
 cases hu with | tup hm hl hv => exact h1 _ _ _ _ hm hl hv h | _ => exact h2 h
theorem dU {k : List V → Prop} (h : qq x k d) (hu : RV P fz x u) (h1 : ∀ l a vs n, (a, dT vs n) ∈ fz → l.length ≤ cap → bu P fz l vs → k l → G (.ref a)) (h2 : d → G u) : G u := by
 cases hu with | list hm hl hv => exact h1 _ _ _ _ hm hl hv h | _ => exact h2 h
theorem qP {k : List (Str × V) → Prop} (h : Hm x k d) (hu : RV P fz x u) (h1 : ∀ l a es n, (a, dictOf es n) ∈ fz → l.length ≤ cap → dB P fz l es → k l → G (.ref a)) (h2 : d → G u) : G u := by
 cases hu with | dict hm hl hv => exact h1 _ _ _ _ hm hl hv h | _ => exact h2 h
theorem iM {k : Addr → Prop} (h : vI x k d) (hu : RV P fz x u) (h1 : ∀ a, k a → G (.ref a)) (h2 : d → G u) : G u := by
 cases hu with | «mut» a => exact h1 _ h | _ => exact h2 h
theorem qQ {k : Prop} (h : LD x k d) (hu : RV P fz x u) (h1 : k → G .none) (h2 : d → G u) : G u := by
 cases hu with | none => exact h1 h | _ => exact h2 h
noncomputable def iN (a b : V) (k : Int → Int → Prop) : Prop := j0 a (fun i => j0 b (k i) False) False
theorem dy {G : Value → Value → Prop} {a b : V} {u v : Value} {k : Int → Int → Prop} (h : iN a b k) (hu : RV P fz a u) (hv : RV P fz b v) (h1 : ∀ i t j t', k i j → G (.int i t) (.int j t')) : G u v :=
 bU (G := fun u => G u v) h hu (fun i t h => bU (G := G (.int i t)) h hv (h1 i t) False.elim) False.elim
noncomputable def fZ {α : Type} (l : List α) (k : α → Prop) : Prop := match l with | [x] => k x | _ => False
theorem ol {l : List V} {vs : List Value} {k : V → Prop} {G : List V → List Value → Prop} (h : fZ l k) (hu : bu P fz l vs) (h1 : ∀ x v, RV P fz x v → k x → G [x] [v]) : G l vs := by
 cases hu with
 | nil => exact h.elim
 | cons hx hr => cases hr with
  | nil => exact h1 _ _ hx h
  | cons _ _ => exact False.elim h
end
noncomputable def tS (op : Operator) (a b : V) (σ : St) (Q : V → St → Prop) : Prop := match op with
 | .Add => j0 a (fun i => j0 b (fun j => Q (.int (i + j)) σ) False) (qp a (fun x => qp b (fun y => x.length + y.length ≤ cap ∧ Q (.str (x ++ y)) σ) False) (qq a (fun l => qq b (fun l' => l.length + l'.length ≤ cap ∧ Q (.list (l ++ l')) σ) False) False))
 | .Sub => iN a b fun i j => Q (.int (i - j)) σ
 | .Mult => j0 a (fun i => j0 b (fun j => qL i j ∧ Q (.int (i * j)) σ) False) (qq a (fun l => j0 b (fun j => fZ l fun x => (0 ≤ j ∧ j ≤ 1000) ∧ Q (.list (List.replicate j.toNat x)) σ) False) False)
 | .FloorDiv => iN a b fun i j => qM j ∧ Q (.int (i.fdiv j)) σ
 | .Mod => iN a b fun i j => j ≠ 0 ∧ Q (.int (i.fmod j)) σ
 | .Pow => iN a b fun i j => qN i j ∧ Q (.int (i ^ j.toNat)) σ
 | _ => False
section
variable {prog : Program} {C : Cx} {σ : St} {Q : V → St → Prop} {R : St → Prop}
theorem ai.new {fz : Fz} {s : Shared} (r : bt C fz σ s) {x : V} {o : Obj} (tk : Nat) (hf : o.isFreed = false) (hv : RV C.P ((s.heap.objs.size, o) :: fz) x (.ref s.heap.objs.size)) (h : Q x σ) :
  ai C fz σ s Q (.ref s.heap.objs.size) { s with heap := s.heap.push o, toks := tk } :=
 ⟨_, x, σ, Go.add r [(s.heap.objs.size, o)] (fun b o' e => Heap.get?_push_of_some _ e) (fun p hp => by
  rw [List.mem_singleton.mp hp]
  refine ⟨?_, Heap.get?_push_size _ hf⟩
  cases q : s.heap.get? s.heap.objs.size with
  | none => rfl
  | some o' => exact absurd (Heap.lt_size q) (Nat.lt_irrefl _)), hv, h⟩
theorem bu.rep {P : Params} {fz : Fz} {x : V} {v : Value} (h : RV P fz x v) : ∀ n, bu P fz (List.replicate n x) (List.replicate n v)
 | 0 => .nil
 | n + 1 => .cons h (bu.rep h n)
theorem dz {fz : Fz} {s : Shared} (r : bt C fz σ s) {a : Addr} {vs : List Value} {n : Nat} (h : (a, dT vs n) ∈ fz) : s.heap.get? a = some (dT vs n) := (r.fro _ h).1
theorem eI {fz : Fz} {s : Shared} (r : bt C fz σ s) {a : Addr} {vs : List Value} {n : Nat} (h : (a, dT vs n) ∈ fz) : s.heap.IsList a vs.toArray := ⟨_, (r.fro _ h).1, rfl, _, rfl⟩
theorem gM {fz : Fz} {s : Shared} (r : bt C fz σ s) {a : Addr} {vs : List Value} {n : Nat} (h : (a, tO vs n) ∈ fz) : IsTup s.heap a vs.toArray := ⟨_, (r.fro _ h).1, rfl, _, rfl⟩
theorem qR {fz : Fz} {s : Shared} (r : bt C fz σ s) {l l' : List V} {a1 a2 : Addr} {vs vs2 : List Value} {n1 n2 : Nat} (hm : (a1, dT vs n1) ∈ fz) (hm2 : (a2, dT vs2 n2) ∈ fz) (hr : bu C.P fz l vs) (hr2 : bu C.P fz l' vs2)
  (h : l.length + l'.length ≤ cap ∧ Q (.list (l ++ l')) σ) : wpAny (Md prog C) C.A (binaryOp .Add (.ref a1) (.ref a2)) (ai C fz σ s Q) (Ex C fz σ s R) s := by
 have e : vs.toArray ++ vs2.toArray = (vs ++ vs2).toArray := List.append_toArray ..
 refine concat_meets ⟨_, dz r hm, rfl⟩ ⟨_, dz r hm2, rfl⟩ noFill_list_add seq_list_add PySem.F.slot_list_add PySem.F.entry_list_add (PySem.F.args_list_add_2 _ _) (list_addW a1 a2 vs.toArray vs2.toArray n1 n2 none none #[] #[] ?_) ⟨dz r hm, dz r hm2, ?_⟩
 ·rw [List.size_toArray, List.size_toArray, hr.length, hr2.length]; exact bX h.1
 ·rw [e]
  exact ai.new r s.toks rfl (.list (n := 0) (.head _) (by rw [List.length_append]; exact h.1) ((hr.append hr2).mono fun p hp => .tail _ hp)) h.2
theorem qS {fz : Fz} {s : Shared} (r : bt C fz σ s) {x : V} {v1 : Value} {j : Int} {t : Tok} {a1 : Addr} {n1 : Nat} (hm : (a1, dT [v1] n1) ∈ fz) (hx : RV C.P fz x v1) (h : (0 ≤ j ∧ j ≤ 1000) ∧ Q (.list (List.replicate j.toNat x)) σ) :
  wpAny (Md prog C) C.A (binaryOp .Mult (.ref a1) (.int j t)) (ai C fz σ s Q) (Ex C fz σ s R) s := by
 refine wpAny_binaryOp_repeat_ref (T := "list") (U := "int") (by decide) ⟨_, dz r hm, rfl⟩ (fun s' => typeIs_int s' j t) noFill_list_mul F.fills_int_mul F.slot_int_rmul repeat_list F.slot_int_index.lookup
  (call_meets F.slot_int_rmul (typeIs_int s j t) F.entry_int_rmul (F.args_int_rmul_2 _ _) (int___rmul___int_list j t a1 [v1].toArray n1)
   ⟨dz r hm, rfl, ⟨_, dz r hm, rfl⟩, call_meets F.slot_list_mul ⟨_, dz r hm, rfl⟩ F.entry_list_mul (F.args_list_mul_2 _ _)
    (AutoListH.list___mul___list_int_3 a1 [v1].toArray n1 j t (by simp [Builtin.List.listFitsIndex]; lia) (by simp; lia) (by simp [Builtin.List.listTooLong, sizeLine]; lia))
    ⟨dz r hm, ?_⟩⟩)
 have e : (List.foldl (fun x1 x2 => x1 ++ x2) #[] (List.replicate (if [v1].toArray.isEmpty = true then 0 else j.toNat) [v1].toArray)) = (List.replicate j.toNat v1).toArray := by
  rw [listMul_foldl]; simp [lm_rep_flat_one]
 rw [e]
 exact ai.new r s.toks rfl (.list (n := 0) (.head _) (by rw [List.length_replicate]; unfold cap; lia) ((bu.rep hx _).mono fun p hp => .tail _ hp)) h.2
theorem tT {a b : V} {fz : Fz} {s : Shared} {u v : Value} (r : bt C fz σ s) (hu : RV C.P fz a u) (hv : RV C.P fz b v) (h : tS .Add a b σ Q) : wpAny (Md prog C) C.A (binaryOp .Add u v) (ai C fz σ s Q) (Ex C fz σ s R) s :=
 bU (G := fun u => wpAny (Md prog C) C.A (binaryOp .Add u v) (ai C fz σ s Q) (Ex C fz σ s R) s) h hu (fun i t h => bU (G := fun v => wpAny (Md prog C) C.A (binaryOp .Add (.int i t) v) (ai C fz σ s Q) (Ex C fz σ s R) s) h hv (fun j t' h => P.add_int (ai.tok r _ (.int _ _) h)) False.elim)
  fun h => dH (G := fun u => wpAny (Md prog C) C.A (binaryOp .Add u v) (ai C fz σ s Q) (Ex C fz σ s R) s) h hu (fun y t _ h => dH (G := fun v => wpAny (Md prog C) C.A (binaryOp .Add (.str y t) v) (ai C fz σ s Q) (Ex C fz σ s R) s) h hv (fun z t' _ h => SB.add (fun t' k => ai.tok r _ (.str _ _ (by rw [Str.length_append]; exact h.1)) h.2) (bX h.1)) False.elim)
  fun h => dU (G := fun u => wpAny (Md prog C) C.A (binaryOp .Add u v) (ai C fz σ s Q) (Ex C fz σ s R) s) h hu (fun l a1 vs n1 hm hl hr h => dU (G := fun v => wpAny (Md prog C) C.A (binaryOp .Add (.ref a1) v) (ai C fz σ s Q) (Ex C fz σ s R) s) h hv (fun l' a2 vs2 n2 hm2 _ hr2 h => qR r hm hm2 hr hr2 h) False.elim) False.elim
theorem tU {a b : V} {fz : Fz} {s : Shared} {u v : Value} (r : bt C fz σ s) (hu : RV C.P fz a u) (hv : RV C.P fz b v) (h : tS .Mult a b σ Q) : wpAny (Md prog C) C.A (binaryOp .Mult u v) (ai C fz σ s Q) (Ex C fz σ s R) s :=
 bU (G := fun u => wpAny (Md prog C) C.A (binaryOp .Mult u v) (ai C fz σ s Q) (Ex C fz σ s R) s) h hu (fun i t h => bU (G := fun v => wpAny (Md prog C) C.A (binaryOp .Mult (.int i t) v) (ai C fz σ s Q) (Ex C fz σ s R) s) h hv (fun j t' h => P.mul_int (ai.tok r _ (.int _ _) h.2) h.1.ok) False.elim)
  fun h => dU (G := fun u => wpAny (Md prog C) C.A (binaryOp .Mult u v) (ai C fz σ s Q) (Ex C fz σ s R) s) h hu (fun l a1 vs n1 hm hl hr h => bU (G := fun v => wpAny (Md prog C) C.A (binaryOp .Mult (.ref a1) v) (ai C fz σ s Q) (Ex C fz σ s R) s) h hv (fun j t h =>
    ol (G := fun l vs => (a1, dT vs n1) ∈ fz → wpAny (Md prog C) C.A (binaryOp .Mult (.ref a1) (.int j t)) (ai C fz σ s Q) (Ex C fz σ s R) s) h hr (fun x v hx h hm => qS r hm hx h) hm) False.elim) False.elim
theorem pB {op : Operator} {a b : V} (h : tS op a b σ Q) : W2 prog C σ a b (binaryOp op) Q R := fun fz s u v r hu hv => by
 cases op with
 | Add => exact tT r hu hv h
 | Mult => exact tU r hu hv h
 | Sub => exact dy (G := fun u v => wpAny (Md prog C) C.A (binaryOp .Sub u v) (ai C fz σ s Q) (Ex C fz σ s R) s) h hu hv fun _ _ _ _ h => P.sub_int (ai.tok r _ (.int _ _) h)
 | FloorDiv => exact dy (G := fun u v => wpAny (Md prog C) C.A (binaryOp .FloorDiv u v) (ai C fz σ s Q) (Ex C fz σ s R) s) h hu hv fun _ _ _ _ h => PyProof.Rows.floordiv_int h.1.h1 (ai.tok r _ (.int _ _) h.2) (.inl (PyProof.noPylong_of_log2 h.1.h2))
 | Mod => exact dy (G := fun u v => wpAny (Md prog C) C.A (binaryOp .Mod u v) (ai C fz σ s Q) (Ex C fz σ s R) s) h hu hv fun _ _ _ _ h => PyProof.Rows.mod_int' h.1 (ai.tok r _ (.int _ _) h.2)
 | Pow => exact dy (G := fun u v => wpAny (Md prog C) C.A (binaryOp .Pow u v) (ai C fz σ s Q) (Ex C fz σ s R) s) h hu hv fun _ _ _ _ h => PyProof.Rows.pow_int_small h.1.h1 h.1.h2 h.1.h3 (ai.tok r _ (.int _ _) h.2)
 | _ => exact h.elim
end
section
variable {prog : Program} {w : World} {P : Params} {fz : Fz}
theorem hF {K : Type} (is : K → Value → Bool) (e : DictEntry) (es : List DictEntry) (k : K) : findBy is (e :: es).toArray k = bif is k e.key then some e.val else findBy is es.toArray k := by
 unfold findBy
 rw [List.find?_toArray, List.find?_toArray, List.find?_cons]
 cases is k e.key <;> rfl
theorem f7 {K α : Type} [BEq K] [LawfulBEq K] (k k' : K) (x : α) (l : List (K × α)) : ((k', x) :: l).lookup k = bif k' == k then some x else l.lookup k := by
 rw [List.lookup_cons, BEq.comm]
 cases (k' == k) <;> rfl
theorem om {α : Type} {c : Bool} {x : α} {v : Value} {o : Option α} {q : Option Value} {G : α → Value → Prop} (h : G x v) (ih : (∃ x v, o = some x ∧ q = some v ∧ G x v) ∨ (o = none ∧ q = none)) :
  (∃ y u, (bif c then some x else o) = some y ∧ (bif c then some v else q) = some u ∧ G y u) ∨ ((bif c then some x else o) = none ∧ (bif c then some v else q) = none) := by
 cases c with
 | true => exact .inl ⟨x, v, rfl, rfl, h⟩
 | false => exact ih
theorem dB.find {l : List (Str × V)} {es : List DictEntry} (k : Str) (h : dB P fz l es) : (∃ x v, l.lookup k = some x ∧ findBy Value.isStrOf es.toArray k = some v ∧ RV P fz x v) ∨ (l.lookup k = none ∧ findBy Value.isStrOf es.toArray k = none) :=
 dB.ind (G := fun l es => (∃ x v, l.lookup k = some x ∧ findBy Value.isStrOf es.toArray k = some v ∧ RV P fz x v) ∨ (l.lookup k = none ∧ findBy Value.isStrOf es.toArray k = none)) (.inr ⟨rfl, rfl⟩) (fun h _ ih => by
  rw [hF, f7]; exact om h ih) h
theorem dB.keys {l : List (Str × V)} {es : List DictEntry} (h : dB P fz l es) : ∀ e ∈ es, ∃ k t, e.key = .str k t ∧ e.hash = PyData.keyHash P k :=
 dB.ind (G := fun _ es => ∀ e ∈ es, ∃ k t, e.key = .str k t ∧ e.hash = PyData.keyHash P k) (fun _ h => nomatch h) (fun _ _ g e he => (List.mem_cons.mp he).elim (fun q => by rw [q]; exact ⟨_, _, rfl, rfl⟩) (g e)) h
theorem dB.map {h : Heap} {l : List (Str × V)} {es : List DictEntry} {a : Addr} {n : Nat} (r : dB w.params fz l es) (hm : h.get? a = some (dictOf es n)) : h.MapOf (strKind prog w) a (fun k => findBy Value.isStrOf es.toArray k) :=
 ⟨_, es.toArray, n, hm, ⟨rfl, rfl, rfl⟩, rfl, fun e he => by
  obtain ⟨k, t, e1, e2⟩ := r.keys e (by simpa using he)
  exact ⟨k, by rw [e1]; exact strKind_is prog w k t, e2⟩, fun _ => rfl⟩
end
noncomputable def qT {α : Type} : Option α → Option (List α) → Option (List α)
 | some d, some ds => some (d :: ds)
 | _, _ => none
theorem pC {α : Type} {a : Option α} {b : Option (List α)} {l : List α} (h : qT a b = some l) : ∃ d ds, a = some d ∧ b = some ds ∧ l = d :: ds := by
 cases a with
 | none => exact nomatch h
 | some d => cases b with
  | none => exact nomatch h
  | some ds => exact ⟨d, ds, rfl, rfl, (Option.some.inj h).symm⟩
noncomputable def iq : V → Option PyData
 | .none => some .none
 | .int i => some (.int i)
 | .bool b => some (.bool b)
 | .str x => some (.str x)
 | .tup l => (toPs l).map .tuple
 | .list l => (toPs l).map .list
 | _ => none
where toPs : List V → Option (List PyData)
 | [] => some []
 | x :: r => qT (iq x) (toPs r)
theorem on {l : List V} {ds : List PyData} (h : iq.toPs l = some ds) : iq (.tup l) = some (.tuple ds) := congrArg (Option.map PyData.tuple) h
theorem kZ {l : List V} {ds : List PyData} (h : iq.toPs l = some ds) : iq (.list l) = some (.list ds) := congrArg (Option.map PyData.list) h
theorem j1 {x : V} {d : PyData} {l : List V} {ds : List PyData} (h1 : iq x = some d) (h : iq.toPs l = some ds) : iq.toPs (x :: l) = some (d :: ds) := by
 show qT (iq x) (iq.toPs l) = _
 rw [h1, h]; rfl
theorem aO {α : Type} {d : α} {G : Prop} (h : none = some d) : G := nomatch h
theorem bR {α β : Type} {f : α → β} {o : Option α} {d : β} (h : o.map f = some d) : ∃ c, o = some c ∧ d = f c := by
 cases o with
 | none => exact nomatch h
 | some c => exact ⟨c, rfl, (Option.some.inj h).symm⟩
section
variable {C : Cx} {σ : St}
theorem ew {fz : Fz} {s : Shared} (r : bt C fz σ s) {x : V} {v : Value} (h : RV C.P fz x v) : ∀ d, iq x = some d → ∃ as, Reads s.heap v d as :=
 RV.rec (motive_1 := fun x v _ => ∀ d, iq x = some d → ∃ as, Reads s.heap v d as) (motive_2 := fun l vs _ => ∀ d, iq.toPs l = some d → ∃ as, ReadsAll s.heap vs d as) (motive_3 := fun _ _ _ => True) (motive_4 := fun _ _ _ => True)
  (fun d e => by cases e; exact ⟨_, .none⟩) (fun b d e => by cases e; exact ⟨_, .bool b⟩) (fun i t d e => by cases e; exact ⟨_, .int i t⟩) (fun y t _ d e => by cases e; exact ⟨_, .str y t⟩) (fun _ _ _ _ => aO)
  (fun hm _ _ ih d e => by
   obtain ⟨c, e1, rfl⟩ := bR e
   obtain ⟨as, q⟩ := ih c e1
   exact ⟨as, .tuple (r.fro _ hm).1 rfl rfl q⟩)
  (fun hm _ _ ih d e => by
   obtain ⟨c, e1, rfl⟩ := bR e
   obtain ⟨as, q⟩ := ih c e1
   exact ⟨_, .list (r.fro _ hm).1 rfl rfl q⟩)
  (fun _ _ _ _ _ => aO) (fun _ _ _ _ _ => aO) (fun _ _ => aO) (fun _ _ => aO) (fun _ _ => aO) (fun _ _ => aO) (fun _ _ => aO) (fun _ _ => aO) (fun _ _ _ _ _ _ _ => aO)
  (fun d e => by cases e; exact ⟨_, .nil⟩)
  (fun _ _ h1 h2 d e => by
   obtain ⟨c, cs, e1, e2, rfl⟩ := pC e
   obtain ⟨as, a⟩ := h1 c e1
   obtain ⟨bs, b⟩ := h2 cs e2
   exact ⟨_, .cons a b⟩)
  ⟨⟩ (fun _ _ _ _ => ⟨⟩) ⟨⟩ (fun _ _ _ _ _ _ => ⟨⟩) h
end
noncomputable def N3 : V → Option Str
 | .str x => some x
 | _ => none
noncomputable def eh : List V → Option (List Str)
 | [] => some []
 | x :: r => (N3 x).bind fun y => (eh r).map (y :: ·)
theorem oo {x : V} {y : Str} (h : N3 x = some y) : x = .str y := by
 cases x with
 | str z => rw [Option.some.inj h]
 | _ => exact aO h
theorem k6 {P : Params} {fz : Fz} {l : List V} {vs : List Value} (h : bu P fz l vs) : ∀ {ys : List Str}, eh l = some ys → StrsAre vs ys :=
 bu.ind (G := fun l vs => ∀ {ys : List Str}, eh l = some ys → StrsAre vs ys) (fun e => by cases e; exact .nil) (fun h _ g _ e => by
  obtain ⟨y, e1, e2⟩ := Option.bind_eq_some_iff.mp e
  obtain ⟨zs, e3, rfl⟩ := bR e2
  rw [oo e1] at h
  cases h
  exact .cons _ _ (g e3)) h
noncomputable def gw : V → Bool
 | .none => true
 | _ => false
noncomputable def LG (a b : V) (σ : St) (Q : Bool → Prop) : Prop := ∃ d e, iq a = some d ∧ iq b = some e ∧ SeqAt.shaped d = true ∧ SeqAt.shaped e = true ∧ Q (PyData.eqv d e)
noncomputable def j2 (x c : V) (Q : Bool → Prop) : Prop := Hl c (fun l => ∃ d ds, iq x = some d ∧ iq.toPs l = some ds ∧ SeqAt.shaped (.tuple ds) = true ∧ SeqAt.shaped d = true ∧ (∀ y ∈ ds, SeqAt.noMix y d = true) ∧ Q (decide (PySem.Spec.countIn d ds ≠ 0))) False
noncomputable def Fg (x : V) (c : V) (σ : St) (Q : Bool → Prop) : Prop := qp x
 (fun k => Hl c (fun l => ∃ ys, eh l = some ys ∧ Q (ys.any (· == k))) (qq c (fun l => ∃ ys, eh l = some ys ∧ Q (ys.any (· == k))) (Hm c (fun l => Q (l.lookup k).isSome)
  (vI c (fun a => ∃ l ys, σ.mem.lookup a = some (.list l) ∧ eh l = some ys ∧ Q (ys.any (· == k))) False))))
 (j0 x (fun k => vI c (fun a => ∃ l, σ.mem.lookup a = some (.idict l) ∧ Q (l.lookup k).isSome) (j2 x c Q)) (j2 x c Q))
noncomputable def LH (a b : V) (ki : Int → Int → Prop) (ks : Str → Str → Prop) (ke : Prop) : Prop := j0 a (fun i => j0 b (ki i) ke) (qp a (fun x => qp b (ks x) ke) ke)
theorem qU {P : Params} {fz : Fz} {a b : V} {u v : Value} {ki : Int → Int → Prop} {ks : Str → Str → Prop} {ke : Prop} {G : Value → Value → Prop} (h : LH a b ki ks ke) (hu : RV P fz a u) (hv : RV P fz b v)
  (h1 : ∀ i t j t', ki i j → G (.int i t) (.int j t')) (h2 : ∀ x t y t', ks x y → G (.str x t) (.str y t')) (h3 : ke → G u v) : G u v :=
 bU (G := fun u => (ke → G u v) → G u v) h hu (fun i t h => bU (G := fun v => (ke → G (.int i t) v) → G (.int i t) v) h hv (fun j t' h _ => h1 i t j t' h) fun h k => k h)
  (fun h => dH (G := fun u => (ke → G u v) → G u v) h hu (fun x t _ h => dH (G := fun v => (ke → G (.str x t) v) → G (.str x t) v) h hv (fun y t' _ h _ => h2 x t y t' h) fun h k => k h) fun h k => k h) h3
noncomputable def lT (op : CmpOp) (a b : V) (σ : St) (Q : V → St → Prop) : Prop := match op with
 | .Eq => LH a b (fun i j => Q (.bool (i == j)) σ) (fun x y => Q (.bool (x.cps.toList == y.cps.toList)) σ) (LG a b σ fun r => Q (.bool r) σ)
 | .NotEq => LH a b (fun i j => Q (.bool (i != j)) σ) (fun x y => Q (.bool (x.cps.toList != y.cps.toList)) σ) (LG a b σ fun r => Q (.bool (!r)) σ)
 | .Lt => iN a b fun i j => Q (.bool (decide (i < j))) σ
 | .LtE => iN a b fun i j => Q (.bool (decide (i ≤ j))) σ
 | .Gt => iN a b fun i j => Q (.bool (decide (i > j))) σ
 | .GtE => iN a b fun i j => Q (.bool (decide (i ≥ j))) σ
 | .Is => LD b (Q (.bool (gw a)) σ) False
 | .IsNot => LD b (Q (.bool (!gw a)) σ) False
 | .In => Fg a b σ fun r => Q (.bool r) σ
 | .NotIn => Fg a b σ fun r => Q (.bool (!r)) σ
theorem io.find {P : Params} {fz : Fz} {l : List (Int × V)} {es : List DictEntry} (k : Int) (h : io P fz l es) : (∃ x v, l.lookup k = some x ∧ findBy Value.isInt es.toArray k = some v ∧ RV P fz x v) ∨ (l.lookup k = none ∧ findBy Value.isInt es.toArray k = none) := by
 induction h with
 | nil => exact .inr ⟨rfl, rfl⟩
 | cons h _ ih => rw [hF, f7]; exact om h ih
theorem io.keys {P : Params} {fz : Fz} {l : List (Int × V)} {es : List DictEntry} (h : io P fz l es) : ∀ e ∈ es, ∃ k t, e.key = .int k t ∧ e.hash = hashInt k := by
 induction h with
 | nil => exact fun _ h => nomatch h
 | cons _ _ g => exact fun e he => (List.mem_cons.mp he).elim (fun q => by rw [q]; exact ⟨_, _, rfl, rfl⟩) (g e)
theorem io.map {prog : Program} {w : World} {P : Params} {fz : Fz} {h : Heap} {l : List (Int × V)} {es : List DictEntry} {a : Addr} {n : Nat} (r : io P fz l es) (hm : h.get? a = some (dictOf es n)) : h.MapOf (intKind prog w) a (fun k => findBy Value.isInt es.toArray k) :=
 ⟨_, es.toArray, n, hm, ⟨rfl, rfl, rfl⟩, rfl, fun e he => by
  obtain ⟨k, t, e1, e2⟩ := io.keys r e (by simpa using he)
  exact ⟨k, by rw [e1]; exact intKind_is prog w k t, e2⟩, fun _ => rfl⟩
section
variable {prog : Program} {C : Cx} {σ : St} {Q : V → St → Prop} {R : St → Prop}
theorem eY {a : Addr} (h : a ≠ 1) : (a == sysModules) = false := beq_eq_false_iff_ne.mpr h
theorem iO {fz : Fz} {a : V} {u : Value} (h : RV C.P fz a u) : (u == Value.none) = gw a := by cases h <;> rfl
theorem vJ (O : Ok C) {fz : Fz} {s : Shared} (r : bt C fz σ s) {x c : V} {u v : Value} {Q : Bool → Prop} {G : Value → Value → Prop} (h : Fg x c σ Q) (hu : RV C.P fz x u) (hv : RV C.P fz c v)
  (t1 : ∀ {k t a vs ys}, IsTup s.heap a vs → StrsAre vs.toList ys → Q (ys.any (· == k)) → G (.str k t) (.ref a))
  (t2 : ∀ {k t a vs ys}, s.heap.IsList a vs.toArray → StrsAre vs ys → Q (ys.any (· == k)) → G (.str k t) (.ref a))
  (t3 : ∀ {k t a f}, (a == sysModules) = false → s.heap.MapOf (strKind prog C.w) a f → Q (f k).isSome → G (.str k t) (.ref a))
  (t4 : ∀ {k t a f}, (a == sysModules) = false → s.heap.MapOf (intKind prog C.w) a f → Q (f k).isSome → G (.int k t) (.ref a))
  (t5 : ∀ {d ds as bs}, Reads s.heap v (.tuple ds) as → Reads s.heap u d bs → SeqAt.shaped (.tuple ds) = true → SeqAt.shaped d = true → (∀ y ∈ ds, SeqAt.noMix y d = true) → Q (decide (PySem.Spec.countIn d ds ≠ 0)) → G u v) : G u v := by
 have tt : j2 x c Q → G u v := fun h => kY (G := fun v' => v' = v → G u v) h hv (fun l a vs n hm hl hr ⟨d, ds, h1, h2, h3, h4, h5, h6⟩ e => by
  obtain ⟨as, ra⟩ := ew r hu _ h1
  obtain ⟨bs, rb⟩ := ew r (.tup hm hl hr) (.tuple ds) (congrArg (Option.map PyData.tuple) h2)
  exact t5 (e ▸ rb) ra h3 h4 h5 h6) (fun h => h.elim) rfl
 refine dH (G := fun u => (j2 x c Q → G u v) → G u v) h hu (fun k t _ h _ => ?_) (fun h => bU (G := fun u => (j2 x c Q → G u v) → G u v) h hu (fun k t h => ?_) fun h k => k h) tt
 ·refine kY (G := G (.str k t)) h hv (fun l a vs n hm hl hr ⟨ys, h1, h2⟩ => t1 (gM r hm) (k6 hr h1) h2) fun h => ?_
  refine dU (G := G (.str k t)) h hv (fun l a vs n hm hl hr ⟨ys, h1, h2⟩ => t2 (eI r hm) (k6 hr h1) h2) fun h => ?_
  refine qP (G := G (.str k t)) h hv (fun l a es n hm hl hr h => t3 (eY (r.fro _ hm).2.2.2.2) (hr.map (r.fro _ hm).1) ?_) fun h => ?_
  ·rcases hr.find k with ⟨x, v, e1, e2, _⟩ | ⟨e1, e2⟩ <;> (rw [e2]; rw [e1] at h; exact h)
  refine iM (G := G (.str k t)) h hv (fun a ⟨l, ys, h0, h1, h2⟩ => ?_) False.elim
  obtain ⟨o, m1, m2, _⟩ := r.mem _ _ h0
  cases m2 with | list hl hr => exact t2 ⟨_, m1, rfl, _, rfl⟩ (k6 hr h1) h2
 ·refine iM (G := fun v => (j2 x c Q → G (.int k t) v) → G (.int k t) v) h hv (fun a ⟨l, h0, h2⟩ _ => ?_) fun h k => k h
  obtain ⟨o, m1, m2, _, _, _, m6⟩ := r.mem _ _ h0
  cases m2 with | idict hl hr =>
  refine t4 (eY m6) (hr.map m1) ?_
  rcases io.find k hr with ⟨x, v, e1, e2, _⟩ | ⟨e1, e2⟩ <;> (rw [e2]; rw [e1] at h2; exact h2)
theorem fE (O : Ok C) {op : CmpOp} {a b : V} (h : lT op a b σ Q) : W2 prog C σ a b (compareOp op) Q R := fun fz s u v r hu hv => by
 have hu65 : C.A.units + 65 < cLine := by have := O.hu; rw [cLine_is]; lia
 have hu64 := Nat.lt_of_succ_lt hu65
 cases op with
 | Lt => exact dy (G := fun u v => wpAny (Md prog C) C.A (compareOp .Lt u v) (ai C fz σ s Q) (Ex C fz σ s R) s) h hu hv fun _ _ _ _ h => P.lt_int (ai.val r (.bool _) h)
 | LtE => exact dy (G := fun u v => wpAny (Md prog C) C.A (compareOp .LtE u v) (ai C fz σ s Q) (Ex C fz σ s R) s) h hu hv fun _ _ _ _ h => P.le_int (ai.val r (.bool _) h)
 | Gt => exact dy (G := fun u v => wpAny (Md prog C) C.A (compareOp .Gt u v) (ai C fz σ s Q) (Ex C fz σ s R) s) h hu hv fun _ _ _ _ h => P.gt_int (ai.val r (.bool _) h)
 | GtE => exact dy (G := fun u v => wpAny (Md prog C) C.A (compareOp .GtE u v) (ai C fz σ s Q) (Ex C fz σ s R) s) h hu hv fun _ _ _ _ h => P.ge_int (ai.val r (.bool _) h)
 | Eq => exact qU (G := fun u v => wpAny (Md prog C) C.A (compareOp .Eq u v) (ai C fz σ s Q) (Ex C fz σ s R) s) h hu hv (fun _ _ _ _ h => P.eq_int (ai.val r (.bool _) h)) (fun _ _ _ _ h => P.eq_str (ai.val r (.bool _) h)) fun ⟨d, e, h1, h2, h3, h4, h5⟩ => let ⟨_, ra⟩ := ew r hu d h1; let ⟨_, rb⟩ := ew r hv e h2; eq_dataH ra rb h3 h4 hu64 (ai.val r (.bool _) h5)
 | NotEq => exact qU (G := fun u v => wpAny (Md prog C) C.A (compareOp .NotEq u v) (ai C fz σ s Q) (Ex C fz σ s R) s) h hu hv (fun _ _ _ _ h => P.ne_int (ai.val r (.bool _) h)) (fun _ _ _ _ h => P.ne_str (ai.val r (.bool _) h)) fun ⟨d, e, h1, h2, h3, h4, h5⟩ => let ⟨_, ra⟩ := ew r hu d h1; let ⟨_, rb⟩ := ew r hv e h2; ne_dataH ra rb h3 h4 hu64 (ai.val r (.bool _) h5)
 | Is => exact qQ (G := fun v => wpAny (Md prog C) C.A (compareOp .Is u v) (ai C fz σ s Q) (Ex C fz σ s R) s) h hv (fun h => is_none (by rw [iO hu]; exact ai.val r (.bool _) h)) False.elim
 | IsNot => exact qQ (G := fun v => wpAny (Md prog C) C.A (compareOp .IsNot u v) (ai C fz σ s Q) (Ex C fz σ s R) s) h hv (fun h => isNot_none (by rw [iO hu]; exact ai.val r (.bool _) h)) False.elim
 | In => exact vJ (prog := prog) (Q := fun r => Q (.bool r) σ) (G := fun u v => wpAny (Md prog C) C.A (compareOp .In u v) (ai C fz σ s Q) (Ex C fz σ s R) s) O r h hu hv (fun a b h => in_tuple_strs a b (ai.val r (.bool _) h)) (fun a b h => in_list_strs a b (ai.val r (.bool _) h)) (fun a b h => wpAny_in_of (strKind_is _ _ _ _) a b (ai.tok r _ (.bool _) h)) (fun a b h => wpAny_in_of (intKind_is _ _ _ _) a b (ai.tok r _ (.bool _) h)) (fun a b h3 h4 h5 h => in_tuple_dataH a b h3 h4 hu65 h5 (ai.val r (.bool _) h))
 | NotIn => exact vJ (prog := prog) (Q := fun r => Q (.bool (!r)) σ) (G := fun u v => wpAny (Md prog C) C.A (compareOp .NotIn u v) (ai C fz σ s Q) (Ex C fz σ s R) s) O r h hu hv (fun a b h => notin_tuple_strs a b (ai.val r (.bool _) h)) (fun a b h => notin_list_strs a b (ai.val r (.bool _) h)) (fun a b h => wpAny_notIn_of (strKind_is _ _ _ _) a b (ai.tok r _ (.bool _) h)) (fun a b h => wpAny_notIn_of (intKind_is _ _ _ _) a b (ai.tok r _ (.bool _) h)) (fun a b h3 h4 h5 h => notIn_tuple_dataH a b h3 h4 hu65 h5 (ai.val r (.bool _) h))
end
theorem Go.shake {C : Cx} {fz fz' : Fz} {σ σ' : St} {s s' s'' : Shared} (r : bt C fz σ s) (g : Go C fz σ s fz' σ' s') (xs : List Addr) (hx : ∀ x ∈ xs, Aw fz' σ' x ∧ s.heap.get? x = none)
  (hk : ∀ b o, s'.heap.get? b = some o → b ∉ xs → b ∉ C.frs → s''.heap.get? b = some o)
  (hf : ∀ b o, s'.heap.get? b = some o → b ∈ C.frs → ∃ sl, s''.heap.get? b = some { o with slots := sl })
  (hg : s''.gens = s'.gens := by rfl) (ho : s''.os = s'.os := by rfl) (hd : s''.drawn = s'.drawn := by rfl) : Go C fz σ s fz' σ' s'' := by
 have nx : ∀ {b}, (s.heap.get? b).isSome = true → b ∉ xs := fun h q => aS (hx _ q).2 h
 have q := g.rep
 have hl : ∀ b, (s.heap.get? b).isSome = true → (s''.heap.get? b).isSome = true := fun b h => by
  obtain ⟨o, e⟩ := Option.isSome_iff_exists.mp (g.live b h)
  by_cases z : b ∈ C.frs
  ·obtain ⟨sl, e'⟩ := hf b o e z; exact az e'
  ·exact az (hk b o e (nx h) z)
 refine ⟨⟨fun b o e => ?_, fun p hp => ?_, fun a x e => ?_, ?_, fun x v e n => ?_, fun a ha => ⟨(q.own a ha).1, hl a (r.own a ha).2⟩, q.lo, fun b hb => ⟨(q.fr b hb).1, ?_⟩, fun x c e => ?_, hl 1 r.one, q.sp, hg.trans q.gens, ho.trans q.os, hd.trans q.drawn⟩, g.sub, fun b o e hm hn hfr => ?_, fun b o e hn hfr => ?_, g.new, g.fnew, hl⟩
 ·refine hk b o (q.base b o e) (nx (az (r.base b o e))) fun h => ?_
  have := (q.fr b h).1; rw [e] at this; cases this
 ·obtain ⟨e1, e2, e3, e4, e5⟩ := q.fro p hp
  exact ⟨hk _ _ e1 (fun h => (hx _ h).1.1 p hp rfl) e4, e2, e3, e4, e5⟩
 ·obtain ⟨o, e1, e2, e3, e4, e5, e6⟩ := q.mem a x e
  exact ⟨o, hk _ _ e1 (fun h => by have := (hx _ h).1.2; rw [e] at this; cases this) e5, e2, e3, e4, e5, e6⟩
 ·obtain ⟨m, ⟨o, es, ep, e, hd, rest⟩, k⟩ := q.ns
  refine ⟨m, ?_, k⟩
  by_cases z : C.env.locals ∈ C.frs
  ·obtain ⟨sl, e'⟩ := hf _ o e z
   exact ⟨_, es, ep, e', hd, rest⟩
  ·exact ⟨o, es, ep, hk _ o e (nx (r.own _ r.lo).2) z, hd, rest⟩
 ·obtain ⟨c, u, h1, h2, ⟨o, h3, h4⟩, h5⟩ := q.cell x v e n
  exact ⟨c, u, h1, h2, ⟨o, hk c o h3 (nx (r.nocell x c h2).2.2.2.isat) (r.nocell x c h2).1, h4⟩, h5⟩
 ·obtain ⟨_, o, e, n⟩ := q.fr b hb
  obtain ⟨sl, e'⟩ := hf b o e hb
  exact ⟨_, e', n⟩
 ·obtain ⟨h1, h2, h3, h4⟩ := q.nocell x c e
  exact ⟨h1, h2, h3, h4.keep fun o q => hk c o q (nx (r.nocell x c e).2.2.2.isat) h1⟩
 ·exact hk b o (g.keep b o e hm hn hfr) (nx (az e)) hfr
 ·obtain ⟨sl, e1⟩ := g.slot b o e hn hfr
  obtain ⟨sl2, e2⟩ := hf b _ e1 hfr
  exact ⟨sl2, e2⟩
theorem gy {h base : Heap} : ∀ (l : List Env), (∀ e ∈ l, e.scope.kind ≠ .module ∧ e.frame.isSome = true) → (∀ b ∈ l.filterMap (·.frame), base.get? b = none ∧ ∃ o, h.get? b = some o ∧ ∀ vs, o.data ≠ .fields vs) → h.FunFrames base l
 | [], _, _ => trivial
 | e :: l, hk, hb => by
  refine gk fun _ kk => ?_
  obtain ⟨h1, h2⟩ := hk e (.head _)
  obtain ⟨L, hL⟩ := Option.isSome_iff_exists.mp h2
  obtain ⟨b1, o, b2, b3⟩ := hb L (List.mem_filterMap.mpr ⟨e, .head _, hL⟩)
  refine kk ?_; clear kk
  exact ⟨h1, ⟨L, o, hL, b1, b2, b3⟩, gy l (fun e' he => hk e' (.tail _ he)) fun b h => hb b (by
   rw [List.filterMap_cons, hL]; exact .tail _ h)⟩
section
variable {C : Cx} {fz fz' : Fz} {σ σ' : St} {s s' : Shared} {R : St → Prop} {e : Value} {a T : Addr}
theorem eZ (r : bt C fz σ s) (g : Go C fz σ s fz' σ' s') (xs : List Addr) (hx : ∀ x ∈ xs, Aw fz' σ' x ∧ s.heap.get? x = none) {a : Addr} (ha : a ∈ xs) {a0 fl : Value} {h' : Heap}
  (n1 : (hideAll s'.heap (xs ++ C.frs)).StaysIn h') (n2 : h'.FunFrames (hideAll s'.heap (xs ++ C.frs)) (C.fenv :: C.outer)) (n3 : h'.TracedAtW (hideAll s'.heap (xs ++ C.frs)) a (.ref 59) a0 fl)
  (n4 : ∀ b o, s'.heap.get? b = some o → (∀ vs, o.data ≠ .fields vs) → ∃ sl, h'.get? b = some { o with slots := sl }) {fls : List Value} (hfl : fl ∈ fls) (hR : R σ') :
  nh fls C fz σ s R (.ref a) { s' with heap := h' } := by
 have inb : ∀ b o, s'.heap.get? b = some o → b ∉ xs → b ∉ C.frs → (hideAll s'.heap (xs ++ C.frs)).get? b = some o := fun b o e h1 h2 => hideAll_get _ e fun h => (List.mem_append.mp h).elim h1 h2
 have G : Go C fz σ s fz' σ' { s' with heap := h' } := Go.shake r g xs hx (fun b o e h1 h2 => n1 b o (inb b o e h1 h2)) fun b o e hb => by
  refine gk fun _ kk => ?_
  obtain ⟨_, o', e', n⟩ := g.rep.fr b hb
  rw [e] at e'; cases e'
  refine kk ?_; clear kk
  exact n4 b o e n
 refine gk fun _ kk => ?_
 obtain ⟨oe, vs, T, oT, ts, t1, ⟨t2, t2'⟩, t3, t4, t5, t6, t7, t8, t9⟩ := n3
 refine kk ?_; clear kk
 have nf : T ∉ C.frs := fun h => by
  refine gk fun _ kk => ?_
  obtain ⟨_, o, e, n⟩ := n2.mem h
  refine kk ?_; clear kk
  rw [t7] at e; cases e; exact n ts t8
 have out : ∀ b o, s'.heap.get? b = some o → b ∉ xs → b ∉ C.frs → b ≠ T := fun b o e h1 h2 q => by
  have := inb b o e h1 h2; rw [q, t5] at this; cases this
 refine ⟨a, fz', σ', rfl, G, (hx a ha).2, ⟨oe, vs, a0, t1, t2, t3, t2', (hx a ha).1, .inr ⟨T, oT, ts, t4, ?_, t6, t7, t8, ?_, fun p hp => ?_, ?_⟩⟩, hR⟩
 ·refine c9 fun q => ?_
  obtain ⟨o, e⟩ := Option.isSome_iff_exists.mp (g.live T q)
  exact out T o e (fun h => aS (hx T h).2 q) nf rfl
 ·exact ⟨fl, hfl, t9⟩
 ·obtain ⟨e1, _, _, e4, _⟩ := g.rep.fro p hp
  exact out _ _ e1 (fun h => (hx _ h).1.1 p hp rfl) e4
 ·cases q : σ'.mem.lookup T with
  | none => rfl
  | some y =>
   refine gk fun _ kk => ?_
   obtain ⟨o, e1, _, _, _, e5, _⟩ := g.rep.mem T y q
   refine kk ?_; clear kk
   exact absurd rfl (out _ _ e1 (fun h => by have := (hx _ h).1.2; rw [q] at this; cases this) e5)
theorem gz (O : Ok C) (g : Go C fz σ s fz' σ' s') (xs : List Addr) : s'.heap.FunFrames (hideAll s'.heap (xs ++ C.frs)) (C.fenv :: C.outer) :=
 gy _ O.hfk fun b hb => ⟨hideAll_none _ (List.mem_append.mpr (.inr hb)), (g.rep.fr b hb).2⟩
theorem fF (h : Heap) (l : List Addr) : (hideAll h l).StaysIn h := fun b o e => of_hideAll _ e
inductive LI (C : Cx) (fz' : Fz) (σ' : St) (s s' : Shared) (a T : Addr) : Prop
 | mk (oe : Obj) (vs : Array Value) (a0 : Value) (oT : Obj) (ts : Array Value) (h1 : s'.heap.get? a = some oe) (h2 : oe.cls = .ref 59) (h3 : oe.data = .fields vs) (h4 : vs[0]? = some a0) (h5 : Aw fz' σ' a) (h6 : vs[1]? = some (.ref T)) (h7 : s.heap.get? T = none) (h8 : T ≠ a)
   (h9 : s'.heap.get? T = some oT) (ha : oT.data = .fields ts) (hb : ts[3]? = some (rawInt C.L)) (hc : Aw fz' σ' T)
inductive gN (C : Cx) (fz : Fz) (σ : St) (s : Shared) (R : St → Prop) (e : Value) (a T : Addr) (s' : Shared) : Prop
 | mk (fz' : Fz) (σ' : St) (h1 : e = .ref a) (h2 : Go C fz σ s fz' σ' s') (h3 : s.heap.get? a = none) (h4 : LI C fz' σ' s s' a T) (h5 : R σ')
theorem gN.of {e : Value} (x : nh [rawInt C.L] C fz σ s R e s') (hn : ∀ a oe vs, e = .ref a → s'.heap.get? a = some oe → oe.data = .fields vs → vs[1]? ≠ some .none) : ∃ a T, gN C fz σ s R e a T s' := by
 refine gk fun _ kk => ?_
 obtain ⟨a, fz', σ', rfl, g, h3, ⟨oe, vs, a0, f1, f2, f3, f4, f5, f6⟩, h5⟩ := x
 refine kk ?_; clear kk
 rcases f6 with f6 | ⟨T, oT, ts, t1, t2, t3, t4, t5, ⟨fl, hfl, t6⟩, t7⟩
 ·exact absurd f6 (hn a oe vs rfl f1 f3)
 ·rw [List.mem_singleton.mp hfl] at t6
  exact ⟨a, T, fz', σ', rfl, g, h3, ⟨oe, vs, a0, oT, ts, f1, f2, f3, f4, f5, t1, t2, t3, t4, t5, t6, t7⟩, h5⟩
theorem k7 {M : Model} (O : Ok C) (r : bt C fz σ s) (he : C.env = C.fenv) {e : Value} (x : Ex C fz σ s R e s') {E : Value → Shared → Prop} :
  wpAny M C.A (noteFrame e C.env) (fun _ s'' => ∃ a T, gN C fz σ s R e a T s'') E s' := by
 refine gk fun _ kk => ?_
 obtain ⟨a, fz', σ', rfl, g, h3, ⟨oe, vs, a0, f1, f2, f3, f4, f5, f6⟩, h5⟩ := x
 refine kk ?_; clear kk
 rw [he]
 have hf := O.hf
 rcases f6 with f6 | ⟨T, oT, ts, t1, t2, t3, t4, t5, t6, t7⟩
 ·have hx : ∀ x ∈ [a], Aw fz' σ' x ∧ s.heap.get? x = none := fun x h => by rw [List.mem_singleton.mp h]; exact ⟨f5, h3⟩
  unfold noteFrame
  simp only [hf]
  refine wpAny_bind (wpAny_field f1 f3 f6 ?_)
  rw [if_neg (by decide)]
  refine wpAny_entryW (base := hideAll s'.heap ([a] ++ C.frs)) O.hA (gz O g [a]) hf f1 (fF _ _) (hideAll_none _ (.head _)) f3 (Array.getElem?_eq_some_iff.mp f6).1 f4 fun h' ⟨n1, n2, n3, n4⟩ => gN.of (eZ r g [a] hx (.head _) n1 n2 (f2 ▸ n3) n4 (.head _) h5) ?_
  rintro b oe' vs' ⟨⟩ e1 e2
  refine gk fun _ kk => ?_
  obtain ⟨oe, vs, T, oT, ts, t1, _, t3, t4, _, _, t7, t8, t9⟩ := n3
  refine kk ?_; clear kk
  rw [t1] at e1; cases e1; rw [t3] at e2; cases e2; rw [t4]; simp
 ·have hx : ∀ x ∈ [a, T], Aw fz' σ' x ∧ s.heap.get? x = none := fun x h => by
   rcases List.mem_cons.mp h with rfl | h
   ·exact ⟨f5, h3⟩
   ·rw [List.mem_singleton.mp h]; exact ⟨t7, t2⟩
  have b1 : (hideAll s'.heap ([a, T] ++ C.frs)).get? a = none := hideAll_none _ (.head _)
  have b2 : (hideAll s'.heap ([a, T] ++ C.frs)).get? T = none := hideAll_none _ (.tail _ (.head _))
  obtain ⟨fl, hfl, t6⟩ := t6
  rcases List.mem_cons.mp hfl with rfl | hfl
  ·refine wpAny_noteFrame_onW (base := hideAll s'.heap ([a, T] ++ C.frs)) O.hA (gz O g [a, T]) hf ⟨oe, vs, T, oT, ts, f1, ⟨f2, f4⟩, f3, t1, b2, t3, t4, t5, t6⟩ (fF _ _) b1 fun h' ⟨n1, n2, n3, n4⟩ => gN.of (eZ r g [a, T] hx (.head _) n1 n2 n3 n4 (.head _) h5) ?_
   rintro b oe' vs' ⟨⟩ e1 e2
   refine gk fun _ kk => ?_
   obtain ⟨oe, vs, T, oT, ts, t1, _, t3, t4, _, _, t7, t8, t9⟩ := n3
   refine kk ?_; clear kk
   rw [t1] at e1; cases e1; rw [t3] at e2; cases e2; rw [t4]; simp
  ·rw [List.mem_singleton.mp hfl] at t6
   refine wpAny_noteFrame_againW (base := hideAll s'.heap ([a, T] ++ C.frs)) hf (cls := .ref 59) (a0 := a0) ⟨oe, vs, T, oT, ts, f1, ⟨f2, f4⟩, f3, t1, b2, t3, t4, t5, t6⟩ ?_
   exact ⟨a, T, fz', σ', rfl, g, h3, ⟨oe, vs, a0, oT, ts, f1, f2, f3, f4, f5, t1, t2, t3, t4, t5, t6, t7⟩, h5⟩
theorem qV {M : Model} {A : Around} (O : Ok C) (r : bt C fz σ s) (F : gN C fz σ s R e a T s') {E : Value → Shared → Prop} : wpAny M A (setFlight e none) (fun _ s'' => nh [.none] C fz σ s R e s'') E s' := by
 refine gk fun _ kk => ?_
 obtain ⟨fz', σ', rfl, g, h3, ⟨oe, vs, a0, oT, ts, f1, f2, f3, f4, f5, t1, t2, t3, t4, t5, t6, t7⟩, h5⟩ := F
 refine kk ?_; clear kk
 have hx : ∀ x ∈ [a, T], Aw fz' σ' x ∧ s.heap.get? x = none := fun x h => by
  rcases List.mem_cons.mp h with rfl | h
  ·exact ⟨f5, h3⟩
  ·rw [List.mem_singleton.mp h]; exact ⟨t7, t2⟩
 have b2 : (hideAll s'.heap ([a, T] ++ C.frs)).get? T = none := hideAll_none _ (.tail _ (.head _))
 refine wpAny_setFlight_noneW (base := hideAll s'.heap ([a, T] ++ C.frs)) (l := C.fenv :: C.outer) (cls := .ref 59) (a0 := a0) (fl := rawInt C.L) (fF _ _) (gz O g [a, T]) ⟨oe, vs, T, oT, ts, f1, ⟨f2, f4⟩, f3, t1, b2, t3, t4, t5, t6⟩ fun h' n1 n2 n3 n4 => ?_
 exact eZ r g [a, T] hx (.head _) n1 n2 n3 (fun b o e n => ⟨o.slots, n4 b o e n⟩) (.head _) h5
theorem lU {M : Model} (O : Ok C) (r : bt C fz σ s) (he : C.env = C.fenv) {e : Value} (x : Ex C fz σ s R e s') {E : Value → Shared → Prop} :
  wpAny M C.A (leaving C.env e) (fun _ s'' => nh [.none] C fz σ s R e s'') E s' := by
 unfold leaving
 exact wpAny_bind (wpAny_mono (k7 O r he x) (fun _ s'' ⟨a, T, F⟩ => qV O r F) fun _ _ y => y)
theorem iP {M : Model} (O : Ok C) (r : bt C fz σ s) (he : C.env = C.fenv) {e : Value} (x : Ex C fz σ s R e s') :
  notedBy M C.A C.env (fun e s' => cameBackBy M C.A C.env (Ex C fz σ s R) e s') e s' := by
 refine wpAny_mono (k7 O r he x) (fun _ s'' ⟨a, T, F⟩ => ?_) fun _ _ y => y
 refine gk fun _ kk => ?_
 obtain ⟨fz', σ', rfl, g, h3, ⟨oe, vs, a0, oT, ts, f1, f2, f3, f4, f5, t1, t2, t3, t4, t5, t6, t7⟩, h5⟩ := F
 refine kk ?_; clear kk
 unfold cameBackBy
 refine wpAny_bind (wpAny_field f1 f3 t1 ?_)
 rw [if_neg (by simp)]
 unfold setFlight
 refine wpAny_bind (wpAny_field f1 f3 t1 ?_)
 rw [if_pos (show (Value.ref T != Value.none) = true from by simp), he, O.hf]
 have hx : ∀ x ∈ [a, T], Aw fz' σ' x ∧ s.heap.get? x = none := fun x h => by
  rcases List.mem_cons.mp h with rfl | h
  ·exact ⟨f5, h3⟩
  ·rw [List.mem_singleton.mp h]; exact ⟨t7, t2⟩
 have b2 : (hideAll s''.heap ([a, T] ++ C.frs)).get? T = none := hideAll_none _ (.tail _ (.head _))
 have hsz3 : 3 < ts.size := (Array.getElem?_eq_some_iff.mp t6).1
 have other : ∀ b, b ≠ T → (s''.heap.update T (Obj.mapFields (·.setIfInBounds 3 (rawInt C.L)))).get? b = s''.heap.get? b := fun b hb => Heap.get?_update_other _ _ (Ne.symm hb)
 have noRecord : ∀ b o, s''.heap.get? b = some o → (∀ vs, o.data ≠ .fields vs) → b ≠ T := fun b o hb hnf q => by
  rw [q, t4] at hb; injection hb with hb; subst hb; exact hnf ts t5
 refine wpAny_setField t4 t5 hsz3 (eZ r g [a, T] hx (.head _) (fl := rawInt C.L) (a0 := a0) (fun b o hbo => (other b fun q => by rw [q, b2] at hbo; cases hbo).trans (of_hideAll _ hbo))
  ((gz O g [a, T]).of_keeps fun b o hb hnf => ⟨o, (other b (noRecord b o hb hnf)).trans hb, rfl⟩) ?_ (fun b o hb hnf => ⟨o.slots, (other b (noRecord b o hb hnf)).trans hb⟩) (.tail _ (.head _)) h5)
 exact ⟨oe, vs, T, _, _, (other a (Ne.symm t3)).trans f1, ⟨f2, f4⟩, f3, t1, b2, t3, Heap.get?_update_self _ t4 (Obj.isFreed_of_fields (Obj.data_mapFields t5 _)), Obj.data_mapFields t5 _, by simp [hsz3]⟩
end
noncomputable def tV (C : Cx) (fz : Fz) (σ : St) (s : Shared) (Q : V → Mem → Prop) (R : Mem → Prop) : Result → Shared → Prop := fun r s' => match r with
 | .ok (.ret v) => ai C fz σ s (fun v σ' => σ'.loc = σ.loc ∧ Q v σ'.mem) v s'
 | .ok _ => False
 | .error e => nh [.none] C fz σ s (fun σ' => σ'.loc = σ.loc ∧ R σ'.mem) e s'
theorem tV.mono {C : Cx} {fz : Fz} {σ : St} {s : Shared} {Q Q' : V → Mem → Prop} {R R' : Mem → Prop} {r : Result} {s' : Shared} (h : tV C fz σ s Q R r s') (hq : ∀ v m, Q v m → Q' v m) (hr : ∀ m, R m → R' m) : tV C fz σ s Q' R' r s' := by
 cases r with
 | ok f =>
  cases f with
  | ret v => obtain ⟨f, x, σ', a, b, c, q⟩ := h; exact ⟨f, x, σ', a, b, c, hq _ _ q⟩
  | _ => exact h.elim
 | error e => exact Ex.mono (fun _ ⟨a, b⟩ => ⟨a, hr _ b⟩) h
noncomputable def Calls (prog : Program) (d : Nat) (f : V) (as : List V) (mem : Mem) (Q : V → Mem → Prop) (R : Mem → Prop) : Prop :=
 ∀ (C : Cx) (fz : Fz) (σ : St) (s : Shared) (uf : Value) (us : List Value), Ok C → d ≤ C.d → σ.mem = mem → bt C fz σ s → RV C.P fz f uf → bu C.P fz as us →
  codeAny (Md prog C) C.A (.call uf ⟨us, []⟩) (tV C fz σ s Q R) s
theorem Calls.mono {prog : Program} {d d' : Nat} {f : V} {as : List V} {mem : Mem} {Q Q' : V → Mem → Prop} {R R' : Mem → Prop} (h : Calls prog d f as mem Q R) (hd : d ≤ d') (hq : ∀ v m, Q v m → Q' v m) (hr : ∀ m, R m → R' m) : Calls prog d' f as mem Q' R' :=
 fun C fz σ s uf us O hd' hm r hf hs => codeAny_mono (h C fz σ s uf us O (Nat.le_trans hd hd') hm r hf hs) fun _ _ b => b.mono hq hr
structure aA (a : Addr) (fd : FuncData) (body : List Stmt) : Prop where
 obj : ∀ P, ∃ o, (HB.KF P).lookup a = some o ∧ o.data = .func fd
 body : fd.body = .stmts body
 kind : fd.scope.kind = .function
 co : fd.scope.isCoroutine = false
 gen : fd.scope.isGenerator = false
 glob : fd.globals = mainGlobals
 bi : fd.builtins = builtinsNs
 clo : fd.closure = []
 code : ∃ c o vs t, fd.code = .ref c ∧ (∀ P, (HB.KF P).lookup c = some o) ∧ o.data = .fields vs ∧ vs[1]? = some (.str fd.qualname t)
noncomputable def aE (fd : FuncData) (as : List V) (names : List Str) (vs : List V) : Prop :=
 ∀ (P : Params) (fz : Fz) (s : Shared) (us : List Value), bu P fz as us → (∀ p ∈ Hi, p ∈ fz) → (HB.KF P).In s.heap → ∃ us', BindsTo s fd ⟨us, []⟩ (names.zip us') ∧ bu P fz vs us'
structure Fn (C : Cx) (sc : Scope) : Prop where
 scope : C.env.scope = sc
 top : C.env = C.fenv
 cells : ∀ x, C.env.kindOf x = some .cell → ∃ c, C.env.cells.lookup x = some c ∧ c ∈ C.own ∧ ∀ y, C.env.cells.lookup y = some c → y = x
theorem aE.plain {fd : FuncData} {as : List V} {names : List Str} (h : ∀ us : List Value, us.length = as.length → bindArgs fd ⟨us, []⟩ = pure (names.zip us)) : aE fd as names as :=
 fun _ _ _ us r _ _ => ⟨us, .of_eq (h us r.length), r⟩
theorem f8 {α : Type} {x : Str} {u : α} : ∀ {names : List Str} {us : List α}, (names.zip us).lookup x = some u → x ∈ names
 | [], _, h => by simp at h
 | n :: ns, [], h => by simp at h
 | n :: ns, v :: us, h => by
  rw [List.zip_cons_cons, List.lookup_cons] at h
  cases q : (x == n) with
  | true => rw [eq_of_beq q]; exact .head _
  | false => rw [q] at h; exact .tail _ (f8 h)
theorem j3 {k : Str → Option NameKind} {x : Str} : ∀ (binds : List (Str × Value)) (m : Str → Option Value), x ∉ binds.map (·.1) → bindL k binds m x = m x
 | [], _, _ => rfl
 | (n, v) :: r, m, h => by
  unfold bindL
  rw [j3 r _ fun q => h (.tail _ q)]
  have : x ≠ n := fun q => h (by rw [q]; exact .head _)
  split
  ·exact if_neg this
  ·rfl
theorem j4 {k : Str → Option NameKind} {x : Str} : ∀ (binds : List (Str × Value)) (m : Str → Option Value), x ∉ binds.map (·.1) → bindC k binds m x = m x
 | [], _, _ => rfl
 | (n, v) :: r, m, h => by
  unfold bindC
  rw [j4 r _ fun q => h (.tail _ q)]
  have : x ≠ n := fun q => h (by rw [q]; exact .head _)
  split
  ·rfl
  ·exact if_neg this
theorem iQ {α : Type} {x : Str} : ∀ {names : List Str} {us : List α}, x ∉ names → x ∉ (names.zip us).map (·.1)
 | [], _, _ => by simp
 | _ :: _, [], _ => by simp
 | n :: ns, v :: us, h => fun q => by
  rcases List.mem_cons.mp q with q | q
  ·exact h (q ▸ .head _)
  ·exact iQ (fun z => h (.tail _ z)) q
theorem iy {P : Params} {fz : Fz} {k : Str → Option NameKind} {x : Str} {names : List Str} : ∀ {vs : List V} {us : List Value} {v : V} (m : Str → Option Value), names.Nodup → bu P fz vs us → (names.zip vs).lookup x = some v →
  ∃ u, RV P fz v u ∧ (k x = some .local → bindL k (names.zip us) m x = some u) ∧ (k x ≠ some .local → bindC k (names.zip us) m x = some u) := by
 induction names with
 | nil => intro vs us v m _ _ h; exact nomatch h
 | cons n ns ih =>
  intro vs us v m hn hr h
  cases hr with
  | nil => exact nomatch h
  | @cons w u vs us hw r =>
   rw [List.zip_cons_cons, List.lookup_cons] at h
   obtain ⟨hn1, hn2⟩ := List.nodup_cons.mp hn
   rw [List.zip_cons_cons]; unfold bindL bindC
   cases q : (x == n) with
   | true =>
    rw [q] at h; cases h
    cases eq_of_beq q
    refine ⟨u, hw, fun hl => ?_, fun hl => ?_⟩
    ·rw [j3 _ _ (iQ hn1), if_pos hl]; exact if_pos rfl
    ·rw [j4 _ _ (iQ hn1), if_neg hl]; exact if_pos rfl
   | false =>
    rw [q] at h
    by_cases hl : k x = some .local
    ·obtain ⟨u₁, a1, a2, _⟩ := ih (if k n = some .local then fun y => if y = n then some u else m y else m) hn2 r h
     exact ⟨u₁, a1, a2, fun z => absurd hl z⟩
    ·obtain ⟨u₂, b1, _, b3⟩ := ih (if k n = some .local then m else fun y => if y = n then some u else m y) hn2 r h
     exact ⟨u₂, b1, fun z => absurd z hl, b3⟩
theorem ei {x : Str} : ∀ (names : List (Str × NameKind)) (n : Nat) (acc : List (Str × Addr)), (acc.lookup x).isSome = true → ((cellsFrom n names acc).lookup x).isSome = true
 | [], _, _, h => h
 | (y, k) :: r, n, acc, h => by
  unfold cellsFrom
  split
  ·refine ei r _ _ ?_
   rw [List.lookup_cons]; split <;> first | rfl | exact h
  ·exact ei r _ _ h
theorem bE {x : Str} : ∀ (names : List (Str × NameKind)) (n : Nat) (acc : List (Str × Addr)), names.lookup x = some .cell → ((cellsFrom n names acc).lookup x).isSome = true
 | [], _, _, h => by simp at h
 | (y, k) :: r, n, acc, h => by
  unfold cellsFrom
  rw [List.lookup_cons] at h
  cases q : (x == y) with
  | true =>
   rw [q] at h; cases h
   refine ei r _ _ ?_
   rw [List.lookup_cons, q]; rfl
  | false =>
   rw [q] at h
   split
   ·exact bE r _ _ h
   ·exact bE r _ _ h
noncomputable def dW (cs : List (Str × Addr)) : List Addr := (cs.map (·.1)).filterMap fun n => cs.lookup n
theorem ea {cs : List (Str × Addr)} {c : Addr} (h : c ∈ dW cs) : ∃ n, cs.lookup n = some c := by
 obtain ⟨n, _, e⟩ := List.mem_filterMap.mp h; exact ⟨n, e⟩
theorem eJ {cs : List (Str × Addr)} {c : Addr} {n : Str} (h : cs.lookup n = some c) : c ∈ dW cs :=
 List.mem_filterMap.mpr ⟨n, List.mem_map.mpr ⟨_, mem_of_lookup h, rfl⟩, h⟩
noncomputable def qW (C : Cx) (env : Env) (L : Addr) (σ : St) (s : Shared) : Cx :=
 { C with A := C.A.deeper env, h₀ := hideAll s.heap (σ.mem.map (·.1) ++ (L :: dW env.cells) ++ (env :: C.fenv :: C.outer).filterMap (·.frame)), outer := C.fenv :: C.outer, fenv := env, env := env, L := L, own := L :: dW env.cells, d := C.d - 1, k := 0 }
theorem qX {a d : Nat} (h : 0 < d) (h1 : a + d ≤ 990) : a + 1 + (d - 1) ≤ 990 := by lia
theorem qY {a d k : Nat} (h : 0 < d) (h1 : a + 16 * d + k ≤ 9800) : a + 3 + 16 * (d - 1) + 0 ≤ 9800 := by lia
theorem qZ {C : Cx} {fz : Fz} {σ : St} {s s' : Shared} (O : Ok C) (hd : 0 < C.d) (r : bt C fz σ s) {env : Env} {m cm : Str → Option Value} (ic : InCallC s env.locals m env.cells cm s')
  (hL : env.locals = s.heap.objs.size) (hef : env.frame = some s.heap.objs.size) (hek : env.scope.kind = .function) (heg : env.globals = mainGlobals) (heb : env.builtins = builtinsNs)
  (hce : ∀ x, env.kindOf x = some .cell → (env.cells.lookup x).isSome = true) (hno : ∀ x, env.kindOf x ≠ some .free)
  {loc : List (Str × V)} (hl : ∀ x v, loc.lookup x = some v → ∃ u, RV C.P fz v u ∧ (env.kindOf x = some .local ∧ m x = some u ∨ env.kindOf x = some .cell ∧ cm x = some u)) :
  let C' := qW C env s.heap.objs.size σ s'
  Ok C' ∧ Fn C' env.scope ∧ Sub C C' fz σ s s' ∧ bt C' fz ⟨loc, σ.mem⟩ s' := by
 intro C'
 have fresh : ∀ {b}, s.heap.objs.size ≤ b → s.heap.get? b = none := fun h => Heap.get?_none_of_le h
 have hkeep := ic.toInCall.keep
 have above : ∀ n c, env.cells.lookup n = some c → s.heap.objs.size < c := fun n c h => hL ▸ ic.above n c (mem_of_lookup h)
 have frs : C'.frs = s.heap.objs.size :: C.frs := by
  show (env :: C.fenv :: C.outer).filterMap (·.frame) = _
  rw [List.filterMap_cons, hef]
 have hns : ∃ o, s'.heap.get? s.heap.objs.size = some o ∧ ∀ vs, o.data ≠ .fields vs := by
  refine gk fun _ kk => ?_
  obtain ⟨o, es, ep, e, hd, _⟩ := ic.toInCall.ns
  refine kk ?_; clear kk
  exact ⟨o, hL ▸ e, fun vs q => by rw [hd] at q; cases q⟩
 have lt_of : ∀ {b}, (s.heap.get? b).isSome = true → b < s.heap.objs.size := fun h => by
  obtain ⟨o, e⟩ := Option.isSome_iff_exists.mp h; exact Heap.lt_size e
 have S : Sub C C' fz σ s s' := by
  refine ⟨rfl, hkeep, rfl, fun b hb => ?_, ?_, fun b hb => ?_, ⟨?_, rfl⟩, ⟨?_, rfl⟩, ⟨?_, rfl⟩⟩
  ·rcases List.mem_cons.mp hb with rfl | hb
   ·obtain ⟨o, e, _⟩ := hns
    exact ⟨fresh (Nat.le_refl _), az e⟩
   ·obtain ⟨n, e⟩ := ea hb
    obtain ⟨o, e', _⟩ := ic.cell n b e
    exact ⟨fresh (Nat.le_of_lt (above n b e)), az e'⟩
  ·show env.locals ∈ _
   rw [hL]; exact .head _
  ·rw [frs] at hb
   rcases List.mem_cons.mp hb with rfl | hb
   ·exact .inr ⟨fresh (Nat.le_refl _), hns⟩
   ·exact .inl hb
  ·obtain ⟨h, t, e⟩ := ic.toInCall.same; rw [e]; exact r.gens
  ·obtain ⟨h, t, e⟩ := ic.toInCall.same; rw [e]; exact r.os
  ·obtain ⟨h, t, e⟩ := ic.toInCall.same; rw [e]; exact r.drawn
 have kb : ∀ b o, C.h₀.get? b = some o → C'.h₀.get? b = some o := fun b o e => by
  have e' := r.base b o e
  refine S.at e' ?_ (S.nfr e' fun h => by have := (r.fr b h).1; rw [e] at this; cases this)
  cases q : σ.mem.lookup b with
  | none => rfl
  | some x => obtain ⟨_, _, _, h, _⟩ := r.mem b x q; rw [e] at h; cases h
 have O' : Ok C' := by
  refine ⟨?_, hef, fun e he => ?_, hef, hek, heg, heb, O.K.keeps kb, O.g.keeps kb, O.b.keeps kb, O.bb, O.nl.keeps kb, ?_, O.hh, ?_, ?_⟩
  ·show C.A.frames.map (env :: ·) = _
   rw [O.hA]; rfl
  ·rcases List.mem_cons.mp he with rfl | he
   ·rw [hek, hef]; exact ⟨by decide, rfl⟩
   ·exact O.hfk e he
  ·obtain ⟨mc, h1, h2⟩ := O.nd; exact ⟨mc, h1.keeps kb, h2⟩
  ·exact qX hd O.hd
  ·exact qY hd O.hu
 have Fn' : Fn C' env.scope := ⟨rfl, rfl, fun x hx => by
  obtain ⟨c, e⟩ := Option.isSome_iff_exists.mp (hce x hx)
  exact ⟨c, e, .tail _ (eJ e), fun y hy => name_of_addr ic.apart (mem_of_lookup hy) (mem_of_lookup e)⟩⟩
 refine ⟨O', Fn', S, S.enter r loc ⟨m, ic.toInCall.ns, fun x v e q => ?_⟩ (fun x v e q => ?_) fun x c e => ?_⟩
 ·obtain ⟨u, h1, h2⟩ := hl x v e
  rcases h2 with h2 | h2
  ·exact ⟨u, h1, h2.2⟩
  ·rw [show C'.env.kindOf x = _ from h2.1] at q; cases q
 ·obtain ⟨u, h1, h2⟩ := hl x v e
  rcases h2 with h2 | h2
  ·exact absurd h2.1 q
  ·obtain ⟨c, e'⟩ := Option.isSome_iff_exists.mp (hce x h2.1)
   have := ic.cell x c e'
   rw [h2.2] at this
   exact ⟨c, u, .inl h2.1, e', this, h1⟩
 ·have h := above x c e
  refine ⟨fun q => ?_, ?_, ?_, ?_⟩
  ·rw [frs] at q
   rcases List.mem_cons.mp q with q | q
   ·exact absurd q (Nat.ne_of_gt h)
   ·refine gk fun _ kk => ?_
    obtain ⟨_, o, e, _⟩ := r.fr c q
    exact absurd (Heap.lt_size e) (Nat.not_lt.mpr (Nat.le_of_lt h))
  ·cases q : σ.mem.lookup c with
   | none => rfl
   | some x =>
    obtain ⟨o, e, _⟩ := r.mem c x q
    exact absurd (Heap.lt_size e) (Nat.not_lt.mpr (Nat.le_of_lt h))
  ·show c ≠ env.locals
   rw [hL]; exact Nat.ne_of_gt h
  ·obtain ⟨o, e, d⟩ := ic.cell x c e
   exact ⟨o, _, e, d⟩
theorem lV {prog : Program} {d : Nat} {a : Addr} {fd : FuncData} {body : List Stmt} (F : aA a fd body) {names : List Str} {as vs : List V} {mem : Mem} {Q : V → Mem → Prop} {R : Mem → Prop}
  (hn : names.Nodup) (hk : ∀ x ∈ names, fd.scope.names.lookup x = some .local ∨ fd.scope.names.lookup x = some .cell) (hno : ∀ x, fd.scope.names.lookup x ≠ some .free) (hb : aE fd as names vs)
  (h : ∀ C, Ok C → Fn C fd.scope → d ≤ C.d → WS prog C ⟨names.zip vs, mem⟩ (execs body C.env) (fun σ => Q .none σ.mem) (fun v σ => Q v σ.mem) (fun σ => R σ.mem)) :
  Calls prog (d + 1) (.ref a) as mem Q R := by
 rintro C fz σ s uf us O hd rfl r hf hs
 refine gk fun _ kk => ?_
 cases hf
 obtain ⟨o, hKo, hdata⟩ := F.obj C.P
 have X : (HB.KF C.P).In s.heap := O.K.keeps r.base
 obtain ⟨c, oc, cvs, t, hc1, hc2, hc3, hc4⟩ := F.code
 obtain ⟨us', hbt, hvs⟩ := hb C.P fz s us hs r.sp X
 refine kk ?_; clear kk
 have hrec : s.heap.CodeRec fd.code fd.qualname := ⟨c, oc, cvs, t, hc1, X _ _ (hc2 C.P), hc3, hc4⟩
 have hlim : s.heap.NoLimit := O.nl.keeps r.base
 have hroom : C.A.depth < recursionLimit := by have := O.hd; show _ < 1000; lia
 refine codeAny_call_function hroom (X _ _ hKo) hdata F.co F.gen F.body hrec (hbt _ _ _ _ ?_)
 rw [F.clo]
 refine wpAny_newFunctionEnv_cells F.kind (fun x hx => ?_) fun env he s' ic => ?_
 ·have hxn : x.1 ∈ names := (List.of_mem_zip hx).1
  rcases hk x.1 hxn with h | h
  ·exact .inl h
  ·exact .inr ⟨h, bE _ _ _ h⟩
 have hes : env.scope = fd.scope := by rw [he]; rfl
 have hko : ∀ x, env.kindOf x = fd.scope.names.lookup x := fun x => by unfold Env.kindOf; rw [hes]
 obtain ⟨O', Fn', S, r'⟩ := qZ (loc := names.zip vs) O (Nat.lt_of_lt_of_le (Nat.succ_pos d) hd) r ic (by rw [he]; rfl) (by rw [he]; rfl) (hes ▸ F.kind) (by rw [he]; exact F.glob) (by rw [he]; exact F.bi)
  (fun x hx => by rw [show env.cells = cellsFrom (s.heap.objs.size + 1) fd.scope.names [] from by rw [he]; rfl]; rw [hko] at hx; exact bE _ _ _ hx) (fun x => by rw [hko]; exact hno x)
  (fun x v e => by
   refine gk fun _ kk => ?_
   obtain ⟨u, h1, h2, h3⟩ := iy (k := env.kindOf) (fun _ => none) hn hvs e
   obtain ⟨u', h1', _, h3'⟩ := iy (k := env.kindOf) (fun _ => none) hn hvs e
   refine kk ?_; clear kk
   rcases hk x (f8 e) with h | h
   ·exact ⟨u, h1, .inl ⟨(hko x).trans h, h2 ((hko x).trans h)⟩⟩
   ·exact ⟨u, h1, .inr ⟨(hko x).trans h, h3 (by rw [hko, h]; decide)⟩⟩)
 refine ⟨hlim.keeps ic.toInCall.keep, codeAny_func (wpAny_mono (h (qW C env s.heap.objs.size σ s') O' (hes ▸ Fn') (Nat.le_sub_one_of_lt hd) fz s' r') (fun f s₂ p => ?_) fun e s₂ x => ?_)⟩
 ·cases f with
  | next =>
   refine gk fun _ kk => ?_
   obtain ⟨fz', σ', g, q⟩ := p
   refine kk ?_; clear kk
   exact ⟨fz', .none, _, S.leave r g, .none, rfl, q⟩
  | ret v =>
   refine gk fun _ kk => ?_
   obtain ⟨fz', y, σ', g, hv, q⟩ := p
   refine kk ?_; clear kk
   exact ⟨fz', y, _, S.leave r g, hv, rfl, q⟩
  | cont => exact p.elim
  | brk => exact p.elim
 ·refine wpAny_mono (lU O' r' rfl x) (fun _ s₃ x => ?_) fun _ _ y => y
  refine gk fun _ kk => ?_
  obtain ⟨a', fz', σ', h1, g, h3, ⟨oe, vs', a0, f1, f2, f3, f4, f5, f6⟩, h5⟩ := x
  refine kk ?_; clear kk
  have fr : ∀ {b}, s'.heap.get? b = none → s.heap.get? b = none := fun h => c9 fun q => aS h (S.stay q)
  refine ⟨a', fz', ⟨σ.loc, σ'.mem⟩, h1, S.leave r g, fr h3, ⟨oe, vs', a0, f1, f2, f3, f4, f5, f6.imp id ?_⟩, rfl, h5⟩
  intro zz
  refine gk fun _ kk => ?_
  obtain ⟨T, oT, ts, a1, a2, a3, a4, a5, a6, a7⟩ := zz
  refine kk ?_; clear kk
  exact ⟨T, oT, ts, a1, fr a2, a3, a4, a5, a6, a7⟩
section
variable {C : Cx} {fz fz' fz'' : Fz} {σ σ' σ'' : St} {s s' s'' : Shared} {x : Addr}
theorem Aw.step (a : Aw fz σ x) (hx : (s.heap.get? x).isSome = true) (g : Go C fz σ s fz' σ' s') : Aw fz' σ' x := by
 refine ⟨fun p hp q => ?_, ?_⟩
 ·rcases g.fnew p hp with h | h | ⟨y, h⟩
  ·exact a.1 p h q
  ·rw [q] at h; exact aS h hx
  ·rw [q, a.2] at h; cases h
 ·cases q : σ'.mem.lookup x with
  | none => rfl
  | some y =>
   rcases g.new x y q with ⟨z, h⟩ | h
   ·rw [a.2] at h; cases h
   ·exact absurd hx (aS h)
theorem Aw.new (r : bt C fz σ s) (h : s.heap.get? x = none) : Aw fz σ x := by
 refine ⟨fun p hp q => ?_, ?_⟩
 ·have := (r.fro p hp).1; rw [q, h] at this; cases this
 ·cases q : σ.mem.lookup x with
  | none => rfl
  | some y => obtain ⟨o, e, _⟩ := r.mem x y q; rw [h] at e; cases e
theorem Aw.keep (r : bt C fz σ s) (hn : s.heap.get? x = none) (a : Aw fz' σ' x) {o : Obj} (hx : s'.heap.get? x = some o) (g : Go C fz' σ' s' fz'' σ'' s'') : s''.heap.get? x = some o :=
 g.keep x o hx a.2 (fun h => aS hn (r.own x h).2) fun h => by obtain ⟨_, o, e, _⟩ := r.fr x h; rw [hn] at e; cases e
theorem Go.adopt (r : bt C fz σ s) (g : Go C fz σ s fz' σ' s') {o : Obj} (hn : s.heap.get? x = none) (ho : s'.heap.get? x = some o) (a : Aw fz' σ' x) : Go C fz σ s ((x, o) :: fz') σ' s' := by
 have q := g.rep
 have sub : ∀ p ∈ fz', p ∈ (x, o) :: fz' := fun p h => .tail _ h
 refine ⟨⟨q.base, fun p hp => ?_, fun b y e => ?_, ?_, fun y v e n => ?_, q.own, q.lo, q.fr, q.nocell, q.one, fun p hp => sub p (q.sp p hp), q.gens, q.os, q.drawn⟩, fun p hp => sub p (g.sub p hp), g.keep, g.slot, g.new, fun p hp => ?_, g.live⟩
 ·rcases List.mem_cons.mp hp with rfl | hp
  ·refine ⟨ho, fun h => aS hn (r.own _ h).2, a.2, fun h => ?_, fun h => ?_⟩
   ·obtain ⟨_, o, e, _⟩ := r.fr _ h; rw [hn] at e; cases e
   ·subst h; exact aS hn r.one
  ·exact q.fro p hp
 ·obtain ⟨o', f1, f2, f3⟩ := q.mem b y e
  exact ⟨o', f1, f2.mono sub, f3⟩
 ·obtain ⟨m, h, k⟩ := q.ns
  exact ⟨m, h, fun x v e q => let ⟨u, a, b⟩ := k x v e q; ⟨u, a.mono sub, b⟩⟩
 ·obtain ⟨c, u, f1, f2, f3, f5⟩ := q.cell y v e n
  exact ⟨c, u, f1, f2, f3, f5.mono sub⟩
 ·rcases List.mem_cons.mp hp with rfl | hp
  ·exact .inr (.inl hn)
  ·exact g.fnew p hp
theorem Go.adoptMem (r : bt C fz σ s) (g : Go C fz σ s fz' σ' s') {o : Obj} {y : M} (hn : s.heap.get? x = none) (ho : s'.heap.get? x = some o) (a : Aw fz' σ' x) (hy : MR C.P fz' y o) (hc : ∀ u, o.data ≠ .cell u) :
  Go C fz σ s fz' ⟨σ'.loc, (x, y) :: σ'.mem⟩ s' := by
 have q := g.rep
 have lk : ∀ b, ((x, y) :: σ'.mem).lookup b = if b == x then some y else σ'.mem.lookup b := fun b => by
  rw [List.lookup_cons]; cases (b == x) <;> rfl
 refine ⟨⟨q.base, fun p hp => ?_, fun b z e => ?_, q.ns, q.cell, q.own, q.lo, q.fr, fun z c e => ?_, q.one, q.sp, q.gens, q.os, q.drawn⟩, g.sub, g.keep, g.slot, fun b z e => ?_, g.fnew, g.live⟩
 ·obtain ⟨e1, e2, e3, e4⟩ := q.fro p hp
  refine ⟨e1, e2, ?_, e4⟩
  show ((x, y) :: σ'.mem).lookup p.1 = none
  rw [lk, if_neg (by simpa using a.1 p hp)]; exact e3
 ·have e' : ((x, y) :: σ'.mem).lookup b = some z := e
  rw [lk] at e'
  by_cases h : (b == x) = true
  ·rw [if_pos h] at e'; cases e'
   rw [eq_of_beq h]
   refine ⟨o, ho, hy, c9 fun q => ?_, fun h => aS hn (r.own _ h).2, fun h => ?_, fun h => ?_⟩
   ·obtain ⟨o', e⟩ := Option.isSome_iff_exists.mp q
    have := r.base x o' e; rw [hn] at this; cases this
   ·obtain ⟨_, o, e, _⟩ := r.fr _ h; rw [hn] at e; cases e
   ·subst h; exact aS hn r.one
  ·rw [if_neg h] at e'; exact q.mem b z e'
 ·obtain ⟨e1, e2, e3, e4⟩ := q.nocell z c e
  refine ⟨e1, ?_, e3, e4⟩
  show ((x, y) :: σ'.mem).lookup c = none
  rw [lk, if_neg ?_]
  ·exact e2
  ·intro h
   obtain ⟨oc, u, f1, f2⟩ := e4
   rw [eq_of_beq h, ho] at f1; cases f1; exact hc u f2
 ·have e' : ((x, y) :: σ'.mem).lookup b = some z := e
  rw [lk] at e'
  by_cases h : (b == x) = true
  ·rw [eq_of_beq h]; exact .inr hn
  ·rw [if_neg h] at e'; exact g.new b z e'
theorem Go.turn (r : bt C fz σ s) (g : Go C fz σ s fz' σ' s') (xs : List Addr) (hx : ∀ x ∈ xs, s.heap.get? x = none ∧ Aw fz' σ' x)
  (hk : ∀ b o, b ∉ xs → s'.heap.get? b = some o → s''.heap.get? b = some o)
  (hg : s''.gens = s'.gens := by rfl) (ho : s''.os = s'.os := by rfl) (hd : s''.drawn = s'.drawn := by rfl) : Go C fz σ s fz' σ' s'' :=
 Go.shake r g xs (fun x h => ⟨(hx x h).2, (hx x h).1⟩) (fun b o e h _ => hk b o h e) (fun b o e h => ⟨o.slots, hk b o (fun q => by
  have := (hx b q).1
  obtain ⟨_, o', e', _⟩ := r.fr b h; rw [this] at e'; cases e') e⟩) hg ho hd
theorem aP (h : Heap) : h.get? h.objs.size = none := Heap.get?_none_of_le (Nat.le_refl _)
end
section
variable {prog : Program} {C : Cx} {σ : St} {Q : V → St → Prop} {R : St → Prop}
theorem Fh {QL : List V → St → Prop} {pos : Pos} (h : QL [] σ) : WL prog C σ (spliced (backTo pos (starEach [] C.env))) QL R := fun fz s r =>
 wpAny_items_nil ⟨fz, [], σ, Go.refl r, .nil, h⟩
theorem tW {QL : List V → St → Prop} {Q1 : V → St → Prop} {pos : Pos} {e : Expr} {rest : List Expr} (h1 : WE prog C σ (eval e C.env) Q1 R)
  (h2 : ∀ v σ', Q1 v σ' → WL prog C σ' (spliced (backTo pos (starEach rest C.env))) (fun vs σ'' => QL (v :: vs) σ'') R) (he : starEach (e :: rest) C.env = (false, eval e C.env) :: starEach rest C.env) :
  WL prog C σ (spliced (backTo pos (starEach (e :: rest) C.env))) QL R := fun fz s r =>
 wpAny_items_cons (aX r h1 fun fz₁ x σ₁ s₁ v g hv hq => wpAny_mono (h2 x σ₁ hq fz₁ s₁ g.rep) (fun vs s₂ ⟨fz₂, xs, σ₂, g₂, hvs, q⟩ => ⟨fz₂, x :: xs, σ₂, g.trans g₂, .cons (hv.mono g₂.sub) hvs, q⟩) fun _ _ e => Ex.of_go g e) he
theorem WL.then {QL : List V → St → Prop} {t : Sem (List Value)} {fz : Fz} {s : Shared} {K : List Value → Shared → Prop} (r : bt C fz σ s) (h : WL prog C σ t QL R)
  (k : ∀ fz₁ xs σ₁ s₁ vs, Go C fz σ s fz₁ σ₁ s₁ → bu C.P fz₁ xs vs → QL xs σ₁ → K vs s₁) : wpAny (Md prog C) C.A t K (Ex C fz σ s R) s :=
 wpAny_mono (h fz s r) (fun v s₁ ⟨fz₁, x, σ₁, g, hv, hq⟩ => k fz₁ x σ₁ s₁ v g hv hq) fun _ _ e => e
theorem bu.line {P : Params} {fz : Fz} {l : List V} {vs : List Value} (h : bu P fz l vs) (hl : l.length ≤ cap) : vs.length ≤ sizeLine := bX (h.length ▸ hl)
theorem ai.newAt {fz fz₀ : Fz} {σ₀ : St} {s s₀ : Shared} (g : Go C fz₀ σ₀ s₀ fz σ s) {x : V} {o : Obj} (hf : o.isFreed = false) (hv : RV C.P ((s.heap.objs.size, o) :: fz) x (.ref s.heap.objs.size)) (h : Q x σ) :
  ai C fz₀ σ₀ s₀ Q (.ref s.heap.objs.size) { s with heap := s.heap.push o } := (ai.new g.rep s.toks hf hv h).of_go g
theorem rc {es : List Expr} {k : Nat} {pos : Pos} {QL : List V → St → Prop} (h : WL prog C σ (spliced (backTo pos (starEach es C.env))) QL R) (hq : ∀ vs σ', QL vs σ' → vs.length ≤ cap ∧ Q (.tup vs) σ') :
  WE prog C σ (eval (.Tuple es k pos) C.env) Q R := fun fz s r =>
 wpAny_Tuple_spliced (h.then r fun fz₁ xs σ₁ s₁ vs g hv q => ⟨hv.line (hq _ _ q).1, ai.newAt g rfl (.tup (n := 0) (.head _) (hq _ _ q).1 (hv.mono fun p hp => .tail _ hp)) (hq _ _ q).2⟩)
theorem oq {es : List Expr} {pos : Pos} {QL : List V → St → Prop} (h : WL prog C σ (spliced (backTo pos (starEach es C.env))) QL R) (hq : ∀ vs σ', QL vs σ' → vs.length ≤ cap ∧ Q (.list vs) σ') :
  WE prog C σ (eval (.List es pos) C.env) Q R := fun fz s r =>
 wpAny_List_spliced (h.then r fun fz₁ xs σ₁ s₁ vs g hv q => ⟨hv.line (hq _ _ q).1, ai.newAt g rfl (.list (n := 0) (.head _) (hq _ _ q).1 (hv.mono fun p hp => .tail _ hp)) (hq _ _ q).2⟩)
theorem rd {es : List Expr} {pos : Pos} {QL : List V → St → Prop} (h : WL prog C σ (spliced (backTo pos (starEach es C.env))) QL R)
  (hq : ∀ vs σ', QL vs σ' → vs.length ≤ cap ∧ ∀ a, σ'.mem.lookup a = none → Q (.mut a) ⟨σ'.loc, (a, .list vs) :: σ'.mem⟩) : WE prog C σ (eval (.List es pos) C.env) Q R := fun fz s r =>
 wpAny_List_spliced (h.then r fun fz₁ xs σ₁ s₁ vs g hv q => ⟨hv.line (hq _ _ q).1, by
  have hn := aP s₁.heap
  refine ⟨fz₁, .mut s₁.heap.objs.size, _, g.trans (Go.addMem g.rep s₁.heap.objs.size (.list xs) _ (fun b o e => Heap.get?_push_of_some _ e) hn (Heap.get?_push_size _ rfl) (.list (n := 0) (hq _ _ q).1 hv)), .mut _, (hq _ _ q).2 _ (Aw.new g.rep hn).2⟩⟩)
end
section
variable {β : Type} {e : Expr} {d : β} {G : Expr → Prop} {F : β → Prop}
noncomputable def vK (e : Expr) (n : Str → Pos → β) (a : Expr → Str → Pos → β) (c : Expr → List Expr → List Keyword → Pos → β) (t : List Expr → β) (s : Expr → Expr → β) (k : Const → β) (sl : Option Expr → Option Expr → Option Expr → β) (d : β) : β := match e with
 | .Name x p => n x p
 | .Attribute o m p => a o m p
 | .Call f as ks p => c f as ks p
 | .Tuple es _ _ => t es
 | .Subscript o i _ => s o i
 | .Constant c _ _ => k c
 | .Slice lo hi st _ => sl lo hi st
 | _ => d
noncomputable def dm (e : Expr) (k : Str → β) (d : β) : β := vK e (fun x _ => k x) (fun _ _ _ => d) (fun _ _ _ _ => d) (fun _ => d) (fun _ _ => d) (fun _ => d) (fun _ _ _ => d) d
theorem bY {k : Str → β} (h : F (dm e k d)) (h1 : ∀ x p, F (k x) → G (.Name x p)) (h2 : F d → G e) : G e := by
 cases e with | Name x p => exact h1 x p h | _ => exact h2 h
noncomputable def ec (e : Expr) (k : Expr → Str → Pos → β) (d : β) : β := vK e (fun _ _ => d) k (fun _ _ _ _ => d) (fun _ => d) (fun _ _ => d) (fun _ => d) (fun _ _ _ => d) d
theorem dX {k : Expr → Str → Pos → β} (h : F (ec e k d)) (h1 : ∀ o m p, F (k o m p) → G (.Attribute o m p)) (h2 : F d → G e) : G e := by
 cases e with | Attribute o m p => exact h1 o m p h | _ => exact h2 h
noncomputable def iR (e : Expr) (k : Expr → List Expr → List Keyword → Pos → β) (d : β) : β := vK e (fun _ _ => d) (fun _ _ _ => d) k (fun _ => d) (fun _ _ => d) (fun _ => d) (fun _ _ _ => d) d
theorem gO {k : Expr → List Expr → List Keyword → Pos → β} (h : F (iR e k d)) (h1 : ∀ f as ks p, F (k f as ks p) → G (.Call f as ks p)) (h2 : F d → G e) : G e := by
 cases e with | Call f as ks p => exact h1 f as ks p h | _ => exact h2 h
noncomputable def k8 (e : Expr) (k : List Expr → β) (d : β) : β := vK e (fun _ _ => d) (fun _ _ _ => d) (fun _ _ _ _ => d) k (fun _ _ => d) (fun _ => d) (fun _ _ _ => d) d
theorem iS {k : List Expr → β} (h : F (k8 e k d)) (h1 : ∀ es c p, F (k es) → G (.Tuple es c p)) (h2 : F d → G e) : G e := by
 cases e with | Tuple es c p => exact h1 es c p h | _ => exact h2 h
noncomputable def hG (e : Expr) (k : Expr → Expr → β) (d : β) : β := vK e (fun _ _ => d) (fun _ _ _ => d) (fun _ _ _ _ => d) (fun _ => d) k (fun _ => d) (fun _ _ _ => d) d
theorem iT {k : Expr → Expr → β} (h : F (hG e k d)) (h1 : ∀ o i p, F (k o i) → G (.Subscript o i p)) (h2 : F d → G e) : G e := by
 cases e with | Subscript o i p => exact h1 o i p h | _ => exact h2 h
noncomputable def f9 (e : Expr) (k : Const → β) (d : β) : β := vK e (fun _ _ => d) (fun _ _ _ => d) (fun _ _ _ _ => d) (fun _ => d) (fun _ _ => d) k (fun _ _ _ => d) d
theorem fR {k : Const → β} (h : F (f9 e k d)) (h1 : ∀ c n p, F (k c) → G (.Constant c n p)) (h2 : F d → G e) : G e := by
 cases e with | Constant c n p => exact h1 c n p h | _ => exact h2 h
noncomputable def vL (e : Expr) (k : Option Expr → Option Expr → Option Expr → β) (d : β) : β := vK e (fun _ _ => d) (fun _ _ _ => d) (fun _ _ _ _ => d) (fun _ => d) (fun _ _ => d) (fun _ => d) k d
end
section
variable {prog : Program} {w : World} {P : Params} {fz : Fz}
theorem dB.dictOf {h : Heap} {l : List (Str × V)} {es : List DictEntry} {a : Addr} {n : Nat} (r : dB w.params fz l es) (hm : h.get? a = some (dictOf es n)) (hn : (l.map (·.1)).Nodup) :
  ∃ us, h.DictOf (strKind prog w) a ((l.map (·.1)).zip us) ∧ bu w.params fz (l.map (·.2)) us := by
 suffices ∀ {l : List (Str × V)} {es : List DictEntry}, dB w.params fz l es → ∃ us, Pairs (strKind prog w) es ((l.map (·.1)).zip us) ∧ bu w.params fz (l.map (·.2)) us by
  obtain ⟨us, h1, h2⟩ := this r
  refine ⟨us, ⟨_, es.toArray, n, hm, ⟨rfl, rfl, rfl⟩, rfl, fun e he => ?_, by simpa using h1, ?_⟩, h2⟩
  ·obtain ⟨k, t, e1, e2⟩ := r.keys e (by simpa using he)
   exact ⟨k, by rw [e1]; exact strKind_is prog w k t, e2⟩
  ·have : ((l.map (·.1)).zip us).map (·.1) = l.map (·.1) := by
    rw [List.map_fst_zip]
    have := h2.length
    simp only [List.length_map] at this ⊢
    lia
   rw [this]; exact hn
 intro l es r
 induction l generalizing es with
 | nil => cases r; exact ⟨[], .nil, .nil⟩
 | cons x l ih =>
  cases r with
  | cons h r =>
   obtain ⟨us, h1, h2⟩ := ih r
   exact ⟨_ :: us, .cons (strKind_is prog w _ _) rfl h1, .cons h h2⟩
theorem dB.of_pairs {es : List DictEntry} {kvs : List (Str × Value)} (hp : Pairs (strKind prog w) es kvs) : (∀ e ∈ es, ∃ k, (strKind prog w).is k e.key = true ∧ e.hash = (strKind prog w).hash k) →
  ∀ {l : List (Str × V)}, l.map (·.1) = kvs.map (·.1) → bu w.params fz (l.map (·.2)) (kvs.map (·.2)) → dB w.params fz l es := by
 induction hp with
 | nil =>
  intro _ l hl _
  cases l with
  | nil => exact .nil
  | cons x l => simp at hl
 | @cons e kv es kvs h1 h2 hp ih =>
  intro hk l hl hv
  cases l with
  | nil => simp at hl
  | cons x l =>
   obtain ⟨k, v⟩ := x
   simp only [List.map_cons, List.cons.injEq] at hl
   cases hv with
   | cons hv1 hv2 =>
    refine gk fun _ kk => ?_
    obtain ⟨k', hk1, hk2⟩ := hk e (.head _)
    have : k' = kv.1 := (strKind prog w).inj _ _ _ hk1 h1
    subst this
    obtain ⟨t, et⟩ := Value.isStrOf_shape h1
    obtain ⟨hsh, key, val⟩ := e
    refine kk ?_; clear kk
    simp only at et h2 hk2
    subst et h2 hk2
    rw [show k = kv.1 from hl.1]
    exact .cons hv1 (ih (fun e he => hk e (.tail _ he)) hl.2 hv2)
theorem dB.of_dictOf {h : Heap} {a : Addr} {kvs : List (Str × Value)} {l : List (Str × V)} (hd : h.DictOf (strKind prog w) a kvs) (hl : l.map (·.1) = kvs.map (·.1)) (hv : bu w.params fz (l.map (·.2)) (kvs.map (·.2))) :
  ∃ es n, h.get? a = some (W.dictOf es n) ∧ dB w.params fz l es := by
 refine gk fun _ kk => ?_
 obtain ⟨o, es, ep, e, ⟨x1, x2, x3⟩, hdt, hk, hp, hn⟩ := hd
 obtain ⟨oc, od, odt, osl⟩ := o
 refine kk ?_; clear kk
 simp only at x1 x2 x3 hdt
 subst x1 x2 x3 hdt
 refine ⟨es.toList, ep, by simpa using e, .of_pairs hp (fun e he => ?_) hl hv⟩
 obtain ⟨k, h1, h2⟩ := hk e (by simpa using he)
 exact ⟨k, h1, h2⟩
noncomputable def vM (o : Option Expr) : Option Str := match o with
 | some e => f9 e (fun c => match c with | .str k => some k | _ => none) none
 | none => none
theorem pD {o : Option Expr} {k : Str} (h : vM o = some k) : ∃ kk kp, o = some (.Constant (.str k) kk kp) := by
 cases o with
 | none => exact aO h
 | some e =>
  exact fR (F := (· = some k)) (G := fun e => ∃ kk kp, some e = some (.Constant (.str k) kk kp)) h (fun c n p h => by
   cases c with
   | str x => rw [Option.some.inj h]; exact ⟨_, _, rfl⟩
   | _ => exact aO h) aO
noncomputable def cn : List (Option Expr) → Option (List Str)
 | [] => some []
 | o :: r => (vM o).bind fun k => (cn r).map (k :: ·)
noncomputable def iz (env : Env) (pos : Pos) : List (Option Expr) → List Expr → List (Sem Value × Sem Value)
 | some k :: ks, v :: vs => (eval k env, do let x ← eval v env; standAt pos; pure x) :: iz env pos ks vs
 | _, _ => []
theorem db {o : Option Expr} {ks : List (Option Expr)} {ns : List Str} (h : cn (o :: ks) = some ns) : ∃ k kk kp ms, o = some (.Constant (.str k) kk kp) ∧ cn ks = some ms ∧ ns = k :: ms := by
 obtain ⟨k, h1, h2⟩ := Option.bind_eq_some_iff.mp h
 obtain ⟨ms, h2, h3⟩ := bR h2
 obtain ⟨kk, kp, h1⟩ := pD h1
 exact ⟨k, kk, kp, ms, h1, h2, h3⟩
theorem jM (env : Env) (pos : Pos) {ks : List (Option Expr)} : ∀ {vs : List Expr} {ns : List Str}, cn ks = some ns → ks.length = vs.length →
  (evalEachOpt ks env).zip ((evalEach vs env).map fun v => do let x ← v; standAt pos; pure x) = (iz env pos ks vs).map fun p => (some p.1, p.2) := by
 induction ks with
 | nil => intro vs _ _ hl; cases vs with
  | nil => rfl
  | cons _ _ => exact nomatch hl
 | cons o ks ih => intro vs ns h hl; cases vs with
  | nil => exact nomatch hl
  | cons v vs =>
   obtain ⟨k, kk, kp, ms, rfl, h, _⟩ := db h
   exact congrArg (List.cons _) (ih h (Nat.succ.inj hl))
theorem lW (env : Env) (pos : Pos) {ks : List (Option Expr)} : ∀ {vs : List Expr} {ms : List Str}, cn ks = some ms → ks.length = vs.length → (iz env pos ks vs).length = ms.length := by
 induction ks with
 | nil => intro vs ms h _; cases h; cases vs <;> rfl
 | cons o ks ih =>
  intro vs ms h hl
  obtain ⟨k, kk, kp, ms, rfl, h', rfl⟩ := db h
  cases vs with
  | nil => exact nomatch hl
  | cons v vs => exact congrArg (· + 1) (ih h' (Nat.succ.inj hl))
end
section
variable (prog : Program) (C : Cx) (R : St → Prop)
noncomputable def eT : List Expr → St → (List V → St → Prop) → Prop
 | [], σ, QL => QL [] σ
 | e :: es, σ, QL => ∃ Q1 : V → St → Prop, WE prog C σ (eval e C.env) Q1 R ∧ ∀ v σ', Q1 v σ' → eT es σ' (fun vs σ'' => QL (v :: vs) σ'')
end
noncomputable def noStar (e : Expr) : Bool := e.ctorIdx != 22
theorem fe {e : Expr} {rest : List Expr} {env : Env} (h : noStar e = true) : starEach (e :: rest) env = (false, eval e env) :: starEach rest env := by
 cases e <;> first | rfl | exact nomatch h
section
variable {prog : Program} {C : Cx} {σ : St} {Q : V → St → Prop} {R : St → Prop} {QL : List V → St → Prop}
theorem cD {pos : Pos} : ∀ {es : List Expr} {σ : St} {QL : List V → St → Prop}, es.all noStar = true → eT prog C R es σ QL → WL prog C σ (spliced (backTo pos (starEach es C.env))) QL R
 | [], _, _, _, h => Fh h
 | e :: es, _, _, hn, ⟨Q1, h1, h2⟩ => by
  simp only [List.all_cons, Bool.and_eq_true] at hn
  exact tW h1 (fun v σ' q => cD hn.2 (h2 v σ' q)) (fe hn.1)
theorem ff (pos : Pos) (env : Env) : ∀ {es : List Expr}, es.all noStar = true → (backTo pos (starEach es env)).any (·.1) = false
 | [], _ => rfl
 | e :: es, hn => by
  simp only [List.all_cons, Bool.and_eq_true] at hn
  rw [fe hn.1]
  show (false || (backTo pos (starEach es env)).any (·.1)) = false
  rw [ff pos env hn.2]; rfl
inductive Fi (prog : Program) (C : Cx) (fz₀ : Fz) (σ₀ : St) (s₀ : Shared) (fz : Fz) (σ : St) (s : Shared) (ns : List Str) (QL : List V → St → Prop) (ps : List (Value × Value)) (s' : Shared) : Prop
 | mk (fz' : Fz) (xs : List V) (σ' : St) (us : List Value) (a : Go C fz₀ σ₀ s₀ fz' σ' s') (b : Go C fz σ s fz' σ' s') (c : bu C.P fz' xs us) (d : Carries (strKind prog C.w) ps (ns.zip us)) (e : us.length = ns.length) (f : QL xs σ')
theorem lX {pos : Pos} {fz₀ : Fz} {σ₀ : St} {s₀ : Shared} (r₀ : bt C fz₀ σ₀ s₀) {ks : List (Option Expr)} : ∀ {vs : List Expr} {ns : List Str} {σ : St} {QL : List V → St → Prop} {fz : Fz} {s : Shared},
  cn ks = some ns → ks.length = vs.length → eT prog C R vs σ QL → Go C fz₀ σ₀ s₀ fz σ s →
  wpAny (Md prog C) C.A (evalPairs (iz C.env pos ks vs)) (Fi prog C fz₀ σ₀ s₀ fz σ s ns QL) (Ex C fz₀ σ₀ s₀ R) s := by
 induction ks with
 | nil => intro vs ns σ QL fz s hk hl h g; cases vs with
  | nil => cases hk; exact evalPairs_nil ⟨fz, [], σ, [], g, Go.refl g.rep, .nil, trivial, rfl, h⟩
  | cons _ _ => exact nomatch hl
 | cons o ks ih => intro vs ns σ QL fz s hk hl h g; cases vs with
  | nil => exact nomatch hl
  | cons v vs =>
   refine gk fun _ kk => ?_
   obtain ⟨Q1, h1, h2⟩ := h
   obtain ⟨k, k2, kp, ms, rfl, hk', rfl⟩ := db hk
   refine kk ?_; clear kk
   refine evalPairs_cons (wpAny_Constant_str ?_)
   have gt : Go C fz σ s fz σ { s with toks := s.toks + 1 } := Go.keeps g.rep fun _ _ e => e
   refine wpAny_bind (wpAny_mono (h1 fz _ gt.rep) (fun u s₁ ⟨fz₁, x, σ₁, g₁, hu, q₁⟩ => wpAny_bind (wpAny_standAt (wpAny_pure ?_))) fun _ _ e => Ex.of_go (g.trans gt) e)
   refine wpAny_mono (ih hk' (Nat.succ.inj hl) (h2 x σ₁ q₁) ((g.trans gt).trans g₁)) (fun ps s₂ ⟨fz₂, xs, σ₂, us, a, b, c, d, e, f⟩ => ?_) fun _ _ e => e
   exact ⟨fz₂, x :: xs, σ₂, u :: us, a, (gt.trans g₁).trans b, .cons (hu.mono b.sub) c, ⟨strKind_is prog C.w k _, rfl, d⟩, congrArg (· + 1) e, f⟩
theorem re {ns : List Str} {us : List Value} (hn : ns.Nodup) (hl : us.length = ns.length) : ((ns.zip us).map (·.1)).Nodup := by
 rw [List.map_fst_zip (by lia)]; exact hn
theorem j5 {keys : List (Option Expr)} {values : List Expr} {ns : List Str} {pos : Pos} (hk : cn keys = some ns) (hl : keys.length = values.length) (hne : ns ≠ []) (hlen : ns.length ≤ 15) (hn : ns.Nodup)
  (h : eT prog C R values σ QL) {fz : Fz} {s : Shared} (r : bt C fz σ s) {K : Value → Shared → Prop}
  (hq : ∀ fz' xs σ' s' a es n, Go C fz σ s fz' σ' s' → s.heap.get? a = none → s'.heap.get? a = some (W.dictOf es n) → Aw fz' σ' a → dB C.P fz' (ns.zip xs) es → xs.length = ns.length → QL xs σ' → K (.ref a) s') :
  wpAny (Md prog C) C.A (eval (.Dict keys values pos) C.env) K (Ex C fz σ s R) s := by
 have hpl := lW C.env pos hk hl
 have fr := aP s.heap
 refine wpAny_Dict_pairs (knd := strKind prog C.w) (jM C.env pos hk hl) (fun q => hne (by rw [q] at hpl; exact List.length_eq_zero_iff.mp hpl.symm)) (by lia) ?_
 have g0 : Go C fz σ s fz σ { s with heap := s.heap.push { cls := .type "dict", data := .dict #[] } } := Go.keeps r fun _ _ e => Heap.get?_push_of_some _ e
 refine wpAny_mono (lX r hk hl h g0) (fun ps s₁ ⟨fz', xs, σ', us, g1, g2, hv, hc, hul, q⟩ => ?_) fun _ _ e => e
 have aw := (Aw.new r fr).step (x := s.heap.objs.size) (s := { s with heap := s.heap.push { cls := .type "dict", data := .dict #[] } }) (az (Heap.get?_push_size _ rfl)) g2
 have hx := Aw.keep r fr (Aw.new (fz := fz) (σ := σ) r fr) (s' := { s with heap := s.heap.push { cls := .type "dict", data := .dict #[] } }) (Heap.get?_push_size _ rfl) g2
 refine ⟨ns.zip us, hc, ⟨_, #[], 0, hx, ⟨rfl, rfl, rfl⟩, rfl, fun _ he => by simp at he, .nil, .nil⟩, fun h' hd hs => ?_⟩
 rw [merged_nil_of_nodup _ (re hn hul)] at hd
 have hxs : xs.length = ns.length := by rw [← hv.length, hul]
 obtain ⟨es, n, he, hr⟩ := dB.of_dictOf (l := ns.zip xs) hd (by rw [List.map_fst_zip (by lia), List.map_fst_zip (by lia)]) (by rw [List.map_snd_zip (by lia), List.map_snd_zip (by lia)]; exact hv)
 have g3 : Go C fz σ s fz' σ' { s₁ with heap := h', toks := s₁.toks + ps.length } := Go.turn r g1 [s.heap.objs.size] (fun x hx => by rw [List.mem_singleton.mp hx]; exact ⟨fr, aw⟩) fun b o hb e => (hs.2 b fun q => hb (List.mem_singleton.mpr q)).trans e
 exact hq _ _ _ _ _ es n g3 fr he aw hr hxs q
theorem tX {keys : List (Option Expr)} {values : List Expr} {ns : List Str} {pos : Pos} (hk : cn keys = some ns) (hl : keys.length = values.length) (hne : ns ≠ []) (hlen : ns.length ≤ 15) (hn : ns.Nodup)
  (h : eT prog C R values σ QL) (hq : ∀ vs σ', QL vs σ' → Q (.dict (ns.zip vs)) σ') : WE prog C σ (eval (.Dict keys values pos) C.env) Q R := fun fz s r =>
 j5 hk hl hne hlen hn h r fun fz' xs σ' s' a es n g fr he aw hr hxs q => ⟨_, .dict (ns.zip xs), σ', Go.adopt r g fr he aw, .dict (.head _) (by rw [List.length_zip]; unfold cap; lia) (hr.mono fun p hp => .tail _ hp), hq _ _ q⟩
theorem rf {keys : List (Option Expr)} {values : List Expr} {ns : List Str} {pos : Pos} (hk : cn keys = some ns) (hl : keys.length = values.length) (hne : ns ≠ []) (hlen : ns.length ≤ 15) (hn : ns.Nodup)
  (h : eT prog C R values σ QL) (hq : ∀ vs σ', QL vs σ' → ∀ a, σ'.mem.lookup a = none → Q (.mut a) ⟨σ'.loc, (a, .dict (ns.zip vs)) :: σ'.mem⟩) : WE prog C σ (eval (.Dict keys values pos) C.env) Q R := fun fz s r =>
 j5 hk hl hne hlen hn h r fun fz' xs σ' s' a es n g fr he aw hr hxs q =>
  ⟨_, .mut a, _, Go.adoptMem (y := .dict (ns.zip xs)) r g fr he aw (.dict (by rw [List.length_zip]; unfold cap; lia) hr) (fun u h => by cases h), .mut a, hq _ _ q a aw.2⟩
theorem rg {pos : Pos} (h : Q (.dict []) σ) : WE prog C σ (eval (.Dict [] [] pos) C.env) Q R := fun fz s r =>
 wpAny_Dict_empty (ai.newAt (Go.refl r) rfl (.dict (n := 0) (es := []) (.head _) (by simp) .nil) h)
theorem pE {pos : Pos} (h : ∀ a, σ.mem.lookup a = none → Q (.mut a) ⟨σ.loc, (a, .idict []) :: σ.mem⟩) : WE prog C σ (eval (.Dict [] [] pos) C.env) Q R := fun fz s r => by
 have hn := aP s.heap
 exact wpAny_Dict_empty ⟨fz, .mut s.heap.objs.size, _, Go.addMem r s.heap.objs.size (.idict []) _ (fun b o e => Heap.get?_push_of_some _ e) hn (Heap.get?_push_size _ rfl) (.idict (es := []) (n := 0) (by simp) .nil), .mut _, h _ (Aw.new r hn).2⟩
end
noncomputable def fS {α : Type} (o : Option α) (k : α → Prop) : Prop := match o with | some a => k a | none => False
theorem bq {α : Type} {o : Option α} {k : α → Prop} (h : fS o k) : ∃ a, o = some a ∧ k a := by
 cases o with
 | none => exact h.elim
 | some a => exact ⟨a, rfl, h⟩
noncomputable def LJ (l : List V) (i : V) (Q : V → Prop) : Prop := j0 i (fun k => ix (decide (0 ≤ k)) (fS l[k.toNat]? Q)) False
noncomputable def Fj (o i : V) (σ : St) (Q : V → Prop) : Prop := Hl o (fun l => LJ l i Q) (qq o (fun l => LJ l i Q) (vI o (fun a => j0 i (fun k => fS (σ.mem.lookup a) fun m => match m with | .list l => ix (decide (0 ≤ k)) (fS l[k.toNat]? Q) | _ => False) False)
 (Hm o (fun l => qp i (fun k => fS (l.lookup k) Q) False) False)))
noncomputable def cJ {α : Type} (l : List α) (lo hi : Option Int) : List α := (l.drop (lo.elim 0 (clipAt l.length))).take (hi.elim l.length (clipAt l.length) - lo.elim 0 (clipAt l.length))
noncomputable def nj (x : Str) (lo hi : Option Int) : Str := match sliceMade x 0 (lo.map (·, 0)) (hi.map (·, 0)) none with
 | .val (.str y _) => y
 | .str y => y
 | _ => x
noncomputable def Hn (o : V) (lo hi : Option Int) (Q : V → Prop) : Prop := qq o (fun l => Q (.list (cJ l lo hi))) (JF o (fun l => Q (.bytes (cJ l lo hi))) (qp o (fun x => (nj x lo hi).length ≤ cap ∧ Q (.str (nj x lo hi))) False))
noncomputable def part : V → Option (Option Int)
 | .none => some none
 | .int i => some (some i)
 | _ => none
section
variable {prog : Program} {C : Cx} {σ : St} {Q : V → St → Prop} {R : St → Prop}
theorem rh {P : Params} {fz : Fz} {l : List V} {vs : List Value} {k : Int} {Q : V → Prop} (hr : bu P fz l vs) (hl : l.length ≤ cap) (h : ix (decide (0 ≤ k)) (fS l[k.toNat]? Q)) {G : Prop} (h1 : ∀ x y, 0 ≤ k → k < 2 ^ 63 → k.toNat < vs.length → vs.toArray[k.toNat]? = some y → RV P fz x y → Q x → G) : G := by
 obtain ⟨h0, h⟩ := aQ h
 obtain ⟨x, e, q⟩ := bq h
 obtain ⟨y, e2, hy⟩ := hr.get e
 obtain ⟨hlt, _⟩ := List.getElem?_eq_some_iff.mp e2
 have h0 := of_decide_eq_true h0
 have hc : vs.length ≤ cap := hr.length ▸ hl
 exact h1 x y h0 (by unfold cap at hc; lia) hlt (by rw [List.getElem?_toArray]; exact e2) hy q
theorem tY {fz : Fz} {s : Shared} (r : bt C fz σ s) {value slice : Expr} (hs : ∀ o i, subscripted slice false o i = operate [o, i] (getItem o i)) {l : List V} {i : V} {a : Addr} {vs : List Value} {n : Nat} {v : Value} (hm : (a, tO vs n) ∈ fz) (hl : l.length ≤ cap) (hr : bu C.P fz l vs) (hv : RV C.P fz i v)
  (h : LJ l i fun v => Q v σ) : wpAny (Md prog C) C.A (subscriptTail value slice (.ref a) v) (ai C fz σ s Q) (Ex C fz σ s R) s :=
 bU (G := fun v => wpAny (Md prog C) C.A (subscriptTail value slice (.ref a) v) (ai C fz σ s Q) (Ex C fz σ s R) s) h hv (fun k t h => rh hr hl h fun x y h0 h3 h4 e2 hy q => by
  refine tail_any (gM r hm).typeIs slot_tuple_getitem.lookup (PyProof.Rows.getItem_tuple (j := k.toNat) (gM r hm) (by lia) h3 ?_ (x := y) e2 (ai.val r hy q)) (hs _ _)
  rw [List.size_toArray]
  unfold seqIndex?
  rw [if_neg (Int.not_lt.mpr h0), if_pos (by simp; lia)]) False.elim
theorem lY {fz : Fz} {s : Shared} (r : bt C fz σ s) {value slice : Expr} (hs : ∀ o i, subscripted slice false o i = operate [o, i] (getItem o i)) {l : List V} {k : Int} {t : Tok} {a : Addr} {vs : List Value} (hm : s.heap.IsList a vs.toArray) (hl : l.length ≤ cap) (hr : bu C.P fz l vs)
  (h : ix (decide (0 ≤ k)) (fS l[k.toNat]? fun v => Q v σ)) : wpAny (Md prog C) C.A (subscriptTail value slice (.ref a) (.int k t)) (ai C fz σ s Q) (Ex C fz σ s R) s :=
 rh hr hl h fun x y h0 h3 h4 e2 hy q => tail_any hm.typeIs slot_list_getitem.lookup (wpAny_getItem_list hm h0 h3 e2 (ai.val r hy q)) (hs _ _)
theorem Fk {o i : V} {value slice : Expr} (hs : ∀ o i, subscripted slice false o i = operate [o, i] (getItem o i)) (h : Fj o i σ fun v => Q v σ) : W2 prog C σ o i (subscriptTail value slice) Q R := fun fz s u v r hu hv =>
 kY (G := fun u => wpAny (Md prog C) C.A (subscriptTail value slice u v) (ai C fz σ s Q) (Ex C fz σ s R) s) h hu (fun l a vs n hm hl hr h => tY r hs hm hl hr hv h) fun h =>
 dU (G := fun u => wpAny (Md prog C) C.A (subscriptTail value slice u v) (ai C fz σ s Q) (Ex C fz σ s R) s) h hu (fun l a vs n hm hl hr h => bU (G := fun v => wpAny (Md prog C) C.A (subscriptTail value slice (.ref a) v) (ai C fz σ s Q) (Ex C fz σ s R) s) h hv (fun k t h => lY r hs (eI r hm) hl hr h) False.elim) fun h =>
 iM (G := fun u => wpAny (Md prog C) C.A (subscriptTail value slice u v) (ai C fz σ s Q) (Ex C fz σ s R) s) h hu (fun a h => bU (G := fun v => wpAny (Md prog C) C.A (subscriptTail value slice (.ref a) v) (ai C fz σ s Q) (Ex C fz σ s R) s) h hv (fun k t h => by
  obtain ⟨m, e, h⟩ := bq h
  obtain ⟨o, m1, m2, _⟩ := r.mem _ _ e
  cases m2 with
  | list hl hr => exact lY r hs ⟨_, m1, rfl, _, rfl⟩ hl hr h
  | _ => exact h.elim) False.elim) fun h =>
 qP (G := fun u => wpAny (Md prog C) C.A (subscriptTail value slice u v) (ai C fz σ s Q) (Ex C fz σ s R) s) h hu (fun l a es n hm hl hr h => dH (G := fun v => wpAny (Md prog C) C.A (subscriptTail value slice (.ref a) v) (ai C fz σ s Q) (Ex C fz σ s R) s) h hv (fun k t _ h => by
  obtain ⟨x, e, q⟩ := bq h
  have mp := hr.map (prog := prog) (w := C.w) (r.fro _ hm).1
  rcases hr.find k with ⟨x', y, e1, e2, hy⟩ | ⟨e1, _⟩
  ·rw [e] at e1; cases e1
   exact tail_any mp.typeIs slot_dict_getitem.lookup (wpAny_getItem_of (strKind_is _ _ _ _) mp e2 (ai.tok r _ hy q)) (hs _ _)
  ·rw [e] at e1; cases e1) False.elim) False.elim
noncomputable def iU (e : Expr) : Bool := e.ctorIdx != 26
theorem iV {e : Expr} (h : iU e = true) (o i : Value) : subscripted e false o i = operate [o, i] (getItem o i) := by
 cases e <;> first | rfl | exact nomatch h
theorem Fl {value slice : Expr} {pos : Pos} {Q1 : V → St → Prop} {Q2 : V → V → St → Prop} (hn : iU slice = true) (ho : WE prog C σ (eval value C.env) Q1 R) (hi : ∀ o σ₁, Q1 o σ₁ → WE prog C σ₁ (eval slice C.env) (Q2 o) R)
  (hg : ∀ o i σ₂, Q2 o i σ₂ → Fj o i σ₂ fun v => Q v σ₂) : WE prog C σ (eval (.Subscript value slice pos) C.env) Q R := fun fz s r =>
 Subscript_ (aX r ho fun fz₁ x σ₁ s₁ v g hv hq => da g (hi x σ₁ hq) fun fz₂ y σ₂ s₂ v₂ g₂ sub hv₂ hq₂ => kX g₂ (Fk (iV hn) (hg x y σ₂ hq₂)) (hv.mono sub) hv₂)
theorem ri {P : Params} {fz : Fz} {v : V} {u : Value} {p : Option Int} (h : RV P fz v u) (e : part v = some p) : ∃ q : Option (Int × Tok), u = partValue q ∧ q.map (·.1) = p := by
 cases h <;> first | (cases e; exact ⟨none, rfl, rfl⟩) | (cases e; exact ⟨some (_, _), rfl, rfl⟩) | cases e
theorem bu.slc {P : Params} {fz : Fz} {l : List V} {vs : List Value} (h : bu P fz l vs) (lo hi : Option Int) : bu P fz (cJ l lo hi) (slicePick vs.toArray lo hi none).toList := by
 rw [slicePick_plain]
 simp only [List.size_toArray, h.length, cJ]
 exact (h.drop _).take _
theorem ot {α : Type} (l : List α) (lo hi : Option Int) : (cJ l lo hi).length ≤ l.length := by
 unfold cJ; rw [List.length_take, List.length_drop]; exact Nat.le_trans (Nat.min_le_right _ _) (Nat.sub_le _ _)
theorem jN (x : Str) (t : Tok) (l u : Option (Int × Tok)) : sliceMade x t l u none = .val (.str x t) ∧ nj x (l.map (·.1)) (u.map (·.1)) = x ∨ sliceMade x t l u none = .str (nj x (l.map (·.1)) (u.map (·.1))) := by
 have e : slicePicked x ((l.map (·.1)).map (·, 0)) ((u.map (·.1)).map (·, 0)) none = slicePicked x l u none := by
  unfold slicePicked; simp [Option.map_map, Function.comp_def]
 unfold nj sliceMade
 rw [e]
 by_cases h : (((Option.map (·.1) (none : Option (Int × Tok))).getD 1 == 1 && (slicePicked x l u none).length == x.length) = true)
 ·rw [if_pos h, if_pos h]; exact .inl ⟨rfl, rfl⟩
 ·rw [if_neg h, if_neg h]; exact .inr rfl
theorem tZ {o : V} {lo hi : Option Int} {value slice : Expr} {fz : Fz} {s : Shared} {u vl vu : Value} (r : bt C fz σ s) (hu : RV C.P fz o u) {pl pu : Option (Int × Tok)} (el : vl = partValue pl) (eu : vu = partValue pu) (hl : pl.map (·.1) = lo) (hh : pu.map (·.1) = hi)
  (hs : ∀ o i, ∃ ops, subscripted slice false o i = operate ops (getItem o i)) (h : Hn o lo hi fun v => Q v σ) :
  wpAny (Md prog C) C.A (subscriptTail value slice u (.ref s.heap.objs.size)) (ai C fz σ s Q) (Ex C fz σ s R) { s with heap := s.heap.push { cls := .type "slice", data := .fields #[vl, vu, .none] } } := by
 have isl : ∀ {p : Option (Int × Tok)}, IsPart (partValue p) (p.map (·.1)) := fun {p} => by cases p with | none => exact .none | some q => exact .int _ _
 have g : Go C fz σ s fz σ { s with heap := s.heap.push { cls := .type "slice", data := .fields #[vl, vu, .none] } } := Go.keeps r fun _ _ e => Heap.get?_push_of_some _ e
 have so : ({ s with heap := s.heap.push { cls := .type "slice", data := .fields #[vl, vu, .none] } } : Shared).heap.IsSliceOf s.heap.objs.size vl vu .none := Heap.IsSliceOf.new ..
 refine dU (G := fun u => wpAny (Md prog C) C.A (subscriptTail value slice u (.ref s.heap.objs.size)) (ai C fz σ s Q) (Ex C fz σ s R) { s with heap := s.heap.push { cls := .type "slice", data := .fields #[vl, vu, .none] } }) h hu (fun l a vs n hm hc hr h => ?_) fun h =>
  ni (G := fun u => wpAny (Md prog C) C.A (subscriptTail value slice u (.ref s.heap.objs.size)) (ai C fz σ s Q) (Ex C fz σ s R) { s with heap := s.heap.push { cls := .type "slice", data := .fields #[vl, vu, .none] } }) h hu (fun l t hc h => ?_) fun h =>
  dH (G := fun u => wpAny (Md prog C) C.A (subscriptTail value slice u (.ref s.heap.objs.size)) (ai C fz σ s Q) (Ex C fz σ s R) { s with heap := s.heap.push { cls := .type "slice", data := .fields #[vl, vu, .none] } }) h hu (fun x t hc h => ?_) False.elim
 ·have il := (eI g.rep hm)
  obtain ⟨ops, hs⟩ := hs (.ref a) (.ref s.heap.objs.size)
  refine tail_any il.typeIs slot_list_getitem.lookup (wpAny_getItem_list_slice (lo := lo) (hi := hi) (st := none) il so (by rw [el, ← hl]; exact isl) (by rw [eu, ← hh]; exact isl) .none (fun e => nomatch e) ?_ (by rw [List.size_toArray, hr.length]; exact bX hc)) hs
  exact ai.newAt (x := .list _) g rfl (.list (vs := (slicePick _ lo hi none).toList) (n := 0) (.head _) (Nat.le_trans (ot _ _ _) hc) ((hr.slc lo hi).mono fun p hp => .tail _ hp)) h
 ·obtain ⟨ops, hs⟩ := hs (.bytes l.toArray t) (.ref s.heap.objs.size)
  refine tail_any (typeIs_bytes _ _ _) FB.slot_bytes_getitem.lookup (getItem_meets (typeIs_bytes _ _ _) (by decide) FB.slot_bytes_getitem FB.entry_bytes_getitem (FB.args_bytes_getitem_2 _ _) (KBc.meets_slice2 (lo := lo) (hi := hi) _ t _ (by rw [el, ← hl]; exact isl) (by rw [eu, ← hh]; exact isl))
   ⟨so, Nat.le_trans (KBc.size_picked_le _ lo hi) (by rw [List.size_toArray]; exact bX hc), fun t' k => ?_⟩) hs
  have e : KBy.picked _ lo hi = (cJ l lo hi).toArray := KBc.picked_eq l.toArray lo hi
  rw [e]
  exact ai.of_go g (ai.tok g.rep k (.bytes _ _ (Nat.le_trans (ot _ _ _) hc)) h)
 ·obtain ⟨ops, hs⟩ := hs (.str x t) (.ref s.heap.objs.size)
  refine tail_any (typeIs_str _ x t) F.slot_str_getitem.lookup (wpAny_getItem_str_slice (l := pl) (u := pu) (st := none) ⟨_, Heap.get?_push_size _ rfl, rfl, by rw [el, eu]; rfl⟩ rfl ?_) hs
  subst hl hh
  rcases jN x t pl pu with ⟨e1, e2⟩ | e1
  ·rw [e1]
   rw [e2] at h
   exact ai.of_go g (ai.val g.rep (.str x t hc) h.2)
  ·rw [e1]
   exact ⟨bX h.1, ai.of_go g (ai.tok g.rep _ (.str _ _ h.1) h.2)⟩
theorem pF (lo hi : Option Expr) (p : Pos) (o i : Value) : ∃ ops, subscripted (.Slice lo hi none p) false o i = operate ops (getItem o i) := ⟨_, rfl⟩
noncomputable def ou (prog : Program) (C : Cx) (R : St → Prop) : Option Expr → St → (Option Int → St → Prop) → Prop
 | none, σ, Q => Q none σ
 | some e, σ, Q => WE prog C σ (eval e C.env) (fun v σ' => fS (part v) fun p => Q p σ') R
theorem rj {x : Option Expr} {QP : Option Int → St → Prop} {fz₀ fz : Fz} {σ₀ : St} {s₀ s : Shared} {K : Value → Shared → Prop} (g : Go C fz₀ σ₀ s₀ fz σ s) (h : ou prog C R x σ QP)
  (k : ∀ fz' σ' s' u p, Go C fz₀ σ₀ s₀ fz' σ' s' → Go C fz σ s fz' σ' s' → (∃ q : Option (Int × Tok), u = partValue q ∧ q.map (·.1) = p) → QP p σ' → K u s') :
  wpAny (Md prog C) C.A (evalPart x C.env) K (Ex C fz₀ σ₀ s₀ R) s := by
 cases x with
 | none => rw [evalPart_none]; exact wpAny_pure (k _ _ _ _ none g (Go.refl g.rep) ⟨none, rfl, rfl⟩ h)
 | some e =>
  rw [evalPart_some]
  refine wpAny_mono (h fz s g.rep) (fun u s' ⟨fz', x, σ', g', hv, hq⟩ => ?_) fun _ _ e => Ex.of_go g e
  obtain ⟨p, e1, e2⟩ := bq hq
  exact k _ _ _ _ p (g.trans g') g' (ri hv e1) e2
theorem Fm {value : Expr} {lo hi : Option Expr} {p pos : Pos} {Q1 : V → St → Prop} {Q2 : V → Option Int → St → Prop} {Q3 : V → Option Int → Option Int → St → Prop} (ho : WE prog C σ (eval value C.env) Q1 R)
  (hl : ∀ o σ₁, Q1 o σ₁ → ou prog C R lo σ₁ (Q2 o)) (hh : ∀ o a σ₂, Q2 o a σ₂ → ou prog C R hi σ₂ (Q3 o a)) (hg : ∀ o a b σ₃, Q3 o a b σ₃ → Hn o a b fun v => Q v σ₃) :
  WE prog C σ (eval (.Subscript value (.Slice lo hi none p) pos) C.env) Q R := fun fz s r =>
 Subscript_ (aX r ho fun fz₁ x σ₁ s₁ v g hv hq => wpAny_Slice (rj g (hl x σ₁ hq) fun fz₂ σ₂ s₂ u a g₂ g₂' ⟨pa, ea1, ea2⟩ q₂ => rj g₂ (hh x a σ₂ q₂) fun fz₃ σ₃ s₃ u₂ b g₃ g₃' ⟨pb, eb1, eb2⟩ q₃ => by
  rw [evalPart_none]
  refine wpAny_pure ?_
  have := tZ (prog := prog) (Q := Q) (R := R) (value := value) g₃.rep (hv.mono fun p h => g₃'.sub p (g₂'.sub p h)) ea1 eb1 ea2 eb2 (pF lo hi p) (hg x a b σ₃ q₃)
  exact wpAny_mono this (fun _ _ p => p.of_go g₃) fun _ _ e => Ex.of_go g₃ e))
end
noncomputable def vN : List (Addr × List Str) := [(155, [aD, aa]), (251, [cg]), (273, [aF]), (294, [ba, aF]), (322, [af, aZ]), (438, [aN]),
 (467, [aq, an, aJ, aN, bJ, be, aL]), (523, [ar, aY, bw])]
noncomputable def ow (c : Addr) (n : Str) : Bool := (vN.lookup c).any (·.contains n)
noncomputable def vO : List (Addr × List (Str × Addr)) := [(155, [(og, 89), (oh, 96), (eE, 110), (n9, 124), (fD, 131), (fX, 138)]), (438, [(bW, 374), (n_get, 381), (qB, 409)]), (523, [(bW, 513), (kT, 520)])]
noncomputable def iW (c : Addr) (n : Str) : Option Addr := (vO.lookup c).bind (·.lookup n)
noncomputable def oy (K : Frag) (c : Addr) (n : Str) : Bool := plainGet K c n && hasDictIn K c && (match findIn K (.ref c) n with | some a => noGet K a | none => false)
noncomputable def oz (K : Frag) (c : Addr) (n : Str) (f : Addr) : Bool := plainGet K c n && (findIn K (.ref c) n == some (some (.ref f))) && isFn K (.ref f) && keepIn K (.ref f)
theorem pG (P : Params) : (vN.all fun p => p.2.all fun n => oy (HB.KF P) p.1 n) = true := by kernel_rfl
theorem pH (P : Params) : (vO.all fun p => p.2.all fun q => oz (HB.KF P) p.1 q.1 q.2) = true := by kernel_rfl
theorem bV {α β : Type} [BEq α] [LawfulBEq α] {a : α} {b : β} : ∀ {l : List (α × β)}, l.lookup a = some b → (a, b) ∈ l
 | (c, d) :: l, h => by
  rw [List.lookup_cons] at h
  cases q : (a == c) with
  | true => rw [q] at h; cases h; rw [eq_of_beq q]; exact .head _
  | false => rw [q] at h; exact .tail _ (bV h)
theorem ua {c : Addr} {n : Str} (h : ow c n = true) (P : Params) : oy (HB.KF P) c n = true := by
 obtain ⟨l, h1, h2⟩ := any_some h
 exact List.all_eq_true.mp (List.all_eq_true.mp (pG P) _ (bV h1)) n (by simpa using h2)
theorem ub {c f : Addr} {n : Str} (h : iW c n = some f) (P : Params) : oz (HB.KF P) c n f = true := by
 obtain ⟨l, h1, h2⟩ := Option.bind_eq_some_iff.mp h
 exact List.all_eq_true.mp (List.all_eq_true.mp (pH P) _ (bV h1)) _ (bV h2)
theorem pI {P : Params} (k k' : Str) (t : Tok) (v : Value) (es : List DictEntry) : W.getL k (⟨PyData.keyHash P k', .str k' t, v⟩ :: es) = bif k' == k then some (some v) else W.getL k es := by
 have hk : (⟨PyData.keyHash P k', .str k' t, v⟩ : DictEntry).key.isStr k = (k' == k) := rfl
 unfold W.getL
 rw [List.find?_cons, List.any_cons, hk, show (⟨PyData.keyHash P k', .str k' t, v⟩ : DictEntry).refKey = false from rfl, Bool.false_or]
 cases (k' == k) <;> rfl
theorem dB.getL {P : Params} {fz : Fz} {l : List (Str × V)} {es : List DictEntry} (k : Str) (h : dB P fz l es) : (∃ x v, l.lookup k = some x ∧ W.getL k es = some (some v) ∧ RV P fz x v) ∨ (l.lookup k = none ∧ W.getL k es = some none) :=
 dB.ind (G := fun l es => (∃ x v, l.lookup k = some x ∧ W.getL k es = some (some v) ∧ RV P fz x v) ∨ (l.lookup k = none ∧ W.getL k es = some none)) (.inr ⟨rfl, rfl⟩) (fun {k' x v t l es} h _ ih => by
  rw [pI, f7]
  cases k' == k with
  | true => exact .inl ⟨x, v, rfl, rfl, h⟩
  | false => exact ih) h
noncomputable def oA : V → Bool
 | .bi _ => false
 | _ => true
noncomputable def rk (o : V) (name : Str) (σ : St) (Q : V → Prop) : Prop := JG o (fun c l => ix (ow c name) (fS (l.lookup name) Q))
 (LE o (fun x d c => ix (ow c name) (fS (σ.mem.lookup d) fun m => match m with | .dict l => fS (l.lookup name) Q | _ => False)) False)
section
variable {prog : Program} {C : Cx} {σ : St} {Q : V → St → Prop} {R : St → Prop}
theorem LK {P : Params} {fz : Fz} {x : V} {v : Value} (h : RV P fz x v) (hb : ∀ n, x ≠ .bi n) : handedIn v = true := by
 cases h <;> first | rfl | exact absurd rfl (hb _)
theorem lZ (O : Ok C) {fz : Fz} {s : Shared} (r : bt C fz σ s) {x d c : Addr} {l : List (Str × V)} {es : List DictEntry} {n : Nat} {name : Str} (hx : s.heap.get? x = some (instObj c d)) (hd : s.heap.get? d = some (dictOf es n)) (hr : dB C.P fz l es)
  (hb : ow c name = true) (h : fS (l.lookup name) fun v => ix (oA v) (Q v σ)) : wpAny (Md prog C) C.A (getAttr (.ref x) name true) (ai C fz σ s Q) (Ex C fz σ s R) s := by
 obtain ⟨y, hy, h⟩ := bq h
 obtain ⟨hnb, h⟩ := aQ h
 obtain ⟨c12, c3⟩ := Bool.and_eq_true_iff.mp (ua hb C.P)
 obtain ⟨c1, c2⟩ := Bool.and_eq_true_iff.mp c12
 cases ha : findIn (HB.KF C.P) (.ref c) name with
 | none => rw [ha] at c3; cases c3
 | some a =>
  rw [ha] at c3
  rcases hr.getL name with ⟨y', v, e1, e2, e3⟩ | ⟨e1, _⟩
  ·rw [hy] at e1; cases e1
   have I : InstAt s.heap x (instObj c d) c (some (dictOf es n)) := ⟨hx, rfl, rfl, hd⟩
   exact get_value (O.K.keeps r.base) I (plainGet_of c1).1 (findObj_own c2 ha c3 e2) (LK e3 fun n z => by subst z; cases hnb) (ai.tok r _ e3 h)
  ·rw [hy] at e1; cases e1
theorem uc (O : Ok C) {o : V} {name : Str} (h : rk o name σ fun v => ix (oA v) (Q v σ)) : W1 prog C σ o (fun u => getAttr u name true) Q R := fun fz s u r hu =>
 Ff (G := fun u => wpAny (Md prog C) C.A (getAttr u name true) (ai C fz σ s Q) (Ex C fz σ s R) s) h hu (fun c l x d es n hx hm hv h => lZ O r (r.fro _ hx).1 (r.fro _ hm).1 hv (aQ h).1 (aQ h).2) fun h =>
 qO (G := fun u => wpAny (Md prog C) C.A (getAttr u name true) (ai C fz σ s Q) (Ex C fz σ s R) s) h hu (fun x d c hx h => by
  obtain ⟨h1, h2⟩ := aQ h
  obtain ⟨m, e, h2⟩ := bq h2
  obtain ⟨o, m1, m2, _⟩ := r.mem _ _ e
  cases m2 with
  | dict hl hr => exact lZ O r (r.fro _ hx).1 m1 hr h1 h2
  | _ => exact h2.elim) False.elim
noncomputable def cq (o : Expr) : Bool := iR o (fun f as ks _ => dm f (fun id => id != "super" || !as.isEmpty || !ks.isEmpty) true) true
theorem ey {o : Expr} (h : cq o = true) (attr : Str) (env : Env) (t : Sem Value) : attributeBase o attr env t = t := by
 cases o with
 | Call f as ks p => cases f with
  | Name id p1 => cases as with
   | cons _ _ => rfl
   | nil => cases ks with
    | cons _ _ => rfl
    | nil =>
     have e : (id != ("super" : Str)) = true := (Bool.or_false _).symm.trans ((Bool.or_false _).symm.trans h)
     show (if _ then _ else _) = _
     rw [if_pos (by rw [e]; rfl)]
  | _ => rfl
 | _ => rfl
theorem ud (O : Ok C) {value : Expr} {attr : Str} {pos : Pos} {Q1 : V → St → Prop} (hs : cq value = true) (ho : WE prog C σ (eval value C.env) Q1 R) (hg : ∀ o σ₁, Q1 o σ₁ → rk o attr σ₁ fun v => ix (oA v) (Q v σ₁)) :
  WE prog C σ (eval (.Attribute value attr pos) C.env) Q R := fun fz s r =>
 Attribute_any_ (aX r ho fun fz₁ x σ₁ s₁ v g hv hq => tR g (uc O (hg x σ₁ hq)) hv) (by rw [arm_eval_Attribute, ey hs])
noncomputable def k9 (prog : Program) (f : V) : Prop := ∀ (C : Cx) (fz : Fz) (σ : St) (s : Shared) (u : Value), Ok C → bt C fz σ s → RV C.P fz f u → ∃ k, (k = Keeper.frame ∨ k = Keeper.machine ∨ k = Keeper.boundFrame) ∧ Looks (Md prog C) s.heap (keeperOf u) k
theorem la {prog : Program} {a : Addr} (h : ∀ P, keepIn (HB.KF P) (.ref a) = true) : k9 prog (.ref a) := fun C fz σ s u O r hu => by
 cases hu
 exact keeps_K (h C.P) s.heap (O.K.keeps r.base)
theorem rl {prog : Program} {n : Ty} : k9 prog (.typ n) := fun C fz σ s u O r hu => by
 cases hu
 exact ⟨.machine, .inr (.inl rfl), Looks.of_pure rfl⟩
theorem ug {prog : Program} {n : Bi} : k9 prog (.bi n) := fun C fz σ s u O r hu => by
 cases hu
 exact ⟨.machine, .inr (.inl rfl), Looks.of_pure rfl⟩
theorem rm {prog : Program} {i : Nat} {l : List (Str × V)} : k9 prog (.lam i l) := fun C fz σ s u O r hu => by
 cases hu with | lam hm hc hd h1 hv =>
 exact ⟨.frame, .inl rfl, (Looks.ld (part := none) (r.fro _ hm).1).andThen .now⟩
theorem j6 {M : Model} {A : Around} {E : Value → Shared → Prop} {s : Shared} {env : Env} {f : Value} {first : List Value} {pos : Pos} {es : List Expr} {K : Value → Shared → Prop} (P : Heap → Prop)
  (hk : ∀ h, P h → ∃ k, (k = Keeper.frame ∨ k = Keeper.machine ∨ k = Keeper.boundFrame) ∧ Looks M h (keeperOf f) k) (hn : es.all noStar = true)
  (h : wpAny M A (spliced (backTo pos (starEach es env))) (fun vs s₁ => P s₁.heap ∧ wpAny M A (call f (first ++ vs)) K E s₁) E s) : wpAny M A (callWith pos f first (backTo pos (starEach es env)) []) K E s := by
 have hp : ((backTo pos (starEach es env)).any (·.1) || ([] : List (Option Str × Sem Value)).any (·.1.isNone)) = false := by rw [ff pos env hn]; rfl
 refine callWith_of (P := P) hp hk ?_
 cases es with
 | nil =>
  unfold evalArgs
  show wpAny M A (spliced [] >>= _) _ E s
  refine wpAny_bind (wpAny_mono h (fun vs s' h' => ?_) fun _ _ x => x)
  refine wpAny_holding ?_
  exact wpAny_bind (wpAny_pure (wpAny_bind (wpAny_pure (wpAny_pure h'))))
 | cons e es =>
  simp only [List.all_cons, Bool.and_eq_true] at hn
  rw [fe hn.1] at h ⊢
  exact evalArgs_plain h
end
noncomputable def N4 : V → Option Int
 | .int i => some i
 | _ => none
noncomputable def fg : List V → Option (List Int)
 | [] => some []
 | x :: r => (N4 x).bind fun i => (fg r).map (i :: ·)
theorem uh {x : V} {y : Int} (h : N4 x = some y) : x = .int y := by
 cases x with
 | int z => rw [Option.some.inj h]
 | _ => exact aO h
theorem oB {P : Params} {fz : Fz} {l : List V} {vs : List Value} (h : bu P fz l vs) : ∀ {ns : List Int}, fg l = some ns → IntsAre vs ns :=
 bu.ind (G := fun l vs => ∀ {ns : List Int}, fg l = some ns → IntsAre vs ns) (fun e => by cases e; exact .nil) (fun h _ g _ e => by
  obtain ⟨y, e1, e2⟩ := Option.bind_eq_some_iff.mp e
  obtain ⟨zs, e3, rfl⟩ := bR e2
  rw [uh e1] at h
  cases h
  exact .cons _ _ (g e3)) h
noncomputable def j7 : List Nat := [1, 2, 3, 4, 5, 6, 7, 8, 155, 251, 273, 294, 322, 467]
noncomputable def hO : List Nat := [2, 3, 5, 6, 155, 251, 273, 294, 322]
noncomputable def tyVal (n : Nat) : Value := match n with
 | 1 => .type "NoneType" | 2 => .type "bool" | 3 => .type "int" | 4 => .type "str" | 5 => .type "list" | 6 => .type "dict" | 7 => .type "tuple" | 8 => .type "bytes" | n => .ref n
noncomputable def iX (t c : Nat) : Bool := t == c || (t == 2 && c == 3)
theorem uj (P : Params) : (j7.all fun t => hO.all fun c => kitOne (HB.KF P) (tyVal t) (tyVal c) == some (iX t c)) = true := by kernel_rfl
theorem Fo (P : Params) : (j7.all fun D => decide (D ≤ 150) || ((plainGet (HB.KF P) D "__class__" && (hasDictIn (HB.KF P) D && (findIn (HB.KF P) (.ref D) "__class__" == some (some (.builtin "object.__class__")) &&
  (specialIn (HB.KF P) (.builtin "object.__class__") "__get__" == some (some (.builtin "getset_descriptor.__get__")) && (takesIn (HB.KF P) (.builtin "object.__class__") == some true && mroIn (HB.KF P) D (.type "object") == some true))))) && tyVal D == .ref D)) = true := by kernel_rfl
theorem Fp : (hO.all fun c => decide (c ≤ 150) || tyVal c == .ref c) = true := by kernel_rfl
noncomputable def m7 : V → Nat
 | .none => 1 | .bool _ => 2 | .int _ => 3 | .str _ => 4 | .list _ => 5 | .dict _ => 6 | .tup _ => 7 | .bytes _ => 8 | .inst c _ => if 150 < c then c else 0 | _ => 0
noncomputable def pJ : V → Nat
 | .ref a => if 150 < a then a else 0 | .typ .bool => 2 | .typ .int => 3 | .typ .list => 5 | .typ .dict => 6 | _ => 0
noncomputable def vP (x c : V) (Q : Bool → Prop) : Prop := ix (j7.contains (m7 x)) (match c with
 | .tup l => ix (l.all fun c => hO.contains (pJ c)) (Q (l.any fun c => iX (m7 x) (pJ c)))
 | c => ix (hO.contains (pJ c)) (Q (iX (m7 x) (pJ c))))
section
variable {prog : Program} {C : Cx} {σ : St}
theorem LM (O : Ok C) {fz : Fz} {s : Shared} (r : bt C fz σ s) {x : V} {u : Value} (h : RV C.P fz x u) (ht : j7.contains (m7 x) = true) : ∃ H : Heap → Prop, KitX (HB.KF C.P) u (tyVal (m7 x)) H ∧ H s.heap ∧ u ≠ .builtin "__main__.__loader__#opaque" := by
 cases h with
 | none => exact ⟨_, kitx_none, trivial, fun e => nomatch e⟩
 | bool b => exact ⟨_, kitx_bool, trivial, fun e => nomatch e⟩
 | int i t => exact ⟨_, kitx_int, trivial, fun e => nomatch e⟩
 | str s t hl => exact ⟨_, kitx_str, trivial, fun e => nomatch e⟩
 | bytes l t hl => exact ⟨_, kitx_bytes, trivial, fun e => nomatch e⟩
 | tup hm hl hv => exact ⟨_, kitx_tuple, ⟨_, (r.fro _ hm).1, rfl⟩, fun e => nomatch e⟩
 | list hm hl hv => exact ⟨_, kitx_list, ⟨_, (r.fro _ hm).1, rfl⟩, fun e => nomatch e⟩
 | dict hm hl hv => exact ⟨_, kitx_dict, ⟨_, (r.fro _ hm).1, rfl⟩, fun e => nomatch e⟩
 | @inst c l x d es n hx hm hv =>
  by_cases hb : 150 < c
  ·have e : m7 (.inst c l) = c := if_pos hb
   rw [e] at ht ⊢
   obtain ⟨ck, e2⟩ := Bool.and_eq_true_iff.mp ((Bool.or_eq_true_iff.mp (List.all_eq_true.mp (Fo C.P) c (List.contains_iff_mem.mp ht))).resolve_left fun q => absurd (of_decide_eq_true q) (Nat.not_le.mpr hb))
   obtain ⟨c1, ck⟩ := Bool.and_eq_true_iff.mp ck
   obtain ⟨c2, ck⟩ := Bool.and_eq_true_iff.mp ck
   obtain ⟨c3, ck⟩ := Bool.and_eq_true_iff.mp ck
   obtain ⟨c4, ck⟩ := Bool.and_eq_true_iff.mp ck
   obtain ⟨c5, c6⟩ := Bool.and_eq_true_iff.mp ck
   rw [eq_of_beq e2]
   exact ⟨_, kitx_own (ox := instObj c d) (od := dictOf es n) c1 c2 (eq_of_beq c3) (eq_of_beq c4) (eq_of_beq c5) (eq_of_beq c6), ⟨(r.fro _ hx).1, rfl, rfl, (r.fro _ hm).1⟩, fun e => nomatch e⟩
  ·have e : m7 (.inst c l) = 0 := if_neg hb
   rw [e] at ht
   exact absurd ht Bool.false_ne_true
 | _ => exact absurd ht Bool.false_ne_true
theorem oC {K : Frag} {t : Nat} : ∀ {cs : List Nat}, (∀ c ∈ cs, kitOne K (tyVal t) (tyVal c) = some (iX t c)) → kitAny K (tyVal t) (cs.map tyVal) = some (cs.any (iX t))
 | [], _ => rfl
 | c :: cs, h => by
  rw [List.map_cons]
  unfold kitAny
  rw [h c (.head _), List.any_cons]
  cases iX t c
  ·rw [Bool.false_or]; exact oC fun c hc => h c (.tail _ hc)
  ·rfl
theorem rn {P : Params} {fz : Fz} {c : V} {u : Value} (h : RV P fz c u) (hc : hO.contains (pJ c) = true) : u = tyVal (pJ c) := by
 cases h with
 | ref a =>
  by_cases hb : 150 < a
  ·have e : pJ (.ref a) = a := if_pos hb
   rw [e] at hc ⊢
   exact (eq_of_beq ((Bool.or_eq_true_iff.mp (List.all_eq_true.mp Fp a (List.contains_iff_mem.mp hc))).resolve_left fun q => absurd (of_decide_eq_true q) (Nat.not_le.mpr hb))).symm
  ·have e : pJ (.ref a) = 0 := if_neg hb
   rw [e] at hc
   exact absurd hc Bool.false_ne_true
 | typ n => cases n <;> first | rfl | exact absurd hc Bool.false_ne_true
 | _ => exact absurd hc Bool.false_ne_true
theorem LN {P : Params} {fz : Fz} {l : List V} {vs : List Value} (h : bu P fz l vs) : (l.all fun c => hO.contains (pJ c)) = true → vs = (l.map pJ).map tyVal :=
 bu.ind (G := fun l vs => (l.all fun c => hO.contains (pJ c)) = true → vs = (l.map pJ).map tyVal) (fun _ => rfl) (fun h _ g hc => by
  obtain ⟨h1, h2⟩ := Bool.and_eq_true_iff.mp hc
  rw [List.map_cons, List.map_cons, rn h h1, g h2]) h
theorem lb (O : Ok C) {fz : Fz} {s : Shared} (r : bt C fz σ s) {x c : V} {u v : Value} (hx : RV C.P fz x u) (hc : RV C.P fz c v) {K : Value → Shared → Prop} {E : Value → Shared → Prop}
  (h : vP x c fun b => ∀ tk, K (.bool b) { s with toks := tk }) : wpAny (Md prog C) C.A (call (.builtin "isinstance") [u, v]) K E s := by
 unfold vP at h
 obtain ⟨h0, h2⟩ := aQ h
 clear h
 obtain ⟨H, Z, p, hne⟩ := LM O r hx h0
 have X : (HB.KF C.P).In s.heap := O.K.keeps r.base
 have one : ∀ c ∈ hO, kitOne (HB.KF C.P) (tyVal (m7 x)) (tyVal c) = some (iX (m7 x) c) := fun c hc => by
  have := List.all_eq_true.mp (List.all_eq_true.mp (uj C.P) (m7 x) (by simpa using h0)) c hc
  simpa using this
 split at h2
 ·rename_i l
  obtain ⟨h1, h3⟩ := aQ h2
  cases hc with
  | @tup l a vs n hm hl hv =>
   have e := LN hv h1
   refine kia_tup Z X p (r.fro _ hm).1 (b := l.any fun c => iX (m7 x) (pJ c)) ?_ hne h3
   rw [e, oC fun c hc => one c ?_, List.any_map]
   ·rfl
   ·obtain ⟨c', hc', rfl⟩ := List.mem_map.mp hc
    simpa using List.all_eq_true.mp h1 c' hc'
 ·obtain ⟨h1, h3⟩ := aQ h2
  have e := rn hc h1
  subst e
  exact kia_one Z X p (one _ (by simpa using h1)) hne h3
end
noncomputable def cZ (i : Int) : Int := if i < 0 then -i else i
noncomputable def bM (a b : Int) : Int := if b > a then b else a
noncomputable def jO (a b : Int) : Int := if b < a then b else a
noncomputable def Fq (x : V) (σ : St) (k : List V → Prop) : Prop := vI x (fun a => fS (σ.mem.lookup a) fun m => match m with | .list l => k l | _ => False) False
noncomputable def Ho (x : V) (σ : St) (Q : Int → Prop) : Prop := qq x (fun l => Q l.length) (Hl x (fun l => Q l.length) (JF x (fun l => Q l.length) (qp x (fun l => Q l.length) (Fq x σ fun l => Q l.length))))
noncomputable def ro {α : Type} (l : List α) (k : α → α → Prop) : Prop := match l with | [x, y] => k x y | _ => False
noncomputable def N5 (n : Bi) (as : List V) (σ : St) (Q : V → Prop) : Prop := match n with
 | .len => fZ as fun x => Ho x σ fun n => Q (.int n)
 | .abs => fZ as fun x => j0 x (fun i => Q (.int (cZ i))) False
 | .max => ro as fun x y => iN x y fun a b => Q (.int (bM a b))
 | .min => ro as fun x y => iN x y fun a b => Q (.int (jO a b))
 | .sum => fZ as fun x => qq x (fun l => fS (fg l) fun ns => Q (.int ns.sum)) False
 | .isinst => ro as fun x c => vP x c fun b => Q (.bool b)
noncomputable def N6 (n : Ty) (as : List V) (σ : St) (Q : V → Prop) : Prop := match n with
 | .int => fZ as fun x => j0 x (fun i => Q (.int i)) False
 | .str => fZ as fun x => j0 x (fun i => i.natAbs < 1000 ∧ Q (.str (Str.ofString (toString i)))) False
 | .tuple => fZ as fun x => qq x (fun l => Q (.tup l)) (Fq x σ fun l => Q (.tup l))
 | .list => fZ as fun x => qq x (fun l => Q (.list l)) False
 | .bytes => fZ as fun x => qq x (fun l => fS (fg l) fun ns => (∀ n ∈ ns, 0 ≤ n ∧ n < 256) ∧ Q (.bytes (ns.map fun n => n.toNat.toUInt8))) (JF x (fun l => Q (.bytes l)) False)
 | .range => fZ as fun x => j0 x (fun n => Q (.rng 0 n)) False
 | _ => False
theorem gA {P : Params} {fz : Fz} {l : List V} {vs : List Value} {k : V → V → Prop} {G : List Value → Prop} (h : ro l k) (hu : bu P fz l vs) (h1 : ∀ x v y w, RV P fz x v → RV P fz y w → k x y → G [v, w]) : G vs := by
 cases hu with
 | nil => exact h.elim
 | cons hx hr => cases hr with
  | nil => exact h.elim
  | cons hy hr => cases hr with
   | nil => exact h1 _ _ _ _ hx hy h
   | cons _ _ => exact False.elim h
theorem de {P : Params} {fz : Fz} {l : List V} {vs : List Value} {k : V → Prop} {G : List Value → Prop} (h : fZ l k) (hu : bu P fz l vs) (h1 : ∀ x v, RV P fz x v → k x → G [v]) : G vs := ol (G := fun _ => G) h hu h1
theorem oD {C : Cx} {fz : Fz} {σ : St} {s : Shared} (r : bt C fz σ s) {x : V} {u : Value} {k : List V → Prop} {G : Value → Prop} (h : Fq x σ k) (hu : RV C.P fz x u) (h1 : ∀ l a vs, s.heap.IsList a vs.toArray → l.length ≤ cap → bu C.P fz l vs → k l → G (.ref a)) : G u :=
 iM h hu (fun a h => by
  refine gk fun _ kk => ?_
  obtain ⟨m, e, h⟩ := bq h
  obtain ⟨o, m1, m2, _⟩ := r.mem _ _ e
  refine kk ?_; clear kk
  cases m2 with
  | list hl hv => exact h1 _ _ _ ⟨_, m1, rfl, _, rfl⟩ hl hv h
  | _ => exact h.elim) False.elim
theorem iY : typeLookup (.type "bytes") "__bytes__" = pure (some (.builtin "bytes.__bytes__")) := by rw [typeLookup_type, builtinLookup_eq_fast]; kernel_rfl
section
variable {prog : Program} {C : Cx} {σ : St} {Q : V → St → Prop} {R : St → Prop}
theorem iZ {A : Around} {E : Value → Shared → Prop} {s : Shared} {w : World} {b : Array UInt8} {t : Tok} {K : Value → Shared → Prop} (h : K (.bytes b t) s) :
  codeAny (model prog w) A (.call (.builtin "bytes.__new__") ⟨[.type "bytes", .bytes b t], []⟩) (wants K E) s := by
 refine codeAny_of_tree ?_
 show wpAny _ A.in1 (do checkBuiltinCall "bytes.__new__" ⟨[.type "bytes", .bytes b t], []⟩; again (.builtin "bytes.__new__" ⟨[.type "bytes", .bytes b t], []⟩)) _ _ s
 refine wpAny_bind (wpAny_of_eq (F.bm_newCall _) (wpAny_pure ⟨plainId_quiet F.bm_plain _, codeAny_builtin F.bm_entry ?_⟩))
 rw [Around.under_plainId F.bm_plain _]
 unfold Builtin.«bytes.__new__»
 refine wpAny_bind (wpAny_of_eq (a := true) rfl ?_)
 refine bm_if_false rfl ?_
 refine wpAny_bind (wpAny_of_eq F.bm_sub ?_)
 refine bm_if_false rfl ?_
 refine wpAny_bind (wpAny_of_eq (F.bm_bind _) ?_)
 refine wpAny_bind (wpAny_of_eq (a := ()) rfl ?_)
 refine wpAny_bind (wpAny_of_eq (a := ()) rfl ?_)
 refine bm_if_false rfl ?_
 refine wpAny_bind (wpAny_specialOf (typeIs_bytes s b t) iY ?_)
 dsimp only
 refine wpAny_bind (wpAny_rule ?_)
 refine wpAny_bind (wpAny_typeOf (typeIs_bytes _ b t) ?_)
 refine bm_if_true rfl ?_
 exact wpAny_pure h
theorem ir {A : Around} {E : Value → Shared → Prop} {s : Shared} {w : World} {b : Array UInt8} {t : Tok} {K : Value → Shared → Prop} (h : K (.bytes b t) s) :
  wpAny (model prog w) A (call (.type "bytes") [.bytes b t]) K E s := by
 refine callType_codes (Q₁ := fun obj s₁ => s₁.TypeIs obj "bytes" ∧ K obj s₁) F.bm_called (F.bm_typeCall _) F.entry_object_init (iZ ⟨typeIs_bytes _ _ _, h⟩) fun obj s₁ h₁ => ?_
 exact ⟨h₁.1, F.args_object_init_2 obj _, object_init_meets F.bm_called.init.lookup F.bm_called.made (by decide) prog _ A.in1 _ s₁ ⟨h₁.1, rfl, h₁.2⟩⟩
theorem ai.kept {fz : Fz} {s : Shared} (r : bt C fz σ s) {x : V} {v : Value} {h' : Heap} {tk : Nat} (hk : ∀ b o, s.heap.get? b = some o → h'.get? b = some o) (hv : RV C.P fz x v) (h : Q x σ) : ai C fz σ s Q v { s with heap := h', toks := tk } :=
 ⟨fz, x, σ, Go.keeps r hk, hv, h⟩
theorem ai.keptNew {fz : Fz} {s : Shared} (r : bt C fz σ s) {x : V} {o : Obj} {h' : Heap} {tk : Nat} {a : Addr} (hk : ∀ b o, s.heap.get? b = some o → h'.get? b = some o) (hn : s.heap.get? a = none) (ho : h'.get? a = some o)
  (hv : RV C.P ((a, o) :: fz) x (.ref a)) (h : Q x σ) : ai C fz σ s Q (.ref a) { s with heap := h', toks := tk } :=
 ⟨_, x, σ, Go.add r [(a, o)] hk (fun p hp => by rw [List.mem_singleton.mp hp]; exact ⟨hn, ho⟩), hv, h⟩
theorem vP.mono {x c : V} {Q Q' : Bool → Prop} (h : vP x c Q) (k : ∀ b, Q b → Q' b) : vP x c Q' := by
 obtain ⟨h1, h2⟩ := aQ h
 refine cC h1 ?_
 cases c <;> first | (obtain ⟨a, b⟩ := aQ h2; exact cC a (k _ b))
theorem bu.one {P : Params} {fz : Fz} {x : V} {us : List Value} (h : bu P fz [x] us) : ∃ u, us = [u] ∧ RV P fz x u := by
 cases h with
 | cons h r => cases r; exact ⟨_, rfl, h⟩
theorem bu.two {P : Params} {fz : Fz} {x y : V} {us : List Value} (h : bu P fz [x, y] us) : ∃ u v, us = [u, v] ∧ RV P fz x u ∧ RV P fz y v := by
 cases h with
 | cons h r =>
  cases r with
  | cons h2 r => cases r; exact ⟨_, _, rfl, h, h2⟩
theorem oE {n m : Nat} (e : m = n) (h : n ≤ cap) : (m : Int) < 2 ^ 63 := by unfold cap at h; lia
theorem pK {fz : Fz} {s : Shared} (r : bt C fz σ s) {x : V} {u : Value} (h : Ho x σ fun n => Q (.int n) σ) (hu : RV C.P fz x u) : wpAny (Md prog C) C.A (call (.builtin Bi.len.s) [u]) (ai C fz σ s Q) (Ex C fz σ s R) s :=
 dU (G := fun v => wpAny (Md prog C) C.A (call (.builtin Bi.len.s) [v]) (ai C fz σ s Q) (Ex C fz σ s R) s) h hu (fun l a vs n hm hl hv h => call_len_list (eI r hm) (oE hv.length hl) (by rw [List.size_toArray, hv.length]; exact ai.tok r _ (.int _ _) h)) fun h =>
 kY (G := fun v => wpAny (Md prog C) C.A (call (.builtin Bi.len.s) [v]) (ai C fz σ s Q) (Ex C fz σ s R) s) h hu (fun l a vs n hm hl hv h => len_tuple (gM r hm) (oE hv.length hl) (by rw [List.size_toArray, hv.length]; exact ai.tok r _ (.int _ _) h)) fun h =>
 ni (G := fun v => wpAny (Md prog C) C.A (call (.builtin Bi.len.s) [v]) (ai C fz σ s Q) (Ex C fz σ s R) s) h hu (fun l t hl h => len_bytes (by rw [List.size_toArray]; unfold cap at hl; lia) (by rw [List.size_toArray]; exact ai.tok r _ (.int _ _) h)) fun h =>
 dH (G := fun v => wpAny (Md prog C) C.A (call (.builtin Bi.len.s) [v]) (ai C fz σ s Q) (Ex C fz σ s R) s) h hu (fun l t hl h => len_str (Int.not_le.mpr (oE rfl hl)) (ai.tok r _ (.int _ _) h)) fun h =>
 oD (G := fun v => wpAny (Md prog C) C.A (call (.builtin Bi.len.s) [v]) (ai C fz σ s Q) (Ex C fz σ s R) s) r h hu fun l a vs il hl hv h => call_len_list il (oE hv.length hl) (by rw [List.size_toArray, hv.length]; exact ai.tok r _ (.int _ _) h)
theorem pL (O : Ok C) {fz : Fz} {s : Shared} (r : bt C fz σ s) {l : List V} {a : Addr} {vs : List Value} {n : Nat} (hm : (a, dT vs n) ∈ fz) (hv : bu C.P fz l vs) (h : fS (fg l) fun ns => Q (.int ns.sum) σ) :
  wpAny (Md prog C) C.A (call (.builtin Bi.sum.s) [.ref a]) (ai C fz σ s Q) (Ex C fz σ s R) s := by
 refine gk fun _ kk => ?_
 obtain ⟨ns, e, h⟩ := bq h
 have ia := oB hv e
 obtain ⟨xs, hxs⟩ := ia.allInts.items
 refine kk ?_; clear kk
 have hsum : preSum (numAt xs) xs.size = ns.sum := by
  have e1 : (numsOf vs.toArray.toList) = ns := ia.numsOf
  rw [hxs, nums_intItems] at e1
  rw [preSum_eq, ← e1, List.take_of_length_le (by rw [List.length_map]; exact Nat.le_refl _)]
 refine sum_intListG O.hh (by have := eI r hm; rwa [hxs] at this) fun h' tk t' hk => ?_
 rw [hsum]
 exact ai.kept r hk (.int _ _) h
theorem l5 {fz : Fz} {s : Shared} (r : bt C fz σ s) {c : Prop} [Decidable c] {x y z : Int} {t u : Tok} {h' : Heap} {tk : Nat} (hk : ∀ b o, s.heap.get? b = some o → h'.get? b = some o) (e : z = if c then x else y) (h : Q (.int z) σ) :
  ai C fz σ s Q (if c then .int x t else .int y u) { s with heap := h', toks := tk } := by
 subst e
 by_cases q : c
 ·rw [if_pos q] at h ⊢; exact ai.kept r hk (.int _ _) h
 ·rw [if_neg q] at h ⊢; exact ai.kept r hk (.int _ _) h
theorem ru (O : Ok C) {n : Bi} {as : List V} (h : N5 n as σ fun v => Q v σ) : WA prog C σ as (fun us => call (.builtin n.s) us) Q R := fun fz s us r hu => by
 cases n with
 | len => exact de (G := fun us => wpAny (Md prog C) C.A (call (.builtin Bi.len.s) us) (ai C fz σ s Q) (Ex C fz σ s R) s) h hu fun x v hq h => pK r h hq
 | abs => exact de (G := fun us => wpAny (Md prog C) C.A (call (.builtin Bi.abs.s) us) (ai C fz σ s Q) (Ex C fz σ s R) s) h hu fun x v hq h => bU (G := fun v => wpAny (Md prog C) C.A (call (.builtin Bi.abs.s) [v]) (ai C fz σ s Q) (Ex C fz σ s R) s) h hq (fun i t h => call_abs_int fun u tk => ai.tok r tk (.int _ u) h) False.elim
 | max => exact gA (G := fun us => wpAny (Md prog C) C.A (call (.builtin Bi.max.s) us) (ai C fz σ s Q) (Ex C fz σ s R) s) h hu fun x v y w hq hq2 h => dy (G := fun v w => wpAny (Md prog C) C.A (call (.builtin Bi.max.s) [v, w]) (ai C fz σ s Q) (Ex C fz σ s R) s) h hq hq2 fun i t j t' h => max_two_ints O.hh fun h' tk hk => l5 r hk rfl h
 | min => exact gA (G := fun us => wpAny (Md prog C) C.A (call (.builtin Bi.min.s) us) (ai C fz σ s Q) (Ex C fz σ s R) s) h hu fun x v y w hq hq2 h => dy (G := fun v w => wpAny (Md prog C) C.A (call (.builtin Bi.min.s) [v, w]) (ai C fz σ s Q) (Ex C fz σ s R) s) h hq hq2 fun i t j t' h => min_two_ints O.hh fun h' tk hk => l5 r hk rfl h
 | sum => exact de (G := fun us => wpAny (Md prog C) C.A (call (.builtin Bi.sum.s) us) (ai C fz σ s Q) (Ex C fz σ s R) s) h hu fun x v hq h => dU (G := fun v => wpAny (Md prog C) C.A (call (.builtin Bi.sum.s) [v]) (ai C fz σ s Q) (Ex C fz σ s R) s) h hq (fun l a vs n hm _ hv h => pL O r hm hv h) False.elim
 | isinst => exact gA (G := fun us => wpAny (Md prog C) C.A (call (.builtin Bi.isinst.s) us) (ai C fz σ s Q) (Ex C fz σ s R) s) h hu fun x v y w hq hq2 h => lb O r hq hq2 (vP.mono h fun b q tk => ai.tok r tk (.bool _) q)
theorem fT {fz : Fz} {s : Shared} (r : bt C fz σ s) {a : Addr} {vs : List Value} {l : List V} (hl : s.heap.IsList a vs.toArray) (hv : bu C.P fz l vs) (hc : l.length ≤ cap) (h : Q (.tup l) σ) :
  wpAny (Md prog C) C.A (call (.type "tuple") [.ref a]) (ai C fz σ s Q) (Ex C fz σ s R) s := by
 refine call_tuple_list hl (fun h' hk => ?_) (by rw [List.size_toArray, hv.length]; exact bX hc)
 have g : Go C fz σ s fz σ { s with heap := h' } := Go.keeps r hk
 exact ai.newAt g rfl (.tup (n := 0) (.head _) hc (hv.mono fun p hp => .tail _ hp)) h
theorem rx (O : Ok C) {n : Ty} {as : List V} (h : N6 n as σ fun v => Q v σ) : WA prog C σ as (fun us => call (.type n.s) us) Q R := fun fz s us r hu => by
 cases n with
 | int => exact de (G := fun us => wpAny (Md prog C) C.A (call (.type Ty.int.s) us) (ai C fz σ s Q) (Ex C fz σ s R) s) h hu fun x v hq h => bU (G := fun v => wpAny (Md prog C) C.A (call (.type Ty.int.s) [v]) (ai C fz σ s Q) (Ex C fz σ s R) s) h hq (fun i t h => call_int_int (ai.val r (.int _ _) h)) False.elim
 | str => exact de (G := fun us => wpAny (Md prog C) C.A (call (.type Ty.str.s) us) (ai C fz σ s Q) (Ex C fz σ s R) s) h hu fun x v hq h => bU (G := fun v => wpAny (Md prog C) C.A (call (.type Ty.str.s) [v]) (ai C fz σ s Q) (Ex C fz σ s R) s) h hq (fun i t h => PySem.P.str_of_int (Nat.lt_of_le_of_lt (Nat.log2_le_self _) (show i.natAbs < 1920 by lia)) (ai.tok r _ (.str _ _ (by have := len_str_of_int i; unfold cap; lia)) h.2)) False.elim
 | tuple => exact de (G := fun us => wpAny (Md prog C) C.A (call (.type Ty.tuple.s) us) (ai C fz σ s Q) (Ex C fz σ s R) s) h hu fun x v hq h => dU (G := fun v => wpAny (Md prog C) C.A (call (.type Ty.tuple.s) [v]) (ai C fz σ s Q) (Ex C fz σ s R) s) h hq (fun l a vs n hm hl hv h => fT r (eI r hm) hv hl h) fun h => oD (G := fun v => wpAny (Md prog C) C.A (call (.type Ty.tuple.s) [v]) (ai C fz σ s Q) (Ex C fz σ s R) s) r h hq fun l a vs il hl hv h => fT r il hv hl h
 | list => exact de (G := fun us => wpAny (Md prog C) C.A (call (.type Ty.list.s) us) (ai C fz σ s Q) (Ex C fz σ s R) s) h hu fun x v hq h => dU (G := fun v => wpAny (Md prog C) C.A (call (.type Ty.list.s) [v]) (ai C fz σ s Q) (Ex C fz σ s R) s) h hq (fun l a vs n hm hl hv h => call_list_seq (n := _) _ (.inl rfl) (dz r hm) rfl rfl (fun h' c' hk ho => ai.keptNew r hk (aP _) ho (.list (.head _) hl (hv.mono fun p hp => .tail _ hp)) h) (by rw [List.size_toArray, hv.length]; exact bX hl)) False.elim
 | bytes => exact de (G := fun us => wpAny (Md prog C) C.A (call (.type Ty.bytes.s) us) (ai C fz σ s Q) (Ex C fz σ s R) s) h hu fun x v hq h => dU (G := fun v => wpAny (Md prog C) C.A (call (.type Ty.bytes.s) [v]) (ai C fz σ s Q) (Ex C fz σ s R) s) h hq (fun l a vs n hm hl hv h => by
   refine gk fun _ kk => ?_
   obtain ⟨ns, e, h1, h⟩ := bq h
   refine kk ?_; clear kk
   have ia := oB hv e
   have hz : ns.length ≤ cap := by rw [← ia.length, hv.length]; exact hl
   exact call_bytes_ints (eI r hm) ia h1 (by rw [hv.length]; exact bX hl) O.hh fun h' t k hk => ai.kept r hk (.bytes _ _ (by rw [List.length_map]; exact hz)) h) fun h => ni (G := fun v => wpAny (Md prog C) C.A (call (.type Ty.bytes.s) [v]) (ai C fz σ s Q) (Ex C fz σ s R) s) h hq (fun l t hl h => ir (ai.val r (.bytes _ _ hl) h)) False.elim
 | range => exact de (G := fun us => wpAny (Md prog C) C.A (call (.type Ty.range.s) us) (ai C fz σ s Q) (Ex C fz σ s R) s) h hu fun x v hq h => bU (G := fun v => wpAny (Md prog C) C.A (call (.type Ty.range.s) [v]) (ai C fz σ s Q) (Ex C fz σ s R) s) h hq (fun i t h => call_range_1 (ai.new r _ rfl (.rng (.head _)) h)) False.elim
 | _ => exact h.elim
structure bA (prog : Program) (d : Nat) (f : V) (as : List V) (mem : Mem) (Q : V → Mem → Prop) (R : Mem → Prop) : Prop where
 k : k9 prog f
 c : Calls prog d f as mem Q R
noncomputable def l6 (prog : Program) (d : Nat) (f : V) (as : List V) (σ : St) (Q : V → St → Prop) (R : St → Prop) : Prop := match f with
 | .bi n => N5 n as σ fun v => Q v σ
 | .typ n => N6 n as σ fun v => Q v σ
 | f => (match σ with | ⟨lo, me⟩ => bA prog d f as me (fun v m => Q v ⟨lo, m⟩) fun m => R ⟨lo, m⟩)
theorem nh.wide {fz : Fz} {s : Shared} {e : Value} {s' : Shared} (x : nh [.none] C fz σ s R e s') : Ex C fz σ s R e s' := by
 refine gk fun _ kk => ?_
 obtain ⟨a, fz', σ', h1, h2, h3, ⟨oe, vs, a0, f1, f2, f3, f4, f5, f6⟩, h5⟩ := x
 refine kk ?_; clear kk
 refine ⟨a, fz', σ', h1, h2, h3, ⟨oe, vs, a0, f1, f2, f3, f4, f5, f6.imp id ?_⟩, h5⟩
 rintro ⟨T, oT, ts, a1, a2, a3, a4, a5, ⟨fl, b1, b2⟩, a6⟩
 exact ⟨T, oT, ts, a1, a2, a3, a4, a5, ⟨fl, by rw [List.mem_singleton.mp b1]; exact .head _, b2⟩, a6⟩
theorem np {d : Nat} {f : V} {as : List V} (h : l6 prog d f as σ Q R) : k9 prog f := by
 cases f with
 | bi n => exact ug
 | typ n => exact rl
 | _ => exact bA.k h
theorem ga (O : Ok C) {d : Nat} (hd : d ≤ C.d) {f : V} {as : List V} (h : l6 prog d f as σ Q R) {fz : Fz} {s : Shared} {uf : Value} {us : List Value} (r : bt C fz σ s) (hf : RV C.P fz f uf) (hu : bu C.P fz as us) :
  wpAny (Md prog C) C.A (call uf us) (ai C fz σ s Q) (Ex C fz σ s R) s := by
 have go : bA prog d f as σ.mem (fun v m => Q v ⟨σ.loc, m⟩) (fun m => R ⟨σ.loc, m⟩) → wpAny (Md prog C) C.A (call uf us) (ai C fz σ s Q) (Ex C fz σ s R) s := fun h => by
  refine wpAny_call (codeAny_mono (h.2 C fz σ s uf us O hd rfl r hf hu) fun rr s' b => ?_)
  cases rr with
  | ok f =>
   cases f with
   | ret v =>
    refine gk fun _ kk => ?_
    obtain ⟨fz', x, σ', g, hv, e, q⟩ := b
    refine kk ?_; clear kk
    refine ⟨fz', x, σ', g, hv, ?_⟩
    rw [← e] at q; exact q
   | _ => exact b.elim
  | error e =>
   refine nh.wide (Ex.mono (fun σ' q => ?_) b)
   obtain ⟨e, q⟩ := q
   rw [← e] at q; exact q
 cases hf with
 | bi n => exact ru O h fz s us r hu
 | typ n => exact rx O h fz s us r hu
 | _ => exact go h
end
theorem Hp : n_get = ("get" : Str) := by kernel_rfl
theorem ry : bI = ("append" : Str) := by kernel_rfl
noncomputable def vQ (o : V) (m : Str) (σ : St) : Prop := JG o (fun c l => (iW c m).isSome = true ∧ l.lookup m = none) (Hm o (fun _ => m = n_get)
 (vI o (fun a => fS (σ.mem.lookup a) fun x => match x with | .list _ => m = bI | .dict _ => m = n_get | .idict _ => m = n_get | .raw _ => False) False))
noncomputable def LP (x : M) (m : Str) (as : List V) (a : Addr) (lo : List (Str × V)) (me : Mem) (Q : V → St → Prop) : Prop := match x with
 | .list l => fZ as fun v => m = bI ∧ l.length + 1 ≤ cap ∧ Q .none ⟨lo, put a (.list (l ++ [v])) me⟩
 | .dict l => fZ as fun x => qp x (fun k => m = n_get ∧ Q ((l.lookup k).getD .none) ⟨lo, me⟩) False
 | .idict l => ro as fun x v => j0 x (fun k => m = n_get ∧ Q ((l.lookup k).getD v) ⟨lo, me⟩) False
 | .raw _ => False
noncomputable def Fr (prog : Program) (d : Nat) (o : V) (m : Str) (as : List V) (σ : St) (Q : V → St → Prop) (R : St → Prop) : Prop := JG o
 (fun c l => fS (iW c m) fun f => (match σ with | ⟨lo, me⟩ => bA prog d (.ref f) (.inst c l :: as) me (fun v m => Q v ⟨lo, m⟩) fun m => R ⟨lo, m⟩))
 (Hm o (fun l => fZ as fun x => qp x (fun k => Q ((l.lookup k).getD .none) σ) False)
 (vI o (fun a => match σ with | ⟨lo, me⟩ => fS (me.lookup a) fun x => LP x m as a lo me Q) False))
noncomputable def pM (o : V) (m : Str) (mem : Mem) : Bool := match o with
 | .inst c l => (iW c m).isSome && (l.lookup m).isNone
 | .dict _ => m == n_get
 | .mut a => (match mem.lookup a with | some (.list _) => m == bI | some (.dict _) => m == n_get | some (.idict _) => m == n_get | _ => false)
 | _ => false
theorem uk {o : V} {m : Str} {σ : St} (h : pM o m σ.mem = true) : vQ o m σ := by
 cases o with
 | inst c l => exact ⟨(Bool.and_eq_true_iff.mp h).1, Option.isNone_iff_eq_none.mp (Bool.and_eq_true_iff.mp h).2⟩
 | dict l => exact eq_of_beq h
 | «mut» a =>
  show fS (σ.mem.lookup a) _
  replace h : (match σ.mem.lookup a with | some (.list _) => m == bI | some (.dict _) => m == n_get | some (.idict _) => m == n_get | _ => false) = true := h
  cases e : σ.mem.lookup a with
  | none => rw [e] at h; cases h
  | some x =>
   rw [e] at h
   cases x with
   | raw o => cases h
   | _ => exact eq_of_beq h
 | _ => cases h
section
variable {prog : Program} {C : Cx} {σ : St} {Q : V → St → Prop} {R : St → Prop}
theorem l7 {l : List (Bool × Sem Value)} (h : l.any (·.1) = false) : l.all (!·.1) = true := by
 rw [List.any_eq_false] at h
 rw [List.all_eq_true]
 intro x hx
 have := h x hx
 simpa using this
theorem gP {o : Expr} {name : Str} {apos pos : Pos} {args : List Expr} {env : Env} (h1 : cq o = true) (h2 : args.all noStar = true) (h3 : args.length < 30) (h4 : apos.endLine = pos.line) :
  eval (.Call (.Attribute o name apos) args [] pos) env = (do
   let ov ← eval o env
   standAt apos.atName
   let (f, first) ← holding [ov] (getMethod ov name (do return (← importBound o env).getD true))
   callWith pos f first (backTo pos (starEach args env)) []) := by
 rw [arm_eval_Call, ey h1]
 have e : methodCallForm (args.length + ([] : List Keyword).length) (backTo pos (starEach args env)) (backToKw pos (keywordEach [] env)) = true := by
  unfold methodCallForm
  rw [l7 (ff pos env h2)]
  simp [backToKw, keywordEach, h3]
 unfold methodCall
 rw [e]
 have e2 : methodCallPos true o env apos pos = pure pos := by
  unfold methodCallPos
  simp [h4]
 rw [e2]
 rfl
theorem ul (O : Ok C) {d : Nat} (hd : d ≤ C.d) {id : Str} {p pos : Pos} {args : List Expr} {Q1 : V → St → Prop} {QL : V → List V → St → Prop} (hn : args.all noStar = true) (hf : WE prog C σ (eval (.Name id p) C.env) Q1 R)
  (ha : ∀ f σ₁, Q1 f σ₁ → eT prog C R args σ₁ (QL f)) (hc : ∀ f vs σ₂, QL f vs σ₂ → l6 prog d f vs σ₂ Q R) : WE prog C σ (eval (.Call (.Name id p) args [] pos) C.env) Q R := fun fz s r => by
 rw [arm_eval_Call_Name']
 refine wpAny_bind (aX r hf fun fz₁ f σ₁ s₁ u g hu q1 => ?_)
 refine j6 (first := []) (fun h => ∃ fz σ s, h = s.heap ∧ bt C fz σ s ∧ RV C.P fz f u ∧ k9 prog f) (fun h ⟨fz, σ, s, e, r, hu, k⟩ => by rw [e]; exact k C fz σ s u O r hu) hn ?_
 refine wpAny_mono (cD hn (ha f σ₁ q1) fz₁ s₁ g.rep) (fun vs s₂ ⟨fz₂, xs, σ₂, g₂, hv, q2⟩ => ?_) fun _ _ e => Ex.of_go g e
 have hp := hc f xs σ₂ q2
 have hu' := hu.mono g₂.sub
 exact ⟨⟨fz₂, σ₂, s₂, rfl, g₂.rep, hu', np hp⟩, wpAny_mono (ga O hd hp g₂.rep hu' hv) (fun _ _ p => p.of_go (g.trans g₂)) fun _ _ e => Ex.of_go (g.trans g₂) e⟩
theorem j8 {fz : Fz} {s : Shared} (r : bt C fz σ s) {a : Addr} {es : List DictEntry} {n : Nat} {l : List (Str × V)} {k : Str} {t : Tok} (ha : s.heap.get? a = some (dictOf es n)) (h1 : a ≠ 1) (hr : dB C.P fz l es) (h : Q ((l.lookup k).getD .none) σ) :
  wpAny (Md prog C) C.A (call (.builtin "dict.get") [.ref a, .str k t]) (ai C fz σ s Q) (Ex C fz σ s R) s := by
 have mp := hr.map (prog := prog) (w := C.w) ha
 refine call_meetsIn PySem.F.slot_dict_get mp.typeIs PySem.F.entry_dict_get (PySem.F.args_dict_get_2 _ _) (meets_dict_get (strKind prog C.w) a (strKind_is prog C.w k t) (eY h1)) ⟨_, mp, ?_⟩
 rcases hr.find k with ⟨x, v, e1, e2, hx⟩ | ⟨e1, e2⟩
 ·rw [e2]; rw [e1] at h; exact ai.tok r _ hx h
 ·rw [e2]; rw [e1] at h; exact ai.tok r _ .none h
theorem pN {fz : Fz} {s : Shared} (r : bt C fz σ s) {a : Addr} {es : List DictEntry} {n : Nat} {l : List (Int × V)} {k : Int} {t : Tok} {y : V} {u : Value} (ha : s.heap.get? a = some (dictOf es n)) (h1 : a ≠ 1) (hr : io C.P fz l es) (hy : RV C.P fz y u) (h : Q ((l.lookup k).getD y) σ) :
  wpAny (Md prog C) C.A (call (.builtin "dict.get") [.ref a, .int k t, u]) (ai C fz σ s Q) (Ex C fz σ s R) s := by
 have mp := hr.map (prog := prog) (w := C.w) ha
 refine call_meetsIn PySem.F.slot_dict_get mp.typeIs PySem.F.entry_dict_get (PySem.F.args_dict_get_3 _ _ _) (meets_dict_get_default (intKind prog C.w) a (intKind_is prog C.w k t) (eY h1) u) ⟨_, mp, ?_⟩
 rcases io.find k hr with ⟨x, v, e1, e2, hx⟩ | ⟨e1, e2⟩
 ·rw [e2]; rw [e1] at h; exact ai.tok r _ hx h
 ·rw [e2]; rw [e1] at h; exact ai.tok r _ hy h
theorem Fs : bI ≠ n_get := by decide +kernel
theorem rz {fz : Fz} {s : Shared} (r : bt C fz σ s) {a : Addr} {l : List V} {vs' : List Value} {n' : Nat} (e : σ.mem.lookup a = some (.list l)) (m1 : s.heap.get? a = some (dT vs' n')) (hl : l.length ≤ cap) (hr : bu C.P fz l vs') {y : V} {v : Value} (hy : RV C.P fz y v)
  (h5 : l.length + 1 ≤ cap) (h6 : Q .none ⟨σ.loc, put a (.list (l ++ [y])) σ.mem⟩) : wpAny (Md prog C) C.A (call (.builtin "list.append") [.ref a, v]) (ai C fz σ s Q) (Ex C fz σ s R) s := by
 refine append_at m1 (fun h' hs ho' => ?_) (by rw [List.size_toArray, hr.length]; exact bX hl)
 exact ⟨fz, .none, _, Go.setMem r a (.list _) _ _ e (fun b o hb e => (hs.2 b hb).trans e) (by simpa using ho') (.list (vs := vs' ++ [v]) (n := n' + 1) (by rw [List.length_append]; exact h5) (hr.append (.cons hy .nil))), .none, h6⟩
theorem pO {fz : Fz} {s : Shared} (r : bt C fz σ s) {a : Addr} {x : M} {as : List V} {vs : List Value} (e : σ.mem.lookup a = some x) (hv : bu C.P fz as vs) (h : LP x bI as a σ.loc σ.mem Q) :
  wpAny (Md prog C) C.A (call (.builtin "list.append") (.ref a :: vs)) (ai C fz σ s Q) (Ex C fz σ s R) s := by
 obtain ⟨o, m1, m2, _⟩ := r.mem _ _ e
 cases m2 with
 | list hl hr =>
  exact de (G := fun vs => wpAny (Md prog C) C.A (call (.builtin "list.append") (.ref a :: vs)) (ai C fz σ s Q) (Ex C fz σ s R) s) h hv fun y v hy h => rz r e m1 hl hr hy h.2.1 h.2.2
 | dict _ _ =>
  exact (de (G := fun _ => False) h hv fun _ _ hy h => dH (G := fun _ => False) h hy (fun _ _ _ h => Fs h.1) id).elim
 | idict _ _ =>
  exact (gA (G := fun _ => False) h hv fun _ _ _ _ hy _ h => bU (G := fun _ => False) h hy (fun _ _ h => Fs h.1) id).elim
 | raw _ => exact h.elim
theorem pP {fz : Fz} {s : Shared} (r : bt C fz σ s) {a : Addr} {x : M} {as : List V} {vs : List Value} (e : σ.mem.lookup a = some x) (hv : bu C.P fz as vs) (h : LP x n_get as a σ.loc σ.mem Q) :
  wpAny (Md prog C) C.A (call (.builtin "dict.get") (.ref a :: vs)) (ai C fz σ s Q) (Ex C fz σ s R) s := by
 obtain ⟨o, m1, m2, _, _, _, m6⟩ := r.mem _ _ e
 cases m2 with
 | list _ _ =>
  exact (de (G := fun _ => False) h hv fun _ _ _ h => Fs h.1.symm).elim
 | dict _ hr =>
  exact de (G := fun vs => wpAny (Md prog C) C.A (call (.builtin "dict.get") (.ref a :: vs)) (ai C fz σ s Q) (Ex C fz σ s R) s) h hv fun _ _ hy h => dH (G := fun v => wpAny (Md prog C) C.A (call (.builtin "dict.get") [.ref a, v]) (ai C fz σ s Q) (Ex C fz σ s R) s) h hy (fun _ _ _ h => j8 r m1 m6 hr h.2) False.elim
 | idict _ hr =>
  exact gA (G := fun vs => wpAny (Md prog C) C.A (call (.builtin "dict.get") (.ref a :: vs)) (ai C fz σ s Q) (Ex C fz σ s R) s) h hv fun _ _ _ u hy hu h => bU (G := fun v => wpAny (Md prog C) C.A (call (.builtin "dict.get") [.ref a, v, u]) (ai C fz σ s Q) (Ex C fz σ s R) s) h hy (fun _ _ h => pN r m1 m6 hr hu h.2) False.elim
 | raw _ => exact h.elim
theorem um {as : List Expr} {pos : Pos} {fz₁ : Fz} {s₁ : Shared} {QL : List V → St → Prop} (r : bt C fz₁ σ s₁) {u fv : Value} {K : Value → Shared → Prop} {E : Value → Shared → Prop} (Kp : Heap → Prop) (hn : as.all noStar = true) (hc : eT prog C R as σ QL)
  (hk : ∀ h, Kp h → ∃ k, (k = Keeper.frame ∨ k = Keeper.machine ∨ k = Keeper.boundFrame) ∧ Looks (Md prog C) h (keeperOf fv) k) (hE : ∀ e s', Ex C fz₁ σ s₁ R e s' → E e s')
  (hb : ∀ fz₂ xs σ₂ s₂ vs, Go C fz₁ σ s₁ fz₂ σ₂ s₂ → bu C.P fz₂ xs vs → QL xs σ₂ → Kp s₂.heap ∧ wpAny (Md prog C) C.A (call fv (u :: vs)) K E s₂) :
  wpAny (Md prog C) C.A (callWith pos fv [u] (backTo pos (starEach as C.env)) []) K E s₁ :=
 j6 Kp hk hn (wpAny_mono (cD hn hc fz₁ s₁ r) (fun vs s₂ ⟨fz₂, xs, σ₂, g₂, hv, q2⟩ => hb fz₂ xs σ₂ s₂ vs g₂ hv q2) hE)
theorem ej (i : String) (h : Heap) (_ : True) : ∃ k, (k = Keeper.frame ∨ k = Keeper.machine ∨ k = Keeper.boundFrame) ∧ Looks (Md prog C) h (keeperOf (.builtin i)) k := ⟨.machine, .inr (.inl rfl), Looks.of_pure rfl⟩
theorem rA {M : Model} {A : Around} {E : Value → Shared → Prop} {s : Shared} {name : Str} {pl : Sem Bool} {K : Value × List Value → Shared → Prop} {a : Addr} {ob : Obj} (e : name = n_get) (ty : s.TypeIs (.ref a) "dict") (ho : s.heap.get? a = some ob) (hd : ob.dict = none) (h : K (.builtin "dict.get", [.ref a]) s) : wpAny M A (getMethod (.ref a) name pl) K E s := by
 cases Eq.trans e Hp
 exact getMethod_builtin ty PySem.F.plainAttrs_dict PySem.F.slot_dict_get PySem.F.type_dict_get (fun b e => by cases e; exact ⟨_, ho, hd⟩) h
theorem Ft {M : Model} {A : Around} {E : Value → Shared → Prop} {s : Shared} {name : Str} {pl : Sem Bool} {K : Value × List Value → Shared → Prop} {a : Addr} {ob : Obj} (e : name = bI) (ho : s.heap.get? a = some ob) (hc : ob.cls = .type "list") (hd : ob.dict = none) (h : K (.builtin "list.append", [.ref a]) s) : wpAny M A (getMethod (.ref a) name pl) K E s := by
 cases Eq.trans e ry
 exact getMethod_list_append ho hc hd h
theorem un (O : Ok C) {d : Nat} (hd : d ≤ C.d) {o : Expr} {name : Str} {apos pos : Pos} {args : List Expr} {Q1 : V → St → Prop} {QL : V → List V → St → Prop} (h1 : cq o = true) (hn : args.all noStar = true) (h3 : args.length < 30) (h4 : apos.endLine = pos.line)
  (ho : WE prog C σ (eval o C.env) Q1 R) (hm : ∀ f σ₁, Q1 f σ₁ → vQ f name σ₁) (ha : ∀ f σ₁, Q1 f σ₁ → eT prog C R args σ₁ (QL f)) (hc : ∀ f vs σ₂, QL f vs σ₂ → Fr prog d f name vs σ₂ Q R) :
  WE prog C σ (eval (.Call (.Attribute o name apos) args [] pos) C.env) Q R := fun fz s r => by
 refine MethodCall_ (aX r ho fun fz₁ f σ₁ s₁ u g hu q1 => ?_) (gP h1 hn h3 h4)
 have go : ∀ (fv : Value) (Kp : Heap → Prop), (∀ h, Kp h → ∃ k, (k = Keeper.frame ∨ k = Keeper.machine ∨ k = Keeper.boundFrame) ∧ Looks (Md prog C) h (keeperOf fv) k) →
   (∀ fz₂ xs σ₂ s₂ vs, Go C fz₁ σ₁ s₁ fz₂ σ₂ s₂ → bu C.P fz₂ xs vs → Fr prog d f name xs σ₂ Q R → Kp s₂.heap ∧ wpAny (Md prog C) C.A (call fv (u :: vs)) (ai C fz₂ σ₂ s₂ Q) (Ex C fz₂ σ₂ s₂ R) s₂) →
   wpAny (Md prog C) C.A (callWith pos fv [u] (backTo pos (starEach args C.env)) []) (ai C fz σ s Q) (Ex C fz σ s R) s₁ := fun fv Kp hk hb =>
  um g.rep Kp hn (ha f σ₁ q1) hk (fun _ _ e => Ex.of_go g e) fun fz₂ xs σ₂ s₂ vs g₂ hv q2 => let ⟨b1, b2⟩ := hb fz₂ xs σ₂ s₂ vs g₂ hv (hc f xs σ₂ q2); ⟨b1, wpAny_mono b2 (fun _ _ p => p.of_go (g.trans g₂)) fun _ _ e => Ex.of_go (g.trans g₂) e⟩
 have ok := hm f σ₁ q1
 cases hu with
 | @inst c l x d' es n hx hmm hv =>
  obtain ⟨k1, k2⟩ := ok
  obtain ⟨fa, k1⟩ := Option.isSome_iff_exists.mp k1
  obtain ⟨c123, c4⟩ := Bool.and_eq_true_iff.mp (ub k1 C.P)
  obtain ⟨c12, c3⟩ := Bool.and_eq_true_iff.mp c123
  obtain ⟨c1, c2⟩ := Bool.and_eq_true_iff.mp c12
  have I : InstAt s₁.heap x (instObj c d') c (some (dictOf es n)) := ⟨(g.rep.fro _ hx).1, rfl, rfl, (g.rep.fro _ hmm).1⟩
  refine method_fn (O.K.keeps g.rep.base) I (plainGet_of c1).1 (plainGet_of c1).2 (eq_of_beq c2) (beq_iff_eq.mp c3) ?_ ?_
  ·show (lookIn name (dictOf es n)).map _ = _
   rw [lookIn_dict]
   rcases hv.getL name with ⟨y, v, e1, _⟩ | ⟨_, e⟩
   ·rw [k2] at e1; cases e1
   ·rw [e]; rfl
  ·refine go (.ref fa) (fun h => (HB.KF C.P).In h) (fun h X => keeps_K c4 h X) fun fz₂ xs σ₂ s₂ vs g₂ hv₂ hp => ⟨O.K.keeps g₂.rep.base, ?_⟩
   replace hp : fS (iW c name) _ := hp
   rw [k1] at hp
   exact ga (f := .ref fa) O hd (Q := Q) (R := R) (as := .inst c l :: xs) hp g₂.rep (.ref fa) (.cons ((RV.inst hx hmm hv).mono g₂.sub) hv₂)
 | @dict l a es n hmm hl hv =>
  refine rA ok ⟨_, (g.rep.fro _ hmm).1, rfl⟩ (g.rep.fro _ hmm).1 rfl ?_
  refine go _ _ (ej _) fun fz₂ xs σ₂ s₂ vs g₂ hv₂ hp => ⟨trivial, de (G := fun vs => wpAny (Md prog C) C.A (call (.builtin "dict.get") (.ref a :: vs)) (ai C fz₂ σ₂ s₂ Q) (Ex C fz₂ σ₂ s₂ R) s₂) hp hv₂ fun _ _ hy h => ?_⟩
  exact dH (G := fun v => wpAny (Md prog C) C.A (call (.builtin "dict.get") [.ref a, v]) (ai C fz₂ σ₂ s₂ Q) (Ex C fz₂ σ₂ s₂ R) s₂) h hy (fun _ _ _ h => j8 g₂.rep (g₂.rep.fro _ (g₂.sub _ hmm)).1 (g₂.rep.fro _ (g₂.sub _ hmm)).2.2.2.2 (hv.mono g₂.sub) h) False.elim
 | «mut» a =>
  obtain ⟨m, em, ok⟩ := bq ok
  obtain ⟨ob, m1, m2, _⟩ := g.rep.mem _ _ em
  have dget : name = n_get → s₁.TypeIs (.ref a) "dict" → ob.dict = none → wpAny (Md prog C) C.A (getMethod (.ref a) name (do return (← importBound o C.env).getD true)) (fun fx s₂ => wpAny (Md prog C) C.A (callWith pos fx.1 fx.2 (backTo pos (starEach args C.env)) []) (ai C fz σ s Q) (Ex C fz σ s R) s₂) (Ex C fz σ s R) s₁ := fun e ty hd => by
   refine rA e ty m1 hd (go _ _ (ej _) fun fz₂ xs σ₂ s₂ vs g₂ hv₂ hp => ⟨trivial, ?_⟩)
   obtain ⟨m', e', hp⟩ := bq hp
   exact pP g₂.rep e' hv₂ (e ▸ hp)
  cases m2 with
  | list hl hv =>
   refine Ft ok m1 rfl rfl (go _ _ (ej _) fun fz₂ xs σ₂ s₂ vs g₂ hv₂ hp => ⟨trivial, ?_⟩)
   obtain ⟨m', e', hp⟩ := bq hp
   exact pO g₂.rep e' hv₂ (ok ▸ hp)
  | dict hl hv => exact dget ok ⟨_, m1, rfl⟩ rfl
  | idict hl hv => exact dget ok ⟨_, m1, rfl⟩ rfl
  | raw _ => exact ok.elim
 | _ => exact False.elim ok
end
noncomputable def Hq : List (Addr × List Str) := [(155, [aD, aa]), (251, [cg]), (273, [aF, cO]), (294, [ba, aF]), (322, [af, aZ]), (438, [aN, cX]),
 (467, [aq, an, aJ, aN, bJ, be, aL]), (523, [ar, aY, bw])]
noncomputable def rB (c : Addr) (n : Str) : Bool := (Hq.lookup c).any (·.contains n)
noncomputable def rC (K : Frag) (c : Addr) (n : Str) : Bool := findIn K (.ref c) "__setattr__" == some (some (.builtin "object.__setattr__")) && plainOver K c && takerIn K c n == some none && hasDictIn K c
theorem rD (P : Params) : (Hq.all fun p => p.2.all fun n => rC (HB.KF P) p.1 n) = true := by kernel_rfl
theorem Fu {c : Addr} {n : Str} (h : rB c n = true) (P : Params) : rC (HB.KF P) c n = true := by
 obtain ⟨l, h1, h2⟩ := any_some h
 exact List.all_eq_true.mp (List.all_eq_true.mp (rD P) _ (bV h1)) n (by simpa using h2)
theorem dB.put {P : Params} {fz : Fz} {name : Str} {t : Tok} {x : V} {u : Value} (hu : RV P fz x u) {l : List (Str × V)} {es : List DictEntry} (h : dB P fz l es) : dB P fz (QZ.put name x l) (putL name (PyData.keyHash P name) (.str name t) u es) :=
 dB.ind (G := fun l es => dB P fz (QZ.put name x l) (putL name (PyData.keyHash P name) (.str name t) u es)) (.cons hu .nil) (fun {k y v t' l es} h r ih => by
  have e : (⟨PyData.keyHash P k, .str k t', v⟩ : DictEntry).key.isStr name = (k == name) := rfl
  unfold QZ.put putL
  rw [e, BEq.comm (a := name)]
  cases q : k == name with
  | true =>
   rw [if_pos rfl, if_pos rfl, eq_of_beq q]
   exact .cons hu r
  | false =>
   rw [if_neg Bool.false_ne_true, if_neg Bool.false_ne_true]
   exact .cons h ih) h
theorem fG {α β : Type} [BEq α] (a : α) (b : β) : ∀ l : List (α × β), (put a b l).length ≤ l.length + 1
 | [] => Nat.le_refl _
 | (c, d) :: l => by
  unfold put
  split
  ·simp
  ·have := fG a b l; simp only [List.length_cons]; omega
noncomputable def Fv (o : V) (name : Str) (v : V) (σ : St) (Q : St → Prop) : Prop := LE o (fun x d c => ix (rB c name) <| (match σ with | ⟨lo, me⟩ => fS (me.lookup d) fun m => match m with
  | .dict l => ix (decide (l.length < 900)) <| Q ⟨lo, put d (.dict (put name v l)) me⟩
  | _ => False)) False
noncomputable def i3 (o i : V) (v : V) (σ : St) (Q : St → Prop) : Prop := vI o (fun a => match σ with | ⟨lo, me⟩ => fS (me.lookup a) fun m => match m with
  | .list l => j0 i (fun k => (0 ≤ k ∧ k < l.length) ∧ Q ⟨lo, put a (.list (l.set k.toNat v)) me⟩) False
  | .dict l => qp i (fun k => (l.length < cap ∧ (l.map (·.1)).Nodup) ∧ Q ⟨lo, put a (.dict (put k v l)) me⟩) False
  | .idict l => j0 i (fun k => (l.length < cap ∧ (l.map (·.1)).Nodup) ∧ Q ⟨lo, put a (.idict (put k v l)) me⟩) False
  | .raw _ => False) False
section
variable {prog : Program} {C : Cx} {σ : St} {R : St → Prop} {QS : St → Prop}
theorem uq {w : World} {A : Around} {s : Shared} {K : Frag} {x c d : Addr} {es : List DictEntry} {n : Nat} {name : Str} {tk : Tok} {v : Value} {R : Result → Shared → Prop} (X : K.In s.heap) (hx : s.heap.get? x = some (instObj c d)) (hd : s.heap.get? d = some (dictOf es n))
  (hp : plainOver K c = true) (ht : takerIn K c name = some none) (hh : hasDictIn K c = true) (hl : (getL name es).isSome = true) (hz : (putL name (PyData.keyHash w.params name) (.str name s.toks) v es).length ≤ 1000)
  (h : ∀ h', h'.get? d = some (dictOf (putL name (PyData.keyHash w.params name) (.str name s.toks) v es) (putN name es n)) → Heap.SameBut d s.heap h' → R (.ok (.ret .none)) { s with heap := h', toks := s.toks + 1 }) :
  codeAny (model prog w) A (.call (.builtin "object.__setattr__") ⟨[.ref x, .str name tk, v], []⟩) R s := by
 have I : InstAt s.heap x (instObj c d) c (some (dictOf es n)) := ⟨hx, rfl, rfl, hd⟩
 refine osa_open X I hp ht fun b => ?_
 obtain ⟨cd, hc, hd'⟩ := any_some hh
 refine wpAny_bind (wpAny_pure (wpAny_bind (wpAny_bind (wpAny_loadPart hx (wpAny_bind ((looks_clsIn X hc).here ?_))))))
 rw [hd']
 refine wpAny_pure (a := some d) (wpAny_bind (wpAny_pure (wpAny_bind ?_)))
 unfold nsSet
 refine wpAny_bind (wpAny_bind (wpAny_askSetting (wpAny_pure (wpAny_bind (wpAny_mkText (wpAny_bind (wpAny_loadPart hd ?_)))))))
 dsimp only
 have e0 : (!es.toArray.any (·.key.isStr name) && es.toArray.any (·.refKey)) = false := by
  rw [← Array.any_toList, ← Array.any_toList]
  unfold getL at hl
  split at hl
  ·rename_i en he
   rw [List.any_eq_true.mpr ⟨en, List.mem_of_find?_eq_some he, List.find?_some he⟩]; rfl
  ·split at hl
   ·cases hl
   ·rename_i z; rw [Bool.not_eq_true] at z; rw [z, Bool.and_false]
 rw [aRefKeyMayBeTheName_at, e0]
 refine wpAny_updatePart hd ?_
 have D' : (s.heap.update d (Obj.putName name (PyData.keyHash w.params name) (.str name s.toks) v)).get? d = some (dictOf (putL name (PyData.keyHash w.params name) (.str name s.toks) v es) (putN name es n)) := by
  rw [Heap.get?_update_self _ hd (by rw [putName_dict]; rfl), putName_dict]
 refine wpAny_bind (wpAny_lookBehind D' (by exact pastItsLine_dict (by rw [List.size_toArray, sizeLine_eq]; omega)) ?_)
 exact wpAny_pure (h _ D' (Heap.SameBut.update ..))
theorem Fw (O : Ok C) {v : V} {name : Str} {fz : Fz} {s : Shared} (r : bt C fz σ s) {x d c : Addr} {m : M} {uv : Value} (hx : (x, instObj c d) ∈ fz) (h1 : rB c name = true) (h2 : match m with | .dict l => ix (decide (l.length < 900)) <| QS ⟨σ.loc, put d (.dict (put name v l)) σ.mem⟩ | _ => False) (e : σ.mem.lookup d = some m)
  (hv : RV C.P fz v uv) {K : Unit → Shared → Prop} {E : Value → Shared → Prop} (k : ∀ σ' s', Go C fz σ s fz σ' s' → QS σ' → K () s') : wpAny (Md prog C) C.A (setAttr (.ref x) name uv) K E s := by
 obtain ⟨ob, m1, m2, _⟩ := r.mem _ _ e
 cases m2 with
 | @dict l es n hl hr =>
  obtain ⟨h3, h4⟩ := aQ h2
  replace h3 := of_decide_eq_true h3
  obtain ⟨c123, c4⟩ := Bool.and_eq_true_iff.mp (Fu h1 C.P)
  obtain ⟨c12, c3⟩ := Bool.and_eq_true_iff.mp c123
  obtain ⟨c1, c2⟩ := Bool.and_eq_true_iff.mp c12
  have X : (HB.KF C.P).In s.heap := O.K.keeps r.base
  have I : InstAt s.heap x (instObj c d) c (some (dictOf es n)) := ⟨(r.fro _ hx).1, rfl, rfl, m1⟩
  have hr' : dB C.P fz (put name v l) (putL name (PyData.keyHash C.P name) (.str name (s.toks + 1)) uv es) := hr.put hv
  refine set_plain X I (eq_of_beq c1) (uq (s := { s with toks := s.toks + 1 }) X (r.fro _ hx).1 m1 c2 (eq_of_beq c3) c4 ?_ ?_ fun h' hd' hs => ?_)
  ·rcases hr.getL name with ⟨y, u, _, e2, _⟩ | ⟨_, e2⟩ <;> rw [e2] <;> rfl
  ·rw [hr'.length]; exact Nat.le_trans (fG _ _ _) (by lia)
  ·exact k _ _ (Go.setMem r d (.dict (put name v l)) _ _ e (fun b o hb e => (hs.2 b hb).trans e) hd' (.dict (Nat.le_trans (fG _ _ _) (by unfold cap; lia)) hr')) h4
 | _ => exact h2.elim
theorem Hr (O : Ok C) {o v : V} {name : Str} (h : Fv o name v σ QS) {fz : Fz} {s : Shared} {u uv : Value} (r : bt C fz σ s) (hu : RV C.P fz o u) (hv : RV C.P fz v uv) {K : Unit → Shared → Prop} {E : Value → Shared → Prop}
  (k : ∀ σ' s', Go C fz σ s fz σ' s' → QS σ' → K () s') : wpAny (Md prog C) C.A (setAttr u name uv) K E s :=
 qO (G := fun u => wpAny (Md prog C) C.A (setAttr u name uv) K E s) h hu (fun x d c hx h =>
  let ⟨h1, h2⟩ := aQ h
  let ⟨_, e, h2⟩ := bq h2
  Fw O r hx h1 h2 e hv k) False.elim
end
section
variable {prog : Program} {w : World} {P : Params} {fz : Fz}
theorem hS {K : Type} [DecidableEq K] (kvs : List (K × Value)) (k : K) (v : Value) : (stored kvs k v).map (·.1) = if k ∈ kvs.map (·.1) then kvs.map (·.1) else kvs.map (·.1) ++ [k] := by
 unfold stored
 by_cases h : k ∈ kvs.map (·.1)
 ·have : kvs.any (fun kv => kv.1 = k) = true := by
   obtain ⟨p, hp, rfl⟩ := List.mem_map.mp h
   exact List.any_eq_true.mpr ⟨p, hp, by simp⟩
  rw [if_pos this, if_pos h, List.map_map]
  apply List.map_congr_left
  intro p _
  simp only [Function.comp]
  split <;> rfl
 ·have : ¬ kvs.any (fun kv => kv.1 = k) = true := fun q => by
   obtain ⟨p, hp, e⟩ := List.any_eq_true.mp q
   exact h (List.mem_map.mpr ⟨p, hp, by simpa using e⟩)
  rw [if_neg this, if_neg h, List.map_append]; rfl
theorem i4 {α : Type} [BEq α] [LawfulBEq α] [DecidableEq α] {β : Type} (k : α) (v : β) : ∀ l : List (α × β), (put k v l).map (·.1) = if k ∈ l.map (·.1) then l.map (·.1) else l.map (·.1) ++ [k]
 | [] => by simp [put]
 | (c, d) :: l => by
  unfold put
  by_cases q : k = c
  ·subst q; simp
  ·have : (k == c) = false := by simpa using q
   simp only [this, Bool.false_eq_true, if_false, List.map_cons, i4 k v l, List.mem_cons, q, false_or]
   split <;> simp
theorem hU {K : Type} [BEq K] [LawfulBEq K] [DecidableEq K] {k : K} {x : V} {v : Value} (hv : RV P fz x v) {l : List (K × V)} : ∀ {kvs : List (K × Value)}, (l.map (·.1)).Nodup → l.map (·.1) = kvs.map (·.1) → bu P fz (l.map (·.2)) (kvs.map (·.2)) → bu P fz ((put k x l).map (·.2)) ((stored kvs k v).map (·.2)) := by
 induction l with
 | nil => intro kvs _ hk _; cases kvs with
  | nil => exact .cons hv .nil
  | cons _ _ => exact nomatch hk
 | cons p l ih => intro kvs hn hk hr; cases kvs with
  | nil => exact nomatch hk
  | cons p' kvs =>
   obtain ⟨c, y⟩ := p
   obtain ⟨c', u⟩ := p'
   obtain ⟨hk1, hk2⟩ := List.cons.inj hk
   cases hk1
   cases hr with | cons h r =>
   obtain ⟨hn1, hn2⟩ := List.nodup_cons.mp hn
   unfold put
   by_cases q : k = c
   ·subst q
    have e : stored ((k, u) :: kvs) k v = (k, v) :: kvs := by
     unfold stored
     rw [if_pos (by simp), List.map_cons, if_pos rfl]
     congr 1
     exact map_store_of_not_mem _ _ _ (by rw [← hk2]; exact hn1)
    rw [if_pos (beq_self_eq_true _), e]
    exact .cons hv r
   ·have e : stored ((c, u) :: kvs) k v = (c, u) :: stored kvs k v := by
     unfold stored
     have q' : ¬ c = k := fun z => q z.symm
     simp only [List.any_cons, q', decide_false, Bool.false_or, List.map_cons, if_false]
     split <;> simp
    rw [if_neg (by simpa using q), e]
    exact .cons h (ih hn2 hk2 r)
theorem io.dictOf {h : Heap} {l : List (Int × V)} {es : List DictEntry} {a : Addr} {n : Nat} (r : io P fz l es) (hm : h.get? a = some (W.dictOf es n)) (hn : (l.map (·.1)).Nodup) :
  ∃ us, h.DictOf (intKind prog w) a ((l.map (·.1)).zip us) ∧ bu P fz (l.map (·.2)) us := by
 suffices ∀ {l : List (Int × V)} {es : List DictEntry}, io P fz l es → ∃ us, Pairs (intKind prog w) es ((l.map (·.1)).zip us) ∧ bu P fz (l.map (·.2)) us by
  obtain ⟨us, h1, h2⟩ := this r
  refine ⟨us, ⟨_, es.toArray, n, hm, ⟨rfl, rfl, rfl⟩, rfl, fun e he => ?_, by simpa using h1, ?_⟩, h2⟩
  ·obtain ⟨k, t, e1, e2⟩ := r.keys e (by simpa using he)
   exact ⟨k, by rw [e1]; exact intKind_is prog w k t, e2⟩
  ·have : ((l.map (·.1)).zip us).map (·.1) = l.map (·.1) := by
    rw [List.map_fst_zip]
    have := h2.length
    simp only [List.length_map] at this ⊢
    lia
   rw [this]; exact hn
 intro l es r
 induction r with
 | nil => exact ⟨[], .nil, .nil⟩
 | cons h r ih =>
  obtain ⟨us, h1, h2⟩ := ih
  exact ⟨_ :: us, .cons (intKind_is prog w _ _) rfl h1, .cons h h2⟩
theorem io.of_pairs {es : List DictEntry} {kvs : List (Int × Value)} (hp : Pairs (intKind prog w) es kvs) : (∀ e ∈ es, ∃ k, (intKind prog w).is k e.key = true ∧ e.hash = (intKind prog w).hash k) →
  ∀ {l : List (Int × V)}, l.map (·.1) = kvs.map (·.1) → bu P fz (l.map (·.2)) (kvs.map (·.2)) → io P fz l es := by
 induction hp with
 | nil =>
  intro _ l hl _
  cases l with
  | nil => exact .nil
  | cons x l => simp at hl
 | @cons e kv es kvs h1 h2 hp ih =>
  intro hk l hl hv
  cases l with
  | nil => simp at hl
  | cons x l =>
   obtain ⟨k, v⟩ := x
   simp only [List.map_cons, List.cons.injEq] at hl
   cases hv with
   | cons hv1 hv2 =>
    refine gk fun _ kk => ?_
    obtain ⟨k', hk1, hk2⟩ := hk e (.head _)
    have : k' = kv.1 := (intKind prog w).inj _ _ _ hk1 h1
    subst this
    have et : ∃ t, e.key = .int kv.1 t := by
     have : Value.isInt kv.1 e.key = true := h1
     cases q : e.key <;> rw [q] at this <;> simp [Value.isInt] at this
     exact ⟨_, by rw [this]⟩
    obtain ⟨t, et⟩ := et
    obtain ⟨hsh, key, val⟩ := e
    refine kk ?_; clear kk
    simp only at et h2 hk2
    subst et h2 hk2
    rw [show k = kv.1 from hl.1]
    exact .cons hv1 (ih (fun e he => hk e (.tail _ he)) hl.2 hv2)
theorem io.of_dictOf {h : Heap} {a : Addr} {kvs : List (Int × Value)} {l : List (Int × V)} (hd : h.DictOf (intKind prog w) a kvs) (hl : l.map (·.1) = kvs.map (·.1)) (hv : bu P fz (l.map (·.2)) (kvs.map (·.2))) :
  ∃ es n, h.get? a = some (W.dictOf es n) ∧ io P fz l es := by
 refine gk fun _ kk => ?_
 obtain ⟨o, es, ep, e, ⟨x1, x2, x3⟩, hdt, hk, hp, hn⟩ := hd
 obtain ⟨oc, od, odt, osl⟩ := o
 refine kk ?_; clear kk
 simp only at x1 x2 x3 hdt
 subst x1 x2 x3 hdt
 refine ⟨es.toList, ep, by simpa using e, .of_pairs hp (fun e he => ?_) hl hv⟩
 obtain ⟨k, h1, h2⟩ := hk e (by simpa using he)
 exact ⟨k, h1, h2⟩
end
section
variable {prog : Program} {C : Cx} {σ : St} {R : St → Prop} {QS : St → Prop}
theorem bu.set {P : Params} {fz : Fz} {x : V} {v : Value} (h : RV P fz x v) : ∀ {l : List V} {vs : List Value} (i : Nat), bu P fz l vs → bu P fz (l.set i x) (vs.set i v)
 | _, _, _, .nil => .nil
 | _, _, 0, .cons _ r => .cons h r
 | _, _, i + 1, .cons h' r => .cons h' (r.set h i)
theorem i5 {K : Type} {l : List (K × V)} {us : List Value} {P : Params} {fz : Fz} (h : bu P fz (l.map (·.2)) us) : us.length = l.length ∧ ((l.map (·.1)).zip us).map (·.1) = l.map (·.1) ∧ ((l.map (·.1)).zip us).map (·.2) = us ∧ ((l.map (·.1)).zip us).length = l.length := by
 have hlen : us.length = l.length := by rw [h.length, List.length_map]
 refine ⟨hlen, ?_, ?_, ?_⟩
 ·rw [List.map_fst_zip]; rw [List.length_map, hlen]; exact Nat.le_refl _
 ·rw [List.map_snd_zip]; rw [List.length_map, hlen]; exact Nat.le_refl _
 ·rw [List.length_zip, List.length_map, hlen]; exact Nat.min_self _
theorem pQ (O : Ok C) {o i v : V} (h : i3 o i v σ QS) {fz : Fz} {s : Shared} {u ui uv : Value} (r : bt C fz σ s) (hu : RV C.P fz o u) (hi : RV C.P fz i ui) (hv : RV C.P fz v uv) {K : Unit → Shared → Prop} {E : Value → Shared → Prop}
  (k : ∀ σ' s', Go C fz σ s fz σ' s' → QS σ' → K () s') : wpAny (Md prog C) C.A (setItem u ui uv) K E s := by
 refine iM (G := fun u => wpAny (Md prog C) C.A (setItem u ui uv) K E s) h hu (fun a h => ?_) False.elim
 refine gk fun _ kk => ?_
 obtain ⟨m, e, h⟩ := bq h
 obtain ⟨ob, m1, m2, _, _, _, m6⟩ := r.mem _ _ e
 refine kk ?_; clear kk
 cases m2 with
 | @list l vs n hl hr =>
  refine bU (G := fun ui => wpAny (Md prog C) C.A (setItem (.ref a) ui uv) K E s) h hi (fun j t ⟨⟨h1, h2⟩, h3⟩ => ?_) False.elim
  refine ki_setAt m1 h1 (by unfold cap at hl; lia) (by rw [List.size_toArray, hr.length]; exact h2) (k _ _ (Go.setMem r a (.list (l.set j.toNat v)) _ (dT (vs.set j.toNat uv) n) e (fun b o hb e => (Heap.get?_update_other _ _ (Ne.symm hb)).trans e) ?_ (.list (by rw [List.length_set]; exact hl) (hr.set hv _))) h3)
  have := PySem.IsL.update (l := a) (h := s.heap) (items := vs.toArray) (n := n) m1 (·.setIfInBounds j.toNat uv)
  unfold PySem.IsL at this
  rw [this]; simp
 | @dict l es n hl hr =>
  refine dH (G := fun ui => wpAny (Md prog C) C.A (setItem (.ref a) ui uv) K E s) h hi (fun j t _ ⟨⟨h1, h2⟩, h3⟩ => ?_) False.elim
  refine gk fun _ kk => ?_
  obtain ⟨us, hd, hus⟩ := hr.dictOf (prog := prog) m1 h2
  obtain ⟨hlen, k1, k2, k3⟩ := i5 hus
  refine kk ?_; clear kk
  refine wpAny_setItem_pairs (strKind_is _ _ _ _) hd (fun h' hd' hs => ?_) (by rw [k3]; exact bX (Nat.le_of_lt h1))
  obtain ⟨es, n, he, hr'⟩ := dB.of_dictOf (l := put j v l) hd' (by rw [i4, hS, k1]) (hU hv h2 k1.symm (by rw [k2]; exact hus))
  exact k _ _ (Go.setMem r a (.dict (put j v l)) _ _ e (fun b o hb e => (hs.2 b hb).trans e) he (.dict (Nat.le_trans (fG _ _ _) h1) hr')) h3
 | @idict l es n hl hr =>
  refine bU (G := fun ui => wpAny (Md prog C) C.A (setItem (.ref a) ui uv) K E s) h hi (fun j t ⟨⟨h1, h2⟩, h3⟩ => ?_) False.elim
  refine gk fun _ kk => ?_
  obtain ⟨us, hd, hus⟩ := hr.dictOf (prog := prog) (w := C.w) m1 h2
  obtain ⟨hlen, k1, k2, k3⟩ := i5 hus
  refine kk ?_; clear kk
  refine wpAny_setItem_pairs (intKind_is _ _ _ _) hd (fun h' hd' hs => ?_) (by rw [k3]; exact bX (Nat.le_of_lt h1))
  obtain ⟨es, n, he, hr'⟩ := io.of_dictOf (l := put j v l) hd' (by rw [i4, hS, k1]) (hU hv h2 k1.symm (by rw [k2]; exact hus))
  exact k _ _ (Go.setMem r a (.idict (put j v l)) _ _ e (fun b o hb e => (hs.2 b hb).trans e) he (.idict (Nat.le_trans (fG _ _ _) h1) hr')) h3
 | raw _ => exact h.elim
end
noncomputable def gm (v : V) (Q : Bool → Prop) : Prop := match v with
 | .bool b => Q b
 | _ => False
theorem dY {v : V} {Q : Bool → Prop} (h : gm v Q) : ∃ b, v = .bool b ∧ Q b := by
 unfold gm at h
 split at h
 ·exact ⟨_, rfl, h⟩
 ·exact h.elim
section
variable {prog : Program} {C : Cx} {σ : St} {Q : V → St → Prop} {R : St → Prop} {QB : Bool → St → Prop}
noncomputable abbrev WT (prog : Program) (C : Cx) (σ : St) (e : Expr) (QB : Bool → St → Prop) (R : St → Prop) : Prop := WB prog C σ (isTrue e C.env (eval e C.env)) QB R
theorem i6 {v : V} {u : Value} {fz₀ fz : Fz} {σ₀ : St} {s₀ s : Shared} (g : Go C fz₀ σ₀ s₀ fz σ s) (hu : RV C.P fz v u) (h : gm v fun b => QB b σ) : wpAny (Md prog C) C.A (truthy u) (jZ C fz₀ σ₀ s₀ QB) (Ex C fz₀ σ₀ s₀ R) s := by
 unfold gm at h
 split at h
 ·cases hu; exact wpAny_truthy_bool ⟨fz, σ, g, h⟩
 ·exact h.elim
noncomputable def j9 (e : Expr) : Bool := e.ctorIdx != 0 && e.ctorIdx != 3 && e.ctorIdx != 5 && e.ctorIdx != 15
theorem kg {e : Expr} {Q1 : V → St → Prop} (he : isTrue e C.env (eval e C.env) = (do let v ← eval e C.env; standAt e.pos; holding [v] (truthy v))) (h : WE prog C σ (eval e C.env) Q1 R) (hq : ∀ v σ', Q1 v σ' → gm v fun b => QB b σ') : WT prog C σ e QB R := fun fz s r =>
 wpAny_isTrue_value (aX r h fun fz₁ x σ₁ s₁ v g hv q => i6 g hv (hq x σ₁ q)) he
theorem rE {e : Expr} {Q1 : V → St → Prop} (hp : j9 e = true) (h : WE prog C σ (eval e C.env) Q1 R) (hq : ∀ v σ', Q1 v σ' → gm v fun b => QB b σ') : WT prog C σ e QB R := kg (by
 cases e <;> first | rfl | exact Bool.noConfusion (show false = true from hp)) h hq
theorem Fx {e : Expr} {pos : Pos} (h : WT prog C σ e (fun b => QB (!b)) R) : WT prog C σ (.UnaryOp .Not e pos) QB R := fun fz s r => wpAny_isTrue_Not (h fz s r)
noncomputable def gQ (prog : Program) (C : Cx) (R : St → Prop) (op : BoolOp) : List Expr → St → (Bool → St → Prop) → Prop
 | [], σ, QB => QB (op == .And) σ
 | e :: es, σ, QB => ∃ Q1 : Bool → St → Prop, WT prog C σ e Q1 R ∧ ∀ b σ', Q1 b σ' → if b = (op == .And) then gQ prog C R op es σ' QB else QB b σ'
theorem kh {op : BoolOp} : ∀ {es : List Expr} {σ : St} {QB : Bool → St → Prop}, gQ prog C R op es σ QB → WB prog C σ (allTrue op es C.env) QB R
 | [], σ, QB, h => fun fz s r => by
  cases op
  ·exact wpAny_allTrue_And_nil ⟨fz, σ, Go.refl r, h⟩
  ·exact wpAny_allTrue_Or_nil ⟨fz, σ, Go.refl r, h⟩
 | e :: es, σ, QB, ⟨Q1, h1, h2⟩ => fun fz s r => by
  have next : ∀ (fz₁ : Fz) (σ₁ : St) (s₁ : Shared), Go C fz σ s fz₁ σ₁ s₁ → gQ prog C R op es σ₁ QB → wpAny (Md prog C) C.A (allTrue op es C.env) (jZ C fz σ s QB) (Ex C fz σ s R) s₁ := fun fz₁ σ₁ s₁ g h =>
   wpAny_mono (kh h fz₁ s₁ g.rep) (fun _ _ p => p.of_go g) fun _ _ e => Ex.of_go g e
  cases op
  ·refine wpAny_allTrue_And_cons (wpAny_mono (h1 fz s r) (fun b s₁ ⟨fz₁, σ₁, g, q⟩ => ?_) fun _ _ e => e)
   have := h2 b σ₁ q
   cases b
   ·exact ⟨fz₁, σ₁, g, this⟩
   ·exact next fz₁ σ₁ s₁ g this
  ·refine wpAny_allTrue_Or_cons (wpAny_mono (h1 fz s r) (fun b s₁ ⟨fz₁, σ₁, g, q⟩ => ?_) fun _ _ e => e)
   have := h2 b σ₁ q
   cases b
   ·exact next fz₁ σ₁ s₁ g this
   ·exact ⟨fz₁, σ₁, g, this⟩
theorem oF {op : BoolOp} {es : List Expr} {pos : Pos} (h : gQ prog C R op es σ QB) : WT prog C σ (.BoolOp op es pos) QB R := fun fz s r => wpAny_isTrue_BoolOp (kh h fz s r)
theorem Fy {l r : Expr} {op : CmpOp} {pos : Pos} {Q1 : V → St → Prop} {Q2 : V → V → St → Prop} (O : Ok C) (hm : behindInMarks op r = false) (hl : WE prog C σ (eval l C.env) Q1 R) (hr : ∀ a σ₁, Q1 a σ₁ → WE prog C σ₁ (eval r C.env) (Q2 a) R)
  (ho : ∀ a b σ₂, Q2 a b σ₂ → lT op a b σ₂ fun v σ' => gm v fun b => QB b σ') : WT prog C σ (.Compare l [op] [r] pos) QB R := fun fz s rp =>
 wpAny_isTrue_Compare1 (aX rp hl fun fz₁ x σ₁ s₁ v g hv hq => da g (hr x σ₁ hq) fun fz₂ y σ₂ s₂ v₂ g₂ sub hv₂ hq₂ =>
  wpAny_mono (fE O (ho x y σ₂ hq₂) (R := R) fz₂ s₂ v v₂ g₂.rep (hv.mono sub) hv₂) (fun c s₃ ⟨fz₃, z, σ₃, g₃, hz, q⟩ => i6 (g₂.trans g₃) hz q) fun _ _ e => Ex.of_go g₂ e) hm
theorem FA {l r : Expr} {op : CmpOp} {pos : Pos} {Q1 : V → St → Prop} {Q2 : V → V → St → Prop} (O : Ok C) (hm : behindInMarks op r = false) (hl : WE prog C σ (eval l C.env) Q1 R) (hr : ∀ a σ₁, Q1 a σ₁ → WE prog C σ₁ (eval r C.env) (Q2 a) R)
  (ho : ∀ a b σ₂, Q2 a b σ₂ → lT op a b σ₂ Q) : WE prog C σ (eval (.Compare l [op] [r] pos) C.env) Q R := fun fz s rp =>
 wpAny_Compare1 (aX rp hl fun fz₁ x σ₁ s₁ v g hv hq => da g (hr x σ₁ hq) fun fz₂ y σ₂ s₂ v₂ g₂ sub hv₂ hq₂ => kX g₂ (fE O (ho x y σ₂ hq₂)) (hv.mono sub) hv₂) hm
theorem ur {l r₁ r₂ : Expr} {o₁ o₂ : CmpOp} {pos : Pos} {Q1 : V → St → Prop} {Q2 : V → V → St → Prop} (O : Ok C) (hm : lastMarks [o₁, o₂] [r₁, r₂] = false) (hl : WE prog C σ (eval l C.env) Q1 R) (hr : ∀ a σ₁, Q1 a σ₁ → WE prog C σ₁ (eval r₁ C.env) (Q2 a) R)
  (ho : ∀ a b σ₂, Q2 a b σ₂ → ∃ K : V → St → Prop, lT o₁ a b σ₂ K ∧ ∀ v σ₃, K v σ₃ → gm v fun c => iK c (∃ Q3 : V → St → Prop, WE prog C σ₃ (eval r₂ C.env) Q3 R ∧ ∀ y σ₄, Q3 y σ₄ → lT o₂ b y σ₄ fun v σ' => gm v fun b => QB b σ') (QB false σ₃)) :
  WT prog C σ (.Compare l [o₁, o₂] [r₁, r₂] pos) QB R := fun fz s rp => by
 refine isTrue_chain (aX rp hl fun fz₁ x σ₁ s₁ v g hv hq => ?_) hm
 unfold testChain
 refine wpAny_bind (wpAny_holding (da g (hr x σ₁ hq) fun fz₂ y σ₂ s₂ v₂ g₂ sub hv₂ hq₂ => wpAny_bind (wpAny_standAt (wpAny_bind (wpAny_holding ?_)))))
 obtain ⟨K, hc, hK⟩ := ho x y σ₂ hq₂
 refine wpAny_mono (fE O hc (R := R) fz₂ s₂ v v₂ g₂.rep (hv.mono sub) hv₂) (fun c s₃ ⟨fz₃, z, σ₃, g₃, hz, q⟩ => ?_) fun _ _ e => Ex.of_go g₂ e
 replace q := hK _ _ q
 have G := g₂.trans g₃
 have hv₂' := hv₂.mono g₃.sub
 refine wpAny_bind (wpAny_release' (wpAny_bind (wpAny_holding ?_)))
 refine gk fun _ kk => ?_
 obtain ⟨b, rfl, q⟩ := dY q
 cases hz
 refine kk ?_; clear kk
 refine wpAny_truthy_bool ?_
 cases b with
 | true =>
  obtain ⟨Q3, h3, h4⟩ := q
  simp only [if_true]
  unfold testChain
  refine wpAny_bind (wpAny_holding (da G h3 fun fz₄ y' σ₄ s₄ v₄ g₄ sub₄ hv₄ q₄ => wpAny_bind (wpAny_standAt (wpAny_bind (wpAny_operate' ?_)))))
  exact wpAny_mono (fE O (h4 y' σ₄ q₄) (R := R) fz₄ s₄ v₂ v₄ g₄.rep (hv₂'.mono sub₄) hv₄) (fun c s₅ ⟨fz₅, z₅, σ₅, g₅, hz₅, q₅⟩ => wpAny_holding (i6 (g₄.trans g₅) hz₅ q₅)) fun _ _ e => Ex.of_go g₄ e
 | false =>
  simp only [Bool.false_eq_true, if_false]
  exact wpAny_pure ⟨fz₃, σ₃, G, q⟩
theorem WT.mono {e : Expr} {QB' : Bool → St → Prop} (h : WT prog C σ e QB R) (k : ∀ b σ', QB b σ' → QB' b σ') : WT prog C σ e QB' R := fun fz s r =>
 wpAny_mono (h fz s r) (fun b s' ⟨fz', σ', g, q⟩ => ⟨fz', σ', g, k _ _ q⟩) fun _ _ e => e
theorem rF {t a b : Expr} {pos : Pos} {Q1 : Bool → St → Prop} (ht : WT prog C σ t Q1 R) (h : ∀ c σ₁, Q1 c σ₁ → if c = true then WE prog C σ₁ (eval a C.env) Q R else WE prog C σ₁ (eval b C.env) Q R) : WE prog C σ (eval (.IfExp t a b pos) C.env) Q R := fun fz s r =>
 wpAny_IfExp (wpAny_mono (ht fz s r) (fun c s₁ ⟨fz₁, σ₁, g, q⟩ => by
  have := h c σ₁ q
  cases c
  ·exact wpAny_mono (this fz₁ s₁ g.rep) (fun _ _ p => p.of_go g) fun _ _ e => Ex.of_go g e
  ·exact wpAny_mono (this fz₁ s₁ g.rep) (fun _ _ p => p.of_go g) fun _ _ e => Ex.of_go g e) fun _ _ e => e)
noncomputable def gR (prog : Program) (C : Cx) (R : St → Prop) (op : BoolOp) : List Expr → St → (V → St → Prop) → Prop
 | [], _, _ => False
 | [e], σ, Q => WE prog C σ (eval e C.env) Q R
 | e :: es, σ, Q => ∃ Q1 : V → St → Prop, WE prog C σ (eval e C.env) Q1 R ∧ ∀ v σ', Q1 v σ' → gm v fun b => if b = (op == .And) then gR prog C R op es σ' Q else Q v σ'
theorem gS {op : BoolOp} {pos : Pos} : ∀ {es : List Expr} {σ : St}, gR prog C R op es σ Q → WE prog C σ (eval (.BoolOp op es pos) C.env) Q R
 | [], _, h => h.elim
 | [e], _, h => fun fz s r => BoolOp_one (h fz s r)
 | e :: e₂ :: es, σ, ⟨Q1, h1, h2⟩ => fun fz s r => by
  have next : ∀ (fz₁ : Fz) (σ₁ : St) (s₁ : Shared), Go C fz σ s fz₁ σ₁ s₁ → gR prog C R op (e₂ :: es) σ₁ Q → wpAny (Md prog C) C.A (eval (.BoolOp op (e₂ :: es) pos) C.env) (ai C fz σ s Q) (Ex C fz σ s R) s₁ := fun fz₁ σ₁ s₁ g h =>
   wpAny_mono (gS h fz₁ s₁ g.rep) (fun _ _ p => p.of_go g) fun _ _ e => Ex.of_go g e
  have k : ∀ (v : Value) (s₁ : Shared) (fz₁ : Fz) (x : V) (σ₁ : St), Go C fz σ s fz₁ σ₁ s₁ → RV C.P fz₁ x v → Q1 x σ₁ → ∃ b : Bool, v = .bool b ∧ if b = (op == .And) then gR prog C R op (e₂ :: es) σ₁ Q else ai C fz σ s Q v s₁ := fun v s₁ fz₁ x σ₁ g hv q => by
   have := h2 x σ₁ q
   unfold gm at this
   split at this
   ·rename_i b
    cases hv
    refine ⟨b, rfl, ?_⟩
    split
    ·rename_i e; rw [if_pos e] at this; exact this
    ·rename_i e; rw [if_neg e] at this; exact ⟨fz₁, _, σ₁, g, .bool b, this⟩
   ·exact this.elim
  cases op
  ·refine BoolOp_and (aX r h1 fun fz₁ x σ₁ s₁ v g hv q => ?_)
   obtain ⟨b, rfl, h⟩ := k v s₁ fz₁ x σ₁ g hv q
   refine wpAny_truthy_bool ?_
   cases b
   ·exact h
   ·exact next fz₁ σ₁ s₁ g h
  ·refine BoolOp_or (aX r h1 fun fz₁ x σ₁ s₁ v g hv q => ?_)
   obtain ⟨b, rfl, h⟩ := k v s₁ fz₁ x σ₁ g hv q
   refine wpAny_truthy_bool ?_
   cases b
   ·exact next fz₁ σ₁ s₁ g h
   ·exact h
theorem FC {e : Expr} {pos : Pos} {Q1 : V → St → Prop} (h : WE prog C σ (eval e C.env) Q1 R) (hq : ∀ v σ', Q1 v σ' → match v with | .int i => Q (.int (-i)) σ' | _ => False) : WE prog C σ (eval (.UnaryOp .USub e pos) C.env) Q R := fun fz s r =>
 wpAny_UnaryOp (aX r h fun fz₁ x σ₁ s₁ v g hv q => by
  have := hq x σ₁ q
  split at this
  ·cases hv; exact PySem.P.neg_int (ai.of_go g (ai.tok g.rep _ (.int _ _) this))
  ·exact this.elim)
theorem rG {b : List UInt8} {k : Nat} {pos : Pos} (hl : b.length ≤ cap) (h : Q (.bytes b) σ) : WE prog C σ (eval (.Constant (.bytes b) k pos) C.env) Q R := fun _ s r => Constant_bytes (ai.tok r _ (.bytes b s.toks hl) h)
end
noncomputable def bj (C : Cx) (x : Str) : Prop := C.env.kindOf x = some .local ∨ (C.env.kindOf x = some .cell ∧ ∃ c, C.env.cells.lookup x = some c ∧ c ∈ C.own ∧ ∀ y, C.env.cells.lookup y = some c → y = x)
theorem Fn.store {C : Cx} {sc : Scope} (F : Fn C sc) {x : Str} (h : sc.names.lookup x = some .local ∨ sc.names.lookup x = some .cell) : bj C x := by
 have e : C.env.kindOf x = sc.names.lookup x := by unfold Env.kindOf; rw [F.scope]
 rcases h with h | h
 ·exact .inl (e.trans h)
 ·exact .inr ⟨e.trans h, F.cells x (e.trans h)⟩
section
variable {prog : Program} {C : Cx} {σ : St} {Q : V → St → Prop} {R : St → Prop} {Qn Qn' : St → Prop} {Qr Qr' : V → St → Prop}
theorem fH (O : Ok C) {x : Str} (hx : bj C x) {v : V} {fz : Fz} {s : Shared} {u : Value} (r : bt C fz σ s) (hu : RV C.P fz v u) {M : Model} {A : Around} {E : Value → Shared → Prop} {K : Unit → Shared → Prop}
  (k : ∀ s', Go C fz σ s fz ⟨put x v σ.loc, σ.mem⟩ s' → K () s') : wpAny M A (storeName C.env x u) K E s := by
 rcases hx with hx | ⟨hx, c, h1, h2, h3⟩
 ·obtain ⟨m, hm, _⟩ := r.ns
  refine wpAny_storeName_local hx hm (fun h' hn hs => k _ (Go.store r x v u hu hx (fun m' hm' => ?_) hs)) (by rw [O.ek]; rfl)
  obtain ⟨o, es, ep, e1, e2, e3, e4⟩ := hm
  obtain ⟨o', es', ep', f1, f2, f3, f4⟩ := hm'
  rw [e1] at f1; cases f1
  rw [e2] at f2; cases f2
  have : m' = m := by funext y; rw [← e4, ← f4]
  rw [this]; exact hn
 ·obtain ⟨o, w, e1, e2⟩ := (r.nocell x c h1).2.2.2
  exact wpAny_storeName_cell O.ek hx h1 ⟨o, e1, e2⟩ fun h' hn hs => k _ (Go.storeCell r x v u c hu hx h1 h2 h3 hn hs)
theorem WS.mono {t : Sem Flow} {R' : St → Prop} (h : WS prog C σ t Qn Qr R) (hn : ∀ m, Qn m → Qn' m) (hr : ∀ v m, Qr v m → Qr' v m) (hR : ∀ m, R m → R' m) : WS prog C σ t Qn' Qr' R' := fun fz s r =>
 wpAny_mono (h fz s r) (fun _ _ p => p.mono hn hr) fun _ _ e => Ex.mono hR e
theorem rH (h : Qn σ) : WS prog C σ (execs [] C.env) Qn Qr R := fun fz s r => wpAny_execs_nil ⟨fz, σ, Go.refl r, h⟩
theorem iA {st : Stmt} {rest : List Stmt} {Q1 : St → Prop} (h1 : WS prog C σ (exec st C.env) Q1 Qr R) (h2 : ∀ σ', Q1 σ' → WS prog C σ' (execs rest C.env) Qn Qr R) : WS prog C σ (execs (st :: rest) C.env) Qn Qr R := fun fz s r =>
 wpAny_execs_cons (wpAny_mono (h1 fz s r) (fun f s₁ p => by
  cases f with
  | next =>
   obtain ⟨fz₁, σ₁, g, q⟩ := p
   exact wpAny_mono (h2 σ₁ q fz₁ s₁ g.rep) (fun _ _ p => p.of_go g) fun _ _ e => Ex.of_go g e
  | ret v => exact p
  | cont => exact p.elim
  | brk => exact p.elim) fun _ _ e => e)
noncomputable def eo (e : Expr) : Bool := e.ctorIdx != 8 && e.ctorIdx != 9 && e.ctorIdx != 10
theorem dC {e : Expr} (h : eo e = true) (t : Option Expr) (n : Nat) (env : Env) : swapsWith e t n env = pure false := by
 cases e <;> first | rfl | exact nomatch h
theorem kj (O : Ok C) {x : Str} {p pos : Pos} {value : Expr} (hx : bj C x) (hs : swapsWith value (some (.Name x p)) pos.line C.env = pure false) (h : WE prog C σ (eval value C.env) (fun v σ' => Qn ⟨put x v σ'.loc, σ'.mem⟩) R) :
  WS prog C σ (exec (.Assign [.Name x p] value pos) C.env) Qn Qr R := fun fz s r =>
 wpAny_Assign_Name (aX r h fun fz₁ v σ₁ s₁ u g hv q => fH O hx g.rep hv fun s₂ g₂ => ⟨fz₁, _, g.trans g₂, q⟩) hs
theorem jP (O : Ok C) {o value : Expr} {attr : Str} {p pos : Pos} {Q1 : V → St → Prop} {Q2 : V → V → St → Prop} (hc : eo value = true) (hv : WE prog C σ (eval value C.env) Q1 R) (ho : ∀ v σ₁, Q1 v σ₁ → WE prog C σ₁ (eval o C.env) (Q2 v) R)
  (hq : ∀ v o σ₂, Q2 v o σ₂ → Fv o attr v σ₂ Qn) : WS prog C σ (exec (.Assign [.Attribute o attr p] value pos) C.env) Qn Qr R := fun fz s r =>
 plainObj_wpAny_Assign_Attribute (aX r hv fun fz₁ v σ₁ s₁ u g hv q => da g (ho v σ₁ q) fun fz₂ o σ₂ s₂ uo g₂ sub ho q₂ => Hr O (hq v o σ₂ q₂) g₂.rep ho (hv.mono sub) fun σ' s' g₃ q₃ => ⟨fz₂, σ', g₂.trans g₃, q₃⟩) (dC hc _ _ _)
theorem lc (O : Ok C) {o i value : Expr} {p pos : Pos} {Q1 : V → St → Prop} {Q2 : V → V → St → Prop} {Q3 : V → V → V → St → Prop} (hc : eo value = true) (hv : WE prog C σ (eval value C.env) Q1 R) (ho : ∀ v σ₁, Q1 v σ₁ → WE prog C σ₁ (eval o C.env) (Q2 v) R)
  (hi : ∀ v o σ₂, Q2 v o σ₂ → WE prog C σ₂ (eval i C.env) (Q3 v o) R) (hq : ∀ v o i σ₃, Q3 v o i σ₃ → i3 o i v σ₃ Qn) : WS prog C σ (exec (.Assign [.Subscript o i p] value pos) C.env) Qn Qr R := fun fz s r =>
 wpAny_Assign_Subscript (aX r hv fun fz₁ v σ₁ s₁ u g hv q => da g (ho v σ₁ q) fun fz₂ o σ₂ s₂ uo g₂ sub ho q₂ => da g₂ (hi v o σ₂ q₂) fun fz₃ i σ₃ s₃ ui g₃ sub₃ hi q₃ =>
  pQ O (hq v o i σ₃ q₃) g₃.rep (ho.mono sub₃) hi (hv.mono fun p h => sub₃ p (sub p h)) fun σ' s' g₄ q₄ => ⟨fz₃, σ', g₃.trans g₄, q₄⟩) (dC hc _ _ _)
theorem oG (O : Ok C) {e : Expr} {pos : Pos} (hc : eo e = true) (h : WE prog C σ (eval e C.env) (fun _ σ' => Qn σ') R) : WS prog C σ (exec (.Expr e pos) C.env) Qn Qr R := fun fz s r =>
 wpAny_Expr_any (aX r h fun fz₁ v σ₁ s₁ u g hv q => ⟨fz₁, σ₁, g, q⟩) (by unfold interactive; rw [O.ek]; rfl) (dC hc _ _ _)
theorem FD {e : Expr} {pos : Pos} (h : WE prog C σ (eval e C.env) Qr R) : WS prog C σ (exec (.Return (some e) pos) C.env) Qn Qr R := fun fz s r =>
 wpAny_Return_some (aX r h fun fz₁ v σ₁ s₁ u g hv q => ⟨fz₁, v, σ₁, g, hv, q⟩)
theorem Hs {t : Expr} {a b : List Stmt} {pos : Pos} {Q1 : Bool → St → Prop} (ht : WT prog C σ t Q1 R) (h : ∀ c σ₁, Q1 c σ₁ → if c = true then WS prog C σ₁ (execs a C.env) Qn Qr R else WS prog C σ₁ (execs b C.env) Qn Qr R) : WS prog C σ (exec (.If t a b pos) C.env) Qn Qr R := fun fz s r =>
 wpAny_If (wpAny_mono (ht fz s r) (fun c s₁ ⟨fz₁, σ₁, g, q⟩ => by
  have := h c σ₁ q
  cases c
  ·exact wpAny_mono (this fz₁ s₁ g.rep) (fun _ _ p => p.of_go g) fun _ _ e => Ex.of_go g e
  ·exact wpAny_mono (this fz₁ s₁ g.rep) (fun _ _ p => p.of_go g) fun _ _ e => Ex.of_go g e) fun _ _ e => e)
noncomputable def gT : List Str → List V → List (Str × V) → List (Str × V)
 | x :: xs, v :: vs, l => gT xs vs (put x v l)
 | _, _, l => l
noncomputable def gb (e : Expr) : Option Str := dm e some none
theorem i7 {e : Expr} {x : Str} (h : gb e = some x) : ∃ p, e = .Name x p :=
 bY (F := (· = some x)) (G := fun e => ∃ p, e = .Name x p) h (fun y p h => by cases h; exact ⟨_, rfl⟩) aO
theorem l8 (O : Ok C) {M : Model} {A : Around} {E : Value → Shared → Prop} {K : Unit → Shared → Prop} {fz₀ : Fz} {σ₀ : St} {s₀ : Shared} {elts : List Expr} : ∀ {names : List Str} {vs : List V} {us : List Value} {σ : St} {fz : Fz} {s : Shared}, elts.map gb = names.map some → (∀ x ∈ names, bj C x) →
  Go C fz₀ σ₀ s₀ fz σ s → bu C.P fz vs us → names.length = vs.length → (∀ s', Go C fz₀ σ₀ s₀ fz ⟨gT names vs σ.loc, σ.mem⟩ s' → K () s') → wpAny M A (assignInOrder ((assignEach elts C.env).map (·.2)) us) K E s := by
 induction elts with
 | nil =>
  intro names vs us σ fz s he hx g hv hl k
  cases names with
  | cons _ _ => exact nomatch he
  | nil => cases hv with
   | nil => exact assignInOrder_nil (k _ g)
   | cons _ _ => exact nomatch hl
 | cons e es ih =>
  intro names vs us σ fz s he hx g hv hl k
  cases names with
  | nil => exact nomatch he
  | cons x xs => cases hv with
   | nil => exact nomatch hl
   | cons hv r =>
    obtain ⟨he1, he2⟩ := List.cons.inj he
    obtain ⟨p, rfl⟩ := i7 he1
    refine assignInOrder_cons (PyProof.Rows.assign_Name (fH O (hx x (.head _)) g.rep hv fun s₁ g₁ => ?_))
    exact ih he2 (fun y hy => hx y (.tail _ hy)) (g.trans g₁) r (Nat.succ.inj hl) k
theorem jQ {env : Env} {elts : List Expr} : ∀ {names : List Str}, elts.map gb = names.map some → (assignEach elts env).length = names.length ∧ (assignEach elts env).findIdx? (·.1) = none := by
 induction elts with
 | nil => intro names he; cases names with
  | nil => exact ⟨rfl, rfl⟩
  | cons _ _ => exact nomatch he
 | cons e es ih => intro names he; cases names with
  | nil => exact nomatch he
  | cons x xs =>
   obtain ⟨he1, he2⟩ := List.cons.inj he
   obtain ⟨p, rfl⟩ := i7 he1
   obtain ⟨h1, h2⟩ := ih he2
   refine ⟨congrArg (· + 1) h1, ?_⟩
   show ((false, assign (.Name x p) env) :: assignEach es env).findIdx? (·.1) = none
   rw [List.findIdx?_cons, h2]; rfl
noncomputable def rI (e : Expr) : Bool := e.ctorIdx != 25
theorem rJ (O : Ok C) {elts : List Expr} {names : List Str} {k0 : Nat} {p : Pos} (hn : elts.map gb = names.map some) (hx : ∀ x ∈ names, bj C x) {fz₀ fz : Fz} {σ₀ : St} {s₀ s : Shared} {vs : List V} {u : Value} (g : Go C fz₀ σ₀ s₀ fz σ s) (hu : RV C.P fz (.tup vs) u) (hl : names.length = vs.length)
  {E : Value → Shared → Prop} {K : Unit → Shared → Prop} (k : ∀ s', Go C fz₀ σ₀ s₀ fz ⟨gT names vs σ.loc, σ.mem⟩ s' → K () s') : wpAny (Md prog C) C.A (assign (.Tuple elts k0 p) C.env u) K E s := by
 cases hu with | tup hm hc hv =>
 obtain ⟨a1, a2⟩ := jQ (env := C.env) hn
 refine assign_Tuple_tuple O.hh (gM g.rep hm) (by rw [a1, List.size_toArray, hv.length, hl]) a2 fun h' he => ?_
 have g' : Go C fz₀ σ₀ s₀ fz σ { s with heap := h' } := g.trans (Go.keeps g.rep fun b o e => he b o (Nat.ne_of_lt (Heap.lt_size e)) e)
 exact l8 O hn hx g' hv hl k
theorem pR (O : Ok C) {elts : List Expr} {names : List Str} {k0 : Nat} {p pos : Pos} {value : Expr} (hn : elts.map gb = names.map some) (hx : ∀ x ∈ names, bj C x) (hc : eo value = true) (ht : rI value = true)
  (h : WE prog C σ (eval value C.env) (fun v σ' => ∃ vs, v = .tup vs ∧ names.length = vs.length ∧ Qn ⟨gT names vs σ'.loc, σ'.mem⟩) R) : WS prog C σ (exec (.Assign [.Tuple elts k0 p] value pos) C.env) Qn Qr R := fun fz s r =>
 PyProof.Rows.Assign_Tuple (aX r h fun fz₁ v σ₁ s₁ u g hv ⟨vs, e, hl, q⟩ => rJ O hn hx g (e ▸ hv) hl fun s' g' => ⟨fz₁, _, g', q⟩) (by unfold swapsWithSole; exact dC hc _ _ _) (by
  unfold swappedStores
  cases value <;> first | rfl | exact nomatch ht)
theorem rK (O : Ok C) (he : C.env = C.fenv) {t : Expr} {body : List Stmt} {pos : Pos} (I : Nat → St → Prop) (n : Nat) (h0 : I n σ)
  (turn : ∀ n σ₁, I n σ₁ → ∃ Q1 : Bool → St → Prop, WT prog C σ₁ t Q1 R ∧ ∀ b σ₂, Q1 b σ₂ → if b = true then WS prog C σ₂ (execs body C.env) (fun σ₃ => ∃ m, m < n ∧ I m σ₃) Qr R else Qn σ₂) :
  WS prog C σ (exec (.While t body [] pos) C.env) Qn Qr R := fun fz s r => by
 refine wpAny_While (codeAny_whileLoop (fun n s' => ∃ fz' σ', Go C fz σ s fz' σ' s' ∧ I n σ') (fun n s₁ ⟨fz₁, σ₁, g, hI⟩ => ?_) n ⟨fz, σ, Go.refl r, h0⟩)
 obtain ⟨Q1, h1, h2⟩ := turn n σ₁ hI
 have ex : ∀ {fz' σ' s' e s''}, Go C fz σ s fz' σ' s' → Ex C fz' σ' s' R e s'' → notedBy (Md prog C) C.A C.env (fun e s' => cameBackBy (Md prog C) C.A C.env (Ex C fz σ s R) e s') e s'' := fun g x => iP O r he (Ex.of_go g x)
 refine wpAny_mono (h1 fz₁ s₁ g.rep) (fun b s₂ ⟨fz₂, σ₂, g₂, q⟩ => ?_) fun e s₂ x => ex g x
 have := h2 b σ₂ q
 have G := g.trans g₂
 cases b
 ·simp only [Bool.false_eq_true, if_false] at this ⊢
  exact wpAny_execs_nil ⟨fz₂, σ₂, G, this⟩
 ·simp only [if_true] at this ⊢
  refine wpAny_mono (this fz₂ s₂ g₂.rep) (fun f s₃ p => ?_) fun e s₃ x => ex G x
  cases f with
  | next =>
   obtain ⟨fz₃, σ₃, g₃, m, hm, hI'⟩ := p
   exact ⟨m, hm, fz₃, σ₃, G.trans g₃, hI'⟩
  | ret v =>
   obtain ⟨fz₃, x, σ₃, g₃, hv, q⟩ := p
   exact ⟨fz₃, x, σ₃, G.trans g₃, hv, q⟩
  | cont => exact p.elim
  | brk => exact p.elim
end
noncomputable def i8 (lo hi : Int) : List V := (List.range (hi - lo).toNat).map fun i : Nat => V.int (lo + (i : Int))
noncomputable def eK : V → Option (List V)
 | .list l => some l
 | .tup l => some l
 | .bytes l => some (l.map fun c => .int c.toNat)
 | .rng lo hi => if 0 ≤ lo ∧ lo ≤ hi ∧ hi ≤ 4096 then some (i8 lo hi) else none
 | _ => none
inductive vR (P : Params) (fz : Fz) (h : Heap) (u : Value) (x : V) : Prop
 | mk (y z : V) (T : Addr) (v w : Value) (h1 : x = .tup [y, z]) (h2 : u = .ref T) (h3 : h.IsTuple T #[v, w]) (h4 : RV P fz y v) (h5 : RV P fz z w)
noncomputable def kl (P : Params) (fz : Fz) (h : Heap) (u : Value) (b : Bool) (x : V) : Prop := match b with
 | false => RV P fz x u
 | true => vR P fz h u x
theorem kl.mono {P : Params} {fz fz' : Fz} {h : Heap} {u : Value} (hs : ∀ p ∈ fz, p ∈ fz') {b : Bool} {x : V} (q : kl P fz h u b x) : kl P fz' h u b x := by
 cases b with
 | false => exact RV.mono hs q
 | true => obtain ⟨y, z, T, v, w, e1, e2, e3, e4, e5⟩ := q; exact vR.mk y z T v w e1 e2 e3 (e4.mono hs) (e5.mono hs)
structure ut (prog : Program) (C : Cx) (fz : Fz) (s s' : Shared) (pr : Bool) (xs : List V) (tg : Expr) (I : Addr) (wr : List Addr) (P M : Nat → Value → Heap → Prop) (St : Nat → Heap → Prop) : Prop where
 walk : ∃ fp, KTurns prog C.w C.A tg I fp wr xs.length P M St ∧ ∀ b ∈ fp, b ∉ wr → ∃ o, (b, o) ∈ fz
 new : ∀ b ∈ wr, s.heap.get? b = none
 keep : ∀ b o, s.heap.get? b = some o → s'.heap.get? b = some o
 size : s.heap.objs.size ≤ s'.heap.objs.size
 st : St 0 s'.heap
 isat : ∀ i h, St i h → ∀ b ∈ wr, (h.get? b).isSome = true
 val : ∀ i v h x, P i v h → xs[i]? = some x → kl C.P fz h v pr x
 gens : s'.gens = s.gens
 os : s'.os = s.os
 drawn : s'.drawn = s.drawn
 self : ∀ i (s : Shared) (Q : Value → Shared → Prop) (E : Value → Shared → Prop), St i s.heap → Q (.ref I) s → wpAny (Md prog C) C.A (pyIter (.ref I)) Q E s
section
variable {prog : Program} {C : Cx} {σ : St} {Q : V → St → Prop} {R : St → Prop} {Qn Qn' : St → Prop} {Qr Qr' : V → St → Prop}
theorem rL {lo hi : Int} (h0 : 0 ≤ lo) (h1 : lo ≤ hi) (h2 : hi ≤ 4096) : Builtin.Range.small lo hi 1 = true := by
 unfold Builtin.Range.small
 rw [rangeSize_one]
 simp only [Builtin.Range.rangeFitsLong, Bool.and_eq_true, decide_eq_true_eq]
 have e : (if lo < hi then hi - lo else 0) = hi - lo := by split <;> lia
 rw [e]
 refine ⟨⟨⟨⟨⟨by lia, by lia⟩, ⟨by lia, by lia⟩⟩, ⟨by lia, by lia⟩⟩, ⟨by lia, by lia⟩⟩, ?_⟩
 simp
 lia
theorem ut.of {fz : Fz} {s s' : Shared} {xs : List V} {x : Str} {px : Pos} {I : Addr} {fp : List Addr} {n : Nat} {P : Nat → Value → Prop} {St : Nat → Heap → Prop} (W : Walks prog C.w C.A I fp [I] n P St) (hn : n = xs.length) (hfp : ∀ b ∈ fp, b ≠ I → ∃ o, (b, o) ∈ fz)
  (new : s.heap.get? I = none) (keep : ∀ b o, s.heap.get? b = some o → s'.heap.get? b = some o) (size : s.heap.objs.size ≤ s'.heap.objs.size) (st : St 0 s'.heap) (isat : ∀ i h, St i h → (h.get? I).isSome = true) (val : ∀ i v x, P i v → xs[i]? = some x → RV C.P fz x v)
  (gens : s'.gens = s.gens) (os : s'.os = s.os) (drawn : s'.drawn = s.drawn) : ut prog C fz s s' false xs (.Name x px) I [I] (fun i v _ => P i v) (fun i v h => P i v ∧ St (i + 1) h) St := by
 subst hn
 exact ⟨⟨fp, KTurns.ofWalks W fun _ _ _ _ _ _ q => wpAny_of_eq rfl q, fun b hb hne => hfp b hb fun e => hne (e ▸ .head _)⟩, fun b hb => List.mem_singleton.mp hb ▸ new, keep, size, st, fun i h s b hb => List.mem_singleton.mp hb ▸ isat i h s, fun i v h x => val i v x, gens, os, drawn, W.self⟩
theorem l9 {fz : Fz} {P : Params} {l : List V} {vs : List Value} (hv : bu P fz l vs) {i : Nat} {v : Value} {x : V} (hP : vs.toArray[i]? = some v) (hx : l[i]? = some x) : RV P fz x v := by
 obtain ⟨y, e, hy⟩ := hv.get hx
 rw [List.getElem?_toArray, e] at hP
 cases hP; exact hy
theorem rM {fz : Fz} {I a b : Addr} {o : Obj} (hm : (a, o) ∈ fz) (hb : b ∈ [I, a]) (hne : b ≠ I) : ∃ o, (b, o) ∈ fz := (List.mem_cons.mp hb).elim (fun h => absurd h hne) fun h => ⟨o, by rw [List.mem_singleton.mp h]; exact hm⟩
theorem FE (O : Ok C) {v : V} {xs : List V} (hx : eK v = some xs) {x : Str} {px : Pos} {fz : Fz} {s : Shared} {u : Value} (r : bt C fz σ s) (hu : RV C.P fz v u) {K : Value → Shared → Prop} {E : Value → Shared → Prop}
  (k : ∀ I wr P M St s', ut prog C fz s s' false xs (.Name x px) I wr P M St → K (.ref I) s') : wpAny (Md prog C) C.A (pyIter u) K E s := by
 have fr := aP s.heap
 have kp : ∀ (O : Obj) b o, s.heap.get? b = some o → (s.heap.push O).get? b = some o := fun _ b o e => Heap.get?_push_of_some _ e
 have sz : ∀ O : Obj, s.heap.objs.size ≤ (s.heap.push O).objs.size := fun _ => by rw [Heap.size_push]; exact Nat.le_succ _
 cases hu with
 | @list l a vs n hm hl hv =>
  cases hx
  have il := eI r hm
  have W := Walks.list (prog := prog) (w := C.w) O.hh s.heap.objs.size a (Nat.ne_of_lt (Heap.lt_size (r.fro _ hm).1)) vs.toArray
  exact wpAny_pyIter_list il (k _ _ _ _ _ _ (.of W hv.length (fun b hb hne => rM hm hb hne) fr (kp _) (sz _) ⟨⟨_, Heap.get?_push_size _ rfl, rfl, rfl⟩, il.push _⟩ (fun i h ⟨⟨o, e, _⟩, _⟩ => az e) (fun i v x hP hx => l9 hv hP hx) rfl rfl rfl))
 | @tup l a vs n hm hl hv =>
  cases hx
  have il := gM r hm
  have W := Walks.tuple (prog := prog) (w := C.w) O.hh s.heap.objs.size a (Nat.ne_of_lt (Heap.lt_size (r.fro _ hm).1)) vs.toArray
  exact wpAny_pyIter_tuple il (k _ _ _ _ _ _ (.of W hv.length (fun b hb hne => rM hm hb hne) fr (kp _) (sz _) ⟨⟨_, Heap.get?_push_size _ rfl, rfl, rfl⟩, let ⟨o, e, r⟩ := il; ⟨o, kp _ _ _ e, r⟩⟩ (fun i h ⟨⟨o, e, _⟩, _⟩ => az e) (fun i v x hP hx => l9 hv hP hx) rfl rfl rfl))
 | @bytes l t hl =>
  cases hx
  have W := KBw.walks (prog := prog) (w := C.w) O.hh s.heap.objs.size l.toArray t
  exact KBw.pyIter_bytes (k _ _ _ _ _ _ (.of W (by rw [List.size_toArray, List.length_map]) (fun b hb hne => absurd (List.mem_singleton.mp hb) hne) fr (kp _) (sz _) ⟨_, Heap.get?_push_size _ rfl, rfl, rfl⟩ (fun i h ⟨o, e, _⟩ => az e) (fun i v x ⟨c, u, e1, e2⟩ hx => by
   rw [List.getElem?_toArray] at e1
   rw [List.getElem?_map, e1] at hx
   cases hx; subst e2
   exact .int _ _) rfl rfl rfl))
 | @rng lo hi a t1 t2 t3 hm =>
  replace hx : (if 0 ≤ lo ∧ lo ≤ hi ∧ hi ≤ 4096 then some (i8 lo hi) else none) = some xs := hx
  by_cases hb : 0 ≤ lo ∧ lo ≤ hi ∧ hi ≤ 4096
  ·rw [if_pos hb] at hx
   cases hx
   have W := Walks.range (prog := prog) (w := C.w) O.hh s.heap.objs.size lo 1 (hi - lo).toNat
   have hs : Builtin.Range.rangeSize lo hi 1 = ((hi - lo).toNat : Int) := by rw [rangeSize_one]; split <;> lia
   refine wpAny_pyIter_range (t := t1) (u := t2) (v := t3) (r.fro _ hm).1 (rL hb.1 hb.2.1 hb.2.2) (k _ _ _ _ _ _ (.of W (by rw [i8, List.length_map, List.length_range]) (fun b hb hne => absurd (List.mem_singleton.mp hb) hne) fr (kp _) (sz _) ?_ (fun i h e => az e) (fun i v x hP hx => ?_) rfl rfl rfl))
   ·rw [hs]
    show Heap.get? _ _ = _
    rw [Heap.get?_push_size _ rfl]
    simp [rawInt]
   ·obtain ⟨t, rfl⟩ := hP
    unfold i8 at hx
    rw [List.getElem?_map] at hx
    obtain ⟨j, e1, e2⟩ := bR hx
    subst e2
    obtain ⟨h1, h2⟩ := List.getElem?_eq_some_iff.mp e1
    rw [List.getElem_range] at h2
    subst h2
    rw [Int.mul_one]
    exact .int _ _
  ·rw [if_neg hb] at hx; cases hx
 | _ => exact aO hx
noncomputable def ma (prog : Program) (C : Cx) (pr : Bool) (tg : Expr) (bd : V → List (Str × V) → List (Str × V)) : Prop := ∀ (fz : Fz) (σ : QZ.St) (s : Shared) (u : Value) (x : V) (K : Unit → Shared → Prop) (E : Value → Shared → Prop), bt C fz σ s → kl C.P fz s.heap u pr x →
 (∀ s', Go C fz σ s fz ⟨bd x σ.loc, σ.mem⟩ s' → K () s') → wpAny (Md prog C) C.A (assign tg C.env u) K E s
theorem oH (O : Ok C) {x : Str} {px : Pos} (hx : bj C x) : ma prog C false (.Name x px) (put x) := fun _ _ _ _ _ _ _ r h k => wpAny_assign_Name (fH O hx r h k)
noncomputable def JH (a b : Str) : V → List (Str × V) → List (Str × V)
 | .tup l, lo => gT [a, b] l lo
 | _, lo => lo
theorem oI (O : Ok C) {a b : Str} {pa pb p : Pos} {k0 : Nat} (ha : bj C a) (hb : bj C b) : ma prog C true (.Tuple [.Name a pa, .Name b pb] k0 p) (JH a b) := fun fz σ s u x K E r ⟨y, z, T, v, w, e1, e2, e3, e4, e5⟩ k => by
 subst e1 e2
 refine assign_Tuple_tuple O.hh e3 rfl rfl fun h' he => ?_
 exact l8 O (names := [a, b]) (vs := [y, z]) rfl (fun n hn => by
  rcases List.mem_cons.mp hn with rfl | hn
  ·exact ha
  ·rw [List.mem_singleton.mp hn]; exact hb) (Go.keeps r (fun b o e => he b o (Nat.ne_of_lt (Heap.lt_size e)) e) rfl rfl rfl) (.cons e4 (.cons e5 .nil)) rfl k
noncomputable def rN (prog : Program) (C : Cx) (R : St → Prop) (bd : V → List (Str × V) → List (Str × V)) (body : List Stmt) (Qn : St → Prop) (Qr : V → St → Prop) : List V → St → Prop
 | [], σ => Qn σ
 | v :: vs, σ => WS prog C ⟨bd v σ.loc, σ.mem⟩ (execs body C.env) (fun σ' => rN prog C R bd body Qn Qr vs σ') Qr R
structure At (prog : Program) (C : Cx) (fz₀ : Fz) (σ₀ : St) (s₀ : Shared) (wr : List Addr) (St : Nat → Heap → Prop) (i : Nat) (fz : Fz) (σ : QZ.St) (s : Shared) : Prop where
 go : Go C fz₀ σ₀ s₀ fz σ s
 aw : ∀ b ∈ wr, Aw fz σ b
 st : St i s.heap
variable {pr : Bool} {tg : Expr} {wr : List Addr} {P M : Nat → Value → Heap → Prop} {St : Nat → Heap → Prop} {I : Addr} {xs : List V} {bd : V → List (Str × V) → List (Str × V)}
theorem At.step {fz₀ fz fz' : Fz} {σ₀ σ' : QZ.St} {s₀ s' s s'' : Shared} {i : Nat} (r₀ : bt C fz₀ σ₀ s₀) (T : ut prog C fz₀ s₀ s' pr xs tg I wr P M St) (A : At prog C fz₀ σ₀ s₀ wr St i fz σ s) (g : Go C fz σ s fz' σ' s'') :
  At prog C fz₀ σ₀ s₀ wr St i fz' σ' s'' := by
 obtain ⟨fp, W, hfp⟩ := T.walk
 have hI := T.isat i _ A.st
 refine ⟨A.go.trans g, fun b hb => (A.aw b hb).step (hI b hb) g, W.frame i _ _ A.st fun b hb o e => ?_⟩
 by_cases q : b ∈ wr
 ·exact Aw.keep r₀ (T.new b q) (A.aw b q) e g
 ·obtain ⟨o', hm⟩ := hfp b hb q
  have e1 := (A.go.rep.fro _ (A.go.sub _ hm)).1
  rw [e] at e1; cases e1
  exact (g.rep.fro _ (g.sub _ (A.go.sub _ hm))).1
theorem ut.start {fz : Fz} {s s' : Shared} (T : ut prog C fz s s' pr xs tg I wr P M St) (r : bt C fz σ s) : At prog C fz σ s wr St 0 fz σ s' :=
 have g := Go.keeps r T.keep T.gens T.os T.drawn
 ⟨g, fun b hb => Aw.new r (T.new b hb), T.st⟩
theorem At.next {fz₀ fz : Fz} {σ₀ : QZ.St} {s₀ s' s : Shared} {i : Nat} (r₀ : bt C fz₀ σ₀ s₀) (T : ut prog C fz₀ s₀ s' pr xs tg I wr P M St) (hi : i ≤ xs.length) (A : At prog C fz₀ σ₀ s₀ wr St i fz σ s) {D : Shared → Prop} {K : Value → Shared → Prop} {E E' : Value → Shared → Prop}
  (item : ∀ x u s₁, xs[i]? = some x → kl C.P fz s₁.heap u pr x → At prog C fz₀ σ₀ s₀ wr St (i + 1) fz σ s₁ → (∀ b o, b ∉ wr → s.heap.get? b = some o → s₁.heap.get? b = some o) → K u s₁) (done : ∀ s₁, i = xs.length → Go C fz₀ σ₀ s₀ fz σ s₁ → (∀ b o, b ∉ wr → s.heap.get? b = some o → s₁.heap.get? b = some o) → D s₁) :
  wpAny (Md prog C) C.A (pyNext (.ref I)) (fun r s₁ => match r with | none => D s₁ | some v => wpAny (Md prog C) C.A (letOwnedTupleGo tg (.ref I) v) (fun _ s₂ => K v s₂) E s₁) E' s := by
 obtain ⟨fp, W, hfp⟩ := T.walk
 have tn : ∀ {h' tk}, (∀ b o, b ∉ wr → s.heap.get? b = some o → h'.get? b = some o) → Go C fz₀ σ₀ s₀ fz σ { s with heap := h', toks := tk } := fun hk =>
  Go.turn r₀ A.go wr (fun x hx => ⟨T.new x hx, A.aw x hx⟩) hk
 by_cases h : i < xs.length
 ·refine W.item i s _ _ h A.st fun v h' tk hM hk => W.go i v _ _ _ hM fun h₂ hP hst hk₂ => ?_
  have hx : xs[i]? = some xs[i] := List.getElem?_eq_getElem h
  have hk' : ∀ b o, b ∉ wr → s.heap.get? b = some o → h₂.get? b = some o := fun b o hb e => hk₂ b o hb (hk b o hb e)
  exact item _ _ _ hx ((T.val i v _ _ hP hx).mono fun p hp => A.go.sub p hp) ⟨tn hk', A.aw, hst⟩ hk'
 ·have e : i = xs.length := Nat.le_antisymm hi (Nat.not_lt.mp h)
  refine W.done s _ _ (e ▸ A.st) fun h' tk hk => done _ e (tn hk) hk
inductive OH (prog : Program) (C : Cx) (fz : Fz) (σ : QZ.St) (s : Shared) (pr : Bool) (tg : Expr) (Q : List V → QZ.St → Prop) (it : Value) (s₂ : Shared) : Prop
 | mk (fz₁ : Fz) (σ₁ : QZ.St) (s₃ : Shared) (xs : List V) (I : Addr) (wr : List Addr) (P M : Nat → Value → Heap → Prop) (St : Nat → Heap → Prop) (h1 : it = .ref I) (g : Go C fz σ s fz₁ σ₁ s₃) (T : ut prog C fz₁ s₃ s₂ pr xs tg I wr P M St) (hl : xs.length ≤ cap) (q : Q xs σ₁)
noncomputable def WI (prog : Program) (C : Cx) (σ : QZ.St) (pr : Bool) (tg iter : Expr) (Q : List V → QZ.St → Prop) (R : QZ.St → Prop) : Prop := ∀ fz s, bt C fz σ s → wpAny (Md prog C) C.A (eval iter C.env) (fun u s₁ => wpAny (Md prog C) C.A (pyIter u) (OH prog C fz σ s pr tg Q) (Ex C fz σ s R) s₁) (Ex C fz σ s R) s
theorem md {P : Params} {fz : Fz} {v : V} {u : Value} {xs : List V} (h : RV P fz v u) (e : eK v = some xs) : xs.length ≤ cap := by
 cases h with
 | list _ hl _ => cases e; exact hl
 | tup _ hl _ => cases e; exact hl
 | bytes l t hl => cases e; rw [List.length_map]; exact hl
 | @rng lo hi a t1 t2 t3 hm =>
  replace e : (if 0 ≤ lo ∧ lo ≤ hi ∧ hi ≤ 4096 then some (i8 lo hi) else none) = some xs := e
  by_cases hb : 0 ≤ lo ∧ lo ≤ hi ∧ hi ≤ 4096
  ·rw [if_pos hb] at e; cases e; unfold i8 cap; rw [List.length_map, List.length_range]; lia
  ·rw [if_neg hb] at e; cases e
 | _ => exact aO e
theorem oJ (O : Ok C) {x : Str} {px : Pos} {iter : Expr} {Q : List V → QZ.St → Prop} (h : WE prog C σ (eval iter C.env) (fun v σ' => fS (eK v) fun xs => Q xs σ') R) : WI prog C σ false (.Name x px) iter Q R := fun fz s r =>
 aX r h fun fz₁ v σ₁ s₁ u g hv q => by
  obtain ⟨xs, hxs, q⟩ := bq q
  exact FE O hxs g.rep hv fun I wr P M St s₂ T => ⟨fz₁, σ₁, s₁, xs, I, wr, P, M, St, rfl, g, T, md hv hxs, q⟩
inductive LQ (prog : Program) (C : Cx) (R : QZ.St → Prop) (bd : V → List (Str × V) → List (Str × V)) (body : List Stmt) (Qn : QZ.St → Prop) (Qr : V → QZ.St → Prop) (xs : List V) (fz₁ : Fz) (σ₁ : QZ.St) (s₁ : Shared) (wr : List Addr) (St : Nat → Heap → Prop) (n : Nat) (s' : Shared) : Prop
 | mk (i : Nat) (fz' : Fz) (σ' : QZ.St) (hn : n = xs.length - i) (hi : i ≤ xs.length) (A : At prog C fz₁ σ₁ s₁ wr St i fz' σ' s') (q : rN prog C R bd body Qn Qr (xs.drop i) σ')
theorem rO (O : Ok C) (he : C.env = C.fenv) {tg : Expr} {pos : Pos} {iter : Expr} {body : List Stmt} (ht : ma prog C pr tg bd) (hset : ∀ u, foldedSetIterable iter C.env u = pure u)
  (h : WI prog C σ pr tg iter (fun xs σ' => rN prog C R bd body Qn Qr xs σ') R) : WS prog C σ (exec (.For tg iter body [] pos) C.env) Qn Qr R := fun fz s r => by
 refine wpAny_For (wpAny_mono (h fz s r) (fun u s₁ h => wpAny_mono h (fun it s₂ h => ?_) fun _ _ e => e) fun _ _ e => e) hset
 refine gk fun _ kk => ?_
 obtain ⟨fz₁, σ₁, s₁, xs, I, wr, P, M, St, rfl, g, T, _, q⟩ := h
 refine kk ?_; clear kk
 have r₁ := g.rep
 have ex : ∀ {fz' σ' s' e s''}, Go C fz₁ σ₁ s₁ fz' σ' s' → Ex C fz' σ' s' R e s'' → notedBy (Md prog C) C.A C.env (fun e s' => cameBackBy (Md prog C) C.A C.env (Ex C fz σ s R) e s') e s'' := fun g' x => iP O r he (Ex.of_go (g.trans g') x)
 refine codeAny_forLoop_any (LQ prog C R bd body Qn Qr xs fz₁ σ₁ s₁ wr St) (fun n s' ⟨i, fz', σ', hn, hi, A, hq⟩ => ?_) _ ⟨0, fz₁, σ₁, rfl, Nat.zero_le _, T.start r₁, by simpa using q⟩
 refine A.next r₁ T hi (fun y u s₃ hy hu A₃ _ => ?_) fun s₃ e g₃ _ => ?_
 ·have hd : xs.drop i = y :: xs.drop (i + 1) := by
   obtain ⟨h1, h2⟩ := List.getElem?_eq_some_iff.mp hy
   rw [List.drop_eq_getElem_cons h1, h2]
  rw [hd] at hq
  have hi' : i < xs.length := (List.getElem?_eq_some_iff.mp hy).1
  refine ht _ _ _ _ _ _ _ A₃.go.rep hu fun s₄ g₄ => ?_
  have A₄ := A₃.step r₁ T g₄
  refine wpAny_mono (hq fz' s₄ A₄.go.rep) (fun f s₅ p => ?_) fun e s₅ x => ex A₄.go x
  cases f with
  | next =>
   refine gk fun _ kk => ?_
   obtain ⟨fz₅, σ₅, g₅, q₅⟩ := p
   refine kk ?_; clear kk
   exact ⟨xs.length - (i + 1), by rw [hn]; exact Nat.sub_succ_lt_self _ _ hi', i + 1, fz₅, σ₅, rfl, hi', A₄.step r₁ T g₅, q₅⟩
  | ret v =>
   refine gk fun _ kk => ?_
   obtain ⟨fz₅, y, σ₅, g₅, hv, q₅⟩ := p
   refine kk ?_; clear kk
   exact ⟨fz₅, y, σ₅, g.trans (A₄.go.trans g₅), hv, q₅⟩
  | cont => exact p.elim
  | brk => exact p.elim
 ·subst e
  rw [List.drop_length] at hq
  exact wpAny_execs_nil ⟨fz', σ', g.trans g₃, hq⟩
end
noncomputable def bf : List (Str × NameKind) → List Str
 | [] => []
 | (n, k) :: r => if k == .free then n :: bf r else bf r
theorem cU (n : Str) (k : NameKind) (r : List (Str × NameKind)) : bf ((n, k) :: r) = if k == .free then n :: bf r else bf r := rfl
noncomputable def jR (env : Env) (ns : List Str) (acc : List (Str × Addr)) : List (Str × Addr) := ns.foldl (fun acc n => (n, (env.cells.lookup n).getD 0) :: acc) acc
theorem fU {env : Env} {scope : Scope} (h : ∀ n ∈ bf scope.names, (env.cells.lookup n).isSome = true) : closureFor scope env = pure (jR env (bf scope.names) []) := by
 unfold closureFor
 suffices ∀ (names : List (Str × NameKind)) (acc : List (Str × Addr)), (∀ n ∈ bf names, (env.cells.lookup n).isSome = true) →
   (forIn names acc fun (x : Str × NameKind) (cs : List (Str × Addr)) => if x.2 == .free then (do let a ← cellOf env x.1; pure (ForInStep.yield ((x.1, a) :: cs))) else pure (ForInStep.yield cs) : Sem (List (Str × Addr))) = pure (jR env (bf names) acc) by
  have := this scope.names [] h
  simp only [bind_pure]
  rw [← this]
 intro names
 induction names with
 | nil => intro acc _; rw [List.forIn_nil]; rfl
 | cons x r ih =>
  obtain ⟨n, k⟩ := x
  intro acc h
  rw [List.forIn_cons]
  simp only
  by_cases hk : (k == NameKind.free) = true
  ·have hn : n ∈ bf ((n, k) :: r) := by rw [cU, if_pos hk]; exact .head _
   obtain ⟨c, hc⟩ := Option.isSome_iff_exists.mp (h n hn)
   have e : cellOf env n = pure c := by unfold cellOf; rw [hc]
   rw [if_pos hk, e]
   simp only [pure_bind]
   rw [ih _ fun m hm => h m (by rw [cU, if_pos hk]; exact .tail _ hm)]
   rw [cU, if_pos hk]
   unfold jR
   rw [List.foldl_cons, hc]; rfl
  ·rw [if_neg hk]
   simp only [pure_bind]
   rw [ih _ fun m hm => h m (by rw [cU, if_neg hk]; exact hm)]
   rw [cU, if_neg hk]
theorem fh {env : Env} {x : Str} : ∀ (ns : List Str) (acc : List (Str × Addr)), (jR env ns acc).lookup x = if x ∈ ns then some ((env.cells.lookup x).getD 0) else acc.lookup x
 | [], acc => by simp [jR]
 | n :: ns, acc => by
  have := fh (env := env) (x := x) ns ((n, (env.cells.lookup n).getD 0) :: acc)
  unfold jR at this ⊢
  rw [List.foldl_cons, this, List.lookup_cons]
  by_cases h : x ∈ ns
  ·simp [h]
  ·by_cases q : x = n
   ·subst q; simp [h]
   ·have : (x == n) = false := by simpa using q
    simp [h, q, this]
theorem dI {x : Str} : ∀ (names : List (Str × NameKind)) (n : Nat) (acc : List (Str × Addr)), (∀ p ∈ names, p.1 = x → p.2 ≠ .cell) → (cellsFrom n names acc).lookup x = acc.lookup x
 | [], _, _, _ => rfl
 | (y, k) :: r, n, acc, h => by
  unfold cellsFrom
  split
  ·rename_i hk
   rw [dI r _ _ fun p hp => h p (.tail _ hp), List.lookup_cons]
   have : (x == y) = false := by
    cases q : (x == y) with
    | false => rfl
    | true => exact absurd (eq_of_beq hk) (h _ (.head _) (eq_of_beq q).symm)
   rw [this]
  ·exact dI r _ _ fun p hp => h p (.tail _ hp)
theorem lg {scope : Scope} {env : Env} {cenv : Env} (h : cenv.scope = relabel scope env) (x : Str) : cenv.kindOf x = (scope.names.lookup x).map fun k => if (k == .free && env.scope.kind == .function && env.kindOf x == some .cell) then .cell else k := by
 show cenv.scope.names.lookup x = _
 rw [h]
 show (scope.names.map fun (n, k) => if (k == .free && env.scope.kind == .function && env.kindOf n == some .cell) then (n, .cell) else (n, k)).lookup x = _
 induction scope.names with
 | nil => rfl
 | cons p r ih =>
  obtain ⟨n, k⟩ := p
  rw [List.map_cons]
  cases q : (x == n) with
  | true =>
   have e := eq_of_beq q
   subst e
   simp only [List.lookup_cons, q, Option.map_some]
   split <;> rename_i hc <;> simp [hc]
  | false =>
   simp only [List.lookup_cons, q]
   rw [← ih]
   split <;> rw [List.lookup_cons, q]
theorem dA : ∀ (names : List (Str × NameKind)) (n : Nat) (acc : List (Str × Addr)), cellsFrom n names acc = cellsFrom n names [] ++ acc
 | [], _, _ => rfl
 | (y, k) :: r, n, acc => by
  unfold cellsFrom
  split
  ·rw [dA r (n + 1) ((y, n) :: acc), dA r (n + 1) [(y, n)], List.append_assoc]; rfl
  ·exact dA r n acc
structure jS (C : Cx) (nm : List (Str × NameKind)) : Prop where
 glob : ∀ x, nm.lookup x = some .globalImplicit → C.env.kindOf x = some .globalImplicit
 cells : ∀ x, nm.lookup x = some .cell ∨ nm.lookup x = some .free → (C.env.kindOf x = some .cell ∨ C.env.kindOf x = some .free) ∧ (C.env.cells.lookup x).isSome = true
noncomputable def gc (nm : List (Str × NameKind)) (scope : Scope) (x : Str) : Bool :=
 scope.kind == .function && decide ((scope.names.map (·.1)).Nodup) && (scope.names.lookup x == some .local || scope.names.lookup x == some .cell) &&
 (bf scope.names).all fun n => (nm.lookup n == some .cell || nm.lookup n == some .free) && n != ("__classdict__" : Str)
theorem fI {x : Str} : ∀ {names : List (Str × NameKind)}, x ∈ bf names → (x, NameKind.free) ∈ names
 | (n, k) :: r, h => by
  rw [cU] at h
  split at h
  ·rename_i hk
   rcases List.mem_cons.mp h with rfl | h
   ·rw [eq_of_beq hk]; exact .head _
   ·exact .tail _ (fI h)
  ·exact .tail _ (fI h)
theorem fJ {x : Str} : ∀ {names : List (Str × NameKind)}, (x, NameKind.free) ∈ names → x ∈ bf names
 | (n, k) :: r, h => by
  rw [cU]
  rcases List.mem_cons.mp h with h | h
  ·cases h; exact .head _
  ·split
   ·exact .tail _ (fJ h)
   ·exact fJ h
theorem df {α : Type} {x : Str} {k : α} : ∀ {l : List (Str × α)}, (l.map (·.1)).Nodup → (x, k) ∈ l → l.lookup x = some k
 | (n, j) :: r, hn, h => by
  obtain ⟨h1, h2⟩ := List.nodup_cons.mp hn
  rw [List.lookup_cons]
  rcases List.mem_cons.mp h with h | h
  ·cases h; simp
  ·have : (x == n) = false := by
    cases q : (x == n) with
    | false => rfl
    | true => exact absurd (List.mem_map.mpr ⟨_, h, eq_of_beq q⟩) h1
   rw [this]; exact df h2 h
noncomputable def rP (C : Cx) (scope : Scope) (L : Addr) (σ : St) (h : Heap) : Cx :=
 let env : Env := { scope := relabel scope C.env, locals := L, globals := C.env.globals, cells := cellsFrom (L + 1) scope.names (jR C.env (bf scope.names) []), qual := C.env.qual, func := none, code := C.env.code, frame := C.env.frame, builtins := C.env.builtins }
 { C with h₀ := hideAll h (σ.mem.map (·.1) ++ (L :: dW (cellsFrom (L + 1) scope.names [])) ++ C.frs), env := env, own := L :: dW (cellsFrom (L + 1) scope.names []) }
noncomputable def dM (scope : Scope) (l : List (Str × V)) : List (Str × V) := l.filter fun p => (bf scope.names).contains p.1
theorem cP {α : Type} {f : Str → Bool} {x : Str} : ∀ (l : List (Str × α)), (l.filter fun p => f p.1).lookup x = if f x = true then l.lookup x else none
 | [] => by simp
 | (y, v) :: l => by
  have ih := cP (f := f) (x := x) l
  rw [List.filter_cons, List.lookup_cons]
  cases q : (x == y) with
  | true =>
   have e := eq_of_beq q
   subst e
   by_cases h : f x = true
   ·simp [h]
   ·simp only [h, Bool.false_eq_true, if_false] at ih ⊢; exact ih
  | false =>
   by_cases h : f y = true
   ·simp only [h, if_true, List.lookup_cons, q]; exact ih
   ·simp only [h, Bool.false_eq_true, if_false]; exact ih
theorem uu {C : Cx} {nm : List (Str × NameKind)} {scope : Scope} {x : Str} {fz : Fz} {σ : St} {s s₁ : Shared} (O : Ok C) (B : jS C nm) (hc : gc nm scope x = true) (r : bt C fz σ s) {L : Addr} {h : Heap}
  (hk : ∀ b o, s.heap.get? b = some o → s₁.heap.get? b = some o) (hs : s₁.heap = pushCells (h.push { cls := .type "dict", data := .dict #[] }) scope.names) (hL : L = h.objs.size) (hle : s.heap.objs.size ≤ h.objs.size) (hh : ∀ b o, s.heap.get? b = some o → h.get? b = some o)
  (xs : List Addr) (hxs : ∀ b ∈ xs, s.heap.get? b = none ∧ b < L) (hg : s₁.gens = s.gens) (ho : s₁.os = s.os) (hd : s₁.drawn = s.drawn) :
  let C' := rP C scope L σ (hideAll s₁.heap xs)
  Ok C' ∧ jS C' scope.names ∧ bj C' x ∧ Sub C C' fz σ s { s₁ with heap := hideAll s₁.heap xs } ∧ bt C' fz ⟨dM scope σ.loc, σ.mem⟩ { s₁ with heap := hideAll s₁.heap xs } := by
 intro C'
 unfold gc at hc
 simp only [Bool.and_eq_true, Bool.or_eq_true, beq_iff_eq, decide_eq_true_eq] at hc
 refine gk fun _ kk => ?_
 obtain ⟨⟨⟨hkind, hnd⟩, hx⟩, hfr⟩ := hc
 refine kk ?_; clear kk
 have fr : ∀ n ∈ bf scope.names, (nm.lookup n = some .cell ∨ nm.lookup n = some .free) ∧ (n == ("__classdict__" : Str)) = false := fun n hn => by
  have := List.all_eq_true.mp hfr n hn
  simp only [Bool.and_eq_true, Bool.or_eq_true, beq_iff_eq, bne_iff_ne, ne_eq] at this
  exact ⟨this.1, beq_eq_false_iff_ne.mpr this.2⟩
 have hok : CellsOk s₁.heap (L + 1) (cellsFrom (L + 1) scope.names []) := by
  have := cellsFrom_ok scope.names (h.push { cls := .type "dict", data := .dict #[] }) (L + 1) [] ⟨fun _ _ hm => (nomatch hm), List.Pairwise.nil⟩ (by rw [Heap.size_push, hL]; exact Nat.le_refl _)
  rw [Heap.size_push, ← hL, ← hs] at this
  exact this
 have fresh : ∀ {b}, L ≤ b → s.heap.get? b = none := fun hb => Heap.get?_none_of_le (Nat.le_trans hle (hL ▸ hb))
 have at1 : ∀ {b o}, L ≤ b → s₁.heap.get? b = some o → (hideAll s₁.heap xs).get? b = some o := fun hb e => hideAll_get _ e fun hm => absurd (hxs _ hm).2 (Nat.not_lt.mpr hb)
 have at0 : ∀ {b o}, s.heap.get? b = some o → (hideAll s₁.heap xs).get? b = some o := fun e => hideAll_get _ (hk _ _ e) fun hm => by rw [(hxs _ hm).1] at e; cases e
 have hLo : (hideAll s₁.heap xs).get? L = some { cls := .type "dict", data := .dict #[] } := at1 (Nat.le_refl _) (by
  rw [hs]; exact pushCells_keeps _ _ _ _ (by rw [hL]; exact Heap.get?_push_size _ rfl))
 have S : Sub C C' fz σ s { s₁ with heap := hideAll s₁.heap xs } := by
  refine ⟨rfl, fun b o e => at0 e, rfl, fun b hb => ?_, .head _, fun b hb => .inl hb, ⟨hg.trans r.gens, rfl⟩, ⟨ho.trans r.os, rfl⟩, ⟨hd.trans r.drawn, rfl⟩⟩
  rcases List.mem_cons.mp hb with rfl | hb
  ·exact ⟨fresh (Nat.le_refl _), az hLo⟩
  ·obtain ⟨n, e⟩ := ea hb
   refine gk fun _ kk => ?_
   obtain ⟨⟨o, e', _⟩, h2⟩ := hok.empty n b (mem_of_lookup e)
   refine kk ?_; clear kk
   exact ⟨fresh (Nat.le_of_succ_le h2), az (at1 (Nat.le_of_succ_le h2) e')⟩
 have kb : ∀ b o, C.h₀.get? b = some o → C'.h₀.get? b = some o := fun b o e => by
  have e' := r.base b o e
  refine S.at e' ?_ (S.nfr e' fun h => by have := (r.fr b h).1; rw [e] at this; cases this)
  cases q : σ.mem.lookup b with
  | none => rfl
  | some x => obtain ⟨_, _, _, h, _⟩ := r.mem b x q; rw [e] at h; cases h
 have O' : Ok C' := by
  refine ⟨O.hA, O.hf, O.hfk, O.ef, hkind, O.eg, O.eb, O.K.keeps kb, O.g.keeps kb, O.b.keeps kb, O.bb, O.nl.keeps kb, ?_, O.hh, O.hd, O.hu⟩
  obtain ⟨mc, h1, h2⟩ := O.nd; exact ⟨mc, h1.keeps kb, h2⟩
 have kd : ∀ y, C'.env.kindOf y = (scope.names.lookup y).map fun k => if (k == .free && C.env.scope.kind == .function && C.env.kindOf y == some .cell) then .cell else k := fun y => lg rfl y
 have ce : C'.env.cells = cellsFrom (L + 1) scope.names [] ++ jR C.env (bf scope.names) [] := dA _ _ _
 have own : ∀ y, scope.names.lookup y = some .cell → ∃ c, C'.env.cells.lookup y = some c ∧ (cellsFrom (L + 1) scope.names []).lookup y = some c := fun y hy => by
  obtain ⟨c, e⟩ := Option.isSome_iff_exists.mp (bE scope.names (L + 1) [] hy)
  exact ⟨c, by rw [ce, List.lookup_append, e]; rfl, e⟩
 have out : ∀ y ∈ bf scope.names, (C.env.kindOf y = some .cell ∨ C.env.kindOf y = some .free) ∧ ∃ c, C.env.cells.lookup y = some c ∧ C'.env.cells.lookup y = some c := fun y hy => by
  obtain ⟨h1, h2⟩ := B.cells y (fr y hy).1
  obtain ⟨c, e⟩ := Option.isSome_iff_exists.mp h2
  refine ⟨h1, c, e, ?_⟩
  rw [ce, List.lookup_append, dI _ _ _ (fun p hp he hc => ?_), fh, if_pos hy, e]
  ·rfl
  ·have e1 := df hnd (show (y, NameKind.cell) ∈ scope.names by rw [← he, ← hc]; exact hp)
   rw [df hnd (fI hy)] at e1; cases e1
 have lk : ∀ y c, C'.env.cells.lookup y = some c → (cellsFrom (L + 1) scope.names []).lookup y = some c ∨ y ∈ bf scope.names ∧ C.env.cells.lookup y = some c := fun y c e => by
  rw [ce, List.lookup_append] at e
  cases q : (cellsFrom (L + 1) scope.names []).lookup y with
  | some c' => rw [q] at e; exact .inl e
  | none =>
   rw [q] at e
   have e : (jR C.env (bf scope.names) []).lookup y = some c := e
   rw [fh] at e
   split at e
   ·rename_i hy
    refine gk fun _ kk => ?_
    obtain ⟨_, c', e1, _⟩ := out y hy
    refine kk ?_; clear kk
    rw [e1] at e
    exact .inr ⟨hy, e1.trans e⟩
   ·cases e
 have B' : jS C' scope.names := by
  refine ⟨fun y hy => by rw [kd, hy]; rfl, fun y hy => ?_⟩
  rcases hy with hy | hy
  ·obtain ⟨c, e, _⟩ := own y hy
   exact ⟨.inl (by rw [kd, hy]; rfl), az e⟩
  ·obtain ⟨_, c, _, e⟩ := out y (fJ (mem_of_lookup hy))
   refine ⟨?_, az e⟩
   rw [kd, hy]
   simp only [Option.map_some]
   split
   ·exact .inl rfl
   ·exact .inr rfl
 have st : bj C' x := by
  rcases hx with hx | hx
  ·exact .inl (by rw [kd, hx]; rfl)
  ·refine .inr ⟨by rw [kd, hx]; rfl, ?_⟩
   obtain ⟨c, e1, e2⟩ := own x hx
   refine ⟨c, e1, .tail _ (eJ e2), fun y hy => ?_⟩
   rcases lk y c hy with h | ⟨h, h2⟩
   ·exact name_of_addr hok.apart (mem_of_lookup h) (mem_of_lookup e2)
   ·have h3 := (r.nocell y c h2).2.2.2.isat
    have h4 := (hok.empty x c (mem_of_lookup e2)).2
    rw [fresh (Nat.le_of_succ_le h4)] at h3; cases h3
 have lo : ∀ y v, (dM scope σ.loc).lookup y = some v → y ∈ bf scope.names ∧ σ.loc.lookup y = some v := fun y v e => by
  unfold dM at e
  rw [cP (f := fun n => (bf scope.names).contains n)] at e
  split at e
  ·rename_i h; exact ⟨by simpa using h, e⟩
  ·cases e
 have kf : ∀ y ∈ bf scope.names, C'.env.kindOf y = some .cell ∨ C'.env.kindOf y = some .free := fun y hy => (B'.cells y (.inr (df hnd (fI hy)))).1
 refine ⟨O', B', st, S, S.enter r _ ⟨fun _ => none, ⟨_, #[], 0, hLo, rfl, fun _ he => by simp at he, fun _ => rfl⟩, fun y v e q => ?_⟩ (fun y v e q => ?_) fun y c e => ?_⟩
 ·rcases kf y (lo y v e).1 with h | h <;> rw [h] at q <;> cases q
 ·obtain ⟨hy, e1⟩ := lo y v e
  refine gk fun _ kk => ?_
  obtain ⟨ho, c, e2, e3⟩ := out y hy
  refine kk ?_; clear kk
  obtain ⟨c', u, _, f2, ⟨o, f3, f4⟩, f5⟩ := r.cell y v e1 (by rcases ho with h | h <;> rw [h] <;> decide)
  rw [e2] at f2; cases f2
  exact ⟨c, u, (kf y hy).imp id fun h => ⟨h, (fr y hy).2⟩, e3, ⟨o, at0 f3, f4⟩, f5⟩
 ·rcases lk y c e with h | ⟨hy, h⟩
  ·obtain ⟨⟨o, e1, e2⟩, e3⟩ := hok.empty y c (mem_of_lookup h)
   have f0 := fresh (b := c) (Nat.le_of_succ_le e3)
   refine ⟨fun q => ?_, ?_, Nat.ne_of_gt e3, ⟨o, _, at1 (Nat.le_of_succ_le e3) e1, e2⟩⟩
   ·obtain ⟨_, o', e', _⟩ := r.fr c q; rw [f0] at e'; cases e'
   ·cases q : σ.mem.lookup c with
    | none => rfl
    | some z => obtain ⟨o', e', _⟩ := r.mem c z q; rw [f0] at e'; cases e'
  ·obtain ⟨h1, h2, h3, o, u, h4, h5⟩ := r.nocell y c h
   refine ⟨h1, h2, fun q => ?_, o, u, at0 h4, h5⟩
   have : c = L := q
   rw [this, fresh (Nat.le_refl _)] at h4; cases h4
noncomputable abbrev dP : St → Prop := fun _ => False
noncomputable def pS (prog : Program) (C : Cx) : List Expr → St → (Bool → St → Prop) → Prop
 | [], σ, Q => Q true σ
 | [c], σ, Q => WT prog C σ c Q dP
 | _, _, _ => False
noncomputable def eA (prog : Program) (C : Cx) (bd : V → List (Str × V) → List (Str × V)) (ifs : List Expr) (elt : Expr) : List V → St → (List V → Mem → Prop) → Prop
 | [], σ, Q => Q [] σ.mem
 | v :: vs, σ, Q => pS prog C ifs ⟨bd v σ.loc, σ.mem⟩ fun b σ' => if b = true then ∃ Q1 : V → St → Prop, WE prog C σ' (eval elt C.env) Q1 dP ∧ ∀ y σ'', Q1 y σ'' → eA prog C bd ifs elt vs σ'' fun ys => Q (y :: ys) else eA prog C bd ifs elt vs σ' Q
section
variable {prog : Program} {C : Cx} {σ : St} {Q : V → St → Prop} {R : St → Prop}
theorem rQ {M : Model} {A : Around} {E : Value → Shared → Prop} {s : Shared} {scope : Scope} {env : Env} {cl : List (Str × Addr)} {K : Env → Shared → Prop}
  (h : K { scope, locals := s.heap.objs.size, globals := env.globals, cells := cellsFrom (s.heap.objs.size + 1) scope.names cl, qual := env.qual, func := none, code := env.code, frame := env.frame, builtins := env.builtins }
   { s with heap := pushCells (s.heap.push { cls := .type "dict", data := .dict #[] }) scope.names }) : wpAny M A (newFunctionEnv scope env.globals cl [] env.qual none .none (some env)) K E s := by
 simp only [newFunctionEnv, Option.isSome_some, if_true]
 refine wpAny_bind (wpAny_alloc ?_)
 refine wpAny_bind (wpAny_layCells _ (fun name kind cells => by cases hkc : kind == NameKind.cell <;> simp [hkc]) _ _ _ _ ?_)
 rw [show ({ s with heap := s.heap.push { cls := .type "dict", data := .dict #[] } } : Shared).heap.objs.size = s.heap.objs.size + 1 from Heap.size_push ..]
 refine wpAny_bind (m := forIn [] _ _) ?_
 rw [List.forIn_nil]
 exact wpAny_pure (wpAny_pure h)
structure FF (C : Cx) (fz : Fz) (σ : St) (s : Shared) (L D : Addr) (ys : List V) (fz' : Fz) (σ' : St) (s' : Shared) : Prop where
 go : Go C fz σ s fz' ⟨σ.loc, σ'.mem⟩ s'
 fresh : s.heap.get? L = none ∧ s.heap.get? D = none ∧ L ≠ D
 aw : Aw fz' σ' L ∧ Aw fz' σ' D
 ns : ∃ m, s'.heap.Ns L m
 lst : ∃ vs n, s'.heap.get? D = some (dT vs n) ∧ bu C.P fz' ys vs
 len : ys.length ≤ cap
theorem pT {w : World} {A : Around} {s : Shared} {elt target iter : Expr} {ifs : List Expr} {scope : Scope} {pos : Pos} {it acc : Value} {env : Env} {R : Result → Shared → Prop} (I : Nat → Shared → Prop)
  (turn : ∀ n s, I n s → wpAny (model prog w) A (pyNext it) (fun r s₁ => match r with
   | none => R (.ok .next) s₁
   | some v => wpAny (model prog w) A (letOwnedTupleGo target it v) (fun _ s₀ => wpAny (model prog w) A (assign target env v) (fun _ s₂ =>
     wpAny (model prog w) A (forIn ifs true fun c r => if r = true then do let ok ← isTrue c env (eval c env); pure (ForInStep.yield ok) else pure (ForInStep.yield r)) (fun ok s₃ =>
      if ok = true then wpAny (model prog w) A (eval elt env) (fun x s₄ =>
       wpAny (model prog w) A (call (.builtin "list.append") [acc, x]) (fun _ s₅ => ∃ m, m < n ∧ I m s₅) (notedBy (model prog w) A env fun e s' => R (.error e) s') s₄) (notedBy (model prog w) A env fun e s' => R (.error e) s') s₃
      else ∃ m, m < n ∧ I m s₃) (notedBy (model prog w) A env fun e s' => R (.error e) s') s₂) (notedBy (model prog w) A env fun e s' => R (.error e) s') s₀) (notedBy (model prog w) A env fun e s' => R (.error e) s') s₁) (notedBy (model prog w) A env fun e s' => R (.error e) s') s)
  (n : Nat) (h : I n s) : codeAny (model prog w) A (.compLoop (.ListComp elt [⟨target, iter, ifs, 0⟩] scope pos) 0 it acc env) R s := by
 refine codeAny_loop rfl I (fun n s hI => ?_) n h
 show wpAny _ A ((compTurn (.ListComp elt [⟨target, iter, ifs, 0⟩] scope pos) 0 it acc env).onRaise (fun x => do noteFrame x env; theTreesLotGoes x)) _ _ s
 refine wpAny_noted ?_
 rw [compTurn_list]
 refine wpAny_bind (wpAny_standAt (wpAny_bind (wpAny_mono (turn n s hI) (fun r s₁ h₁ => ?_) fun _ _ h' => h')))
 cases r with
 | none => exact wpAny_pure h₁
 | some v =>
  refine wpAny_bind (wpAny_mono h₁ (fun _ s₀ h₀ => ?_) fun _ _ h' => h')
  refine wpAny_bind (wpAny_mono h₀ (fun _ s₂ h₂ => wpAny_bind (wpAny_mono h₂ (fun ok s₃ h₃ => ?_) fun _ _ h' => h')) fun _ _ h' => h')
  cases ok with
  | false => exact wpAny_pure ⟨rfl, h₃⟩
  | true => exact wpAny_bind (wpAny_bind (wpAny_mono h₃ (fun x s₄ h₄ => wpAny_bind (wpAny_mono h₄ (fun _ s₅ h₅ => wpAny_pure (wpAny_pure ⟨rfl, h₅⟩)) fun _ _ h' => h')) fun _ _ h' => h'))
inductive Ht (prog : Program) (C' : Cx) (fz₁ : Fz) (σ₀ : QZ.St) (sx : Shared) (wr : List Addr) (St : Nat → Heap → Prop) (xs : List V) (D : Addr) (bd : V → List (Str × V) → List (Str × V)) (ifs : List Expr) (elt : Expr) (K : List V → Mem → Prop) (n : Nat) (s' : Shared) : Prop
 | mk (i : Nat) (fz' : Fz) (σ' : QZ.St) (ys : List V) (vs : List Value) (k : Nat) (hn : n = xs.length - i) (hi : i ≤ xs.length) (A : At prog C' fz₁ σ₀ sx wr St i fz' σ' s') (aw : Aw fz' σ' D) (hD : s'.heap.get? D = some (dT vs k)) (hys : bu C'.P fz' ys vs) (hyl : ys.length ≤ i) (hq : eA prog C' bd ifs elt (xs.drop i) σ' fun zs => K (ys ++ zs))
noncomputable def oK (nm : List (Str × NameKind)) (scope : Scope) (ns : List Str) : Prop := ns ≠ [] ∧ ∀ x ∈ ns, gc nm scope x = true
theorem kq (O : Ok C) {nm : List (Str × NameKind)} (B : jS C nm) {elt iter tg : Expr} {pos : Pos} {ifs : List Expr} {scope : Scope} {ns : List Str} {pr : Bool} {bd : V → List (Str × V) → List (Str × V)} (hc : oK nm scope ns) (tgk : ∀ C' : Cx, Ok C' → (∀ x ∈ ns, bj C' x) → C'.A = C.A → ma prog C' pr tg bd) (hset : ∀ u, foldedSetIterable iter C.env u = pure u)
  (hnames : ∀ y ∈ scope.names, y.2 = .local → scope.names.lookup y.1 = some .local) {use : Option (Value → Sem Unit)} {KQ : St → List V → Mem → Prop} {K : Value → Shared → Prop} {newPos : Pos}
  (h : WI prog C σ pr tg iter (fun xs σ₁ => ∀ C' : Cx, Ok C' → jS C' scope.names → C'.d = C.d → C'.env.scope.kind = .function → eA prog C' bd ifs elt xs ⟨dM scope σ₁.loc, σ₁.mem⟩ (KQ σ₁)) R)
  {fz : Fz} {s : Shared} (r : bt C fz σ s)
  (fin : ∀ fz₁ σ₁ s₁ fz' σ' s' L D ys, Go C fz σ s fz₁ σ₁ s₁ → FF C fz₁ σ₁ s₁ L D ys fz' σ' s' → KQ σ₁ ys σ'.mem → compPost (Md prog C) C.A (Ex C fz σ s R) use K (.ref D) L (.ok .next) s') :
  wpAny (Md prog C) C.A (comprehension (.ListComp elt [⟨tg, iter, ifs, 0⟩] scope pos) scope C.env newPos (newList []) false (eval iter C.env) use) K (Ex C fz σ s R) s := by
 refine gk fun _ kk => ?_
 obtain ⟨n0, hn0⟩ := List.exists_mem_of_ne_nil _ hc.1
 have hc' := hc.2 n0 hn0
 unfold gc at hc'
 simp only [Bool.and_eq_true, Bool.or_eq_true, beq_iff_eq, decide_eq_true_eq] at hc'
 obtain ⟨⟨⟨hkind, hnd⟩, hx⟩, hfr⟩ := hc'
 refine kk ?_; clear kk
 have hcl : closureFor scope C.env = pure (jR C.env (bf scope.names) []) := fU fun n hn => by
  have := List.all_eq_true.mp hfr n hn
  simp only [Bool.and_eq_true, Bool.or_eq_true, beq_iff_eq] at this
  exact (B.cells n this.1).2
 refine wpAny_comprehension_free rfl hset hcl hkind hnames (wpAny_mono (h fz s r) (fun u s₁ h => wpAny_mono h (fun it s₂ h => ?_) fun _ _ e => e) fun _ _ e => e)
 refine gk fun _ kk => ?_
 obtain ⟨fz₁, σ₁, s₁, xs, I, wr, P, M, St, rfl, g, T, hlen, q⟩ := h
 refine kk ?_; clear kk
 have r₁ := g.rep
 refine wpAny_newObj_type ?_ (Nat.zero_le _)
 refine rQ ?_
 dsimp only
 generalize hH : s₂.heap.push { cls := .type "list", dict := none, data := .seq ([] : List Value).toArray } = H
 have hD : H.get? s₂.heap.objs.size = some (dT [] 0) := by rw [← hH]; exact Heap.get?_push_size _ rfl
 have hHk : ∀ b o, s₂.heap.get? b = some o → H.get? b = some o := fun b o e => by rw [← hH]; exact Heap.get?_push_of_some _ e
 have hHs : H.objs.size = s₂.heap.objs.size + 1 := by rw [← hH]; exact Heap.size_push ..
 generalize hD' : s₂.heap.objs.size = D at hD hHs
 generalize hLL : H.objs.size = L at hHs
 have hI : ∀ b ∈ wr, b < D := fun b hb => by
  obtain ⟨o, e⟩ := Option.isSome_iff_exists.mp (T.isat 0 _ T.st b hb)
  rw [← hD']; exact Heap.lt_size e
 have hDw : D ∉ wr := fun h => Nat.lt_irrefl _ (hI D h)
 have fr1 : ∀ {b}, D ≤ b → s₁.heap.get? b = none := fun h => Heap.get?_none_of_le (Nat.le_trans (hD' ▸ T.size) h)
 let s₃ : Shared := { s₂ with heap := pushCells (H.push { cls := .type "dict", data := .dict #[] }) scope.names }
 have k23 : ∀ b o, s₂.heap.get? b = some o → s₃.heap.get? b = some o := fun b o e => pushCells_keeps _ _ _ _ (Heap.get?_push_of_some _ (hHk b o e))
 have CI := fun x (hx : x ∈ ns) => uu (x := x) (nm := nm) (scope := scope) (s := s₁) (s₁ := s₃) (σ := σ₁) (fz := fz₁) (L := L) (h := H) O B (hc.2 x hx) r₁ (fun b o e => k23 _ _ (T.keep b o e)) rfl hLL.symm (Nat.le_trans T.size (by rw [hLL, hHs, hD']; exact Nat.le_succ _)) (fun b o e => hHk _ _ (T.keep b o e))
  (D :: wr) (fun b hb => by
   have hDL : D < L := hHs ▸ Nat.lt_succ_self D
   rcases List.mem_cons.mp hb with hb | hb
   ·rw [hb]; exact ⟨fr1 (Nat.le_refl _), hDL⟩
   ·exact ⟨T.new b hb, Nat.lt_trans (hI b hb) hDL⟩) T.gens T.os T.drawn
 refine gk fun _ kk => ?_
 obtain ⟨O', B', _, S, r'⟩ := CI n0 hn0
 let C' := rP C scope L σ₁ (hideAll s₃.heap (D :: wr))
 have tk : ma prog C' pr tg bd := tgk C' O' (fun x hx => (CI x hx).2.2.1) rfl
 clear CI
 let sx : Shared := { s₃ with heap := hideAll s₃.heap (D :: wr) }
 obtain ⟨fp, W, hfp⟩ := T.walk
 refine kk ?_; clear kk
 have T' : ut prog C' fz₁ sx s₃ pr xs tg I wr P M St := ⟨⟨fp, W, hfp⟩, fun b hb => hideAll_none _ (.tail _ hb), fun b o e => of_hideAll _ e, (by rw [hideAll_size]; exact Nat.le_refl _), W.frame 0 _ _ T.st fun b _ o e => k23 b o e, T.isat, T.val, rfl, rfl, rfl, T.self⟩
 have hDx : sx.heap.get? D = none := hideAll_none _ (.head _)
 have hD3 : s₃.heap.get? D = some (dT [] 0) := pushCells_keeps _ _ _ _ (Heap.get?_push_of_some _ hD)
 have q' := q C' O' B' rfl hkind
 show codeAny (Md prog C) C.A (.compStart _ 0 (.ref I) (.ref D) C'.env) _ s₃
 have loop : codeAny (Md prog C) C.A (.compLoop (.ListComp elt [⟨tg, iter, ifs, 0⟩] scope pos) 0 (.ref I) (.ref D) C'.env) (compPost (Md prog C) C.A (Ex C fz σ s R) use K (.ref D) L) s₃ := by
  let J : Nat → Shared → Prop := Ht prog C' fz₁ ⟨dM scope σ₁.loc, σ₁.mem⟩ sx wr St xs D bd ifs elt (KQ σ₁)
  refine pT J ?_ xs.length
   ⟨0, fz₁, _, [], [], 0, rfl, Nat.zero_le _, T'.start r', Aw.new r' hDx, hD3, .nil, Nat.zero_le _, by simpa using q'⟩
  intro n s' zz
  refine gk fun _ kk => ?_
  obtain ⟨i, fz', σ', ys, vs, k, rfl, hi, A, awD, hDo, hys, hyl, hq⟩ := zz
  refine kk ?_; clear kk
  refine A.next r' T' hi (fun y u s₄ hy hu A₄ kI => ?_) fun s₄ e g₄ kI => ?_
  ·have hd : xs.drop i = y :: xs.drop (i + 1) := by
    obtain ⟨h1, h2⟩ := List.getElem?_eq_some_iff.mp hy
    rw [List.drop_eq_getElem_cons h1, h2]
   rw [hd] at hq
   have hi' : i < xs.length := (List.getElem?_eq_some_iff.mp hy).1
   have no : ∀ {fz' σ' s' e s''}, ¬ Ex C' fz' σ' s' dP e s'' := fun x => x.no
   have dkeep : ∀ {fz₂ σ₂ s₂' fz₃ σ₃ s₃' o}, Aw fz₂ σ₂ D → s₂'.heap.get? D = some o → Go C' fz₂ σ₂ s₂' fz₃ σ₃ s₃' → Aw fz₃ σ₃ D ∧ s₃'.heap.get? D = some o := fun aw e g => ⟨aw.step (az e) g, Aw.keep r' hDx aw e g⟩
   have hD4 : s₄.heap.get? D = some (dT vs k) := kI D _ hDw hDo
   refine tk _ _ _ _ _ _ _ A₄.go.rep hu fun s₅ g₅ => ?_
   have A₅ := A₄.step r' T' g₅
   obtain ⟨aw5, hD5⟩ := dkeep awD hD4 g₅
   have rest : ∀ fz₆ σ₆ s₆, Go C' fz' ⟨bd y σ'.loc, σ'.mem⟩ s₅ fz₆ σ₆ s₆ → eA prog C' bd ifs elt (xs.drop (i + 1)) σ₆ (fun zs => KQ σ₁ (ys ++ zs)) → ∃ m, m < xs.length - i ∧ J m s₆ := fun fz₆ σ₆ s₆ g₆ hq₆ => by
    obtain ⟨aw6, hD6⟩ := dkeep aw5 hD5 g₆
    exact ⟨xs.length - (i + 1), Nat.sub_succ_lt_self _ _ hi', i + 1, fz₆, σ₆, ys, vs, k, rfl, hi', A₅.step r' T' g₆, aw6, hD6, hys.mono g₆.sub, Nat.le_succ_of_le hyl, hq₆⟩
   have more : ∀ fz₆ σ₆ s₆, Go C' fz' ⟨bd y σ'.loc, σ'.mem⟩ s₅ fz₆ σ₆ s₆ → (∃ Q1 : V → QZ.St → Prop, WE prog C' σ₆ (eval elt C'.env) Q1 dP ∧ ∀ z σ'', Q1 z σ'' → eA prog C' bd ifs elt (xs.drop (i + 1)) σ'' fun zs => KQ σ₁ (ys ++ z :: zs)) →
     wpAny (Md prog C') C'.A (eval elt C'.env) (fun z s₇ => wpAny (Md prog C') C'.A (call (.builtin "list.append") [.ref D, z]) (fun _ s₈ => ∃ m, m < xs.length - i ∧ J m s₈)
      (notedBy (Md prog C') C'.A C'.env fun e s' => compPost (Md prog C) C.A (Ex C fz σ s R) use K (.ref D) L (.error e) s') s₇) (notedBy (Md prog C') C'.A C'.env fun e s' => compPost (Md prog C) C.A (Ex C fz σ s R) use K (.ref D) L (.error e) s') s₆ := fun fz₆ σ₆ s₆ g₆ ⟨Q1, h1, h2⟩ => by
    obtain ⟨aw6, hD6⟩ := dkeep aw5 hD5 g₆
    have A₆ := A₅.step r' T' g₆
    refine wpAny_mono (h1 fz₆ s₆ g₆.rep) (fun uz s₇ ⟨fz₇, z, σ₇, g₇, hz, q₇⟩ => ?_) fun e s x => (no x).elim
    obtain ⟨aw7, hD7⟩ := dkeep aw6 hD6 g₇
    have A₇ := A₆.step r' T' g₇
    have hys7 := hys.mono fun p h => g₇.sub p (g₆.sub p h)
    refine append_at hD7 (fun h' hs ho' => ?_) (by rw [List.size_toArray, hys.length]; exact bX (Nat.le_trans hyl (Nat.le_trans (Nat.le_of_lt hi') hlen)))
    have t8 : Go C' fz₁ ⟨dM scope σ₁.loc, σ₁.mem⟩ sx fz₇ σ₇ { s₇ with heap := h' } := Go.turn r' A₇.go [D] (fun b hb => by rw [List.mem_singleton.mp hb]; exact ⟨hDx, aw7⟩) fun b o hb e => (hs.2 b (by simpa using hb)).trans e
    have st8 : St (i + 1) h' := W.frame _ _ _ A₇.st fun b hb o e => by
     refine (hs.2 b fun q => ?_).trans e
     by_cases qI : b ∈ wr
     ·exact absurd q (Nat.ne_of_lt (hI b qI))
     ·obtain ⟨o', hm⟩ := hfp b hb qI
      have := (r₁.fro _ hm).1
      rw [q, fr1 (Nat.le_refl _)] at this; cases this
    exact ⟨xs.length - (i + 1), Nat.sub_succ_lt_self _ _ hi', i + 1, fz₇, σ₇, ys ++ [z], vs ++ [uz], k + 1, rfl, hi', ⟨t8, A₇.aw, st8⟩, aw7, by simpa using ho', hys7.append (.cons hz .nil), by rw [List.length_append]; exact Nat.succ_le_succ hyl, by
     have := h2 z σ₇ q₇
     simpa [List.append_assoc] using this⟩
   have hq' : pS prog C' ifs ⟨bd y σ'.loc, σ'.mem⟩ fun b σ'' => if b = true then ∃ Q1 : V → QZ.St → Prop, WE prog C' σ'' (eval elt C'.env) Q1 dP ∧ ∀ z σ3, Q1 z σ3 → eA prog C' bd ifs elt (xs.drop (i + 1)) σ3 fun zs => KQ σ₁ (ys ++ z :: zs) else eA prog C' bd ifs elt (xs.drop (i + 1)) σ'' fun zs => KQ σ₁ (ys ++ zs) := hq
   cases ifs with
   | nil => exact wpAny_tests_nil (by rw [if_pos rfl]; exact more _ _ _ (Go.refl g₅.rep) hq')
   | cons c cs =>
    cases cs with
    | nil =>
     refine wpAny_tests_one (wpAny_mono (hq' fz' s₅ g₅.rep) (fun b s₆ ⟨fz₆, σ₆, g₆, q₆⟩ => ?_) fun e s x => (no x).elim)
     cases b with
     | true => rw [if_pos rfl]; exact more _ _ _ g₆ q₆
     | false => rw [if_neg (by decide)]; exact rest _ _ _ g₆ q₆
    | cons _ _ => exact hq'.elim
  ·subst e
   rw [List.drop_length] at hq
   have hD4 : s₄.heap.get? D = some (dT vs k) := kI D _ hDw hDo
   have hq : KQ σ₁ (ys ++ []) σ'.mem := hq
   rw [List.append_nil] at hq
   refine fin fz₁ σ₁ s₁ fz' σ' s₄ L D ys g ⟨S.leave r₁ g₄, ⟨?_, fr1 (Nat.le_refl _), ?_⟩, ⟨?_, awD⟩, ?_, ⟨vs, k, hD4, hys⟩, Nat.le_trans hyl hlen⟩ hq
   ·exact fr1 (by rw [hHs]; exact Nat.le_succ _)
   ·rw [hHs]; exact Nat.ne_of_gt (Nat.lt_succ_self _)
   ·refine ⟨fun p hp e => (g₄.rep.fro p hp).2.1 (by rw [e]; exact .head _), ?_⟩
    cases z : σ'.mem.lookup L with
    | none => rfl
    | some w => obtain ⟨_, _, _, _, h, _⟩ := g₄.rep.mem L w z; exact absurd (.head _) h
   ·obtain ⟨m, hm, _⟩ := g₄.rep.ns
    exact ⟨m, hm⟩
 exact codeAny_compStart_list loop (T'.self 0 _ _ _ T'.st loop)
theorem FF.out {fz fz' : Fz} {σ σ' : St} {s s' s'' : Shared} {L D : Addr} {ys : List V} (r : bt C fz σ s) (d : FF C fz σ s L D ys fz' σ' s') {h' : Heap} (hs : Heap.SameBut L s'.heap h') :
  ∃ fz'', Go C fz σ s fz'' ⟨σ.loc, σ'.mem⟩ { s' with heap := h' } ∧ RV C.P fz'' (.list ys) (.ref D) ∧ Aw fz'' σ' L := by
 refine gk fun _ kk => ?_
 obtain ⟨vs, n, h1, h2⟩ := d.lst
 refine kk ?_; clear kk
 have g := Go.turn (s'' := { s' with heap := h' }) r d.go [L] (fun x hx => by rw [List.mem_singleton.mp hx]; exact ⟨d.fresh.1, d.aw.1⟩) fun b o hb e => (hs.2 b (by simpa using hb)).trans e
 have hD : h'.get? D = some (dT vs n) := (hs.2 D (Ne.symm d.fresh.2.2)).trans h1
 refine ⟨_, Go.adopt r g d.fresh.2.1 hD d.aw.2, .list (.head _) d.len (h2.mono fun p hp => .tail _ hp), fun p hp e => ?_, d.aw.1.2⟩
 rcases List.mem_cons.mp hp with rfl | hp
 ·exact d.fresh.2.2 e.symm
 ·exact d.aw.1.1 p hp e
theorem uw (O : Ok C) {nm : List (Str × NameKind)} (B : jS C nm) {elt iter tg : Expr} {pos : Pos} {ifs : List Expr} {scope : Scope} {ns : List Str} {pr : Bool} {bd : V → List (Str × V) → List (Str × V)} (hc : oK nm scope ns) (tgk : ∀ C' : Cx, Ok C' → (∀ x ∈ ns, bj C' x) → C'.A = C.A → ma prog C' pr tg bd) (hset : ∀ u, foldedSetIterable iter C.env u = pure u)
  (hnames : ∀ y ∈ scope.names, y.2 = .local → scope.names.lookup y.1 = some .local)
  (h : WI prog C σ pr tg iter (fun xs σ₁ => ∀ C' : Cx, Ok C' → jS C' scope.names → C'.d = C.d → C'.env.scope.kind = .function → eA prog C' bd ifs elt xs ⟨dM scope σ₁.loc, σ₁.mem⟩ fun ys m => Q (.list ys) ⟨σ₁.loc, m⟩) R) :
  WE prog C σ (eval (.ListComp elt [⟨tg, iter, ifs, 0⟩] scope pos) C.env) Q R := fun fz s r => by
 rw [eval_ListComp]
 refine kq (use := none) O B hc tgk hset hnames (KQ := fun σ₁ ys m => Q (.list ys) ⟨σ₁.loc, m⟩) h r fun fz₁ σ₁ s₁ fz' σ' s' L D ys g d q => ?_
 obtain ⟨m, hm⟩ := d.ns
 refine ⟨m, hm, fun h' hs => ?_⟩
 refine gk fun _ kk => ?_
 obtain ⟨fz'', g', hv, _⟩ := d.out g.rep (s'' := s') hs
 refine kk ?_; clear kk
 exact ⟨fz'', _, _, g.trans g', hv, q⟩
theorem jT (O : Ok C) {nm : List (Str × NameKind)} (B : jS C nm) {elt iter tg : Expr} {y : Str} {py pos spos : Pos} {ifs : List Expr} {scope : Scope} {ns : List Str} {pr : Bool} {bd : V → List (Str × V) → List (Str × V)} {Qn : St → Prop} {Qr : V → St → Prop} (hc : oK nm scope ns) (tgk : ∀ C' : Cx, Ok C' → (∀ x ∈ ns, bj C' x) → C'.A = C.A → ma prog C' pr tg bd) (hset : ∀ u, foldedSetIterable iter C.env u = pure u)
  (hnames : ∀ y ∈ scope.names, y.2 = .local → scope.names.lookup y.1 = some .local) (hy : bj C y) (hsw : swapsWith (.ListComp elt [⟨tg, iter, ifs, 0⟩] scope pos) (some (.Name y py)) spos.line C.env = pure true)
  (h : WI prog C σ pr tg iter (fun xs σ₁ => ∀ C' : Cx, Ok C' → jS C' scope.names → C'.d = C.d → C'.env.scope.kind = .function → eA prog C' bd ifs elt xs ⟨dM scope σ₁.loc, σ₁.mem⟩ fun ys m => Qn ⟨put y (.list ys) σ₁.loc, m⟩) R) :
  WS prog C σ (exec (.Assign [.Name y py] (.ListComp elt [⟨tg, iter, ifs, 0⟩] scope pos) spos) C.env) Qn Qr R := fun fz s r => by
 rw [exec_Assign_Name_used _ _ _ _ hsw]
 refine wpAny_bind (wpAny_standAt (wpAny_bind ?_))
 show wpAny _ C.A (do let _ ← comprehension (.ListComp elt [⟨tg, iter, ifs, 0⟩] scope pos) scope C.env _ (newList []) false (eval iter C.env) (some (assign (.Name y py) C.env))) _ _ s
 refine wpAny_bind (wpAny_mono (kq (use := some (assign (.Name y py) C.env)) (K := fun _ s' => g9 C fz σ s Qn Qr .next s') O B hc tgk hset hnames (KQ := fun σ₁ ys m => Qn ⟨put y (.list ys) σ₁.loc, m⟩) h r fun fz₁ σ₁ s₁ fz' σ' s' L D ys g d q => ?_)
  (fun _ s' hq => wpAny_pure (wpAny_pure hq)) fun _ _ e => e)
 refine gk fun _ kk => ?_
 obtain ⟨fz'', g', hv, awL⟩ := d.out g.rep (s'' := s') (Heap.SameBut.refl _ _)
 refine kk ?_; clear kk
 show wpAny _ C.A (assign (.Name y py) C.env (.ref D)) _ _ _
 refine wpAny_assign_Name (fH O hy (σ := ⟨σ₁.loc, σ'.mem⟩) (fz := fz'') g'.rep hv fun s₅ g₅ => ?_)
 refine gk fun _ kk => ?_
 obtain ⟨m, o, es, ep, e, rest⟩ := d.ns
 refine kk ?_; clear kk
 have awL' : Aw fz'' ⟨σ₁.loc, σ'.mem⟩ L := awL
 have e5 := Aw.keep g.rep d.fresh.1 awL' e g₅
 have aw5 := awL'.step (az e) g₅
 refine ⟨m, ⟨o, es, ep, e5, rest⟩, fun h' hs => ⟨fz'', _, g.trans (Go.turn g.rep (g'.trans g₅) [L] (fun b hb => by rw [List.mem_singleton.mp hb]; exact ⟨d.fresh.1, aw5⟩) fun b o hb e => (hs.2 b (by simpa using hb)).trans e), q⟩⟩
end
noncomputable def vS : Int → List V → List V
 | _, [] => []
 | i, v :: l => .tup [.int i, v] :: vS (i + 1) l
noncomputable def vT (l : List (Str × V)) : List V := l.map fun p => .tup [.str p.1, p.2]
theorem lh : ∀ {l : List V} {i : Int}, (vS i l).length = l.length
 | [], _ => rfl
 | _ :: l, _ => congrArg (· + 1) (lh (l := l))
theorem oL : ∀ {l : List V} {i : Int} {j : Nat} {x : V}, (vS i l)[j]? = some x → ∃ v, l[j]? = some v ∧ x = .tup [.int (i + j), v]
 | [], _, _, _, h => by cases h
 | v :: l, i, 0, x, h => by cases h; exact ⟨v, rfl, by simp⟩
 | v :: l, i, j + 1, x, h => by
  obtain ⟨w, e, rfl⟩ := oL (l := l) (i := i + 1) (j := j) h
  exact ⟨w, e, by congr 3; push_cast; lia⟩
section
variable {prog : Program} {C : Cx} {σ : St} {Q : List V → St → Prop} {R : St → Prop}
theorem ux (O : Ok C) {f : Str} {p pos : Pos} {arg : Expr} {elts : List Expr} {k0 : Nat} {tp : Pos} (hn : noStar arg = true) (hf : WE prog C σ (eval (.Name f p) C.env) (fun v σ' => v = .typ .enum ∧ σ' = σ) R)
  (h : WE prog C σ (eval arg C.env) (fun v σ' => ∃ l, v = .list l ∧ Q (vS 0 l) σ') R) : WI prog C σ true (.Tuple elts k0 tp) (.Call (.Name f p) [arg] [] pos) Q R := fun fz s r => by
 rw [arm_eval_Call_Name']
 refine wpAny_bind (aX r hf fun fz₁ v σ₁ s₁ u g hu ⟨e1, e2⟩ => ?_)
 subst e1 e2
 cases hu
 refine j6 (first := []) (es := [arg]) (fun _ => True) (fun _ _ => ⟨.machine, .inr (.inl rfl), Looks.of_pure rfl⟩) (by rw [List.all_cons, hn]; rfl) ?_
 refine wpAny_mono (cD (es := [arg]) (QL := fun vs σ' => ∃ l, vs = [.list l] ∧ Q (vS 0 l) σ') (by rw [List.all_cons, hn]; rfl) ⟨_, h, fun v σ' ⟨l, e, q⟩ => ⟨l, by rw [e], q⟩⟩ fz₁ s₁ g.rep) (fun vs s₂ ⟨fz₂, xs, σ₂, g₂, hv, l, e, q⟩ => ⟨trivial, ?_⟩) fun _ _ e => Ex.of_go g e
 subst e
 refine gk fun _ kk => ?_
 obtain ⟨u, rfl, hu⟩ := hv.one
 cases hu with | @list l a vs n hm hl hvs =>
 refine kk ?_; clear kk
 have hL := (g₂.rep.fro _ hm).1
 have hl' : a < s₂.heap.objs.size := Heap.lt_size hL
 refine call_enumerate_list (eI g₂.rep hm) fun h' hE hI hsz hk => ?_
 refine wpAny_pyIter_enum (s := { s₂ with heap := h' }) hE ?_
 have W := WalksT.enumerate (prog := prog) (w := C.w) O.hh (s₂.heap.objs.size + 1) s₂.heap.objs.size a (Nat.succ_ne_self _) (Nat.ne_of_lt (Nat.lt_succ_of_lt hl')) (Nat.ne_of_lt hl') vs.toArray
 have K := KTurns.ofWalksU (elts := elts) (k := k0) (pos := tp) W.toU
 have sz : vs.toArray.size = (vS 0 l).length := by rw [List.size_toArray, hvs.length, lh]
 rw [sz] at K
 refine ⟨fz₂, σ₂, s₂, vS 0 l, _, _, _, _, _, rfl, g.trans g₂, ⟨⟨_, K, fun b hb hw => ?_⟩, fun b hb => ?_, hk, by rw [hsz]; lia, ⟨⟨_, hE⟩, hI, ⟨_, hk _ _ hL, rfl, _, rfl⟩⟩, fun i h ⟨⟨_, e1⟩, ⟨_, e2, _⟩, _⟩ b hb => ?_, ?_, rfl, rfl, rfl, W.self⟩, by rw [lh]; exact hl, q⟩
 ·simp only [List.mem_cons, List.not_mem_nil, or_false] at hb hw
  rcases hb with h | h | rfl
  ·exact absurd (Or.inl h) hw
  ·exact absurd (Or.inr h) hw
  ·exact ⟨_, hm⟩
 ·simp only [List.mem_cons, List.not_mem_nil, or_false] at hb
  rcases hb with rfl | rfl
  ·exact Heap.get?_none_of_le (Nat.le_succ _)
  ·exact Heap.get?_none_of_le (Nat.le_refl _)
 ·simp only [List.mem_cons, List.not_mem_nil, or_false] at hb
  rcases hb with rfl | rfl
  ·exact az e1
  ·exact az e2
 ·rintro i v h x ⟨T, vals, rfl, ⟨t, u, hu, rfl⟩, hT⟩ hx
  refine gk fun _ kk => ?_
  obtain ⟨w, e1, rfl⟩ := oL hx
  obtain ⟨u', e2, hw⟩ := hvs.get e1
  have hu : vs.toArray[i]? = some u := hu
  rw [List.getElem?_toArray, e2] at hu; cases hu
  refine kk ?_; clear kk
  rw [Int.zero_add]
  exact ⟨_, _, T, _, _, rfl, rfl, hT, .int _ _, hw⟩
theorem dB.kvs {P : Params} {fz : Fz} {l : List (Str × V)} {es : List DictEntry} (h : dB P fz l es) : ∃ kvs : List (Str × Value), Pairs (strKind prog C.w) es kvs ∧ kvs.map (·.1) = l.map (·.1) ∧ ∀ (i : Nat) k u, kvs[i]? = some (k, u) → ∃ v, l[i]? = some (k, v) ∧ RV P fz v u :=
 dB.ind (G := fun l es => ∃ kvs : List (Str × Value), Pairs (strKind prog C.w) es kvs ∧ kvs.map (·.1) = l.map (·.1) ∧ ∀ (i : Nat) k u, kvs[i]? = some (k, u) → ∃ v, l[i]? = some (k, v) ∧ RV P fz v u) ⟨[], .nil, rfl, fun i k u e => nomatch e⟩ (fun {k x u t l es} h _ ih => by
  obtain ⟨kvs, h1, h2, h3⟩ := ih
  refine ⟨(k, u) :: kvs, .cons (strKind_is prog C.w k t) rfl h1, congrArg (k :: ·) h2, fun i k' u' e => ?_⟩
  cases i with
  | zero => cases e; exact ⟨_, rfl, h⟩
  | succ i => exact h3 i k' u' e) h
theorem rR (O : Ok C) {o : Expr} {apos pos : Pos} {elts : List Expr} {k0 : Nat} {tp : Pos} (h1 : cq o = true) (h4 : apos.endLine = pos.line)
  (h : WE prog C σ (eval o C.env) (fun v σ' => ∃ l, v = .dict l ∧ ((l.map (·.1)).Nodup ∧ ∀ p ∈ l, p.1.length ≤ cap) ∧ Q (vT l) σ') R) : WI prog C σ true (.Tuple elts k0 tp) (.Call (.Attribute o eF apos) [] [] pos) Q R := fun fz s r => by
 refine MethodCall_ (aX r h fun fz₁ f σ₁ s₁ u g hu ⟨l, e, ⟨nd, nc⟩, q⟩ => ?_) (gP h1 rfl (by decide) h4)
 subst e
 refine gk fun _ kk => ?_
 cases hu with | @dict l a es n hm hl hv =>
 refine kk ?_; clear kk
 have hd := (g.rep.fro _ hm).1
 have ty : s₁.TypeIs (.ref a) "dict" := ⟨_, hd, rfl⟩
 rw [show eF = ("items" : Str) by kernel_rfl]
 refine getMethod_builtin ty PySem.F.plainAttrs_dict PySem.F.slot_dict_items PySem.F.type_dict_items (fun b e => by cases e; exact ⟨_, hd, rfl⟩) ?_
 refine j6 (first := [_]) (es := []) (fun _ => True) (fun _ _ => ⟨.machine, .inr (.inl rfl), Looks.of_pure rfl⟩) rfl ?_
 refine wpAny_mono (cD (es := []) (QL := fun vs σ' => vs = [] ∧ σ' = σ₁) rfl ⟨rfl, rfl⟩ fz₁ s₁ g.rep) (fun vs s₂ ⟨fz₂, xs, σ₂, g₂, hv₂, e1, e2⟩ => ⟨trivial, ?_⟩) fun _ _ e => Ex.of_go g e
 subst e1 e2
 refine gk fun _ kk => ?_
 cases hv₂
 have hm₂ := g₂.sub _ hm
 have hd := (g₂.rep.fro _ hm₂).1
 have one : a ≠ 1 := (g₂.rep.fro _ hm₂).2.2.2.2
 obtain ⟨kvs, k1, k2, k3⟩ := dB.kvs (prog := prog) (C := C) hv
 refine kk ?_; clear kk
 have hat : s₂.heap.DictAt (strKind prog C.w) a kvs n := ⟨_, es.toArray, hd, ⟨rfl, rfl, rfl⟩, rfl, fun e he => by
  refine gk fun _ kk => ?_
  obtain ⟨k, t, e1, e2⟩ := hv.keys e (by simpa using he)
  refine kk ?_; clear kk
  exact ⟨k, by rw [e1]; exact strKind_is prog C.w k t, e2⟩, by simpa using k1, k2 ▸ nd⟩
 refine call_meetsIn PySem.F.slot_dict_items hat.dictOf.typeIs PySem.F.entry_dict_items (PySem.F.args_dict_items_1 _) (meets_dict_items (strKind prog C.w) a (eY one)) ⟨⟨_, hat.dictOf⟩, ?_⟩
 refine wpAny_pyIter_items (knd := strKind prog C.w) (s := { s₂ with heap := s₂.heap.push _ }) ⟨_, Heap.get?_push_size _ rfl, rfl, rfl⟩ (hat.push _) ?_
 dsimp only
 generalize hI : (s₂.heap.push { cls := .type "dict_items", data := .fields #[.ref a] }).objs.size = I
 have hal : a < s₂.heap.objs.size := Heap.lt_size hd
 have hI' : I = s₂.heap.objs.size + 1 := by rw [← hI, Heap.size_push]
 have K := kti_itemsTurns (prog := prog) (w := C.w) (A := C.A) (knd := strKind prog C.w) (elts := elts) (kk := k0) (pos := tp) O.hh I a (hI' ▸ Nat.ne_of_lt (Nat.lt_succ_of_lt hal)) kvs n
 have sz : kvs.length = (vT l).length := by have := congrArg List.length k2; simpa [vT] using this
 have ln : (vT l).length = l.length := by simp [vT]
 rw [sz] at K
 refine ⟨fz₂, σ₂, s₂, vT l, I, _, _, _, _, rfl, g.trans g₂, ⟨⟨_, K, fun b hb hw => ?_⟩, fun b hb => ?_, fun b o e => Heap.get?_push_of_some _ (Heap.get?_push_of_some _ e), by rw [Heap.size_push, Heap.size_push]; lia, ⟨⟨.none, .none, ?_⟩, (hat.push _).push _⟩, fun i h ⟨⟨_, _, e1⟩, _⟩ b hb => ?_, ?_, rfl, rfl, rfl, fun i s Q E ⟨⟨_, _, e⟩, _⟩ q => kcp_self e q⟩, by rw [ln]; exact hl, q⟩
 ·simp only [List.mem_cons, List.not_mem_nil, or_false] at hb hw
  rcases hb with h | rfl
  ·exact absurd h hw
  ·exact ⟨_, hm₂⟩
 ·rw [List.mem_singleton.mp hb, hI']; exact Heap.get?_none_of_le (Nat.le_succ _)
 ·rw [← hI, ← sz]; exact Heap.get?_push_size _ rfl
 ·rw [List.mem_singleton.mp hb]; exact az e1
 ·rintro i v h x ⟨T, key, k, u, rfl, hx, hk, hT⟩ he
  refine gk fun _ kk => ?_
  obtain ⟨w, e1, hw⟩ := k3 i k u hx
  unfold vT at he
  rw [List.getElem?_map, e1] at he
  cases he
  obtain ⟨t, rfl⟩ := Value.isStrOf_shape hk
  refine kk ?_; clear kk
  exact ⟨_, _, T, _, _, rfl, rfl, hT, .str _ _ (nc _ (List.mem_of_getElem? e1)), hw.mono g₂.sub⟩
end
theorem bt.chg {C : Cx} {A : Around} {d : Nat} {fz : Fz} {σ : St} {s : Shared} (r : bt C fz σ s) : bt { C with A := A, d := d } fz σ s := ⟨r.base, r.fro, fun a x e => let ⟨o, h1, h2, h3⟩ := r.mem a x e; ⟨o, h1, h2, h3⟩, r.ns, fun x v e q => let ⟨c, u, h1, h2, h3, h4⟩ := r.cell x v e q; ⟨c, u, h1, h2, h3, h4⟩, r.own, r.lo, r.fr, r.nocell, r.one, r.sp, r.gens, r.os, r.drawn⟩
theorem bt.chg' {C : Cx} {A : Around} {d : Nat} {fz : Fz} {σ : St} {s : Shared} (r : bt { C with A := A, d := d } fz σ s) : bt C fz σ s := ⟨r.base, r.fro, fun a x e => let ⟨o, h1, h2, h3⟩ := r.mem a x e; ⟨o, h1, h2, h3⟩, r.ns, fun x v e q => let ⟨c, u, h1, h2, h3, h4⟩ := r.cell x v e q; ⟨c, u, h1, h2, h3, h4⟩, r.own, r.lo, r.fr, r.nocell, r.one, r.sp, r.gens, r.os, r.drawn⟩
theorem Go.chg' {C : Cx} {A : Around} {d : Nat} {fz fz' : Fz} {σ σ' : St} {s s' : Shared} (g : Go { C with A := A, d := d } fz σ s fz' σ' s') : Go C fz σ s fz' σ' s' := ⟨g.rep.chg', g.sub, g.keep, g.slot, g.new, g.fnew, g.live⟩
theorem hV (A : Around) (c : Code) (h : c.envs = []) : (A.under c).frames = A.frames := by unfold Around.under; rw [h]; rfl
theorem kr (l : List Value) (c : Addr) : (Code.builtin "type.__call__" ⟨.ref c :: l, []⟩).weight = 1 := by rfl
theorem mf (l : List Value) (c : Addr) : (Code.builtin "type.__call__" ⟨.ref c :: l, []⟩).cUnits ≤ 8 := Nat.le_of_ble_eq_true (by rfl)
theorem oM (l : List Value) (c : Addr) : (Code.builtin "type.__call__" ⟨.ref c :: l, []⟩).envs = [] := by rfl
noncomputable def nq : List (Addr × Addr) := [(155, 75), (251, 248), (273, 270), (294, 291), (322, 312), (438, 367), (467, 457), (523, 506)]
noncomputable def iB (K : Frag) (c f : Addr) : Bool := makesIn K c && findIn K (.ref c) "__init__" == some (some (.ref f)) && typeIn K (.ref f) == some (.type "function") && keepIn K (.ref c)
theorem nr (P : Params) : (nq.all fun p => iB (HB.KF P) p.1 p.2) = true := by kernel_rfl
theorem dp {a : Addr} {x : M} {m : Mem} (h : m.lookup a = none) : bP a ((a, x) :: m) = m := by
 unfold bP
 rw [List.filter_cons]
 simp only [bne_self_eq_false, Bool.false_eq_true, if_false]
 rw [List.filter_eq_self]
 intro p hp
 obtain ⟨b, y⟩ := p
 show (b != a) = true
 cases q : (b != a) with
 | true => rfl
 | false =>
  have e : b = a := by simpa using q
  subst e
  have : ∀ {m : Mem}, (b, y) ∈ m → m.lookup b ≠ none := by
   intro m
   induction m with
   | nil => intro h; cases h
   | cons p m ih =>
    obtain ⟨c, z⟩ := p
    intro h
    rw [List.lookup_cons]
    cases q : (b == c) with
    | true => simp
    | false =>
     rcases List.mem_cons.mp h with h | h
     ·cases h; simp at q
     ·exact ih h
  exact absurd h (this hp)
theorem i9 {prog : Program} {d : Nat} {c f : Addr} (hm : (c, f) ∈ nq) {as : List V} {mem : Mem} {Q : V → Mem → Prop} {R : Mem → Prop}
  (h : ∀ x dx, mem.lookup dx = none → Calls prog d (.ref f) (.imut x dx c :: as) ((dx, .dict []) :: mem) (fun v m => v = .none ∧ ∃ l, m.lookup dx = some (.dict l) ∧ Q (.inst c l) (bP dx m)) fun _ => False) : bA prog (d + 1) (.ref c) as mem Q R := by
 have ck0 : ∀ P, iB (HB.KF P) c f = true := fun P => List.all_eq_true.mp (nr P) _ hm
 refine ⟨la fun P => ?_, ?_⟩
 ·have := ck0 P
  unfold iB at this
  simp only [Bool.and_eq_true] at this
  exact this.2
 rintro C fz σ s uf us O hd rfl r hf hs
 refine gk fun _ kk => ?_
 cases hf
 have ck := ck0 C.P
 unfold iB at ck
 simp only [Bool.and_eq_true, beq_iff_eq] at ck
 obtain ⟨⟨⟨c1, c2⟩, c3⟩, c4⟩ := ck
 refine kk ?_; clear kk
 have X : (HB.KF C.P).In s.heap := O.K.keeps r.base
 have fr := aP s.heap
 have fr1 : s.heap.get? (s.heap.objs.size + 1) = none := Heap.get?_none_of_le (Nat.le_succ _)
 let s' : Shared := { s with heap := (s.heap.push emptyDict).push (instObj c s.heap.objs.size) }
 have hx : s'.heap.get? (s.heap.objs.size + 1) = some (instObj c s.heap.objs.size) := by
  have := Heap.get?_push_size (h := s.heap.push emptyDict) (o := instObj c s.heap.objs.size) rfl
  rwa [Heap.size_push] at this
 have hdx : s'.heap.get? s.heap.objs.size = some (dictOf [] 0) := Heap.get?_push_of_some _ (Heap.get?_push_size _ rfl)
 have k : ∀ b o, s.heap.get? b = some o → s'.heap.get? b = some o := fun b o e => Heap.get?_push_of_some _ (Heap.get?_push_of_some _ e)
 have g0 : Go C fz σ s ((s.heap.objs.size + 1, instObj c s.heap.objs.size) :: fz) σ s' := Go.add r [(s.heap.objs.size + 1, instObj c s.heap.objs.size)] k (fun p hp => by rw [List.mem_singleton.mp hp]; exact ⟨fr1, hx⟩)
 have aw : Aw ((s.heap.objs.size + 1, instObj c s.heap.objs.size) :: fz) σ s.heap.objs.size := by
  have a := Aw.new (fz := fz) (σ := σ) r fr
  refine ⟨fun p hp => ?_, a.2⟩
  rcases List.mem_cons.mp hp with rfl | hp
  ·exact Nat.ne_of_gt (Nat.lt_succ_self _)
  ·exact a.1 p hp
 have g1 := Go.adoptMem (y := .dict []) r g0 fr hdx aw (.dict (es := []) (n := 0) (by simp) .nil) (fun u h => by cases h)
 let A' := C.A.under (.builtin "type.__call__" ⟨.ref c :: us, []⟩)
 let C₁ : Cx := { C with A := A', d := C.d - 1 }
 have O₁ : Ok C₁ := by
  refine ⟨(hV _ _ (oM us c)).trans O.hA, O.hf, O.hfk, O.ef, O.ek, O.eg, O.eb, O.K, O.g, O.b, O.bb, O.nl, O.nd, O.hh, ?_, ?_⟩
  ·show C.A.depth + (Code.builtin "type.__call__" ⟨.ref c :: us, []⟩).weight + (C.d - 1) ≤ 990
   rw [kr]; have := O.hd; lia
  ·show C.A.units + (Code.builtin "type.__call__" ⟨.ref c :: us, []⟩).cUnits + 16 * (C.d - 1) + C.k ≤ 9800
   have := O.hu; have := mf us c; lia
 have hc := h (s.heap.objs.size + 1) s.heap.objs.size aw.2 C₁ _ _ s' (.ref f) (.ref (s.heap.objs.size + 1) :: us) O₁ (by show d ≤ C.d - 1; lia) rfl (g1.rep.chg (A := A') (d := C.d - 1)) (.ref f)
  (.cons (.imut (.head _)) (hs.mono fun p hp => .tail _ hp))
 refine gk fun _ kk => ?_
 obtain ⟨hh, gg, dd, tt, os⟩ := s
 refine kk ?_; clear kk
 refine make_core (makes_of X c1) (looks_findIn X c2) (fun self => bind_fn X self c3) (.inl rfl) (codeAny_mono hc fun rr s₂ b => ?_)
 cases rr with
 | ok fl =>
  cases fl with
  | ret v =>
   refine gk fun _ kk => ?_
   obtain ⟨fz', x, σ', g, hv, hl, rfl, l, hl1, hq⟩ := b
   cases hv
   refine kk ?_; clear kk
   refine ⟨rfl, ?_⟩
   have g2 := g1.trans (Go.chg' g)
   refine gk fun _ kk => ?_
   obtain ⟨o, m1, m2, g3⟩ := Go.freeze g2.rep _ _ hl1
   refine kk ?_; clear kk
   cases m2 with
   | dict hlen hr =>
    refine ⟨_, .inst c l, _, g2.trans g3, .inst (.tail _ (g.sub _ (.head _))) (.head _) (hr.mono fun p hp => .tail _ hp), hl, hq⟩
  | _ => exact b.elim
 | error e =>
  refine gk fun _ kk => ?_
  obtain ⟨_, _, _, _, _, _, _, _, q⟩ := b
  refine kk ?_; clear kk
  exact q.elim
noncomputable def ge (s : String) (v : V) : Str × V := (Str.ofString s, v)
noncomputable def N7 : List (Str × V) := [
 ge "len" (.bi .len), ge "abs" (.bi .abs), ge "max" (.bi .max), ge "min" (.bi .min), ge "sum" (.bi .sum), ge "isinstance" (.bi .isinst),
 ge "int" (.typ .int), ge "str" (.typ .str), ge "bool" (.typ .bool), ge "list" (.typ .list), ge "dict" (.typ .dict), ge "tuple" (.typ .tuple), ge "bytes" (.typ .bytes), ge "range" (.typ .range), ge "enumerate" (.typ .enum),
 ge "SPECIAL" (.tup [.str ax, .str av, .str bg, .str bc]),
 ge "MOST_HOPS" (.int 30), ge "MOST_SPACES" (.int 8), ge "MOST_INKS" (.int 32), ge "MOST_INDEX" (.int 255),
 ge "sign_of" (.ref 173), ge "rounded_quotient" (.ref 180), ge "decimal_of" (.ref 187), ge "at_one_scale" (.ref 194), ge "tops_of" (.ref 199), ge "over" (.ref 206), ge "sum_of" (.ref 213), ge "least" (.ref 220), ge "greatest" (.ref 227), ge "clamped" (.ref 234), ge "kind_of" (.ref 333), ge "is_number" (.ref 340), ge "device_spaces" (.ref 478), ge "device_space" (.ref 485), ge "device_of_count" (.ref 492), ge "space_of" (.ref 535), ge "space_within" (.ref 542), ge "space_by_name" (.ref 549), ge "default_space" (.ref 556), ge "space_by_array" (.ref 563), ge "base_space" (.ref 570), ge "profile_space" (.ref 577), ge "indexed_space" (.ref 584), ge "opened" (.ref 591), ge "ink_space" (.ref 598), ge "cut_numbers" (.ref 603), ge "rgb" (.ref 609), ge "base_numbers" (.ref 614), ge "rest_of" (.ref 621), ge "device_rgb" (.ref 626), ge "_law_pen" (.ref 631), ge "_law_draw" (.ref 638), ge "_law_counts" (.ref 645), ge "_law_device" (.ref 652), ge "_law_count" (.ref 659), ge "_law_plain" (.ref 666), ge "_law_inks" (.ref 671), ge "_law_space" (.ref 676), ge "_law_laid" (.ref 683), ge "_law_object" (.ref 688), ge "_law_nearest" (.ref 695), ge "_law_weighted" (.ref 700), ge "_law_cut" (.ref 705), ge "_law_index" (.ref 712), ge "_law_due" (.ref 717), ge "_law_told" (.ref 724), ge "_law_evaluate" (.ref 729), ge "_law_inner" (.ref 736), ge "_law_refused" (.ref 743), ge "PaperError" (.ref 46), ge "PaintFault" (.ref 59), ge "Decimal" (.ref 155), ge "Name" (.ref 251), ge "String" (.ref 273), ge "Stream" (.ref 294), ge "Reference" (.ref 322), ge "Shelf" (.ref 438), ge "Space" (.ref 467), ge "Source" (.ref 523)]
noncomputable def gl (x : Str) : Option V := N7.lookup x
inductive X where
 | int (i : Int) | str (s : Str) | byt (b : List UInt8) | non | bool (b : Bool) | loc (x : Str) | gv (v : V)
 | bin (op : Operator) (a b : X) | neg (a : X) | cmp (op : CmpOp) (a b : X) | cmp2 (o₁ o₂ : CmpOp) (a b c : X)
 | ite (t a b : X) | not (a : X) | andd (l : X) | orr (l : X)
 | call (f l : X) | meth (o : X) (m : Str) (l : X) | attr (o : X) (m : Str) | sub (o i : X) | slc (o lo hi : X)
 | tup (l : X) | lst (l : X) | lstM (l : X) | dct (ks : List Str) (l : X) | dctM (ks : List Str) (l : X)
 | comp (fr : List Str) (x : Str) (elt it ifs : X) | comp2 (fr : List Str) (x y : Str) (elt it : X) | nil | cons (a l : X) | bad
inductive S where
 | asg (x : Str) (e : X) | unp (xs : List Str) (e : X) | sat (o : X) (f : Str) (e : X) | ssb (o i e : X) | ex (e : X) | ret (e : X)
 | iff (t : X) (a b : S) | whl (t : X) (b : S) | for_ (x : Str) (it : X) (b : S) | fri (x y : Str) (it : X) (b : S) | rse (e : X) | tri (b : S) (x : Str) (i : Int) | frz (x : Str) | nil | seq (a b : S) | bad
section
variable {β : Type} {e : Expr} {d : β} {G : Expr → Prop} {F : β → Prop}
theorem rS {k : Option Expr → Option Expr → Option Expr → β} (h : F (vL e k d)) (h1 : ∀ lo hi st p, F (k lo hi st) → G (.Slice lo hi st p)) (h2 : iU e = true → F d → G e) : G e := by
 cases e with | Slice lo hi st p => exact h1 lo hi st p h | _ => exact h2 rfl h
variable {α : Type} {l : List α} {L : List α → Prop}
noncomputable def l0 (l : List α) (k d : β) : β := match l with | [] => k | _ :: _ => d
noncomputable def l1 (l : List α) (k : α → β) (d : β) : β := match l with | [] => d | x :: r => l0 r (k x) d
noncomputable def l2 (l : List α) (k : α → α → β) (d : β) : β := match l with | [] => d | x :: r => l1 r (k x) d
theorem kt {k : β} (h : F (l0 l k d)) (h1 : F k → L []) (h2 : F d → L l) : L l := by
 cases l with | nil => exact h1 h | cons x r => exact h2 h
theorem ku {k : α → β} (h : F (l1 l k d)) (h1 : ∀ x, F (k x) → L [x]) (h2 : F d → L l) : L l := by
 cases l with
 | nil => exact h2 h
 | cons x r => cases r with
  | nil => exact h1 x h
  | cons y r => exact h2 h
theorem Hu {k : α → α → β} (h : F (l2 l k d)) (h1 : ∀ x y, F (k x y) → L [x, y]) (h2 : F d → L l) : L l := by
 cases l with
 | nil => exact h2 h
 | cons x r => cases r with
  | nil => exact h2 h
  | cons y r => cases r with
   | nil => exact h1 x y h
   | cons z r => exact h2 h
end
noncomputable def dL : List X → X
 | [] => .nil
 | a :: l => .cons a (dL l)
noncomputable def uy (f : Expr → X) : Option Expr → X
 | some e => f e
 | none => .non
noncomputable def cx (c : Bool) (x : X) : X := match c with | true => x | false => .bad
noncomputable def nt (e : Expr) : Bool := e.ctorIdx != 7
noncomputable def rT (nm : List (Str × NameKind)) (x : Str) : X := cx (x != ("__debug__" : Str)) (match nm.lookup x with
 | some .globalImplicit => (match gl x with | some v => .gv v | none => .bad)
 | some .globalExplicit => .bad
 | some _ => .loc x
 | none => .bad)
noncomputable def rU : Const → X
 | .int i => .int i
 | .str s => cx (decide (s.length ≤ cap)) (.str s)
 | .bytes b => cx (decide (b.length ≤ cap)) (.byt b)
 | .none => .non
 | .bool b => .bool b
 | _ => .bad
noncomputable def OI (a n : X) : UnaryOp → X
 | .USub => .neg a
 | .Not => .not n
 | _ => .bad
noncomputable def Hv (f : Expr → X) (t : Bool) (l : Expr) (o₁ : CmpOp) (r₁ : Expr) : List CmpOp → List Expr → X
 | [], [] => cx (!behindInMarks o₁ r₁) (.cmp o₁ (f l) (f r₁))
 | [o₂], [r₂] => cx (t && !lastMarks [o₁, o₂] [r₁, r₂]) (.cmp2 o₁ o₂ (f l) (f r₁) (f r₂))
 | _, _ => .bad
noncomputable def FG (f : Expr → X) (t : Bool) (l : Expr) : List CmpOp → List Expr → X
 | o :: os, r :: rs => Hv f t l o r os rs
 | _, _ => .bad
noncomputable def Hw (l : List X) : BoolOp → X
 | .And => cx (!l.isEmpty) (.andd (dL l))
 | .Or => cx (!l.isEmpty) (.orr (dL l))
noncomputable def vU (nm : List (Str × NameKind)) (f : Expr → X) (as : List Expr) (p : Pos) (g : Expr) : X := ec g
 (fun o m ap => cx (cq o && as.all noStar && decide (as.length < 30) && ap.endLine == p.line) (.meth (f o) m (dL (as.map f))))
 (dm g (fun x => cx (as.all noStar) (.call (rT nm x) (dL (as.map f)))) .bad)
noncomputable def Hx (f : Expr → X) (o i : Expr) : X := vL i (fun lo hi st => match st with | none => .slc (f o) (uy f lo) (uy f hi) | some _ => .bad) (.sub (f o) (f i))
noncomputable def kx (M : Bool) (l : List X) (ks : List (Option Expr)) : X := match cn ks with
 | some ns => cx (ks.length == l.length && decide (ns.length ≤ 15) && decide ns.Nodup) (bif M then .dctM ns (dL l) else .dct ns (dL l))
 | none => .bad
noncomputable def Hy (g : Expr → X) : List Expr → X
 | [] => .nil
 | [c] => .cons (g c) .nil
 | _ => .bad
noncomputable def mh (e : Expr) : Option (Str × Str) := k8 e (fun es => l2 es (fun a b => dm a (fun x => dm b (fun y => some (x, y)) none) none) none) none
noncomputable def li (e : Expr) : Option Expr := iR e (fun f as ks _ => dm f (fun x => bif x == bD then l0 ks (l1 as some none) none else none) none) none
noncomputable def ja (e : Expr) : Option Expr := iR e (fun f as ks p => ec f (fun o m ap => bif m == eF && cq o && as.isEmpty && ks.isEmpty && ap.endLine == p.line then some o else none) none) none
noncomputable def nu (nm : List (Str × NameKind)) (f h : Expr → X) (e : Expr) (sc : Scope) (it : Expr) (ifs : List Expr) (k : Int) (ab : Str × Str) : X := match li it with
 | some a => cx (k == 0 && gc nm sc ab.1 && gc nm sc ab.2 && (ifs.isEmpty && noStar a && nm.lookup bD == some .globalImplicit && decide (∀ y ∈ sc.names, y.2 = .local → sc.names.lookup y.1 = some .local))) (.comp2 (bf sc.names) ab.1 ab.2 (h e) (f a))
 | none => .bad
noncomputable def rV (nm : List (Str × NameKind)) (f g h : Expr → X) (e : Expr) (sc : Scope) (it : Expr) (ifs : List Expr) (k : Int) (tg : Expr) : X := match mh tg with
 | some ab => nu nm f h e sc it ifs k ab
 | none => dm tg (fun x => cx (k == 0 && gc nm sc x && nt it && decide (∀ y ∈ sc.names, y.2 = .local → sc.names.lookup y.1 = some .local)) (.comp (bf sc.names) x (h e) (f it) (Hy g ifs))) .bad
noncomputable def cM (nm : List (Str × NameKind)) : Nat → Bool → Expr → X
 | 0, _, _ => .bad
 | n + 1, t, e => match e with
  | .Constant c _ _ => rU c
  | .Name x _ => rT nm x
  | .BinOp a op b _ => .bin op (cM nm n false a) (cM nm n false b)
  | .UnaryOp op a _ => OI (cM nm n false a) (cM nm n t a) op
  | .Compare l os rs _ => FG (cM nm n false) t l os rs
  | .IfExp c a b _ => .ite (cM nm n true c) (cM nm n t a) (cM nm n t b)
  | .BoolOp op es _ => Hw (es.map (cM nm n t)) op
  | .Call g as ks p => (match ks with | [] => vU nm (cM nm n false) as p g | _ => .bad)
  | .Attribute o m _ => cx (cq o) (.attr (cM nm n false o) m)
  | .Subscript o i _ => Hx (cM nm n false) o i
  | .Tuple es _ _ => cx (es.all noStar) (.tup (dL (es.map (cM nm n false))))
  | .List es _ => cx (es.all noStar) (.lst (dL (es.map (cM nm n false))))
  | .Dict ks vs _ => kx false (vs.map (cM nm n false)) ks
  | .ListComp elt gs sc _ => (match gs with | [⟨tg, it, ifs, k⟩] => rV nm (cM nm n false) (cM sc.names n true) (cM sc.names n false) elt sc it ifs k tg | _ => .bad)
  | _ => .bad
noncomputable def dD (turn : St → (Option V → St → Prop) → Prop) (x : Str) : List V → St → (List V → Mem → Prop) → Prop
 | [], ⟨_, me⟩, Q => Q [] me
 | v :: vs, ⟨lo, me⟩, Q => turn ⟨put x v lo, me⟩ fun r σ' => match r with
  | some y => dD turn x vs σ' fun ys m => Q (y :: ys) m
  | none => dD turn x vs σ' Q
noncomputable def rW (turn : St → (St → Prop) → Prop) (x : Str) : List V → St → (St → Prop) → Prop
 | [], σ, Q => Q σ
 | v :: vs, ⟨lo, me⟩, Q => turn ⟨put x v lo, me⟩ fun σ' => rW turn x vs σ' Q
noncomputable def lj (turn : St → (V → St → Prop) → Prop) (x y : Str) : Int → List V → St → (List V → Mem → Prop) → Prop
 | _, [], ⟨_, me⟩, Q => Q [] me
 | i, v :: vs, ⟨lo, me⟩, Q => turn ⟨put y v (put x (.int i) lo), me⟩ fun r σ' => lj turn x y (i + 1) vs σ' fun ys m => Q (r :: ys) m
noncomputable def rX (turn : St → (St → Prop) → Prop) (x y : Str) : List (Str × V) → St → (St → Prop) → Prop
 | [], σ, Q => Q σ
 | (k, v) :: vs, ⟨lo, me⟩, Q => turn ⟨put y v (put x (.str k) lo), me⟩ fun σ' => rX turn x y vs σ' Q
noncomputable def dg (fr : List Str) (l : List (Str × V)) : List (Str × V) := l.filter fun p => fr.contains p.1
noncomputable def ll (x : Str) : St → St
 | ⟨lo, me⟩ => match lo.lookup x with
  | some (.mut a) => (match me.lookup a with
   | some (.list l) => ⟨put x (.list l) lo, bP a me⟩
   | some (.dict l) => ⟨put x (.dict l) lo, bP a me⟩
   | _ => ⟨lo, me⟩)
  | _ => ⟨lo, me⟩
noncomputable def Hz (x : Str) (v : V) (K : St → Prop) : St → Prop
 | ⟨lo, me⟩ => K ⟨put x v lo, me⟩
noncomputable def LR (xs : List Str) (vs : List V) (K : St → Prop) : St → Prop
 | ⟨lo, me⟩ => K ⟨gT xs vs lo, me⟩
noncomputable def HA (x : M) (K : V → St → Prop) : St → Prop
 | ⟨lo, me⟩ => ∀ a, me.lookup a = none → K (.mut a) ⟨lo, (a, x) :: me⟩
noncomputable def LS (fr : List Str) (turn : St → (Option V → St → Prop) → Prop) (x : Str) (xs : List V) (K : V → St → Prop) : St → Prop
 | ⟨lo, me⟩ => dD turn x xs ⟨dg fr lo, me⟩ fun ys m => K (.list ys) ⟨lo, m⟩
noncomputable def HC (fr : List Str) (turn : St → (V → St → Prop) → Prop) (x y : Str) (xs : List V) (K : V → St → Prop) : St → Prop
 | ⟨lo, me⟩ => lj turn x y 0 xs ⟨dg fr lo, me⟩ fun ys m => K (.list ys) ⟨lo, m⟩
noncomputable def LT (v : V) (K : List V → Prop) : Prop := match v with | .list l => K l | _ => False
noncomputable def LU (v : V) (K : List (Str × V) → Prop) : Prop := match v with | .dict l => K l | _ => False
noncomputable def N8 (l : List (Str × V)) : Bool := decide (l.map (·.1)).Nodup && l.all fun p => Nat.ble p.1.length cap
noncomputable def LV (v : V) (K : Prop) : Prop := match v with | .str _ => K | _ => False
noncomputable def LW (v : V) (K : V → Prop) : Prop := match v with | .int i => K (.int (-i)) | _ => False
noncomputable def LX (v : V) (K : List V → Prop) : Prop := match v with | .tup vs => K vs | _ => False
section
variable (prog : Program) (d : Nat)
mutual
noncomputable def vc : X → (St → Prop) → St → (V → St → Prop) → Prop
 | .int i, _, σ, Q => Q (.int i) σ
 | .str s, _, σ, Q => Q (.str s) σ
 | .byt b, _, σ, Q => Q (.bytes b) σ
 | .non, _, σ, Q => Q .none σ
 | .bool b, _, σ, Q => Q (.bool b) σ
 | .loc x, _, σ, Q => fS (σ.loc.lookup x) fun v => Q v σ
 | .gv v, _, σ, Q => Q v σ
 | .bin op a b, R, σ, Q => vc a R σ fun u σ₁ => vc b R σ₁ fun v σ₂ => tS op u v σ₂ Q
 | .neg a, R, σ, Q => vc a R σ fun u σ₁ => LW u fun v => Q v σ₁
 | .cmp op a b, R, σ, Q => vc a R σ fun u σ₁ => vc b R σ₁ fun v σ₂ => lT op u v σ₂ Q
 | .cmp2 o₁ o₂ a b c, R, σ, Q => vc a R σ fun u σ₁ => vc b R σ₁ fun v σ₂ => lT o₁ u v σ₂ fun w σ₃ => gm w fun k => iK k (vc c R σ₃ fun y σ₄ => lT o₂ v y σ₄ Q) (Q (.bool false) σ₃)
 | .ite t a b, R, σ, Q => vc t R σ fun u σ₁ => gm u fun k => iK k (vc a R σ₁ Q) (vc b R σ₁ Q)
 | .not a, R, σ, Q => vc a R σ fun u σ₁ => gm u fun k => Q (.bool (!k)) σ₁
 | .andd l, R, σ, Q => JI l R σ Q
 | .orr l, R, σ, Q => JJ l R σ Q
 | .call f l, R, σ, Q => vc f R σ fun fv σ₁ => qr l R σ₁ fun vs σ₂ => l6 prog d fv vs σ₂ Q R
 | .meth o m l, R, σ, Q => vc o R σ fun ov σ₁ => ix (pM ov m σ₁.mem) (qr l R σ₁ fun vs σ₂ => Fr prog d ov m vs σ₂ Q R)
 | .attr o m, R, σ, Q => vc o R σ fun ov σ₁ => rk ov m σ₁ fun v => ix (oA v) (Q v σ₁)
 | .sub o i, R, σ, Q => vc o R σ fun ov σ₁ => vc i R σ₁ fun iv σ₂ => Fj ov iv σ₂ fun v => Q v σ₂
 | .slc o lo hi, R, σ, Q => vc o R σ fun ov σ₁ => vc lo R σ₁ fun a σ₂ => fS (part a) fun pa => vc hi R σ₂ fun b σ₃ => fS (part b) fun pb => Hn ov pa pb fun v => Q v σ₃
 | .tup l, R, σ, Q => qr l R σ fun vs σ' => ix (Nat.ble vs.length cap) (Q (.tup vs) σ')
 | .lst l, R, σ, Q => qr l R σ fun vs σ' => ix (Nat.ble vs.length cap) (Q (.list vs) σ')
 | .lstM l, R, σ, Q => qr l R σ fun vs σ' => ix (Nat.ble vs.length cap) (HA (.list vs) Q σ')
 | .dct ks l, R, σ, Q => qr l R σ fun vs σ' => Q (.dict (ks.zip vs)) σ'
 | .dctM ks l, R, σ, Q => qr l R σ fun vs σ' => HA (match ks with | [] => .idict [] | _ => .dict (ks.zip vs)) Q σ'
 | .comp fr x elt it ifs, R, σ, Q => vc it R σ fun v σ₁ => fS (eK v) fun xs =>
   LS fr (fun σ K => qr ifs dP σ fun bs σ' => match bs with
    | [] => vc elt dP σ' fun y σ'' => K (some y) σ''
    | b :: _ => gm b fun k => iK k (vc elt dP σ' fun y σ'' => K (some y) σ'') (K none σ')) x xs Q σ₁
 | .comp2 fr x y elt it, R, σ, Q => vc it R σ fun v σ₁ => LT v fun xs => HC fr (fun σ K => vc elt dP σ K) x y xs Q σ₁
 | .nil, _, _, _ => False
 | .cons _ _, _, _, _ => False
 | .bad, _, _, _ => False
noncomputable def qr : X → (St → Prop) → St → (List V → St → Prop) → Prop
 | .nil, _, σ, Q => Q [] σ
 | .cons a l, R, σ, Q => vc a R σ fun v σ₁ => qr l R σ₁ fun vs σ₂ => Q (v :: vs) σ₂
 | _, _, _, _ => False
noncomputable def JI : X → (St → Prop) → St → (V → St → Prop) → Prop
 | .nil, _, σ, Q => Q (.bool true) σ
 | .cons a l, R, σ, Q => vc a R σ fun v σ₁ => gm v fun k => iK k (JI l R σ₁ Q) (Q (.bool false) σ₁)
 | _, _, _, _ => False
noncomputable def JJ : X → (St → Prop) → St → (V → St → Prop) → Prop
 | .nil, _, σ, Q => Q (.bool false) σ
 | .cons a l, R, σ, Q => vc a R σ fun v σ₁ => gm v fun k => iK k (Q (.bool true) σ₁) (JJ l R σ₁ Q)
 | _, _, _, _ => False
end
noncomputable def bH : S → (St → Prop) → St → (St → Prop) → (V → St → Prop) → Prop
 | .asg x e, R, σ, Qn, _ => vc prog d e R σ fun v σ' => Hz x v Qn σ'
 | .unp xs e, R, σ, Qn, _ => vc prog d e R σ fun v σ' => LX v fun vs => ix (Nat.beq xs.length vs.length) (LR xs vs Qn σ')
 | .sat o f e, R, σ, Qn, _ => vc prog d e R σ fun v σ₁ => vc prog d o R σ₁ fun ov σ₂ => Fv ov f v σ₂ Qn
 | .ssb o i e, R, σ, Qn, _ => vc prog d e R σ fun v σ₁ => vc prog d o R σ₁ fun ov σ₂ => vc prog d i R σ₂ fun iv σ₃ => i3 ov iv v σ₃ Qn
 | .ex e, R, σ, Qn, _ => vc prog d e R σ fun _ σ' => Qn σ'
 | .ret e, R, σ, _, Qr => vc prog d e R σ Qr
 | .iff t a b, R, σ, Qn, Qr => vc prog d t R σ fun v σ₁ => gm v fun k => iK k (bH a R σ₁ Qn Qr) (bH b R σ₁ Qn Qr)
 | .whl t b, R, σ, Qn, Qr => ∃ (I : Nat → St → Prop) (n : Nat), I n σ ∧ ∀ n σ₁, I n σ₁ → vc prog d t R σ₁ fun v σ₂ => gm v fun k => iK k (bH b R σ₂ (fun σ₃ => ∃ m, m < n ∧ I m σ₃) Qr) (Qn σ₂)
 | .for_ x it b, R, σ, Qn, Qr => vc prog d it R σ fun v σ₁ => fS (eK v) fun xs => rW (fun σ K => bH b R σ K Qr) x xs σ₁ Qn
 | .fri x y it b, R, σ, Qn, Qr => vc prog d it R σ fun v σ₁ => LU v fun l => ix (N8 l) (rX (fun σ K => bH b R σ K Qr) x y l σ₁ Qn)
 | .rse e, R, σ, _, _ => vc prog d e R σ fun v σ₁ => LV v (R σ₁)
 | .tri b x i, _, σ, Qn, Qr => bH b (fun σ' => Hz x (.int i) Qn σ') σ Qn Qr
 | .frz x, _, σ, Qn, _ => Qn (ll x σ)
 | .nil, _, σ, Qn, _ => Qn σ
 | .seq a b, R, σ, Qn, Qr => bH a R σ (fun σ' => bH b R σ' Qn Qr) Qr
 | .bad, _, _, _, _ => False
end
noncomputable def HD : List Str := [ax, av, bg, bc]
noncomputable def HE (K : Frag) (x : Str) (v : V) : Bool := x != ("__name__" : Str) && match v with
 | .ref a => nsIn K mainGlobals x == some (some (.ref a))
 | .int i => (match nsIn K mainGlobals x with | some (some (.int j _)) => i == j | _ => false)
 | .typ n => nsIn K mainGlobals x == some none && bootBuiltins x == some (.type n.s)
 | .bi n => nsIn K mainGlobals x == some none && bootBuiltins x == some (.builtin n.s)
 | .tup l => nsIn K mainGlobals x == some (some (.ref 441)) && eh l == some HD
 | _ => false
theorem FH (P : Params) : (N7.all fun p => HE (HB.KF P) p.1 p.2) = true := by kernel_rfl
theorem jb : ∀ {l : List V} {ys : List Str}, eh l = some ys → l = ys.map .str
 | [], _, e => by cases e; rfl
 | x :: l, ys, e => by
  refine gk fun _ kk => ?_
  obtain ⟨y, e1, e2⟩ := Option.bind_eq_some_iff.mp e
  obtain ⟨zs, e3, rfl⟩ := bR e2
  refine kk ?_; clear kk
  rw [oo e1, jb e3]; rfl
section
variable {prog : Program} {C : Cx} {σ : St} {Q : V → St → Prop} {R : St → Prop}
theorem rY (O : Ok C) {x : Str} {pos : Pos} {v : V} (hk : C.env.kindOf x = some .globalImplicit) (hd : (x == ("__debug__" : Str)) = false) (hg : gl x = some v) (h : Q v σ) : WE prog C σ (eval (.Name x pos) C.env) Q R := by
 have ck := List.all_eq_true.mp (FH C.P) _ (bV hg)
 obtain ⟨hn, ck⟩ := Bool.and_eq_true_iff.mp ck
 replace hn := bne_iff_ne.mp hn
 have mg : ∀ {u}, nsIn (HB.KF C.P) mainGlobals x = some (some u) → C.mg x = some u := fun e => mg_of O.K O.g e
 have mn : nsIn (HB.KF C.P) mainGlobals x = some none → C.mg x = none := fun e => mg_none_of O.K O.g e
 cases v with
 | ref a => exact kW O hk (mg (eq_of_beq ck)) (fun _ _ _ => .ref _) h hd
 | int i =>
  replace ck : (match nsIn (HB.KF C.P) mainGlobals x with | some (some (.int j _)) => i == j | _ => false) = true := ck
  cases e : nsIn (HB.KF C.P) mainGlobals x with
  | none => rw [e] at ck; exact absurd ck Bool.false_ne_true
  | some o =>
   cases o with
   | none => rw [e] at ck; exact absurd ck Bool.false_ne_true
   | some u =>
    cases u with
    | int j t =>
     rw [e] at ck
     have q := eq_of_beq ck
     subst q
     exact kW O hk (mg e) (fun _ _ _ => .int _ _) h hd
    | _ => rw [e] at ck; exact absurd ck Bool.false_ne_true
 | typ n =>
  obtain ⟨a, b⟩ := Bool.and_eq_true_iff.mp ck
  exact qK O hk (mn (eq_of_beq a)) (eq_of_beq b) hn (fun _ => .typ _) h hd
 | bi n =>
  obtain ⟨a, b⟩ := Bool.and_eq_true_iff.mp ck
  exact qK O hk (mn (eq_of_beq a)) (eq_of_beq b) hn (fun _ => .bi _) h hd
 | tup l =>
  obtain ⟨a, b⟩ := Bool.and_eq_true_iff.mp ck
  have e := jb (eq_of_beq b)
  refine kW O hk (mg (eq_of_beq a)) (fun fz s r => ?_) h hd
  rw [e]
  have hs := r.sp (441, HB.o441) (.head _)
  exact .tup (vs := [HB.V "Pattern" 755, HB.V "Indexed" 756, HB.V "Separation" 757, HB.V "DeviceN" 758]) (n := 0) hs (by decide) (.cons (.str _ _ (by decide)) (.cons (.str _ _ (by decide)) (.cons (.str _ _ (by decide)) (.cons (.str _ _ (by decide)) .nil))))
 | _ => exact absurd ck Bool.false_ne_true
theorem lq {C' : Cx} {x : Str} {ifs : List Expr} {elt : Expr} {turn : St → (Option V → St → Prop) → Prop}
  (ht : ∀ σ K, turn σ K → pS prog C' ifs σ fun b σ' => if b = true then ∃ Q1 : V → St → Prop, WE prog C' σ' (eval elt C'.env) Q1 dP ∧ ∀ y σ'', Q1 y σ'' → K (some y) σ'' else K none σ') : ∀ {xs : List V} {σ : St} {Q : List V → Mem → Prop}, dD turn x xs σ Q → eA prog C' (put x) ifs elt xs σ Q
 | [], _, _, h => h
 | v :: vs, σ, Q, h => by
  have mono : ∀ {QB QB' : Bool → St → Prop} {σ : St}, pS prog C' ifs σ QB → (∀ b σ', QB b σ' → QB' b σ') → pS prog C' ifs σ QB' := fun {QB QB' σ} h k => by
   cases ifs with
   | nil => exact k _ _ h
   | cons c cs =>
    cases cs with
    | nil => exact WT.mono h k
    | cons _ _ => exact h.elim
  refine mono (ht _ _ h) fun b σ' q => ?_
  cases b with
  | true =>
   obtain ⟨Q1, h1, h2⟩ := q
   exact ⟨Q1, h1, fun y σ'' q => lq ht (h2 y σ'' q)⟩
  | false => exact lq ht q
theorem rZ {x : Str} {body : List Stmt} {Qn : St → Prop} {Qr : V → St → Prop} {turn : St → (St → Prop) → Prop} (ht : ∀ σ K, turn σ K → WS prog C σ (execs body C.env) K Qr R) : ∀ {xs : List V} {σ : St}, rW turn x xs σ Qn → rN prog C R (put x) body Qn Qr xs σ
 | [], _, h => h
 | v :: vs, σ, h => (ht _ _ h).mono (fun _ q => rZ ht q) (fun _ _ q => q) fun _ q => q
theorem mi {C' : Cx} {x y : Str} {elt : Expr} {turn : St → (V → St → Prop) → Prop} (ht : ∀ σ K, turn σ K → WE prog C' σ (eval elt C'.env) K dP) : ∀ {xs : List V} {i : Int} {σ : St} {Q : List V → Mem → Prop}, lj turn x y i xs σ Q → eA prog C' (JH x y) [] elt (vS i xs) σ Q
 | [], _, _, _, h => h
 | v :: vs, i, σ, Q, h => ⟨_, ht _ _ h, fun y σ'' q => mi ht q⟩
theorem oN {x y : Str} {body : List Stmt} {Qn : St → Prop} {Qr : V → St → Prop} {turn : St → (St → Prop) → Prop} (ht : ∀ σ K, turn σ K → WS prog C σ (execs body C.env) K Qr R) : ∀ {l : List (Str × V)} {σ : St}, rX turn x y l σ Qn → rN prog C R (JH x y) body Qn Qr (vT l) σ
 | [], _, h => h
 | (k, v) :: vs, σ, h => (ht _ _ h).mono (fun _ q => oN ht q) (fun _ _ q => q) fun _ q => q
theorem mj {e : Expr} {a b : Str} (h : mh e = some (a, b)) : ∃ pa pb k p, e = .Tuple [.Name a pa, .Name b pb] k p :=
 iS (F := (· = some (a, b))) (G := fun e => ∃ pa pb k p, e = .Tuple [.Name a pa, .Name b pb] k p) h (fun es k p h =>
  Hu (F := (· = some (a, b))) (L := fun es => ∃ pa pb k' p', Expr.Tuple es k p = .Tuple [.Name a pa, .Name b pb] k' p') h (fun x y h =>
   bY (F := (· = some (a, b))) (G := fun x => ∃ pa pb k' p', Expr.Tuple [x, y] k p = .Tuple [.Name a pa, .Name b pb] k' p') h (fun x px h =>
    bY (F := (· = some (a, b))) (G := fun y => ∃ pa pb k' p', Expr.Tuple [.Name x px, y] k p = .Tuple [.Name a pa, .Name b pb] k' p') h (fun y py h => by cases h; exact ⟨_, _, _, _, rfl⟩) aO) aO) aO) aO
theorem ny {e a : Expr} (h : li e = some a) : ∃ p pos, e = .Call (.Name bD p) [a] [] pos :=
 gO (F := (· = some a)) (G := fun e => ∃ p pos, e = .Call (.Name bD p) [a] [] pos) h (fun f as ks p h =>
  bY (F := (· = some a)) (G := fun f => ∃ p' pos, Expr.Call f as ks p = .Call (.Name bD p') [a] [] pos) h (fun x px h => by
   cases q : x == bD with
   | false => rw [q] at h; exact aO h
   | true =>
    rw [q] at h
    rw [eq_of_beq q]
    exact kt (F := (· = some a)) (L := fun ks => ∃ p' pos, Expr.Call (.Name bD px) as ks p = .Call (.Name bD p') [a] [] pos) h (fun h =>
     ku (F := (· = some a)) (L := fun as => ∃ p' pos, Expr.Call (.Name bD px) as [] p = .Call (.Name bD p') [a] [] pos) h (fun x h => by cases h; exact ⟨_, _, rfl⟩) aO) aO) aO) aO
theorem ml {e o : Expr} (h : ja e = some o) : ∃ ap p, e = .Call (.Attribute o eF ap) [] [] p ∧ cq o = true ∧ ap.endLine = p.line :=
 gO (F := (· = some o)) (G := fun e => ∃ ap p, e = .Call (.Attribute o eF ap) [] [] p ∧ cq o = true ∧ ap.endLine = p.line) h (fun f as ks p h =>
  dX (F := (· = some o)) (G := fun f => ∃ ap p', Expr.Call f as ks p = .Call (.Attribute o eF ap) [] [] p' ∧ cq o = true ∧ ap.endLine = p'.line) h (fun o' m ap h => by
   cases q : m == eF && cq o' && as.isEmpty && ks.isEmpty && ap.endLine == p.line with
   | false => rw [q] at h; exact aO h
   | true =>
    rw [q] at h
    refine gk fun _ kk => ?_
    cases h
    obtain ⟨q4, q5⟩ := Bool.and_eq_true_iff.mp q
    obtain ⟨q3, q4⟩ := Bool.and_eq_true_iff.mp q4
    obtain ⟨q2, q3⟩ := Bool.and_eq_true_iff.mp q3
    obtain ⟨q1, q2⟩ := Bool.and_eq_true_iff.mp q2
    refine kk ?_; clear kk
    rw [eq_of_beq q1, List.isEmpty_iff.mp q3, List.isEmpty_iff.mp q4]
    exact ⟨_, _, rfl, q2, eq_of_beq q5⟩) aO) aO
variable {d : Nat}
theorem bv {c : Bool} {x : X} (h : vc prog d (cx c x) R σ Q) : c = true ∧ vc prog d x R σ Q := by
 cases c with
 | true => exact ⟨rfl, h⟩
 | false => exact h.elim
theorem uA {a b c e : Bool} (h : (a && b && c && e) = true) : a = true ∧ b = true ∧ c = true ∧ e = true := by
 simp only [Bool.and_eq_true] at h; exact ⟨h.1.1.1, h.1.1.2, h.1.2, h.2⟩
theorem eL {it : Expr} (h : nt it = true) (env : Env) (u : Value) : foldedSetIterable it env u = pure u := by
 cases it <;> first | rfl | cases h
variable (hd : d ≤ C.d) (O : Ok C) {nm : List (Str × NameKind)} (B : jS C nm) {f : Expr → X} (E : ∀ {e : Expr} {R : St → Prop} {σ : St} {Q : V → St → Prop}, vc prog d (f e) R σ Q → WE prog C σ (eval e C.env) Q R)
 {g : Expr → X} (T : ∀ {e : Expr} {R : St → Prop} {σ : St} {QB : Bool → St → Prop}, vc prog d (g e) R σ (fun v σ' => gm v fun b => QB b σ') → WT prog C σ e QB R)
include E in
theorem dh {R : St → Prop} : ∀ (es : List Expr) {σ : St} {QL : List V → St → Prop}, qr prog d (dL (es.map f)) R σ QL → eT prog C R es σ QL
 | [], σ, QL, h => h
 | e :: es, σ, QL, h => ⟨_, E h, fun v σ' q => dh es q⟩
include T in
theorem ky {R : St → Prop} : ∀ (es : List Expr) {σ : St} {QB : Bool → St → Prop}, JI prog d (dL (es.map g)) R σ (fun v σ' => gm v fun b => QB b σ') → gQ prog C R .And es σ QB
 | [], σ, QB, h => h
 | e :: es, σ, QB, h => ⟨fun k σ₁ => iK k _ _, T h, fun b σ' q => by
  cases b
  ·exact q
  ·exact ky es q⟩
include T in
theorem kz {R : St → Prop} : ∀ (es : List Expr) {σ : St} {QB : Bool → St → Prop}, JJ prog d (dL (es.map g)) R σ (fun v σ' => gm v fun b => QB b σ') → gQ prog C R .Or es σ QB
 | [], σ, QB, h => h
 | e :: es, σ, QB, h => ⟨fun k σ₁ => iK k _ _, T h, fun b σ' q => by
  cases b
  ·exact kz es q
  ·exact q⟩
include E in
theorem jc {R : St → Prop} {Q : V → St → Prop} : ∀ (es : List Expr) {σ : St}, (es.map f).isEmpty = false → JI prog d (dL (es.map f)) R σ Q → gR prog C R .And es σ Q
 | [], σ, hn, _ => by cases hn
 | [e], σ, _, h => (E h).mono (fun v σ' q => by
   obtain ⟨b, rfl, q⟩ := dY q
   cases b <;> exact q) fun _ q => q
 | e :: e₂ :: es, σ, _, h => ⟨_, E h, fun v σ' q => by
   obtain ⟨b, rfl, q⟩ := dY q
   cases b
   ·exact q
   ·exact jc (e₂ :: es) rfl q⟩
include E in
theorem jd {R : St → Prop} {Q : V → St → Prop} : ∀ (es : List Expr) {σ : St}, (es.map f).isEmpty = false → JJ prog d (dL (es.map f)) R σ Q → gR prog C R .Or es σ Q
 | [], σ, hn, _ => by cases hn
 | [e], σ, _, h => (E h).mono (fun v σ' q => by
   obtain ⟨b, rfl, q⟩ := dY q
   cases b <;> exact q) fun _ q => q
 | e :: e₂ :: es, σ, _, h => ⟨_, E h, fun v σ' q => by
   obtain ⟨b, rfl, q⟩ := dY q
   cases b
   ·exact jd (e₂ :: es) rfl q
   ·exact q⟩
include O B in
theorem sa {x : Str} {p : Pos} (h : vc prog d (rT nm x) R σ Q) : WE prog C σ (eval (.Name x p) C.env) Q R := by
 obtain ⟨hdb, h⟩ := bv h
 replace hdb : (x == ("__debug__" : Str)) = false := by simpa using hdb
 cases hk : nm.lookup x with
 | none => simp only [hk] at h; exact h.elim
 | some k =>
  simp only [hk] at h
  cases k with
  | globalImplicit =>
   cases hg : gl x with
   | none => simp only [hg] at h; exact h.elim
   | some v => simp only [hg] at h; exact rY O (B.glob x hk) hdb hg h
  | globalExplicit => exact h.elim
  | _ => obtain ⟨v, e1, q⟩ := bq h; exact fY O e1 q hdb
theorem uB {c : Const} {k : Nat} {p : Pos} (h : vc prog d (rU c) R σ Q) : WE prog C σ (eval (.Constant c k p) C.env) Q R := by
 cases c with
 | int i => exact Fc h
 | str s => obtain ⟨a, h⟩ := bv h; exact Fd (of_decide_eq_true a) h
 | bytes s => obtain ⟨a, h⟩ := bv h; exact rG (of_decide_eq_true a) h
 | none => exact tQ h
 | bool b => exact tP h
 | _ => exact h.elim
include O E in
theorem HF {l : Expr} {os : List CmpOp} {rs : List Expr} {p : Pos} (h : vc prog d (FG f false l os rs) R σ Q) : WE prog C σ (eval (.Compare l os rs p) C.env) Q R := by
 cases os with
 | nil => exact h.elim
 | cons o os => cases rs with
  | nil => exact h.elim
  | cons r rs => cases os with
   | nil => cases rs with
    | nil =>
     obtain ⟨a, h⟩ := bv h
     exact FA O (by simpa using a) (E h) (fun a σ₁ q => E q) fun a b σ₂ q => q
    | cons _ _ => exact h.elim
   | cons o₂ os => cases rs with
    | nil => cases os <;> exact h.elim
    | cons r₂ rs => cases os with
     | nil => cases rs with
      | nil => exact h.elim
      | cons _ _ => exact h.elim
     | cons _ _ => exact h.elim
include O E in
theorem HG {l : Expr} {os : List CmpOp} {rs : List Expr} {p : Pos} {QB : Bool → St → Prop} (h : vc prog d (FG f true l os rs) R σ (fun v σ' => gm v fun b => QB b σ')) : WT prog C σ (.Compare l os rs p) QB R := by
 cases os with
 | nil => exact h.elim
 | cons o os => cases rs with
  | nil => exact h.elim
  | cons r rs => cases os with
   | nil => cases rs with
    | nil =>
     obtain ⟨a, h⟩ := bv h
     exact Fy O (by simpa using a) (E h) (fun a σ₁ q => E q) fun a b σ₂ q => q
    | cons _ _ => exact h.elim
   | cons o₂ os => cases rs with
    | nil => cases os <;> exact h.elim
    | cons r₂ rs => cases os with
     | nil => cases rs with
      | nil =>
       obtain ⟨a, h⟩ := bv h
       refine ur O (by simpa using a) (E h) (fun a σ₁ q => E q) fun a b σ₂ q => ⟨_, q, fun w σ₃ q => ?_⟩
       obtain ⟨k, rfl, q⟩ := dY q
       cases k
       ·exact q
       ·exact ⟨_, E q, fun y σ₄ q => q⟩
      | cons _ _ => exact h.elim
     | cons _ _ => exact h.elim
include E in
theorem FI {ks : List (Option Expr)} {vs : List Expr} {p : Pos} (h : vc prog d (kx false (vs.map f) ks) R σ Q) : WE prog C σ (eval (.Dict ks vs p) C.env) Q R := by
 unfold kx at h
 cases hk : cn ks with
 | none => simp only [hk] at h; exact h.elim
 | some ns =>
  simp only [hk] at h
  obtain ⟨hc, h⟩ := bv h
  simp only [Bool.and_eq_true, decide_eq_true_eq, beq_iff_eq, List.length_map] at hc
  by_cases hne : ns = []
  ·subst hne
   cases ks with
   | nil =>
    have : vs = [] := List.length_eq_zero_iff.mp hc.1.1.symm
    subst this
    exact rg h
   | cons o ks => obtain ⟨_, _, _, _, _, _, e⟩ := db hk; cases e
  ·exact tX hk hc.1.1 hne hc.1.2 hc.2 (dh E _ h) fun vs σ' q => q
include E in
theorem sd {o : Option Expr} {QP : Option Int → St → Prop} (h : vc prog d (uy f o) R σ fun v σ' => fS (part v) fun p => QP p σ') : ou prog C R o σ QP := by
 cases o with
 | none => exact h
 | some e => exact E h
include E in
theorem HH {o i : Expr} {p : Pos} (h : vc prog d (Hx f o i) R σ Q) : WE prog C σ (eval (.Subscript o i p) C.env) Q R :=
 rS (F := fun x => vc prog d x R σ Q) (G := fun i => WE prog C σ (eval (.Subscript o i p) C.env) Q R) h (fun lo hi st p2 h => by
  cases st with
  | none => exact Fm (E h) (Q2 := fun o a σ₂ => vc prog d (uy f hi) R σ₂ fun b σ₃ => fS (part b) fun pb => Hn o a pb fun v => Q v σ₃) (Q3 := fun o a b σ₃ => Hn o a b fun v => Q v σ₃) (fun o σ₁ q => sd E q) (fun o a σ₂ q => sd E q) fun o a b σ₃ q => q
  | some _ => exact h.elim) fun hn h => Fl hn (E h) (fun o σ₁ q => E q) fun o i σ₂ q => q
include O E hd B in
theorem FJ {g : Expr} {as : List Expr} {p : Pos} (h : vc prog d (vU nm f as p g) R σ Q) : WE prog C σ (eval (.Call g as [] p) C.env) Q R :=
 dX (F := fun x => vc prog d x R σ Q) (G := fun g => WE prog C σ (eval (.Call g as [] p) C.env) Q R) h (fun o m ap h => by
  refine gk fun _ kk => ?_
  obtain ⟨hc, h⟩ := bv h
  obtain ⟨h1, h2, h3, h4⟩ := uA hc
  refine kk ?_; clear kk
  exact un O hd h1 h2 (of_decide_eq_true h3) (eq_of_beq h4) (E h) (fun f σ₁ q => uk (aQ q).1) (fun f σ₁ q => dh E _ (aQ q).2) fun f vs σ₂ q => q) fun h =>
 bY (F := fun x => vc prog d x R σ Q) (G := fun g => WE prog C σ (eval (.Call g as [] p) C.env) Q R) h (fun x q h => ul O hd (bv h).1 (sa O B (bv h).2) (fun f σ₁ q => dh E _ q) fun f vs σ₂ q => q) False.elim
end
section
variable {prog : Program} {d : Nat}
noncomputable def uC (prog : Program) (d : Nat) (nm : List (Str × NameKind)) (f : Expr → X) : Prop := ∀ (C : Cx), Ok C → d ≤ C.d → jS C nm → ∀ {e : Expr} {R : St → Prop} {σ : St} {Q : V → St → Prop}, vc prog d (f e) R σ Q → WE prog C σ (eval e C.env) Q R
noncomputable def FK (prog : Program) (d : Nat) (nm : List (Str × NameKind)) (f : Expr → X) : Prop := ∀ (C : Cx), Ok C → d ≤ C.d → jS C nm → ∀ {e : Expr} {R : St → Prop} {σ : St} {QB : Bool → St → Prop}, vc prog d (f e) R σ (fun v σ' => gm v fun b => QB b σ') → WT prog C σ e QB R
theorem FL {n : Nat} {sc : List (Str × NameKind)} (E : uC prog d sc (cM sc n false)) (T : FK prog d sc (cM sc n true)) {C' : Cx} (O : Ok C') (hd : d ≤ C'.d) (B : jS C' sc) {ifs : List Expr} {elt : Expr} {σ : St} {K : Option V → St → Prop}
  (h : qr prog d (Hy (cM sc n true) ifs) dP σ fun bs σ' => match bs with
    | [] => vc prog d (cM sc n false elt) dP σ' fun y σ'' => K (some y) σ''
    | b :: _ => gm b fun k => iK k (vc prog d (cM sc n false elt) dP σ' fun y σ'' => K (some y) σ'') (K none σ')) :
  pS prog C' ifs σ fun b σ' => if b = true then ∃ Q1 : V → St → Prop, WE prog C' σ' (eval elt C'.env) Q1 dP ∧ ∀ y σ'', Q1 y σ'' → K (some y) σ'' else K none σ' := by
 cases ifs with
 | nil => exact ⟨_, E C' O hd B h, fun y σ'' q => q⟩
 | cons c cs =>
  cases cs with
  | nil =>
   have w := T C' O hd B (e := c) (QB := fun k σ' => iK k (vc prog d (cM sc n false elt) dP σ' fun y σ'' => K (some y) σ'') (K none σ')) h
   refine WT.mono w fun b σ' q => ?_
   cases b with
   | true => exact ⟨_, E C' O hd B q, fun y σ'' q => q⟩
   | false => exact q
  | cons _ _ => exact h.elim
theorem se {k : Int} {a b : Bool} {p : Prop} [Decidable p] (h : (k == 0 && a && b && decide p) = true) : k = 0 ∧ a = true ∧ b = true ∧ p := by
 refine gk fun _ kk => ?_
 obtain ⟨h1, h2, h3, h4⟩ := uA h
 refine kk ?_; clear kk
 exact ⟨eq_of_beq h1, h2, h3, of_decide_eq_true h4⟩
noncomputable def vV (prog : Program) (C : Cx) (d : Nat) (nm : List (Str × NameKind)) (Q : V → St → Prop) (R : St → Prop) (σ : St) (tg it : Expr) (ifs : List Expr) (elt : Expr) (sc : Scope) (k : Int) : Prop :=
  ∃ (ns : List Str) (pr : Bool) (bd : V → List (Str × V) → List (Str × V)), k = 0 ∧ oK nm sc ns ∧ (∀ C' : Cx, Ok C' → (∀ x ∈ ns, bj C' x) → C'.A = C.A → ma prog C' pr tg bd) ∧ (∀ u, foldedSetIterable it C.env u = pure u) ∧ (∀ y ∈ sc.names, y.2 = .local → sc.names.lookup y.1 = some .local) ∧
   WI prog C σ pr tg it (fun xs σ₁ => ∀ C' : Cx, Ok C' → jS C' sc.names → C'.d = C.d → C'.env.scope.kind = .function → eA prog C' bd ifs elt xs ⟨dM sc σ₁.loc, σ₁.mem⟩ fun ys m => Q (.list ys) ⟨σ₁.loc, m⟩) R
theorem si {n : Nat} (hd : d ≤ C.d) (O : Ok C) {nm : List (Str × NameKind)} (B : jS C nm) {f : Expr → X} (E : ∀ {e : Expr} {R : St → Prop} {σ : St} {Q : V → St → Prop}, vc prog d (f e) R σ Q → WE prog C σ (eval e C.env) Q R) {elt it tg : Expr} {ifs : List Expr} {sc : Scope} {k : Int}
  (sE : uC prog d sc.names (cM sc.names n false)) (sT : FK prog d sc.names (cM sc.names n true)) (h : vc prog d (rV nm f (cM sc.names n true) (cM sc.names n false) elt sc it ifs k tg) R σ Q) :
  vV prog C d nm Q R σ tg it ifs elt sc k := by
 unfold rV at h
 cases e : mh tg with
 | some ab =>
  refine gk fun _ kk => ?_
  obtain ⟨a, b⟩ := ab
  rw [e] at h
  obtain ⟨pa, pb, k0, p, rfl⟩ := mj e
  refine kk ?_; clear kk
  replace h : vc prog d (nu nm f (cM sc.names n false) elt sc it ifs k (a, b)) R σ Q := h
  unfold nu at h
  cases e2 : li it with
  | none => rw [e2] at h; exact h.elim
  | some arg =>
   rw [e2] at h
   refine gk fun _ kk => ?_
   obtain ⟨p', pos, rfl⟩ := ny e2
   obtain ⟨c, h2⟩ := bv h
   obtain ⟨c1, c2, c3, c4⟩ := uA c
   obtain ⟨d1, d2, d3, d4⟩ := uA c4
   refine kk ?_; clear kk
   have hi := List.isEmpty_iff.mp d1
   subst hi
   refine ⟨[a, b], true, JH a b, eq_of_beq c1, ⟨List.cons_ne_nil _ _, fun x hx => ?_⟩, fun C' O' hs _ => oI O' (hs _ (.head _)) (hs _ (.tail _ (.head _))), eL rfl _, of_decide_eq_true d4, ux O d2 (rY O (B.glob _ (eq_of_beq d3)) (by decide +kernel) (by kernel_rfl) ⟨rfl, rfl⟩) ((E h2).mono (fun v σ₁ q => ?_) fun _ q => q)⟩
   ·rcases List.mem_cons.mp hx with rfl | hx
    ·exact c2
    ·rw [List.mem_singleton.mp hx]; exact c3
   ·cases v with
    | list l => exact ⟨l, rfl, fun C' O' B' hd' hk => mi (fun σ K ht => sE C' O' (hd' ▸ hd) B' ht) q⟩
    | _ => exact q.elim
 | none =>
  rw [e] at h
  exact bY (F := fun x => vc prog d x R σ Q) (G := fun tg => vV prog C d nm Q R σ tg it ifs elt sc k) h (fun x px h => by
   refine gk fun _ kk => ?_
   obtain ⟨a, h2⟩ := bv h
   obtain ⟨rfl, a1, a2, a3⟩ := se a
   refine kk ?_; clear kk
   refine ⟨[x], false, put x, rfl, ⟨List.cons_ne_nil _ _, fun y hy => List.mem_singleton.mp hy ▸ a1⟩, fun C' O' hs _ => oH O' (hs _ (.head _)), eL a2 _, a3, oJ O ((E h2).mono (fun v σ₁ q => ?_) fun _ q => q)⟩
   obtain ⟨xs, hx, q⟩ := bq q
   rw [hx]
   exact fun C' O' B' hd' hk => lq (fun σ K ht => FL sE sT O' (hd' ▸ hd) B' ht) q) False.elim
theorem bB : ∀ n nm, uC prog d nm (cM nm n false) ∧ FK prog d nm (cM nm n true)
 | 0, nm => ⟨fun _ _ _ _ _ _ _ _ h => h.elim, fun _ _ _ _ _ _ _ _ h => h.elim⟩
 | n + 1, nm => by
  have sE : uC prog d nm (cM nm (n + 1) false) := fun C O hd B e R σ Q h => by
   have E : ∀ {e : Expr} {R : St → Prop} {σ : St} {Q : V → St → Prop}, vc prog d (cM nm n false e) R σ Q → WE prog C σ (eval e C.env) Q R := fun h => (bB n nm).1 C O hd B h
   have T : ∀ {e : Expr} {R : St → Prop} {σ : St} {QB : Bool → St → Prop}, vc prog d (cM nm n true e) R σ (fun v σ' => gm v fun b => QB b σ') → WT prog C σ e QB R := fun h => (bB n nm).2 C O hd B h
   cases e with
   | Constant c k p => exact uB h
   | Name x p => exact sa O B h
   | BinOp a op b p => exact Fe (E h) (fun a σ₁ q => E q) fun a b σ₂ q => pB q
   | UnaryOp op a p =>
    cases op with
    | USub => exact FC (E h) fun v σ' q => q
    | Not =>
     refine fun fz s r => wpAny_UnaryOp (aX r (E h) fun fz₁ v σ₁ s₁ u g hv q => ?_)
     refine gk fun _ kk => ?_
     obtain ⟨b, rfl, q⟩ := dY q
     cases hv
     refine kk ?_; clear kk
     exact not_value (wpAny_truthy_bool ⟨fz₁, _, σ₁, g, .bool _, q⟩)
    | _ => exact h.elim
   | Compare l os rs p => exact HF O E h
   | IfExp t a b p =>
    refine rF (Q1 := fun k σ₁ => iK k _ _) (T h) fun c σ₁ q => ?_
    cases c
    ·exact E q
    ·exact E q
   | BoolOp op es p =>
    cases op with
    | And => obtain ⟨a, h⟩ := bv h; exact gS (jc E es (by simpa using a) h)
    | Or => obtain ⟨a, h⟩ := bv h; exact gS (jd E es (by simpa using a) h)
   | Call g as ks p =>
    cases ks with
    | nil => exact FJ hd O B E h
    | cons _ _ => exact h.elim
   | Attribute o m p => obtain ⟨a, h⟩ := bv h; exact ud O a (E h) fun o σ₁ q => q
   | Subscript o i p => exact HH E h
   | Tuple es k p => obtain ⟨a, h⟩ := bv h; exact rc (cD a (dh E _ h)) fun vs σ' q => ⟨Nat.le_of_ble_eq_true (aQ q).1, (aQ q).2⟩
   | List es p => obtain ⟨a, h⟩ := bv h; exact oq (cD a (dh E _ h)) fun vs σ' q => ⟨Nat.le_of_ble_eq_true (aQ q).1, (aQ q).2⟩
   | Dict ks vs p => exact FI E h
   | ListComp elt gs sc p =>
    cases gs with
    | nil => exact h.elim
    | cons g gs =>
     refine gk fun _ kk => ?_
     obtain ⟨tg, it, ifs, k⟩ := g
     refine kk ?_; clear kk
     cases gs with
     | cons _ _ => exact h.elim
     | nil =>
      refine gk fun _ kk => ?_
      obtain ⟨ns, pr, bd, rfl, c1, c2, c3, c4, c5⟩ := si hd O B E (bB n sc.names).1 (bB n sc.names).2 h
      refine kk ?_; clear kk
      exact uw O B c1 c2 c3 c4 c5
   | _ => exact h.elim
  refine ⟨sE, fun C O hd B e R σ Q h => ?_⟩
  have E : ∀ {e : Expr} {R : St → Prop} {σ : St} {Q : V → St → Prop}, vc prog d (cM nm n false e) R σ Q → WE prog C σ (eval e C.env) Q R := fun h => (bB n nm).1 C O hd B h
  have T : ∀ {e : Expr} {R : St → Prop} {σ : St} {QB : Bool → St → Prop}, vc prog d (cM nm n true e) R σ (fun v σ' => gm v fun b => QB b σ') → WT prog C σ e QB R := fun h => (bB n nm).2 C O hd B h
  have all : j9 e = true → vc prog d (cM nm (n + 1) false e) R σ (fun v σ' => gm v fun b => Q b σ') → WT prog C σ e Q R := fun hp h => rE hp (sE C O hd B h) fun v σ' q => q
  cases e with
  | UnaryOp op a p =>
   cases op with
   | Not => exact Fx (T (QB := fun b σ' => Q (!b) σ') h)
   | _ => exact kg rfl (sE C O hd B h) fun v σ' q => q
  | BoolOp op es p =>
   cases op with
   | And => obtain ⟨_, h⟩ := bv h; exact oF (ky T es h)
   | Or => obtain ⟨_, h⟩ := bv h; exact oF (kz T es h)
  | Compare l os rs p => exact HG O E h
  | IfExp t a b p =>
   have w := T (QB := fun k σ₁ => iK k _ _) h
   refine fun fz s r => PyProof.Rows.isTrue_IfExp (wpAny_mono (w fz s r) (fun k s₁ ⟨fz₁, σ₁, g, q⟩ => ?_) fun _ _ e => e)
   cases k
   ·exact wpAny_mono (T q fz₁ s₁ g.rep) (fun _ _ p => p.of_go g) fun _ _ e => Ex.of_go g e
   ·exact wpAny_mono (T q fz₁ s₁ g.rep) (fun _ _ p => p.of_go g) fun _ _ e => Ex.of_go g e
  | _ => exact all rfl h
end
noncomputable def vW (nm : List (Str × NameKind)) (em : Bool) : Nat → Expr → X
 | 0, _ => .bad
 | n + 1, e => match e with
  | .List es _ => cx (es.all noStar) (bif em || !es.isEmpty then .lstM (dL (es.map (cM nm n false))) else .lst (dL (es.map (cM nm n false))))
  | .Dict ks vs _ => kx true (vs.map (cM nm n false)) ks
  | .IfExp t a b _ => .ite (cM nm n true t) (vW nm em n a) (vW nm em n b)
  | e => cM nm n false e
noncomputable def oO (nm : List (Str × NameKind)) (y : Str) (py pos : Pos) (e : Expr) : Bool := match e with
 | .ListComp _ _ sc cp => (nm.lookup y == some .cell) || (nm.lookup y == some .local && py.line == cp.line && !(sc.names.any fun (n, k) => n == y && (k == .local || k == .cell)))
 | .SetComp .. => false
 | .DictComp .. => false
 | _ => true
noncomputable def oP (e : Expr) : Bool := e.ctorIdx == 8
noncomputable def gB : List Expr → Option (List Str)
 | [] => some []
 | e :: l => dm e (fun x => (gB l).map (x :: ·)) none
noncomputable def gC (nm : List (Str × NameKind)) (sto : List Str) (x : Str) : Bool := sto.contains x && (nm.lookup x == some .local || nm.lookup x == some .cell)
noncomputable def pf : Str := "PaintFault"
noncomputable def cs (c : Bool) (s : S) : S := match c with | true => s | false => .bad
noncomputable def HI (nm : List (Str × NameKind)) (sto : List Str) (e : Expr) (x : X) (o : Option (List Str)) : S := match o with
 | some xs => cs (eo e && rI e && xs.all (gC nm sto)) (.unp xs x)
 | none => .bad
noncomputable def oQ (e : Expr) (k : Str → Pos → S) (d : S) : S := vK e k (fun _ _ _ => d) (fun _ _ _ _ => d) (fun _ => d) (fun _ _ => d) (fun _ => d) (fun _ _ _ => d) d
theorem nz {e : Expr} {k : Str → Pos → S} {d : S} {G : Expr → Prop} {F : S → Prop} (h : F (oQ e k d)) (h1 : ∀ x p, F (k x p) → G (.Name x p)) (h2 : F d → G e) : G e := by
 cases e with | Name x p => exact h1 x p h | _ => exact h2 h
noncomputable def HJ (nm : List (Str × NameKind)) (sto ms : List Str) (fs : List Str × List Str) (n : Nat) (e : Expr) (pos : Pos) (t : Expr) : S := oQ t
 (fun x p => cs (gC nm sto x && oO nm x p pos e) (bif ms.contains x then cs (!oP e) (.asg x (vW nm (fs.1.contains x) n e)) else .asg x (cM nm n false e)))
 (ec t (fun o f _ => cs (eo e) (.sat (cM nm n false o) f (bif ms.contains f then vW nm true n e else cM nm n false e)))
 (hG t (fun o i => cs (eo e) (.ssb (cM nm n false o) (cM nm n false i) (cM nm n false e)))
 (k8 t (fun es => HI nm sto e (cM nm n false e) (gB es)) .bad)))
noncomputable def FM (nm : List (Str × NameKind)) (sto : List Str) (f : Expr → X) (it : Expr) (b : S) (tg : Expr) : S := match mh tg with
 | some ab => (match ja it with
  | some o => cs (gC nm sto ab.1 && gC nm sto ab.2) (.fri ab.1 ab.2 (f o) b)
  | none => .bad)
 | none => dm tg (fun x => cs (gC nm sto x && nt it) (.for_ x (f it) b)) .bad
noncomputable def HL (nm : List (Str × NameKind)) (f : Expr → X) (o : Option Expr) : S := match o with
 | none => .bad
 | some c => iR c (fun g as ks _ => l0 ks (l1 as (fun e => dm g (fun c => cs (c == pf && nm.lookup c == some .globalImplicit && noStar e) (.rse (f e))) .bad) .bad) .bad) .bad
noncomputable def HM (x : Str) (b : S) (v : Expr) : S := f9 v (fun c => match c with | .int i => .tri b x i | _ => .bad) .bad
noncomputable def vX (st : Stmt) (k : List Expr → Expr → S) (d : S) : S := match st with | .Assign ts v _ => k ts v | _ => d
noncomputable def HN (nm : List (Str × NameKind)) (sto : List Str) (b : S) (l : List Stmt) : S := l1 l (fun st => vX st (fun ts v => l1 ts (fun t => dm t (fun x => cs (gC nm sto x) (HM x b v)) .bad) .bad) .bad) .bad
noncomputable def HO (nm : List (Str × NameKind)) (s : S) (o : Option Expr) : S := match o with
 | none => .bad
 | some c => dm c (fun c => cs (c == pf && nm.lookup c == some .globalImplicit) s) .bad
noncomputable def HP (nm : List (Str × NameKind)) (sto : List Str) (b : S) (hs : List ExceptHandler) : S := l1 hs (fun h => match h with | .ExceptHandler c x hb _ => (match x with | none => HO nm (HN nm sto b hb) c | some _ => .bad)) .bad
noncomputable def oR (fs : List Str × List Str) : Stmt → List Str
 | .If .. => fs.2
 | .For .. => fs.1
 | _ => []
noncomputable def uD (s : S) (l : List Str) : S := l.foldr (fun x s => .seq (.frz x) s) s
noncomputable def fM (f : Stmt → S) (fs : List Str × List Str) : List Stmt → S
 | [] => .nil
 | st :: r => .seq (f st) (uD (fM f fs r) (oR fs st))
noncomputable def tH (nm : List (Str × NameKind)) (sto ms : List Str) (fs : List Str × List Str) : Nat → Stmt → S
 | 0, _ => .bad
 | n + 1, st => match st with
  | .Assign ts e pos => l1 ts (fun t => HJ nm sto ms fs n e pos t) .bad
  | .Expr e _ => cs (eo e) (.ex (cM nm n false e))
  | .Return o _ => (match o with | none => .bad | some e => .ret (bif ms.contains ("return" : Str) then vW nm true n e else cM nm n false e))
  | .If t a b _ => .iff (cM nm n true t) (fM (tH nm sto ms fs n) fs a) (fM (tH nm sto ms fs n) fs b)
  | .While t b els _ => l0 els (.whl (cM nm n true t) (fM (tH nm sto ms fs n) fs b)) .bad
  | .For tg it b els _ => l0 els (FM nm sto (cM nm n false) it (fM (tH nm sto ms fs n) fs b) tg) .bad
  | .Raise e c _ => (match c with | none => HL nm (cM nm n false) e | some _ => .bad)
  | .Try b hs els fin _ => l0 els (l0 fin (HP nm sto (fM (tH nm sto ms fs n) fs b) hs) .bad) .bad
  | _ => .bad
noncomputable def N9 (nm : List (Str × NameKind)) (sto ms : List Str) (fs top : List Str × List Str) (n : Nat) (b : List Stmt) : S := fM (tH nm sto ms fs n) top b
theorem hX : ∀ {l : List Expr} {xs : List Str}, gB l = some xs → l.map gb = xs.map some
 | [], _, h => by cases h; rfl
 | e :: l, xs, h => bY (F := (· = some xs)) (G := fun e => (e :: l).map gb = xs.map some) h (fun x p h => by
   obtain ⟨ys, e1, rfl⟩ := bR h
   rw [List.map_cons, List.map_cons, hX e1]; rfl) aO
section
variable {prog : Program} {d : Nat}
theorem cy {c : Bool} {s : S} {R : St → Prop} {σ : St} {Qn : St → Prop} {Qr : V → St → Prop} (h : bH prog d (cs c s) R σ Qn Qr) : c = true ∧ bH prog d s R σ Qn Qr := by
 cases c with
 | true => exact ⟨rfl, h⟩
 | false => exact h.elim
theorem jU {a b c : Bool} (h : (a && b && c) = true) : a = true ∧ b = true ∧ c = true := by
 simp only [Bool.and_eq_true] at h; exact ⟨h.1.1, h.1.2, h.2⟩
theorem lr {C : Cx} {nm : List (Str × NameKind)} (O : Ok C) (hd : d ≤ C.d) (B : jS C nm) (em : Bool) : ∀ (n : Nat) {e : Expr} {R : St → Prop} {σ : St} {Q : V → St → Prop}, vc prog d (vW nm em n e) R σ Q → WE prog C σ (eval e C.env) Q R
 | 0, _, _, _, _, h => h.elim
 | n + 1, e, R, σ, Q, h => by
  have E : ∀ {e : Expr} {R : St → Prop} {σ : St} {Q : V → St → Prop}, vc prog d (cM nm n false e) R σ Q → WE prog C σ (eval e C.env) Q R := fun h => (bB n nm).1 C O hd B h
  cases e with
  | List es p =>
   obtain ⟨a, h⟩ := bv h
   cases hb : em || !es.isEmpty with
   | true => rw [hb] at h; exact rd (cD a (dh E _ h)) fun vs σ' q => ⟨Nat.le_of_ble_eq_true (aQ q).1, (aQ q).2⟩
   | false => rw [hb] at h; exact oq (cD a (dh E _ h)) fun vs σ' q => ⟨Nat.le_of_ble_eq_true (aQ q).1, (aQ q).2⟩
  | Dict ks vs p =>
   replace h : vc prog d (kx true (vs.map (cM nm n false)) ks) R σ Q := h
   unfold kx at h
   cases hk : cn ks with
   | none => simp only [hk] at h; exact h.elim
   | some ns =>
    simp only [hk] at h
    obtain ⟨hc, h⟩ := bv h
    simp only [Bool.and_eq_true, decide_eq_true_eq, beq_iff_eq, List.length_map] at hc
    cases ns with
    | nil =>
     cases ks with
     | nil =>
      have : vs = [] := List.length_eq_zero_iff.mp hc.1.1.symm
      subst this
      exact pE h
     | cons o ks => obtain ⟨_, _, _, _, _, _, e⟩ := db hk; cases e
    | cons x ns => exact rf hk hc.1.1 (by simp) hc.1.2 hc.2 (dh E _ h) fun vs σ' q => q
  | IfExp t a b p =>
   refine rF (Q1 := fun k σ₁ => iK k _ _) ((bB n nm).2 C O hd B h) fun c σ₁ q => ?_
   cases c
   ·exact lr O hd B em n q
   ·exact lr O hd B em n q
  | _ => exact E h
theorem je {C : Cx} (O : Ok C) {elt : Expr} {gens : List Comprehension} {sc : Scope} {cp py : Pos} {y : Str} {k : NameKind} {n : Nat} (hk : C.env.kindOf y = some k) :
  swapsWith (.ListComp elt gens sc cp) (some (.Name y py)) n C.env = pure (k == .local && py.line == cp.line && !(sc.names.any fun (n, k) => n == y && (k == .local || k == .cell))) := by
 have hb : C.env.blockKind = .function := by unfold Env.blockKind; rw [O.ek]; rfl
 show (pure (C.env.blockKind == .function && C.env.kindOf y == some .local && py.line == cp.line && !(sc.names.any fun (n, k) => n == y && (k == .local || k == .cell))) : Sem Bool) = _
 rw [hb, hk]
 cases k <;> rfl
theorem nA {C : Cx} {nm : List (Str × NameKind)} (O : Ok C) (hd : d ≤ C.d) (B : jS C nm) (hk : ∀ x, C.env.kindOf x = nm.lookup x) {y : Str} (hy : bj C y) {elt : Expr} {gs : List Comprehension} {sc : Scope} {cp py pos : Pos} {n : Nat} {R Qn : St → Prop} {Qr : V → St → Prop} {σ : St}
  (hsw : nm.lookup y = some .local ∧ py.line = cp.line ∧ (sc.names.any fun (n, k) => n == y && (k == .local || k == .cell)) = false)
  (h : vc prog d (cM nm n false (.ListComp elt gs sc cp)) R σ fun v σ' => Qn ⟨put y v σ'.loc, σ'.mem⟩) : WS prog C σ (exec (.Assign [.Name y py] (.ListComp elt gs sc cp) pos) C.env) Qn Qr R := by
 cases n with
 | zero => exact h.elim
 | succ n =>
  cases gs with
  | nil => exact h.elim
  | cons g gs =>
   obtain ⟨tg, it, ifs, k⟩ := g
   cases gs with
   | cons _ _ => exact h.elim
   | nil =>
    obtain ⟨ns, pr, bd, rfl, c1, c2, c3, c4, c5⟩ := si hd O B (fun h => (bB n nm).1 C O hd B h) (bB n sc.names).1 (bB n sc.names).2 h
    exact jT O B c1 c2 c3 c4 hy ((je O ((hk y).trans hsw.1)).trans (by rw [hsw.2.1, hsw.2.2]; simp)) c5
theorem Go.relab {C : Cx} {fz : Fz} {σ : St} {s : Shared} (r : bt C fz σ s) {x : Str} {v v' : V} (hx : σ.loc.lookup x = some v) (hv : ∀ u, RV C.P fz v u → RV C.P fz v' u) : Go C fz σ s fz ⟨put x v' σ.loc, σ.mem⟩ s := by
 have lk : ∀ {y w}, (put x v' σ.loc).lookup y = some w → ∃ w₀, σ.loc.lookup y = some w₀ ∧ ∀ u, RV C.P fz w₀ u → RV C.P fz w u := fun {y w} e => by
  rw [aK] at e
  by_cases q : (y == x) = true
  ·rw [if_pos q] at e; cases e
   rw [eq_of_beq q]; exact ⟨v, hx, hv⟩
  ·rw [if_neg q] at e; exact ⟨w, e, fun _ h => h⟩
 refine ⟨⟨r.base, r.fro, r.mem, ?_, fun y w e n => ?_, r.own, r.lo, r.fr, r.nocell, r.one, r.sp, r.gens, r.os, r.drawn⟩, fun _ h => h, fun _ _ e _ _ _ => e, fun _ o e _ _ => ⟨o.slots, e⟩, fun _ x e => .inl ⟨x, e⟩, fun _ h => .inl h, fun _ h => h⟩
 ·obtain ⟨m, h1, h2⟩ := r.ns
  refine ⟨m, h1, fun y w e q => ?_⟩
  obtain ⟨w₀, e0, hw⟩ := lk e
  obtain ⟨u, a, b⟩ := h2 y w₀ e0 q
  exact ⟨u, hw u a, b⟩
 ·obtain ⟨w₀, e0, hw⟩ := lk e
  obtain ⟨c, u, a1, a2, a3, a4⟩ := r.cell y w₀ e0 n
  exact ⟨c, u, a1, a2, a3, hw u a4⟩
theorem FN {C : Cx} {fz : Fz} {σ : St} {s : Shared} (r : bt C fz σ s) (x : Str) : ∃ fz', Go C fz σ s fz' (ll x σ) s := by
 obtain ⟨lo, me⟩ := σ
 have refl : ∃ fz', Go C fz ⟨lo, me⟩ s fz' ⟨lo, me⟩ s := ⟨fz, Go.refl r⟩
 show ∃ fz', Go C fz ⟨lo, me⟩ s fz' (match lo.lookup x with
  | some (.mut a) => (match me.lookup a with
   | some (.list l) => ⟨put x (.list l) lo, bP a me⟩
   | some (.dict l) => ⟨put x (.dict l) lo, bP a me⟩
   | _ => ⟨lo, me⟩)
  | _ => ⟨lo, me⟩) s
 cases hx : lo.lookup x with
 | none => exact refl
 | some v =>
  cases v with
  | «mut» a =>
   simp only
   cases ha : me.lookup a with
   | none => exact refl
   | some m =>
    obtain ⟨o, m1, m2, g⟩ := Go.freeze r a m ha
    cases m with
    | list l =>
     cases m2 with | list h hv => exact ⟨_, g.trans (Go.relab g.rep hx fun u hu => by cases hu; exact .list (.head _) h (hv.mono fun p q => .tail _ q))⟩
    | dict l =>
     cases m2 with | dict h hv => exact ⟨_, g.trans (Go.relab g.rep hx fun u hu => by cases hu; exact .dict (.head _) h (hv.mono fun p q => .tail _ q))⟩
    | _ => exact refl
  | _ => exact refl
theorem FO {C : Cx} {σ : St} {t : Sem Flow} {R Qn : St → Prop} {Qr : V → St → Prop} (x : Str) (h : WS prog C (ll x σ) t Qn Qr R) : WS prog C σ t Qn Qr R := fun fz s r => by
 obtain ⟨fz', g⟩ := FN r x
 exact wpAny_mono (h fz' s g.rep) (fun _ _ p => p.of_go g) fun _ _ e => Ex.of_go g e
noncomputable def oS (prog : Program) (d : Nat) : Prop := ∀ (C : Cx) (σ : St) (R Qn : St → Prop) (Qr : V → St → Prop) (cp p pos : Pos) (e : Expr), Ok C → d ≤ C.d → C.env.kindOf pf = some .globalImplicit → noStar e = true →
 WE prog C σ (eval e C.env) (fun v σ₁ => ∃ x, v = .str x ∧ R σ₁) R → WS prog C σ (exec (.Raise (some (.Call (.Name pf cp) [e] [] p)) none pos) C.env) Qn Qr R
noncomputable def oU (prog : Program) : Prop := ∀ (C : Cx) (σ : St) (R R' Qn : St → Prop) (Qr : V → St → Prop) (body : List Stmt) (cp xp hp ap pos ip : Pos) (k : Nat) (x : Str) (i : Int), Ok C → C.env = C.fenv → C.env.kindOf pf = some .globalImplicit → bj C x →
 WS prog C σ (execs body C.env) Qn Qr R' → (∀ σ₁, R' σ₁ → Qn ⟨put x (.int i) σ₁.loc, σ₁.mem⟩) →
 WS prog C σ (exec (.Try body [.ExceptHandler (some (.Name pf cp)) none [.Assign [.Name x xp] (.Constant (.int i) k ip) ap] hp] [] [] pos) C.env) Qn Qr R
theorem oV {C : Cx} {b : List Stmt} {s : S} {R Qn : St → Prop} {Qr : V → St → Prop} (ih : ∀ {σ : St}, bH prog d s R σ Qn Qr → WS prog C σ (execs b C.env) Qn Qr R) : ∀ (fs : List Str) {σ : St}, bH prog d (uD s fs) R σ Qn Qr → WS prog C σ (execs b C.env) Qn Qr R
 | [], _, h => ih h
 | x :: fs, _, h => FO x (oV ih fs h)
theorem dq {C : Cx} {f : Stmt → S} {fs : List Str × List Str} (ih : ∀ {st : Stmt} {R : St → Prop} {σ : St} {Qn : St → Prop} {Qr : V → St → Prop}, bH prog d (f st) R σ Qn Qr → WS prog C σ (exec st C.env) Qn Qr R) :
  ∀ (b : List Stmt) {R : St → Prop} {σ : St} {Qn : St → Prop} {Qr : V → St → Prop}, bH prog d (fM f fs b) R σ Qn Qr → WS prog C σ (execs b C.env) Qn Qr R
 | [], R, σ, Qn, Qr, h => rH h
 | st :: b, R, σ, Qn, Qr, h => iA (ih (Qn := fun σ' => bH prog d (uD (fM f fs b) (oR fs st)) R σ' Qn Qr) h) fun σ' q => oV (dq ih b) _ q
theorem sj {st : Stmt} {k : List Expr → Expr → S} {d : S} {G : Stmt → Prop} {F : S → Prop} (h : F (vX st k d)) (h1 : ∀ ts v p, F (k ts v) → G (.Assign ts v p)) (h2 : F d → G st) : G st := by
 cases st with | Assign ts v p => exact h1 ts v p h | _ => exact h2 h
theorem nB {e : Expr} {G : Prop} (h1 : eo e = true → G) (h2 : ∀ a b c d, e = .ListComp a b c d → G) (h3 : ∀ a b c d, e = .SetComp a b c d → G) (h4 : ∀ a b c d f, e = .DictComp a b c d f → G) : G := by
 cases e with
 | ListComp a b c d => exact h2 _ _ _ _ rfl
 | SetComp a b c d => exact h3 _ _ _ _ rfl
 | DictComp a b c d f => exact h4 _ _ _ _ _ rfl
 | _ => exact h1 rfl
section
variable {C : Cx} {nm : List (Str × NameKind)} {sto ms : List Str} {fs : List Str × List Str} (O : Ok C) (hd : d ≤ C.d) (B : jS C nm) (hk : ∀ x, C.env.kindOf x = nm.lookup x) (so : ∀ {x}, gC nm sto x = true → bj C x) {n : Nat}
 (E : ∀ {e : Expr} {R : St → Prop} {σ : St} {Q : V → St → Prop}, vc prog d (cM nm n false e) R σ Q → WE prog C σ (eval e C.env) Q R) {R : St → Prop} {σ : St} {Qn : St → Prop} {Qr : V → St → Prop}
include O hd B in
theorem vY (E : ∀ {e : Expr} {R : St → Prop} {σ : St} {Q : V → St → Prop}, vc prog d (cM nm n false e) R σ Q → WE prog C σ (eval e C.env) Q R) (c : Bool) {e : Expr} {Q : V → St → Prop} (h : vc prog d (bif c then vW nm true n e else cM nm n false e) R σ Q) : WE prog C σ (eval e C.env) Q R := by
 cases c
 ·exact E h
 ·exact lr O hd B true n h
include O hd B hk so E in
theorem sk {e : Expr} {pos p : Pos} {x : Str} (h : bH prog d (cs (gC nm sto x && oO nm x p pos e) (bif ms.contains x then cs (!oP e) (.asg x (vW nm (fs.1.contains x) n e)) else .asg x (cM nm n false e))) R σ Qn Qr) :
  WS prog C σ (exec (.Assign [.Name x p] e pos) C.env) Qn Qr R := by
 obtain ⟨hc, h⟩ := cy h
 obtain ⟨hc1, hc2⟩ := Bool.and_eq_true_iff.mp hc
 have hx := so hc1
 refine nB (e := e) (fun hn => kj O hx (dC hn _ _ _) ?_) (fun elt gens sc cp z => ?_) (fun _ _ _ _ z => ?_) (fun _ _ _ _ _ z => ?_)
 ·cases q : ms.contains x with
  | true => rw [q] at h; exact lr O hd B _ n (cy h).2
  | false => rw [q] at h; exact E h
 ·subst z
  cases q : ms.contains x with
  | true => rw [q] at h; exact False.elim h
  | false =>
   rw [q] at h
   rcases Bool.or_eq_true_iff.mp hc2 with hc2 | hc2
   ·exact kj O hx ((je O ((hk x).trans (eq_of_beq hc2))).trans (by rfl)) (E h)
   ·obtain ⟨h1, h2, h3⟩ := jU hc2
    exact nA O hd B hk hx ⟨eq_of_beq h1, eq_of_beq h2, (Bool.not_eq_true' _).mp h3⟩ h
 ·subst z; cases hc2
 ·subst z; cases hc2
include O so E in
theorem uE {es : List Expr} {k : Nat} {e : Expr} {pos p : Pos} (h : bH prog d (HI nm sto e (cM nm n false e) (gB es)) R σ Qn Qr) : WS prog C σ (exec (.Assign [.Tuple es k p] e pos) C.env) Qn Qr R := by
 cases hx : gB es with
 | none => rw [hx] at h; exact h.elim
 | some xs =>
  rw [hx] at h
  obtain ⟨hc, h⟩ := cy h
  obtain ⟨hc1, hc2, hc3⟩ := jU hc
  refine pR O (hX hx) (fun x hx => so (List.all_eq_true.mp hc3 x hx)) hc1 hc2 ((E h).mono (fun v σ' q => ?_) fun _ q => q)
  cases v with
  | tup vs => exact ⟨_, rfl, Nat.eq_of_beq_eq_true (aQ q).1, (aQ q).2⟩
  | _ => exact q.elim
include O hd B hk so E in
theorem HQ {t e : Expr} {pos : Pos} (h : bH prog d (HJ nm sto ms fs n e pos t) R σ Qn Qr) : WS prog C σ (exec (.Assign [t] e pos) C.env) Qn Qr R :=
 nz (F := fun s => bH prog d s R σ Qn Qr) (G := fun t => WS prog C σ (exec (.Assign [t] e pos) C.env) Qn Qr R) h (fun x p h => sk O hd B hk so E h) fun h =>
 dX (F := fun s => bH prog d s R σ Qn Qr) (G := fun t => WS prog C σ (exec (.Assign [t] e pos) C.env) Qn Qr R) h (fun o f p h => jP O (cy h).1 (vY O hd B E _ (cy h).2) (fun v σ₁ q => E q) fun v o σ₂ q => q) fun h =>
 iT (F := fun s => bH prog d s R σ Qn Qr) (G := fun t => WS prog C σ (exec (.Assign [t] e pos) C.env) Qn Qr R) h (fun o i p h => lc O (cy h).1 (E (cy h).2) (fun v σ₁ q => E q) (fun v o σ₂ q => E q) fun v o i σ₃ q => q) fun h =>
 iS (F := fun s => bH prog d s R σ Qn Qr) (G := fun t => WS prog C σ (exec (.Assign [t] e pos) C.env) Qn Qr R) h (fun es k p h => uE O so E h) False.elim
include O so E in
theorem HS (he : C.env = C.fenv) {tg it : Expr} {b : List Stmt} {sb : S} {p : Pos} (ih : ∀ {σ : St} {Qn : St → Prop}, bH prog d sb R σ Qn Qr → WS prog C σ (execs b C.env) Qn Qr R) (h : bH prog d (FM nm sto (cM nm n false) it sb tg) R σ Qn Qr) :
  WS prog C σ (exec (.For tg it b [] p) C.env) Qn Qr R := by
 unfold FM at h
 cases e : mh tg with
 | some ab =>
  rw [e] at h
  obtain ⟨a, b⟩ := ab
  obtain ⟨pa, pb, k0, p, rfl⟩ := mj e
  cases e2 : ja it with
  | none => simp only [e2] at h; exact h.elim
  | some o =>
   simp only [e2] at h
   obtain ⟨ap, p', rfl, i1, i2⟩ := ml e2
   obtain ⟨hc, h2⟩ := cy h
   obtain ⟨hc1, hc2⟩ := Bool.and_eq_true_iff.mp hc
   refine rO O he (oI O (so hc1) (so hc2)) (eL rfl _) (rR O i1 i2 ((E h2).mono (fun v σ' q => ?_) fun _ q => q))
   cases v with
   | dict l =>
    obtain ⟨q1, q2⟩ := aQ q
    obtain ⟨q3, q4⟩ := Bool.and_eq_true_iff.mp q1
    exact ⟨l, rfl, ⟨of_decide_eq_true q3, fun p hp => Nat.le_of_ble_eq_true (List.all_eq_true.mp q4 p hp)⟩, oN (fun σ K t => ih t) q2⟩
   | _ => exact q.elim
 | none =>
  rw [e] at h
  exact bY (F := fun s => bH prog d s R σ Qn Qr) (G := fun tg => WS prog C σ (exec (.For tg it b [] p) C.env) Qn Qr R) h (fun x p h => by
   obtain ⟨hc, h⟩ := cy h
   obtain ⟨hc1, hc2⟩ := Bool.and_eq_true_iff.mp hc
   refine rO O he (oH O (so hc1)) (eL hc2 _) (oJ O ((E h).mono (fun v σ' q => ?_) fun _ q => q))
   obtain ⟨xs, e1, q⟩ := bq q
   rw [e1]
   exact rZ (fun σ K t => ih t) q) False.elim
include O hd hk E in
theorem HU (HR : oS prog d) {o : Option Expr} {p : Pos} (h : bH prog d (HL nm (cM nm n false) o) R σ Qn Qr) : WS prog C σ (exec (.Raise o none p) C.env) Qn Qr R := by
 cases o with
 | none => exact h.elim
 | some c =>
  refine gO (F := fun s => bH prog d s R σ Qn Qr) (G := fun c => WS prog C σ (exec (.Raise (some c) none p) C.env) Qn Qr R) h (fun g as ks p' h => ?_) False.elim
  refine kt (F := fun s => bH prog d s R σ Qn Qr) (L := fun ks => WS prog C σ (exec (.Raise (some (.Call g as ks p')) none p) C.env) Qn Qr R) h (fun h => ?_) False.elim
  refine ku (F := fun s => bH prog d s R σ Qn Qr) (L := fun as => WS prog C σ (exec (.Raise (some (.Call g as [] p')) none p) C.env) Qn Qr R) h (fun e h => ?_) False.elim
  refine bY (F := fun s => bH prog d s R σ Qn Qr) (G := fun g => WS prog C σ (exec (.Raise (some (.Call g [e] [] p')) none p) C.env) Qn Qr R) h (fun c p h => ?_) False.elim
  obtain ⟨hc, h2⟩ := cy h
  clear h
  obtain ⟨hc1, hc2, hc3⟩ := jU hc
  cases eq_of_beq hc1
  refine HR C σ R Qn Qr _ _ _ _ O hd ((hk pf).trans (eq_of_beq hc2)) hc3 ((E h2).mono (fun v σ' q => ?_) fun _ q => q)
  cases v with
  | str x => exact ⟨_, rfl, q⟩
  | _ => exact q.elim
include O hk so in
theorem HV (HT : oU prog) (he : C.env = C.fenv) {b : List Stmt} {sb : S} {hs : List ExceptHandler} {p : Pos} (ih : ∀ {R : St → Prop} {σ : St} {Qn : St → Prop}, bH prog d sb R σ Qn Qr → WS prog C σ (execs b C.env) Qn Qr R) (h : bH prog d (HP nm sto sb hs) R σ Qn Qr) :
  WS prog C σ (exec (.Try b hs [] [] p) C.env) Qn Qr R := by
 refine ku (F := fun s => bH prog d s R σ Qn Qr) (L := fun hs => WS prog C σ (exec (.Try b hs [] [] p) C.env) Qn Qr R) h (fun hd' h => ?_) False.elim
 obtain ⟨c, x, hb, hp⟩ := hd'
 cases x with
 | some _ => exact h.elim
 | none => cases c with
  | none => exact h.elim
  | some c =>
   refine bY (F := fun s => bH prog d s R σ Qn Qr) (G := fun c => WS prog C σ (exec (.Try b [.ExceptHandler (some c) none hb hp] [] [] p) C.env) Qn Qr R) h (fun c cp h => ?_) False.elim
   obtain ⟨hc, h2⟩ := cy h
   clear h
   obtain ⟨hc1, hc2⟩ := Bool.and_eq_true_iff.mp hc
   cases eq_of_beq hc1
   refine ku (F := fun s => bH prog d s R σ Qn Qr) (L := fun hb => WS prog C σ (exec (.Try b [.ExceptHandler (some (.Name pf cp)) none hb hp] [] [] p) C.env) Qn Qr R) h2 (fun st h => ?_) False.elim
   refine sj (F := fun s => bH prog d s R σ Qn Qr) (G := fun st => WS prog C σ (exec (.Try b [.ExceptHandler (some (.Name pf cp)) none [st] hp] [] [] p) C.env) Qn Qr R) h (fun ts v ap h => ?_) False.elim
   refine ku (F := fun s => bH prog d s R σ Qn Qr) (L := fun ts => WS prog C σ (exec (.Try b [.ExceptHandler (some (.Name pf cp)) none [.Assign ts v ap] hp] [] [] p) C.env) Qn Qr R) h (fun t h => ?_) False.elim
   refine bY (F := fun s => bH prog d s R σ Qn Qr) (G := fun t => WS prog C σ (exec (.Try b [.ExceptHandler (some (.Name pf cp)) none [.Assign [t] v ap] hp] [] [] p) C.env) Qn Qr R) h (fun x xp h => ?_) False.elim
   obtain ⟨hc, h⟩ := cy h
   refine fR (F := fun s => bH prog d s R σ Qn Qr) (G := fun v => WS prog C σ (exec (.Try b [.ExceptHandler (some (.Name pf cp)) none [.Assign [.Name x xp] v ap] hp] [] [] p) C.env) Qn Qr R) h (fun v k ip h => ?_) False.elim
   cases v with
   | int i => exact HT C σ R _ Qn Qr _ _ _ _ _ _ _ _ _ _ O he ((hk pf).trans (eq_of_beq hc2)) (so hc) (ih h) fun σ₁ q => q
   | _ => exact h.elim
end
theorem sm (HR : oS prog d) (HT : oU prog) {C : Cx} {nm : List (Str × NameKind)} {sto ms : List Str} {fs : List Str × List Str} (O : Ok C) (hd : d ≤ C.d) (B : jS C nm) (hk : ∀ x, C.env.kindOf x = nm.lookup x) (hs : ∀ x ∈ sto, nm.lookup x = some .local ∨ nm.lookup x = some .cell → bj C x) (he : C.env = C.fenv) :
  ∀ (n : Nat) {st : Stmt} {R : St → Prop} {σ : St} {Qn : St → Prop} {Qr : V → St → Prop}, bH prog d (tH nm sto ms fs n st) R σ Qn Qr → WS prog C σ (exec st C.env) Qn Qr R := by
 have so : ∀ {x}, gC nm sto x = true → bj C x := fun h => by
  obtain ⟨h1, h2⟩ := Bool.and_eq_true_iff.mp h
  exact hs _ (List.contains_iff_mem.mp h1) ((Bool.or_eq_true_iff.mp h2).imp eq_of_beq eq_of_beq)
 intro n
 induction n with
 | zero => intro st R σ Qn Qr h; exact h.elim
 | succ n ih =>
  intro st R σ Qn Qr h
  have E : ∀ {e : Expr} {R : St → Prop} {σ : St} {Q : V → St → Prop}, vc prog d (cM nm n false e) R σ Q → WE prog C σ (eval e C.env) Q R := fun h => (bB n nm).1 C O hd B h
  have T : ∀ {e : Expr} {R : St → Prop} {σ : St} {QB : Bool → St → Prop}, vc prog d (cM nm n true e) R σ (fun v σ' => gm v fun b => QB b σ') → WT prog C σ e QB R := fun h => (bB n nm).2 C O hd B h
  cases st with
  | Assign ts e pos => exact ku (F := fun s => bH prog d s R σ Qn Qr) (L := fun ts => WS prog C σ (exec (.Assign ts e pos) C.env) Qn Qr R) h (fun t h => HQ O hd B hk so E h) False.elim
  | Expr e p => exact oG O (cy h).1 (E (cy h).2)
  | Return o p => cases o with
   | none => exact h.elim
   | some e => exact FD (vY O hd B E _ h)
  | If t a b p =>
   refine Hs (Q1 := fun k σ₁ => iK k _ _) (T h) fun c σ₁ q => ?_
   cases c
   ·exact dq ih _ q
   ·exact dq ih _ q
  | While t b els p =>
   refine kt (F := fun s => bH prog d s R σ Qn Qr) (L := fun els => WS prog C σ (exec (.While t b els p) C.env) Qn Qr R) h (fun ⟨I, m, h0, h1⟩ => ?_) False.elim
   refine rK O he I m h0 fun m σ₁ hI => ⟨fun k σ₂ => iK k _ _, T (h1 m σ₁ hI), fun c σ₂ q => ?_⟩
   cases c
   ·exact q
   ·exact dq ih _ q
  | For tg it b els p => exact kt (F := fun s => bH prog d s R σ Qn Qr) (L := fun els => WS prog C σ (exec (.For tg it b els p) C.env) Qn Qr R) h (fun h => HS O so E he (dq ih _) h) False.elim
  | Raise e c p => cases c with
   | some _ => exact h.elim
   | none => exact HU O hd hk E HR h
  | Try b hs els fin p => exact kt (F := fun s => bH prog d s R σ Qn Qr) (L := fun els => WS prog C σ (exec (.Try b hs els fin p) C.env) Qn Qr R) h (fun h => kt (F := fun s => bH prog d s R σ Qn Qr) (L := fun fin => WS prog C σ (exec (.Try b hs [] fin p) C.env) Qn Qr R) h (HV O hk so HT he (dq ih _)) False.elim) False.elim
  | _ => exact h.elim
end
noncomputable def aH (o : Obj) : FuncData := match o.data with | .func f => f | _ => HB.fdat "" (.Pass default) 0 .none .none .none
noncomputable def fi (nm : List (Str × NameKind)) : List Str := nm.map (·.1)
noncomputable def mo (nm : List (Str × NameKind)) (pars : List Str) : Bool := decide pars.Nodup && pars.all (fun x => nm.lookup x == some .local || nm.lookup x == some .cell) && nm.all fun p => p.2 != .free
theorem eM {nm : List (Str × NameKind)} {pars : List Str} (h : mo nm pars = true) (x : Str) : nm.lookup x ≠ some .free := fun e => by
 obtain ⟨_, _, h3⟩ := jU h
 have := List.all_eq_true.mp h3 _ (bV e)
 cases this
structure aU (a : Addr) (names : List Str) (s : S) : Prop where
 ex : ∃ fd body ms fs top n, aA a fd body ∧ (∀ P, keepIn (HB.KF P) (.ref a) = true) ∧ mo fd.scope.names names = true ∧ N9 fd.scope.names (fi fd.scope.names) ms fs top n body = s
noncomputable def sn (o : Obj) : Bool := match o.data with | .func _ => true | _ => false
noncomputable def sq (o : Obj) : Option (Array Value) := match o.data with | .fields vs => some vs | _ => none
noncomputable def HW (o oc : Obj) : Bool × FuncBody × ScopeKind × Bool × Bool × Addr × Addr × List (Str × Addr) × Value × Option Value :=
 (sn o, (aH o).body, (aH o).scope.kind, (aH o).scope.isCoroutine, (aH o).scope.isGenerator, (aH o).globals, (aH o).builtins, (aH o).closure, (aH o).code, (sq oc).bind (·[1]?))
noncomputable def Oa (oc : Obj) : Tok := match ((sq oc).bind (·[1]?) : Option Value) with | some (.str _ t) => t | _ => 0
theorem aA.of {a : Addr} (c : Addr) (o oc : Obj) {body : List Stmt} (h1 : ∀ P, ((HB.KF P).lookup a, (HB.KF P).lookup c) = (some o, some oc))
  (h : HW o oc = (true, .stmts body, .function, false, false, mainGlobals, builtinsNs, [], .ref c, some (.str (aH o).qualname (Oa oc)))) : aA a (aH o) body := by
 unfold HW at h
 simp only [Prod.mk.injEq] at h
 obtain ⟨e0, e1, e2, e3, e4, e5, e6, e7, e8, e9⟩ := h
 have d : o.data = .func (aH o) := by
  unfold sn at e0
  unfold aH
  cases q : o.data with
  | func f => rfl
  | _ => rw [q] at e0; cases e0
 have d2 : ∃ vs, oc.data = .fields vs ∧ vs[1]? = some (.str (aH o).qualname (Oa oc)) := by
  unfold sq at e9
  cases q : oc.data with
  | fields vs => rw [q] at e9; exact ⟨vs, rfl, e9⟩
  | _ => rw [q] at e9; cases e9
 obtain ⟨vs, d2, d3⟩ := d2
 exact ⟨fun P => ⟨o, (Prod.mk.inj (h1 P)).1, d⟩, e1, e2, e3, e4, e5, e6, e7, ⟨c, oc, vs, _, e8, fun P => (Prod.mk.inj (h1 P)).2, d2, d3⟩⟩
theorem aU.of {a : Addr} {names : List Str} {s : S} {fd : FuncData} {body : List Stmt} (ms : List Str) (fs top : List Str × List Str) (f : aA a fd body) (h1 : ∀ P, keepIn (HB.KF P) (.ref a) = true)
  (h2 : (mo fd.scope.names names, N9 fd.scope.names (fi fd.scope.names) ms fs top 40 body) = (true, s)) : aU a names s :=
 ⟨fd, body, ms, fs, top, 40, f, h1, (Prod.mk.inj h2).1, (Prod.mk.inj h2).2⟩
noncomputable def aV (a : Addr) (as : List V) (names : List Str) (vs : List V) : Prop := ∀ fd body, aA a fd body → aE fd as names vs
theorem aA.one (P : Params) {a : Addr} {fd fd' : FuncData} {b b' : List Stmt} (h : aA a fd b) (h' : aA a fd' b') : fd = fd' := by
 obtain ⟨o, e, d⟩ := h.obj P
 obtain ⟨o', e', d'⟩ := h'.obj P
 rw [e] at e'; cases e'
 rw [d] at d'; cases d'; rfl
theorem aV.of {a : Addr} {fd : FuncData} {body : List Stmt} (F : aA a fd body) {as vs : List V} {names : List Str} (h : aE fd as names vs) : aV a as names vs := fun _ _ F' P => F.one P F' ▸ h P
theorem LY {α β : Type} {us : List α} (h : us.length = ([] : List β).length) : us = [] := List.length_eq_zero_iff.mp h
theorem gU {α β : Type} {us : List α} {v0 : β} (h : us.length = [v0].length) : ∃ u0, us = [u0] := by
 cases us with
 | nil => cases h
 | cons u r => exact ⟨u, by rw [LY (β := β) (Nat.succ.inj h)]⟩
theorem jK {α β : Type} {us : List α} {v0 v1 : β} (h : us.length = [v0, v1].length) : ∃ u0 u1, us = [u0, u1] := by
 cases us with
 | nil => cases h
 | cons u r => obtain ⟨u1, rfl⟩ := gU (v0 := v1) (Nat.succ.inj h); exact ⟨u, u1, rfl⟩
theorem jL {α β : Type} {us : List α} {v0 v1 v2 : β} (h : us.length = [v0, v1, v2].length) : ∃ u0 u1 u2, us = [u0, u1, u2] := by
 cases us with
 | nil => cases h
 | cons u r => obtain ⟨u1, u2, rfl⟩ := jK (v0 := v1) (v1 := v2) (Nat.succ.inj h); exact ⟨u, u1, u2, rfl⟩
theorem uF {α β : Type} {us : List α} {v0 v1 v2 v3 : β} (h : us.length = [v0, v1, v2, v3].length) : ∃ u0 u1 u2 u3, us = [u0, u1, u2, u3] := by
 cases us with
 | nil => cases h
 | cons u r => obtain ⟨u1, u2, u3, rfl⟩ := jL (v0 := v1) (v1 := v2) (v2 := v3) (Nat.succ.inj h); exact ⟨u, u1, u2, u3, rfl⟩
theorem OJ {α β : Type} {us : List α} {v0 v1 v2 v3 v4 : β} (h : us.length = [v0, v1, v2, v3, v4].length) : ∃ u0 u1 u2 u3 u4, us = [u0, u1, u2, u3, u4] := by
 cases us with
 | nil => cases h
 | cons u r => obtain ⟨u1, u2, u3, u4, rfl⟩ := uF (v0 := v1) (v1 := v2) (v2 := v3) (v3 := v4) (Nat.succ.inj h); exact ⟨u, u1, u2, u3, u4, rfl⟩
theorem FP {prog : Program} {d : Nat} (HR : oS prog d) (HT : oU prog) {a : Addr} {names : List Str} {s : S} (F : aU a names s) {as vs : List V} (hb : aV a as names vs) {mem : Mem} {Q : V → Mem → Prop} {R : Mem → Prop}
  (h : bH prog d s (fun σ => R σ.mem) ⟨names.zip vs, mem⟩ (fun σ => Q .none σ.mem) (fun v σ => Q v σ.mem)) : bA prog (d + 1) (.ref a) as mem Q R := by
 obtain ⟨fd, body, ms, fs, top, n, F, hkeep, hc, e⟩ := F
 refine ⟨la hkeep, lV F ?_ (fun x hx => ?_) (eM hc) (hb fd body F) fun C O F' hd => ?_⟩
 ·exact of_decide_eq_true (jU hc).1
 ·have := List.all_eq_true.mp (jU hc).2.1 x hx
  exact (Bool.or_eq_true_iff.mp this).imp eq_of_beq eq_of_beq
 ·have hk : ∀ x, C.env.kindOf x = fd.scope.names.lookup x := fun x => by unfold Env.kindOf; rw [F'.scope]
  refine dq (fs := top) (f := tH fd.scope.names (fi fd.scope.names) ms fs n) (sm (nm := fd.scope.names) (sto := fi fd.scope.names) HR HT O hd ⟨fun x hx => (hk x).trans hx, fun x hx => ?_⟩ hk (fun x _ hx => F'.store hx) F'.top n) body ?_
  ·rcases hx with hx | hx
   ·obtain ⟨c, e, _⟩ := F'.cells x ((hk x).trans hx)
    exact ⟨.inl ((hk x).trans hx), by rw [e]; rfl⟩
   ·exact absurd hx (eM hc x)
  ·have : fM (tH fd.scope.names (fi fd.scope.names) ms fs n) top body = s := e
   rw [this]; exact h
noncomputable abbrev lamQ : Str := Str.ofString "law.<locals>.<lambda>"
structure oW (i : Nat) (names : List Str) (x : X) : Prop where
 co : (cj i).isCoroutine = false
 gen : (cj i).isGenerator = false
 kind : (cj i).kind = .function
 chk : (decide names.Nodup && names.all (fun y => (cj i).names.lookup y == some .local) && (cj i).names.all fun p => p.2 != .cell && p.1 != ("__classdict__" : Str)) = true
 bind : ∀ clos pm c' ctv (us : List Value), us.length = names.length → bindArgs (kla_fn "<lambda>" lamQ (im i) (lQ i) (cj i) clos pm c' ctv) ⟨us, []⟩ = pure (names.zip us)
 body : cM (cj i).names 40 false (lQ i) = x
theorem RC.at {P : Params} {fz : Fz} {x : Str} {l : List (Str × V)} {cl : List (Str × Addr)} (h : RC P fz l cl) : (l.lookup x = none ∧ cl.lookup x = none) ∨ ∃ v c o u, l.lookup x = some v ∧ cl.lookup x = some c ∧ (c, o) ∈ fz ∧ o.data = .cell (some u) ∧ RV P fz v u :=
 RC.ind (G := fun l cl => (l.lookup x = none ∧ cl.lookup x = none) ∨ ∃ v c o u, l.lookup x = some v ∧ cl.lookup x = some c ∧ (c, o) ∈ fz ∧ o.data = .cell (some u) ∧ RV P fz v u) (.inl ⟨rfl, rfl⟩) (fun {k y v c o l cs} hm hd h _ ih => by
  rw [List.lookup_cons, List.lookup_cons]
  cases x == k with
  | true => exact .inr ⟨_, _, _, _, rfl, rfl, hm, hd, h⟩
  | false => exact ih) h
theorem sr {P : Params} {fz : Fz} {x : Str} {v : V} {names : List Str} : ∀ {vs : List V} {us : List Value}, bu P fz vs us → (names.zip vs).lookup x = some v → x ∈ names ∧ ∃ u, RV P fz v u ∧ (x, u) ∈ names.zip us := by
 induction names with
 | nil => intro vs us _ h; exact nomatch h
 | cons n ns ih =>
  intro vs us hr h
  cases hr with
  | nil => exact nomatch h
  | cons hw r =>
   rw [List.zip_cons_cons, List.lookup_cons] at h
   cases q : (x == n) with
   | true =>
    rw [q] at h; cases h
    rw [eq_of_beq q]
    exact ⟨.head _, _, hw, .head _⟩
   | false =>
    rw [q] at h
    obtain ⟨h1, u, h2, h3⟩ := ih r h
    exact ⟨.tail _ h1, u, h2, .tail _ h3⟩
noncomputable def HX (C : Cx) (env : Env) (L : Addr) (σ : St) (s : Shared) : Cx :=
 { C with A := C.A.deeper env, h₀ := hideAll s.heap (σ.mem.map (·.1) ++ [L] ++ (env :: C.fenv :: C.outer).filterMap (·.frame)), outer := C.fenv :: C.outer, fenv := env, env := env, L := L, own := [L], d := C.d - 1, k := 0 }
theorem gV {prog : Program} {d i : Nat} {l : List (Str × V)} {names : List Str} {x : X} (F : oW i names x) {as : List V} {mem : Mem} {Q : V → Mem → Prop} {R : Mem → Prop} (hn : as.length = names.length)
  (hl : ∀ y, (cj i).names.lookup y = some .free ↔ (l.lookup y).isSome = true) (h : vc prog d x (fun σ => R σ.mem) ⟨names.zip as ++ l, mem⟩ (fun v σ => Q v σ.mem)) : bA prog (d + 1) (.lam i l) as mem Q R := by
 refine ⟨rm, ?_⟩
 rintro C fz σ s uf us O hd rfl r hf hs
 refine gk fun _ kk => ?_
 cases hf with | @lam _ _ a c' clos pm ctv oc vs t hm hc hdt h1 hv =>
 have ho := (r.fro _ hm).1
 have hlim : s.heap.NoLimit := O.nl.keeps r.base
 have hroom : C.A.depth < recursionLimit := by have := O.hd; show _ < 1000; lia
 have hrec : s.heap.CodeRec (.ref c') lamQ := ⟨c', oc, vs, t, rfl, (r.fro _ hc).1, hdt, h1⟩
 obtain ⟨k1, k2, k3⟩ := jU F.chk
 refine kk ?_; clear kk
 have k1 := of_decide_eq_true k1
 have k2 := fun y hy => eq_of_beq (List.all_eq_true.mp k2 y hy)
 have k3 := fun p hp => Bool.and_eq_true_iff.mp (List.all_eq_true.mp k3 p hp)
 refine kla_callFunE hroom ho rfl F.co F.gen rfl hrec ?_
 rw [F.bind _ _ _ _ us (hs.length.trans hn)]
 refine wpAny_pure (wpAny_newFunctionEnv (fun p hp => bne_iff_ne.mp (k3 p hp).1) (fun p hp => k2 _ (List.of_mem_zip hp).1) (fun h' hns hsb => ?_) F.kind)
 have hk : ∀ b o, s.heap.get? b = some o → h'.get? b = some o := fun b o e => hsb.extBut b o (Nat.ne_of_lt (Heap.lt_size e)) (Heap.get?_push_of_some _ e)
 refine ⟨hlim.keeps hk, ?_⟩
 generalize hL : s.heap.objs.size = L at hns hsb ⊢
 generalize he : newEnv (cj i) L mainGlobals clos (lamQ ++ ".<locals>.") (some a) (.ref c') none builtinsNs = env
 have e1 : env.scope = cj i := by rw [← he]; rfl
 have e2 : env.locals = L := by rw [← he]; rfl
 have e3 : env.frame = some L := by rw [← he]; rfl
 have e4 : env.cells = clos := by rw [← he]; rfl
 have e5 : env.globals = mainGlobals := by rw [← he]; rfl
 have e6 : env.builtins = builtinsNs := by rw [← he]; rfl
 have fresh : s.heap.get? L = none := hL ▸ Heap.get?_none_of_le (Nat.le_refl _)
 let s' : Shared := { s with heap := h', toks := s.toks + (names.zip us).length }
 let C' := HX C env L σ s'
 have frs : C'.frs = L :: C.frs := by
  show (env :: C.fenv :: C.outer).filterMap (·.frame) = _
  rw [List.filterMap_cons, e3]
 have hnsL : ∃ o, h'.get? L = some o ∧ ∀ vs, o.data ≠ .fields vs := by
  refine gk fun _ kk => ?_
  obtain ⟨o, es, ep, e, hd, _⟩ := hns
  refine kk ?_; clear kk
  exact ⟨o, e, fun vs q => by rw [hd] at q; cases q⟩
 have S : Sub C C' fz σ s s' := by
  refine ⟨rfl, hk, rfl, fun b hb => ?_, ?_, fun b hb => ?_, ⟨r.gens, rfl⟩, ⟨r.os, rfl⟩, ⟨r.drawn, rfl⟩⟩
  ·obtain ⟨o, e, _⟩ := hnsL
   rw [List.mem_singleton.mp hb]; exact ⟨fresh, az e⟩
  ·show env.locals ∈ [L]
   rw [e2]; exact .head _
  ·rw [frs] at hb
   rcases List.mem_cons.mp hb with rfl | hb
   ·exact .inr ⟨fresh, hnsL⟩
   ·exact .inl hb
 have kb : ∀ b o, C.h₀.get? b = some o → C'.h₀.get? b = some o := fun b o e => by
  have e' := r.base b o e
  refine S.at e' ?_ (S.nfr e' fun h => by have := (r.fr b h).1; rw [e] at this; cases this)
  cases q : σ.mem.lookup b with
  | none => rfl
  | some x => obtain ⟨_, _, _, h, _⟩ := r.mem b x q; rw [e] at h; cases h
 have O' : Ok C' := by
  refine ⟨?_, e3, fun e he => ?_, e3, e1 ▸ F.kind, e5, e6, O.K.keeps kb, O.g.keeps kb, O.b.keeps kb, O.bb, O.nl.keeps kb, ?_, O.hh, ?_, ?_⟩
  ·show C.A.frames.map (env :: ·) = _
   rw [O.hA]; rfl
  ·rcases List.mem_cons.mp he with rfl | he
   ·rw [e1, F.kind, e3]; exact ⟨by decide, rfl⟩
   ·exact O.hfk e he
  ·obtain ⟨mc, h1, h2⟩ := O.nd; exact ⟨mc, h1.keeps kb, h2⟩
  ·exact qX (Nat.lt_of_lt_of_le (Nat.succ_pos _) hd) O.hd
  ·exact qY (Nat.lt_of_lt_of_le (Nat.succ_pos _) hd) O.hu
 have ko : ∀ y, C'.env.kindOf y = (cj i).names.lookup y := fun y => by show env.scope.names.lookup y = _; rw [e1]
 have fc : ∀ y c, clos.lookup y = some c → ∃ v o u, l.lookup y = some v ∧ (c, o) ∈ fz ∧ o.data = .cell (some u) ∧ RV C.P fz v u := fun y c e => by
  rcases hv.at (x := y) with ⟨_, h⟩ | ⟨v, c, o, u, a1, a2, a3, a4, a5⟩
  ·rw [e] at h; cases h
  ·rw [e] at a2; cases a2; exact ⟨v, o, u, a1, a3, a4, a5⟩
 have lf : ∀ y v, l.lookup y = some v → ∃ c o u, clos.lookup y = some c ∧ (c, o) ∈ fz ∧ o.data = .cell (some u) ∧ RV C.P fz v u := fun y v e => by
  rcases hv.at (x := y) with ⟨h, _⟩ | ⟨v, c, o, u, a1, a2, a3, a4, a5⟩
  ·rw [e] at h; cases h
  ·rw [e] at a1; cases a1; exact ⟨c, o, u, a2, a3, a4, a5⟩
 have B' : jS C' (cj i).names := by
  refine ⟨fun y hy => (ko y).trans hy, fun y hy => ?_⟩
  rcases hy with hy | hy
  ·exact absurd (k3 _ (bV hy)).1 (by simp)
  ·obtain ⟨v, e⟩ := Option.isSome_iff_exists.mp ((hl y).mp hy)
   refine gk fun _ kk => ?_
   obtain ⟨c, _, _, e', _⟩ := lf y v e
   refine kk ?_; clear kk
   exact ⟨.inr ((ko y).trans hy), by show (env.cells.lookup y).isSome = true; rw [e4, e']; rfl⟩
 have r' : bt C' fz ⟨names.zip as ++ l, σ.mem⟩ s' := by
  refine S.enter r _ ⟨fun x => (names.zip us).reverse.lookup x, ?_, fun y v e q => ?_⟩ (fun y v e q => ?_) fun y c e => ?_
  ·show h'.Ns env.locals _
   rw [e2]; exact hns
  ·rw [List.lookup_append] at e
   cases z : (names.zip as).lookup y with
   | some w =>
    rw [z] at e; cases e
    refine gk fun _ kk => ?_
    obtain ⟨_, u, h2, h3⟩ := sr hs z
    refine kk ?_; clear kk
    refine ⟨u, h2, df ?_ (List.mem_reverse.mpr h3)⟩
    rw [List.map_reverse, List.map_fst_zip (by rw [hs.length, hn]; exact Nat.le_refl _)]
    exact List.pairwise_reverse.mpr (k1.imp Ne.symm)
   | none =>
    rw [z] at e
    rw [ko, (hl y).mpr (az (show l.lookup y = some v from e))] at q; cases q
  ·rw [List.lookup_append] at e
   cases z : (names.zip as).lookup y with
   | some w => exact absurd ((ko y).trans (k2 y (sr hs z).1)) q
   | none =>
    rw [z] at e
    have e : l.lookup y = some v := e
    refine gk fun _ kk => ?_
    obtain ⟨c, o, u, a1, a2, a3, a4⟩ := lf y v e
    refine kk ?_; clear kk
    have hfr := (hl y).mpr (az e)
    exact ⟨c, u, .inr ⟨(ko y).trans hfr, by simpa using (k3 _ (bV hfr)).2⟩, by show env.cells.lookup y = _; rw [e4]; exact a1, ⟨o, hk _ _ (r.fro _ a2).1, a3⟩, a4⟩
  ·replace e : env.cells.lookup y = some c := e
   rw [e4] at e
   refine gk fun _ kk => ?_
   obtain ⟨v, o, u, a1, a2, a3, a4⟩ := fc y c e
   obtain ⟨b1, b2, b3, b4, b5⟩ := r.fro _ a2
   refine kk ?_; clear kk
   have ne : c ≠ L := fun q => by rw [q, fresh] at b1; cases b1
   refine ⟨fun q => ?_, b3, e2 ▸ ne, ⟨o, _, hk _ _ b1, a3⟩⟩
   rw [frs] at q
   rcases List.mem_cons.mp q with q | q
   ·exact ne q
   ·exact b4 q
 refine kla_codeExpr (wpAny_mono ((bB 40 (cj i).names).1 C' O' (Nat.le_sub_one_of_lt hd) B' (by rw [F.body]; exact h) fz s' r') (fun v s₂ p => ?_) fun e s₂ x => ?_)
 ·obtain ⟨fz', y, σ', g, hv, q⟩ := p
  exact ⟨fz', y, _, S.leave r g, hv, rfl, q⟩
 ·refine wpAny_mono (lU O' r' rfl x) (fun _ s₃ x => ?_) fun _ _ y => y
  refine gk fun _ kk => ?_
  obtain ⟨a', fz', σ', h1, g, h3, ⟨oe, vs', a0, f1, f2, f3, f4, f5, f6⟩, h5⟩ := x
  refine kk ?_; clear kk
  have fr : ∀ {b}, s'.heap.get? b = none → s.heap.get? b = none := fun h => c9 fun q => aS h (S.stay q)
  refine ⟨a', fz', ⟨σ.loc, σ'.mem⟩, h1, S.leave r g, fr h3, ⟨oe, vs', a0, f1, f2, f3, f4, f5, f6.imp id ?_⟩, rfl, h5⟩
  intro zz
  refine gk fun _ kk => ?_
  obtain ⟨T, oT, ts, a1, a2, a3, a4, a5, a6, a7⟩ := zz
  refine kk ?_; clear kk
  exact ⟨T, oT, ts, a1, fr a2, a3, a4, a5, a6, a7⟩
noncomputable def mq : V := .tup [.str ax, .str av, .str bg, .str bc]
theorem Ob : aA 75 (aH HB.o75) (HB.dbody (HB.tsu 5 0)) := .of 74 HB.o75 HB.o74 (fun P => by kernel_rfl) (by kernel_rfl)
theorem OK {v0 v1 v2 : V} : aV 75 [v0, v1, v2] [aj, aD, aa] [v0, v1, v2] := aV.of Ob (aE.plain fun us h => by
 obtain ⟨u0, u1, u2, rfl⟩ := jL h; kernel_rfl)
noncomputable def s75 : S := (.seq (.whl (.andd (.cons (.cmp .Gt (.loc aa) (.int (0))) (.cons (.cmp .Eq (.bin .Mod (.loc aD) (.int (10))) (.int (0))) .nil))) (.seq (.asg aD (.bin .FloorDiv (.loc aD) (.int (10)))) (.seq (.asg aa (.bin .Sub (.loc aa) (.int (1)))) .nil))) (.seq (.sat (.loc aj) aD (.loc aD)) (.seq (.sat (.loc aj) aa (.loc aa)) .nil)))
theorem OL : aU 75 [aj, aD, aa] s75 := .of [] ([], []) ([], []) Ob (fun P => by kernel_rfl) (by kernel_rfl)
theorem Oc : aA 89 (aH HB.o89) (HB.dbody (HB.tsu 5 2)) := .of 88 HB.o89 HB.o88 (fun P => by kernel_rfl) (by kernel_rfl)
theorem OM {v0 v1 : V} : aV 89 [v0, v1] [aj, cb] [v0, v1] := aV.of Oc (aE.plain fun us h => by
 obtain ⟨u0, u1, rfl⟩ := jK h; kernel_rfl)
noncomputable def s89 : S := (.seq (.unp [fP, oi, aa] (.call (.gv (.ref 194)) (.cons (.loc aj) (.cons (.loc cb) .nil)))) (.seq (.ret (.call (.gv (.ref 155)) (.cons (.bin .Sub (.loc fP) (.loc oi)) (.cons (.loc aa) .nil)))) .nil))
theorem ON : aU 89 [aj, cb] s89 := .of [] ([], []) ([], []) Oc (fun P => by kernel_rfl) (by kernel_rfl)
theorem Od : aA 96 (aH HB.o96) (HB.dbody (HB.tsu 5 3)) := .of 95 HB.o96 HB.o95 (fun P => by kernel_rfl) (by kernel_rfl)
theorem OO {v0 v1 : V} : aV 96 [v0, v1] [aj, cb] [v0, v1] := aV.of Od (aE.plain fun us h => by
 obtain ⟨u0, u1, rfl⟩ := jK h; kernel_rfl)
noncomputable def s96 : S := (.seq (.asg iJ (.call (.gv (.ref 187)) (.cons (.loc cb) .nil))) (.seq (.ret (.call (.gv (.ref 155)) (.cons (.bin .Mult (.attr (.loc aj) aD) (.attr (.loc iJ) aD)) (.cons (.bin .Add (.attr (.loc aj) aa) (.attr (.loc iJ) aa)) .nil)))) .nil))
theorem OP : aU 96 [aj, cb] s96 := .of [] ([], []) ([], []) Od (fun P => by kernel_rfl) (by kernel_rfl)
theorem HY : aA 110 (aH HB.o110) (HB.dbody (HB.tsu 5 5)) := .of 109 HB.o110 HB.o109 (fun P => by kernel_rfl) (by kernel_rfl)
theorem LZ {v0 v1 : V} : aV 110 [v0, v1] [aj, cb] [v0, v1] := aV.of HY (aE.plain fun us h => by
 obtain ⟨u0, u1, rfl⟩ := jK h; kernel_rfl)
noncomputable def s110 : S := (.seq (.unp [fP, oi, aa] (.call (.gv (.ref 194)) (.cons (.loc aj) (.cons (.loc cb) .nil)))) (.seq (.ret (.call (.gv (.ref 173)) (.cons (.bin .Sub (.loc fP) (.loc oi)) .nil))) .nil))
theorem L4 : aU 110 [aj, cb] s110 := .of [] ([], []) ([], []) HY (fun P => by kernel_rfl) (by kernel_rfl)
theorem HZ : aA 124 (aH HB.o124) (HB.dbody (HB.tsu 5 7)) := .of 123 HB.o124 HB.o123 (fun P => by kernel_rfl) (by kernel_rfl)
theorem L5 {v0 : V} : aV 124 [v0] [aj] [v0] := aV.of HZ (aE.plain fun us h => by
 obtain ⟨u0, rfl⟩ := gU h; kernel_rfl)
noncomputable def s124 : S := (.seq (.ret (.bin .FloorDiv (.attr (.loc aj) aD) (.bin .Pow (.int (10)) (.attr (.loc aj) aa)))) .nil)
theorem L6 : aU 124 [aj] s124 := .of [] ([], []) ([], []) HZ (fun P => by kernel_rfl) (by kernel_rfl)
theorem H0 : aA 131 (aH HB.o131) (HB.dbody (HB.tsu 5 8)) := .of 130 HB.o131 HB.o130 (fun P => by kernel_rfl) (by kernel_rfl)
theorem L7 {v0 v1 : V} : aV 131 [v0, v1] [aj, aa] [v0, v1] := aV.of H0 (aE.plain fun us h => by
 obtain ⟨u0, u1, rfl⟩ := jK h; kernel_rfl)
noncomputable def s131 : S := (.seq (.iff (.cmp .GtE (.loc aa) (.attr (.loc aj) aa)) (.seq (.ret (.loc aj)) .nil) .nil) (.seq (.ret (.call (.gv (.ref 155)) (.cons (.call (.gv (.ref 180)) (.cons (.attr (.loc aj) aD) (.cons (.bin .Pow (.int (10)) (.bin .Sub (.attr (.loc aj) aa) (.loc aa))) .nil))) (.cons (.loc aa) .nil)))) .nil))
theorem L8 : aU 131 [aj, aa] s131 := .of [] ([], []) ([], []) H0 (fun P => by kernel_rfl) (by kernel_rfl)
theorem H2 : aA 138 (aH HB.o138) (HB.dbody (HB.tsu 5 9)) := .of 137 HB.o138 HB.o137 (fun P => by kernel_rfl) (by kernel_rfl)
theorem L9 {v0 : V} : aV 138 [v0] [aj] [v0] := aV.of H2 (aE.plain fun us h => by
 obtain ⟨u0, rfl⟩ := gU h; kernel_rfl)
noncomputable def s138 : S := (.seq (.ret (.tup (.cons (.attr (.loc aj) aD) (.cons (.attr (.loc aj) aa) .nil)))) .nil)
theorem Ma : aU 138 [aj] s138 := .of [] ([], []) ([], []) H2 (fun P => by kernel_rfl) (by kernel_rfl)
theorem H3 : aA 173 (aH HB.o173) (HB.dbody (HB.tst 7)) := .of 172 HB.o173 HB.o172 (fun P => by kernel_rfl) (by kernel_rfl)
theorem Mb {v0 : V} : aV 173 [v0] [af] [v0] := aV.of H3 (aE.plain fun us h => by
 obtain ⟨u0, rfl⟩ := gU h; kernel_rfl)
noncomputable def s173 : S := (.seq (.iff (.cmp .Eq (.loc af) (.int (0))) (.seq (.ret (.int (0))) .nil) .nil) (.seq (.ret (.ite (.cmp .Gt (.loc af) (.int (0))) (.int (1)) (.neg (.int (1))))) .nil))
theorem Mc : aU 173 [af] s173 := .of [] ([], []) ([], []) H3 (fun P => by kernel_rfl) (by kernel_rfl)
theorem H4 : aA 180 (aH HB.o180) (HB.dbody (HB.tst 8)) := .of 179 HB.o180 HB.o179 (fun P => by kernel_rfl) (by kernel_rfl)
theorem Me {v0 v1 : V} : aV 180 [v0, v1] [aD, cQ] [v0, v1] := aV.of H4 (aE.plain fun us h => by
 obtain ⟨u0, u1, rfl⟩ := jK h; kernel_rfl)
noncomputable def s180 : S := (.seq (.asg eX (.bin .FloorDiv (.bin .Add (.bin .Mult (.int (2)) (.call (.gv (.bi .abs)) (.cons (.loc aD) .nil))) (.call (.gv (.bi .abs)) (.cons (.loc cQ) .nil))) (.bin .Mult (.int (2)) (.call (.gv (.bi .abs)) (.cons (.loc cQ) .nil))))) (.seq (.ret (.bin .Mult (.bin .Mult (.loc eX) (.call (.gv (.ref 173)) (.cons (.loc aD) .nil))) (.call (.gv (.ref 173)) (.cons (.loc cQ) .nil)))) .nil))
theorem Mf : aU 180 [aD, cQ] s180 := .of [] ([], []) ([], []) H4 (fun P => by kernel_rfl) (by kernel_rfl)
theorem H5 : aA 187 (aH HB.o187) (HB.dbody (HB.tst 9)) := .of 186 HB.o187 HB.o186 (fun P => by kernel_rfl) (by kernel_rfl)
theorem Mg {v0 : V} : aV 187 [v0] [ak] [v0] := aV.of H5 (aE.plain fun us h => by
 obtain ⟨u0, rfl⟩ := gU h; kernel_rfl)
noncomputable def s187 : S := (.seq (.iff (.call (.gv (.bi .isinst)) (.cons (.loc ak) (.cons (.gv (.ref 155)) .nil))) (.seq (.ret (.loc ak)) .nil) .nil) (.seq (.iff (.orr (.cons (.call (.gv (.bi .isinst)) (.cons (.loc ak) (.cons (.gv (.typ .bool)) .nil))) (.cons (.not (.call (.gv (.bi .isinst)) (.cons (.loc ak) (.cons (.gv (.typ .int)) .nil)))) .nil))) (.seq .bad .nil) .nil) (.seq (.ret (.call (.gv (.ref 155)) (.cons (.loc ak) (.cons (.int (0)) .nil)))) .nil)))
theorem Mh : aU 187 [ak] s187 := .of [] ([], []) ([], []) H5 (fun P => by kernel_rfl) (by kernel_rfl)
theorem H6 : aA 194 (aH HB.o194) (HB.dbody (HB.tst 10)) := .of 193 HB.o194 HB.o193 (fun P => by kernel_rfl) (by kernel_rfl)
theorem Mi {v0 v1 : V} : aV 194 [v0, v1] [fP, cb] [v0, v1] := aV.of H6 (aE.plain fun us h => by
 obtain ⟨u0, u1, rfl⟩ := jK h; kernel_rfl)
noncomputable def s194 : S := (.seq (.asg cR (.call (.gv (.ref 187)) (.cons (.loc fP) .nil))) (.seq (.asg gu (.call (.gv (.ref 187)) (.cons (.loc cb) .nil))) (.seq (.asg aa (.call (.gv (.bi .max)) (.cons (.attr (.loc cR) aa) (.cons (.attr (.loc gu) aa) .nil)))) (.seq (.ret (.tup (.cons (.bin .Mult (.attr (.loc cR) aD) (.bin .Pow (.int (10)) (.bin .Sub (.loc aa) (.attr (.loc cR) aa)))) (.cons (.bin .Mult (.attr (.loc gu) aD) (.bin .Pow (.int (10)) (.bin .Sub (.loc aa) (.attr (.loc gu) aa)))) (.cons (.loc aa) .nil))))) .nil))))
theorem Mj : aU 194 [fP, cb] s194 := .of [] ([], []) ([], []) H6 (fun P => by kernel_rfl) (by kernel_rfl)
theorem H7 : aA 199 (aH HB.o199) (HB.dbody (HB.tst 11)) := .of 198 HB.o199 HB.o198 (fun P => by kernel_rfl) (by kernel_rfl)
theorem Mk {v0 : V} : aV 199 [v0] [bh] [v0] := aV.of H7 (aE.plain fun us h => by
 obtain ⟨u0, rfl⟩ := gU h; kernel_rfl)
noncomputable def s199 : S := (.seq (.asg aa (.int (0))) (.seq (.for_ ak (.loc bh) (.seq (.asg aa (.call (.gv (.bi .max)) (.cons (.loc aa) (.cons (.attr (.call (.gv (.ref 187)) (.cons (.loc ak) .nil)) aa) .nil)))) .nil)) (.seq (.ret (.tup (.cons (.comp [aa] ak (.bin .Mult (.attr (.call (.gv (.ref 187)) (.cons (.loc ak) .nil)) aD) (.bin .Pow (.int (10)) (.bin .Sub (.loc aa) (.attr (.call (.gv (.ref 187)) (.cons (.loc ak) .nil)) aa)))) (.loc bh) .nil) (.cons (.loc aa) .nil)))) .nil)))
theorem Ml : aU 199 [bh] s199 := .of [] ([], []) ([], []) H7 (fun P => by kernel_rfl) (by kernel_rfl)
theorem H8 : aA 206 (aH HB.o206) (HB.dbody (HB.tst 12)) := .of 205 HB.o206 HB.o205 (fun P => by kernel_rfl) (by kernel_rfl)
theorem Mn {v0 v1 v2 : V} : aV 206 [v0, v1, v2] [fP, cb, aa] [v0, v1, v2] := aV.of H8 (aE.plain fun us h => by
 obtain ⟨u0, u1, u2, rfl⟩ := jL h; kernel_rfl)
noncomputable def s206 : S := (.seq (.unp [aD, cQ, aW] (.call (.gv (.ref 194)) (.cons (.loc fP) (.cons (.loc cb) .nil)))) (.seq (.iff (.cmp .Eq (.loc cQ) (.int (0))) (.seq .bad .nil) .nil) (.seq (.ret (.call (.gv (.ref 155)) (.cons (.call (.gv (.ref 180)) (.cons (.bin .Mult (.loc aD) (.bin .Pow (.int (10)) (.loc aa))) (.cons (.loc cQ) .nil))) (.cons (.loc aa) .nil)))) .nil)))
theorem Mo : aU 206 [fP, cb, aa] s206 := .of [] ([], []) ([], []) H8 (fun P => by kernel_rfl) (by kernel_rfl)
theorem H9 : aA 213 (aH HB.o213) (HB.dbody (HB.tst 13)) := .of 212 HB.o213 HB.o212 (fun P => by kernel_rfl) (by kernel_rfl)
theorem Mp {v0 : V} : aV 213 [v0] [bh] [v0] := aV.of H9 (aE.plain fun us h => by
 obtain ⟨u0, rfl⟩ := gU h; kernel_rfl)
noncomputable def s213 : S := (.seq (.unp [bo, aa] (.call (.gv (.ref 199)) (.cons (.loc bh) .nil))) (.seq (.ret (.call (.gv (.ref 155)) (.cons (.call (.gv (.bi .sum)) (.cons (.loc bo) .nil)) (.cons (.loc aa) .nil)))) .nil))
theorem Mq : aU 213 [bh] s213 := .of [] ([], []) ([], []) H9 (fun P => by kernel_rfl) (by kernel_rfl)
theorem Ia : aA 220 (aH HB.o220) (HB.dbody (HB.tst 14)) := .of 219 HB.o220 HB.o219 (fun P => by kernel_rfl) (by kernel_rfl)
theorem Mr {v0 : V} : aV 220 [v0] [bh] [v0] := aV.of Ia (aE.plain fun us h => by
 obtain ⟨u0, rfl⟩ := gU h; kernel_rfl)
noncomputable def s220 : S := (.seq (.iff (.cmp .Eq (.call (.gv (.bi .len)) (.cons (.loc bh) .nil)) (.int (0))) (.seq .bad .nil) .nil) (.seq (.asg eV (.call (.gv (.ref 187)) (.cons (.sub (.loc bh) (.int (0))) .nil))) (.seq (.for_ ak (.slc (.loc bh) (.int (1)) .non) (.seq (.iff (.cmp .Gt (.meth (.loc eV) eE (.cons (.loc ak) .nil)) (.int (0))) (.seq (.asg eV (.call (.gv (.ref 187)) (.cons (.loc ak) .nil))) .nil) .nil) .nil)) (.seq (.ret (.loc eV)) .nil))))
theorem Ms : aU 220 [bh] s220 := .of [] ([], []) ([], []) Ia (fun P => by kernel_rfl) (by kernel_rfl)
theorem Ib : aA 227 (aH HB.o227) (HB.dbody (HB.tst 15)) := .of 226 HB.o227 HB.o226 (fun P => by kernel_rfl) (by kernel_rfl)
theorem Mt {v0 : V} : aV 227 [v0] [bh] [v0] := aV.of Ib (aE.plain fun us h => by
 obtain ⟨u0, rfl⟩ := gU h; kernel_rfl)
noncomputable def s227 : S := (.seq (.iff (.cmp .Eq (.call (.gv (.bi .len)) (.cons (.loc bh) .nil)) (.int (0))) (.seq .bad .nil) .nil) (.seq (.asg eV (.call (.gv (.ref 187)) (.cons (.sub (.loc bh) (.int (0))) .nil))) (.seq (.for_ ak (.slc (.loc bh) (.int (1)) .non) (.seq (.iff (.cmp .Lt (.meth (.loc eV) eE (.cons (.loc ak) .nil)) (.int (0))) (.seq (.asg eV (.call (.gv (.ref 187)) (.cons (.loc ak) .nil))) .nil) .nil) .nil)) (.seq (.ret (.loc eV)) .nil))))
theorem Mu : aU 227 [bh] s227 := .of [] ([], []) ([], []) Ib (fun P => by kernel_rfl) (by kernel_rfl)
theorem Ic : aA 234 (aH HB.o234) (HB.dbody (HB.tst 16)) := .of 233 HB.o234 HB.o233 (fun P => by kernel_rfl) (by kernel_rfl)
theorem Mv {v0 v1 v2 : V} : aV 234 [v0, v1, v2] [ak, oa, kS] [v0, v1, v2] := aV.of Ic (aE.plain fun us h => by
 obtain ⟨u0, u1, u2, rfl⟩ := jL h; kernel_rfl)
noncomputable def s234 : S := (.seq (.iff (.cmp .Gt (.meth (.call (.gv (.ref 187)) (.cons (.loc oa) .nil)) eE (.cons (.loc kS) .nil)) (.int (0))) (.seq .bad .nil) .nil) (.seq (.ret (.call (.gv (.ref 220)) (.cons (.lst (.cons (.call (.gv (.ref 227)) (.cons (.lst (.cons (.loc ak) (.cons (.loc oa) .nil))) .nil)) (.cons (.loc kS) .nil))) .nil))) .nil))
theorem Mw : aU 234 [ak, oa, kS] s234 := .of [] ([], []) ([], []) Ic (fun P => by kernel_rfl) (by kernel_rfl)
theorem Id : aA 248 (aH HB.o248) (HB.dbody (HB.tsu 19 0)) := .of 247 HB.o248 HB.o247 (fun P => by kernel_rfl) (by kernel_rfl)
theorem Mx {v0 v1 : V} : aV 248 [v0, v1] [aj, cg] [v0, v1] := aV.of Id (aE.plain fun us h => by
 obtain ⟨u0, u1, rfl⟩ := jK h; kernel_rfl)
noncomputable def s248 : S := (.seq (.sat (.loc aj) cg (.loc cg)) .nil)
theorem My : aU 248 [aj, cg] s248 := .of [] ([], []) ([], []) Id (fun P => by kernel_rfl) (by kernel_rfl)
theorem Ie : aA 270 (aH HB.o270) (HB.dbody (HB.tsu 20 0)) := .of 269 HB.o270 HB.o269 (fun P => by kernel_rfl) (by kernel_rfl)
noncomputable def s270 : S := (.seq (.sat (.loc aj) aF (.loc aF)) (.seq (.sat (.loc aj) cO (.loc cO)) .nil))
theorem Mz : aU 270 [aj, aF, cO] s270 := .of [] ([], []) ([], []) Ie (fun P => by kernel_rfl) (by kernel_rfl)
theorem Ig : aA 291 (aH HB.o291) (HB.dbody (HB.tsu 21 0)) := .of 290 HB.o291 HB.o290 (fun P => by kernel_rfl) (by kernel_rfl)
theorem MA {v0 v1 v2 : V} : aV 291 [v0, v1, v2] [aj, ba, aF] [v0, v1, v2] := aV.of Ig (aE.plain fun us h => by
 obtain ⟨u0, u1, u2, rfl⟩ := jL h; kernel_rfl)
noncomputable def s291 : S := (.seq (.sat (.loc aj) ba (.loc ba)) (.seq (.sat (.loc aj) aF (.loc aF)) .nil))
theorem MB : aU 291 [aj, ba, aF] s291 := .of [] ([], []) ([], []) Ig (fun P => by kernel_rfl) (by kernel_rfl)
theorem Ih : aA 312 (aH HB.o312) (HB.dbody (HB.tsu 22 0)) := .of 311 HB.o312 HB.o311 (fun P => by kernel_rfl) (by kernel_rfl)
theorem MC {v0 v1 v2 : V} : aV 312 [v0, v1, v2] [aj, af, aZ] [v0, v1, v2] := aV.of Ih (aE.plain fun us h => by
 obtain ⟨u0, u1, u2, rfl⟩ := jL h; kernel_rfl)
noncomputable def s312 : S := (.seq (.sat (.loc aj) af (.loc af)) (.seq (.sat (.loc aj) aZ (.loc aZ)) .nil))
theorem MD : aU 312 [aj, af, aZ] s312 := .of [] ([], []) ([], []) Ih (fun P => by kernel_rfl) (by kernel_rfl)
theorem Ii : aA 333 (aH HB.o333) (HB.dbody (HB.tst 23)) := .of 332 HB.o333 HB.o332 (fun P => by kernel_rfl) (by kernel_rfl)
theorem uG {v0 : V} : aV 333 [v0] [ak] [v0] := aV.of Ii (aE.plain fun us h => by
 obtain ⟨u0, rfl⟩ := gU h; kernel_rfl)
noncomputable def s333 : S := (.seq (.iff (.cmp .Is (.loc ak) .non) (.seq (.ret (.str E9)) .nil) .nil) (.seq (.iff (.call (.gv (.bi .isinst)) (.cons (.loc ak) (.cons (.gv (.typ .bool)) .nil))) (.seq (.ret (.str tN)) .nil) .nil) (.seq (.iff (.call (.gv (.bi .isinst)) (.cons (.loc ak) (.cons (.gv (.typ .int)) .nil))) (.seq (.ret (.str vG)) .nil) .nil) (.seq (.iff (.call (.gv (.bi .isinst)) (.cons (.loc ak) (.cons (.gv (.ref 155)) .nil))) (.seq (.ret (.str qE)) .nil) .nil) (.seq (.iff (.call (.gv (.bi .isinst)) (.cons (.loc ak) (.cons (.gv (.ref 251)) .nil))) (.seq (.ret (.str aq)) .nil) .nil) (.seq (.iff (.call (.gv (.bi .isinst)) (.cons (.loc ak) (.cons (.gv (.ref 273)) .nil))) (.seq (.ret (.str qH)) .nil) .nil) (.seq (.iff (.call (.gv (.bi .isinst)) (.cons (.loc ak) (.cons (.gv (.typ .list)) .nil))) (.seq (.ret (.str tM)) .nil) .nil) (.seq (.iff (.call (.gv (.bi .isinst)) (.cons (.loc ak) (.cons (.gv (.typ .dict)) .nil))) (.seq (.ret (.str E8)) .nil) .nil) (.seq (.iff (.call (.gv (.bi .isinst)) (.cons (.loc ak) (.cons (.gv (.ref 294)) .nil))) (.seq (.ret (.str ci)) .nil) .nil) (.seq (.iff (.call (.gv (.bi .isinst)) (.cons (.loc ak) (.cons (.gv (.ref 322)) .nil))) (.seq (.ret (.str Hh)) .nil) .nil) (.seq .bad .nil)))))))))))
theorem uH : aU 333 [ak] s333 := .of [] ([], []) ([], []) Ii (fun P => by kernel_rfl) (by kernel_rfl)
theorem Ij : aA 340 (aH HB.o340) (HB.dbody (HB.tst 24)) := .of 339 HB.o340 HB.o339 (fun P => by kernel_rfl) (by kernel_rfl)
theorem ME {v0 : V} : aV 340 [v0] [ak] [v0] := aV.of Ij (aE.plain fun us h => by
 obtain ⟨u0, rfl⟩ := gU h; kernel_rfl)
noncomputable def s340 : S := (.seq (.ret (.cmp .In (.call (.gv (.ref 333)) (.cons (.loc ak) .nil)) (.tup (.cons (.str vG) (.cons (.str qE) .nil))))) .nil)
theorem MF : aU 340 [ak] s340 := .of [] ([], []) ([], []) Ij (fun P => by kernel_rfl) (by kernel_rfl)
theorem Ik : aA 367 (aH HB.o367) (HB.dbody (HB.tsu 28 0)) := .of 366 HB.o367 HB.o366 (fun P => by kernel_rfl) (by kernel_rfl)
noncomputable def s367 : S := (.seq (.sat (.loc aj) aN (.ite (.cmp .Is (.loc aN) .non) (.dctM [] .nil) (.loc aN))) (.seq (.sat (.loc aj) cX (.ite (.cmp .Is (.loc cX) .non) (.dct [] .nil) (.loc cX))) .nil))
theorem MG : aU 367 [aj, aN, cX] s367 := .of [aN] ([], []) ([], []) Ik (fun P => by kernel_rfl) (by kernel_rfl)
theorem Il : aA 374 (aH HB.o374) (HB.dbody (HB.tsu 28 1)) := .of 373 HB.o374 HB.o373 (fun P => by kernel_rfl) (by kernel_rfl)
theorem MH {v0 v1 : V} : aV 374 [v0, v1] [aj, ak] [v0, v1] := aV.of Il (aE.plain fun us h => by
 obtain ⟨u0, u1, rfl⟩ := jK h; kernel_rfl)
noncomputable def s374 : S := (.seq (.asg cB (.loc ak)) (.seq (.for_ Hc (.call (.gv (.typ .range)) (.cons (.gv (.int (30))) .nil)) (.seq (.iff (.not (.call (.gv (.bi .isinst)) (.cons (.loc cB) (.cons (.gv (.ref 322)) .nil)))) (.seq (.ret (.loc cB)) .nil) .nil) (.seq (.unp [aZ, aB] (.meth (.attr (.loc aj) aN) n_get (.cons (.attr (.loc cB) af) (.cons (.tup (.cons (.neg (.int (1))) (.cons .non .nil))) .nil)))) (.seq (.iff (.cmp .NotEq (.loc aZ) (.attr (.loc cB) aZ)) (.seq (.ret .non) .nil) .nil) (.seq (.asg cB (.loc aB)) .nil))))) (.seq (.ret (.ite (.call (.gv (.bi .isinst)) (.cons (.loc cB) (.cons (.gv (.ref 322)) .nil))) .non (.loc cB))) .nil)))
theorem MI : aU 374 [aj, ak] s374 := .of [] ([], []) ([], []) Il (fun P => by kernel_rfl) (by kernel_rfl)
theorem Im : aA 381 (aH HB.o381) (HB.dbody (HB.tsu 28 2)) := .of 380 HB.o381 HB.o380 (fun P => by kernel_rfl) (by kernel_rfl)
theorem MJ {v0 v1 v2 : V} : aV 381 [v0, v1, v2] [aj, ba, qC] [v0, v1, v2] := aV.of Im (aE.plain fun us h => by
 obtain ⟨u0, u1, u2, rfl⟩ := jL h; kernel_rfl)
noncomputable def s381 : S := (.seq (.ret (.meth (.loc aj) bW (.cons (.meth (.loc ba) n_get (.cons (.loc qC) .nil)) .nil))) .nil)
theorem MK : aU 381 [aj, ba, qC] s381 := .of [] ([], []) ([], []) Im (fun P => by kernel_rfl) (by kernel_rfl)
theorem Io : aA 409 (aH HB.o409) (HB.dbody (HB.tsu 29 1)) := .of 408 HB.o409 HB.o408 (fun P => by kernel_rfl) (by kernel_rfl)
theorem ML {v0 v1 : V} : aV 409 [v0, v1] [aj, ak] [v0, v1] := aV.of Io (aE.plain fun us h => by
 obtain ⟨u0, u1, rfl⟩ := jK h; kernel_rfl)
noncomputable def s409 : S := (.seq (.asg af (.int (1))) (.seq (.whl (.cmp .In (.loc af) (.attr (.loc aj) aN)) (.seq (.asg af (.bin .Add (.loc af) (.int (1)))) .nil)) (.seq (.ssb (.attr (.loc aj) aN) (.loc af) (.tup (.cons (.int (0)) (.cons (.loc ak) .nil)))) (.seq (.ret (.call (.gv (.ref 322)) (.cons (.loc af) (.cons (.int (0)) .nil)))) .nil))))
theorem MM : aU 409 [aj, ak] s409 := .of [] ([], []) ([], []) Io (fun P => by kernel_rfl) (by kernel_rfl)
theorem ss : aA 457 (aH HB.o457) (HB.dbody (HB.tsu 35 0)) := .of 456 HB.o457 HB.o456 (fun P => by kernel_rfl) (by kernel_rfl)
noncomputable def s457 : S := (.seq (.sat (.loc aj) aq (.loc aq)) (.seq (.sat (.loc aj) an (.loc an)) (.seq (.sat (.loc aj) aJ (.loc aJ)) (.seq (.sat (.loc aj) aN (.loc aN)) (.seq (.sat (.loc aj) bJ (.loc bJ)) (.seq (.sat (.loc aj) be (.loc be)) (.seq (.sat (.loc aj) aL (.loc aL)) .nil)))))))
theorem uI : aU 457 [aj, aq, an, aJ, aN, bJ, be, aL] s457 := .of [] ([], []) ([], []) ss (fun P => by kernel_rfl) (by kernel_rfl)
theorem Ip : aA 478 (aH HB.o478) (HB.dbody (HB.tst 36)) := .of 477 HB.o478 HB.o477 (fun P => by kernel_rfl) (by kernel_rfl)
theorem mr : aV 478 [] [] [] := aV.of Ip (aE.plain fun us h => by
 obtain rfl := LY h; kernel_rfl)
noncomputable def s478 : S := (.seq (.ret (.dct [bO, bZ, b9] (.cons (.int (1)) (.cons (.int (3)) (.cons (.int (4)) .nil))))) .nil)
theorem mt : aU 478 [] s478 := .of [] ([], []) ([], []) Ip (fun P => by kernel_rfl) (by kernel_rfl)
theorem Iq : aA 485 (aH HB.o485) (HB.dbody (HB.tst 37)) := .of 484 HB.o485 HB.o484 (fun P => by kernel_rfl) (by kernel_rfl)
theorem MN {v0 : V} : aV 485 [v0] [aq] [v0] := aV.of Iq (aE.plain fun us h => by
 obtain ⟨u0, rfl⟩ := gU h; kernel_rfl)
noncomputable def s485 : S := (.seq (.ret (.call (.gv (.ref 467)) (.cons (.loc aq) (.cons (.sub (.call (.gv (.ref 478)) .nil) (.loc aq)) .nil)))) .nil)
theorem MO : aU 485 [aq] s485 := .of [] ([], []) ([], []) Iq (fun P => by kernel_rfl) (by kernel_rfl)
theorem Ir : aA 492 (aH HB.o492) (HB.dbody (HB.tst 38)) := .of 491 HB.o492 HB.o491 (fun P => by kernel_rfl) (by kernel_rfl)
theorem MP {v0 : V} : aV 492 [v0] [an] [v0] := aV.of Ir (aE.plain fun us h => by
 obtain ⟨u0, rfl⟩ := gU h; kernel_rfl)
noncomputable def s492 : S := (.seq (.fri aq lP (.call (.gv (.ref 478)) .nil) (.seq (.iff (.cmp .Eq (.loc lP) (.loc an)) (.seq (.ret (.call (.gv (.ref 485)) (.cons (.loc aq) .nil))) .nil) .nil) .nil)) (.seq (.rse (.str LB)) .nil))
theorem MQ : aU 492 [an] s492 := .of [] ([], []) ([], []) Ir (fun P => by kernel_rfl) (by kernel_rfl)
theorem It : aA 506 (aH HB.o506) (HB.dbody (HB.tsu 39 0)) := .of 505 HB.o506 HB.o505 (fun P => by kernel_rfl) (by kernel_rfl)
theorem MS {v0 v1 v2 v3 : V} : aV 506 [v0, v1, v2, v3] [aj, ar, aY, bw] [v0, v1, v2, v3] := aV.of It (aE.plain fun us h => by
 obtain ⟨u0, u1, u2, u3, rfl⟩ := uF h; kernel_rfl)
noncomputable def s506 : S := (.seq (.sat (.loc aj) ar (.loc ar)) (.seq (.sat (.loc aj) aY (.loc aY)) (.seq (.sat (.loc aj) bw (.loc bw)) .nil)))
theorem MT : aU 506 [aj, ar, aY, bw] s506 := .of [] ([], []) ([], []) It (fun P => by kernel_rfl) (by kernel_rfl)
theorem Iu : aA 513 (aH HB.o513) (HB.dbody (HB.tsu 39 1)) := .of 512 HB.o513 HB.o512 (fun P => by kernel_rfl) (by kernel_rfl)
theorem MU {v0 v1 : V} : aV 513 [v0, v1] [aj, ak] [v0, v1] := aV.of Iu (aE.plain fun us h => by
 obtain ⟨u0, u1, rfl⟩ := jK h; kernel_rfl)
noncomputable def s513 : S := (.seq (.ret (.meth (.attr (.loc aj) ar) bW (.cons (.loc ak) .nil))) .nil)
theorem MV : aU 513 [aj, ak] s513 := .of [] ([], []) ([], []) Iu (fun P => by kernel_rfl) (by kernel_rfl)
theorem Iv : aA 520 (aH HB.o520) (HB.dbody (HB.tsu 39 2)) := .of 519 HB.o520 HB.o519 (fun P => by kernel_rfl) (by kernel_rfl)
theorem MW {v0 v1 : V} : aV 520 [v0, v1] [aj, aq] [v0, v1] := aV.of Iv (aE.plain fun us h => by
 obtain ⟨u0, u1, rfl⟩ := jK h; kernel_rfl)
noncomputable def s520 : S := (.seq (.asg aB (.meth (.attr (.loc aj) ar) n_get (.cons (.attr (.loc aj) aY) (.cons (.str kP) .nil)))) (.seq (.ret (.ite (.call (.gv (.bi .isinst)) (.cons (.loc aB) (.cons (.gv (.typ .dict)) .nil))) (.meth (.attr (.loc aj) ar) n_get (.cons (.loc aB) (.cons (.loc aq) .nil))) .non)) .nil))
theorem MX : aU 520 [aj, aq] s520 := .of [] ([], []) ([], []) Iv (fun P => by kernel_rfl) (by kernel_rfl)
theorem Iw : aA 535 (aH HB.o535) (HB.dbody (HB.tst 40)) := .of 534 HB.o535 HB.o534 (fun P => by kernel_rfl) (by kernel_rfl)
noncomputable def s535 : S := (.seq (.ret (.call (.gv (.ref 542)) (.cons (.call (.gv (.ref 523)) (.cons (.loc ar) (.cons (.loc aY) (.cons (.loc bw) .nil)))) (.cons (.loc ak) (.cons (.gv (.int (8))) .nil))))) .nil)
theorem Ix : aU 535 [ar, aY, ak, bw] s535 := .of [] ([], []) ([], []) Iw (fun P => by kernel_rfl) (by kernel_rfl)
theorem Iy : aA 542 (aH HB.o542) (HB.dbody (HB.tst 41)) := .of 541 HB.o542 HB.o541 (fun P => by kernel_rfl) (by kernel_rfl)
theorem mu {v0 v1 v2 : V} : aV 542 [v0, v1, v2] [al, ak, aG] [v0, v1, v2] := aV.of Iy (aE.plain fun us h => by
 obtain ⟨u0, u1, u2, rfl⟩ := jL h; kernel_rfl)
noncomputable def s542 : S := (.seq (.asg aB (.meth (.loc al) bW (.cons (.loc ak) .nil))) (.seq (.iff (.cmp .Eq (.loc aG) (.int (0))) (.seq (.rse (.str Lu)) .nil) .nil) (.seq (.iff (.call (.gv (.bi .isinst)) (.cons (.loc aB) (.cons (.gv (.ref 251)) .nil))) (.seq (.ret (.call (.gv (.ref 549)) (.cons (.loc al) (.cons (.attr (.loc aB) cg) (.cons (.loc aG) .nil))))) .nil) .nil) (.seq (.iff (.orr (.cons (.not (.call (.gv (.bi .isinst)) (.cons (.loc aB) (.cons (.gv (.typ .list)) .nil)))) (.cons (.cmp .Eq (.call (.gv (.bi .len)) (.cons (.loc aB) .nil)) (.int (0))) (.cons (.not (.call (.gv (.bi .isinst)) (.cons (.meth (.loc al) bW (.cons (.sub (.loc aB) (.int (0))) .nil)) (.cons (.gv (.ref 251)) .nil)))) .nil)))) (.seq (.rse (.str Oz)) .nil) .nil) (.seq (.asg br (.attr (.meth (.loc al) bW (.cons (.sub (.loc aB) (.int (0))) .nil)) cg)) (.seq (.iff (.cmp .Eq (.call (.gv (.bi .len)) (.cons (.loc aB) .nil)) (.int (1))) (.seq (.iff (.andd (.cons (.cmp .NotEq (.loc br) (.str ax)) (.cons (.cmp .NotIn (.loc br) (.call (.gv (.ref 478)) .nil)) .nil))) (.seq (.rse (.bin .Add (.str Lw) (.loc br))) .nil) .nil) (.seq (.ret (.call (.gv (.ref 549)) (.cons (.loc al) (.cons (.loc br) (.cons (.loc aG) .nil))))) .nil)) .nil) (.seq (.ret (.call (.gv (.ref 563)) (.cons (.loc al) (.cons (.loc br) (.cons (.slc (.loc aB) (.int (1)) .non) (.cons (.loc aG) .nil)))))) .nil)))))))
theorem mv : aU 542 [al, ak, aG] s542 := .of [] ([], []) ([], []) Iy (fun P => by kernel_rfl) (by kernel_rfl)
theorem Iz : aA 549 (aH HB.o549) (HB.dbody (HB.tst 42)) := .of 548 HB.o549 HB.o548 (fun P => by kernel_rfl) (by kernel_rfl)
theorem IA {v0 v1 v2 : V} : aV 549 [v0, v1, v2] [al, aq, aG] [v0, v1, v2] := aV.of Iz (aE.plain fun us h => by
 obtain ⟨u0, u1, u2, rfl⟩ := jL h; kernel_rfl)
noncomputable def s549 : S := (.seq (.iff (.cmp .In (.loc aq) (.call (.gv (.ref 478)) .nil)) (.seq (.ret (.call (.gv (.ref 556)) (.cons (.loc al) (.cons (.loc aq) (.cons (.loc aG) .nil))))) .nil) .nil) (.seq (.iff (.cmp .Eq (.loc aq) (.str ax)) (.seq (.ret (.call (.gv (.ref 467)) (.cons (.str ax) (.cons (.int (0)) .nil)))) .nil) .nil) (.seq (.asg ak (.meth (.loc al) kT (.cons (.loc aq) .nil))) (.seq (.iff (.cmp .Is (.loc ak) .non) (.seq (.rse (.bin .Add (.str Lx) (.loc aq))) .nil) .nil) (.seq (.ret (.call (.gv (.ref 542)) (.cons (.loc al) (.cons (.loc ak) (.cons (.bin .Sub (.loc aG) (.int (1))) .nil))))) .nil)))))
theorem IB : aU 549 [al, aq, aG] s549 := .of [] ([], []) ([], []) Iz (fun P => by kernel_rfl) (by kernel_rfl)
theorem IC : aA 556 (aH HB.o556) (HB.dbody (HB.tst 43)) := .of 555 HB.o556 HB.o555 (fun P => by kernel_rfl) (by kernel_rfl)
theorem MY {v0 v1 v2 : V} : aV 556 [v0, v1, v2] [al, aq, aG] [v0, v1, v2] := aV.of IC (aE.plain fun us h => by
 obtain ⟨u0, u1, u2, rfl⟩ := jL h; kernel_rfl)
noncomputable def s556 : S := (.seq (.asg ak (.meth (.loc al) kT (.cons (.bin .Add (.str pA) (.slc (.loc aq) (.call (.gv (.bi .len)) (.cons (.str gp) .nil)) .non)) .nil))) (.seq (.iff (.cmp .Is (.loc ak) .non) (.seq (.ret (.call (.gv (.ref 485)) (.cons (.loc aq) .nil))) .nil) .nil) (.seq (.asg aB (.call (.gv (.ref 542)) (.cons (.call (.gv (.ref 523)) (.cons (.attr (.loc al) ar) (.cons (.dct [] .nil) (.cons (.attr (.loc al) bw) .nil)))) (.cons (.loc ak) (.cons (.bin .Sub (.loc aG) (.int (1))) .nil))))) (.seq (.iff (.orr (.cons (.cmp .NotEq (.attr (.loc aB) an) (.sub (.call (.gv (.ref 478)) .nil) (.loc aq))) (.cons (.cmp .In (.attr (.loc aB) aq) (.tup (.cons (.str ax) (.cons (.str av) .nil)))) .nil))) (.seq (.rse (.bin .Add (.str OA) (.loc aq))) .nil) .nil) (.seq (.ret (.loc aB)) .nil)))))
theorem MZ : aU 556 [al, aq, aG] s556 := .of [] ([], []) ([], []) IC (fun P => by kernel_rfl) (by kernel_rfl)
theorem ID : aA 563 (aH HB.o563) (HB.dbody (HB.tst 44)) := .of 562 HB.o563 HB.o562 (fun P => by kernel_rfl) (by kernel_rfl)
theorem nC {v0 v1 v2 v3 : V} : aV 563 [v0, v1, v2, v3] [al, br, aR, aG] [v0, v1, v2, v3] := aV.of ID (aE.plain fun us h => by
 obtain ⟨u0, u1, u2, u3, rfl⟩ := uF h; kernel_rfl)
noncomputable def s563 : S := (.seq (.iff (.andd (.cons (.cmp .In (.loc br) (.tup (.cons (.str fB) (.cons (.str iH) .nil)))) (.cons (.cmp .Eq (.call (.gv (.bi .len)) (.cons (.loc aR) .nil)) (.int (1))) (.cons (.call (.gv (.bi .isinst)) (.cons (.meth (.loc al) bW (.cons (.sub (.loc aR) (.int (0))) .nil)) (.cons (.gv (.typ .dict)) .nil))) .nil)))) (.seq (.asg aJ (.call (.gv (.ref 485)) (.cons (.bin .Add (.str gp) (.slc (.loc br) (.call (.gv (.bi .len)) (.cons (.str qz) .nil)) .non)) .nil))) (.seq (.ret (.call (.gv (.ref 467)) (.cons (.loc br) (.cons (.attr (.loc aJ) an) (.cons (.loc aJ) .nil))))) .nil)) .nil) (.seq (.iff (.andd (.cons (.cmp .Eq (.loc br) (.str ca)) (.cons (.cmp .Eq (.call (.gv (.bi .len)) (.cons (.loc aR) .nil)) (.int (1))) .nil))) (.seq (.ret (.call (.gv (.ref 577)) (.cons (.loc al) (.cons (.meth (.loc al) bW (.cons (.sub (.loc aR) (.int (0))) .nil)) (.cons (.loc aG) .nil))))) .nil) .nil) (.seq (.iff (.andd (.cons (.cmp .Eq (.loc br) (.str ax)) (.cons (.cmp .Eq (.call (.gv (.bi .len)) (.cons (.loc aR) .nil)) (.int (1))) .nil))) (.seq (.ret (.call (.gv (.ref 467)) (.cons (.str ax) (.cons (.int (0)) (.cons (.call (.gv (.ref 570)) (.cons (.loc al) (.cons (.sub (.loc aR) (.int (0))) (.cons (.loc aG) (.cons (.tup (.cons (.str ax) .nil)) .nil))))) .nil))))) .nil) .nil) (.seq (.iff (.andd (.cons (.cmp .Eq (.loc br) (.str av)) (.cons (.cmp .Eq (.call (.gv (.bi .len)) (.cons (.loc aR) .nil)) (.int (3))) .nil))) (.seq (.ret (.call (.gv (.ref 584)) (.cons (.loc al) (.cons (.loc aR) (.cons (.loc aG) .nil))))) .nil) .nil) (.seq (.iff (.andd (.cons (.cmp .Eq (.loc br) (.str bg)) (.cons (.cmp .Eq (.call (.gv (.bi .len)) (.cons (.loc aR) .nil)) (.int (3))) .nil))) (.seq (.ret (.call (.gv (.ref 598)) (.cons (.loc al) (.cons (.loc br) (.cons (.lst (.cons (.sub (.loc aR) (.int (0))) .nil)) (.cons (.loc aR) (.cons (.loc aG) .nil))))))) .nil) .nil) (.seq (.iff (.andd (.cons (.cmp .Eq (.loc br) (.str bc)) (.cons (.cmp .In (.call (.gv (.bi .len)) (.cons (.loc aR) .nil)) (.tup (.cons (.int (3)) (.cons (.int (4)) .nil)))) .nil))) (.seq (.asg aM (.meth (.loc al) bW (.cons (.sub (.loc aR) (.int (0))) .nil))) (.seq (.ret (.call (.gv (.ref 598)) (.cons (.loc al) (.cons (.loc br) (.cons (.ite (.call (.gv (.bi .isinst)) (.cons (.loc aM) (.cons (.gv (.typ .list)) .nil))) (.loc aM) (.lst .nil)) (.cons (.loc aR) (.cons (.loc aG) .nil))))))) .nil)) .nil) (.seq (.rse (.bin .Add (.bin .Add (.str Lv) (.loc br)) (.str Oy))) .nil)))))))
theorem nD : aU 563 [al, br, aR, aG] s563 := .of [] ([], []) ([], []) ID (fun P => by kernel_rfl) (by kernel_rfl)
theorem IE : aA 570 (aH HB.o570) (HB.dbody (HB.tst 45)) := .of 569 HB.o570 HB.o569 (fun P => by kernel_rfl) (by kernel_rfl)
theorem M0 {v0 v1 v2 v3 : V} : aV 570 [v0, v1, v2, v3] [al, ak, aG, iI] [v0, v1, v2, v3] := aV.of IE (aE.plain fun us h => by
 obtain ⟨u0, u1, u2, u3, rfl⟩ := uF h; kernel_rfl)
noncomputable def s570 : S := (.seq (.asg aB (.call (.gv (.ref 542)) (.cons (.loc al) (.cons (.loc ak) (.cons (.bin .Sub (.loc aG) (.int (1))) .nil))))) (.seq (.iff (.cmp .In (.attr (.loc aB) aq) (.loc iI)) (.seq (.rse (.bin .Add (.str Ly) (.attr (.loc aB) aq))) .nil) .nil) (.seq (.ret (.loc aB)) .nil)))
theorem M1 : aU 570 [al, ak, aG, iI] s570 := .of [] ([], []) ([], []) IE (fun P => by kernel_rfl) (by kernel_rfl)
theorem IF : aA 577 (aH HB.o577) (HB.dbody (HB.tst 46)) := .of 576 HB.o577 HB.o576 (fun P => by kernel_rfl) (by kernel_rfl)
theorem IG {v0 v1 v2 : V} : aV 577 [v0, v1, v2] [al, ci, aG] [v0, v1, v2] := aV.of IF (aE.plain fun us h => by
 obtain ⟨u0, u1, u2, rfl⟩ := jL h; kernel_rfl)
noncomputable def s577 : S := (.seq (.asg an (.ite (.call (.gv (.bi .isinst)) (.cons (.loc ci) (.cons (.gv (.ref 294)) .nil))) (.meth (.attr (.loc al) ar) n_get (.cons (.attr (.loc ci) ba) (.cons (.str tG) .nil))) .non)) (.seq (.iff (.orr (.cons (.call (.gv (.bi .isinst)) (.cons (.loc an) (.cons (.gv (.typ .bool)) .nil))) (.cons (.cmp .NotIn (.loc an) (.tup (.cons (.int (1)) (.cons (.int (3)) (.cons (.int (4)) .nil))))) .nil))) (.seq (.rse (.str OC)) .nil) .nil) (.seq (.iff (.cmp .Is (.meth (.attr (.loc al) ar) n_get (.cons (.attr (.loc ci) ba) (.cons (.str cA) .nil))) .non) (.seq (.ret (.call (.gv (.ref 467)) (.cons (.str ca) (.cons (.loc an) (.cons (.call (.gv (.ref 492)) (.cons (.loc an) .nil)) .nil))))) .nil) .nil) (.seq (.asg aJ (.call (.gv (.ref 570)) (.cons (.loc al) (.cons (.sub (.attr (.loc ci) ba) (.str cA)) (.cons (.loc aG) (.cons (.tup (.cons (.str ax) (.cons (.str av) .nil))) .nil)))))) (.seq (.iff (.cmp .NotEq (.attr (.loc aJ) an) (.loc an)) (.seq (.rse (.str OE)) .nil) .nil) (.seq (.ret (.call (.gv (.ref 467)) (.cons (.str ca) (.cons (.loc an) (.cons (.loc aJ) .nil))))) .nil))))))
theorem II : aU 577 [al, ci, aG] s577 := .of [] ([], []) ([], []) IF (fun P => by kernel_rfl) (by kernel_rfl)
theorem IJ : aA 584 (aH HB.o584) (HB.dbody (HB.tst 47)) := .of 583 HB.o584 HB.o583 (fun P => by kernel_rfl) (by kernel_rfl)
theorem M2 {v0 v1 v2 : V} : aV 584 [v0, v1, v2] [al, aR, aG] [v0, v1, v2] := aV.of IJ (aE.plain fun us h => by
 obtain ⟨u0, u1, u2, rfl⟩ := jL h; kernel_rfl)
noncomputable def s584 : S := (.seq (.asg aJ (.call (.gv (.ref 570)) (.cons (.loc al) (.cons (.sub (.loc aR) (.int (0))) (.cons (.loc aG) (.cons (.tup (.cons (.str ax) (.cons (.str av) .nil))) .nil)))))) (.seq (.asg bJ (.meth (.loc al) bW (.cons (.sub (.loc aR) (.int (1))) .nil))) (.seq (.asg aN (.meth (.loc al) bW (.cons (.sub (.loc aR) (.int (2))) .nil))) (.seq (.iff (.orr (.cons (.call (.gv (.bi .isinst)) (.cons (.loc bJ) (.cons (.gv (.typ .bool)) .nil))) (.cons (.not (.call (.gv (.bi .isinst)) (.cons (.loc bJ) (.cons (.gv (.typ .int)) .nil)))) (.cons (.not (.cmp2 .LtE .LtE (.int (0)) (.loc bJ) (.gv (.int (255))))) .nil)))) (.seq (.rse (.str OF)) .nil) .nil) (.seq (.iff (.not (.call (.gv (.bi .isinst)) (.cons (.loc aN) (.cons (.tup (.cons (.gv (.ref 273)) (.cons (.gv (.ref 294)) .nil))) .nil)))) (.seq (.rse (.str OD)) .nil) .nil) (.seq (.asg aF (.ite (.call (.gv (.bi .isinst)) (.cons (.loc aN) (.cons (.gv (.ref 273)) .nil))) (.attr (.loc aN) aF) (.call (.gv (.ref 591)) (.cons (.loc al) (.cons (.loc aN) .nil))))) (.seq (.asg eX (.bin .Mult (.bin .Add (.loc bJ) (.int (1))) (.attr (.loc aJ) an))) (.seq (.iff (.cmp .Lt (.call (.gv (.bi .len)) (.cons (.loc aF) .nil)) (.loc eX)) (.seq (.rse (.str N2)) .nil) .nil) (.seq (.ret (.call (.gv (.ref 467)) (.cons (.str av) (.cons (.int (1)) (.cons (.loc aJ) (.cons (.call (.gv (.typ .bytes)) (.cons (.slc (.loc aF) .non (.loc eX)) .nil)) (.cons (.loc bJ) .nil))))))) .nil)))))))))
theorem M3 : aU 584 [al, aR, aG] s584 := .of [] ([], []) ([], []) IJ (fun P => by kernel_rfl) (by kernel_rfl)
theorem IK : aA 591 (aH HB.o591) (HB.dbody (HB.tst 48)) := .of 590 HB.o591 HB.o590 (fun P => by kernel_rfl) (by kernel_rfl)
theorem M4 {v0 v1 : V} : aV 591 [v0, v1] [al, ci] [v0, v1] := aV.of IK (aE.plain fun us h => by
 obtain ⟨u0, u1, rfl⟩ := jK h; kernel_rfl)
noncomputable def s591 : S := (.seq (.iff (.cmp .IsNot (.attr (.loc al) bw) .non) (.seq (.ret (.meth (.loc al) bw (.cons (.attr (.loc al) ar) (.cons (.loc ci) .nil)))) .nil) .nil) (.seq (.iff (.cmp .IsNot (.meth (.attr (.loc al) ar) n_get (.cons (.attr (.loc ci) ba) (.cons (.str qA) .nil))) .non) (.seq (.rse (.str Lz)) .nil) .nil) (.seq (.ret (.attr (.loc ci) aF)) .nil)))
theorem M5 : aU 591 [al, ci] s591 := .of [] ([], []) ([], []) IK (fun P => by kernel_rfl) (by kernel_rfl)
theorem IL : aA 598 (aH HB.o598) (HB.dbody (HB.tst 49)) := .of 597 HB.o598 HB.o597 (fun P => by kernel_rfl) (by kernel_rfl)
theorem M6 {v0 v1 v2 v3 v4 : V} : aV 598 [v0, v1, v2, v3, v4] [al, br, aM, aR, aG] [v0, v1, v2, v3, v4] := aV.of IL (aE.plain fun us h => by
 obtain ⟨u0, u1, u2, u3, u4, rfl⟩ := OJ h; kernel_rfl)
noncomputable def s598 : S := (.seq (.asg aL (.lstM .nil)) (.seq (.for_ dk (.loc aM) (.seq (.asg aq (.meth (.loc al) bW (.cons (.loc dk) .nil))) (.seq (.iff (.orr (.cons (.not (.call (.gv (.bi .isinst)) (.cons (.loc aq) (.cons (.gv (.ref 251)) .nil)))) (.cons (.andd (.cons (.cmp .NotEq (.attr (.loc aq) cg) (.str dS)) (.cons (.cmp .In (.attr (.loc aq) cg) (.loc aL)) .nil))) .nil))) (.seq (.rse (.str He)) .nil) .nil) (.seq (.ex (.meth (.loc aL) bI (.cons (.attr (.loc aq) cg) .nil))) .nil)))) (.seq (.frz aL) (.seq (.iff (.not (.cmp2 .Lt .LtE (.int (0)) (.call (.gv (.bi .len)) (.cons (.loc aL) .nil)) (.gv (.int (32))))) (.seq (.rse (.str Hg)) .nil) .nil) (.seq (.asg aJ (.call (.gv (.ref 570)) (.cons (.loc al) (.cons (.sub (.loc aR) (.int (1))) (.cons (.loc aG) (.cons (.gv mq) .nil)))))) (.seq (.asg be (.meth (.loc al) bW (.cons (.sub (.loc aR) (.int (2))) .nil))) (.seq (.iff (.not (.call (.gv (.bi .isinst)) (.cons (.loc be) (.cons (.tup (.cons (.gv (.typ .dict)) (.cons (.gv (.ref 294)) .nil))) .nil)))) (.seq (.rse (.str Hf)) .nil) .nil) (.seq (.ret (.call (.gv (.ref 467)) (.cons (.loc br) (.cons (.call (.gv (.bi .len)) (.cons (.loc aL) .nil)) (.cons (.loc aJ) (.cons (.byt []) (.cons (.int (0)) (.cons (.loc be) (.cons (.call (.gv (.typ .tuple)) (.cons (.loc aL) .nil)) .nil))))))))) .nil))))))))
theorem M7 : aU 598 [al, br, aM, aR, aG] s598 := .of [aL] ([aL], []) ([aL], []) IL (fun P => by kernel_rfl) (by kernel_rfl)
theorem IM : aA 603 (aH HB.o603) (HB.dbody (HB.tst 50)) := .of 602 HB.o603 HB.o602 (fun P => by kernel_rfl) (by kernel_rfl)
theorem FQ {v0 v1 : V} : aV 603 [v0, v1] [ay, ad] [v0, v1] := aV.of IM (aE.plain fun us h => by
 obtain ⟨u0, u1, rfl⟩ := jK h; kernel_rfl)
noncomputable def s603 : S := (.seq (.iff (.orr (.cons (.cmp .NotEq (.call (.gv (.bi .len)) (.cons (.loc ad) .nil)) (.attr (.loc ay) an)) (.cons (.cmp .NotEq (.comp [] af (.loc af) (.loc ad) (.cons (.not (.call (.gv (.ref 340)) (.cons (.loc af) .nil))) .nil)) (.lst .nil)) .nil))) (.seq (.rse (.bin .Add (.call (.gv (.typ .str)) (.cons (.attr (.loc ay) an) .nil)) (.str JE))) .nil) .nil) (.seq (.iff (.cmp .Eq (.attr (.loc ay) aq) (.str av)) (.seq (.ret (.lst (.cons (.call (.gv (.ref 234)) (.cons (.meth (.call (.gv (.ref 187)) (.cons (.sub (.loc ad) (.int (0))) .nil)) fD (.cons (.int (0)) .nil)) (.cons (.int (0)) (.cons (.attr (.loc ay) bJ) .nil)))) .nil))) .nil) .nil) (.seq (.ret (.comp [] af (.call (.gv (.ref 234)) (.cons (.loc af) (.cons (.int (0)) (.cons (.int (1)) .nil)))) (.loc ad) .nil)) .nil)))
theorem FR : aU 603 [ay, ad] s603 := .of [] ([], []) ([], []) IM (fun P => by kernel_rfl) (by kernel_rfl)
theorem IN : aA 609 (aH HB.o609) (HB.dbody (HB.tst 51)) := .of 608 HB.o609 HB.o608 (fun P => by kernel_rfl) (by kernel_rfl)
noncomputable def s609 : S := (.seq (.asg aB (.loc ad)) (.seq (.asg cB (.loc ay)) (.seq (.whl (.cmp .NotIn (.attr (.loc cB) aq) (.call (.gv (.ref 478)) .nil)) (.seq (.asg aB (.call (.gv (.ref 614)) (.cons (.loc cB) (.cons (.call (.gv (.ref 603)) (.cons (.loc cB) (.cons (.loc aB) .nil))) (.cons (.loc aa) (.cons (.loc bC) .nil)))))) (.seq (.asg cB (.attr (.loc cB) aJ)) .nil))) (.seq (.ret (.call (.gv (.typ .tuple)) (.cons (.comp [aa] af (.meth (.loc af) fD (.cons (.loc aa) .nil)) (.call (.gv (.ref 626)) (.cons (.attr (.loc cB) aq) (.cons (.call (.gv (.ref 603)) (.cons (.loc cB) (.cons (.loc aB) .nil))) .nil))) .nil) .nil))) .nil))))
theorem M8 : aU 609 [ay, ad, aa, bC] s609 := .of [] ([], []) ([], []) IN (fun P => by kernel_rfl) (by kernel_rfl)
theorem IO : aA 614 (aH HB.o614) (HB.dbody (HB.tst 52)) := .of 613 HB.o614 HB.o613 (fun P => by kernel_rfl) (by kernel_rfl)
theorem su {v0 v1 v2 v3 : V} : aV 614 [v0, v1, v2, v3] [ay, ad, aa, bC] [v0, v1, v2, v3] := aV.of IO (aE.plain fun us h => by
 obtain ⟨u0, u1, u2, u3, rfl⟩ := uF h; kernel_rfl)
noncomputable def s614 : S := (.seq (.iff (.cmp .Eq (.attr (.loc ay) aq) (.str ax)) (.seq (.rse (.str OB)) .nil) .nil) (.seq (.iff (.cmp .Eq (.attr (.loc ay) aq) (.str av)) (.seq (.asg cR (.bin .Mult (.meth (.sub (.loc ad) (.int (0))) n9 .nil) (.attr (.attr (.loc ay) aJ) an))) (.seq (.ret (.comp [aa] eW (.call (.gv (.ref 206)) (.cons (.loc eW) (.cons (.int (255)) (.cons (.loc aa) .nil)))) (.slc (.attr (.loc ay) aN) (.loc cR) (.bin .Add (.loc cR) (.attr (.attr (.loc ay) aJ) an))) .nil)) .nil)) .nil) (.seq (.iff (.cmp .Eq (.attr (.loc ay) aL) (.tup .nil)) (.seq (.ret (.loc ad)) .nil) .nil) (.seq (.iff (.cmp .Is (.loc bC) .non) (.seq (.rse (.str LA)) .nil) .nil) (.seq (.ret (.call (.gv (.typ .list)) (.cons (.call (.loc bC) (.cons (.attr (.loc ay) be) (.cons (.loc ad) (.cons (.loc aa) .nil)))) .nil))) .nil)))))
theorem sv : aU 614 [ay, ad, aa, bC] s614 := .of [] ([], []) ([], []) IO (fun P => by kernel_rfl) (by kernel_rfl)
theorem IP : aA 621 (aH HB.o621) (HB.dbody (HB.tst 53)) := .of 620 HB.o621 HB.o620 (fun P => by kernel_rfl) (by kernel_rfl)
theorem M9 {v0 : V} : aV 621 [v0] [ad] [v0] := aV.of IP (aE.plain fun us h => by
 obtain ⟨u0, rfl⟩ := gU h; kernel_rfl)
noncomputable def s621 : S := (.seq (.ret (.call (.gv (.ref 234)) (.cons (.meth (.call (.gv (.ref 187)) (.cons (.int (1)) .nil)) og (.cons (.call (.gv (.ref 213)) (.cons (.loc ad) .nil)) .nil)) (.cons (.int (0)) (.cons (.int (1)) .nil))))) .nil)
theorem Na : aU 621 [ad] s621 := .of [] ([], []) ([], []) IP (fun P => by kernel_rfl) (by kernel_rfl)
theorem IQ : aA 626 (aH HB.o626) (HB.dbody (HB.tst 54)) := .of 625 HB.o626 HB.o625 (fun P => by kernel_rfl) (by kernel_rfl)
theorem Nc {v0 v1 : V} : aV 626 [v0, v1] [aq, ad] [v0, v1] := aV.of IQ (aE.plain fun us h => by
 obtain ⟨u0, u1, rfl⟩ := jK h; kernel_rfl)
noncomputable def s626 : S := (.seq (.iff (.cmp .Eq (.loc aq) (.str bZ)) (.seq (.ret (.call (.gv (.typ .list)) (.cons (.loc ad) .nil))) .nil) .nil) (.seq (.iff (.cmp .Eq (.loc aq) (.str bO)) (.seq (.ret (.lst (.cons (.sub (.loc ad) (.int (0))) (.cons (.sub (.loc ad) (.int (0))) (.cons (.sub (.loc ad) (.int (0))) .nil))))) .nil) .nil) (.seq (.ret (.comp [ad] af (.call (.gv (.ref 621)) (.cons (.lst (.cons (.loc af) (.cons (.sub (.loc ad) (.int (3))) .nil))) .nil)) (.slc (.loc ad) .non (.int (3))) .nil)) .nil)))
theorem Nd : aU 626 [aq, ad] s626 := .of [] ([], []) ([], []) IQ (fun P => by kernel_rfl) (by kernel_rfl)
theorem IR : aA 631 (aH HB.o631) (HB.dbody (HB.tst 56)) := .of 630 HB.o631 HB.o630 (fun P => by kernel_rfl) (by kernel_rfl)
theorem Nf {v0 : V} : aV 631 [v0] [n_script] [v0] := aV.of IR (aE.plain fun us h => by
 obtain ⟨u0, rfl⟩ := gU h; kernel_rfl)
noncomputable def s631 : S := (.seq (.ret (.lstM (.cons (.comp [] cT (.call (.gv (.typ .int)) (.cons (.loc cT) .nil)) (.slc (.loc n_script) .non (.int (63))) .nil) (.cons (.int (0)) (.cons (.int (0)) .nil))))) .nil)
theorem Ng : aU 631 [n_script] s631 := .of [qF] ([], []) ([], []) IR (fun P => by kernel_rfl) (by kernel_rfl)
theorem IS : aA 638 (aH HB.o638) (HB.dbody (HB.tst 57)) := .of 637 HB.o638 HB.o637 (fun P => by kernel_rfl) (by kernel_rfl)
theorem Nh {v0 v1 : V} : aV 638 [v0, v1] [ah, dG] [v0, v1] := aV.of IS (aE.plain fun us h => by
 obtain ⟨u0, u1, rfl⟩ := jK h; kernel_rfl)
noncomputable def s638 : S := (.seq (.iff (.cmp .Gt (.sub (.loc ah) (.int (2))) (.int (0))) (.seq (.asg n8 (.bin .Mod (.call (.gv (.typ .int)) (.cons (.sub (.loc ah) (.int (2))) .nil)) (.loc dG))) (.seq (.ssb (.loc ah) (.int (2)) (.bin .FloorDiv (.call (.gv (.typ .int)) (.cons (.sub (.loc ah) (.int (2))) .nil)) (.loc dG))) (.seq (.ret (.loc n8)) .nil))) .nil) (.seq (.asg a8 (.sub (.loc ah) (.int (1)))) (.seq (.ssb (.loc ah) (.int (1)) (.bin .Add (.loc a8) (.int (1)))) (.seq (.asg cT (.int (0))) (.seq (.iff (.cmp .NotEq (.sub (.loc ah) (.int (0))) (.lst .nil)) (.seq (.asg cT (.sub (.sub (.loc ah) (.int (0))) (.bin .Mod (.call (.gv (.typ .int)) (.cons (.loc a8) .nil)) (.call (.gv (.bi .len)) (.cons (.sub (.loc ah) (.int (0))) .nil))))) .nil) .nil) (.seq (.iff (.andd (.cons (.cmp .Lt (.loc a8) (.call (.gv (.bi .len)) (.cons (.sub (.loc ah) (.int (0))) .nil))) (.cons (.cmp .GtE (.call (.gv (.bi .abs)) (.cons (.loc cT) .nil)) (.bin .Pow (.int (10)) (.int (18)))) .nil))) (.seq (.asg fC (.bin .Sub (.call (.gv (.bi .abs)) (.cons (.loc cT) .nil)) (.bin .Pow (.int (10)) (.int (18))))) (.seq (.ssb (.loc ah) (.int (2)) (.bin .FloorDiv (.call (.gv (.typ .int)) (.cons (.loc fC) .nil)) (.loc dG))) (.seq (.ret (.bin .Mod (.call (.gv (.typ .int)) (.cons (.loc fC) .nil)) (.loc dG))) .nil))) .nil) (.seq (.asg bN (.bin .Mod (.call (.gv (.typ .int)) (.cons (.bin .Pow (.bin .Add (.bin .Add (.bin .Mod (.call (.gv (.typ .int)) (.cons (.loc cT) .nil)) (.int (2147483587))) (.bin .Mult (.int (70009)) (.loc a8))) (.int (6007))) (.int (5))) .nil)) (.int (2147483629)))) (.seq (.asg bN (.bin .Mod (.call (.gv (.typ .int)) (.cons (.bin .Pow (.bin .Add (.bin .Add (.bin .Mult (.loc bN) (.bin .Add (.bin .Mult (.int (2)) (.loc a8)) (.int (3011)))) (.bin .Mult (.bin .Mult (.int (701)) (.loc a8)) (.loc a8))) (.int (37))) (.int (3))) .nil)) (.int (2147483579)))) (.seq (.ret (.bin .Mod (.call (.gv (.typ .int)) (.cons (.bin .FloorDiv (.loc bN) (.int (32))) .nil)) (.loc dG))) .nil)))))))))
theorem Ni : aU 638 [ah, dG] s638 := .of [] ([], []) ([], []) IS (fun P => by kernel_rfl) (by kernel_rfl)
theorem IT : aA 645 (aH HB.o645) (HB.dbody (HB.tst 58)) := .of 644 HB.o645 HB.o644 (fun P => by kernel_rfl) (by kernel_rfl)
theorem Nj : aV 645 [] [] [] := aV.of IT (aE.plain fun us h => by
 obtain rfl := LY h; kernel_rfl)
noncomputable def s645 : S := (.seq (.ret (.dct [bO, bZ, b9] (.cons (.int (1)) (.cons (.int (3)) (.cons (.int (4)) .nil))))) .nil)
theorem Nk : aU 645 [] s645 := .of [] ([], []) ([], []) IT (fun P => by kernel_rfl) (by kernel_rfl)
theorem IU : aA 652 (aH HB.o652) (HB.dbody (HB.tst 59)) := .of 651 HB.o652 HB.o651 (fun P => by kernel_rfl) (by kernel_rfl)
theorem Nl {v0 : V} : aV 652 [v0] [ah] [v0] := aV.of IU (aE.plain fun us h => by
 obtain ⟨u0, rfl⟩ := gU h; kernel_rfl)
noncomputable def s652 : S := (.seq (.ret (.tup (.cons (.str gq) (.cons (.sub (.lst (.cons (.str bO) (.cons (.str bZ) (.cons (.str b9) .nil)))) (.call (.gv (.ref 638)) (.cons (.loc ah) (.cons (.int (3)) .nil)))) .nil)))) .nil)
theorem Nn : aU 652 [ah] s652 := .of [] ([], []) ([], []) IU (fun P => by kernel_rfl) (by kernel_rfl)
theorem IV : aA 659 (aH HB.o659) (HB.dbody (HB.tst 60)) := .of 658 HB.o659 HB.o658 (fun P => by kernel_rfl) (by kernel_rfl)
theorem No {v0 : V} : aV 659 [v0] [am] [v0] := aV.of IV (aE.plain fun us h => by
 obtain ⟨u0, rfl⟩ := gU h; kernel_rfl)
noncomputable def s659 : S := (.seq (.iff (.cmp .Eq (.sub (.loc am) (.int (0))) (.str gq)) (.seq (.ret (.sub (.call (.gv (.ref 645)) .nil) (.sub (.loc am) (.int (1))))) .nil) .nil) (.seq (.iff (.cmp .Eq (.sub (.loc am) (.int (0))) (.str n7)) (.seq (.ret (.ite (.cmp .Eq (.sub (.loc am) (.int (1))) (.str fB)) (.int (1)) (.int (3)))) .nil) .nil) (.seq (.iff (.cmp .Eq (.sub (.loc am) (.int (0))) (.str dl)) (.seq (.ret (.sub (.loc am) (.int (1)))) .nil) .nil) (.seq (.iff (.cmp .Eq (.sub (.loc am) (.int (0))) (.str aL)) (.seq (.ret (.call (.gv (.bi .len)) (.cons (.sub (.loc am) (.int (1))) .nil))) .nil) .nil) (.seq (.ret (.ite (.cmp .Eq (.sub (.loc am) (.int (0))) (.str cH)) (.int (1)) (.int (0)))) .nil)))))
theorem Np : aU 659 [am] s659 := .of [] ([], []) ([], []) IV (fun P => by kernel_rfl) (by kernel_rfl)
theorem IW : aA 666 (aH HB.o666) (HB.dbody (HB.tst 61)) := .of 665 HB.o666 HB.o665 (fun P => by kernel_rfl) (by kernel_rfl)
theorem IX {v0 v1 : V} : aV 666 [v0, v1] [ah, aG] [v0, v1] := aV.of IW (aE.plain fun us h => by
 obtain ⟨u0, u1, rfl⟩ := jK h; kernel_rfl)
noncomputable def s666 : S := (.seq (.asg fQ (.call (.gv (.ref 638)) (.cons (.loc ah) (.cons (.ite (.cmp .Gt (.loc aG) (.int (0))) (.int (4)) (.int (2))) .nil)))) (.seq (.iff (.cmp .Eq (.loc fQ) (.int (0))) (.seq (.ret (.call (.gv (.ref 652)) (.cons (.loc ah) .nil))) .nil) .nil) (.seq (.iff (.cmp .Eq (.loc fQ) (.int (1))) (.seq (.ret (.tup (.cons (.str n7) (.cons (.sub (.lst (.cons (.str fB) (.cons (.str iH) .nil))) (.call (.gv (.ref 638)) (.cons (.loc ah) (.cons (.int (2)) .nil)))) .nil)))) .nil) .nil) (.seq (.iff (.cmp .Eq (.loc fQ) (.int (2))) (.seq (.ret (.tup (.cons (.str dl) (.cons (.sub (.lst (.cons (.int (1)) (.cons (.int (3)) (.cons (.int (4)) .nil)))) (.call (.gv (.ref 638)) (.cons (.loc ah) (.cons (.int (3)) .nil)))) (.cons .non .nil))))) .nil) .nil) (.seq (.asg aJ (.call (.gv (.ref 666)) (.cons (.loc ah) (.cons (.bin .Sub (.loc aG) (.int (1))) .nil)))) (.seq (.ret (.tup (.cons (.str dl) (.cons (.call (.gv (.ref 659)) (.cons (.loc aJ) .nil)) (.cons (.loc aJ) .nil))))) .nil))))))
theorem IY : aU 666 [ah, aG] s666 := .of [] ([], []) ([], []) IW (fun P => by kernel_rfl) (by kernel_rfl)
theorem IZ : aA 671 (aH HB.o671) (HB.dbody (HB.tst 62)) := .of 670 HB.o671 HB.o670 (fun P => by kernel_rfl) (by kernel_rfl)
theorem Nq {v0 v1 : V} : aV 671 [v0, v1] [ah, aG] [v0, v1] := aV.of IZ (aE.plain fun us h => by
 obtain ⟨u0, u1, rfl⟩ := jK h; kernel_rfl)
noncomputable def s671 : S := (.seq (.asg aM (.lstM (.cons (.sub (.lst (.cons (.str kO) (.cons (.str ng) (.cons (.str dS) (.cons (.str qy) .nil))))) (.call (.gv (.ref 638)) (.cons (.loc ah) (.cons (.int (4)) .nil)))) .nil))) (.seq (.for_ af (.call (.gv (.typ .range)) (.cons (.call (.gv (.ref 638)) (.cons (.loc ah) (.cons (.int (3)) .nil))) .nil)) (.seq (.ex (.meth (.loc aM) bI (.cons (.sub (.lst (.cons (.str dS) (.cons (.bin .Add (.str lO) (.call (.gv (.typ .str)) (.cons (.loc af) .nil))) .nil))) (.call (.gv (.ref 638)) (.cons (.loc ah) (.cons (.int (2)) .nil)))) .nil))) .nil)) (.seq (.frz aM) (.seq (.asg aJ (.call (.gv (.ref 666)) (.cons (.loc ah) (.cons (.loc aG) .nil)))) (.seq (.ret (.tup (.cons (.str aL) (.cons (.call (.gv (.typ .tuple)) (.cons (.loc aM) .nil)) (.cons (.loc aJ) (.cons (.comp [ah] a8 (.call (.gv (.ref 638)) (.cons (.loc ah) (.cons (.int (12)) .nil))) (.call (.gv (.typ .range)) (.cons (.int (4)) .nil)) .nil) (.cons (.orr (.cons (.cmp .Gt (.call (.gv (.bi .len)) (.cons (.loc aM) .nil)) (.int (1))) (.cons (.cmp .Eq (.call (.gv (.ref 638)) (.cons (.loc ah) (.cons (.int (2)) .nil))) (.int (1))) .nil))) .nil))))))) .nil)))))
theorem Nr : aU 671 [ah, aG] s671 := .of [aM] ([aM], []) ([aM], []) IZ (fun P => by kernel_rfl) (by kernel_rfl)
theorem I0 : aA 676 (aH HB.o676) (HB.dbody (HB.tst 63)) := .of 675 HB.o676 HB.o675 (fun P => by kernel_rfl) (by kernel_rfl)
theorem Nt {v0 : V} : aV 676 [v0] [ah] [v0] := aV.of I0 (aE.plain fun us h => by
 obtain ⟨u0, rfl⟩ := gU h; kernel_rfl)
noncomputable def s676 : S := (.seq (.asg fQ (.call (.gv (.ref 638)) (.cons (.loc ah) (.cons (.int (4)) .nil)))) (.seq (.iff (.cmp .Eq (.loc fQ) (.int (0))) (.seq (.ret (.call (.gv (.ref 666)) (.cons (.loc ah) (.cons (.int (2)) .nil)))) .nil) .nil) (.seq (.iff (.cmp .Eq (.loc fQ) (.int (1))) (.seq (.ret (.call (.gv (.ref 671)) (.cons (.loc ah) (.cons (.int (1)) .nil)))) .nil) .nil) (.seq (.asg aJ (.ite (.cmp .Eq (.call (.gv (.ref 638)) (.cons (.loc ah) (.cons (.int (2)) .nil))) (.int (0))) (.call (.gv (.ref 671)) (.cons (.loc ah) (.cons (.int (1)) .nil))) (.call (.gv (.ref 666)) (.cons (.loc ah) (.cons (.int (1)) .nil))))) (.seq (.iff (.cmp .Eq (.loc fQ) (.int (2))) (.seq (.asg bJ (.sub (.lst (.cons (.int (0)) (.cons (.int (1)) (.cons (.int (2)) (.cons (.int (5)) .nil))))) (.call (.gv (.ref 638)) (.cons (.loc ah) (.cons (.int (4)) .nil))))) (.seq (.asg aF (.call (.gv (.typ .bytes)) (.cons (.comp [ah] a8 (.call (.gv (.ref 638)) (.cons (.loc ah) (.cons (.int (256)) .nil))) (.call (.gv (.typ .range)) (.cons (.bin .Add (.bin .Mult (.bin .Add (.loc bJ) (.int (1))) (.call (.gv (.ref 659)) (.cons (.loc aJ) .nil))) (.call (.gv (.ref 638)) (.cons (.loc ah) (.cons (.int (2)) .nil)))) .nil)) .nil) .nil))) (.seq (.ret (.tup (.cons (.str cH) (.cons (.loc aJ) (.cons (.loc bJ) (.cons (.loc aF) .nil)))))) .nil))) .nil) (.seq (.ret (.tup (.cons (.str cW) (.cons (.ite (.cmp .Eq (.call (.gv (.ref 638)) (.cons (.loc ah) (.cons (.int (2)) .nil))) (.int (0))) (.loc aJ) .non) .nil)))) .nil))))))
theorem Nv : aU 676 [ah] s676 := .of [] ([], []) ([], []) I0 (fun P => by kernel_rfl) (by kernel_rfl)
theorem I1 : aA 683 (aH HB.o683) (HB.dbody (HB.tst 64)) := .of 682 HB.o683 HB.o682 (fun P => by kernel_rfl) (by kernel_rfl)
theorem Nw {v0 v1 v2 : V} : aV 683 [v0, v1, v2] [ah, ar, ak] [v0, v1, v2] := aV.of I1 (aE.plain fun us h => by
 obtain ⟨u0, u1, u2, rfl⟩ := jL h; kernel_rfl)
noncomputable def s683 : S := (.seq (.ret (.ite (.cmp .Eq (.call (.gv (.ref 638)) (.cons (.loc ah) (.cons (.int (3)) .nil))) (.int (0))) (.meth (.loc ar) qB (.cons (.loc ak) .nil)) (.loc ak))) .nil)
theorem Nx : aU 683 [ah, ar, ak] s683 := .of [] ([], []) ([], []) I1 (fun P => by kernel_rfl) (by kernel_rfl)
theorem I2 : aA 688 (aH HB.o688) (HB.dbody (HB.tst 65)) := .of 687 HB.o688 HB.o687 (fun P => by kernel_rfl) (by kernel_rfl)
theorem nE {v0 v1 v2 : V} : aV 688 [v0, v1, v2] [ah, ar, am] [v0, v1, v2] := aV.of I2 (aE.plain fun us h => by
 obtain ⟨u0, u1, u2, rfl⟩ := jL h; kernel_rfl)
noncomputable def s688 : S := (.seq (.asg aB (.lst .nil)) (.seq (.iff (.cmp .Eq (.sub (.loc am) (.int (0))) (.str gq)) (.seq (.asg aB (.ite (.cmp .Eq (.call (.gv (.ref 638)) (.cons (.loc ah) (.cons (.int (2)) .nil))) (.int (0))) (.call (.gv (.ref 251)) (.cons (.sub (.loc am) (.int (1))) .nil)) (.lstM (.cons (.call (.gv (.ref 683)) (.cons (.loc ah) (.cons (.loc ar) (.cons (.call (.gv (.ref 251)) (.cons (.sub (.loc am) (.int (1))) .nil)) .nil)))) .nil)))) .nil) (.seq (.iff (.cmp .Eq (.sub (.loc am) (.int (0))) (.str n7)) (.seq (.asg aB (.lstM (.cons (.call (.gv (.ref 251)) (.cons (.sub (.loc am) (.int (1))) .nil)) (.cons (.call (.gv (.ref 683)) (.cons (.loc ah) (.cons (.loc ar) (.cons (.dct [kQ] (.cons (.lst (.cons (.int (1)) (.cons (.int (1)) (.cons (.int (1)) .nil)))) .nil)) .nil)))) .nil)))) .nil) (.seq (.iff (.cmp .Eq (.sub (.loc am) (.int (0))) (.str dl)) (.seq (.asg ba (.dctM [tG] (.cons (.call (.gv (.ref 683)) (.cons (.loc ah) (.cons (.loc ar) (.cons (.sub (.loc am) (.int (1))) .nil)))) .nil))) (.seq (.iff (.cmp .IsNot (.sub (.loc am) (.int (2))) .non) (.seq (.ssb (.loc ba) (.str cA) (.call (.gv (.ref 688)) (.cons (.loc ah) (.cons (.loc ar) (.cons (.sub (.loc am) (.int (2))) .nil))))) .nil) .nil) (.seq (.frz ba) (.seq (.asg aB (.lstM (.cons (.call (.gv (.ref 251)) (.cons (.str ca) .nil)) (.cons (.meth (.loc ar) qB (.cons (.call (.gv (.ref 294)) (.cons (.loc ba) (.cons (.byt [112, 114, 111, 102, 105, 108, 101]) .nil))) .nil)) .nil)))) .nil)))) (.seq (.iff (.cmp .Eq (.sub (.loc am) (.int (0))) (.str cH)) (.seq (.asg aN (.ite (.cmp .Eq (.call (.gv (.ref 638)) (.cons (.loc ah) (.cons (.int (2)) .nil))) (.int (0))) (.call (.gv (.ref 294)) (.cons (.dct [] .nil) (.cons (.sub (.loc am) (.int (3))) .nil))) (.call (.gv (.ref 273)) (.cons (.sub (.loc am) (.int (3))) .nil)))) (.seq (.asg aB (.lstM (.cons (.call (.gv (.ref 251)) (.cons (.str av) .nil)) (.cons (.call (.gv (.ref 688)) (.cons (.loc ah) (.cons (.loc ar) (.cons (.sub (.loc am) (.int (1))) .nil)))) (.cons (.call (.gv (.ref 683)) (.cons (.loc ah) (.cons (.loc ar) (.cons (.sub (.loc am) (.int (2))) .nil)))) (.cons (.call (.gv (.ref 683)) (.cons (.loc ah) (.cons (.loc ar) (.cons (.loc aN) .nil)))) .nil)))))) .nil)) (.seq (.iff (.cmp .Eq (.sub (.loc am) (.int (0))) (.str aL)) (.seq (.asg be (.call (.gv (.ref 683)) (.cons (.loc ah) (.cons (.loc ar) (.cons (.dct [eU, GN] (.cons (.int (2)) (.cons (.sub (.loc am) (.int (3))) .nil))) .nil))))) (.seq (.asg aM (.call (.gv (.ref 683)) (.cons (.loc ah) (.cons (.loc ar) (.cons (.comp [ah, ar] aq (.call (.gv (.ref 683)) (.cons (.loc ah) (.cons (.loc ar) (.cons (.call (.gv (.ref 251)) (.cons (.loc aq) .nil)) .nil)))) (.sub (.loc am) (.int (1))) .nil) .nil))))) (.seq (.unp [br, cR] (.ite (.sub (.loc am) (.int (4))) (.tup (.cons (.str bc) (.cons (.loc aM) .nil))) (.tup (.cons (.str bg) (.cons (.call (.gv (.ref 251)) (.cons (.sub (.sub (.loc am) (.int (1))) (.int (0))) .nil)) .nil))))) (.seq (.asg aB (.lstM (.cons (.call (.gv (.ref 251)) (.cons (.loc br) .nil)) (.cons (.loc cR) (.cons (.call (.gv (.ref 688)) (.cons (.loc ah) (.cons (.loc ar) (.cons (.sub (.loc am) (.int (2))) .nil)))) (.cons (.loc be) .nil)))))) (.seq (.iff (.andd (.cons (.sub (.loc am) (.int (4))) (.cons (.cmp .Eq (.call (.gv (.ref 638)) (.cons (.loc ah) (.cons (.int (2)) .nil))) (.int (0))) .nil))) (.seq (.ex (.meth (.loc aB) bI (.cons (.dct [jY] (.cons (.call (.gv (.ref 251)) (.cons (.str bc) .nil)) .nil)) .nil))) .nil) .nil) (.seq (.frz ba) .nil)))))) (.seq (.iff (.cmp .Is (.sub (.loc am) (.int (1))) .non) (.seq (.asg aB (.ite (.cmp .Eq (.call (.gv (.ref 638)) (.cons (.loc ah) (.cons (.int (2)) .nil))) (.int (0))) (.lstM (.cons (.call (.gv (.ref 251)) (.cons (.str ax) .nil)) .nil)) (.call (.gv (.ref 251)) (.cons (.str ax) .nil)))) .nil) (.seq (.asg aB (.lstM (.cons (.call (.gv (.ref 251)) (.cons (.str ax) .nil)) (.cons (.call (.gv (.ref 688)) (.cons (.loc ah) (.cons (.loc ar) (.cons (.sub (.loc am) (.int (1))) .nil)))) .nil)))) .nil)) (.seq (.frz ba) .nil))) (.seq (.frz ba) .nil))) (.seq (.frz ba) .nil))) (.seq (.frz ba) .nil))) (.seq (.frz ba) .nil))) (.seq (.frz aB) (.seq (.ret (.call (.gv (.ref 683)) (.cons (.loc ah) (.cons (.loc ar) (.cons (.loc aB) .nil))))) .nil))))
theorem nF : aU 688 [ah, ar, am] s688 := .of [aB, ba] ([], [ba]) ([], [aB]) I2 (fun P => by kernel_rfl) (by kernel_rfl)
theorem I3 : aA 695 (aH HB.o695) (HB.dbody (HB.tst 66)) := .of 694 HB.o695 HB.o694 (fun P => by kernel_rfl) (by kernel_rfl)
theorem Ny {v0 v1 : V} : aV 695 [v0, v1] [aD, cQ] [v0, v1] := aV.of I3 (aE.plain fun us h => by
 obtain ⟨u0, u1, rfl⟩ := jK h; kernel_rfl)
noncomputable def s695 : S := (.seq (.ret (.bin .FloorDiv (.bin .Add (.bin .Mult (.int (2)) (.loc aD)) (.loc cQ)) (.bin .Mult (.int (2)) (.loc cQ)))) .nil)
theorem Nz : aU 695 [aD, cQ] s695 := .of [] ([], []) ([], []) I3 (fun P => by kernel_rfl) (by kernel_rfl)
theorem I4 : aA 700 (aH HB.o700) (HB.dbody (HB.tst 67)) := .of 699 HB.o700 HB.o699 (fun P => by kernel_rfl) (by kernel_rfl)
theorem NA {v0 v1 v2 : V} : aV 700 [v0, v1, v2] [cI, ad, an] [v0, v1, v2] := aV.of I4 (aE.plain fun us h => by
 obtain ⟨u0, u1, u2, rfl⟩ := jL h; kernel_rfl)
noncomputable def s700 : S := (.seq (.ret (.comp [ad, cI] c8 (.call (.gv (.bi .sum)) (.cons (.comp [ad, c8, cI] a8 (.bin .Mult (.sub (.loc ad) (.loc a8)) (.sub (.loc cI) (.bin .Mod (.bin .Add (.loc a8) (.loc c8)) (.int (4))))) (.call (.gv (.typ .range)) (.cons (.call (.gv (.bi .len)) (.cons (.loc ad) .nil)) .nil)) .nil) .nil)) (.call (.gv (.typ .range)) (.cons (.loc an) .nil)) .nil)) .nil)
theorem NB : aU 700 [cI, ad, an] s700 := .of [] ([], []) ([], []) I4 (fun P => by kernel_rfl) (by kernel_rfl)
theorem I5 : aA 705 (aH HB.o705) (HB.dbody (HB.tst 68)) := .of 704 HB.o705 HB.o704 (fun P => by kernel_rfl) (by kernel_rfl)
theorem NC {v0 v1 : V} : aV 705 [v0, v1] [bK, aW] [v0, v1] := aV.of I5 (aE.plain fun us h => by
 obtain ⟨u0, u1, rfl⟩ := jK h; kernel_rfl)
noncomputable def s705 : S := (.seq (.ret (.comp [aW] af (.call (.gv (.bi .min)) (.cons (.call (.gv (.bi .max)) (.cons (.loc af) (.cons (.int (0)) .nil))) (.cons (.bin .Pow (.int (10)) (.loc aW)) .nil))) (.loc bK) .nil)) .nil)
theorem ND : aU 705 [bK, aW] s705 := .of [] ([], []) ([], []) I5 (fun P => by kernel_rfl) (by kernel_rfl)
theorem I6 : aA 712 (aH HB.o712) (HB.dbody (HB.tst 69)) := .of 711 HB.o712 HB.o711 (fun P => by kernel_rfl) (by kernel_rfl)
theorem NE {v0 v1 : V} : aV 712 [v0, v1] [am, aD] [v0, v1] := aV.of I6 (aE.plain fun us h => by
 obtain ⟨u0, u1, rfl⟩ := jK h; kernel_rfl)
noncomputable def s712 : S := (.seq (.asg qD (.bin .Mult (.call (.gv (.ref 695)) (.cons (.call (.gv (.bi .abs)) (.cons (.loc aD) .nil)) (.cons (.int (100)) .nil))) (.ite (.cmp .GtE (.loc aD) (.int (0))) (.int (1)) (.neg (.int (1)))))) (.seq (.ret (.call (.gv (.bi .min)) (.cons (.call (.gv (.bi .max)) (.cons (.loc qD) (.cons (.int (0)) .nil))) (.cons (.sub (.loc am) (.int (2))) .nil)))) .nil))
theorem NF : aU 712 [am, aD] s712 := .of [] ([], []) ([], []) I6 (fun P => by kernel_rfl) (by kernel_rfl)
theorem I7 : aA 717 (aH HB.o717) (HB.dbody (HB.tst 70)) := .of 716 HB.o717 HB.o716 (fun P => by kernel_rfl) (by kernel_rfl)
theorem pU {v0 v1 v2 v3 : V} : aV 717 [v0, v1, v2, v3] [am, bK, aW, aa] [v0, v1, v2, v3] := aV.of I7 (aE.plain fun us h => by
 obtain ⟨u0, u1, u2, u3, rfl⟩ := uF h; kernel_rfl)
noncomputable def s717 : S := (.seq (.iff (.cmp .Eq (.sub (.loc am) (.int (0))) (.str cH)) (.seq (.asg cR (.bin .Mult (.call (.gv (.ref 712)) (.cons (.loc am) (.cons (.sub (.loc bK) (.int (0))) .nil))) (.call (.gv (.ref 659)) (.cons (.sub (.loc am) (.int (1))) .nil)))) (.seq (.asg aF (.slc (.sub (.loc am) (.int (3))) (.loc cR) (.bin .Add (.loc cR) (.call (.gv (.ref 659)) (.cons (.sub (.loc am) (.int (1))) .nil))))) (.seq (.ret (.call (.gv (.ref 717)) (.cons (.sub (.loc am) (.int (1))) (.cons (.comp [aa] eW (.call (.gv (.ref 695)) (.cons (.bin .Mult (.loc eW) (.bin .Pow (.int (10)) (.loc aa))) (.cons (.int (255)) .nil))) (.loc aF) .nil) (.cons (.loc aa) (.cons (.loc aa) .nil)))))) .nil))) .nil) (.seq (.asg bK (.call (.gv (.ref 705)) (.cons (.loc bK) (.cons (.loc aW) .nil)))) (.seq (.iff (.cmp .Eq (.sub (.loc am) (.int (0))) (.str aL)) (.seq (.ret (.call (.gv (.ref 717)) (.cons (.sub (.loc am) (.int (2))) (.cons (.call (.gv (.ref 700)) (.cons (.sub (.loc am) (.int (3))) (.cons (.loc bK) (.cons (.call (.gv (.ref 659)) (.cons (.sub (.loc am) (.int (2))) .nil)) .nil)))) (.cons (.bin .Add (.loc aW) (.int (1))) (.cons (.loc aa) .nil)))))) .nil) .nil) (.seq (.iff (.andd (.cons (.cmp .Eq (.sub (.loc am) (.int (0))) (.str dl)) (.cons (.cmp .IsNot (.sub (.loc am) (.int (2))) .non) .nil))) (.seq (.ret (.call (.gv (.ref 717)) (.cons (.sub (.loc am) (.int (2))) (.cons (.loc bK) (.cons (.loc aW) (.cons (.loc aa) .nil)))))) .nil) .nil) (.seq (.iff (.cmp .Eq (.call (.gv (.bi .len)) (.cons (.loc bK) .nil)) (.int (4))) (.seq (.asg bK (.comp [bK, aW] af (.call (.gv (.bi .max)) (.cons (.bin .Sub (.bin .Sub (.bin .Pow (.int (10)) (.loc aW)) (.loc af)) (.sub (.loc bK) (.int (3)))) (.cons (.int (0)) .nil))) (.slc (.loc bK) .non (.int (3))) .nil)) .nil) .nil) (.seq (.iff (.cmp .Eq (.call (.gv (.bi .len)) (.cons (.loc bK) .nil)) (.int (1))) (.seq (.asg bK (.bin .Mult (.loc bK) (.int (3)))) .nil) .nil) (.seq (.ret (.comp [aa, aW] af (.call (.gv (.ref 695)) (.cons (.bin .Mult (.loc af) (.bin .Pow (.int (10)) (.loc aa))) (.cons (.bin .Pow (.int (10)) (.loc aW)) .nil))) (.loc bK) .nil)) .nil)))))))
theorem pV : aU 717 [am, bK, aW, aa] s717 := .of [] ([], []) ([], []) I7 (fun P => by kernel_rfl) (by kernel_rfl)
theorem I8 : aA 724 (aH HB.o724) (HB.dbody (HB.tst 71)) := .of 723 HB.o724 HB.o723 (fun P => by kernel_rfl) (by kernel_rfl)
theorem NG {v0 v1 : V} : aV 724 [v0, v1] [eG, aW] [v0, v1] := aV.of I8 (aE.plain fun us h => by
 obtain ⟨u0, u1, rfl⟩ := jK h; kernel_rfl)
noncomputable def s724 : S := (.seq (.whl (.andd (.cons (.cmp .Gt (.loc aW) (.int (0))) (.cons (.cmp .Eq (.bin .Mod (.loc eG) (.int (10))) (.int (0))) .nil))) (.seq (.asg eG (.bin .FloorDiv (.loc eG) (.int (10)))) (.seq (.asg aW (.bin .Sub (.loc aW) (.int (1)))) .nil))) (.seq (.ret (.tup (.cons (.loc eG) (.cons (.loc aW) .nil)))) .nil))
theorem NH : aU 724 [eG, aW] s724 := .of [] ([], []) ([], []) I8 (fun P => by kernel_rfl) (by kernel_rfl)
theorem I9 : aA 729 (aH HB.o729) (HB.dbody (HB.tst 72)) := .of 728 HB.o729 HB.o728 (fun P => by kernel_rfl) (by kernel_rfl)
theorem NI {v0 v1 v2 : V} : aV 729 [v0, v1, v2] [be, ad, aa] [v0, v1, v2] := aV.of I9 (aE.plain fun us h => by
 obtain ⟨u0, u1, u2, rfl⟩ := jL h; kernel_rfl)
noncomputable def s729 : S := (.seq (.asg cI (.sub (.loc be) (.str GN))) (.seq (.asg qG (.comp [ad, cI] c8 (.comp2 [c8, cI] a8 af (.meth (.loc af) oh (.cons (.call (.gv (.ref 155)) (.cons (.sub (.loc cI) (.bin .Mod (.bin .Add (.loc a8) (.loc c8)) (.int (4)))) (.cons (.int (1)) .nil))) .nil)) (.loc ad)) (.call (.gv (.typ .range)) (.cons (.sub (.loc be) (.str Ls)) .nil)) .nil)) (.seq (.ret (.ite (.cmp .GtE (.loc aa) (.int (0))) (.comp [] bK (.call (.gv (.ref 213)) (.cons (.loc bK) .nil)) (.loc qG) .nil) (.lst .nil))) .nil)))
theorem NJ : aU 729 [be, ad, aa] s729 := .of [] ([], []) ([], []) I9 (fun P => by kernel_rfl) (by kernel_rfl)
theorem Ja : aA 736 (aH HB.o736) (HB.dbody (HB.tst 73)) := .of 735 HB.o736 HB.o735 (fun P => by kernel_rfl) (by kernel_rfl)
theorem NK {v0 : V} : aV 736 [v0] [am] [v0] := aV.of Ja (aE.plain fun us h => by
 obtain ⟨u0, rfl⟩ := gU h; kernel_rfl)
noncomputable def s736 : S := (.seq (.iff (.andd (.cons (.cmp .Eq (.sub (.loc am) (.int (0))) (.str cH)) (.cons (.cmp .Eq (.sub (.sub (.loc am) (.int (1))) (.int (0))) (.str aL)) .nil))) (.seq (.ret (.sub (.loc am) (.int (1)))) .nil) .nil) (.seq (.ret (.loc am)) .nil))
theorem NL : aU 736 [am] s736 := .of [] ([], []) ([], []) Ja (fun P => by kernel_rfl) (by kernel_rfl)
theorem Jb : aA 743 (aH HB.o743) (HB.dbody (HB.tst 74)) := .of 742 HB.o743 HB.o742 (fun P => by kernel_rfl) (by kernel_rfl)
theorem NM {v0 v1 v2 : V} : aV 743 [v0, v1, v2] [ay, ad, bC] [v0, v1, v2] := aV.of Jb (aE.plain fun us h => by
 obtain ⟨u0, u1, u2, rfl⟩ := jL h; kernel_rfl)
noncomputable def s743 : S := (.seq (.asg kR (.int (0))) (.seq (.tri (.seq (.ex (.call (.gv (.ref 609)) (.cons (.loc ay) (.cons (.loc ad) (.cons (.int (2)) (.cons (.loc bC) .nil)))))) .nil) kR (1)) (.seq (.ret (.cmp .Eq (.loc kR) (.int (1)))) .nil)))
theorem NN : aU 743 [ay, ad, bC] s743 := .of [] ([], []) ([], []) Jb (fun P => by kernel_rfl) (by kernel_rfl)
theorem uJ (P : Params) : findCls (HB.KF P) (.type "Exception") (.type "type") "__init__" = some (.val (.builtin "Exception.__init__")) := by kernel_rfl
theorem sw (self : Value) : refuseLoop self "__setattr__" [.type "Exception", .type "BaseException", .type "object"] = pure () := by kernel_rfl
theorem OQ : HB.o59 = excClassObj "PaintFault" "PaintFault" 59 58 [.ref 46] [.ref 46, .type "Exception", .type "BaseException", .type "object"] true [] [] false none none (some (.ref 50)) none (some (.str "PaintFault" 236)) (some (.str "PaintFault" 244)) (some (.bool true)) "Exception.__new__" := by rfl
theorem mw {K : Frag} {h : Heap} (X : K.In h) (e : K.lookup 59 = some HB.o59) : h.get? 59 = some (excClassObj "PaintFault" "PaintFault" 59 58 [.ref 46] [.ref 46, .type "Exception", .type "BaseException", .type "object"] true [] [] false none none (some (.ref 50)) none (some (.str "PaintFault" 236)) (some (.str "PaintFault" 244)) (some (.bool true)) "Exception.__new__") := OQ ▸ X 59 HB.o59 e
theorem fj (P : Params) : (HB.KF P).lookup 59 = some HB.o59 := by kernel_rfl
noncomputable abbrev mro59 : List Value := [.ref 59, .ref 46, .type "Exception", .type "BaseException", .type "object"]
theorem vZ : mro59.contains (.type "Exception") = true := by decide +kernel
theorem FS : mro59.contains (.type "BaseException") = true := by decide +kernel
theorem FT : mro59.contains (.type "AttributeError") = false := by decide +kernel
theorem FU : mro59.contains (.type "NameError") = false := by decide +kernel
theorem FV : mro59.contains (.ref 59) = true := by decide +kernel
noncomputable abbrev cz (t : Value) : Obj := { cls := .ref 59, data := .fields #[t, .none, .none, .none, .bool false, .none] }
section
variable {prog : Program} {w : World} {A : Around} {E : Value → Shared → Prop} {h : Heap} {g : Array GenState} {d : Drawn} {t : Nat} {os : OsState} {P : Params}
theorem lt {M : Model} {e : Addr} {oe : Obj} {rest : List Value} {Q : Unit → Shared → Prop} (X : (HB.KF P).In h) (he : h.get? e = some oe) (hcls : oe.cls = .ref 59) (hq : Q () ⟨h, g, d, t, os⟩) :
  wpAny M A (checkBuiltinCall "Exception.__init__" ⟨.ref e :: rest, []⟩) Q E ⟨h, g, d, t, os⟩ := by
 have F := PySem.F.excBase_Exception
 have hC := mw X (fj P)
 have hcB := vZ
 have hshort := F.noStar
 simp only [checkBuiltinCall, F.initKind, F.initSplit, F.initRow]
 repeat (first | (with_reducible refine wpAny_loadPart_at he ?_; rw [hcls]) | with_reducible refine wpAny_loadPart_at hC ?_ | (with_reducible refine wpAny_isSubtype_exc hC ?_; rw [hcB]) | wp_step)
 refine wpAny_onRaise ?_
 rw [show ∀ (a b : String) (n : Nat), Bind.check ⟨.positional, "*", "Exception", .self, [⟨"args", .varPos, false⟩]⟩ a b n (List.map (fun x => x.fst) ({ pos := Value.ref e :: rest } : Args).kw) = pure () from
  fun a b n => check_star_args _ _ _ _ _ _]
 exact wpAny_pure hq
theorem FW {e ta : Addr} {u : Value} {Q : Value → Shared → Prop} (X : (HB.KF P).In h) (he : h.get? e = some (cz (.ref ta)))
  (hq : ∀ h', (∀ b o, b ≠ e → h.get? b = some o → h'.get? b = some o) → h'.get? e = some (cz (.ref h.objs.size)) → Q .none ⟨h', g, d, t, os⟩) :
  wpAny (model prog w) A (call (.builtin "Exception.__init__") [.ref e, u]) Q E ⟨h, g, d, t, os⟩ := by
 have F := PySem.F.excBase_Exception
 refine wpAny_call (codeAny_call_builtin F.init.plain F.initEntry (lt X he rfl ?_))
 wp_walk
 refine hq _ (fun b o hb e => ?_) ?_
 ·rw [Heap.get?_update_other _ _ (Ne.symm hb)]; exact Heap.get?_push_of_some _ e
 ·rw [Heap.get?_update_self _ (Heap.get?_push_of_some _ he) rfl]; rfl
theorem my {M : Model} {rest : List Value} {Q : Unit → Shared → Prop} (X : (HB.KF P).In h) (hq : Q () ⟨h, g, d, t, os⟩) : wpAny M A (checkBuiltinCall "Exception.__new__" ⟨.ref 59 :: rest, []⟩) Q E ⟨h, g, d, t, os⟩ :=
 wpAny_check_new_subU PySem.F.excBase_Exception (bmB := [.ref 46, .type "Exception", .type "BaseException", .type "object"]) (by decide +kernel) .base (mw X (fj P)) hq
theorem Jc {rest : List Value} {R : Result → Shared → Prop} (X : (HB.KF P).In h)
  (hq : R (.ok (.ret (.ref (h.objs.size + 1)))) ⟨(h.push { cls := .type "tuple", data := .seq rest.toArray }).push (cz (.ref h.objs.size)), g, d, t, os⟩) (hrest : rest.length ≤ sizeLine) :
  codeAny (model prog w) A (.builtin "Exception.__new__" ⟨.ref 59 :: rest, []⟩) R ⟨h, g, d, t, os⟩ := by
 have Fn := PySem.F.excBase_Exception
 have hC := mw X (fj P)
 have hends := Fn.ends
 have hcB := vZ
 have hcA := FT
 have hcN := FU
 refine codeAny_builtinAt Fn.entry ?_
 unfold Builtin.«BaseException.__new__»
 refine PySem.wpAt_bind ?_
 show PySem.wpAt _ _ _ (stack >>= _) _ _ _
 refine PySem.wpAt_bind (PySem.wpAt_stack fun p below => PySem.wpAt_of_wpAny ?_)
 wp_walk
 refine PySem.wpAt_of_wpAny ?_
 rw [Fn.owner]
 repeat (first | with_reducible refine wpAny_madeHere_exc Fn.canon hC ?_ | with_reducible refine wpAny_loadPart_at hC ?_ | (with_reducible refine wpAny_isSubtype_exc hC ?_; first | rw [hcB] | rw [hcA] | rw [hcN]) | wp_step)
 show R _ _
 rw [Heap.size_push]
 exact hq
theorem mz {rest : List Value} {Q : Fin → Shared → Prop} (X : (HB.KF P).In h) (hf : findIn (HB.KF P) (.ref 59) "__init__" = some (some (.ref 36))) (ht : typeIn (HB.KF P) (.ref 36) = some (.type "function"))
  (hq : wpAny (model prog w) A (call (.ref 36) (.ref (h.objs.size + 1) :: rest)) (fun r s' => r = .none ∧ Q (.done (.ret (.ref (h.objs.size + 1)))) s') E ⟨(h.push { cls := .type "tuple", data := .seq rest.toArray }).push (cz (.ref h.objs.size)), g, d, t, os⟩) (hrest : rest.length ≤ sizeLine) :
  wpAny (model prog w) A (Builtin.«type.__call__» ⟨.ref 59 :: rest, []⟩) Q E ⟨h, g, d, t, os⟩ := by
 have F := PySem.F.excBase_Exception
 have hC := mw X (fj P)
 repeat (first | with_reducible refine wpAny_loadPart_at hC ?_ | with_reducible refine wpAny_madeBy_exc hC ?_ | wp_step)
 refine codeAny_call_builtin_code (Code.quiet_builtin _ F.quiet) (my X ?_)
 refine Jc X ?_ hrest
 show wpAny _ _ _ _ _ _
 have X₁ : (HB.KF P).In ((h.push { cls := .type "tuple", data := .seq rest.toArray }).push (cz (.ref h.objs.size))) := fun b o e => Heap.get?_push_of_some _ (Heap.get?_push_of_some _ (X b o e))
 have hC₁ := mw X₁ (fj P)
 have hget : ((h.push { cls := .type "tuple", data := .seq rest.toArray }).push (cz (.ref h.objs.size))).get? (h.objs.size + 1) = some (cz (.ref h.objs.size)) := by
  have := Heap.get?_push_size (h := h.push { cls := .type "tuple", data := .seq rest.toArray }) (o := cz (.ref h.objs.size)) rfl
  rwa [Heap.size_push] at this
 have hcC := FV
 unfold isInstance
 repeat (first | with_reducible refine wpAny_loadPart_at hget ?_ | (with_reducible refine wpAny_isSubtype_exc hC₁ ?_; rw [hcC]) | wp_step)
 show wpAny _ _ (typeLookup (.ref 59) _) _ _ _
 refine (looks_findIn X₁ hf).here ?_
 refine wpAny_holding (wpAny_bind ?_)
 refine (bind_fn X₁ _ ht).here ?_
 refine wpAny_bind (wpAny_mono hq (fun r s' hr => ?_) fun _ _ x => x)
 obtain ⟨rfl, hQ⟩ := hr
 wp_walk
 exact hQ
end
theorem uK (P : Params) : findIn (HB.KF P) (.ref 59) "__init__" = some (some (.ref 36)) := by kernel_rfl
theorem uL (P : Params) : typeIn (HB.KF P) (.ref 36) = some (.type "function") := by kernel_rfl
theorem sy (P : Params) : findIn (HB.KF P) (.ref 59) "__setattr__" = some (some (.builtin "object.__setattr__")) := by kernel_rfl
theorem uM (P : Params) : takerIn (HB.KF P) 59 "what" = some none := by kernel_rfl
theorem Jd (P : Params) : takerIn (HB.KF P) 59 "at" = some none := by kernel_rfl
theorem kA (P : Params) : hasDictIn (HB.KF P) 59 = true := by kernel_rfl
section
variable {prog : Program} {w : World} {A : Around} {h : Heap} {g : Array GenState} {d : Drawn} {t : Nat} {os : OsState} {P : Params}
theorem FX {rest : List Value} {R : Result → Shared → Prop} (X : (HB.KF P).In h)
  (hq : codeAny (model prog w) (A.under (.builtin "type.__call__" ⟨.ref 59 :: rest, []⟩)) (.call (.ref 36) ⟨.ref (h.objs.size + 1) :: rest, []⟩) (fun r s' => match r with | .ok (.ret v) => v = .none ∧ R (.ok (.ret (.ref (h.objs.size + 1)))) s' | .ok _ => False | .error e => R (.error e) s')
   ⟨(h.push { cls := .type "tuple", data := .seq rest.toArray }).push (cz (.ref h.objs.size)), g, d, t, os⟩) (hrest : rest.length ≤ sizeLine) :
  codeAny (model prog w) A (.call (.ref 59) ⟨rest, []⟩) R ⟨h, g, d, t, os⟩ := by
 have hC := mw X (fj P)
 have f1 := tc_lookup
 have f2 := tc_bind (.ref 59)
 have hT : (⟨h, g, d, t, os⟩ : Shared).TypeIs (.ref 59) "type" := ⟨_, hC, rfl⟩
 refine codeAny_of_tree ?_
 show wpAny _ _ (callAny (.ref 59) _) _ _ _
 repeat (any_goals (first | assumption | with_reducible refine wpAny_loadPart_at hC ?_ | wp_step))
 refine ⟨rfl, ?_⟩
 refine codeAny_call_builtin_at (Code.quiet_builtin _ (by decide +kernel)) entry_typeCall (wpAny_check_type_call_sub hC (mz X (uK P) (uL P) (wpAny_call (codeAny_mono hq fun r s' z => ?_)) hrest))
 rcases r with e | (v | _ | _ | _) <;> first | exact z | exact z.elim
theorem FY (P : Params) : (clsIn (HB.KF P) 59).map (·.mro) = some mro59 := by kernel_rfl
theorem oX {s : Shared} {x : Addr} {ox : Obj} {od : Option Obj} {name : Str} {tk : Tok} {v : Value} {R : Result → Shared → Prop} (X : (HB.KF P).In s.heap) (I : InstAt s.heap x ox 59 od) (ht : takerIn (HB.KF P) 59 name = some none)
  (h : ∀ b, wpAny (model prog w) A.in1 (Builtin.ObjectAttr.storeInOwnDict (.ref x) (.ref 59) (.str name tk) name v b)
   (fun fin s' => match fin with | .done f => R (.ok f) s' | .again c' => c'.quiet = true ∧ codeAny (model prog w) A c' R s') (fun e s' => R (.error e) s') s) :
  codeAny (model prog w) A (.call (.builtin "object.__setattr__") ⟨[.ref x, .str name tk, v], []⟩) R s := by
 have SF := PySem.F.store_object
 obtain ⟨cd, hc, hmro⟩ := Option.map_eq_some_iff.mp (FY P)
 have sub : Looks (model prog w) s.heap (isInstance (.ref x) (.type "object")) true := I.type.andThen (looks_mroIn X (by unfold mroIn; rw [hc, Option.bind_some, hmro]; rfl))
 refine codeAny_call_builtin SF.slot.plain SF.entry (@check_slot (model prog w) _ _ s "object.__setattr__" "object" "__setattr__" (.ref x) [.str name tk, v] [] _ SF.kind SF.split sub (SF.args (.ref x) (.str name tk) v) ?_)
 obtain ⟨attr, ha, hr⟩ := Option.bind_eq_some_iff.mp ht
 have hm : Looks (model prog w) s.heap (mroOf (.ref 59)) cd.mro := (looks_clsIn X hc).andThen .now
 have L3 : Looks (model prog w) s.heap (Builtin.ObjectAttr.storeTaker? attr) none := by
  cases attr with
  | none => cases hr; exact .now
  | some a =>
   obtain ⟨b, hb, e⟩ := Option.map_eq_some_iff.mp hr
   refine (looks_takesIn X hb).andThen ?_
   cases b
   ·exact .now
   ·cases e
 rw [osa_eq, refuse_eq]
 refine wpAny_bind (wpAny_bind (I.type.here (wpAny_bind (hm.here ?_))))
 rw [hmro, show refuseLoop (.ref x) "__setattr__" mro59 = pure () from by rw [refuseLoop_ref, refuseLoop_ref]; exact sw _]
 refine wpAny_pure (wpAny_bind (I.type.here (wpAny_bind ((looks_findIn X ha).here (wpAny_bind (L3.here ?_))))))
 exact h _
theorem oY {s : Shared} {dd : Addr} {es : List DictEntry} {n : Nat} {name : Str} {tk : Tok} {v : Value} {Q : PySem.Fin → Shared → Prop} {E : Value → Shared → Prop} (hd : s.heap.get? dd = some (dictOf es n)) (hl : (getL name es).isSome = true) (hz : (putL name (PyData.keyHash w.params name) (.str name s.toks) v es).length ≤ 1000)
  (h : ∀ h', h'.get? dd = some (dictOf (putL name (PyData.keyHash w.params name) (.str name s.toks) v es) (putN name es n)) → Heap.SameBut dd s.heap h' → Q (.done (.ret .none)) { s with heap := h', toks := s.toks + 1 }) :
  wpAny (model prog w) A (Builtin.ObjectAttr.storeInDict dd (.str name tk) name v) Q E s := by
 refine wpAny_bind (wpAny_pure (wpAny_bind ?_))
 unfold nsSet
 refine wpAny_bind (wpAny_bind (wpAny_askSetting (wpAny_pure (wpAny_bind (wpAny_mkText (wpAny_bind (wpAny_loadPart hd ?_)))))))
 dsimp only
 have e0 : (!es.toArray.any (·.key.isStr name) && es.toArray.any (·.refKey)) = false := by
  rw [← Array.any_toList, ← Array.any_toList]
  unfold getL at hl
  split at hl
  ·rename_i en he
   rw [List.any_eq_true.mpr ⟨en, List.mem_of_find?_eq_some he, List.find?_some he⟩]; rfl
  ·split at hl
   ·cases hl
   ·rename_i z; rw [Bool.not_eq_true] at z; rw [z, Bool.and_false]
 rw [aRefKeyMayBeTheName_at, e0]
 refine wpAny_updatePart hd ?_
 have D' : (s.heap.update dd (Obj.putName name (PyData.keyHash w.params name) (.str name s.toks) v)).get? dd = some (dictOf (putL name (PyData.keyHash w.params name) (.str name s.toks) v es) (putN name es n)) := by
  rw [Heap.get?_update_self _ hd (by rw [putName_dict]; rfl), putName_dict]
 refine wpAny_bind (wpAny_lookBehind D' (by exact pastItsLine_dict (by rw [List.size_toArray, sizeLine_eq]; lia)) ?_)
 exact wpAny_pure (h _ D' (Heap.SameBut.update ..))
theorem FZ {s : Shared} {e : Addr} {ta : Value} {name : Str} {v : Value} {Q : Unit → Shared → Prop} {E : Value → Shared → Prop} (X : (HB.KF w.params).In s.heap) (he : s.heap.get? e = some (cz ta)) (ht : takerIn (HB.KF w.params) 59 name = some none)
  (h : ∀ h' tk' es n, (∀ b o, b ≠ e → s.heap.get? b = some o → h'.get? b = some o) → h'.get? e = some { cz ta with dict := some s.heap.objs.size } → h'.get? s.heap.objs.size = some (dictOf es n) → es.length ≤ 1 → (∀ nm, (getL nm es).isSome = true) → Q () { s with heap := h', toks := tk' }) :
  wpAny (model prog w) A (setAttr (.ref e) name v) Q E s := by
 have I : InstAt s.heap e (cz ta) 59 none := ⟨he, rfl, rfl, trivial⟩
 refine set_plain X I (sy _) ?_
 refine oX (P := w.params) (od := none) X ⟨he, rfl, rfl, trivial⟩ ht fun b => ?_
 obtain ⟨cd, hc, hd'⟩ := any_some (kA w.params)
 unfold Builtin.ObjectAttr.storeInOwnDict
 refine wpAny_bind (wpAny_pure ?_)
 refine wpAny_bind (wpAny_bind (wpAny_loadPart he ?_))
 have X' : (HB.KF w.params).In ({ s with toks := s.toks + 1 } : Shared).heap := X
 refine wpAny_bind ((looks_clsIn (M := model prog w) X' hc).here ?_)
 rw [hd']
 have fr := aP s.heap
 have ne : e ≠ s.heap.objs.size := fun q => by rw [← q, he] at fr; cases fr
 refine wpAny_bind (wpAny_alloc (wpAny_bind (wpAny_update (Heap.get?_push_of_some _ he) (wpAny_pure (a := some s.heap.objs.size) ?_))))
 let h₁ := (s.heap.push { cls := .type "dict", data := .dict #[] }).update e fun o => { cls := o.cls, dict := some s.heap.objs.size, data := o.data, slots := o.slots }
 have hd : h₁.get? s.heap.objs.size = some (dictOf [] 0) := (Heap.get?_update_other _ _ ne).trans (Heap.get?_push_size _ rfl)
 have he1 : h₁.get? e = some { cz ta with dict := some s.heap.objs.size } := Heap.get?_update_self _ (Heap.get?_push_of_some _ he) rfl
 refine oY (s := { s with heap := h₁, toks := s.toks + 1 }) hd rfl (Nat.le_of_ble_eq_true rfl) fun h' h1 h2 => ?_
 refine h h' _ _ _ (fun b o hb e' => (h2.2 b (fun q => ?_)).trans ((Heap.get?_update_other _ _ hb.symm).trans (Heap.get?_push_of_some _ e'))) ((h2.2 e ne).trans he1) h1 (by exact Nat.le_refl 1) fun nm => ?_
 ·rw [q, fr] at e'; cases e'
 ·unfold getL putL
  simp
  split <;> rfl
theorem mA (name : Str) (hs : Int) (k v : Value) : ∀ es : List DictEntry, (putL name hs k v es).length ≤ es.length + 1
 | [] => Nat.le_refl _
 | e :: r => by
  unfold putL
  split
  ·exact Nat.le_succ _
  ·exact Nat.succ_le_succ (mA name hs k v r)
theorem F0 {s : Shared} {e dd : Addr} {ta : Value} {es : List DictEntry} {n : Nat} {name : Str} {v : Value} {Q : Unit → Shared → Prop} {E : Value → Shared → Prop} (X : (HB.KF w.params).In s.heap) (he : s.heap.get? e = some { cz ta with dict := some dd }) (hd : s.heap.get? dd = some (dictOf es n)) (ht : takerIn (HB.KF w.params) 59 name = some none)
  (hl : (getL name es).isSome = true) (hz : es.length ≤ 900) (h : ∀ h' tk' es' n', Heap.SameBut dd s.heap h' → h'.get? dd = some (dictOf es' n') → Q () { s with heap := h', toks := tk' }) :
  wpAny (model prog w) A (setAttr (.ref e) name v) Q E s := by
 have I : InstAt s.heap e { cz ta with dict := some dd } 59 (some (dictOf es n)) := ⟨he, rfl, rfl, hd⟩
 refine set_plain X I (sy _) ?_
 refine oX (P := w.params) (od := some (dictOf es n)) X ⟨he, rfl, rfl, hd⟩ ht fun b => ?_
 obtain ⟨cd, hc, hd'⟩ := any_some (kA w.params)
 unfold Builtin.ObjectAttr.storeInOwnDict
 refine wpAny_bind (wpAny_pure ?_)
 refine wpAny_bind (wpAny_bind (wpAny_loadPart he ?_))
 have X' : (HB.KF w.params).In ({ s with toks := s.toks + 1 } : Shared).heap := X
 refine wpAny_bind ((looks_clsIn (M := model prog w) X' hc).here ?_)
 rw [hd']
 refine wpAny_pure (a := some dd) ?_
 refine oY (s := { s with toks := s.toks + 1 }) hd hl (Nat.le_trans (mA _ _ _ _ _) (by lia)) fun h' h1 h2 => h h' _ _ _ h2 h1
end
theorem sA : typeOf (.type "Exception") = pure (.type "type") := by kernel_rfl
theorem F1 : Manifest.isStub "Exception" = false := by kernel_rfl
theorem F2 (P : Params) : nsIn (HB.KF P) mainGlobals "Exception" = some none := by kernel_rfl
theorem NO : bootBuiltins "Exception" = some (.type "Exception") := by kernel_rfl
section
variable {prog : Program} {w : World} {A : Around} {E : Value → Shared → Prop} {s : Shared} {P : Params}
theorem sB {pl : Sem Bool} {Q : Value × List Value → Shared → Prop} (X : (HB.KF P).In s.heap) (h : Q (.builtin "Exception.__init__", []) { s with toks := s.toks + 1 }) : wpAny (model prog w) A (getMethod (.type "Exception") "__init__" pl) Q E s := by
 have hstub : opaqueClassAbove (.type "Exception") = pure none := by unfold opaqueClassAbove; dsimp only; rw [F1]; rfl
 have L0 : Looks (model prog w) s.heap (typeOf (.type "Exception")) (.type "type") := Looks.of_pure sA
 have hg : findIn (HB.KF P) (.type "type") "__getattribute__" = some (some (.builtin "type.__getattribute__")) := type_tga
 unfold getMethod specialOf
 refine wpAny_bind (wpAny_bind (L0.here ((looks_findIn X hg).here ?_)))
 dsimp only
 rw [if_pos canon_tga]
 refine wpAny_bind (wpAny_mono (Q := fun v => Q (v, [])) (E := E) ?_ (fun _ _ z => wpAny_pure z) fun _ _ z => z)
 have LO : Looks (model prog w) s.heap (opaqueClassAbove (.type "Exception")) none := Looks.of_pure hstub
 refine cls_open X LO L0 hg (looks_hook X (r := none) (by rfl)) (by show subIn (HB.KF P) _ _ = _; rfl) (uJ P)
  (wpAny_pure (by show wpAny _ _ (handedOut _) _ _ _; rw [handedOut_of (by rfl)]; exact wpAny_pure h))
end
section
variable {prog : Program} {C : Cx} {σ : St} {R : St → Prop} {Q : V → St → Prop}
theorem F3 {ta : Value} {dd : Option Addr} : ∀ u, ({ cz ta with dict := dd } : Obj).data ≠ .cell u := fun u h => by cases h
theorem sC (O : Ok C) {p p1 p2 apos pos : Pos} {self what : Str} {e ta : Addr} {v : V} (hk : C.env.kindOf "Exception" = some .globalImplicit) (h4 : apos.endLine = pos.line) (hs : σ.loc.lookup self = some (.mut e)) (hw : σ.loc.lookup what = some v)
  (n1 : (self == ("__debug__" : Str)) = false) (n2 : (what == ("__debug__" : Str)) = false)
  (hm : σ.mem.lookup e = some (.raw (cz (.ref ta)))) (h : ∀ t', Q .none ⟨σ.loc, put e (.raw (cz (.ref t'))) σ.mem⟩) :
  WE prog C σ (eval (.Call (.Attribute (.Name "Exception" p) "__init__" apos) [.Name self p1, .Name what p2] [] pos) C.env) Q R := fun fz s r => by
 have w1 : WE prog C σ (eval (.Name "Exception" p) C.env) (fun f σ₁ => f = .typ .exc ∧ σ₁ = σ) R := qK O hk (mg_none_of O.K O.g (F2 C.P)) NO (by decide) (fun _ => .typ _) ⟨rfl, rfl⟩ (by decide)
 refine MethodCall_ (aX r w1 fun fz₁ f σ₁ s₁ u g hu ⟨e1, e2⟩ => ?_) (gP rfl rfl (by show 2 < 30; decide) h4)
 subst e1 e2
 cases hu
 have X : (HB.KF C.P).In s₁.heap := O.K.keeps g.rep.base
 refine sB (P := C.P) X ?_
 refine j6 (first := []) (fun _ => True) (fun h _ => ⟨.machine, .inr (.inl rfl), Looks.of_pure rfl⟩) rfl ?_
 have ch : eT prog C R [.Name self p1, .Name what p2] σ₁ (fun vs σ' => vs = [.mut e, v] ∧ σ' = σ₁) := by
  refine ⟨fun u σ' => u = .mut e ∧ σ' = σ₁, fY O hs ⟨rfl, rfl⟩ n1, fun u σ' hu => ?_⟩
  obtain ⟨rfl, rfl⟩ := hu
  refine ⟨fun u σ'' => u = v ∧ σ'' = σ', fY O hw ⟨rfl, rfl⟩ n2, fun u σ'' hu => ?_⟩
  obtain ⟨rfl, rfl⟩ := hu
  exact ⟨rfl, rfl⟩
 have g' : Go C fz₁ σ₁ s₁ fz₁ σ₁ { s₁ with toks := s₁.toks + 1 } := Go.keeps g.rep fun _ _ e => e
 refine wpAny_mono (cD (by rfl) ch fz₁ _ g'.rep) (fun vs s₂ ⟨fz₂, xs, σ₂, g₂, hv, hx⟩ => ⟨trivial, ?_⟩) fun _ _ x => Ex.of_go (g.trans g') x
 refine gk fun _ kk => ?_
 obtain ⟨rfl, rfl⟩ := hx
 obtain ⟨ue, uv, rfl, h1, h2⟩ := hv.two
 cases h1
 obtain ⟨o, m1, m2, _⟩ := g₂.rep.mem _ _ hm
 cases m2
 obtain ⟨hp, gg, dd, tk, os⟩ := s₂
 refine kk ?_; clear kk
 refine FW (P := C.P) (O.K.keeps g₂.rep.base) m1 fun h' k1 k2 => ?_
 refine ⟨fz₂, .none, _, (g.trans g').trans (g₂.trans (Go.setMem g₂.rep e (.raw (cz (.ref hp.objs.size))) _ _ hm k1 k2 (.raw fun u h => by cases h))), .none, h _⟩
theorem sD (O : Ok C) {p1 p2 p3 pos : Pos} {self name : Str} {x : Str} {e ta : Addr} {v : V} {Qn : St → Prop} {Qr : V → St → Prop} (hs : σ.loc.lookup self = some (.mut e)) (hw : σ.loc.lookup x = some v)
  (n1 : (self == ("__debug__" : Str)) = false) (n2 : (x == ("__debug__" : Str)) = false) (ht : takerIn (HB.KF C.P) 59 name = some none)
  (hm : σ.mem.lookup e = some (.raw (cz (.ref ta)))) (h : ∀ dd es n, σ.mem.lookup dd = none → dd ≠ e → es.length ≤ 1 → (∀ nm, (getL nm es).isSome = true) → Qn ⟨σ.loc, (dd, .raw (dictOf es n)) :: put e (.raw { cz (.ref ta) with dict := some dd }) σ.mem⟩) :
  WS prog C σ (exec (.Assign [.Attribute (.Name self p1) name p2] (.Name x p3) pos) C.env) Qn Qr R := fun fz s r => by
 have w1 : WE prog C σ (eval (.Name x p3) C.env) (fun u σ₁ => u = v ∧ σ₁ = σ) R := fY O hw ⟨rfl, rfl⟩ n2
 refine plainObj_wpAny_Assign_Attribute (aX r w1 fun fz₁ u σ₁ s₁ uv g hv q => ?_) (dC rfl _ _ _)
 obtain ⟨rfl, rfl⟩ := q
 have w2 : WE prog C σ₁ (eval (.Name self p1) C.env) (fun u σ₂ => u = .mut e ∧ σ₂ = σ₁) R := fY O hs ⟨rfl, rfl⟩ n1
 refine da g w2 fun fz₂ o σ₂ s₂ uo g₂ sub ho q => ?_
 refine gk fun _ kk => ?_
 obtain ⟨rfl, rfl⟩ := q
 cases ho
 obtain ⟨ob, m1, m2, _⟩ := g₂.rep.mem _ _ hm
 cases m2
 refine kk ?_; clear kk
 have fr := aP s₂.heap
 refine FZ (O.K.keeps g₂.rep.base) m1 ht fun h' tk' es n k1 k2 k3 k4 k5 => ?_
 have g₃ := Go.setMem (s' := { s₂ with heap := h', toks := tk' }) g₂.rep e (.raw { cz (.ref ta) with dict := some s₂.heap.objs.size }) _ _ hm k1 k2 (.raw F3)
 have ne : s₂.heap.objs.size ≠ e := fun q => by rw [← q, fr] at m1; cases m1
 have aw := Aw.new (σ := σ₂) g₂.rep fr
 have aw' : Aw fz₂ ⟨σ₂.loc, put e (.raw { cz (.ref ta) with dict := some s₂.heap.objs.size }) σ₂.mem⟩ s₂.heap.objs.size := ⟨aw.1, by
  show (put e _ σ₂.mem).lookup _ = none
  rw [aK, if_neg (by simpa using ne)]; exact aw.2⟩
 have g₄ := Go.adoptMem (y := .raw (dictOf es n)) g₂.rep g₃ fr k3 aw' (.raw fun u h => by cases h) (fun u h => by cases h)
 exact ⟨fz₂, _, g₂.trans g₄, h _ es n aw.2 ne k4 k5⟩
theorem sF (O : Ok C) {p1 p2 p3 pos : Pos} {self name : Str} {x : Str} {e dd ta : Addr} {es : List DictEntry} {n : Nat} {v : V} {Qn : St → Prop} {Qr : V → St → Prop} (hs : σ.loc.lookup self = some (.mut e)) (hw : σ.loc.lookup x = some v)
  (n1 : (self == ("__debug__" : Str)) = false) (n2 : (x == ("__debug__" : Str)) = false) (ht : takerIn (HB.KF C.P) 59 name = some none)
  (hm : σ.mem.lookup e = some (.raw { cz (.ref ta) with dict := some dd })) (hd : σ.mem.lookup dd = some (.raw (dictOf es n))) (hl : (getL name es).isSome = true) (hz : es.length ≤ 900)
  (h : ∀ es n, Qn ⟨σ.loc, put dd (.raw (dictOf es n)) σ.mem⟩) :
  WS prog C σ (exec (.Assign [.Attribute (.Name self p1) name p2] (.Name x p3) pos) C.env) Qn Qr R := fun fz s r => by
 have w1 : WE prog C σ (eval (.Name x p3) C.env) (fun u σ₁ => u = v ∧ σ₁ = σ) R := fY O hw ⟨rfl, rfl⟩ n2
 refine plainObj_wpAny_Assign_Attribute (aX r w1 fun fz₁ u σ₁ s₁ uv g hv q => ?_) (dC rfl _ _ _)
 obtain ⟨rfl, rfl⟩ := q
 have w2 : WE prog C σ₁ (eval (.Name self p1) C.env) (fun u σ₂ => u = .mut e ∧ σ₂ = σ₁) R := fY O hs ⟨rfl, rfl⟩ n1
 refine da g w2 fun fz₂ o σ₂ s₂ uo g₂ sub ho q => ?_
 refine gk fun _ kk => ?_
 obtain ⟨rfl, rfl⟩ := q
 cases ho
 obtain ⟨ob, m1, m2, _⟩ := g₂.rep.mem _ _ hm
 cases m2
 obtain ⟨od, d1, d2, _⟩ := g₂.rep.mem _ _ hd
 cases d2
 refine kk ?_; clear kk
 refine F0 (O.K.keeps g₂.rep.base) m1 d1 ht hl hz fun h' tk' es' n' k1 k2 => ?_
 exact ⟨fz₂, _, g₂.trans (Go.setMem g₂.rep dd (.raw (dictOf es' n')) _ _ hd (fun b o hb e => (k1.2 b hb).trans e) k2 (.raw fun u h => by cases h)), h es' n'⟩
end
theorem OR : aA 36 (aH HB.o36) (HB.dbody (HB.tsu 2 0)) := ⟨fun P => ⟨HB.o36, by kernel_rfl, rfl⟩, rfl, by kernel_rfl, by kernel_rfl, by kernel_rfl, rfl, rfl, rfl, ⟨35, HB.o35, _, _, rfl, fun P => by kernel_rfl, rfl, rfl⟩⟩
theorem NP : mo (aH HB.o36).scope.names ["self", "what", "at"] = true := by kernel_rfl
theorem F4 : ∃ (p1 p2 p3 ap p4 p5 : Pos) (q1 q2 q3 q4 r1 r2 r3 r4 : Pos), HB.dbody (HB.tsu 2 0) = [.Expr (.Call (.Attribute (.Name "Exception" p1) "__init__" ap) [.Name "self" p2, .Name "what" p3] [] p4) p5,
  .Assign [.Attribute (.Name "self" q1) "what" q2] (.Name "what" q3) q4, .Assign [.Attribute (.Name "self" r1) "at" r2] (.Name "at" r3) r4] ∧ ap.endLine = p4.line := ⟨_, _, _, _, _, _, _, _, _, _, _, _, _, _, rfl, rfl⟩
theorem F5 (s : Shared) (a b : Value) (h : s.heap.get? 29 = some (HB.tup [.int (-1) 209])) : BindsTo s (aH HB.o36) ⟨[a, b], []⟩ ((["self", "what", "at"] : List Str).zip [a, b, .int (-1) 209]) :=
 BindsTo.of_defaults (by rfl) h (by rfl) (by rfl) (by kernel_rfl)
theorem F6 (P : Params) : (HB.KF P).lookup 29 = some (HB.tup [.int (-1) 209]) := by kernel_rfl
theorem uN {a b : V} : aE (aH HB.o36) [a, b] ["self", "what", "at"] [a, b, .int (-1)] := fun P fz s us r hz X => by
 obtain ⟨u, v, rfl, h1, h2⟩ := r.two
 exact ⟨[u, v, .int (-1) 209], F5 s u v (X _ _ (F6 P)), .cons h1 (.cons h2 (.cons (.int _ _) .nil))⟩
theorem NQ : (aH HB.o36).scope.names.lookup ("Exception" : Str) = some .globalImplicit := by kernel_rfl
theorem jf {α β : Type} [BEq α] [LawfulBEq α] (a : α) (v u : β) (l : List (α × β)) : put a v ((a, u) :: l) = (a, v) :: l := by
 show (if (a == a) = true then _ else _) = _
 rw [if_pos (beq_self_eq_true a)]
section
variable {prog : Program}
theorem uO {d : Nat} {e ta : Addr} {v : V} {mem : Mem} {Q : V → Mem → Prop} {R : Mem → Prop}
  (h : ∀ dd es n t', mem.lookup dd = none → dd ≠ e → Q .none ((dd, .raw (dictOf es n)) :: (e, .raw { cz (.ref t') with dict := some dd }) :: mem)) : Calls prog (d + 1) (.ref 36) [.mut e, v] ((e, .raw (cz (.ref ta))) :: mem) Q R := by
 refine lV OR (names := ["self", "what", "at"]) (vs := [.mut e, v, .int (-1)]) (of_decide_eq_true (jU NP).1) (fun x hx => (Bool.or_eq_true_iff.mp (List.all_eq_true.mp (jU NP).2.1 x hx)).imp eq_of_beq eq_of_beq) (eM NP) uN fun C O F hd => ?_
 ·obtain ⟨p1, p2, p3, ap, p4, p5, q1, q2, q3, q4, r1, r2, r3, r4, hb, hl⟩ := F4
  rw [hb]
  have hk : C.env.kindOf "Exception" = some .globalImplicit := by unfold Env.kindOf; rw [F.scope]; exact NQ
  have lk : ∀ (x : M), (((e, x) :: mem : Mem).lookup e) = some x := fun x => by rw [List.lookup_cons, beq_self_eq_true]
  refine iA (Q1 := fun σ => ∃ t', σ = ⟨(["self", "what", "at"] : List Str).zip [.mut e, v, .int (-1)], (e, .raw (cz (.ref t'))) :: mem⟩) (oG O rfl (sC O (ta := ta) (e := e) (v := v) hk hl (by rfl) (by rfl) (by decide) (by decide) (lk _) fun t' => ⟨t', by rw [jf]⟩)) ?_
  rintro σ ⟨t', rfl⟩
  refine iA (Q1 := fun σ => ∃ dd es n, mem.lookup dd = none ∧ dd ≠ e ∧ es.length ≤ 1 ∧ (∀ nm, (getL nm es).isSome = true) ∧ σ = ⟨(["self", "what", "at"] : List Str).zip [.mut e, v, .int (-1)], (dd, .raw (dictOf es n)) :: (e, .raw { cz (.ref t') with dict := some dd }) :: mem⟩)
   (sD O (ta := t') (e := e) (v := v) (by rfl) (by rfl) (by decide) (by decide) (uM _) (lk _) fun dd es n h1 h2 h3 h4 => ⟨dd, es, n, ?_, h2, h3, h4, by rw [jf]⟩) ?_
  ·rw [List.lookup_cons, beq_eq_false_iff_ne.mpr h2] at h1; exact h1
  ·rintro σ ⟨dd, es, n, h1, h2, h3, h4, rfl⟩
   refine iA (Q1 := fun σ => Q .none σ.mem) (sF O (ta := t') (e := e) (dd := dd) (es := es) (n := n) (v := .int (-1)) (by rfl) (by rfl) (by decide) (by decide) (Jd _) ?_ ?_ (h4 _) (by lia) fun es' n' => ?_) fun σ q => rH q
   ·rw [List.lookup_cons, beq_eq_false_iff_ne.mpr (Ne.symm h2)]; exact lk _
   ·rw [List.lookup_cons, beq_self_eq_true]
   ·show Q .none (put dd _ ((dd, _) :: _))
    rw [jf]
    exact h dd es' n' t' h1 h2
end
theorem sG : ∀ P, keepIn (HB.KF P) (.ref 59) = true := fun P => by kernel_rfl
inductive F7 (mem : Mem) (v : V) (m : Mem) : Prop
 | mk (e dd : Addr) (es : List DictEntry) (n : Nat) (t' : Addr) (h1 : v = .mut e) (h2 : mem.lookup e = none) (h3 : mem.lookup dd = none) (h4 : dd ≠ e) (h5 : m = (dd, .raw (dictOf es n)) :: (e, .raw { cz (.ref t') with dict := some dd }) :: mem)
theorem Je {prog : Program} {d : Nat} {v : V} {mem : Mem} {Q : V → Mem → Prop} {R : Mem → Prop} (h : ∀ u m, F7 mem u m → Q u m) : bA prog (d + 2) (.ref 59) [v] mem Q R := by
 refine ⟨la sG, ?_⟩
 rintro C fz σ s uf us O hd rfl r hf hs
 refine gk fun _ kk => ?_
 cases hf
 have X : (HB.KF C.P).In s.heap := O.K.keeps r.base
 have fr := aP s.heap
 have fr1 : s.heap.get? (s.heap.objs.size + 1) = none := Heap.get?_none_of_le (Nat.le_succ _)
 let s' : Shared := { s with heap := (s.heap.push { cls := .type "tuple", data := .seq us.toArray }).push (cz (.ref s.heap.objs.size)) }
 have hx : s'.heap.get? (s.heap.objs.size + 1) = some (cz (.ref s.heap.objs.size)) := by
  have := Heap.get?_push_size (h := s.heap.push { cls := .type "tuple", data := .seq us.toArray }) (o := cz (.ref s.heap.objs.size)) rfl
  rwa [Heap.size_push] at this
 have k : ∀ b o, s.heap.get? b = some o → s'.heap.get? b = some o := fun b o e => Heap.get?_push_of_some _ (Heap.get?_push_of_some _ e)
 have aw := Aw.new (fz := fz) (σ := σ) r fr1
 have g1 := Go.addMem (s' := s') r (s.heap.objs.size + 1) (.raw (cz (.ref s.heap.objs.size))) _ k fr1 hx (.raw fun u h => by cases h)
 let A' := C.A.under (.builtin "type.__call__" ⟨.ref 59 :: us, []⟩)
 let C₁ : Cx := { C with A := A', d := C.d - 1 }
 have O₁ : Ok C₁ := by
  refine ⟨(hV _ _ (oM us 59)).trans O.hA, O.hf, O.hfk, O.ef, O.ek, O.eg, O.eb, O.K, O.g, O.b, O.bb, O.nl, O.nd, O.hh, ?_, ?_⟩
  ·show C.A.depth + (Code.builtin "type.__call__" ⟨.ref 59 :: us, []⟩).weight + (C.d - 1) ≤ 990
   rw [kr]; have := O.hd; lia
  ·show C.A.units + (Code.builtin "type.__call__" ⟨.ref 59 :: us, []⟩).cUnits + 16 * (C.d - 1) + C.k ≤ 9800
   have := O.hu; have := mf us 59; lia
 obtain ⟨u, rfl, hu⟩ := hs.one
 have hc := uO (prog := prog) (d := d) (e := s.heap.objs.size + 1) (ta := s.heap.objs.size) (v := v) (mem := σ.mem) (Q := fun v m => v = .none ∧ F7 σ.mem (.mut (s.heap.objs.size + 1)) m) (R := fun _ => False)
  (fun dd es n t' h1 h2 => ⟨rfl, _, dd, es, n, t', rfl, aw.2, h1, h2, rfl⟩) C₁ fz ⟨σ.loc, (s.heap.objs.size + 1, .raw (cz (.ref s.heap.objs.size))) :: σ.mem⟩ s' (.ref 36) [.ref (s.heap.objs.size + 1), u] O₁ (by show d + 1 ≤ C.d - 1; lia) rfl (g1.rep.chg (A := A') (d := C.d - 1)) (.ref 36) (.cons (.mut _) (.cons hu .nil))
 obtain ⟨hh, gg, dd, tt, os⟩ := s
 refine kk ?_; clear kk
 refine FX (P := C.P) X (codeAny_mono hc fun rr s₂ b => ?_) (by show 1 ≤ sizeLine; rw [sizeLine_eq]; decide)
 cases rr with
 | ok fl =>
  cases fl with
  | ret v =>
   refine gk fun _ kk => ?_
   obtain ⟨fz', x, σ', g, hv, hl, rfl, hm⟩ := b
   cases hv
   refine kk ?_; clear kk
   exact ⟨rfl, fz', _, σ', g1.trans (Go.chg' g), .mut _, hl, h _ _ hm⟩
  | _ => exact b.elim
 | error e =>
  refine gk fun _ kk => ?_
  obtain ⟨_, _, _, _, _, _, _, _, q⟩ := b
  refine kk ?_; clear kk
  exact q.elim
theorem bt.forget {C : Cx} {fz : Fz} {σ : St} {s : Shared} (r : bt C fz σ s) (a : Addr) : bt C fz ⟨σ.loc, bP a σ.mem⟩ s := by
 have of : ∀ {b y}, (bP a σ.mem).lookup b = some y → σ.mem.lookup b = some y := fun {b y} e => by
  rw [bQ] at e
  split at e
  ·cases e
  ·exact e
 have no : ∀ {b}, σ.mem.lookup b = none → (bP a σ.mem).lookup b = none := fun {b} e => by
  rw [bQ]; split
  ·rfl
  ·exact e
 exact ⟨r.base, fun p hp => ⟨(r.fro p hp).1, (r.fro p hp).2.1, no (r.fro p hp).2.2.1, (r.fro p hp).2.2.2⟩, fun b x e => r.mem b x (of e), r.ns, r.cell, r.own, r.lo, r.fr, fun x c e => ⟨(r.nocell x c e).1, no (r.nocell x c e).2.1, (r.nocell x c e).2.2⟩, r.one, r.sp, r.gens, r.os, r.drawn⟩
theorem Go.forget {C : Cx} {fz fz' : Fz} {σ σ' : St} {s s' : Shared} (g : Go C fz σ s fz' σ' s') (a : Addr) : Go C fz σ s fz' ⟨σ'.loc, bP a σ'.mem⟩ s' :=
 ⟨g.rep.forget a, g.sub, g.keep, g.slot, fun b x e => g.new b x (by
  have e' : (bP a σ'.mem).lookup b = some x := e
  rw [bQ] at e'
  split at e'
  ·cases e'
  ·exact e'), g.fnew, g.live⟩
section
variable {M : Model} {A : Around} {E : Value → Shared → Prop} {env : Env} {P : Params}
inductive v8 (P : Params) (E : Value → Shared → Prop) (v : Value) (s₁ : Shared) : Prop
 | mk (e : Addr) (ta : Value) (dd : Option Addr) (h1 : v = .ref e) (h2 : (HB.KF P).In s₁.heap) (h3 : s₁.heap.get? e = some { cz ta with dict := dd }) (h4 : E (.ref e) s₁)
theorem mB {s : Shared} {x : Sem Value} {Q : Flow → Shared → Prop} (hh : A.handled = none)
  (h : wpAny M A x (v8 P E) E s) : wpAny M A (raiseStmt env (some x) none) Q E s := by
 have hcB := FS
 unfold raiseStmt
 refine wpAny_bind (wpAny_mono h (fun v s₁ h₁ => ?_) fun _ _ x => x)
 refine gk fun _ kk => ?_
 obtain ⟨e, ta, dd, rfl, X, he, hE⟩ := h₁
 have hC := mw X (fj P)
 obtain ⟨hp, g, d, tk, os⟩ := s₁
 refine kk ?_; clear kk
 repeat (first | with_reducible refine wpAny_loadPart_at he ?_ | with_reducible refine wpAny_loadPart_at hC ?_ | (with_reducible refine wpAny_isSubtype_exc hC ?_; rw [hcB]) | wp_step)
 exact wpAny_raiseNew_none hh hE
end
theorem sH {prog : Program} {d : Nat} (hd2 : 2 ≤ d) : oS prog d := by
 intro C σ R Qn Qr cp p pos e O hd hk hn he fz s r
 rw [arm_exec_Raise]
 show wpAny _ C.A (do standAt pos; raiseStmt C.env (some (do let v ← eval (.Call (.Name pf cp) [e] [] p) C.env; standAt pos; pure v)) none) _ _ s
 refine wpAny_bind (wpAny_standAt (mB (P := C.P) O.hh (wpAny_bind (wpAny_mono (Q := v8 C.P (Ex C fz σ s R)) ?_ (fun v s₁ h₁ => wpAny_bind (wpAny_standAt (wpAny_pure h₁))) fun _ _ x => x))))
 rw [arm_eval_Call_Name']
 have hf : WE prog C σ (eval (.Name pf cp) C.env) (fun f σ₁ => f = .ref 59 ∧ σ₁ = σ) R := rY O hk (by decide) (show gl pf = some (.ref 59) by rfl) ⟨rfl, rfl⟩
 refine wpAny_bind (aX r hf fun fz₁ f σ₁ s₁ u g hu q1 => ?_)
 obtain ⟨rfl, rfl⟩ := q1
 have hkp : k9 prog (.ref 59) := la sG
 refine j6 (first := []) (fun h => ∃ fz σ s, h = s.heap ∧ bt C fz σ s ∧ RV C.P fz (.ref 59) u ∧ k9 prog (.ref 59)) (fun h ⟨fz, σ, s, e, r, hu, k⟩ => by rw [e]; exact k C fz σ s u O r hu) (by rw [List.all_cons, hn]; rfl) ?_
 have ch : eT prog C R [e] σ₁ (fun vs σ' => ∃ x, vs = [.str x] ∧ R σ') := ⟨_, he, fun v σ' ⟨x, e1, h1⟩ => ⟨x, by rw [e1], h1⟩⟩
 refine wpAny_mono (cD (by rw [List.all_cons, hn]; rfl) ch fz₁ s₁ g.rep) (fun vs s₂ ⟨fz₂, xs, σ₂, g₂, hv, q2⟩ => ⟨⟨fz₂, σ₂, s₂, rfl, g₂.rep, hu.mono g₂.sub, hkp⟩, ?_⟩) fun _ _ x => Ex.of_go g x
 obtain ⟨x, rfl, hR⟩ := q2
 have hc : l6 prog d (.ref 59) [.str x] σ₂ (fun v σ' => F7 σ₂.mem v σ'.mem ∧ σ'.loc = σ₂.loc) (fun _ => False) := by
  obtain ⟨k, rfl⟩ : ∃ k, d = k + 2 := ⟨d - 2, (Nat.sub_add_cancel hd2).symm⟩
  exact Je fun u m h => ⟨h, rfl⟩
 refine wpAny_mono (ga (f := .ref 59) O hd hc g₂.rep (hu.mono g₂.sub) hv) (fun v s₃ hp => ?_) fun _ _ x => x.no.elim
 refine gk fun _ kk => ?_
 obtain ⟨fz₃, y, σ₃, g₃, hy, ⟨ee, dd, es, n, t', e1, e2, e3, e4, e5⟩, hloc⟩ := hp
 subst e1
 cases hy
 have lk : σ₃.mem.lookup ee = some (.raw { cz (.ref t') with dict := some dd }) := by
  rw [e5, List.lookup_cons, beq_eq_false_iff_ne.mpr (Ne.symm e4), List.lookup_cons, beq_self_eq_true]
 obtain ⟨ob, m1, m2, _⟩ := g₃.rep.mem _ _ lk
 cases m2
 refine kk ?_; clear kk
 have nw : s₂.heap.get? ee = none := by
  rcases g₃.new _ _ lk with ⟨y, hy⟩ | h
  ·rw [e2] at hy; cases hy
  ·exact h
 have G := g.trans (g₂.trans g₃)
 have nw0 : s.heap.get? ee = none := c9 fun q => aS nw ((g.trans g₂).live _ q)
 have G2 := (G.forget dd).forget ee
 have awE : Aw fz₃ ⟨σ₃.loc, bP ee (bP dd σ₃.mem)⟩ ee := by
  refine ⟨fun p hp q => ?_, ?_⟩
  ·have := (g₃.rep.fro p hp).2.2.1
   rw [q, lk] at this; cases this
  ·show (bP ee _).lookup ee = none
   rw [bQ]; simp
 have em : bP ee (bP dd σ₃.mem) = σ₂.mem := by
  rw [e5, dp (by rw [List.lookup_cons, beq_eq_false_iff_ne.mpr e4]; exact e3), dp e2]
 have es3 : (⟨σ₃.loc, bP ee (bP dd σ₃.mem)⟩ : St) = σ₂ := by rw [em, hloc]
 refine ⟨ee, _, _, rfl, O.K.keeps g₃.rep.base, m1, ee, fz₃, _, rfl, G2, nw0, ⟨_, _, .ref t', m1, rfl, rfl, rfl, awE, .inl rfl⟩, ?_⟩
 rw [es3]; exact hR
section
variable {C : Cx} {fz fz' : Fz} {σ σ' : St} {s s' : Shared} {R : St → Prop} {e : Value}
theorem nG {M : Model} {A : Around} (O : Ok C) (r : bt C fz σ s) (x : nh [.none] C fz σ s R e s') {E : Value → Shared → Prop} : wpAny M A (setFlight e none) (fun _ s'' => nh [.none] C fz σ s R e s'') E s' := by
 have x0 := x
 refine gk fun _ kk => ?_
 obtain ⟨a, fz', σ', rfl, g, h3, ⟨oe, vs, a0, f1, f2, f3, f4, f5, f6⟩, h5⟩ := x
 refine kk ?_; clear kk
 rcases f6 with f6 | ⟨T, oT, ts, t1, t2, t3, t4, t5, ⟨fl, hfl, t6⟩, t7⟩
 ·unfold setFlight
  refine wpAny_bind (wpAny_field f1 f3 f6 ?_)
  rw [if_neg (by simp)]
  exact wpAny_pure x0
 ·have hx : ∀ x ∈ [a, T], Aw fz' σ' x ∧ s.heap.get? x = none := fun x h => by
   rcases List.mem_cons.mp h with rfl | h
   ·exact ⟨f5, h3⟩
   ·rw [List.mem_singleton.mp h]; exact ⟨t7, t2⟩
  have b2 : (hideAll s'.heap ([a, T] ++ C.frs)).get? T = none := hideAll_none _ (.tail _ (.head _))
  refine wpAny_setFlight_noneW (base := hideAll s'.heap ([a, T] ++ C.frs)) (l := C.fenv :: C.outer) (cls := .ref 59) (a0 := a0) (fl := fl) (fF _ _) (gz O g [a, T]) ⟨oe, vs, T, oT, ts, f1, ⟨f2, f4⟩, f3, t1, b2, t3, t4, t5, t6⟩ fun h' n1 n2 n3 n4 => ?_
  exact eZ r g [a, T] hx (.head _) n1 n2 n3 (fun b o e n => ⟨o.slots, n4 b o e n⟩) (.head _) h5
end
theorem Jf (P : Params) : nsIn (HB.KF P) mainGlobals pf = some (some (.ref 59)) := by kernel_rfl
theorem sI {prog : Program} : oU prog := by
 intro C σ R R' Qn Qr body cp xp hp ap pos ip k x i O he hk hx hb hq fz s r
 refine wpAny_Try_except (wpAny_mono (hb fz s r) (fun f s₁ p => ?_) fun e s₁ xx => ?_)
 ·cases f with
  | next => exact wpAny_execs_nil p
  | ret v => exact p
  | cont => exact p.elim
  | brk => exact p.elim
 ·refine wpAny_mono (k7 O r he xx) (fun _ s₂ ⟨a, T, F⟩ => ?_) fun _ _ y => y
  refine wpAny_mono (qV O r F) (fun _ s₃ xx => ?_) fun _ _ y => y
  have x0 := xx
  refine gk fun _ kk => ?_
  obtain ⟨a, fz', σ', rfl, g, h3, ⟨oe, vs, a0, f1, f2, f3, f4, f5, f6⟩, h5⟩ := xx
  refine kk ?_; clear kk
  refine wpAny_handleBy_cons (codeAny_handlers_test ?_) (by intro q; cases q)
  refine Name_function_global O.ek hk (loadGlobal_global (by rw [O.eg]; exact O.g.keeps g.rep.base) (mg_of O.K O.g (Jf C.P)) ?_) (by decide)
  refine gk fun _ kk => ?_
  obtain ⟨hp', gg, dd, tk, os⟩ := s₃
  refine kk ?_; clear kk
  refine wpAny_excMatches_sub_self (mw (O.K.keeps g.rep.base) (fj C.P)) f1 f2 (by decide +kernel) ?_
  show codeAny _ _ _ _ _
  refine codeAny_handlers_suite (wpAny_mono (nG O r x0) (fun _ s₄ xx => ?_) fun _ _ y => y)
  refine gk fun _ kk => ?_
  obtain ⟨a, fz', σ', _, g, h3, _, h5⟩ := xx
  refine kk ?_; clear kk
  refine wpAny_execs_cons (wpAny_Assign_Name (wpAny_Constant_int ?_) (dC rfl _ _ _))
  have g' : Go C fz σ s fz' σ' { s₄ with toks := s₄.toks + 1 } := g.trans (Go.keeps g.rep fun _ _ e => e)
  refine fH O hx g'.rep (.int i _) fun s₅ g₅ => wpAny_execs_nil ?_
  exact ⟨fz', _, g'.trans g₅, hq _ h5⟩
noncomputable def dJ (C : Cx) (c : Addr) : Cx := { C with own := C.own.filter fun b => b != c }
theorem uP {C : Cx} {c : Addr} (O : Ok C) : Ok (dJ C c) := ⟨O.hA, O.hf, O.hfk, O.ef, O.ek, O.eg, O.eb, O.K, O.g, O.b, O.bb, O.nl, O.nd, O.hh, O.hd, O.hu⟩
theorem uQ {C : Cx} {fz : Fz} {σ : St} {s : Shared} (O : Ok C) (r : bt C fz σ s) {x : Str} {c : Addr} {v : V} (hc : C.env.cells.lookup x = some c) (ho : c ∈ C.own) (hv : σ.loc.lookup x = some v) (hk : C.env.kindOf x ≠ some .local) :
  ∃ o u, bt (dJ C c) ((c, o) :: fz) σ s ∧ o.data = .cell (some u) ∧ RV C.P fz v u := by
 refine gk fun _ kk => ?_
 obtain ⟨c', u, _, h2, ⟨o, h3, h4⟩, h5⟩ := r.cell x v hv hk
 rw [hc] at h2; cases h2
 obtain ⟨n1, n2, n3, n4⟩ := r.nocell x c hc
 refine kk ?_; clear kk
 have sub : ∀ {b}, b ∈ (dJ C c).own → b ∈ C.own := fun h => (List.mem_filter.mp h).1
 have n1' : c ≠ 1 := fun e => by
  have := (r.own c ho).1
  rw [e] at this
  refine gk fun _ kk => ?_
  obtain ⟨o1, k⟩ : ∃ o1, (HB.KF C.P).lookup 1 = some o1 := Option.isSome_iff_exists.mp (by kernel_rfl)
  rw [O.K _ _ k] at this; cases this
 have up : ∀ p ∈ fz, p ∈ (c, o) :: fz := fun p h => .tail _ h
 refine ⟨o, u, ⟨r.base, fun p hp => ?_, fun a y e => ?_, ?_, fun y w e q => ?_, fun a h => r.own a (sub h), ?_, r.fr, r.nocell, r.one, fun p h => up p (r.sp p h), r.gens, r.os, r.drawn⟩, h4, h5⟩
 ·rcases List.mem_cons.mp hp with rfl | hp
  ·exact ⟨h3, fun h => by have := (List.mem_filter.mp h).2; simp at this, n2, n1, n1'⟩
  ·obtain ⟨a, b, d⟩ := r.fro p hp; exact ⟨a, fun h => b (sub h), d⟩
 ·obtain ⟨o', a1, a2, a3, a4, a5⟩ := r.mem a y e
  exact ⟨o', a1, a2.mono up, a3, fun h => a4 (sub h), a5⟩
 ·obtain ⟨m, a, b⟩ := r.ns
  exact ⟨m, a, fun y w e q => let ⟨u, a, b⟩ := b y w e q; ⟨u, a.mono up, b⟩⟩
 ·obtain ⟨c, u, a, b, d, e⟩ := r.cell y w e q
  exact ⟨c, u, a, b, d, e.mono up⟩
 ·exact List.mem_filter.mpr ⟨r.lo, bne_iff_ne.mpr (Ne.symm n3)⟩
noncomputable def BM (C : Cx) : Prop := ∃ bm ob, C.mg "__builtins__" = some (.ref bm) ∧ bm ≠ builtinsNs ∧ bm ≠ 745 ∧ C.h₀.get? bm = some ob ∧ ob.cls = .type "module" ∧ ob.dict = some builtinsNs ∧ ob.data = .plain
noncomputable def dZ (i : Nat) : Pos := match ij i with | .Lambda _ _ _ p => p | _ => default
theorem Jg {prog : Program} {C : Cx} {fz : Fz} {σ : St} {s : Shared} (O : Ok C) (hb : BM C) (r : bt C fz σ s) {i : Nat} {l : List (Str × V)} {clos : List (Str × Addr)} {ps : List Value} (hl : ij i = .Lambda (im i) (lQ i) (cj i) (dZ i)) (hrc : RC C.P fz l clos) (hcl : closureFor (cj i) C.env = pure clos) (hdef : defaultsOf (im i) C.env = ([], []))
  (hq : C.env.qual ++ "<lambda>" = lamQ) (hcode : C.env.code = .ref 747) (hm : σ.mem.lookup 745 = some (.raw (tabObj ps.toArray))) (ht : TriplesOk ps) (hnf : codeAmong (dZ i) ps = none) {K : Value → Shared → Prop} {E : Value → Shared → Prop}
  (k : ∀ fz' c' v s', Go C fz σ s fz' ⟨σ.loc, put 745 (.raw (tabObj (ps ++ [rawInt (dZ i).line, rawInt (dZ i).col, .ref c']).toArray)) σ.mem⟩ s' → RV C.P fz' (.lam i l) v → K v s') : wpAny (Md prog C) C.A (eval (ij i) C.env) K E s := by
 rw [hl]
 refine kla_eval hdef ?_
 rw [hq]
 have X := O.K.keeps r.base
 have hg := O.g.keeps r.base
 refine gk fun _ kk => ?_
 obtain ⟨o, m1, m2, m3⟩ := r.mem _ _ hm
 cases m2
 refine kk ?_; clear kk
 have hb : s.heap.BuiltinsAt C.mg 745 := by
  refine gk fun _ kk => ?_
  obtain ⟨bm, ob, b1, b2, b3, b4, b5, b6, b7⟩ := hb
  refine kk ?_; clear kk
  have b4' := r.base _ _ b4
  refine ⟨bm, ob, b1, b2, fun e => ?_, b3, b4', b5, b6, b7⟩
  refine gk fun _ kk => ?_
  obtain ⟨o, es, ep, e1, hd, _⟩ := hg
  rw [e, e1] at b4'; cases b4'; rw [hd] at b7; cases b7
 refine kla_makeFunction hcl O.eg hg hcode (codeHd_of_K X (by kernel_rfl)) m1 (by simpa using ht) (by simpa using hnf) (by decide) hb fun c' ctv h' tk hx hge hlt hrec htb => ?_
 refine gk fun _ kk => ?_
 obtain ⟨c₂, oc, vs, t, e2, hoc, hd, hv⟩ := hrec
 cases e2
 refine kk ?_; clear kk
 rw [show ps.toArray ++ #[rawInt (dZ i).line, rawInt (dZ i).col, .ref c'] = (ps ++ [rawInt (dZ i).line, rawInt (dZ i).col, .ref c']).toArray by simp] at htb
 have hn : s.heap.get? c' = none := Heap.get?_none_of_le hge
 have ne : c' ≠ 745 := fun e => by rw [e, m1] at hn; cases hn
 have g1 := Go.setMem (s' := { s with heap := h', toks := tk }) r 745 (.raw _) _ _ hm (fun b o hb e => hx b o hb e) htb (.raw fun u e => nomatch e)
 have aw : Aw fz ⟨σ.loc, put 745 (.raw (tabObj (ps ++ [rawInt (dZ i).line, rawInt (dZ i).col, .ref c']).toArray)) σ.mem⟩ c' := by
  obtain ⟨a1, a2⟩ := Aw.new r hn
  exact ⟨a1, by show (put 745 _ σ.mem).lookup c' = none; rw [aK, if_neg (by simpa using ne)]; exact a2⟩
 have g2 := Go.adopt r g1 hn hoc aw
 have g3 := g2.trans (Go.add (s' := { s with heap := h'.push (Fa i clos ((C.mg "__name__").getD .none) c' ctv), toks := tk }) g2.rep [(h'.objs.size, Fa i clos ((C.mg "__name__").getD .none) c' ctv)] (fun b o e => Heap.get?_push_of_some _ e) fun p hp => by
  rw [List.mem_singleton.mp hp]
  exact ⟨Heap.get?_none_of_le (Nat.le_refl _), Heap.get?_push_size _ rfl⟩)
 exact k _ c' _ _ g3 (.lam (.head _) (.tail _ (.head _)) hd hv (hrc.mono fun p hp => .tail _ (.tail _ hp)))
theorem NR : aA 748 (aH HB.o748) (HB.dbody (HB.tst 75)) := ⟨fun P => ⟨HB.o748, by kernel_rfl, rfl⟩, rfl, by kernel_rfl, by kernel_rfl, by kernel_rfl, rfl, rfl, rfl, ⟨747, HB.o747, _, _, rfl, fun P => by kernel_rfl, rfl, rfl⟩⟩
noncomputable def lawS : Scope := HB.dscope (HB.tst 75)
theorem sJ : mo lawS.names [n_script] = true := by kernel_rfl
structure qt (h : Heap) (C : Cx) (σ : St) (s : Shared) : Prop where
 all : ∀ b o, h.get? b = some o → b ≠ 745 → s.heap.get? b = some o ∧ σ.mem.lookup b = none ∧ b ∉ C.own ∧ b ∉ C.frs
theorem qt.go {h : Heap} {C : Cx} {fz fz' : Fz} {σ σ' : St} {s s' : Shared} (x : qt h C σ s) (g : Go C fz σ s fz' σ' s') : qt h C σ' s' := ⟨fun b o e hb => by
 obtain ⟨h1, h2, h3, h4⟩ := x.all b o e hb
 refine ⟨g.keep b o h1 h2 h3 h4, ?_, h3, h4⟩
 cases q : σ'.mem.lookup b with
 | none => rfl
 | some y =>
  rcases g.new b y q with ⟨z, hz⟩ | hz
  ·rw [h2] at hz; cases hz
  ·rw [h1] at hz; cases hz⟩
theorem qt.seal {h : Heap} {C : Cx} {σ : St} {s : Shared} {c : Addr} (x : qt h C σ s) : qt h (dJ C c) σ s := ⟨fun b o e hb => by
 obtain ⟨h1, h2, h3, h4⟩ := x.all b o e hb
 exact ⟨h1, h2, fun q => h3 (List.mem_filter.mp q).1, h4⟩⟩
noncomputable abbrev iu : Mem := [(745, .raw (tabObj ([] : List Value).toArray))]
theorem pW {prog : Program} {w : World} {s : Shared} {mg mb : Str → Option Value} (X : (HB.KF w.params).In s.heap) (hP : s.heap.get? 745 = some (tabObj #[])) (Tg : s.heap.Ns mainGlobals mg) (Tb : s.heap.Ns builtinsNs mb) (bb : ∀ x : Str, x ≠ "__name__" → mb x = bootBuiltins x) (nl : s.heap.NoLimit)
  (nd : ∃ mc, s.heap.Ns cStatics mc ∧ mc "sys.int_max_str_digits" = none) (bm : ∃ bm ob, mg "__builtins__" = some (.ref bm) ∧ bm ≠ builtinsNs ∧ s.heap.get? bm = some ob ∧ ob.cls = .type "module" ∧ ob.dict = some builtinsNs ∧ ob.data = .plain)
  {a : Addr} {vs : List Value} {xs : List Int} (ha : s.heap.get? a = some (dT vs 0)) (hv : bu w.params [] (xs.map .int) vs) (hl : xs.length ≤ cap) (a1 : a ≠ 1) {R : Result → Shared → Prop}
  (main : ∀ C fz s', Ok C → Fn C lawS → BM C → C.env.code = .ref 747 → C.env.qual = "law.<locals>." → C.w = w → C.d = 100 → qt s.heap C ⟨[(n_script, .list (xs.map .int))], iu⟩ s' → s'.gens = s.gens → s'.os = s.os → bt C fz ⟨[(n_script, .list (xs.map .int))], iu⟩ s' →
   wpAny (Md prog C) C.A (execs (HB.dbody (HB.tst 75)) C.env) (fun f s₂ => ∃ v, f = .ret v ∧ R (.ok (.ret v)) s₂) (fun _ _ => False) s') : codeAny (model prog w) callerA (.call (.ref 748) ⟨[.ref a], []⟩) R s := by
 have F := NR
 obtain ⟨o, hKo, hdata⟩ := F.obj w.params
 obtain ⟨c, oc, cvs, t, hc1, hc2, hc3, hc4⟩ := F.code
 have hrec : s.heap.CodeRec (aH HB.o748).code (aH HB.o748).qualname := ⟨c, oc, cvs, t, hc1, X _ _ (hc2 w.params), hc3, hc4⟩
 refine codeAny_call_function (by decide +kernel) (X _ _ hKo) hdata F.co F.gen F.body hrec ?_
 rw [show bindArgs (aH HB.o748) ⟨[.ref a], []⟩ = pure [(n_script, .ref a)] from by kernel_rfl]
 refine wpAny_pure ?_
 rw [F.clo]
 obtain ⟨k1, k2, k3⟩ := jU sJ
 have k2' : lawS.names.lookup n_script = some .local ∨ lawS.names.lookup n_script = some .cell := (Bool.or_eq_true_iff.mp (List.all_eq_true.mp k2 n_script (.head _))).imp eq_of_beq eq_of_beq
 refine wpAny_newFunctionEnv_cells F.kind (fun x hx => ?_) fun env he s' ic => ?_
 ·rw [List.mem_singleton.mp hx]
  exact k2'.imp id fun h => ⟨h, bE _ _ _ h⟩
 have hes : env.scope = lawS := by rw [he]; rfl
 have hko : ∀ x, env.kindOf x = lawS.names.lookup x := fun x => by unfold Env.kindOf; rw [hes]
 have hef : env.frame = some s.heap.objs.size := by rw [he]; rfl
 have heg : env.globals = mainGlobals := by rw [he]; rfl
 have hco : env.code = .ref 747 := by rw [he]; show (aH HB.o748).code = _; kernel_rfl
 have hqu : env.qual = "law.<locals>." := by rw [he]; kernel_rfl
 have heb : env.builtins = builtinsNs := by rw [he]; rfl
 have hloc : env.locals = s.heap.objs.size := by rw [he]; rfl
 have hcs : env.cells = cellsFrom (s.heap.objs.size + 1) lawS.names [] := by rw [he]; rfl
 have keep := ic.toInCall.keep
 have below : ∀ {b o}, s.heap.get? b = some o → b < s.heap.objs.size := fun e => Heap.lt_size e
 have above : ∀ {n c}, env.cells.lookup n = some c → s.heap.objs.size < c := fun h => hloc ▸ ic.above _ _ (mem_of_lookup h)
 let own := s.heap.objs.size :: dW env.cells
 have fresh : ∀ b ∈ own, s.heap.get? b = none := fun b hb => by
  rcases List.mem_cons.mp hb with rfl | hb
  ·exact Heap.get?_none_of_le (Nat.le_refl _)
  ·obtain ⟨n, e⟩ := ea hb
   exact Heap.get?_none_of_le (Nat.le_of_lt (above e))
 let C : Cx := { w, A := callerA.deeper env, h₀ := hideAll s.heap [745], outer := [], fenv := env, env := env, L := s.heap.objs.size, own := own, d := 100, k := 0, gens := s.gens, os := s.os, drawn := s.drawn, mg, mb }
 have frs : C.frs = [s.heap.objs.size] := by
  show (env :: []).filterMap (·.frame) = _
  rw [List.filterMap_cons, hef]; rfl
 have h0 : ∀ {b o}, b ≠ 745 → s.heap.get? b = some o → C.h₀.get? b = some o := fun hb e => hideAll_get _ e (by simpa using hb)
 have hn0 : ∀ {b}, s.heap.get? b = none → C.h₀.get? b = none := fun {b} h => c9 fun q => by
  obtain ⟨o, e⟩ := Option.isSome_iff_exists.mp q
  rw [of_hideAll _ e] at h; cases h
 have nsk : ∀ {b m}, s.heap.Ns b m → C.h₀.Ns b m := fun {b m} ⟨o, es, ep, e, hd, q⟩ => ⟨o, es, ep, h0 (fun h => by rw [h, hP] at e; cases e; cases hd) e, hd, q⟩
 have K0 : (HB.KF C.P).In C.h₀ := fun b o e => h0 (fun h => by
  have : (HB.KF C.P).lookup 745 = none := by kernel_rfl
  rw [← h, e] at this; cases this) (X b o e)
 have hnsL : ∃ o, s'.heap.get? s.heap.objs.size = some o ∧ ∀ vs, o.data ≠ .fields vs := by
  obtain ⟨o, es, ep, e, hd, _⟩ := ic.toInCall.ns
  exact ⟨o, hloc ▸ e, fun vs q => by rw [hd] at q; cases q⟩
 have O : Ok C := by
  refine ⟨rfl, hef, fun e he' => ?_, hef, hes ▸ F.kind, heg, heb, K0, nsk Tg, nsk Tb, bb, ?_, ?_, rfl, ?_, ?_⟩
  ·rw [List.mem_singleton.mp he', hes, hef]; exact ⟨by rw [show lawS.kind = .function from F.kind]; decide, rfl⟩
  ·obtain ⟨mc, h1, h2⟩ := nl; exact ⟨mc, nsk h1, h2⟩
  ·obtain ⟨mc, h1, h2⟩ := nd; exact ⟨mc, nsk h1, h2⟩
  ·show callerA.depth + 1 + 100 ≤ 990; decide +kernel
  ·show callerA.units + 3 + 16 * 100 + 0 ≤ 9800; decide +kernel
 have Fn' : Fn C lawS := ⟨hes, rfl, fun x hx => by
  have hx : lawS.names.lookup x = some .cell := (hko x).symm.trans hx
  obtain ⟨c, e⟩ := Option.isSome_iff_exists.mp (bE lawS.names (s.heap.objs.size + 1) [] hx)
  rw [← hcs] at e
  exact ⟨c, e, .tail _ (eJ e), fun y hy => name_of_addr ic.apart (mem_of_lookup hy) (mem_of_lookup e)⟩⟩
 have hB : BM C := by
  obtain ⟨bm, ob, b1, b2, b3, b4, b5, b6⟩ := bm
  have b7 : bm ≠ 745 := fun h => by rw [h, hP] at b3; cases b3; cases b4
  exact ⟨bm, ob, b1, b2, b7, h0 b7 b3, b4, b5, b6⟩
 have a7 : a ≠ 745 := fun h => by rw [h, hP] at ha; cases ha
 have old : qt s.heap C ⟨[(n_script, .list (xs.map .int))], iu⟩ s' := ⟨fun b o e hb => ⟨keep b o e, ?_, fun h => ?_, fun h => ?_⟩⟩
 rotate_left
 ·show iu.lookup b = none
  rw [List.lookup_cons, beq_eq_false_iff_ne.mpr hb]; rfl
 ·rw [fresh b h] at e; cases e
 ·rw [frs, List.mem_singleton] at h
  rw [h] at e; exact absurd (below e) (Nat.lt_irrefl _)
 have Ko : ∀ {b o}, (HB.KF w.params).lookup b = some o → b ≠ 1 → s'.heap.get? b = some o ∧ b ∉ C.own ∧ iu.lookup b = none ∧ b ∉ C.frs ∧ b ≠ 1 := fun {b o} e h1 => by
  have hb : b ≠ 745 := fun h => by
   have : (HB.KF w.params).lookup 745 = none := by kernel_rfl
   rw [← h, e] at this; cases this
  obtain ⟨o1, o2, o3, o4⟩ := old.all b o (X b o e) hb
  exact ⟨o1, o3, o2, o4, h1⟩
 have hr : bt C ((a, dT vs 0) :: Hi) ⟨[(n_script, .list (xs.map .int))], iu⟩ s' := by
  have rv : RV C.P ((a, dT vs 0) :: Hi) (.list (xs.map .int)) (.ref a) := .list (.head _) (by simpa using hl) (hv.mono fun _ h => absurd h List.not_mem_nil)
  refine ⟨fun b o e => keep b o (of_hideAll _ e), fun p hp => ?_, fun b x e => ?_, ?_, fun x v e q => ?_, fun b hb => ⟨?_, ?_⟩, ?_, fun b hb => ?_, fun x c e => ?_, ?_, fun p hp => .tail _ hp, ?_, ?_, ?_⟩
  ·rcases List.mem_cons.mp hp with rfl | hp
   ·obtain ⟨o1, o2, o3, o4⟩ := old.all a _ ha a7
    exact ⟨o1, o3, o2, o4, a1⟩
   ·rcases List.mem_cons.mp hp with rfl | hp
    ·exact Ko (by kernel_rfl) (by decide)
    ·rw [List.mem_singleton.mp hp]; exact Ko (by kernel_rfl) (by decide)
  ·have e : iu.lookup b = some x := e
   rw [List.lookup_cons] at e
   cases q : (b == 745) with
   | false => rw [q] at e; cases e
   | true =>
    rw [q] at e; cases e
    have q := eq_of_beq q
    subst q
    refine ⟨_, keep _ _ hP, .raw (by intro u e; cases e), hideAll_none _ (.head _), fun h => ?_, fun h => ?_, by decide⟩
    ·have := fresh _ h; rw [hP] at this; cases this
    ·rw [frs, List.mem_singleton] at h
     have := below hP; rw [← h] at this; exact Nat.lt_irrefl _ this
  ·refine ⟨_, ic.toInCall.ns, fun x v e q => ?_⟩
   obtain ⟨u, h1, h2, _⟩ := iy (names := [n_script]) (vs := [.list (xs.map .int)]) (us := [.ref a]) (k := env.kindOf) (fun _ => none) (List.nodup_cons.mpr ⟨List.not_mem_nil, List.nodup_nil⟩) (.cons rv .nil) e
   exact ⟨u, h1, h2 q⟩
  ·obtain ⟨u, h1, _, h3⟩ := iy (names := [n_script]) (vs := [.list (xs.map .int)]) (us := [.ref a]) (k := env.kindOf) (fun _ => none) (List.nodup_cons.mpr ⟨List.not_mem_nil, List.nodup_nil⟩) (.cons rv .nil) e
   have hx : x ∈ [n_script] := f8 (us := [V.list (xs.map .int)]) e
   have hx : x = n_script := List.mem_singleton.mp hx
   subst hx
   have hk : env.kindOf n_script = some .cell := by
    rcases k2' with h | h
    ·exact absurd ((hko _).trans h) q
    ·exact (hko _).trans h
   have hk' := hk
   rw [hko] at hk'
   obtain ⟨c, e'⟩ := Option.isSome_iff_exists.mp (bE lawS.names (s.heap.objs.size + 1) [] hk')
   rw [← hcs] at e'
   have cell := ic.cell _ c e'
   have h3 := h3 q
   exact ⟨c, u, .inl hk, e', h3 ▸ cell, h1⟩
  ·exact hn0 (fresh b hb)
  ·rcases List.mem_cons.mp hb with rfl | hb
   ·obtain ⟨o, e, _⟩ := hnsL; exact az e
   ·obtain ⟨n, e⟩ := ea hb
    obtain ⟨o, e', _⟩ := ic.cell n b e
    exact az e'
  ·show env.locals ∈ own
   rw [hloc]; exact .head _
  ·rw [frs, List.mem_singleton] at hb
   subst hb
   exact ⟨hn0 (fresh _ (.head _)), hnsL⟩
  ·have e : env.cells.lookup x = some c := e
   have h := above e
   refine ⟨fun q => ?_, ?_, fun q => ?_, ?_⟩
   ·rw [frs, List.mem_singleton] at q
    exact absurd q (Nat.ne_of_gt h)
   ·show iu.lookup c = none
    rw [List.lookup_cons, beq_eq_false_iff_ne.mpr fun q => ?_]
    ·rfl
    ·have := below hP; rw [← q] at this; exact absurd this (Nat.not_lt.mpr (Nat.le_of_lt h))
   ·exact absurd (q.trans hloc) (Nat.ne_of_gt h)
   ·obtain ⟨o, e', d⟩ := ic.cell x c e
    exact ⟨o, _, e', d⟩
  ·obtain ⟨o1, k⟩ : ∃ o1, (HB.KF w.params).lookup 1 = some o1 := Option.isSome_iff_exists.mp (by kernel_rfl)
   exact az (keep _ _ (X _ _ k))
  ·obtain ⟨hh, tk, hs'⟩ := ic.toInCall.same; rw [hs']
  ·obtain ⟨hh, tk, hs'⟩ := ic.toInCall.same; rw [hs']
  ·obtain ⟨hh, tk, hs'⟩ := ic.toInCall.same; rw [hs']
 obtain ⟨hh, tk, hs'⟩ := ic.toInCall.same
 exact ⟨nl.keeps keep, codeAny_func (wpAny_mono (main C _ s' O Fn' hB hco hqu rfl rfl old (by rw [hs']) (by rw [hs']) hr) (fun f s₂ ⟨v, e, q⟩ => by subst e; exact q) fun _ _ x => x.elim)⟩
theorem pX (st : Stmt) : oR ([], []) st = [] := by cases st <;> rfl
theorem oZ {prog : Program} {C : Cx} {f : Stmt → S} {d : Nat} (ih : ∀ {st : Stmt} {R : St → Prop} {σ : St} {Qn : St → Prop} {Qr : V → St → Prop}, bH prog d (f st) R σ Qn Qr → WS prog C σ (exec st C.env) Qn Qr R) {l₂ : List Stmt} {K : Flow → Shared → Prop} {E : Value → Shared → Prop} {Qn : St → Prop} {Qr : V → St → Prop} :
  ∀ (b : List Stmt) {σ : St} {fz : Fz} {s : Shared}, bH prog d (fM f ([], []) b) dP σ Qn Qr → bt C fz σ s → (∀ fz' σ' s', Go C fz σ s fz' σ' s' → Qn σ' → wpAny (Md prog C) C.A (execs l₂ C.env) K E s') →
   (∀ fz' y v σ' s', Go C fz σ s fz' σ' s' → RV C.P fz' y v → Qr y σ' → K (.ret v) s') → wpAny (Md prog C) C.A (execs (b ++ l₂) C.env) K E s
 | [], σ, fz, s, h, r, nx, _ => nx fz σ s (Go.refl r) h
 | st :: b, σ, fz, s, h, r, nx, rt => by
  have h : bH prog d (.seq (f st) (uD (fM f ([], []) b) (oR ([], []) st))) dP σ Qn Qr := h
  rw [pX] at h
  refine wpAny_execs_cons (wpAny_mono (ih (Qn := fun σ' => bH prog d (fM f ([], []) b) dP σ' Qn Qr) h fz s r) (fun fl s₁ p => ?_) fun e s₁ x => x.no.elim)
  cases fl with
  | next =>
   obtain ⟨fz₁, σ₁, g, q⟩ := p
   exact oZ ih b q g.rep (fun fz' σ' s' g' => nx fz' σ' s' (g.trans g')) fun fz' y v σ' s' g' => rt fz' y v σ' s' (g.trans g')
  | ret v =>
   obtain ⟨fz₁, y, σ₁, g, hv, q⟩ := p
   exact rt fz₁ y v σ₁ s₁ g hv q
  | cont => exact p.elim
  | brk => exact p.elim
theorem jg {prog : Program} {C : Cx} {fz : Fz} {σ : St} {s : Shared} (O : Ok C) (hb : BM C) (r : bt C fz σ s) {i : Nat} {x : Str} {px pos : Pos} {l : List (Str × V)} {clos : List (Str × Addr)} {ps : List Value} (hl : ij i = .Lambda (im i) (lQ i) (cj i) (dZ i)) (hrc : RC C.P fz l clos) (hcl : closureFor (cj i) C.env = pure clos) (hdef : defaultsOf (im i) C.env = ([], []))
  (hq : C.env.qual ++ "<lambda>" = lamQ) (hcode : C.env.code = .ref 747) (hm : σ.mem.lookup 745 = some (.raw (tabObj ps.toArray))) (ht : TriplesOk ps) (hnf : codeAmong (dZ i) ps = none) (hx : bj C x) {l₂ : List Stmt} {K : Flow → Shared → Prop} {E : Value → Shared → Prop}
  (k : ∀ fz' c' s', Go C fz σ s fz' ⟨put x (.lam i l) σ.loc, put 745 (.raw (tabObj (ps ++ [rawInt (dZ i).line, rawInt (dZ i).col, .ref c']).toArray)) σ.mem⟩ s' → wpAny (Md prog C) C.A (execs l₂ C.env) K E s') : wpAny (Md prog C) C.A (execs (.Assign [.Name x px] (ij i) pos :: l₂) C.env) K E s := by
 refine wpAny_execs_cons (wpAny_Assign_Name (Jg O hb r hl hrc hcl hdef hq hcode hm ht hnf fun fz' c' v s' g hv => fH O hx g.rep hv fun s₂ g₂ => k fz' c' s₂ (g.trans g₂)) ?_)
 rw [hl]; rfl
noncomputable def jV (i j : Nat) : List Stmt := ((HB.dbody (HB.tst 75)).drop i).take j
noncomputable def Jh (i : Nat) : Pos × Pos := match (jV (if i = 0 then 7 else if i = 1 then 10 else 11) 1).headD (.Pass default) with
 | .Assign ts _ q => (match ts with | .Name _ p :: _ => (p, q) | _ => default)
 | _ => default
noncomputable abbrev sK (i : Nat) (x : Str) : Stmt := .Assign [.Name x (Jh i).1] (ij i) (Jh i).2
theorem pY : HB.dbody (HB.tst 75) = jV 0 7 ++ sK 0 bz :: (jV 8 2 ++ sK 1 du :: sK 2 dw :: (jV 12 2 ++ [])) := by kernel_rfl
theorem uR : ij 0 = .Lambda (im 0) (lQ 0) (cj 0) (dZ 0) := by kernel_rfl
theorem uS : ij 1 = .Lambda (im 1) (lQ 1) (cj 1) (dZ 1) := by kernel_rfl
theorem uT : ij 2 = .Lambda (im 2) (lQ 2) (cj 2) (dZ 2) := by kernel_rfl
theorem gD : bf (cj 0).names = [an] := by kernel_rfl
theorem lu : bf (cj 1).names = [bz] := by kernel_rfl
theorem lw : bf (cj 2).names = [an] := by kernel_rfl
theorem uU (env : Env) : defaultsOf (im 0) env = ([], []) := by kernel_rfl
theorem uV (env : Env) : defaultsOf (im 1) env = ([], []) := by kernel_rfl
theorem uW (env : Env) : defaultsOf (im 2) env = ([], []) := by kernel_rfl
theorem F8 : lawS.names.lookup an = some .cell ∧ lawS.names.lookup bz = some .cell ∧ (lawS.names.lookup du = some .local ∧ lawS.names.lookup dw = some .local) := by refine ⟨by kernel_rfl, by kernel_rfl, by kernel_rfl, by kernel_rfl⟩
noncomputable def F9 : List Str := [an, bz]
noncomputable def sL : List Str := (fi lawS.names).filter fun x => !F9.contains x
noncomputable abbrev uX (sto : List Str) : Stmt → S := tH lawS.names sto [] ([], []) 40
noncomputable def NS : S := (.seq (.asg ay (.call (.gv (.ref 535)) (.cons (.loc ar) (.cons (.dct [] .nil) (.cons (.call (.gv (.ref 688)) (.cons (.loc ah) (.cons (.loc ar) (.cons (.loc am) .nil)))) .nil))))) (.seq (.asg c7 (.call (.gv (.ref 736)) (.cons (.loc am) .nil))) (.seq (.asg an (.ite (.cmp .Eq (.sub (.loc c7) (.int (0))) (.str aL)) (.call (.gv (.ref 659)) (.cons (.sub (.loc c7) (.int (2))) .nil)) (.int (0)))) .nil)))
noncomputable def v9 : S := (.seq (.asg bo (.comp [ah] a8 (.sub (.lst (.cons (.call (.gv (.ref 638)) (.cons (.loc ah) (.cons (.int (101)) .nil))) (.cons (.bin .Sub (.call (.gv (.ref 638)) (.cons (.loc ah) (.cons (.int (900)) .nil))) (.int (200))) .nil))) (.call (.gv (.ref 638)) (.cons (.loc ah) (.cons (.int (2)) .nil)))) (.call (.gv (.typ .range)) (.cons (.call (.gv (.ref 659)) (.cons (.loc am) .nil)) .nil)) .nil)) (.seq (.asg ad (.comp [ah] aD (.ite (.andd (.cons (.cmp .Eq (.bin .Mod (.loc aD) (.int (100))) (.int (0))) (.cons (.cmp .Eq (.call (.gv (.ref 638)) (.cons (.loc ah) (.cons (.int (2)) .nil))) (.int (0))) .nil))) (.bin .FloorDiv (.loc aD) (.int (100))) (.call (.gv (.ref 155)) (.cons (.loc aD) (.cons (.int (2)) .nil)))) (.loc bo) .nil)) (.seq (.iff (.cmp .NotEq (.comp [] af (.meth (.loc af) fX .nil) (.call (.gv (.ref 609)) (.cons (.loc ay) (.cons (.loc ad) (.cons (.loc aa) (.cons (.loc bz) .nil))))) .nil) (.comp [aa] aD (.call (.gv (.ref 724)) (.cons (.loc aD) (.cons (.loc aa) .nil))) (.call (.gv (.ref 717)) (.cons (.loc am) (.cons (.loc bo) (.cons (.int (2)) (.cons (.loc aa) .nil))))) .nil)) (.seq (.ret (.bool false)) .nil) .nil) (.seq (.asg eS (.ite (.cmp .Eq (.sub (.loc am) (.int (0))) (.str cH)) (.lst (.cons (.tup (.cons (.call (.gv (.ref 712)) (.cons (.loc am) (.cons (.sub (.loc bo) (.int (0))) .nil))) (.cons (.int (0)) .nil))) .nil)) (.comp [] aD (.call (.gv (.ref 724)) (.cons (.loc aD) (.cons (.int (2)) .nil))) (.call (.gv (.ref 705)) (.cons (.loc bo) (.cons (.int (2)) .nil))) .nil))) (.seq (.iff (.cmp .NotEq (.comp [] af (.meth (.loc af) fX .nil) (.call (.gv (.ref 603)) (.cons (.loc ay) (.cons (.loc ad) .nil))) .nil) (.loc eS)) (.seq (.ret (.bool false)) .nil) .nil) .nil)))))
noncomputable def sL1 : S := (.seq (.asg ah (.call (.gv (.ref 631)) (.cons (.loc n_script) .nil))) (.seq (.asg ar (.call (.gv (.ref 438)) .nil)) (.seq (.asg am (.call (.gv (.ref 676)) (.cons (.loc ah) .nil))) (.seq (.iff (.cmp .Eq (.sub (.loc am) (.int (0))) (.str cW)) (.seq (.asg cW (.call (.gv (.ref 535)) (.cons (.loc ar) (.cons (.dct [] .nil) (.cons (.call (.gv (.ref 251)) (.cons (.str ax) .nil)) .nil))))) (.seq (.ret (.andd (.cons (.call (.gv (.ref 743)) (.cons (.loc cW) (.cons (.lst .nil) (.cons .non .nil)))) (.cons (.call (.gv (.ref 743)) (.cons (.loc cW) (.cons (.lst (.cons (.int (1)) .nil)) (.cons .non .nil)))) .nil)))) .nil)) .nil) (.seq (.asg ay (.call (.gv (.ref 535)) (.cons (.loc ar) (.cons (.dct [] .nil) (.cons (.call (.gv (.ref 688)) (.cons (.loc ah) (.cons (.loc ar) (.cons (.loc am) .nil)))) .nil))))) (.seq (.asg c7 (.call (.gv (.ref 736)) (.cons (.loc am) .nil))) (.seq (.asg an (.ite (.cmp .Eq (.sub (.loc c7) (.int (0))) (.str aL)) (.call (.gv (.ref 659)) (.cons (.sub (.loc c7) (.int (2))) .nil)) (.int (0)))) .nil)))))))
theorem Ga : fM (uX (fi lawS.names)) ([], []) (jV 0 7) = sL1 := by kernel_rfl
noncomputable def sL2 : S := (.seq (.asg aa (.call (.gv (.ref 638)) (.cons (.loc ah) (.cons (.int (5)) .nil)))) (.seq (.for_ c8 (.call (.gv (.typ .range)) (.cons (.int (2)) .nil)) (.seq (.asg bo (.comp [ah] a8 (.sub (.lst (.cons (.call (.gv (.ref 638)) (.cons (.loc ah) (.cons (.int (101)) .nil))) (.cons (.bin .Sub (.call (.gv (.ref 638)) (.cons (.loc ah) (.cons (.int (900)) .nil))) (.int (200))) .nil))) (.call (.gv (.ref 638)) (.cons (.loc ah) (.cons (.int (2)) .nil)))) (.call (.gv (.typ .range)) (.cons (.call (.gv (.ref 659)) (.cons (.loc am) .nil)) .nil)) .nil)) (.seq (.asg ad (.comp [ah] aD (.ite (.andd (.cons (.cmp .Eq (.bin .Mod (.loc aD) (.int (100))) (.int (0))) (.cons (.cmp .Eq (.call (.gv (.ref 638)) (.cons (.loc ah) (.cons (.int (2)) .nil))) (.int (0))) .nil))) (.bin .FloorDiv (.loc aD) (.int (100))) (.call (.gv (.ref 155)) (.cons (.loc aD) (.cons (.int (2)) .nil)))) (.loc bo) .nil)) (.seq (.iff (.cmp .NotEq (.comp [] af (.meth (.loc af) fX .nil) (.call (.gv (.ref 609)) (.cons (.loc ay) (.cons (.loc ad) (.cons (.loc aa) (.cons (.loc bz) .nil))))) .nil) (.comp [aa] aD (.call (.gv (.ref 724)) (.cons (.loc aD) (.cons (.loc aa) .nil))) (.call (.gv (.ref 717)) (.cons (.loc am) (.cons (.loc bo) (.cons (.int (2)) (.cons (.loc aa) .nil))))) .nil)) (.seq (.ret (.bool false)) .nil) .nil) (.seq (.asg eS (.ite (.cmp .Eq (.sub (.loc am) (.int (0))) (.str cH)) (.lst (.cons (.tup (.cons (.call (.gv (.ref 712)) (.cons (.loc am) (.cons (.sub (.loc bo) (.int (0))) .nil))) (.cons (.int (0)) .nil))) .nil)) (.comp [] aD (.call (.gv (.ref 724)) (.cons (.loc aD) (.cons (.int (2)) .nil))) (.call (.gv (.ref 705)) (.cons (.loc bo) (.cons (.int (2)) .nil))) .nil))) (.seq (.iff (.cmp .NotEq (.comp [] af (.meth (.loc af) fX .nil) (.call (.gv (.ref 603)) (.cons (.loc ay) (.cons (.loc ad) .nil))) .nil) (.loc eS)) (.seq (.ret (.bool false)) .nil) .nil) .nil)))))) .nil))
theorem Gb : fM (uX (sL)) ([], []) (jV 8 2) = sL2 := by kernel_rfl
noncomputable def sL3 : S := (.seq (.iff (.andd (.cons (.cmp .Eq (.sub (.loc c7) (.int (0))) (.str aL)) (.cons (.not (.andd (.cons (.call (.gv (.ref 743)) (.cons (.loc ay) (.cons (.loc ad) (.cons .non .nil)))) (.cons (.call (.gv (.ref 743)) (.cons (.loc ay) (.cons (.loc ad) (.cons (.loc du) .nil)))) (.cons (.call (.gv (.ref 743)) (.cons (.loc ay) (.cons (.loc ad) (.cons (.loc dw) .nil)))) .nil))))) .nil))) (.seq (.ret (.bool false)) .nil) .nil) (.seq (.ret (.andd (.cons (.call (.gv (.ref 743)) (.cons (.loc ay) (.cons (.bin .Add (.loc ad) (.lst (.cons (.int (0)) .nil))) (.cons (.loc bz) .nil)))) (.cons (.call (.gv (.ref 743)) (.cons (.loc ay) (.cons (.bin .Add (.lst (.cons (.bool true) .nil)) (.slc (.loc ad) (.int (1)) .non)) (.cons (.loc bz) .nil)))) (.cons (.call (.gv (.ref 743)) (.cons (.loc ay) (.cons (.slc (.loc ad) (.int (1)) .non) (.cons (.loc bz) .nil)))) .nil))))) .nil))
theorem Gc : fM (uX (sL)) ([], []) (jV 12 2) = sL3 := by kernel_rfl
structure LF (S : List Str) (C : Cx) : Prop where
 ok : Ok C
 scope : C.env.scope = lawS
 top : C.env = C.fenv
 bm : BM C
 code : C.env.code = .ref 747
 qual : C.env.qual = "law.<locals>."
 d : 98 ≤ C.d
 cells : ∀ x, lawS.names.lookup x = some .cell → ∃ c, C.env.cells.lookup x = some c ∧ (∀ y, C.env.cells.lookup y = some c → y = x) ∧ (x ∉ S → c ∈ C.own)
section
variable {S : List Str} {C : Cx} {prog : Program}
theorem LF.kind (F : LF S C) (x : Str) : C.env.kindOf x = lawS.names.lookup x := by unfold Env.kindOf; rw [F.scope]
theorem LF.store (F : LF S C) {x : Str} (hx : x ∉ S) (h : lawS.names.lookup x = some .local ∨ lawS.names.lookup x = some .cell) : bj C x := by
 rcases h with h | h
 ·exact .inl ((F.kind x).trans h)
 ·obtain ⟨c, h1, h2, h3⟩ := F.cells x h
  exact .inr ⟨(F.kind x).trans h, c, h1, h3 hx, h2⟩
theorem LF.blk (F : LF S C) : jS C lawS.names := ⟨fun x hx => (F.kind x).trans hx, fun x hx => by
 rcases hx with hx | hx
 ·obtain ⟨c, e, _⟩ := F.cells x hx
  exact ⟨.inl ((F.kind x).trans hx), by rw [e]; rfl⟩
 ·exact absurd hx (eM sJ x)⟩
theorem LF.snd (F : LF S C) {sto : List Str} (hs : ∀ x ∈ sto, x ∉ S) {st : Stmt} {R : St → Prop} {σ : St} {Qn : St → Prop} {Qr : V → St → Prop} (h : bH prog 98 (uX sto st) R σ Qn Qr) : WS prog C σ (exec st C.env) Qn Qr R :=
 sm (sH (by decide)) sI F.ok F.d F.blk F.kind (fun x hx hl => F.store (hs x hx) hl) F.top 40 h
theorem LF.seal (F : LF S C) {x : Str} (hx : x ∉ S) (hk : lawS.names.lookup x = some .cell) {fz : Fz} {σ : St} {s : Shared} (r : bt C fz σ s) {v : V} (hv : σ.loc.lookup x = some v) :
  ∃ c o u, LF (x :: S) (dJ C c) ∧ C.env.cells.lookup x = some c ∧ bt (dJ C c) ((c, o) :: fz) σ s ∧ o.data = .cell (some u) ∧ RV C.P fz v u := by
 refine gk fun _ kk => ?_
 obtain ⟨c, h1, h2, h3⟩ := F.cells x hk
 refine kk ?_; clear kk
 obtain ⟨o, u, r', e, hu⟩ := uQ F.ok r h1 (h3 hx) hv (by rw [F.kind, hk]; decide)
 refine ⟨c, o, u, ⟨uP F.ok, F.scope, F.top, F.bm, F.code, F.qual, F.d, fun y hy => ?_⟩, h1, r', e, hu⟩
 refine gk fun _ kk => ?_
 obtain ⟨c', a1, a2, a3⟩ := F.cells y hy
 refine kk ?_; clear kk
 refine ⟨c', a1, a2, fun q => List.mem_filter.mpr ⟨a3 fun z => q (.tail _ z), bne_iff_ne.mpr fun z => ?_⟩⟩
 rw [z] at a1 a2
 exact q (a2 x h1 ▸ .head _)
theorem jh {env : Env} {i : Nat} {x : Str} {c : Addr} (hf : bf (cj i).names = [x]) (hc : env.cells.lookup x = some c) : closureFor (cj i) env = pure [(x, c)] := by
 rw [fU fun n hn => ?_]
 ·rw [hf]
  show pure [(x, (env.cells.lookup x).getD 0)] = _
  rw [hc]; rfl
 ·rw [hf, List.mem_singleton] at hn
  rw [hn, hc]; rfl
noncomputable def LQr (v : V) (σ : St) : Prop := v = .bool true ∧ ∃ ps, σ.mem.lookup 745 = some (.raw (tabObj ps))
noncomputable abbrev ji (cv : V) : V := .lam 0 [(an, cv)]
noncomputable abbrev jj (cv : V) : V := .lam 1 [(bz, ji cv)]
noncomputable abbrev jk (cv : V) : V := .lam 2 [(an, cv)]
noncomputable def pZ (prog : Program) (cv : V) (p0 : List Value) (σ : St) : Prop := σ.mem.lookup 745 = some (.raw (tabObj p0.toArray)) ∧ ∀ p1 p2 : List Value,
 bH prog 98 sL3 dP ⟨put dw (jk cv) (put du (jj cv) σ.loc), put 745 (.raw (tabObj p2.toArray)) (put 745 (.raw (tabObj p1.toArray)) σ.mem)⟩ (fun _ => False) LQr
noncomputable def p6 (prog : Program) (σ : St) : Prop := ∃ cv, σ.loc.lookup an = some cv ∧ σ.mem.lookup 745 = some (.raw (tabObj ([] : List Value).toArray)) ∧ ∀ p0 : List Value,
 bH prog 98 sL2 dP ⟨put bz (ji cv) σ.loc, put 745 (.raw (tabObj p0.toArray)) σ.mem⟩ (pZ prog cv p0) LQr
theorem uY {h : Heap} {fz : Fz} {s : Shared} {σ : St} (F : LF [] C) (old : qt h C σ s) (r : bt C fz σ s) (H : bH prog 98 sL1 dP σ (p6 prog) LQr) {K : Flow → Shared → Prop} {E : Value → Shared → Prop}
  (fin : ∀ C' fz σ s ps, qt h C' σ s → bt C' fz σ s → C'.gens = C.gens → C'.os = C.os → σ.mem.lookup 745 = some (.raw (tabObj ps)) → K (.ret (.bool true)) s) : wpAny (Md prog C) C.A (execs (HB.dbody (HB.tst 75)) C.env) K E s := by
 rw [pY]
 have rt : ∀ {C' : Cx} {fz fz' : Fz} {σ σ' : St} {s s' : Shared} {y : V} {v : Value}, qt h C' σ s → C'.gens = C.gens → C'.os = C.os → Go C' fz σ s fz' σ' s' → RV C'.P fz' y v → LQr y σ' → K (.ret v) s' := fun o e1 e2 g hv ⟨e, ps, q⟩ => by
  subst e
  cases hv
  exact fin _ _ _ _ ps (o.go g) g.rep e1 e2 q
 refine oZ (fun h => F.snd (sto := fi lawS.names) (fun _ _ => List.not_mem_nil) h) (Qn := p6 prog) (Qr := LQr) (jV 0 7) (by rw [Ga]; exact H) r (fun fz₁ σ₁ s₁ g₁ ⟨cv, c1, c2, c3⟩ => ?_) fun fz' y v σ' s' g hv q => rt old rfl rfl g hv q
 obtain ⟨kc, ka, ks, kw⟩ := F8
 refine gk fun _ kk => ?_
 obtain ⟨cc, co, cu, F₁, cl1, r₁, d1, hv1⟩ := F.seal List.not_mem_nil kc g₁.rep c1
 refine kk ?_; clear kk
 have old₁ : qt h (dJ C cc) σ₁ s₁ := (old.go g₁).seal
 have rc0 : RC C.P ((cc, co) :: fz₁) [(an, cv)] [(an, cc)] := .cons (.head _) d1 (hv1.mono fun _ q => .tail _ q) .nil
 show wpAny (Md prog (dJ C cc)) (dJ C cc).A (execs _ (dJ C cc).env) K E s₁
 refine jg F₁.ok F₁.bm r₁ (ps := []) uR rc0 (jh gD cl1) (uU _) (by rw [F₁.qual]; kernel_rfl) F₁.code c2 trivial rfl (F₁.store (by decide +kernel) (.inr ka)) fun fz₂ c0 s₂ g₂ => ?_
 have old₂ := old₁.go g₂
 have rc0' : RC C.P fz₂ [(an, cv)] [(an, cc)] := rc0.mono g₂.sub
 obtain ⟨ac, ao, au, F₂, cl2, r₂, d2, hv2⟩ := F₁.seal (x := bz) (v := ji cv) (by decide +kernel) ka g₂.rep (by show (put bz _ _).lookup bz = _; rw [aK, if_pos (beq_self_eq_true _)])
 have old₃ := old₂.seal (c := ac)
 let C₂ := dJ (dJ C cc) ac
 have rc1 : RC C.P ((ac, ao) :: fz₂) [(bz, ji cv)] [(bz, ac)] := .cons (.head _) d2 (hv2.mono fun _ q => .tail _ q) .nil
 show wpAny (Md prog C₂) C₂.A (execs _ C₂.env) K E s₂
 have hs3 : ∀ x ∈ sL, x ∉ [bz, an] := fun x hx q => by
  have := (List.mem_filter.mp hx).2
  simp only [List.mem_cons, List.not_mem_nil, or_false] at q
  rcases q with rfl | rfl <;> exact absurd this (by decide +kernel)
 refine oZ (fun h => F₂.snd (sto := sL) hs3 h) (Qn := pZ prog cv ([] ++ [rawInt (dZ 0).line, rawInt (dZ 0).col, .ref c0])) (Qr := LQr) (jV 8 2) (by rw [Gb]; exact c3 _) r₂ (fun fz₃ σ₃ s₃ g₃ ⟨q1, q2⟩ => ?_) fun fz' y v σ' s' g hv q => rt old₃ rfl rfl g hv q
 have old₄ := old₃.go g₃
 refine jg F₂.ok F₂.bm g₃.rep uS (rc1.mono g₃.sub) (jh lu cl2) (uV _) (by rw [F₂.qual]; kernel_rfl) F₂.code q1 trivial (by kernel_rfl) (F₂.store (by decide +kernel) (.inl ks)) fun fz₄ c1' s₄ g₄ => ?_
 have old₅ := old₄.go g₄
 refine jg (ps := ([] ++ [rawInt (dZ 0).line, rawInt (dZ 0).col, .ref c0]) ++ [rawInt (dZ 1).line, rawInt (dZ 1).col, .ref c1']) F₂.ok F₂.bm g₄.rep uT ((rc0'.mono fun p q => .tail _ q).mono fun p q => g₄.sub p (g₃.sub p q)) (jh lw cl1) (uW _) (by rw [F₂.qual]; kernel_rfl) F₂.code (by show (put 745 _ _).lookup 745 = _; rw [aK, if_pos (beq_self_eq_true _)]) (TriplesOk_snoc _ _ _ _ (TriplesOk_snoc _ _ _ [] trivial)) (by kernel_rfl) (F₂.store (by decide +kernel) (.inl kw)) fun fz₅ c2' s₅ g₅ => ?_
 have old₆ := old₅.go g₅
 exact oZ (fun h => F₂.snd (sto := sL) hs3 h) (Qn := fun _ => False) (Qr := LQr) (jV 12 2) (by rw [Gc]; exact q2 _ _) g₅.rep (fun _ _ _ _ q => q.elim) fun fz' y v σ' s' g hv q => rt old₆ rfl rfl g hv q
end
theorem uZ {P : Params} {w : Params} {h : Heap} {fz : Fz} {xs : List Int} : ∀ {vs : List Value}, WellAll w h vs (ofPys (xs.map PyData.int)) → bu P fz (xs.map .int) vs := by
 induction xs with
 | nil => intro vs h; cases h; exact .nil
 | cons x xs ih => intro vs h; cases h with | cons h r => cases h; exact .cons (.int _ _) (ih r)
theorem p7 (H : ∀ xs : List Int, xs.length ≤ 63 → bH HB.R0.prog 98 sL1 dP ⟨[(n_script, .list (xs.map .int))], iu⟩ (p6 HB.R0.prog) LQr) : HB.L0.Holds := by
 refine HB.top ?_
 intro w s₀ s₁ mg mb G Y fa o pm cd Oe dV kV ho hd hcd hD hmg hg args vals as hpre hlay hrd hwl hlo
 wrow_args hpre hlay hrd hwl hlo
 rename_i xs _ _ _ _ _ _ _ a vs _ hL ra hW r0 hI hr hlen hc
 refine enter_call ?_
 have X : (HB.KF w.params).In s₁.heap := km_in_of Y
 have hP : s₁.heap.get? 745 = some (tabObj #[]) := km_tabs_of Y 745 (.head _)
 have T := G.T
 have e := mg_of X T.g (show nsIn (HB.KF w.params) mainGlobals HB.dlaw.name = some (some (.ref 748)) by kernel_rfl)
 rw [hmg] at e; cases e
 refine gk fun _ kk => ?_
 cases hW with | list ha hw =>
 refine kk ?_; clear kk
 have a1 : a ≠ 1 := fun e => by
  have k : ((HB.KF w.params).lookup 1).map (fun o => match o.data with | .seq .. => true | _ => false) = some false := by kernel_rfl
  refine gk fun _ kk => ?_
  obtain ⟨o1, k1⟩ : ∃ o1, (HB.KF w.params).lookup 1 = some o1 := Option.isSome_iff_exists.mp (by kernel_rfl)
  have := X _ _ k1
  rw [← e, ha] at this; cases this
  rw [k1] at k; cases k
 refine pW X hP T.g T.b T.builtins T.nolimit T.nodigits T.bmain ha (uZ hw) (by have : ¬ (63 : Int) < xs.length := hlen; simp only [cap]; lia) a1 fun C fz s' O F hB hc hq hw' hd' old hg' ho' r => ?_
 refine uY (h := s₁.heap) ⟨O, F.scope, F.top, hB, hc, hq, by lia, fun x hx => ?_⟩ old r (H xs (by have : ¬ (63 : Int) < xs.length := hlen; lia)) fun C' fz' σ s ps o' r' e1 e2 q => ⟨_, rfl, ?_⟩
 ·have hk : C.env.kindOf x = some .cell := by unfold Env.kindOf; rw [F.scope]; exact hx
  refine gk fun _ kk => ?_
  obtain ⟨c, h1, h2, h3⟩ := F.cells x hk
  refine kk ?_; clear kk
  exact ⟨c, h1, h3, fun _ => h2⟩
 ·obtain ⟨o, m1, m2, _⟩ := r'.mem _ _ q
  cases m2
  refine ⟨.inl ⟨_, .bool true, [], rfl, fun cls => ?_, .bool true, ?_, fun _ => ⟨List.nodup_nil, fun _ h => absurd h List.not_mem_nil⟩⟩, ⟨fun b o e => ?_, fun b o e => ?_⟩, ?_, ?_⟩
  ·first | rfl | exact raisesW_none (by wrow_none_raised) _
  ·wrow_post
  ·by_cases hb : b = 745
   ·subst hb
    rw [hP] at e; cases e
    exact .inr (.inl ⟨((codeHd_of_K (c := 747) X (by kernel_rfl)).tab hP).isCodeTable, rfl, #[], ps, rfl, by rw [m1]; simp⟩)
   ·exact .inl (o'.all b o e hb).1
  ·by_cases hb : b = 745
   ·subst hb; exact ⟨_, m1⟩
   ·exact ⟨o, (o'.all b o e hb).1⟩
  ·rw [r'.os, e2, ← r.os, ho']
  ·exact .of_eq (by rw [r'.gens, e1, ← r.gens, hg', hg])
theorem ag {α : Type} {o : Option α} {a : α} {K : α → Prop} (h : o = some a) (k : K a) : fS o K := by subst h; exact k
theorem dj {b : Bool} {A B : Prop} (h : b = true) (a : A) : iK b A B := by subst h; exact a
theorem bn {b : Bool} {A B : Prop} (h : b = false) (a : B) : iK b A B := by subst h; exact a
theorem qN.ten {j : Int} (h : 0 ≤ j) (h2 : j ≤ 1000) : qN 10 j := ⟨h, by lia, by decide⟩
theorem o0 (i : Int) : cZ i = i.natAbs := by unfold cZ; split <;> lia
theorem eO {a b : Int} (h : a.natAbs < 2 ^ 64) : qL a b := ⟨IntMulOk.of_left (intBits_le_iff.mpr h)⟩
theorem bL {a b : Int} (h : b.natAbs < 2 ^ 64) : qL a b := ⟨IntMulOk.of_right (intBits_le_iff.mpr h)⟩
theorem cY {n : Nat} (h : n ≤ 19) : ((10 : Int) ^ n).natAbs < 2 ^ 64 := by
 rw [Int.natAbs_pow]
 exact Nat.lt_of_le_of_lt (Nat.pow_le_pow_right (by decide) h) (by decide)
theorem sM {n : Nat} (h : n ≠ 0) : (2 * n).log2 = n.log2 + 1 := by
 rw [Nat.log2_def (2 * n), if_pos (by lia)]
 congr 1
 rw [Nat.mul_div_cancel_left _ (by decide)]
theorem kB {n : Nat} (h : n < 2 ^ 64) : n.log2 < 64 := by
 cases n with
 | zero => decide
 | succ n => exact (Nat.log2_lt (by lia)).mpr h
theorem jl {b : Int} (h : b ≠ 0) (hs : b.natAbs < 2 ^ 64) : qM b := ⟨h, Nat.lt_trans (kB hs) (by decide)⟩
theorem bA.up {prog : Program} {d d' : Nat} {f : V} {as : List V} {mem : Mem} {Q : V → Mem → Prop} {R : Mem → Prop} (h : bA prog d f as mem Q R) (hd : d ≤ d') : bA prog d' f as mem Q R := ⟨h.k, h.c.mono hd (fun _ _ q => q) fun _ q => q⟩
theorem bS {α β : Type} [BEq α] [LawfulBEq α] (a : α) (v u : β) (l : List (α × β)) : put a v ((a, u) :: l) = (a, v) :: l := by
 show (if (a == a) = true then _ else _) = _
 rw [if_pos (beq_self_eq_true a)]
theorem bp {α β : Type} [BEq α] [LawfulBEq α] (a : α) (u : β) (l : List (α × β)) : ((a, u) :: l).lookup a = some u := by rw [List.lookup_cons, beq_self_eq_true]
theorem cf {prog : Program} {k : Nat} {a : Addr} {names : List Str} {s : S} (F : aU a names s) {as vs : List V} (hb : aV a as names vs) {mem : Mem} {Q : V → Mem → Prop} {R : Mem → Prop}
  (h : bH prog (k + 2) s (fun σ => R σ.mem) ⟨names.zip vs, mem⟩ (fun σ => Q .none σ.mem) (fun v σ => Q v σ.mem)) : bA prog (k + 3) (.ref a) as mem Q R :=
 FP (sH (Nat.le_add_left 2 k)) sI F hb h
noncomputable def JK : List (Str × Str) → S
 | [] => .nil
 | (f, x) :: r => .seq (.sat (.loc aj) f (.loc x)) (JK r)
theorem o5 {prog : Program} {d : Nat} {R : St → Prop} {Qr : V → St → Prop} {loc : List (Str × V)} {x dx c : Addr} {m : Mem} (hs : loc.lookup aj = some (.imut x dx c)) {Qn : St → Prop} : ∀ (fs : List (Str × Str)) (vs : List V) (l : List (Str × V)),
  (fs.all fun p => rB c p.1) = true → fs.map (fun p => loc.lookup p.2) = vs.map some → l.length + fs.length < 900 → Qn ⟨loc, (dx, .dict ((fs.zip vs).foldl (fun l p => put p.1.1 p.2 l) l)) :: m⟩ →
  bH prog d (JK fs) R ⟨loc, (dx, .dict l) :: m⟩ Qn Qr
 | [], _, _, _, _, _, h => h
 | (f, y) :: fs, [], _, _, e, _, _ => by simp at e
 | (f, y) :: fs, v :: vs, l, hb, e, hl, h => by
  simp only [List.all_cons, Bool.and_eq_true] at hb
  simp only [List.map_cons, List.cons.injEq] at e
  simp only [List.length_cons] at hl
  refine ag e.1 (ag hs ?_)
  refine cC hb.1 (ag (bp ..) (cC (by simp; lia) ?_))
  show bH prog d (JK fs) R ⟨loc, put dx _ _⟩ Qn Qr
  rw [bS]
  refine o5 hs fs vs _ hb.2 e.2 ?_ h
  have := fG f v l
  lia
theorem gE {prog : Program} {k : Nat} {c f : Addr} {ps : List Str} {fs : List (Str × Str)} (hm : (c, f) ∈ nq) (F : aU f (aj :: ps) (JK fs)) {as vs : List V} (hb : ∀ x dx, aV f (.imut x dx c :: as) (aj :: ps) (.imut x dx c :: vs)) (h1 : (fs.all fun p => rB c p.1) = true)
  (us : List V) (h2 : ∀ s, fs.map (fun p => ((aj, s) :: ps.zip vs).lookup p.2) = us.map some) (h3 : fs.length < 900) {mem : Mem} {Q : V → Mem → Prop} {R : Mem → Prop} (h : Q (.inst c ((fs.zip us).foldl (fun l p => put p.1.1 p.2 l) [])) mem) : bA prog (k + 4) (.ref c) as mem Q R :=
 i9 hm fun x dx hdx => (cf (R := fun _ => False) F (hb x dx) (o5 (x := x) (dx := dx) (c := c) rfl fs us [] h1 (h2 _) (by simpa using h3) ⟨rfl, _, bp .., by rw [dp hdx]; exact h⟩)).c
noncomputable def o6 (n : Int) : Int := if n = 0 then 0 else if n > 0 then 1 else -1
theorem kC (n : Int) : (o6 n).natAbs < 2 ^ 64 := by unfold o6; split <;> (try split) <;> decide
noncomputable def ae : Nat → Int → Int × Nat
 | 0, t => (t, 0)
 | p + 1, t => if t.fmod 10 = 0 then ae p (t.fdiv 10) else (t, p + 1)
noncomputable def D (q : Int × Nat) : V := .inst 155 [(aD, .int q.1), (aa, .int q.2)]
inductive Nm : V → Int × Nat → Prop
 | int (n : Int) : Nm (.int n) (n, 0)
 | dec (q : Int × Nat) : Nm (D q) q
noncomputable def rq (top below : Int) : Int := (2 * cZ top + cZ below).fdiv (2 * cZ below) * o6 top * o6 below
noncomputable def up (q : Int × Nat) (m : Int) : Int := q.1 * 10 ^ (m - q.2).toNat
noncomputable def mx (q r : Int × Nat) : Int := bM q.2 r.2
noncomputable def lM (q r : Int × Nat) : Int := up q (mx q r) - up r (mx q r)
theorem o7 {a b c : Int} (h : a ≤ c) (h2 : b ≤ c) : bM a b ≤ c := by unfold bM; split <;> lia
theorem sN (a b : Int) : a ≤ bM a b := by unfold bM; split <;> lia
theorem jm (a b : Int) : b ≤ bM a b := by unfold bM; split <;> lia
theorem sO (a b : Nat) : bM a b = ((max a b : Nat) : Int) := by unfold bM; split <;> lia
section
variable {prog : Program} {k : Nat} {mem : Mem} {Q : V → Mem → Prop} {R : Mem → Prop}
theorem gW {n : Int} (h : Q (.int (o6 n)) mem) : bA prog (k + 3) (.ref 173) [.int n] mem Q R := by
 refine cf Mc Mb ?_
 unfold o6 at h
 refine kU (fun e => ?_) (fun e => ?_)
 ·rw [if_pos (eq_of_beq e)] at h; exact h
 ·rw [if_neg (by simpa using e)] at h
  refine cS (fun e => ?_) (fun e => ?_)
  ·rw [if_pos e] at h; exact h
  ·rw [if_neg e] at h; exact h
theorem nH {t : Int} {p : Nat} {x dx : Addr} {m : Mem} (h : Q .none ((dx, .dict [(aD, .int (ae p t).1), (aa, .int (ae p t).2)]) :: m)) : bA prog (k + 3) (.ref 75) [.imut x dx 155, .int t, .int p] ((dx, .dict []) :: m) Q R := by
 refine cf OL OK ?_
 refine ⟨fun n σ => ∃ t', ae n t' = ae p t ∧ σ = ⟨[(aj, .imut x dx 155), (aD, .int t'), (aa, .int n)], (dx, .dict []) :: m⟩, p, ⟨t, rfl, rfl⟩, ?_⟩
 rintro n σ₁ ⟨t', h1, rfl⟩
 have fin : ae p t = (t', n) → bH prog (k + 2) (.seq (.sat (.loc aj) aD (.loc aD)) (.seq (.sat (.loc aj) aa (.loc aa)) .nil)) (fun σ => R σ.mem) ⟨[(aj, .imut x dx 155), (aD, .int t'), (aa, .int n)], (dx, .dict []) :: m⟩ (fun σ => Q .none σ.mem) (fun v σ => Q v σ.mem) := fun e => by
  rw [e] at h
  refine ag (bp ..) ?_
  refine ag (a := .dict [(aD, .int t')]) (by rw [bS, bp]; rfl) ?_
  show Q .none (put dx _ (put dx _ _))
  rw [bS, bS]; exact h
 cases n with
 | zero => exact fin h1.symm
 | succ n =>
  refine cS (fun _ => ?_) fun e => absurd (by lia) e
  refine And.intro (by decide) ?_
  by_cases hz : t'.fmod 10 = 0
  ·refine dj (by rw [hz]; rfl) ?_
   refine And.intro (jl (by decide) (by decide)) ?_
   refine ⟨n, Nat.lt_succ_self n, t'.fdiv 10, ?_, ?_⟩
   ·rw [← h1]; exact (if_pos hz).symm
   ·show St.mk _ _ = _
    have : ((n + 1 : Nat) : Int) - 1 = n := by lia
    rw [← this]; rfl
  ·refine bn (by simpa using hz) (fin ?_)
   rw [← h1]; exact if_neg hz
theorem o8 {t : Int} {p : Nat} (h : Q (D (ae p t)) mem) : bA prog (k + 4) (.ref 155) [.int t, .int p] mem Q R :=
 i9 (c := 155) (f := 75) (by decide) fun x dx hdx => (nH (R := fun _ => False) ⟨rfl, _, bp .., by rw [dp hdx]; exact h⟩).c
theorem eB {t p : Int} {n : Nat} (e : p = n) (h : Q (D (ae n t)) mem) : bA prog (k + 4) (.ref 155) [.int t, .int p] mem Q R := by subst e; exact o8 h
theorem u5 {q : Int × Nat} (hp : q.2 ≤ 19) (h : Q (.int (q.1.fdiv (10 ^ q.2))) mem) : bA prog (k + 3) (.ref 124) [D q] mem Q R := by
 refine cf L6 L5 ?_
 refine And.intro (.ten (by lia) (by lia)) ?_
 refine And.intro (jl (Int.pow_ne_zero (by decide)) (cY hp)) h
theorem sP {q : Int × Nat} (h : Q (.tup [.int q.1, .int q.2]) mem) : bA prog (k + 3) (.ref 138) [D q] mem Q R := by
 refine cf Ma L9 ?_
 exact h
theorem d0 {t b : Int} (hb : b ≠ 0) (hs : b.natAbs < 2 ^ 64) (h : Q (.int (rq t b)) mem) : bA prog (k + 4) (.ref 180) [.int t, .int b] mem Q R := by
 refine cf Mf Me ?_
 refine And.intro (eO (by decide)) ?_
 refine And.intro (eO (by decide)) ?_
 have hn : b.natAbs ≠ 0 := by lia
 have e : (2 * cZ b).natAbs = 2 * b.natAbs := by rw [o0]; lia
 refine And.intro (.mk (by rw [o0]; lia) (by rw [e, sM hn]; have := kB hs; lia)) ?_
 refine gW ?_
 refine And.intro (bL (kC _)) ?_
 refine gW ?_
 exact And.intro (bL (kC _)) h
theorem aT {v : V} {q : Int × Nat} (hv : Nm v q) (h : Q (D q) mem) : bA prog (k + 5) (.ref 187) [v] mem Q R := by
 refine cf Mh Mg ?_
 cases hv with
 | int n => exact o8 (p := 0) h
 | dec q => exact h
theorem d5 {v w : V} {q r : Int × Nat} (hv : Nm v q) (hw : Nm w r) (h1 : q.2 ≤ 19) (h2 : r.2 ≤ 19)
  (h : Q (.tup [.int (up q (mx q r)), .int (up r (mx q r)), .int (mx q r)]) mem) : bA prog (k + 6) (.ref 194) [v, w] mem Q R := by
 refine cf Mj Mi ?_
 refine aT hv ?_
 refine aT hw ?_
 have m1 : bM q.2 r.2 - q.2 ≥ 0 := Int.sub_nonneg.mpr (sN _ _)
 have m2 : bM q.2 r.2 - r.2 ≥ 0 := Int.sub_nonneg.mpr (jm _ _)
 have m3 : bM q.2 r.2 ≤ 19 := o7 (by lia) (by lia)
 refine And.intro (.ten m1 (by lia)) ?_
 refine And.intro (bL (cY (by lia))) ?_
 refine And.intro (.ten m2 (by lia)) ?_
 exact And.intro (bL (cY (by lia))) h
theorem gd {v w : V} {q r : Int × Nat} (hv : Nm v q) (hw : Nm w r) (h1 : q.2 ≤ 19) (h2 : r.2 ≤ 19) (h : Q (.int (o6 (lM q r))) mem) : bA prog (k + 7) (.ref 110) [v, w] mem Q R := by
 refine cf L4 LZ ?_
 refine d5 hv hw h1 h2 ?_
 exact gW h
theorem u6 {v w : V} {q r : Int × Nat} (hv : Nm v q) (hw : Nm w r) (h1 : q.2 ≤ 19) (h2 : r.2 ≤ 19) (h : Q (D (ae (max q.2 r.2) (lM q r))) mem) : bA prog (k + 7) (.ref 89) [v, w] mem Q R := by
 refine cf ON OM ?_
 refine d5 hv hw h1 h2 ?_
 exact eB (sO _ _) h
theorem u7 {w : V} {q r : Int × Nat} (hw : Nm w r) (hr : r.1.natAbs < 2 ^ 64) (h : Q (D (ae (q.2 + r.2) (q.1 * r.1))) mem) : bA prog (k + 6) (.ref 96) [D q, w] mem Q R := by
 refine cf OP OO ?_
 refine aT hw ?_
 refine And.intro (bL hr) ?_
 exact eB (by simp) h
theorem kD {q : Int × Nat} {p : Nat} (h1 : q.2 ≤ 19) (h : Q (D (if q.2 ≤ p then q else ae p (rq q.1 (10 ^ (q.2 - p))))) mem) : bA prog (k + 5) (.ref 131) [D q, .int p] mem Q R := by
 refine cf L8 L7 ?_
 refine cS (fun e => ?_) (fun e => ?_)
 ·rw [if_pos (by lia)] at h; exact h
 ·rw [if_neg (by lia)] at h
  refine And.intro (.ten (by lia) (by lia)) ?_
  have e2 : ((q.2 : Int) - p).toNat = q.2 - p := by lia
  refine d0 ?_ ?_ ?_
  ·exact Int.pow_ne_zero (by decide)
  ·exact cY (by lia)
  ·rw [e2]; exact o8 h
theorem Gd {v w : V} {q r : Int × Nat} {p : Nat} (hv : Nm v q) (hw : Nm w r) (h1 : q.2 ≤ 19) (h2 : r.2 ≤ 19) (hp : p ≤ 19) (hb : up r (mx q r) ≠ 0) (hs : (up r (mx q r)).natAbs < 2 ^ 64) (h : Q (D (ae p (rq (up q (mx q r) * 10 ^ p) (up r (mx q r))))) mem) : bA prog (k + 7) (.ref 206) [v, w, .int p] mem Q R := by
 refine cf Mo Mn ?_
 refine d5 hv hw h1 h2 ?_
 refine bn (by simpa using hb) ?_
 refine And.intro (.ten (by lia) (by lia)) ?_
 refine And.intro (bL (cY hp)) ?_
 exact d0 hb hs (o8 h)
theorem o9 (x : Int) : decide (o6 x < 0) = decide (x < 0) := by
 unfold o6; split <;> (try split) <;> simp <;> lia
theorem lx (x : Int) : decide (o6 x > 0) = decide (x > 0) := by
 unfold o6; split <;> (try split) <;> simp <;> lia
theorem nI {v w : V} {q r : Int × Nat} (hv : Nm v q) (hw : Nm w r) (h1 : q.2 ≤ 19) (h2 : r.2 ≤ 19) (h : Q (D (if lM q r < 0 then r else q)) mem) : bA prog (k + 8) (.ref 227) [.list [v, w]] mem Q R := by
 refine cf Mu Mt ?_
 refine aT hv ?_
 refine gd (.dec q) hw h1 h2 ?_
 refine cS (fun e => ?_) (fun e => ?_)
 ·rw [if_pos (by have := o9 (lM q r); simpa [e] using this)] at h
  exact aT hw h
 ·rw [if_neg (by have := o9 (lM q r); simpa [e] using this)] at h
  exact h
theorem u8 {v w : V} {q r : Int × Nat} (hv : Nm v q) (hw : Nm w r) (h1 : q.2 ≤ 19) (h2 : r.2 ≤ 19) (h : Q (D (if lM q r > 0 then r else q)) mem) : bA prog (k + 8) (.ref 220) [.list [v, w]] mem Q R := by
 refine cf Ms Mr ?_
 refine aT hv ?_
 refine gd (.dec q) hw h1 h2 ?_
 refine cS (fun e => ?_) (fun e => ?_)
 ·rw [if_pos (by have := lx (lM q r); simpa [e] using this)] at h
  exact aT hw h
 ·rw [if_neg (by have := lx (lM q r); simpa [e] using this)] at h
  exact h
noncomputable def gr (q r : Int × Nat) : Int × Nat := if lM q r < 0 then r else q
noncomputable def le (q r : Int × Nat) : Int × Nat := if lM q r > 0 then r else q
theorem wa {q r : Int × Nat} {n : Nat} (h1 : q.2 ≤ n) (h2 : r.2 ≤ n) : (gr q r).2 ≤ n := by unfold gr; split <;> assumption
theorem Ji {q r : Int × Nat} {n : Nat} (h1 : q.2 ≤ n) (h2 : r.2 ≤ n) : (le q r).2 ≤ n := by unfold le; split <;> assumption
theorem gX {v : V} {q : Int × Nat} {a b : Int} (hv : Nm v q) (h1 : q.2 ≤ 19) (hab : a ≤ b) (h : Q (D (le (gr q (a, 0)) (b, 0))) mem) : bA prog (k + 9) (.ref 234) [v, .int a, .int b] mem Q R := by
 refine cf Mw Mv ?_
 refine aT (.int a) ?_
 refine gd (.dec _) (.int b) (Nat.zero_le _) (Nat.zero_le _) ?_
 have hd : lM (a, 0) (b, 0) = a - b := by unfold lM up mx; simp [bM]
 refine bn ?_ ?_
 ·have := lx (lM (a, 0) (b, 0))
  rw [hd] at this ⊢
  rw [this]; simpa using hab
 ·refine nI hv (.int a) h1 (Nat.zero_le _) ?_
  exact u8 (.dec _) (.int b) (wa h1 (Nat.zero_le _)) (Nat.zero_le _) h
end
theorem iC {α β : Type} [BEq α] [LawfulBEq α] (a : α) (v u : β) : ∀ l : List (α × β), put a v (put a u l) = put a v l
 | [] => by show put a v [(a, u)] = _; rw [bS]; rfl
 | (b, w) :: l => by
  have e : ∀ (v : β) (u : β) (c : α) (l : List (α × β)), put a v ((c, u) :: l) = if (a == c) = true then (a, v) :: l else (c, u) :: put a v l := fun _ _ _ _ => rfl
  rw [e, e]
  by_cases h : (a == b) = true
  ·rw [if_pos h, if_pos h]; exact bS ..
  ·rw [if_neg h, if_neg h, e, if_neg h, iC a v u l]
section
variable {α : Type} {turn : St → (Option V → St → Prop) → Prop} {x : Str} {mem : Mem} {loc : List (Str × V)}
theorem dN {g : α → V} {f : α → Option V} : ∀ {ys : List α} {loc' : List (Str × V)} {Q : List V → Mem → Prop}, (loc' = loc ∨ ∃ v, loc' = put x v loc) → (∀ y ∈ ys, ∀ K : Option V → St → Prop, K (f y) ⟨put x (g y) loc, mem⟩ → turn ⟨put x (g y) loc, mem⟩ K) → Q (ys.filterMap f) mem → dD turn x (ys.map g) ⟨loc', mem⟩ Q
 | [], _, _, _, _, h => h
 | y :: ys, loc', Q, hl, ht, h => by
  have e : put x (g y) loc' = put x (g y) loc := by rcases hl with rfl | ⟨v, rfl⟩; rfl; exact iC ..
  show turn ⟨put x (g y) loc', mem⟩ _
  rw [e]
  refine ht y (.head _) _ ?_
  cases hf : f y with
  | none => rw [List.filterMap_cons_none hf] at h; exact dN (.inr ⟨_, rfl⟩) (fun z hz => ht z (.tail _ hz)) h
  | some w => rw [List.filterMap_cons_some hf] at h; exact dN (.inr ⟨_, rfl⟩) (fun z hz => ht z (.tail _ hz)) h
theorem bl {g f : α → V} {ys : List α} {Q : List V → Mem → Prop} (ht : ∀ y ∈ ys, ∀ K : Option V → St → Prop, K (some (f y)) ⟨put x (g y) loc, mem⟩ → turn ⟨put x (g y) loc, mem⟩ K) (h : Q (ys.map f) mem) : dD turn x (ys.map g) ⟨loc, mem⟩ Q :=
 dN (f := fun y => some (f y)) (.inl rfl) ht (by rw [List.filterMap_eq_map']; exact h)
theorem dQ {J : List V → Mem → Prop} {Y : List V} (ht : ∀ (y : V) (acc : List V) (m : Mem) (K : Option V → St → Prop), Y[acc.length]? = some y → J acc m → (∀ r m', J (acc ++ [r]) m' → K (some r) ⟨put x y loc, m'⟩) → turn ⟨put x y loc, m⟩ K) :
  ∀ {ys : List V} {loc' : List (Str × V)} {acc : List V} {m : Mem} {Q : List V → Mem → Prop}, (loc' = loc ∨ ∃ v, loc' = put x v loc) → Y.drop acc.length = ys → J acc m → (∀ bs m', bs.length = ys.length → J (acc ++ bs) m' → Q bs m') → dD turn x ys ⟨loc', m⟩ Q
 | [], _, acc, m, _, _, _, h0, h => h [] m rfl (by rwa [List.append_nil])
 | y :: ys, loc', acc, m, Q, hl, hY, h0, h => by
  have e : put x y loc' = put x y loc := by rcases hl with rfl | ⟨v, rfl⟩; rfl; exact iC ..
  show turn ⟨put x y loc', m⟩ _
  rw [e]
  have e1 : Y[acc.length]? = some y := by
   have := congrArg (·[0]?) hY
   simpa [List.getElem?_drop] using this
  refine ht y acc m _ e1 h0 fun r m' hJ => ?_
  refine dQ ht (.inr ⟨_, rfl⟩) (by rw [List.length_append, ← List.drop_drop, hY]; rfl) hJ fun bs m'' hb hJ' => h (r :: bs) m'' (congrArg (· + 1) hb) ?_
  rwa [List.append_assoc] at hJ'
end
theorem jn {turn : St → (St → Prop) → Prop} {x : Str} {Q : St → Prop} (I : Nat → St → Prop) : ∀ {ys : List V} {n : Nat} {σ : St}, (∀ i y σ K, ys[i]? = some y → I (n + i) σ → (∀ σ', I (n + i + 1) σ' → K σ') → turn ⟨put x y σ.loc, σ.mem⟩ K) → I n σ → (∀ σ, I (n + ys.length) σ → Q σ) → rW turn x ys σ Q
 | [], n, σ, _, h0, h => h σ h0
 | y :: ys, n, σ, ht, h0, h => ht 0 y σ _ rfl h0 fun σ' h1 => jn I (n := n + 1) (fun i z σ K e hI hK => ht (i + 1) z σ K e (by rw [show n + (i + 1) = n + 1 + i by lia]; exact hI) fun σ' hI' => hK σ' (by rw [show n + 1 + i + 1 = n + (i + 1) + 1 by lia]; exact hI')) h1 fun σ hI => h σ (by rw [List.length_cons, show n + (ys.length + 1) = n + 1 + ys.length by lia]; exact hI)
noncomputable def gn (qs : List (Int × Nat)) : Int := qs.foldl (fun m q => bM m q.2) 0
theorem sQ {qs : List (Int × Nat)} {i : Nat} {q : Int × Nat} (h : qs[i]? = some q) : gn (qs.take (i + 1)) = bM (gn (qs.take i)) q.2 := by
 unfold gn
 rw [List.take_add_one, h]
 simp [List.foldl_append]
theorem gF (qs : List (Int × Nat)) : ∀ m : Int, m ≤ qs.foldl (fun m q => bM m q.2) m ∧ (∀ q ∈ qs, (q.2 : Int) ≤ qs.foldl (fun m q => bM m q.2) m) ∧ ∀ n, m ≤ n → (∀ q ∈ qs, (q.2 : Int) ≤ n) → qs.foldl (fun m q => bM m q.2) m ≤ n := by
 induction qs with
 | nil => intro m; exact ⟨Int.le_refl _, by simp, fun n h _ => h⟩
 | cons q qs ih =>
  intro m
  obtain ⟨h1, h2, h3⟩ := ih (bM m q.2)
  refine ⟨Int.le_trans (sN _ _) h1, fun r hr => ?_, fun n hn hq => h3 n (o7 hn (hq q (.head _))) fun r hr => hq r (.tail _ hr)⟩
  rcases List.mem_cons.mp hr with rfl | hr
  ·exact Int.le_trans (jm _ _) h1
  ·exact h2 r hr
theorem jo (qs : List (Int × Nat)) : 0 ≤ gn qs := (gF qs 0).1
theorem Ge {qs : List (Int × Nat)} {q : Int × Nat} (h : q ∈ qs) : (q.2 : Int) ≤ gn qs := (gF qs 0).2.1 q h
theorem ly {qs : List (Int × Nat)} {n : Nat} (h : ∀ q ∈ qs, q.2 ≤ n) : gn qs ≤ n := (gF qs 0).2.2 n (by lia) fun q hq => by have := h q hq; lia
theorem eP {α : Type} (f : α → Int) : ∀ l : List α, fg (l.map fun x => V.int (f x)) = some (l.map f)
 | [] => rfl
 | x :: l => by show (fg (l.map _)).map _ = _; rw [eP f l]; rfl
section
variable {prog : Program} {k : Nat} {mem : Mem} {Q : V → Mem → Prop} {R : Mem → Prop}
theorem p8 {qs : List (Int × Nat)} (hq : ∀ q ∈ qs, q.2 ≤ 19) (h : Q (.tup [.list (qs.map fun q => .int (up q (gn qs))), .int (gn qs)]) mem) : bA prog (k + 6) (.ref 199) [.list (qs.map D)] mem Q R := by
 refine cf Ml Mk ?_
 refine jn (fun i σ => ∃ u : List (Str × V), (u = [] ∨ ∃ v, u = [(ak, v)]) ∧ σ = ⟨(bh, .list (qs.map D)) :: (aa, .int (gn (qs.take i))) :: u, mem⟩) (n := 0) ?_ ⟨[], .inl rfl, by rw [List.take_zero]; rfl⟩ ?_
 ·rintro i y σ K e ⟨u, hu, rfl⟩ hK
  rw [List.getElem?_map] at e
  obtain ⟨q, e1, rfl⟩ := Option.map_eq_some_iff.mp e
  have fin : K ⟨[(bh, .list (qs.map D)), (aa, .int (bM (gn (qs.take (0 + i))) q.2)), (ak, D q)], mem⟩ := hK _ ⟨[(ak, D q)], .inr ⟨_, rfl⟩, by rw [Nat.zero_add, sQ e1]⟩
  rcases hu with rfl | ⟨v, rfl⟩
  ·refine aT (.dec q) ?_
   exact fin
  ·refine aT (.dec q) ?_
   exact fin
 ·rintro σ ⟨u, hu, rfl⟩
  have e : gn (qs.take (0 + (qs.map D).length)) = gn qs := by rw [List.length_map, Nat.zero_add, List.take_length]
  rw [e]
  have go : ∀ loc, loc = [(aa, V.int (gn qs))] → dD (fun σ K => vc prog (k + 5) (.bin .Mult (.attr (.call (.gv (.ref 187)) (.cons (.loc ak) .nil)) aD) (.bin .Pow (.int (10)) (.bin .Sub (.loc aa) (.attr (.call (.gv (.ref 187)) (.cons (.loc ak) .nil)) aa)))) dP σ fun y σ'' => K (some y) σ'') ak (qs.map D) ⟨loc, mem⟩ fun ys m => Q (.tup [.list ys, .int (gn qs)]) m := fun loc hl => by
   subst hl
   refine bl (f := fun q => .int (up q (gn qs))) (fun q hm K hK => ?_) h
   refine aT (.dec q) ?_
   refine aT (.dec q) ?_
   have h1 := Ge hm
   have h2 := ly hq
   have h3 := hq q hm
   refine And.intro (.ten (by lia) (by lia)) ?_
   exact And.intro (bL (cY (by lia))) hK
  rcases hu with rfl | ⟨v, rfl⟩
  ·exact go _ rfl
  ·exact go _ rfl
theorem mC {qs : List (Int × Nat)} (hq : ∀ q ∈ qs, q.2 ≤ 19) (h : Q (D (ae (gn qs).toNat (qs.map fun q => up q (gn qs)).sum)) mem) : bA prog (k + 7) (.ref 213) [.list (qs.map D)] mem Q R := by
 refine cf Mq Mp ?_
 refine p8 hq ?_
 refine ag (eP _ _) ?_
 exact eB (by have := jo qs; lia) h
end
theorem bu.uncons {P : Params} {fz : Fz} {x : V} {l : List V} {us : List Value} (h : bu P fz (x :: l) us) : ∃ u us', us = u :: us' ∧ RV P fz x u ∧ bu P fz l us' := by
 cases h with | cons h r => exact ⟨_, _, rfl, h, r⟩
theorem bu.unnil {P : Params} {fz : Fz} {us : List Value} (h : bu P fz [] us) : us = [] := by cases h; rfl
section
variable {v0 v1 v2 v3 v4 v5 : V}
theorem u9 (P : Params) : (HB.KF P).lookup 263 = some HB.o263 := by kernel_rfl
theorem va (P : Params) : (HB.KF P).lookup 360 = some HB.o360 := by kernel_rfl
theorem iD (P : Params) : (HB.KF P).lookup 450 = some HB.o450 := by kernel_rfl
theorem vb (P : Params) : (HB.KF P).lookup 528 = some HB.o528 := by kernel_rfl
theorem nJ {P : Params} {fz : Fz} (hz : ∀ p ∈ Hi, p ∈ fz) : RV P fz (.tup []) (.ref 449) := .tup (vs := []) (n := 0) (hz (449, HB.o449) (.tail _ (.head _))) (Nat.zero_le _) .nil
theorem Jj (s : Shared) (a b : Value) (h : s.heap.get? 263 = some HB.o263) : BindsTo s (aH HB.o270) ⟨[a, b], []⟩ ([aj, aF, cO].zip [a, b, .bool false]) := BindsTo.of_defaults (by rfl) h (by rfl) (by rfl) (by kernel_rfl)
theorem NT : aV 270 [v0, v1] [aj, aF, cO] [v0, v1, .bool false] := aV.of Ie fun P fz s us r hz X => by
 refine gk fun _ kk => ?_
 obtain ⟨u, v, rfl, h1, h2⟩ := r.two
 refine kk ?_; clear kk
 exact ⟨_, Jj s u v (X _ _ (u9 P)), .cons h1 (.cons h2 (.cons (.bool _) .nil))⟩
theorem Jk (s : Shared) (a : Value) (h : s.heap.get? 360 = some HB.o360) : BindsTo s (aH HB.o367) ⟨[a], []⟩ ([aj, aN, cX].zip [a, .none, .none]) := BindsTo.of_defaults (by rfl) h (by rfl) (by rfl) (by kernel_rfl)
theorem NU : aV 367 [v0] [aj, aN, cX] [v0, .none, .none] := aV.of Ik fun P fz s us r hz X => by
 obtain ⟨u, rfl, h1⟩ := r.one
 exact ⟨_, Jk s u (X _ _ (va P)), .cons h1 (.cons .none (.cons .none .nil))⟩
theorem Jl (s : Shared) (a b c : Value) (h : s.heap.get? 528 = some HB.o528) : BindsTo s (aH HB.o535) ⟨[a, b, c], []⟩ ([ar, aY, ak, bw].zip [a, b, c, .none]) := BindsTo.of_defaults (by rfl) h (by rfl) (by rfl) (by kernel_rfl)
theorem Jm : aV 535 [v0, v1, v2] [ar, aY, ak, bw] [v0, v1, v2, .none] := aV.of Iw fun P fz s us r hz X => by
 refine gk fun _ kk => ?_
 obtain ⟨_, _, rfl, h1, r⟩ := r.uncons; obtain ⟨_, _, rfl, h2, r⟩ := r.uncons; obtain ⟨_, _, rfl, h3, r⟩ := r.uncons; obtain rfl := r.unnil
 refine kk ?_; clear kk
 exact ⟨_, Jl s _ _ _ (X _ _ (vb P)), .cons h1 (.cons h2 (.cons h3 (.cons .none .nil)))⟩
noncomputable abbrev wb : List Str := [aj, aq, an, aJ, aN, bJ, be, aL]
theorem Gf (s : Shared) (a b c : Value) (h : s.heap.get? 450 = some HB.o450) : BindsTo s (aH HB.o457) ⟨[a, b, c], []⟩ (wb.zip [a, b, c, .none, HB.Y [] 772, .int 0 773, .none, .ref 449]) := BindsTo.of_defaults (by rfl) h (by rfl) (by rfl) (by kernel_rfl)
theorem Gg (s : Shared) (a b c e : Value) (h : s.heap.get? 450 = some HB.o450) : BindsTo s (aH HB.o457) ⟨[a, b, c, e], []⟩ (wb.zip [a, b, c, e, HB.Y [] 772, .int 0 773, .none, .ref 449]) := BindsTo.of_defaults (by rfl) h (by rfl) (by rfl) (by kernel_rfl)
theorem Gh (s : Shared) (a b c e f g : Value) (h : s.heap.get? 450 = some HB.o450) : BindsTo s (aH HB.o457) ⟨[a, b, c, e, f, g], []⟩ (wb.zip [a, b, c, e, f, g, .none, .ref 449]) := BindsTo.of_defaults (by rfl) h (by rfl) (by rfl) (by kernel_rfl)
theorem Gi (s : Shared) (a b c e f g i j : Value) (h : s.heap.get? 450 = some HB.o450) : BindsTo s (aH HB.o457) ⟨[a, b, c, e, f, g, i, j], []⟩ (wb.zip [a, b, c, e, f, g, i, j]) := BindsTo.of_defaults (by rfl) h (by rfl) (by rfl) (by kernel_rfl)
theorem Jn : aV 457 [v0, v1, v2] wb [v0, v1, v2, .none, .bytes [], .int 0, .none, .tup []] := aV.of ss fun P fz s us r hz X => by
 refine gk fun _ kk => ?_
 obtain ⟨_, _, rfl, h1, r⟩ := r.uncons; obtain ⟨_, _, rfl, h2, r⟩ := r.uncons; obtain ⟨_, _, rfl, h3, r⟩ := r.uncons; obtain rfl := r.unnil
 refine kk ?_; clear kk
 exact ⟨_, Gf s _ _ _ (X _ _ (iD P)), .cons h1 (.cons h2 (.cons h3 (.cons .none (.cons (.bytes _ _ (Nat.zero_le _)) (.cons (.int _ _) (.cons .none (.cons (nJ hz) .nil)))))))⟩
theorem Jo : aV 457 [v0, v1, v2, v3] wb [v0, v1, v2, v3, .bytes [], .int 0, .none, .tup []] := aV.of ss fun P fz s us r hz X => by
 refine gk fun _ kk => ?_
 obtain ⟨_, _, rfl, h1, r⟩ := r.uncons; obtain ⟨_, _, rfl, h2, r⟩ := r.uncons; obtain ⟨_, _, rfl, h3, r⟩ := r.uncons; obtain ⟨_, _, rfl, h4, r⟩ := r.uncons; obtain rfl := r.unnil
 refine kk ?_; clear kk
 exact ⟨_, Gg s _ _ _ _ (X _ _ (iD P)), .cons h1 (.cons h2 (.cons h3 (.cons h4 (.cons (.bytes _ _ (Nat.zero_le _)) (.cons (.int _ _) (.cons .none (.cons (nJ hz) .nil)))))))⟩
theorem Jp : aV 457 [v0, v1, v2, v3, v4, v5] wb [v0, v1, v2, v3, v4, v5, .none, .tup []] := aV.of ss fun P fz s us r hz X => by
 refine gk fun _ kk => ?_
 obtain ⟨_, _, rfl, h1, r⟩ := r.uncons; obtain ⟨_, _, rfl, h2, r⟩ := r.uncons; obtain ⟨_, _, rfl, h3, r⟩ := r.uncons; obtain ⟨_, _, rfl, h4, r⟩ := r.uncons; obtain ⟨_, _, rfl, h5, r⟩ := r.uncons; obtain ⟨_, _, rfl, h6, r⟩ := r.uncons; obtain rfl := r.unnil
 refine kk ?_; clear kk
 exact ⟨_, Gh s _ _ _ _ _ _ (X _ _ (iD P)), .cons h1 (.cons h2 (.cons h3 (.cons h4 (.cons h5 (.cons h6 (.cons .none (.cons (nJ hz) .nil)))))))⟩
theorem Jq {v6 v7 : V} : aV 457 [v0, v1, v2, v3, v4, v5, v6, v7] wb [v0, v1, v2, v3, v4, v5, v6, v7] := aV.of ss fun P fz s us r hz X => by
 refine gk fun _ kk => ?_
 obtain ⟨_, _, rfl, h1, r⟩ := r.uncons; obtain ⟨_, _, rfl, h2, r⟩ := r.uncons; obtain ⟨_, _, rfl, h3, r⟩ := r.uncons; obtain ⟨_, _, rfl, h4, r⟩ := r.uncons; obtain ⟨_, _, rfl, h5, r⟩ := r.uncons; obtain ⟨_, _, rfl, h6, r⟩ := r.uncons; obtain ⟨_, _, rfl, h7, r⟩ := r.uncons; obtain ⟨_, _, rfl, h8, r⟩ := r.uncons; obtain rfl := r.unnil
 refine kk ?_; clear kk
 exact ⟨_, Gi s _ _ _ _ _ _ _ _ (X _ _ (iD P)), .cons h1 (.cons h2 (.cons h3 (.cons h4 (.cons h5 (.cons h6 (.cons h7 (.cons h8 .nil)))))))⟩
end
noncomputable def cr (s : Str) : V := .inst 251 [(cg, .str s)]
noncomputable def wc (o : List UInt8) : V := .inst 273 [(aF, .bytes o), (cO, .bool false)]
noncomputable def pc (h : List (Str × V)) (o : List UInt8) : V := .inst 294 [(ba, .dict h), (aF, .bytes o)]
noncomputable def Gj (n : Int) : V := .inst 322 [(af, .int n), (aZ, .int 0)]
noncomputable def eC (name : Str) (count : Nat) (base : V) (table : List UInt8) (most : Nat) (tint : V) (inks : List Str) : V := .inst 467 [(aq, .str name), (an, .int count), (aJ, base), (aN, .bytes table), (bJ, .int most), (be, tint), (aL, .tup (inks.map .str))]
noncomputable def fk (ta : Addr) : V := .inst 438 [(aN, .mut ta), (cX, .dict [])]
noncomputable def jp (ta : Addr) : V := .inst 523 [(ar, fk ta), (aY, .dict []), (bw, .none)]
section
variable {prog : Program} {k : Nat} {mem : Mem} {Q : V → Mem → Prop} {R : Mem → Prop}
theorem cV {s : Str} (h : Q (cr s) mem) : bA prog (k + 4) (.ref 251) [.str s] mem Q R := gE (f := 248) (ps := [cg]) (fs := [(cg, cg)]) (by decide) My (fun _ _ => Mx) rfl [.str s] (fun _ => rfl) (by decide) h
theorem sR {o : List UInt8} (h : Q (wc o) mem) : bA prog (k + 4) (.ref 273) [.bytes o] mem Q R := gE (f := 270) (ps := [aF, cO]) (fs := [(aF, aF), (cO, cO)]) (by decide) Mz (fun _ _ => NT) rfl [.bytes o, .bool false] (fun _ => rfl) (by decide) h
theorem jq {hd : List (Str × V)} {o : List UInt8} (h : Q (pc hd o) mem) : bA prog (k + 4) (.ref 294) [.dict hd, .bytes o] mem Q R := gE (f := 291) (ps := [ba, aF]) (fs := [(ba, ba), (aF, aF)]) (by decide) MB (fun _ _ => MA) rfl [.dict hd, .bytes o] (fun _ => rfl) (by decide) h
theorem mD {n : Int} (h : Q (Gj n) mem) : bA prog (k + 4) (.ref 322) [.int n, .int 0] mem Q R := gE (f := 312) (ps := [af, aZ]) (fs := [(af, af), (aZ, aZ)]) (by decide) MD (fun _ _ => MC) rfl [.int n, .int 0] (fun _ => rfl) (by decide) h
theorem mE {ta : Addr} (h : Q (jp ta) mem) : bA prog (k + 4) (.ref 523) [fk ta, .dict [], .none] mem Q R := gE (f := 506) (ps := [ar, aY, bw]) (fs := [(ar, ar), (aY, aY), (bw, bw)]) (by decide) MT (fun _ _ => MS) rfl [fk ta, .dict [], .none] (fun _ => rfl) (by decide) h
noncomputable abbrev JL : List (Str × Str) := [(aq, aq), (an, an), (aJ, aJ), (aN, aN), (bJ, bJ), (be, be), (aL, aL)]
theorem gG {s : Str} {c : Nat} (h : Q (eC s c .none [] 0 .none []) mem) : bA prog (k + 4) (.ref 467) [.str s, .int c] mem Q R := gE (f := 457) (fs := JL) (by decide) uI (fun _ _ => Jn) rfl [.str s, .int c, .none, .bytes [], .int 0, .none, .tup []] (fun _ => rfl) (by decide) h
theorem gH {s : Str} {c : Nat} {b : V} (h : Q (eC s c b [] 0 .none []) mem) : bA prog (k + 4) (.ref 467) [.str s, .int c, b] mem Q R := gE (f := 457) (fs := JL) (by decide) uI (fun _ _ => Jo) rfl [.str s, .int c, b, .bytes [], .int 0, .none, .tup []] (fun _ => rfl) (by decide) h
theorem sS {s : Str} {c m : Nat} {b : V} {o : List UInt8} (h : Q (eC s c b o m .none []) mem) : bA prog (k + 4) (.ref 467) [.str s, .int c, b, .bytes o, .int m] mem Q R := gE (f := 457) (fs := JL) (by decide) uI (fun _ _ => Jp) rfl [.str s, .int c, b, .bytes o, .int m, .none, .tup []] (fun _ => rfl) (by decide) h
theorem sU {s : Str} {c m : Nat} {b t : V} {o : List UInt8} {is : List Str} (h : Q (eC s c b o m t is) mem) : bA prog (k + 4) (.ref 467) [.str s, .int c, b, .bytes o, .int m, t, .tup (is.map .str)] mem Q R := gE (f := 457) (fs := JL) (by decide) uI (fun _ _ => Jq) rfl [.str s, .int c, b, .bytes o, .int m, t, .tup (is.map .str)] (fun _ => rfl) (by decide) h
theorem vd (h : ∀ ta, mem.lookup ta = none → Q (fk ta) ((ta, .idict []) :: mem)) : bA prog (k + 4) (.ref 438) [] mem Q R := by
 refine i9 (c := 438) (f := 367) (by decide) fun x dx hdx => (cf (R := fun _ => False) MG NU ?_).c
 intro ta hta
 have e : (dx == ta) = false := by
  cases q : (dx == ta) with
  | false => rfl
  | true => rw [← eq_of_beq q, bp] at hta; cases hta
 have e2 : (ta == dx) = false := by rw [← e]; exact Bool.eq_iff_iff.mpr ⟨fun h => by rw [eq_of_beq h]; simp, fun h => by rw [eq_of_beq h]; simp⟩
 have lk : ∀ (y z : M), (((ta, y) :: (dx, z) :: mem : Mem).lookup dx) = some z := fun y z => by rw [List.lookup_cons, e]; exact bp ..
 have pt : ∀ (y z z' : M), put dx z' ((ta, y) :: (dx, z) :: mem) = (ta, y) :: (dx, z') :: mem := fun y z z' => by
  show (if (dx == ta) = true then _ else (ta, y) :: put dx z' ((dx, z) :: mem)) = _
  rw [e, if_neg (by decide), bS]
 refine ag rfl (ag (lk ..) ?_)
 show bH prog (k + 2) _ _ ⟨_, put dx _ ((ta, _) :: (dx, _) :: mem)⟩ _ _
 rw [pt]
 refine ag (lk ..) ?_
 show _ ∧ ∃ l, List.lookup dx (put dx _ ((ta, _) :: (dx, _) :: mem)) = _ ∧ Q _ (bP dx (put dx _ ((ta, _) :: (dx, _) :: mem)))
 rw [pt]
 have ed : ∀ (y z : M), bP dx ((ta, y) :: (dx, z) :: mem) = (ta, y) :: mem := fun y z => by
  have := dp (x := z) hdx
  unfold bP at this ⊢
  rw [List.filter_cons, if_pos (by show (ta != dx) = true; simp [bne, e2]), this]
 rw [ed]
 refine ⟨rfl, _, lk .., ?_⟩
 refine h ta ?_
 rw [List.lookup_cons, e2] at hta
 exact hta
end
noncomputable def fN : Nat → List V → List (Int × V)
 | _, [] => []
 | n, v :: vs => ((n : Int) + 1, .tup [.int 0, v]) :: fN (n + 1) vs
theorem lz : ∀ (vs : List V) (n i : Nat), (fN n vs).lookup ((n : Int) + i + 1) = vs[i]?.map fun v => .tup [.int 0, v]
 | [], _, _ => rfl
 | v :: vs, n, 0 => by
  show List.lookup ((n : Int) + (0 : Nat) + 1) (((n : Int) + 1, _) :: _) = _
  rw [show (n : Int) + (0 : Nat) + 1 = (n : Int) + 1 by lia, bp]; rfl
 | v :: vs, n, i + 1 => by
  show List.lookup ((n : Int) + (i + 1 : Nat) + 1) (((n : Int) + 1, _) :: fN (n + 1) vs) = _
  rw [List.lookup_cons, show ((n : Int) + (i + 1 : Nat) + 1 == (n : Int) + 1) = false by rw [beq_eq_false_iff_ne]; lia]
  show List.lookup ((n : Int) + (i + 1 : Nat) + 1) (fN (n + 1) vs) = _
  rw [show (n : Int) + (i + 1 : Nat) + 1 = ((n + 1 : Nat) : Int) + i + 1 by lia, lz vs (n + 1) i]; rfl
theorem pd (v : V) : ∀ (vs : List V) (n : Nat), put ((n : Int) + vs.length + 1) (.tup [.int 0, v]) (fN n vs) = fN n (vs ++ [v])
 | [], n => by simp [fN, put]
 | w :: vs, n => by
  show put ((n : Int) + (vs.length + 1 : Nat) + 1) _ (((n : Int) + 1, _) :: fN (n + 1) vs) = ((n : Int) + 1, _) :: fN (n + 1) (vs ++ [v])
  rw [← pd v vs (n + 1)]
  show (if ((n : Int) + (vs.length + 1 : Nat) + 1 == (n : Int) + 1) = true then _ else _) = _
  rw [if_neg (by simp; lia), show (n : Int) + (vs.length + 1 : Nat) + 1 = ((n + 1 : Nat) : Int) + vs.length + 1 by lia]
theorem pe : ∀ (vs : List V) (n : Nat), (fN n vs).length = vs.length
 | [], _ => rfl
 | _ :: vs, n => congrArg (· + 1) (pe vs (n + 1))
theorem mF : ∀ (vs : List V) (n : Nat), (∀ k ∈ (fN n vs).map (·.1), (n : Int) < k) ∧ ((fN n vs).map (·.1)).Nodup
 | [], _ => ⟨fun _ h => (nomatch h), List.nodup_nil⟩
 | v :: vs, n => by
  obtain ⟨h1, h2⟩ := mF vs (n + 1)
  refine ⟨fun k hk => ?_, List.nodup_cons.mpr ⟨fun h => ?_, h2⟩⟩
  ·rcases List.mem_cons.mp hk with rfl | hk
   ·show (n : Int) < (n : Int) + 1; lia
   ·have := h1 k hk; lia
  ·have : ((n + 1 : Nat) : Int) < (n : Int) + 1 := h1 _ h
   lia
noncomputable def plain (v : V) : Bool := j7.contains (m7 v) && m7 v != 322
inductive eD (vs : List V) : V → V → Prop
 | here {v : V} (h : plain v = true) : eD vs v v
 | ref {i : Nat} {w : V} (h : vs[i]? = some w) (hw : plain w = true) : eD vs (Gj ((i : Int) + 1)) w
theorem eD.plain {vs : List V} {v w : V} (h : eD vs v w) : plain w = true := by cases h <;> assumption
theorem eD.more {vs : List V} {v w : V} (h : eD vs v w) (us : List V) : eD (vs ++ us) v w := by
 cases h with
 | here h => exact .here h
 | ref h hw => exact .ref (by rw [List.getElem?_append_left (List.getElem?_eq_some_iff.mp h).1]; exact h) hw
structure G where
 vs : List V
 spot : Nat
 carry : Nat
structure Ce where
 cs : List Int
 sf : Mem
section
variable {pa ta : Addr} {cells : Ce}
noncomputable def Mm (pa ta : Addr) (cells : Ce) (g : G) : Mem := (ta, .idict (fN 0 g.vs)) :: (pa, .list [.list (cells.cs.map .int), .int g.spot, .int g.carry]) :: cells.sf
theorem kE (g : G) : (Mm pa ta cells g).lookup ta = some (.idict (fN 0 g.vs)) := bp ..
theorem sV (h : pa ≠ ta) (g : G) : (Mm pa ta cells g).lookup pa = some (.list [.list (cells.cs.map .int), .int g.spot, .int g.carry]) := by
 show List.lookup pa ((ta, _) :: (pa, _) :: _) = _
 rw [List.lookup_cons, beq_eq_false_iff_ne.mpr h]; exact bp ..
theorem Gk (g : G) (vs : List V) : put ta (.idict (fN 0 vs)) (Mm pa ta cells g) = Mm pa ta cells { g with vs := vs } := bS ..
theorem Gl (h : pa ≠ ta) (g : G) (a b : Nat) : put pa (.list [.list (cells.cs.map .int), .int a, .int b]) (Mm pa ta cells g) = Mm pa ta cells ⟨g.vs, a, b⟩ := by
 show (if (pa == ta) = true then _ else (ta, _) :: put pa _ ((pa, _) :: _)) = _
 rw [beq_eq_false_iff_ne.mpr h, if_neg (by decide), bS]; rfl
end
inductive fO : V → Bool → Prop
 | int (n : Int) : fO (.int n) true
 | dec (q : Int × Nat) : fO (D q) true
 | none : fO .none false
 | bool (b : Bool) : fO (.bool b) false
section
variable {prog : Program} {k : Nat} {mem : Mem} {Q : V → Mem → Prop} {R : Mem → Prop}
theorem hZ {v : V} {b : Bool} (hv : fO v b) (h : Q (.bool b) mem) : bA prog (k + 4) (.ref 340) [v] mem Q R := by
 refine cf MF ME ?_
 cases hv with
 | int n => exact cf (Q := fun v m => Fg v _ ⟨_, m⟩ fun r => Q (.bool r) m) uH uG ⟨_, rfl, h⟩
 | dec q => exact cf (Q := fun v m => Fg v _ ⟨_, m⟩ fun r => Q (.bool r) m) uH uG ⟨_, rfl, h⟩
 | none => exact cf (Q := fun v m => Fg v _ ⟨_, m⟩ fun r => Q (.bool r) m) uH uG ⟨_, rfl, h⟩
 | bool b => exact cf (Q := fun v m => Fg v _ ⟨_, m⟩ fun r => Q (.bool r) m) uH uG ⟨_, rfl, h⟩
theorem sW {v : V} (h : plain v = true) : j7.contains (m7 v) = true ∧ iX (m7 v) 322 = false := by
 obtain ⟨h1, h2⟩ := Bool.and_eq_true_iff.mp h
 refine ⟨h1, ?_⟩
 have h2 := bne_iff_ne.mp h2
 unfold iX
 rw [beq_eq_false_iff_ne.mpr h2]
 cases (m7 v == 2) <;> rfl
theorem sX {a : Addr} {l : List (Int × V)} (h : mem.lookup a = some (.idict l)) : pM (.mut a) n_get mem = true := by
 unfold pM
 simp only [h]
 exact beq_self_eq_true _
theorem pg {ta : Addr} {vs : List V} {v w : V} (hl : mem.lookup ta = some (.idict (fN 0 vs))) (hr : eD vs v w) (h : Q w mem) : bA prog (k + 3) (.ref 374) [fk ta, v] mem Q R := by
 refine cf MI MH ?_
 have stop : ∀ {u : V} (hu : plain u = true) {A B : Prop}, A → vP u (.ref 322) fun b => iK (!b) A B := fun {u} hu {A} {B} a => by
  obtain ⟨h1, h2⟩ := sW hu
  refine cC h1 (dj ?_ a)
  show (!iX _ 322) = true
  rw [h2]; rfl
 cases hr with
 | here hv => exact stop hv h
 | @ref i w hi hw =>
  refine cC (sX hl) ?_
  refine ag hl (And.intro rfl ?_)
  have e : (fN 0 vs).lookup ((i : Int) + 1) = some (.tup [.int 0, w]) := by
   have := lz vs 0 i
   rw [hi] at this
   rwa [show ((0 : Nat) : Int) + i + 1 = (i : Int) + 1 by lia] at this
  rw [e]
  exact stop hw h
theorem kF {ta : Addr} {vs : List V} {hd : List (Str × V)} {key : Str} {w : V} (hl : mem.lookup ta = some (.idict (fN 0 vs))) (hr : eD vs ((hd.lookup key).getD .none) w) (h : Q w mem) : bA prog (k + 4) (.ref 381) [fk ta, .dict hd, .str key] mem Q R := by
 refine cf MK MJ ?_
 exact pg hl hr h
theorem aC {ta : Addr} {vs : List V} {v w : V} (hl : mem.lookup ta = some (.idict (fN 0 vs))) (hr : eD vs v w) (h : Q w mem) : bA prog (k + 4) (.ref 513) [jp ta, v] mem Q R := by
 refine cf MV MU ?_
 exact pg hl hr h
theorem ve {ta : Addr} {vs : List V} {s : Str} (hl : mem.lookup ta = some (.idict (fN 0 vs))) (h : Q .none mem) : bA prog (k + 5) (.ref 520) [jp ta, .str s] mem Q R := by
 refine cf MX MW ?_
 refine kF hl (.here rfl) ?_
 exact h
theorem Jr {ta : Addr} {vs : List V} {v : V} (hl : mem.lookup ta = some (.idict (fN 0 vs))) (hn : vs.length < 4000) (h : Q (Gj (vs.length + 1)) (put ta (.idict (fN 0 (vs ++ [v]))) mem)) : bA prog (k + 5) (.ref 409) [fk ta, v] mem Q R := by
 refine cf MM ML ?_
 refine ⟨fun n σ => ∃ j, j + n = vs.length ∧ σ = ⟨[(aj, fk ta), (ak, v), (af, .int ((j : Int) + 1))], mem⟩, vs.length, ⟨0, by lia, rfl⟩, ?_⟩
 rintro n σ ⟨j, hj, rfl⟩
 refine ⟨_, hl, ?_⟩
 have e := lz vs 0 j
 rw [show ((0 : Nat) : Int) + j + 1 = (j : Int) + 1 by lia] at e
 cases n with
 | zero =>
  have : vs[j]? = none := List.getElem?_eq_none (by lia)
  rw [this] at e
  refine bn (by rw [e]; rfl) ?_
  refine ag hl ?_
  refine And.intro ⟨by rw [pe]; unfold cap; lia, (mF vs 0).2⟩ ?_
  have e2 : put ((j : Int) + 1) (.tup [.int 0, v]) (fN 0 vs) = fN 0 (vs ++ [v]) := by
   rw [← pd, show j = vs.length by lia, show ((0 : Nat) : Int) + vs.length + 1 = (vs.length : Int) + 1 by lia]
  show bH prog _ _ _ ⟨_, put ta (.idict (put ((j : Int) + 1) (.tup [.int 0, v]) (fN 0 vs))) mem⟩ _ _
  rw [e2]
  refine mD ?_
  rw [show (j : Int) = vs.length by lia]
  exact h
 | succ n =>
  have : (vs[j]?).isSome = true := by rw [List.getElem?_eq_getElem (by lia)]; rfl
  refine dj (by rw [e, Option.isSome_map]; exact this) ?_
  refine ⟨n, Nat.lt_succ_self n, j + 1, by lia, ?_⟩
  rw [show ((j + 1 : Nat) : Int) + 1 = (j : Int) + 1 + 1 by lia]; rfl
end
theorem fm {n : Nat} : ∀ {ds : List PyData}, (∀ d ∈ ds, d.depth ≤ n) → PyData.depthAll ds ≤ n
 | [], _ => Nat.zero_le _
 | d :: ds, h => Nat.max_le.mpr ⟨h d (.head _), fm fun e he => h e (.tail _ he)⟩
theorem eQ : ∀ {ds : List PyData}, (∀ d ∈ ds, d.canLay0 = true) → PyData.canLayAll0 ds = true
 | [], _ => rfl
 | d :: ds, h => Bool.and_eq_true_iff.mpr ⟨h d (.head _), eQ fun e he => h e (.tail _ he)⟩
theorem fo {ds : List PyData} (h : ∀ d ∈ ds, d.canLay0 = true ∧ d.depth ≤ 3) : SeqAt.shaped (.list ds) = true := by
 refine Bool.and_eq_true_iff.mpr ⟨eQ fun d hd => (h d hd).1, decide_eq_true ?_⟩
 have := fm fun d hd => (h d hd).2
 show PyData.depthAll ds + 1 ≤ 64
 lia
theorem fq {α : Type} (f : α → V) (g : α → PyData) (h : ∀ x, iq (f x) = some (g x)) : ∀ l : List α, iq.toPs (l.map f) = some (l.map g)
 | [] => rfl
 | x :: l => by
  exact j1 (h x) (fq f g h l)
theorem sY {α : Type} (f : α → V) (g : α → PyData) (h : ∀ x, iq (f x) = some (g x)) (l : List α) : iq (.list (l.map f)) = some (.list (l.map g)) := by
 exact kZ (fq f g h l)
theorem mG (l : List Int) : SeqAt.shaped (.list (l.map .int)) = true := fo fun d hd => by
 obtain ⟨i, _, rfl⟩ := List.mem_map.mp hd
 exact ⟨rfl, Nat.zero_le _⟩
theorem fK {x : Int} {m : Nat} (h : 0 < m) : ∃ r : Nat, r < m ∧ x.fmod m = r := by
 have h1 := Int.fmod_nonneg_of_pos x (b := (m : Int)) (by lia)
 have h2 := Int.fmod_lt_of_pos x (b := (m : Int)) (by lia)
 exact ⟨(x.fmod m).toNat, by lia, by lia⟩
theorem mH {x : Int} {m : Nat} (hx : 0 ≤ x) : ∃ r : Nat, x.fdiv m = r := ⟨(x.fdiv m).toNat, by
 have := Int.fdiv_nonneg (b := (m : Int)) hx (by lia)
 lia⟩
noncomputable def pn (cells : List Int) (a b : Nat) : M := .list [.list (cells.map .int), .int a, .int b]
theorem Gm {mem : Mem} (a : Addr) (x : M) : (put a x mem).lookup a = some x := by rw [aK, if_pos (beq_self_eq_true a)]
section
variable {prog : Program} {k : Nat} {pa : Addr} {cells : List Int} {mem : Mem} {spot carry : Nat} {Q : V → Mem → Prop} {R : Mem → Prop}
theorem vf (hl : mem.lookup pa = some (pn cells spot carry)) {many : Nat} (hm : 0 < many) (hm2 : many < 2 ^ 31) (hs : spot < 2 ^ 20) (h : ∀ r a b : Nat, r < many → a ≤ spot + 1 → Q (.int r) (put pa (pn cells a b) mem)) :
  bA prog (k + 3) (.ref 638) [.mut pa, .int many] mem Q R := by
 refine cf Ni Nh ?_
 have hm0 : (many : Int) ≠ 0 := by lia
 have hdv : qM many := jl hm0 (by lia)
 refine ag (hl) ?_
 refine cS (fun hc => ?_) (fun hc => ?_)
 ·refine ag (hl) (And.intro hm0 ?_)
  refine ag (hl) (And.intro hdv ?_)
  refine ag rfl (ag (hl) (And.intro ⟨by decide, by show (2 : Int) < 3; decide⟩ ?_))
  obtain ⟨r, hr, e⟩ := fK (x := carry) hm
  obtain ⟨c, e2⟩ := mH (x := carry) (m := many) (by lia)
  show Q (.int ((carry : Int).fmod many)) (put pa (.list [.list (cells.map .int), .int spot, .int ((carry : Int).fdiv many)]) mem)
  rw [e, e2]
  exact h r _ _ hr (Nat.le_succ _)
 ·refine ag (hl) ?_
  refine ag (hl) (And.intro ⟨by decide, by show (1 : Int) < 3; decide⟩ ?_)
  have es : ((spot : Int) + 1) = ((spot + 1 : Nat) : Int) := by lia
  show bH prog _ _ _ ⟨_, put pa (.list [.list (cells.map .int), .int ((spot : Int) + 1), .int carry]) mem⟩ _ _
  rw [es]
  let mem' := put pa (pn cells (spot + 1) carry) mem
  have hl' : mem'.lookup pa = some (pn cells (spot + 1) carry) := Gm ..
  let loc : List (Str × V) := [(ah, .mut pa), (dG, .int many), (a8, .int spot)]
  have rest : ∀ cell : Int, bH prog (k + 2) (.seq (.iff (.andd (.cons (.cmp .Lt (.loc a8) (.call (.gv (.bi .len)) (.cons (.sub (.loc ah) (.int (0))) .nil))) (.cons (.cmp .GtE (.call (.gv (.bi .abs)) (.cons (.loc cT) .nil)) (.bin .Pow (.int (10)) (.int (18)))) .nil))) (.seq (.asg fC (.bin .Sub (.call (.gv (.bi .abs)) (.cons (.loc cT) .nil)) (.bin .Pow (.int (10)) (.int (18))))) (.seq (.ssb (.loc ah) (.int (2)) (.bin .FloorDiv (.call (.gv (.typ .int)) (.cons (.loc fC) .nil)) (.loc dG))) (.seq (.ret (.bin .Mod (.call (.gv (.typ .int)) (.cons (.loc fC) .nil)) (.loc dG))) .nil))) .nil) (.seq (.asg bN (.bin .Mod (.call (.gv (.typ .int)) (.cons (.bin .Pow (.bin .Add (.bin .Add (.bin .Mod (.call (.gv (.typ .int)) (.cons (.loc cT) .nil)) (.int (2147483587))) (.bin .Mult (.int (70009)) (.loc a8))) (.int (6007))) (.int (5))) .nil)) (.int (2147483629)))) (.seq (.asg bN (.bin .Mod (.call (.gv (.typ .int)) (.cons (.bin .Pow (.bin .Add (.bin .Add (.bin .Mult (.loc bN) (.bin .Add (.bin .Mult (.int (2)) (.loc a8)) (.int (3011)))) (.bin .Mult (.bin .Mult (.int (701)) (.loc a8)) (.loc a8))) (.int (37))) (.int (3))) .nil)) (.int (2147483579)))) (.seq (.ret (.bin .Mod (.call (.gv (.typ .int)) (.cons (.bin .FloorDiv (.loc bN) (.int (32))) .nil)) (.loc dG))) .nil))))
    (fun σ => R σ.mem) ⟨loc ++ [(cT, .int cell)], mem'⟩ (fun σ => Q .none σ.mem) (fun v σ => Q v σ.mem) := fun cell => by
   have churn : bH prog (k + 2) (.seq (.asg bN (.bin .Mod (.call (.gv (.typ .int)) (.cons (.bin .Pow (.bin .Add (.bin .Add (.bin .Mod (.call (.gv (.typ .int)) (.cons (.loc cT) .nil)) (.int (2147483587))) (.bin .Mult (.int (70009)) (.loc a8))) (.int (6007))) (.int (5))) .nil)) (.int (2147483629)))) (.seq (.asg bN (.bin .Mod (.call (.gv (.typ .int)) (.cons (.bin .Pow (.bin .Add (.bin .Add (.bin .Mult (.loc bN) (.bin .Add (.bin .Mult (.int (2)) (.loc a8)) (.int (3011)))) (.bin .Mult (.bin .Mult (.int (701)) (.loc a8)) (.loc a8))) (.int (37))) (.int (3))) .nil)) (.int (2147483579)))) (.seq (.ret (.bin .Mod (.call (.gv (.typ .int)) (.cons (.bin .FloorDiv (.loc bN) (.int (32))) .nil)) (.loc dG))) .nil)))
     (fun σ => R σ.mem) ⟨loc ++ [(cT, .int cell)], mem'⟩ (fun σ => Q .none σ.mem) (fun v σ => Q v σ.mem) := by
    refine And.intro (by decide) ?_
    refine And.intro (eO (by decide)) ?_
    obtain ⟨r1, hr1, e1⟩ := fK (x := cell) (m := 2147483587) (by decide)
    refine And.intro ⟨by decide, by decide, ?_⟩ ?_
    ·have e1' : cell.fmod 2147483587 = r1 := e1
     rw [e1']; lia
    refine And.intro (by decide) ?_
    refine And.intro (eO (by decide)) ?_
    refine And.intro (bL (by lia)) ?_
    refine And.intro (eO (by decide)) ?_
    refine And.intro (bL (by lia)) ?_
    obtain ⟨r2, hr2, e2⟩ := fK (x := (cell.fmod 2147483587 + 70009 * spot + 6007) ^ Int.toNat 5) (m := 2147483629) (by decide)
    refine And.intro ⟨by decide, by decide, ?_⟩ ?_
    ·have e2' : ((cell.fmod 2147483587 + 70009 * spot + 6007) ^ Int.toNat 5).fmod 2147483629 = r2 := e2
     rw [e2']
     have a1 : r2 * (2 * spot + 3011) ≤ 2147483629 * 2100163 := Nat.mul_le_mul (by lia) (by lia)
     have a2 : 701 * spot * spot ≤ 735051776 * 1048576 := Nat.mul_le_mul (by lia) (by lia)
     have a3 : ((r2 : Int) * (2 * spot + 3011) + 701 * spot * spot + 37) = ((r2 * (2 * spot + 3011) + 701 * spot * spot + 37 : Nat) : Int) := by simp
     rw [a3, Int.natAbs_natCast]; lia
    refine And.intro (by decide) ?_
    refine And.intro (jl (by decide) (by decide)) ?_
    refine And.intro hm0 ?_
    obtain ⟨r, hr, e⟩ := fK (x := (((((cell.fmod 2147483587 + 70009 * spot + 6007) ^ Int.toNat 5).fmod 2147483629 * (2 * spot + 3011) + 701 * spot * spot + 37) ^ Int.toNat 3).fmod 2147483579).fdiv 32) hm
    have fin := h r (spot + 1) carry hr (Nat.le_refl _)
    rw [← e] at fin
    exact fin
   refine ag (hl') ?_
   refine cS (fun h1 => ?_) fun _ => churn
   refine And.intro (.ten (by decide) (by decide)) ?_
   refine cS (fun h2 => ?_) fun _ => churn
   refine And.intro (.ten (by decide) (by decide)) ?_
   refine And.intro hdv ?_
   refine ag rfl (ag (hl') (And.intro ⟨by decide, by show (2 : Int) < 3; decide⟩ ?_))
   refine And.intro hm0 ?_
   obtain ⟨r, hr, e⟩ := fK (x := cZ cell - 10 ^ Int.toNat 18) hm
   obtain ⟨c, e2⟩ := mH (x := cZ cell - 10 ^ Int.toNat 18) (m := many) (by have : cZ cell ≥ 10 ^ Int.toNat 18 := h2; lia)
   show Q (.int ((cZ cell - 10 ^ Int.toNat 18).fmod many)) (put pa (.list [.list (cells.map .int), .int (spot + 1 : Nat), .int ((cZ cell - 10 ^ Int.toNat 18).fdiv many)]) (mem'))
   rw [e, e2]
   show Q _ (put pa (pn cells (spot + 1) c) (put pa _ mem))
   rw [iC]
   exact h r _ _ hr (Nat.le_refl _)
  refine ag (hl') ?_
  refine ⟨_, _, sY .int .int (fun _ => rfl) cells, rfl, mG cells, rfl, ?_⟩
  cases hcs : cells with
  | nil =>
   rw [← hcs]
   refine bn (by rw [hcs]; rfl) ?_
   exact rest 0
  | cons c cs =>
   rw [← hcs]
   refine dj (by rw [hcs]; rfl) ?_
   refine ag (hl') ?_
   refine ag (hl') ?_
   have hl : (cells.map V.int).length = cells.length := List.length_map ..
   have hpos : 0 < cells.length := by rw [hcs]; exact Nat.succ_pos _
   refine And.intro (by rw [hl]; lia) ?_
   obtain ⟨r, hr, e⟩ := fK (x := spot) (m := cells.length) hpos
   rw [hl, e]
   refine cC (decide_eq_true (Int.natCast_nonneg r)) ?_
   refine ag (a := .int cells[r]) (by rw [Int.toNat_natCast, List.getElem?_map, List.getElem?_eq_getElem hr]; rfl) ?_
   exact rest cells[r]
end
structure Hd (pa ta : Addr) (pre : Mem) : Prop where
 p : pre.lookup pa = none
 t : pre.lookup ta = none
theorem lA {α β : Type} [BEq α] [LawfulBEq α] {a : α} {v : β} {l : List (α × β)} : ∀ {pre : List (α × β)}, pre.lookup a = none → put a v (pre ++ l) = pre ++ put a v l
 | [], _ => rfl
 | (b, w) :: pre, h => by
  rw [List.lookup_cons] at h
  cases q : (a == b) with
  | true => rw [q] at h; cases h
  | false =>
   rw [q] at h
   show (if (a == b) = true then _ else (b, w) :: put a v (pre ++ l)) = _
   rw [q, if_neg (by decide), lA h]; rfl
theorem dr {α β : Type} [BEq α] [LawfulBEq α] {a : α} {l : List (α × β)} : ∀ {pre : List (α × β)}, pre.lookup a = none → (pre ++ l).lookup a = l.lookup a
 | [], _ => rfl
 | (b, w) :: pre, h => by
  rw [List.lookup_cons] at h
  rw [List.cons_append, List.lookup_cons]
  cases q : (a == b) with
  | true => rw [q] at h; cases h
  | false => rw [q] at h; exact dr h
section
variable {prog : Program} {k : Nat} {pa ta : Addr} {cells : Ce} {g : G} {pre : Mem} {Q : V → Mem → Prop} {R : Mem → Prop}
theorem bx (hne : pa ≠ ta) (hp : Hd pa ta pre) {many : Nat} (hm : 0 < many) (hm2 : many < 2 ^ 31) (hs : g.spot < 2 ^ 20) (h : ∀ r a b : Nat, r < many → a ≤ g.spot + 1 → Q (.int r) (pre ++ Mm pa ta cells ⟨g.vs, a, b⟩)) :
  bA prog (k + 3) (.ref 638) [.mut pa, .int many] (pre ++ Mm pa ta cells g) Q R :=
 vf (by rw [dr hp.p]; exact sV hne g) hm hm2 hs fun r a b hr ha => by
  rw [lA hp.p]
  show Q _ (pre ++ put pa (.list [.list (cells.cs.map .int), .int a, .int b]) _)
  rw [Gl hne]; exact h r a b hr ha
end
inductive Fam where
 | gray | rgb | cmyk
noncomputable def Fam.nm : Fam → Str
 | .gray => bO | .rgb => bZ | .cmyk => b9
noncomputable def Fam.ct : Fam → Nat
 | .gray => 1 | .rgb => 3 | .cmyk => 4
noncomputable def sZ (b : Bool) : Str := match b with | true => fB | false => iH
inductive Tr where
 | dev (f : Fam) | cal (b : Bool) | prof (f : Fam) | profB (b : Tr) | inks (ns : List Str) (b : Tr) (ws : List Int) (m : Bool) | idx (b : Tr) (most : Nat) (o : List UInt8) | pat | patB (b : Tr)
noncomputable def bk : Tr → Nat
 | .dev f => f.ct
 | .cal b => match b with | true => 1 | false => 3
 | .prof f => f.ct
 | .profB b => bk b
 | .inks ns _ _ _ => (ns.map V.str).length
 | .idx _ _ _ => 1
 | .pat => 0
 | .patB _ => 0
noncomputable def ib : Tr → V
 | .dev f => .tup [.str gq, .str f.nm]
 | .cal b => .tup [.str n7, .str (sZ b)]
 | .prof f => .tup [.str dl, .int f.ct, .none]
 | .profB b => .tup [.str dl, .int (bk b), ib b]
 | .inks ns b ws m => .tup [.str aL, .tup (ns.map .str), ib b, .list (ws.map .int), .bool m]
 | .idx b most o => .tup [.str cH, ib b, .int most, .bytes o]
 | .pat => .tup [.str cW, .none]
 | .patB b => .tup [.str cW, ib b]
inductive gf : Nat → Tr → Prop
 | dev (n : Nat) (f : Fam) : gf n (.dev f)
 | cal (n : Nat) (b : Bool) : gf n (.cal b)
 | prof (n : Nat) (f : Fam) : gf n (.prof f)
 | profB {n : Nat} {b : Tr} (h : gf n b) : gf (n + 1) (.profB b)
section
variable {prog : Program} {k : Nat} {mem : Mem} {Q : V → Mem → Prop} {R : Mem → Prop}
theorem b0 {t : Tr} (h : Q (.int (bk t)) mem) : bA prog (k + 4) (.ref 659) [ib t] mem Q R := by
 refine cf Np No ?_
 cases t with
 | dev f => cases f <;> exact cf Nk Nj h
 | cal b => cases b <;> exact h
 | prof f => exact h
 | profB b => exact h
 | inks ns b ws m => exact h
 | idx b m o => exact h
 | pat => exact h
 | patB b => exact h
end
section
variable {prog : Program} {k : Nat} {pa ta : Addr} {cells : Ce} {g : G} {pre : Mem} {Q : V → Mem → Prop} {R : Mem → Prop}
theorem gI (hne : pa ≠ ta) (hp : Hd pa ta pre) (hs : g.spot < 2 ^ 20) (h : ∀ (f : Fam) (a b : Nat), a ≤ g.spot + 1 → Q (ib (.dev f)) (pre ++ Mm pa ta cells ⟨g.vs, a, b⟩)) : bA prog (k + 4) (.ref 652) [.mut pa] (pre ++ Mm pa ta cells g) Q R := by
 refine cf Nn Nl ?_
 refine bx hne hp (many := 3) (by decide) (by decide) hs fun r a b hr ha => ?_
 match r, hr with
 | 0, _ => exact h .gray a b ha
 | 1, _ => exact h .rgb a b ha
 | 2, _ => exact h .cmyk a b ha
theorem dE (hne : pa ≠ ta) (hp : Hd pa ta pre) : ∀ {n : Nat} {k : Nat} {d : Int} {g : G} {Q : V → Mem → Prop}, d = n → g.spot + n < 2 ^ 19 → (∀ (t : Tr) (a b : Nat), gf n t → a ≤ g.spot + n + 2 → Q (ib t) (pre ++ Mm pa ta cells ⟨g.vs, a, b⟩)) →
  bA prog (k + n + 5) (.ref 666) [.mut pa, .int d] (pre ++ Mm pa ta cells g) Q R
 | 0, k, _, g, Q, rfl, hs, h => by
  refine cf IY IX ?_
  refine bx hne hp (many := 2) (by decide) (by decide) (by lia) fun r a b hr ha => ?_
  match r, hr with
  | 0, _ => exact gI hne hp (g := ⟨g.vs, a, b⟩) (by show a < _; lia) fun f a' b' ha' => h _ a' b' (.dev 0 f) (by have : a' ≤ a + 1 := ha'; lia)
  | 1, _ =>
   refine bx hne hp (g := ⟨g.vs, a, b⟩) (many := 2) (by decide) (by decide) (by show a < _; lia) fun r a' b' hr ha' => ?_
   have ha' : a' ≤ a + 1 := ha'
   match r, hr with
   | 0, _ => exact h _ a' b' (.cal 0 true) (by lia)
   | 1, _ => exact h _ a' b' (.cal 0 false) (by lia)
 | n + 1, k, _, g, Q, rfl, hs, h => by
  refine cf (k := k + n + 3) IY IX ?_
  refine cS (fun _ => ?_) fun e => absurd (by lia) e
  refine bx hne hp (many := 4) (by decide) (by decide) (by lia) fun r a b hr ha => ?_
  match r, hr with
  | 0, _ => exact (gI (k := k) hne hp (g := ⟨g.vs, a, b⟩) (by show a < _; lia) fun f a' b' ha' => h _ a' b' (.dev _ f) (by have : a' ≤ a + 1 := ha'; lia)).up (by lia)
  | 1, _ =>
   refine bx hne hp (g := ⟨g.vs, a, b⟩) (many := 2) (by decide) (by decide) (by show a < _; lia) fun r a' b' hr ha' => ?_
   have ha' : a' ≤ a + 1 := ha'
   match r, hr with
   | 0, _ => exact h _ a' b' (.cal _ true) (by lia)
   | 1, _ => exact h _ a' b' (.cal _ false) (by lia)
  | 2, _ =>
   refine bx hne hp (g := ⟨g.vs, a, b⟩) (many := 3) (by decide) (by decide) (by show a < _; lia) fun r a' b' hr ha' => ?_
   have ha' : a' ≤ a + 1 := ha'
   match r, hr with
   | 0, _ => exact h _ a' b' (.prof _ .gray) (by lia)
   | 1, _ => exact h _ a' b' (.prof _ .rgb) (by lia)
   | 2, _ => exact h _ a' b' (.prof _ .cmyk) (by lia)
  | 3, _ =>
   refine dE hne hp (n := n) (k := k) (g := ⟨g.vs, a, b⟩) (by lia) (by show a + n < _; lia) fun t a' b' ht ha' => ?_
   have ha' : a' ≤ a + n + 2 := ha'
   refine (b0 (k := k + n + 1) ?_)
   exact h _ a' b' (.profB ht) (by lia)
end
noncomputable def tI : List Str → List Str → Bool
 | _, [] => true
 | acc, s :: r => !((s.cps.toList != dS.cps.toList) && acc.any (· == s)) && (s.cps.all (· < 0x110000) && tI (acc ++ [s]) r)
noncomputable def lB (r : Nat) : Str := match r with | 0 => kO | 1 => ng | 2 => dS | _ => qy
noncomputable def NV (i : Int) : Str := lO ++ Str.ofString (toString i)
noncomputable def jW (i : Int) (r : Nat) : Str := match r with | 0 => dS | _ => NV i
structure jr (ns : List Str) (ws : List Int) (m : Bool) : Prop where
 ok : tI [] ns = true
 pos : 0 < ns.length
 len : ns.length ≤ 3
 one : m = false → ns.length = 1
 w4 : ws.length = 4
 w : ∀ w ∈ ws, 0 ≤ w ∧ w < 12
inductive Gn : Tr → Prop
 | mk {ns : List Str} {b : Tr} {ws : List Int} {m : Bool} (h : jr ns ws m) (hb : gf 1 b) : Gn (.inks ns b ws m)
theorem OS {r : Nat} (h : r < 4) : tI [] [lB r] = true := match r, h with
 | 0, _ => by decide +kernel
 | 1, _ => by decide +kernel
 | 2, _ => by decide +kernel
 | 3, _ => by decide +kernel
theorem OT {r s : Nat} (h : r < 4) (h2 : s < 2) : tI [] [lB r, jW 0 s] = true := match r, h, s, h2 with
 | 0, _, 0, _ => by decide +kernel
 | 0, _, 1, _ => by decide +kernel
 | 1, _, 0, _ => by decide +kernel
 | 1, _, 1, _ => by decide +kernel
 | 2, _, 0, _ => by decide +kernel
 | 2, _, 1, _ => by decide +kernel
 | 3, _, 0, _ => by decide +kernel
 | 3, _, 1, _ => by decide +kernel
theorem OU {r s t : Nat} (h : r < 4) (h2 : s < 2) (h3 : t < 2) : tI [] [lB r, jW 0 s, jW 1 t] = true := by
 have e : ∀ r, r < 4 → ∀ s, s < 2 → ∀ t, t < 2 → tI [] [lB r, jW 0 s, jW 1 t] = true := by decide +kernel
 exact e r h s h2 t h3
section
variable {prog : Program} {d : Nat} {R : St → Prop} {Qn : St → Prop} {Qr : V → St → Prop}
theorem lC {x : Str} {a : Addr} {l : List V} {loc : List (Str × V)} {m : Mem} {b : S} (h1 : loc.lookup x = some (.mut a)) (hm : m.lookup a = none) (h : bH prog d b R ⟨put x (.list l) loc, m⟩ Qn Qr) : bH prog d (.seq (.frz x) b) R ⟨loc, (a, .list l) :: m⟩ Qn Qr := by
 have e : ll x ⟨loc, (a, .list l) :: m⟩ = ⟨put x (.list l) loc, m⟩ := by
  unfold ll
  simp only [h1, bp, dp hm]
 show bH prog d b R (ll x ⟨loc, (a, .list l) :: m⟩) Qn Qr
 rw [e]; exact h
theorem js {a : Addr} {l : List V} {m : Mem} : pM (.mut a) bI ((a, .list l) :: m) = true := by
 unfold pM
 simp only [bp]
 exact beq_self_eq_true _
variable {pa ta na : Addr} {cells : Ce} {g : G}
theorem wd {x : M} (h : (Mm pa ta cells g).lookup na = none) (hne : pa ≠ ta) : Hd pa ta [(na, x)] := by
 have e1 : na ≠ pa := fun e => by rw [e, sV hne] at h; cases h
 have e2 : na ≠ ta := fun e => by rw [e, kE] at h; cases h
 exact ⟨by rw [List.lookup_cons, beq_eq_false_iff_ne.mpr (Ne.symm e1)]; rfl, by rw [List.lookup_cons, beq_eq_false_iff_ne.mpr (Ne.symm e2)]; rfl⟩
theorem gJ {g' : G} (h : (Mm pa ta cells g).lookup na = none) : (Mm pa ta cells g').lookup na = none := by
 unfold Mm at h ⊢
 rw [List.lookup_cons] at h ⊢
 cases e : (na == ta) with
 | true => rw [e] at h; cases h
 | false =>
  rw [e] at h
  simp only at h ⊢
  rw [List.lookup_cons] at h ⊢
  cases e2 : (na == pa) with
  | true => rw [e2] at h; cases h
  | false => rw [e2] at h; exact h
theorem s0 {r : Nat} (h : r < 4) : [V.str kO, .str ng, .str dS, .str qy][((r : Nat) : Int).toNat]? = some (.str (lB r)) := match r, h with
 | 0, _ => rfl
 | 1, _ => rfl
 | 2, _ => rfl
 | 3, _ => rfl
theorem s1 {r : Nat} {i : Int} (h : r < 2) : [V.str dS, .str (lO ++ Str.ofString (toString i))][((r : Nat) : Int).toNat]? = some (.str (jW i r)) := match r, h with
 | 0, _ => rfl
 | 1, _ => rfl
noncomputable def Js : S := (.seq (.ex (.meth (.loc aM) bI (.cons (.sub (.lst (.cons (.str dS) (.cons (.bin .Add (.str lO) (.call (.gv (.typ .str)) (.cons (.loc af) .nil))) .nil))) (.call (.gv (.ref 638)) (.cons (.loc ah) (.cons (.int (2)) .nil)))) .nil))) .nil)
theorem jt {k : Nat} (hne : pa ≠ ta) (hna : (Mm pa ta cells g).lookup na = none) {i : Int} (hi : i.natAbs < 1000) (hi2 : (lO.length + (Str.ofString (toString i)).length) ≤ cap) {dv : V} {l : List V} (hl : l.length + 1 ≤ cap) (hs : g.spot < 2 ^ 20)
  (h : ∀ r a b : Nat, r < 2 → a ≤ g.spot + 1 → Qn ⟨[(ah, .mut pa), (aG, dv), (aM, .mut na), (af, .int i)], (na, .list (l ++ [.str (jW i r)])) :: Mm pa ta cells ⟨g.vs, a, b⟩⟩) :
  bH prog (k + 3) Js R ⟨[(ah, .mut pa), (aG, dv), (aM, .mut na), (af, .int i)], (na, .list l) :: Mm pa ta cells g⟩ Qn Qr := by
 refine cC js ?_
 refine And.intro hi ?_
 refine And.intro hi2 ?_
 refine bx hne (pre := [(na, .list l)]) (wd hna hne) (many := 2) (by decide) (by decide) hs fun r a b hr ha => ?_
 refine cC (decide_eq_true (Int.natCast_nonneg r)) (ag (s1 hr) ?_)
 refine ag (bp ..) (And.intro rfl (And.intro hl ?_))
 show Qn ⟨_, put na _ ((na, _) :: Mm pa ta cells ⟨g.vs, a, b⟩)⟩
 rw [bS]
 exact h r a b hr ha
end
section
variable {prog : Program} {k : Nat} {pa ta : Addr} {cells : Ce} {g : G} {Q : V → Mem → Prop} {R : Mem → Prop}
noncomputable def Jt : S := (.seq (.frz aM) (.seq (.asg aJ (.call (.gv (.ref 666)) (.cons (.loc ah) (.cons (.loc aG) .nil)))) (.seq (.ret (.tup (.cons (.str aL) (.cons (.call (.gv (.typ .tuple)) (.cons (.loc aM) .nil)) (.cons (.loc aJ) (.cons (.comp [ah] a8 (.call (.gv (.ref 638)) (.cons (.loc ah) (.cons (.int (12)) .nil))) (.call (.gv (.typ .range)) (.cons (.int (4)) .nil)) .nil) (.cons (.orr (.cons (.cmp .Gt (.call (.gv (.bi .len)) (.cons (.loc aM) .nil)) (.int (1))) (.cons (.cmp .Eq (.call (.gv (.ref 638)) (.cons (.loc ah) (.cons (.int (2)) .nil))) (.int (1))) .nil))) .nil))))))) .nil)))
theorem s2 {a b c d : Nat} (ha : a < 12) (hb : b < 12) (hc : c < 12) (hd : d < 12) : ∀ w ∈ [(a : Int), (b : Int), (c : Int), (d : Int)], 0 ≤ w ∧ w < 12 := by
 intro w hw
 simp only [List.mem_cons, List.not_mem_nil, or_false] at hw
 rcases hw with rfl | rfl | rfl | rfl <;> lia
theorem ju (hne : pa ≠ ta) {na : Addr} (hna : (Mm pa ta cells g).lookup na = none) {d : Int} (hd : d = (1 : Nat)) {loc' : List (Str × V)} (hl : loc' = [] ∨ ∃ v, loc' = [(af, v)]) {ns : List Str} (hs : g.spot < 2 ^ 18) (hok : tI [] ns = true) (hp : 0 < ns.length) (hlen : ns.length ≤ 3)
  (h : ∀ (t : Tr) (a b : Nat), Gn t → a ≤ g.spot + 8 → Q (ib t) (Mm pa ta cells ⟨g.vs, a, b⟩)) :
  bH prog (k + 6) Jt (fun σ => R σ.mem) ⟨[(ah, .mut pa), (aG, .int d), (aM, .mut na)] ++ loc', (na, .list (ns.map .str)) :: Mm pa ta cells g⟩ (fun σ => Q .none σ.mem) (fun v σ => Q v σ.mem) := by
 refine lC (by rcases hl with rfl | ⟨v, rfl⟩ <;> rfl) hna ?_
 have go : ∀ loc, loc = [(ah, V.mut pa), (aG, .int d), (aM, .list (ns.map .str))] ++ loc' → bH prog (k + 6) (.seq (.asg aJ (.call (.gv (.ref 666)) (.cons (.loc ah) (.cons (.loc aG) .nil)))) (.seq (.ret (.tup (.cons (.str aL) (.cons (.call (.gv (.typ .tuple)) (.cons (.loc aM) .nil)) (.cons (.loc aJ) (.cons (.comp [ah] a8 (.call (.gv (.ref 638)) (.cons (.loc ah) (.cons (.int (12)) .nil))) (.call (.gv (.typ .range)) (.cons (.int (4)) .nil)) .nil) (.cons (.orr (.cons (.cmp .Gt (.call (.gv (.bi .len)) (.cons (.loc aM) .nil)) (.int (1))) (.cons (.cmp .Eq (.call (.gv (.ref 638)) (.cons (.loc ah) (.cons (.int (2)) .nil))) (.int (1))) .nil))) .nil))))))) .nil)) (fun σ => R σ.mem) ⟨loc, Mm pa ta cells g⟩ (fun σ => Q .none σ.mem) (fun v σ => Q v σ.mem) := fun loc e => by
  have key : ∀ (loc : List (Str × V)), loc.lookup ah = some (.mut pa) → loc.lookup aM = some (.list (ns.map .str)) → dg [ah] loc = [(ah, .mut pa)] → ∀ (t : Tr) (a b : Nat), gf 1 t → a ≤ g.spot + 3 → loc.lookup aJ = some (ib t) →
    bH prog (k + 6) (.seq (.ret (.tup (.cons (.str aL) (.cons (.call (.gv (.typ .tuple)) (.cons (.loc aM) .nil)) (.cons (.loc aJ) (.cons (.comp [ah] a8 (.call (.gv (.ref 638)) (.cons (.loc ah) (.cons (.int (12)) .nil))) (.call (.gv (.typ .range)) (.cons (.int (4)) .nil)) .nil) (.cons (.orr (.cons (.cmp .Gt (.call (.gv (.bi .len)) (.cons (.loc aM) .nil)) (.int (1))) (.cons (.cmp .Eq (.call (.gv (.ref 638)) (.cons (.loc ah) (.cons (.int (2)) .nil))) (.int (1))) .nil))) .nil))))))) .nil) (fun σ => R σ.mem) ⟨loc, Mm pa ta cells ⟨g.vs, a, b⟩⟩ (fun σ => Q .none σ.mem) (fun v σ => Q v σ.mem) := fun loc l1 l2 l3 t a b ht ha l4 => by
   refine ag l2 ?_
   refine ag l4 ?_
   show dD _ _ _ ⟨dg [ah] loc, Mm pa ta cells ⟨g.vs, a, b⟩⟩ _
   rw [l3]
   refine bx hne ⟨rfl, rfl⟩ (pre := []) (g := ⟨g.vs, a, b⟩) (many := 12) (by decide) (by decide) (by show a < _; lia) fun r1 a1 b1 hr1 ha1 => ?_
   have ha1 : a1 ≤ a + 1 := ha1
   refine bx hne ⟨rfl, rfl⟩ (pre := []) (g := ⟨g.vs, a1, b1⟩) (many := 12) (by decide) (by decide) (by show a1 < _; lia) fun r2 a2 b2 hr2 ha2 => ?_
   have ha2 : a2 ≤ a1 + 1 := ha2
   refine bx hne ⟨rfl, rfl⟩ (pre := []) (g := ⟨g.vs, a2, b2⟩) (many := 12) (by decide) (by decide) (by show a2 < _; lia) fun r3 a3 b3 hr3 ha3 => ?_
   have ha3 : a3 ≤ a2 + 1 := ha3
   refine bx hne ⟨rfl, rfl⟩ (pre := []) (g := ⟨g.vs, a3, b3⟩) (many := 12) (by decide) (by decide) (by show a3 < _; lia) fun r4 a4 b4 hr4 ha4 => ?_
   have ha4 : a4 ≤ a3 + 1 := ha4
   refine ag l2 ?_
   have lm : (ns.map V.str).length = ns.length := List.length_map ..
   refine cS (fun _ => ?_) fun hc => ?_
   ·exact h (.inks ns t [(r1 : Int), (r2 : Int), (r3 : Int), (r4 : Int)] true) a4 b4 (.mk ⟨hok, hp, hlen, fun e => (by cases e), rfl, s2 hr1 hr2 hr3 hr4⟩ ht) (by lia)
   ·have l1' : ns.length = 1 := by rw [lm] at hc; lia
    refine ag l1 ?_
    refine bx hne ⟨rfl, rfl⟩ (pre := []) (g := ⟨g.vs, a4, b4⟩) (many := 2) (by decide) (by decide) (by show a4 < _; lia) fun r5 a5 b5 hr5 ha5 => ?_
    have ha5 : a5 ≤ a4 + 1 := ha5
    match r5, hr5 with
    | 0, _ => exact h (.inks ns t [(r1 : Int), (r2 : Int), (r3 : Int), (r4 : Int)] false) a5 b5 (.mk ⟨hok, hp, hlen, fun _ => l1', rfl, s2 hr1 hr2 hr3 hr4⟩ ht) (by lia)
    | 1, _ => exact h (.inks ns t [(r1 : Int), (r2 : Int), (r3 : Int), (r4 : Int)] true) a5 b5 (.mk ⟨hok, hp, hlen, fun e => (by cases e), rfl, s2 hr1 hr2 hr3 hr4⟩ ht) (by lia)
  subst e
  rcases hl with rfl | ⟨v, rfl⟩
  ·exact dE hne ⟨rfl, rfl⟩ (pre := []) (n := 1) (k := k) hd (by lia) fun t a b ht ha => key _ rfl rfl rfl t a b ht (by lia) rfl
  ·exact dE hne ⟨rfl, rfl⟩ (pre := []) (n := 1) (k := k) hd (by lia) fun t a b ht ha => key _ rfl rfl rfl t a b ht (by lia) rfl
 exact go _ (by rcases hl with rfl | ⟨v, rfl⟩ <;> rfl)
theorem jv (hne : pa ≠ ta) {d : Int} (hd : d = (1 : Nat)) (hs : g.spot < 2 ^ 17) (h : ∀ (t : Tr) (a b : Nat), Gn t → a ≤ g.spot + 12 → Q (ib t) (Mm pa ta cells ⟨g.vs, a, b⟩)) : bA prog (k + 7) (.ref 671) [.mut pa, .int d] (Mm pa ta cells g) Q R := by
 refine cf Nr Nq ?_
 refine bx hne ⟨rfl, rfl⟩ (pre := []) (many := 4) (by decide) (by decide) (by lia) fun r a b hr ha => ?_
 refine cC (decide_eq_true (Int.natCast_nonneg r)) (ag (s0 hr) ?_)
 intro na hna
 refine bx hne (pre := [(na, .list [.str (lB r)])]) (wd (g := ⟨g.vs, a, b⟩) hna hne) (g := ⟨g.vs, a, b⟩) (many := 3) (by decide) (by decide) (by show a < _; lia) fun r1 a1 b1 hr1 ha1 => ?_
 have ha1 : a1 ≤ a + 1 := ha1
 have hn1 := gJ (g' := ⟨g.vs, a1, b1⟩) hna
 match r1, hr1 with
 | 0, _ => exact ju (k := k) hne hn1 hd (.inl rfl) (ns := [lB r]) (by show a1 < _; lia) (OS hr) (Nat.le_of_ble_eq_true rfl) (Nat.le_of_ble_eq_true rfl) fun t a' b' ht ha' => h t a' b' ht (by have : a' ≤ a1 + 8 := ha'; lia)
 | 1, _ =>
  refine jt (k := k + 3) hne hn1 (i := 0) (by decide) (by decide +kernel) (Nat.le_of_ble_eq_true rfl) (by show a1 < _; lia) fun r2 a2 b2 hr2 ha2 => ?_
  have ha2 : a2 ≤ a1 + 1 := ha2
  exact ju (k := k) hne (gJ (g' := ⟨g.vs, a2, b2⟩) hna) hd (.inr ⟨_, rfl⟩) (ns := [lB r, jW 0 r2]) (by show a2 < _; lia) (OT hr hr2) (Nat.le_of_ble_eq_true rfl) (Nat.le_of_ble_eq_true rfl) fun t a' b' ht ha' => h t a' b' ht (by have : a' ≤ a2 + 8 := ha'; lia)
 | 2, _ =>
  refine jt (k := k + 3) hne hn1 (i := 0) (by decide) (by decide +kernel) (Nat.le_of_ble_eq_true rfl) (by show a1 < _; lia) fun r2 a2 b2 hr2 ha2 => ?_
  have ha2 : a2 ≤ a1 + 1 := ha2
  refine jt (k := k + 3) hne (gJ (g' := ⟨g.vs, a2, b2⟩) hna) (i := 1) (by decide) (by decide +kernel) (Nat.le_of_ble_eq_true rfl) (by show a2 < _; lia) fun r3 a3 b3 hr3 ha3 => ?_
  have ha3 : a3 ≤ a2 + 1 := ha3
  exact ju (k := k) hne (gJ (g' := ⟨g.vs, a3, b3⟩) hna) hd (.inr ⟨_, rfl⟩) (ns := [lB r, jW 0 r2, jW 1 r3]) (by show a3 < _; lia) (OU hr hr2 hr3) (Nat.le_of_ble_eq_true rfl) (Nat.le_of_ble_eq_true rfl) fun t a' b' ht ha' => h t a' b' ht (by have : a' ≤ a3 + 8 := ha'; lia)
end
noncomputable def ie (r : Nat) : Nat := match r with | 0 => 0 | 1 => 1 | 2 => 2 | _ => 5
inductive Bs : Tr → Prop
 | pln {t : Tr} (h : gf 1 t) : Bs t
 | ink {t : Tr} (h : Gn t) : Bs t
inductive Sp : Tr → Prop
 | pln {t : Tr} (h : gf 2 t) : Sp t
 | ink {t : Tr} (h : Gn t) : Sp t
 | idx {b : Tr} {m : Nat} {o : List UInt8} (hb : Bs b) (hm : m ≤ 5) (h1 : (m + 1) * bk b ≤ o.length) (h2 : o.length ≤ (m + 1) * bk b + 1) : Sp (.idx b m o)
 | pat : Sp .pat
 | patB {b : Tr} (hb : Bs b) : Sp (.patB b)
theorem gf.cnt_le {n : Nat} {t : Tr} (h : gf n t) : bk t ≤ 4 := by
 induction h with
 | dev n f => cases f <;> decide
 | cal n b => cases b <;> decide
 | prof n f => cases f <;> decide
 | profB h ih => exact ih
theorem Bs.cnt_le {t : Tr} (h : Bs t) : bk t ≤ 4 := by
 cases h with
 | pln h => exact h.cnt_le
 | ink h =>
  cases h with | mk h hb =>
  show (List.map V.str _).length ≤ 4
  rw [List.length_map]
  exact Nat.le_trans h.len (by decide)
theorem p9 {r : Nat} (h : r < 4) : [V.int (0), .int (1), .int (2), .int (5)][((r : Nat) : Int).toNat]? = some (.int (ie r)) := match r, h with
 | 0, _ => rfl
 | 1, _ => rfl
 | 2, _ => rfl
 | 3, _ => rfl
theorem s3 (r : Nat) : ie r ≤ 5 := by unfold ie; split <;> decide
theorem gY {n : Int} {m : Nat} (e : n = m) (h : m ≤ 4096) : eK (.rng 0 n) = some (i8 0 m) := by
 subst e
 show (if (0 : Int) ≤ 0 ∧ (0 : Int) ≤ m ∧ (m : Int) ≤ 4096 then some (i8 0 m) else none) = _
 rw [if_pos ⟨by lia, by lia, by lia⟩]
theorem gK (m : Nat) : (i8 0 m).length = m := by unfold i8; rw [List.length_map, List.length_range]; lia
section
variable {prog : Program} {k : Nat} {pa ta : Addr} {cells : Ce} {g : G} {Q : V → Mem → Prop} {R : Mem → Prop}
noncomputable def JO (pa ta : Addr) (cells : Ce) (vs : List V) (a0 : Nat) (acc : List V) (m : Mem) : Prop := ∃ (l : List Nat) (a b : Nat), acc = l.map (fun n : Nat => V.int (n : Int)) ∧ (∀ n ∈ l, n < 256) ∧ a ≤ a0 + acc.length ∧ m = Mm pa ta cells ⟨vs, a, b⟩
theorem mI (hne : pa ≠ ta) (hs : g.spot < 2 ^ 16) (h : ∀ (t : Tr) (a b : Nat), Sp t → a ≤ g.spot + 50 → Q (ib t) (Mm pa ta cells ⟨g.vs, a, b⟩)) : bA prog (k + 8) (.ref 676) [.mut pa] (Mm pa ta cells g) Q R := by
 refine cf Nv Nt ?_
 refine bx hne ⟨rfl, rfl⟩ (pre := []) (many := 4) (by decide) (by decide) (by lia) fun r a b hr ha => ?_
 have hp : Hd pa ta [] := ⟨rfl, rfl⟩
 have base : ∀ {R' : St → Prop} {K : V → St → Prop} {loc : List (Str × V)} {a b : Nat}, a ≤ g.spot + 1 → loc.lookup ah = some (.mut pa) → (∀ (t : Tr) (a' b' : Nat), Bs t → a' ≤ a + 13 → K (ib t) ⟨loc, Mm pa ta cells ⟨g.vs, a', b'⟩⟩) →
   vc prog (k + 7) (.ite (.cmp .Eq (.call (.gv (.ref 638)) (.cons (.loc ah) (.cons (.int (2)) .nil))) (.int (0))) (.call (.gv (.ref 671)) (.cons (.loc ah) (.cons (.int (1)) .nil))) (.call (.gv (.ref 666)) (.cons (.loc ah) (.cons (.int (1)) .nil)))) R' ⟨loc, Mm pa ta cells ⟨g.vs, a, b⟩⟩ K := fun {R' K loc a b} ha l1 hK => by
  refine ag l1 ?_
  refine bx hne hp (g := ⟨g.vs, a, b⟩) (many := 2) (by decide) (by decide) (by show a < _; lia) fun r a1 b1 hr ha1 => ?_
  have ha1 : a1 ≤ a + 1 := ha1
  match r, hr with
  | 0, _ => exact ag l1 (jv hne (k := k) (d := 1) rfl (g := ⟨g.vs, a1, b1⟩) (by show a1 < _; lia) fun t a2 b2 ht ha2 => hK t a2 b2 (.ink ht) (by have : a2 ≤ a1 + 12 := ha2; lia))
  | 1, _ => exact ag l1 (dE hne hp (k := k + 1) (d := 1) (n := 1) rfl (g := ⟨g.vs, a1, b1⟩) (by show a1 + 1 < _; lia) fun t a2 b2 ht ha2 => hK t a2 b2 (.pln ht) (by have : a2 ≤ a1 + 1 + 2 := ha2; lia))
 match r, hr with
 | 0, _ => exact dE hne hp (k := k) (d := 2) (n := 2) rfl (g := ⟨g.vs, a, b⟩) (by show a + 2 < _; lia) fun t a2 b2 ht ha2 => h t a2 b2 (.pln ht) (by have : a2 ≤ a + 2 + 2 := ha2; lia)
 | 1, _ => exact jv hne (k := k) (d := 1) rfl (g := ⟨g.vs, a, b⟩) (by show a < _; lia) fun t a2 b2 ht ha2 => h t a2 b2 (.ink ht) (by have : a2 ≤ a + 12 := ha2; lia)
 | 2, _ =>
  refine base (loc := [(ah, .mut pa), (fQ, .int (2 : Nat))]) ha rfl fun t a1 b1 ht ha1 => ?_
  refine bx hne hp (g := ⟨g.vs, a1, b1⟩) (many := 4) (by decide) (by decide) (by show a1 < _; lia) fun r a2 b2 hr ha2 => ?_
  have ha2 : a2 ≤ a1 + 1 := ha2
  refine cC (decide_eq_true (Int.natCast_nonneg r)) (ag (p9 hr) ?_)
  refine b0 (k := k + 3) ?_
  have hm := s3 r
  have hc := ht.cnt_le
  refine And.intro (bL (by lia)) ?_
  refine bx hne hp (g := ⟨g.vs, a2, b2⟩) (many := 2) (by decide) (by decide) (by show a2 < _; lia) fun e a3 b3 he ha3 => ?_
  have ha3 : a3 ≤ a2 + 1 := ha3
  have eN : ((ie r : Int) + 1) * (bk t) + e = (((ie r + 1) * bk t + e : Nat) : Int) := by simp
  have hN : (ie r + 1) * bk t ≤ 6 * 4 := Nat.mul_le_mul (by lia) hc
  refine ag (gY eN (by lia)) ?_
  refine dQ (J := JO pa ta cells g.vs a3) (fun y acc m K hN' hJ hK => ?_) (.inl rfl) (acc := []) (List.drop_zero ..) ⟨[], a3, b3, rfl, fun _ h => (nomatch h), Nat.le_refl _, rfl⟩ fun bs m' hb hJ => ?_
  ·obtain ⟨l, a4, b4, rfl, hl, ha4, rfl⟩ := hJ
   have hlen : (l.map (fun n : Nat => V.int (n : Int))).length < (ie r + 1) * bk t + e := by
    have := (List.getElem?_eq_some_iff.mp hN').1
    rwa [gK] at this
   refine bx hne hp (g := ⟨g.vs, a4, b4⟩) (many := 256) (by decide) (by decide) (by show a4 < _; lia) fun q a5 b5 hq ha5 => ?_
   have ha5 : a5 ≤ a4 + 1 := ha5
   refine hK _ _ ⟨l ++ [q], a5, b5, by rw [List.map_append]; rfl, fun n hn => ?_, by rw [List.length_append]; show a5 ≤ a3 + (_ + 1); lia, rfl⟩
   rcases List.mem_append.mp hn with hn | hn
   ·exact hl n hn
   ·rw [List.mem_singleton.mp hn]; exact hq
  ·obtain ⟨l, a4, b4, e1, hl, ha4, rfl⟩ := hJ
   rw [List.nil_append] at e1 ha4
   subst e1
   rw [gK, List.length_map] at hb
   refine ag (eP _ _) (And.intro ?_ ?_)
   ·intro n hn
    obtain ⟨x, hx, rfl⟩ := List.mem_map.mp hn
    have := hl x hx
    lia
   ·exact h (.idx t (ie r) _) a4 b4 (.idx ht hm (by simp; lia) (by simp; lia)) (by simp at ha4; lia)
 | 3, _ =>
  refine base (loc := [(ah, .mut pa), (fQ, .int (3 : Nat))]) ha rfl fun t a1 b1 ht ha1 => ?_
  refine bx hne hp (g := ⟨g.vs, a1, b1⟩) (many := 2) (by decide) (by decide) (by show a1 < _; lia) fun r a2 b2 hr ha2 => ?_
  have ha2 : a2 ≤ a1 + 1 := ha2
  match r, hr with
  | 0, _ => exact h (.patB t) a2 b2 (.patB ht) (by lia)
  | 1, _ => exact h .pat a2 b2 .pat (by lia)
end
structure Gx (c : Nat) (g g' : G) : Prop where
 ex : ∃ us, g'.vs = g.vs ++ us
 len : g'.vs.length ≤ g.vs.length + c
 sp : g'.spot ≤ g.spot + c
structure nK (g : G) (c : Nat) : Prop where
 len : g.vs.length + c < 4000
 sp : g.spot + c < 2 ^ 16
theorem Gx.refl (g : G) (c : Nat) : Gx c g g := ⟨⟨[], by rw [List.append_nil]⟩, Nat.le_add_right .., Nat.le_add_right ..⟩
theorem Gx.trans {a b c : Nat} {g g1 g2 : G} (h1 : Gx a g g1) (h2 : Gx b g1 g2) (h : a + b ≤ c) : Gx c g g2 := by
 obtain ⟨us, e1⟩ := h1.ex
 obtain ⟨vs, e2⟩ := h2.ex
 have := h1.len; have := h2.len; have := h1.sp; have := h2.sp
 exact ⟨⟨us ++ vs, by rw [e2, e1, List.append_assoc]⟩, by lia, by lia⟩
theorem nK.next {a b c : Nat} {g g1 : G} (hr : nK g c) (h1 : Gx a g g1) (h : a + b ≤ c) : nK g1 b := by
 have := h1.len; have := h1.sp; have := hr.len; have := hr.sp
 exact ⟨by lia, by lia⟩
theorem eD.gx {c : Nat} {g g' : G} {v w : V} (h : eD g.vs v w) (hg : Gx c g g') : eD g'.vs v w := by
 obtain ⟨us, e⟩ := hg.ex
 rw [e]; exact h.more us
noncomputable def ft (ws : List Int) : V := .dict [(eU, .int 2), (GN, .list (ws.map .int))]
noncomputable def vg : V := .dict [(jY, cr bc)]
noncomputable def profB : List UInt8 := [112, 114, 111, 102, 105, 108, 101]
inductive jw (vs : List V) : Tr → V → Prop
 | dev {f : Fam} {v : V} (h : eD vs v (cr f.nm)) : jw vs (.dev f) v
 | devL {f : Fam} {v x : V} (h : eD vs v (.list [x])) (hx : eD vs x (cr f.nm)) : jw vs (.dev f) v
 | cal {b : Bool} {v x : V} {d : List (Str × V)} (h : eD vs v (.list [cr (sZ b), x])) (hx : eD vs x (.dict d)) : jw vs (.cal b) v
 | prof {f : Fam} {v x r : V} (h : eD vs v (.list [cr ca, r])) (hr : eD vs r (pc [(tG, x)] profB)) (hx : eD vs x (.int f.ct)) : jw vs (.prof f) v
 | profB {b : Tr} {v x y r : V} (h : eD vs v (.list [cr ca, r])) (hr : eD vs r (pc [(tG, x), (cA, y)] profB)) (hx : eD vs x (.int (bk b))) (hy : jw vs b y) : jw vs (.profB b) v
 | idx {b : Tr} {m : Nat} {o : List UInt8} {v y x z w : V} (h : eD vs v (.list [cr av, y, x, z])) (hy : jw vs b y) (hx : eD vs x (.int m)) (hz : eD vs z w) (hw : w = wc o ∨ w = pc [] o) : jw vs (.idx b m o) v
 | inksN {ns : List Str} {b : Tr} {ws : List Int} {v n y t : V} {xs ex : List V} (h : eD vs v (.list ([cr bc, n, y, t] ++ ex))) (he : ex = [] ∨ ex = [vg]) (hn : eD vs n (.list xs)) (hl : xs.length = ns.length) (hxs : ∀ (i : Nat) (s : Str) (x : V), ns[i]? = some s → xs[i]? = some x → eD vs x (cr s)) (hy : jw vs b y) (ht : eD vs t (ft ws)) : jw vs (.inks ns b ws true) v
 | inks1 {s : Str} {b : Tr} {ws : List Int} {v y t : V} (h : eD vs v (.list [cr bg, cr s, y, t])) (hy : jw vs b y) (ht : eD vs t (ft ws)) : jw vs (.inks [s] b ws false) v
theorem jw.more {vs : List V} {t : Tr} {v : V} (h : jw vs t v) (us : List V) : jw (vs ++ us) t v := by
 induction h with
 | dev h => exact .dev (h.more us)
 | devL h hx => exact .devL (h.more us) (hx.more us)
 | cal h hx => exact .cal (h.more us) (hx.more us)
 | prof h hr hx => exact .prof (h.more us) (hr.more us) (hx.more us)
 | profB h hr hx hy ih => exact .profB (h.more us) (hr.more us) (hx.more us) ih
 | idx h hy hx hz hw ih => exact .idx (h.more us) ih (hx.more us) (hz.more us) hw
 | inksN h he hn hl hxs hy ht ih => exact .inksN (h.more us) he (hn.more us) hl (fun i s x a b => (hxs i s x a b).more us) ih (ht.more us)
 | inks1 h hy ht ih => exact .inks1 (h.more us) ih (ht.more us)
theorem jw.gx {c : Nat} {g g' : G} {t : Tr} {v : V} (h : jw g.vs t v) (hg : Gx c g g') : jw g'.vs t v := by
 obtain ⟨us, e⟩ := hg.ex
 rw [e]; exact h.more us
noncomputable def ht : Tr → Nat
 | .profB b => ht b + 1
 | .inks _ b _ _ => ht b + 1
 | .idx b _ _ => ht b + 1
 | .patB b => ht b + 1
 | _ => 0
noncomputable def m8 (t : Tr) : Nat := 24 * (ht t + 1)
inductive m9 : Tr → Prop
 | dev (f : Fam) : m9 (.dev f)
 | cal (b : Bool) : m9 (.cal b)
 | prof (f : Fam) : m9 (.prof f)
 | profB {b : Tr} (h : m9 b) : m9 (.profB b)
 | idx {b : Tr} {m : Nat} {o : List UInt8} (h : m9 b) : m9 (.idx b m o)
 | inks {ns : List Str} {b : Tr} {ws : List Int} {m : Bool} (h : m9 b) (hi : jr ns ws m) : m9 (.inks ns b ws m)
section
variable {prog : Program} {d : Nat} {R : St → Prop} {Qn : St → Prop} {Qr : V → St → Prop}
theorem mJ {x : Str} {a : Addr} {l : List (Str × V)} {loc : List (Str × V)} {m : Mem} {b : S} (h1 : loc.lookup x = some (.mut a)) (hm : m.lookup a = none) (h : bH prog d b R ⟨put x (.dict l) loc, m⟩ Qn Qr) : bH prog d (.seq (.frz x) b) R ⟨loc, (a, .dict l) :: m⟩ Qn Qr := by
 have e : ll x ⟨loc, (a, .dict l) :: m⟩ = ⟨put x (.dict l) loc, m⟩ := by
  unfold ll
  simp only [h1, bp, dp hm]
 show bH prog d b R (ll x ⟨loc, (a, .dict l) :: m⟩) Qn Qr
 rw [e]; exact h
end
section
variable {prog : Program} {k : Nat} {pa ta : Addr} {cells : Ce} {g g' : G} {pre : Mem} {Q : V → Mem → Prop} {R : Mem → Prop}
theorem jx {a : Addr} (h : (pre ++ Mm pa ta cells g).lookup a = none) : (pre ++ Mm pa ta cells g').lookup a = none := by
 have e : pre.lookup a = none := by
  induction pre with
  | nil => rfl
  | cons p pre ih =>
   obtain ⟨b, x⟩ := p
   rw [List.cons_append, List.lookup_cons] at h
   rw [List.lookup_cons]
   cases q : (a == b) with
   | true => rw [q] at h; cases h
   | false => rw [q] at h; exact ih h
 rw [dr e] at h ⊢
 exact gJ h
theorem ph {a : Addr} {x : M} (hne : pa ≠ ta) (hp : Hd pa ta pre) (h : (pre ++ Mm pa ta cells g).lookup a = none) : Hd pa ta ((a, x) :: pre) := by
 have e1 : a ≠ pa := fun e => by rw [e, dr hp.p, sV hne] at h; cases h
 have e2 : a ≠ ta := fun e => by rw [e, dr hp.t, kE] at h; cases h
 exact ⟨by rw [List.lookup_cons, beq_eq_false_iff_ne.mpr (Ne.symm e1)]; exact hp.p, by rw [List.lookup_cons, beq_eq_false_iff_ne.mpr (Ne.symm e2)]; exact hp.t⟩
theorem iE (hne : pa ≠ ta) (hp : Hd pa ta pre) {many : Nat} (hm : 0 < many) (hm2 : many < 2 ^ 31) (hr : nK g 1) (h : ∀ r g', r < many → Gx 1 g g' → Q (.int (r : Nat)) (pre ++ Mm pa ta cells g')) : bA prog (k + 3) (.ref 638) [.mut pa, .int many] (pre ++ Mm pa ta cells g) Q R :=
 bx hne hp hm hm2 (by have := hr.sp; lia) fun r a b h1 h2 => h r ⟨g.vs, a, b⟩ h1 ⟨⟨[], by rw [List.append_nil]⟩, Nat.le_succ _, h2⟩
theorem nL (hp : Hd pa ta pre) {v : V} (hv : plain v = true) (hr : nK g 1) (h : ∀ r g', Gx 1 g g' → eD g'.vs r v → Q r (pre ++ Mm pa ta cells g')) : bA prog (k + 5) (.ref 409) [fk ta, v] (pre ++ Mm pa ta cells g) Q R :=
 Jr (vs := g.vs) (by rw [dr hp.t]; exact kE g) (by have := hr.len; lia) (by
  rw [lA hp.t, Gk]
  exact h _ _ ⟨⟨[v], rfl⟩, by simp, Nat.le_succ _⟩ (.ref (i := g.vs.length) (by simp) hv))
theorem aI (hne : pa ≠ ta) (hp : Hd pa ta pre) {v : V} (hv : plain v = true) (hr : nK g 2) (h : ∀ r g', Gx 2 g g' → eD g'.vs r v → Q r (pre ++ Mm pa ta cells g')) : bA prog (k + 6) (.ref 683) [.mut pa, fk ta, v] (pre ++ Mm pa ta cells g) Q R := by
 refine cf Nx Nw ?_
 refine iE hne hp (many := 3) (by decide) (by decide) (hr.next (Gx.refl g 0) (by decide)) fun r g1 hr1 h1 => ?_
 match r, hr1 with
 | 0, _ => exact nL hp hv (hr.next h1 (by decide)) fun r g2 h2 hr2 => h r g2 (h1.trans h2 (by decide)) hr2
 | 1, _ => exact h v g1 (h1.trans (Gx.refl g1 0) (by decide)) (.here hv)
 | 2, _ => exact h v g1 (h1.trans (Gx.refl g1 0) (by decide)) (.here hv)
end
noncomputable def we : S := (.seq (.ret (.call (.gv (.ref 683)) (.cons (.loc ah) (.cons (.loc ar) (.cons (.loc aB) .nil))))) .nil)
section
variable {prog : Program} {pa ta : Addr} {cells : Ce} {R : Mem → Prop}
noncomputable def JN (pa ta : Addr) (cells : Ce) (pre : Mem) (g : G) (ns : List Str) (acc : List V) (m : Mem) : Prop := ∃ g', Gx (2 * acc.length) g g' ∧ m = pre ++ Mm pa ta cells g' ∧ ∀ (i : Nat) (s : Str) (x : V), ns[i]? = some s → acc[i]? = some x → eD g'.vs x (cr s)
theorem JN.step {pre : Mem} {g : G} {ns : List Str} {acc : List V} {g1 g2 : G} (h1 : Gx (2 * acc.length) g g1) (hx : ∀ (i : Nat) (s : Str) (x : V), ns[i]? = some s → acc[i]? = some x → eD g1.vs x (cr s)) (h2 : Gx 2 g1 g2) {s : Str} (hs : ns[acc.length]? = some s) {r : V} (hr : eD g2.vs r (cr s)) :
  JN pa ta cells pre g ns (acc ++ [r]) (pre ++ Mm pa ta cells g2) := by
 refine ⟨g2, h1.trans h2 (by rw [List.length_append]; show _ ≤ 2 * (acc.length + 1); lia), rfl, fun i s' x a b => ?_⟩
 by_cases hi : i < acc.length
 ·rw [List.getElem?_append_left hi] at b
  exact (hx i s' x a b).gx h2
 ·have hl := (List.getElem?_eq_some_iff.mp b).1
  rw [List.length_append] at hl
  have : i = acc.length := by simp at hl; lia
  subst this
  rw [hs] at a; cases a
  simp at b; subst b
  exact hr
theorem cK {d : Nat} {a : Addr} {l : List V} {loc : List (Str × V)} {m : Mem} {Q : V → Mem → Prop} (h1 : loc.lookup aB = some (.mut a)) (hm : m.lookup a = none) (h : bH prog d we (fun σ => R σ.mem) ⟨put aB (.list l) loc, m⟩ (fun σ => Q .none σ.mem) (fun v σ => Q v σ.mem)) :
  bH prog d (.seq (.frz aB) we) (fun σ => R σ.mem) ⟨loc, (a, .list l) :: m⟩ (fun σ => Q .none σ.mem) (fun v σ => Q v σ.mem) := lC h1 hm h
theorem mK (b : Tr) : gw (ib b) = false := by cases b <;> rfl
noncomputable def LO (prog : Program) (pa ta : Addr) (cells : Ce) (R : Mem → Prop) (t : Tr) : Prop := ∀ {k : Nat} {pre : Mem} {g : G} {Q : V → Mem → Prop}, m9 t → Hd pa ta pre → nK g (m8 t) → (∀ v g', Gx (m8 t) g g' → jw g'.vs t v → Q v (pre ++ Mm pa ta cells g')) →
  bA prog (k + ht t + 9) (.ref 688) [.mut pa, fk ta, ib t] (pre ++ Mm pa ta cells g) Q R
set_option maxHeartbeats 2000000 in
theorem Gp (hne : pa ≠ ta) (f : Fam) : LO prog pa ta cells R (.dev f) := fun {k pre g Q} _ hp hr h => by
 have eb : m8 (.dev f) = 24 := rfl
 rw [eb] at hr h
 refine cf (k := k + 6) nF nE ?_
 refine iE hne hp (many := 2) (by decide) (by decide) (hr.next (Gx.refl g 0) (by decide)) fun r g1 hr1 h1 => ?_
 match r, hr1 with
 | 0, _ =>
  refine cV ?_
  exact aI hne hp rfl (hr.next h1 (by decide)) fun v g2 h2 h3 => h v g2 (h1.trans h2 (by decide)) (.dev h3)
 | 1, _ =>
  refine cV ?_
  refine aI hne hp rfl (hr.next h1 (by decide)) fun x g2 h2 hx => ?_
  have h12 := h1.trans h2 (Nat.le_refl _)
  intro fb hfb
  refine cK (Q := Q) rfl hfb ?_
  exact aI hne hp rfl (hr.next h12 (by decide)) fun v g3 h3 hv => h v g3 (h12.trans h3 (by decide)) (.devL hv (hx.gx h3))
set_option maxHeartbeats 2000000 in
theorem Gq (hne : pa ≠ ta) (b : Bool) : LO prog pa ta cells R (.cal b) := fun {k pre g Q} _ hp hr h => by
 have eb : m8 (.cal b) = 24 := rfl
 rw [eb] at hr h
 refine cf (k := k + 6) nF nE ?_
 refine cV ?_
 refine aI hne hp rfl (hr.next (Gx.refl g 0) (by decide)) fun x g2 h2 hx => ?_
 intro fb hfb
 refine cK (Q := Q) rfl hfb ?_
 exact aI hne hp rfl (hr.next h2 (by decide)) fun v g3 h3 hv => h v g3 (h2.trans h3 (by decide)) (.cal hv (hx.gx h3))
set_option maxHeartbeats 2000000 in
theorem vh (hne : pa ≠ ta) (f : Fam) : LO prog pa ta cells R (.prof f) := fun {k pre g Q} _ hp hr h => by
 have eb : m8 (.prof f) = 24 := rfl
 rw [eb] at hr h
 refine cf (k := k + 6) nF nE ?_
 refine aI hne hp rfl (hr.next (Gx.refl g 0) (by decide)) fun x g1 h1 hx => ?_
 intro ha hha
 refine mJ (x := ba) (l := [(tG, x)]) rfl hha ?_
 refine cV ?_
 refine jq (hd := [(tG, x)]) ?_
 refine nL hp rfl (hr.next h1 (by decide)) fun r g2 h2 hr2 => ?_
 have h12 := h1.trans h2 (Nat.le_refl _)
 intro fb hfb
 refine cK (Q := Q) rfl hfb ?_
 exact aI hne hp rfl (hr.next h12 (by decide)) fun v g3 h3 hv => h v g3 (h12.trans h3 (by decide)) (.prof hv (hr2.gx h3) ((hx.gx h2).gx h3))
set_option maxHeartbeats 2000000 in
theorem s4 (hne : pa ≠ ta) {b : Tr} (IH : LO prog pa ta cells R b) : LO prog pa ta cells R (.profB b) := fun {k pre g Q} w hp hr h => by
 cases w with | profB w =>
 have eb : m8 (.profB b) = m8 b + 24 := by show 24 * (ht b + 1 + 1) = 24 * (ht b + 1) + 24; lia
 rw [eb] at hr h
 refine cf (k := k + ht b + 7) nF nE ?_
 refine aI hne hp rfl (hr.next (Gx.refl g 0) (by lia)) fun x g1 h1 hx => ?_
 intro ha hha
 refine dj (by rw [mK]; rfl) ?_
 refine IH (k := k) (pre := (ha, .dict [(tG, x)]) :: pre) w (ph hne hp hha) (hr.next h1 (by lia)) fun y g2 h2 hy => ?_
 have h12 := h1.trans h2 (Nat.le_refl _)
 refine ag rfl (ag (bp ..) (And.intro ⟨by show 1 < cap; decide, List.nodup_cons.mpr ⟨List.not_mem_nil, List.nodup_nil⟩⟩ ?_))
 show bH _ _ _ _ ⟨_, put ha (.dict (put cA y [(tG, x)])) ((ha, _) :: (pre ++ Mm pa ta cells g2))⟩ _ _
 rw [bS]
 refine mJ (x := ba) (l := [(tG, x), (cA, y)]) rfl (jx hha) ?_
 refine cV ?_
 refine jq (hd := [(tG, x), (cA, y)]) ?_
 refine nL hp rfl (hr.next h12 (by lia)) fun r g3 h3 hr3 => ?_
 have h13 := h12.trans h3 (Nat.le_refl _)
 intro fb hfb
 refine cK (Q := Q) rfl hfb ?_
 exact aI hne hp rfl (hr.next h13 (by lia)) fun v g4 h4 hv => h v g4 (h13.trans h4 (by lia)) (.profB hv (hr3.gx h4) (((hx.gx h2).gx h3).gx h4) ((hy.gx h3).gx h4))
set_option maxHeartbeats 2000000 in
theorem Gr (hne : pa ≠ ta) {b : Tr} {m : Nat} {o : List UInt8} (IH : LO prog pa ta cells R b) : LO prog pa ta cells R (.idx b m o) := fun {k pre g Q} w hp hr h => by
 cases w with | idx w =>
 have eb : m8 (.idx b m o) = m8 b + 24 := by show 24 * (ht b + 1 + 1) = 24 * (ht b + 1) + 24; lia
 rw [eb] at hr h
 refine cf (k := k + ht b + 7) nF nE ?_
 refine iE hne hp (many := 2) (by decide) (by decide) (hr.next (Gx.refl g 0) (by lia)) fun r g1 hr1 h1 => ?_
 match r, hr1 with
 | 0, _ =>
  refine jq (hd := []) ?_
  refine cV ?_
  refine IH (k := k) w hp (hr.next h1 (by lia)) fun y g2 h2 hy => ?_
  have h12 := h1.trans h2 (Nat.le_refl _)
  refine aI hne hp rfl (hr.next h12 (by lia)) fun x g3 h3 hx => ?_
  have h13 := h12.trans h3 (Nat.le_refl _)
  refine aI hne hp rfl (hr.next h13 (by lia)) fun z g4 h4 hz => ?_
  have h14 := h13.trans h4 (Nat.le_refl _)
  intro fb hfb
  refine cK (Q := Q) rfl hfb ?_
  exact aI hne hp rfl (hr.next h14 (by lia)) fun v g5 h5 hv => h v g5 (h14.trans h5 (by lia)) (.idx hv (((hy.gx h3).gx h4).gx h5) ((hx.gx h4).gx h5) (hz.gx h5) (.inr rfl))
 | 1, _ =>
  refine sR ?_
  refine cV ?_
  refine IH (k := k) w hp (hr.next h1 (by lia)) fun y g2 h2 hy => ?_
  have h12 := h1.trans h2 (Nat.le_refl _)
  refine aI hne hp rfl (hr.next h12 (by lia)) fun x g3 h3 hx => ?_
  have h13 := h12.trans h3 (Nat.le_refl _)
  refine aI hne hp rfl (hr.next h13 (by lia)) fun z g4 h4 hz => ?_
  have h14 := h13.trans h4 (Nat.le_refl _)
  intro fb hfb
  refine cK (Q := Q) rfl hfb ?_
  exact aI hne hp rfl (hr.next h14 (by lia)) fun v g5 h5 hv => h v g5 (h14.trans h5 (by lia)) (.idx hv (((hy.gx h3).gx h4).gx h5) ((hx.gx h4).gx h5) (hz.gx h5) (.inl rfl))
set_option maxHeartbeats 2000000 in
theorem s5 (hne : pa ≠ ta) {ns : List Str} {b : Tr} {ws : List Int} (IH : LO prog pa ta cells R b) : LO prog pa ta cells R (.inks ns b ws true) := fun {k pre g Q} w hp hr h => by
 cases w with | inks w hi =>
 have eb : m8 (.inks ns b ws true) = m8 b + 24 := by show 24 * (ht b + 1 + 1) = 24 * (ht b + 1) + 24; lia
 rw [eb] at hr h
 refine cf (k := k + ht b + 7) nF nE ?_
 refine aI hne hp rfl (hr.next (Gx.refl g 0) (by lia)) fun t g1 h1 ht1 => ?_
 have hl := hi.len
 refine dQ (J := JN pa ta cells pre g1 ns) (fun y acc m K hY hJ hK => ?_) (.inl rfl) (acc := []) (List.drop_zero ..) ⟨g1, Gx.refl g1 0, rfl, fun i s x a b => by simp at b⟩ fun xs m' hb hJ => ?_
 ·obtain ⟨g2, h2, rfl, hx⟩ := hJ
  rw [List.getElem?_map] at hY
  obtain ⟨s, hs, rfl⟩ := Option.map_eq_some_iff.mp hY
  have hlt := (List.getElem?_eq_some_iff.mp hs).1
  refine cV ?_
  exact aI hne hp rfl (hr.next (h1.trans h2 (Nat.le_refl _)) (by lia)) fun r g3 h3 hr3 => hK r _ (.step h2 hx h3 hs hr3)
 obtain ⟨g2, h2, rfl, hx⟩ := hJ
 rw [List.length_map] at hb
 rw [List.nil_append] at h2 hx
 have h12 := h1.trans h2 (Nat.le_refl _)
 refine aI hne hp rfl (hr.next h12 (by lia)) fun n g3 h3 hn => ?_
 have h13 := h12.trans h3 (Nat.le_refl _)
 refine cV ?_
 refine IH (k := k) w hp (hr.next h13 (by lia)) fun y g4 h4 hy => ?_
 have h14 := h13.trans h4 (Nat.le_refl _)
 intro fb hfb
 have hpf := ph (x := .list [cr bc, n, y, t]) hne hp hfb
 refine iE (pre := (fb, .list [cr bc, n, y, t]) :: pre) hne hpf (many := 2) (by decide) (by decide) (hr.next h14 (by lia)) fun r g5 hr5 h5 => ?_
 have h15 := h14.trans h5 (Nat.le_refl _)
 have fin : ∀ ex, ex = [] ∨ ex = [vg] → bA prog (k + ht b + 9) (.ref 683) [.mut pa, fk ta, .list ([cr bc, n, y, t] ++ ex)] (pre ++ Mm pa ta cells g5) Q R := fun ex he =>
  (aI (k := k + ht b) hne hp (by rcases he with rfl | rfl <;> rfl) (hr.next h15 (by lia)) fun v g6 h6 hv => h v g6 (h15.trans h6 (by lia)) (.inksN hv he (((hn.gx h4).gx h5).gx h6) hb (fun i s x a c => ((((hx i s x a c).gx h3).gx h4).gx h5).gx h6) ((hy.gx h5).gx h6) (((((ht1.gx h2).gx h3).gx h4).gx h5).gx h6))).up (by lia)
 match r, hr5 with
 | 0, _ =>
  refine cC js ?_
  refine cV ?_
  refine ag (bp ..) (And.intro rfl (And.intro (Nat.le_of_ble_eq_true rfl) ?_))
  show bH _ _ _ _ ⟨_, put fb (.list ([cr bc, n, y, t] ++ [vg])) ((fb, _) :: (pre ++ Mm pa ta cells g5))⟩ _ _
  rw [bS]
  refine cK (Q := Q) rfl (jx hfb) ?_
  exact fin [vg] (.inr rfl)
 | 1, _ =>
  refine cK (Q := Q) rfl (jx hfb) ?_
  exact fin [] (.inl rfl)
set_option maxHeartbeats 2000000 in
theorem s6 (hne : pa ≠ ta) {ns : List Str} {b : Tr} {ws : List Int} (IH : LO prog pa ta cells R b) : LO prog pa ta cells R (.inks ns b ws false) := fun {k pre g Q} w hp hr h => by
 cases w with | inks w hi =>
 have eb : m8 (.inks ns b ws false) = m8 b + 24 := by show 24 * (ht b + 1 + 1) = 24 * (ht b + 1) + 24; lia
 rw [eb] at hr h
 obtain ⟨s, rfl⟩ := List.length_eq_one_iff.mp (hi.one rfl)
 refine cf (k := k + ht b + 7) nF nE ?_
 refine aI hne hp rfl (hr.next (Gx.refl g 0) (by lia)) fun t g1 h1 ht1 => ?_
 have hl := hi.len
 refine dQ (J := JN pa ta cells pre g1 [s]) (fun y acc m K hY hJ hK => ?_) (.inl rfl) (acc := []) (List.drop_zero ..) ⟨g1, Gx.refl g1 0, rfl, fun i s x a b => by simp at b⟩ fun xs m' hb hJ => ?_
 ·obtain ⟨g2, h2, rfl, hx⟩ := hJ
  rw [List.getElem?_map] at hY
  obtain ⟨s', hs, rfl⟩ := Option.map_eq_some_iff.mp hY
  have hlt := (List.getElem?_eq_some_iff.mp hs).1
  refine cV ?_
  exact aI hne hp rfl (hr.next (h1.trans h2 (Nat.le_refl _)) (by lia)) fun r g3 h3 hr3 => hK r _ (.step h2 hx h3 hs hr3)
 obtain ⟨g2, h2, rfl, hx⟩ := hJ
 rw [List.length_map] at hb
 rw [List.nil_append] at h2 hx
 have h12 := h1.trans h2 (Nat.le_refl _)
 refine aI hne hp rfl (hr.next h12 (by lia)) fun n g3 h3 hn => ?_
 have h13 := h12.trans h3 (Nat.le_refl _)
 refine cV ?_
 refine cV ?_
 refine IH (k := k) w hp (hr.next h13 (by lia)) fun y g4 h4 hy => ?_
 have h14 := h13.trans h4 (Nat.le_refl _)
 intro fb hfb
 refine cK (Q := Q) rfl hfb ?_
 exact aI hne hp rfl (hr.next h14 (by lia)) fun v g6 h6 hv => h v g6 (h14.trans h6 (by lia)) (.inks1 hv (hy.gx h6) ((((ht1.gx h2).gx h3).gx h4).gx h6))
theorem di (hne : pa ≠ ta) : ∀ t : Tr, LO prog pa ta cells R t
 | .dev f => Gp hne f
 | .cal b => Gq hne b
 | .prof f => vh hne f
 | .profB b => s4 hne (di hne b)
 | .idx b m o => Gr hne (di hne b)
 | .inks ns b ws true => s5 hne (di hne b)
 | .inks ns b ws false => s6 hne (di hne b)
 | .pat => fun w => by cases w
 | .patB b => fun w => by cases w
end
noncomputable def vi (b : Bool) : Fam := match b with | true => .gray | false => .rgb
noncomputable def tJ : Tr → Str
 | .dev f => f.nm
 | .cal b => sZ b
 | .prof _ => ca
 | .profB _ => ca
 | .inks _ _ _ m => match m with | true => bc | false => bg
 | .idx _ _ _ => av
 | _ => ax
noncomputable def nM : Tr → List UInt8
 | .idx b m o => cJ o none (some (((m : Int) + 1) * bk b))
 | _ => []
noncomputable def pi : Tr → Nat
 | .idx _ m _ => m
 | _ => 0
noncomputable def pj : Tr → V
 | .inks _ _ ws _ => ft ws
 | _ => .none
noncomputable def pk : Tr → List Str
 | .inks ns _ _ _ => ns
 | _ => []
noncomputable def qa (f : Fam) : V := eC f.nm f.ct .none [] 0 .none []
noncomputable def JM : Tr → V
 | .dev _ => .none
 | .cal b => qa (vi b)
 | .prof f => qa f
 | .profB b => eC (tJ b) (bk b) (JM b) (nM b) (pi b) (pj b) (pk b)
 | .inks _ b _ _ => eC (tJ b) (bk b) (JM b) (nM b) (pi b) (pj b) (pk b)
 | .idx b _ _ => eC (tJ b) (bk b) (JM b) (nM b) (pi b) (pj b) (pk b)
 | _ => .none
noncomputable abbrev mL (t : Tr) : V := eC (tJ t) (bk t) (JM t) (nM t) (pi t) (pj t) (pk t)
noncomputable def Gs (prog : Program) : Prop := ∀ {k : Nat} {mem : Mem} {Q : V → Mem → Prop} {R : Mem → Prop} {f : Fam}, Q (qa f) mem → bA prog (k + 6) (.ref 492) [.int f.ct] mem Q R
section
variable {prog : Program} {k : Nat} {mem : Mem} {Q : V → Mem → Prop} {R : Mem → Prop} {ta : Addr} {vs : List V}
theorem cF {f : Fam} (h : Q (qa f) mem) : bA prog (k + 5) (.ref 485) [.str f.nm] mem Q R := by
 refine cf MO MN ?_
 cases f
 ·exact cf mt mr (gG (c := 1) h)
 ·exact cf mt mr (gG (c := 3) h)
 ·exact cf mt mr (gG (c := 4) h)
theorem iw {f : Fam} {d : Int} (hl : mem.lookup ta = some (.idict (fN 0 vs))) (h : Q (qa f) mem) : bA prog (k + 6) (.ref 556) [jp ta, .str f.nm, .int d] mem Q R := by
 refine cf MZ MY ?_
 refine And.intro (by cases f <;> decide +kernel) ?_
 refine And.intro (by cases f <;> decide +kernel) ?_
 refine ve hl ?_
 exact cF h
theorem kG {f : Fam} {d : Int} (hl : mem.lookup ta = some (.idict (fN 0 vs))) (h : Q (qa f) mem) : bA prog (k + 7) (.ref 549) [jp ta, .str f.nm, .int d] mem Q R := by
 refine cf IB IA ?_
 refine cf (k := k + 3) mt mr ?_
 refine dj (by cases f <;> rfl) ?_
 exact iw hl h
theorem jX {d : Int} (h : Q (eC ax 0 .none [] 0 .none []) mem) : bA prog (k + 7) (.ref 549) [jp ta, .str ax, .int d] mem Q R := by
 refine cf IB IA ?_
 refine cf (k := k + 3) mt mr ?_
 exact (gG (k := k) (c := 0) h).up (by lia)
noncomputable def SW (prog : Program) (ta : Addr) (vs : List V) (R : Mem → Prop) (t : Tr) : Prop := ∀ {k : Nat} {mem : Mem} {Q : V → Mem → Prop} {d : Int} {v : V}, mem.lookup ta = some (.idict (fN 0 vs)) → jw vs t v → (ht t : Int) < d → Q (mL t) mem →
 bA prog (k + 4 * ht t + 9) (.ref 542) [jp ta, v, .int d] mem Q R
theorem JP {n : Nat} {d : Int} (h : (n : Int) < d) : (d == 0) = false := beq_eq_false_iff_ne.mpr (by lia)
theorem Gu (f : Fam) : SW prog ta vs R (.dev f) := fun {k mem Q d v} hl hv hd h => by
 refine cf mv mu ?_
 cases hv with
 | dev hv =>
  refine aC hl hv ?_
  refine bn (JP hd) ?_
  exact kG (k := k + 1) hl h
 | devL hv hx =>
  refine aC hl hv ?_
  refine bn (JP hd) ?_
  refine aC hl hx ?_
  refine aC hl hx ?_
  have : (f.nm.cps.toList != ax.cps.toList) = true := by cases f <;> rfl
  refine dj this ?_
  refine cf (k := k + 5) mt mr ?_
  refine bn (by cases f <;> rfl) ?_
  exact kG (k := k + 1) hl h
theorem Gv (b : Bool) : SW prog ta vs R (.cal b) := fun {k mem Q d v} hl hv hd h => by
 cases hv with | cal hv hx =>
 refine cf mv mu ?_
 refine aC hl hv ?_
 refine bn (JP hd) ?_
 refine aC hl (.here rfl) ?_
 refine aC hl (.here rfl) ?_
 refine cf (k := k + 5) nD nC ?_
 refine ⟨_, rfl, ?_⟩
 refine dj (by cases b <;> rfl) ?_
 refine aC hl hx ?_
 refine And.intro (by cases b <;> decide +kernel) ?_
 refine And.intro (by cases b <;> decide +kernel) ?_
 have e : gp ++ nj (sZ b) (some (qz.length : Int)) none = (vi b).nm := by cases b <;> decide +kernel
 show bA prog _ (.ref 485) [.str (gp ++ nj (sZ b) (some (qz.length : Int)) none)] _ _ _
 rw [e]
 refine cF ?_
 cases b
 ·exact gH (c := 3) h
 ·exact gH (c := 1) h
theorem vj (H : Gs prog) (f : Fam) : SW prog ta vs R (.prof f) := fun {k mem Q d v} hl hv hd h => by
 cases hv with | prof hv hr hx =>
 refine cf mv mu ?_
 refine aC hl hv ?_
 refine bn (JP hd) ?_
 refine aC hl (.here rfl) ?_
 refine aC hl (.here rfl) ?_
 refine cf (k := k + 5) nD nC ?_
 refine ⟨_, rfl, ?_⟩
 refine aC hl hr ?_
 refine cf (k := k + 4) II IG ?_
 refine kF hl hx ?_
 refine ⟨_, _, rfl, rfl, rfl, rfl, by intro y hy; simp at hy; rcases hy with rfl | rfl | rfl <;> rfl, ?_⟩
 refine bn (by cases f <;> rfl) ?_
 refine kF hl (.here rfl) ?_
 refine H ?_
 exact (gH (k := k) (c := f.ct) h).up (by lia)
theorem gh : ∀ l : List Str, eh (l.map .str) = some l
 | [] => rfl
 | x :: l => by show (eh (l.map .str)).map (x :: ·) = _; rw [gh l]; rfl
noncomputable def Nb (ys : List Str) (t : Tr) : Prop := ys.any (· == tJ t) = false
theorem nN {n : Nat} {t : Tr} (h : gf n t) : Nb [ax, av, bg, bc] t := by
 cases h with
 | dev n f => cases f <;> exact rfl
 | cal n b => cases b <;> exact rfl
 | prof n f => exact rfl
 | profB h => exact rfl
theorem Ju {t : Tr} (h : Bs t) : Nb [ax, av] t := by
 cases h with
 | pln h =>
  cases h with
  | dev n f => cases f <;> exact rfl
  | cal n b => cases b <;> exact rfl
  | prof n f => exact rfl
  | profB h => exact rfl
 | ink h =>
  cases h with | @mk ns b ws m h hb =>
  cases m <;> exact rfl
theorem Gw {t : Tr} (h : Nb [ax, av, bg, bc] t) : Nb [ax, av] t := by
 unfold Nb at h ⊢
 simp only [List.any_cons, List.any_nil, Bool.or_false, Bool.or_eq_false_iff] at h ⊢
 exact ⟨h.1, h.2.1⟩
theorem dO {b : Tr} (W : SW prog ta vs R b) {ys : List Str} (hn : Nb ys b) (hl : mem.lookup ta = some (.idict (fN 0 vs))) {v : V} {d : Int} (hv : jw vs b v) (hd : (ht b : Int) < d - 1) (h : Q (mL b) mem) :
  bA prog (k + 4 * ht b + 10) (.ref 570) [jp ta, v, .int d, .tup (ys.map .str)] mem Q R := by
 refine cf (k := k + 4 * ht b + 7) M1 M0 ?_
 refine W (k := k) hl hv hd ?_
 refine ⟨_, gh ys, ?_⟩
 exact bn hn h
theorem s7 {b : Tr} (W : SW prog ta vs R b) (hn : Nb [ax, av] b) (hc : bk b = 1 ∨ bk b = 3 ∨ bk b = 4) : SW prog ta vs R (.profB b) := fun {k mem Q d v} hl hv hd h => by
 have hd : (ht b : Int) < d - 1 := by have : ((ht b + 1 : Nat) : Int) < d := hd; lia
 have hd0 : (d == 0) = false := beq_eq_false_iff_ne.mpr (by lia)
 cases hv with | @profB _ _ x y r hv hr hx hy =>
 refine cf (k := k + 4 * ht b + 10) mv mu ?_
 refine aC hl hv ?_
 refine bn hd0 ?_
 refine aC hl (.here rfl) ?_
 refine aC hl (.here rfl) ?_
 refine cf (k := k + 4 * ht b + 9) nD nC ?_
 refine ⟨_, rfl, ?_⟩
 refine aC hl hr ?_
 refine cf (k := k + 4 * ht b + 8) II IG ?_
 refine kF hl hx ?_
 refine ⟨_, _, rfl, rfl, rfl, rfl, by intro y hy; simp at hy; rcases hy with rfl | rfl | rfl <;> rfl, ?_⟩
 refine bn (by rcases hc with e | e | e <;> rw [e] <;> rfl) ?_
 have hp : ∃ w, eD vs y w ∧ gw w = false := by
  cases hy with
  | dev h => exact ⟨_, h, rfl⟩
  | devL h _ => exact ⟨_, h, rfl⟩
  | cal h _ => exact ⟨_, h, rfl⟩
  | prof h _ _ => exact ⟨_, h, rfl⟩
  | profB h _ _ _ => exact ⟨_, h, rfl⟩
  | idx h _ _ _ _ => exact ⟨_, h, rfl⟩
  | inksN h _ _ _ _ _ _ => exact ⟨_, h, rfl⟩
  | inks1 h _ _ => exact ⟨_, h, rfl⟩
 obtain ⟨w, hw, hnn⟩ := hp
 refine kF hl hw ?_
 refine bn hnn ?_
 refine dO (k := k) (ys := [ax, av]) W hn hl hy hd ?_
 refine bn (by show (!((bk b : Int) == (bk b : Int))) = false; simp) ?_
 exact (gH (k := k) (c := bk b) h).up (by lia)
theorem Gy {b : Tr} {m : Nat} {o : List UInt8} (W : SW prog ta vs R b) (hn : Nb [ax, av] b) (hm : m ≤ 5) (ho : (m + 1) * bk b ≤ o.length) (hc : bk b ≤ 4) : SW prog ta vs R (.idx b m o) := fun {k mem Q d v} hl hv hd h => by
 have hd : (ht b : Int) < d - 1 := by have : ((ht b + 1 : Nat) : Int) < d := hd; lia
 have hd0 : (d == 0) = false := beq_eq_false_iff_ne.mpr (by lia)
 cases hv with | idx hv hy hx hz hw =>
 refine cf (k := k + 4 * ht b + 10) mv mu ?_
 refine aC hl hv ?_
 refine bn hd0 ?_
 refine aC hl (.here rfl) ?_
 refine aC hl (.here rfl) ?_
 refine cf (k := k + 4 * ht b + 9) nD nC ?_
 refine ⟨_, rfl, ?_⟩
 refine cf (k := k + 4 * ht b + 8) M3 M2 ?_
 refine dO (k := k) (ys := [ax, av]) W hn hl hy hd ?_
 refine aC hl hx ?_
 refine aC hl hz ?_
 have h255 : (!decide ((m : Int) ≤ 255)) = false := by rw [decide_eq_true (by lia)]; rfl
 refine bn h255 ?_
 have fin : ∀ a p e w : V, bH prog (k + 4 * ht b + 10) (.seq (.asg eX (.bin .Mult (.bin .Add (.loc bJ) (.int (1))) (.attr (.loc aJ) an))) (.seq (.iff (.cmp .Lt (.call (.gv (.bi .len)) (.cons (.loc aF) .nil)) (.loc eX)) (.seq (.rse (.str N2)) .nil) .nil) (.seq (.ret (.call (.gv (.ref 467)) (.cons (.str av) (.cons (.int (1)) (.cons (.loc aJ) (.cons (.call (.gv (.typ .bytes)) (.cons (.slc (.loc aF) .non (.loc eX)) .nil)) (.cons (.loc bJ) .nil))))))) .nil)))
   (fun σ => R σ.mem) ⟨[(al, a), (aR, p), (aG, e), (aJ, mL b), (bJ, .int m), (aN, w), (aF, .bytes o)], mem⟩ (fun σ => Q .none σ.mem) (fun v σ => Q v σ.mem) := fun a p e w => by
  refine And.intro (bL (by lia)) ?_
  refine bn (decide_eq_false (by
   have : (((m + 1) * bk b : Nat) : Int) ≤ o.length := by lia
   rw [show (((m + 1) * bk b : Nat) : Int) = ((m : Int) + 1) * bk b by simp] at this
   lia)) ?_
  exact (sS (k := k) (c := 1) h).up (by lia)
 rcases hw with rfl | rfl
 ·exact fin _ _ _ _
 ·refine cf (k := k + 4 * ht b + 7) M5 M4 ?_
  refine kF hl (.here rfl) ?_
  exact fin _ _ _ _
end
theorem s8 : ∀ {r acc : List Str} {i : Nat} {s : Str}, tI acc r = true → r[i]? = some s → (s.cps.toList != dS.cps.toList) = true → (acc ++ r.take i).any (· == s) = false
 | [], _, _, _, _, e, _ => by simp at e
 | x :: r, acc, 0, s, h, e, hn => by
  simp only [List.getElem?_cons_zero, Option.some.injEq] at e
  subst e
  have h1 := (Bool.and_eq_true_iff.mp h).1
  rw [hn, Bool.true_and] at h1
  rw [List.take_zero, List.append_nil]
  simpa using h1
 | x :: r, acc, i + 1, s, h, e, hn => by
  have h1 := (Bool.and_eq_true_iff.mp (Bool.and_eq_true_iff.mp h).2).2
  have := s8 (acc := acc ++ [x]) h1 (by simpa using e) hn
  rwa [List.append_assoc] at this
theorem lD : ∀ {r acc : List Str}, tI acc r = true → ∀ s ∈ r, s.cps.all (· < 0x110000) = true
 | x :: r, acc, h, s, hs => by
  have h2 := Bool.and_eq_true_iff.mp (Bool.and_eq_true_iff.mp h).2
  rcases List.mem_cons.mp hs with rfl | hs
  ·exact h2.1
  ·exact lD h2.2 s hs
section
variable {prog : Program} {k : Nat} {mem : Mem} {Q : V → Mem → Prop} {R : Mem → Prop} {ta : Addr} {vs : List V}
noncomputable abbrev Jv : List Str := [ax, av, bg, bc]
set_option maxHeartbeats 1000000 in
theorem fu {b : Tr} (W : SW prog ta vs R b) (hn : Nb Jv b) {ns : List Str} {xs ex : List V} {word : Str} {p y t : V} {ws : List Int} {d : Int} (hok : tI [] ns = true) (hp : 0 < ns.length) (hlen : ns.length ≤ 3) (hxl : xs.length = ns.length)
  (hxs : ∀ (i : Nat) (s : Str) (x : V), ns[i]? = some s → xs[i]? = some x → eD vs x (cr s)) (hl : mem.lookup ta = some (.idict (fN 0 vs))) (hy : jw vs b y) (hd : (ht b : Int) < d - 1) (htt : eD vs t (ft ws)) (h : Q (eC word (ns.map V.str).length (mL b) [] 0 (ft ws) ns) mem) :
  bA prog (k + 4 * ht b + 11) (.ref 598) [jp ta, .str word, .list xs, .list (p :: y :: t :: ex), .int d] mem Q R := by
 refine cf (k := k + 4 * ht b + 8) M7 M6 ?_
 intro ia hia
 have hne : (ta == ia) = false := beq_eq_false_iff_ne.mpr fun e => by subst e; rw [hl] at hia; cases hia
 have hl' : ∀ x, (((ia, x) :: mem : Mem).lookup ta) = some (.idict (fN 0 vs)) := fun x => by rw [List.lookup_cons, hne]; exact hl
 let base : List (Str × V) := [(al, jp ta), (br, .str word), (aM, .list xs), (aR, .list (p :: y :: t :: ex)), (aG, .int d), (aL, .mut ia)]
 refine jn (fun i σ => ∃ u : List (Str × V), (u = [] ∨ ∃ p n, u = [(dk, p), (aq, n)]) ∧ σ = ⟨base ++ u, (ia, .list ((ns.take i).map .str)) :: mem⟩) (n := 0) ?_ ⟨[], .inl rfl, by rw [List.take_zero]; rfl⟩ ?_
 ·rintro i x σ K e ⟨u, hu, rfl⟩ hK
  rw [Nat.zero_add] at hK ⊢
  have hi : i < ns.length := by rw [← hxl]; exact (List.getElem?_eq_some_iff.mp e).1
  have hs : ns[i]? = some ns[i] := List.getElem?_eq_getElem hi
  have hr := hxs i _ x hs e
  have go : ∀ u' : List (Str × V), (base ++ u' = base ++ u') → put dk x (base ++ u) = base ++ ((dk, x) :: u') → (∀ v, put aq v (base ++ ((dk, x) :: u')) = base ++ [(dk, x), (aq, v)]) →
    bH prog (k + 4 * ht b + 10) (.seq (.asg aq (.meth (.loc al) bW (.cons (.loc dk) .nil))) (.seq (.iff (.orr (.cons (.not (.call (.gv (.bi .isinst)) (.cons (.loc aq) (.cons (.gv (.ref 251)) .nil)))) (.cons (.andd (.cons (.cmp .NotEq (.attr (.loc aq) cg) (.str dS)) (.cons (.cmp .In (.attr (.loc aq) cg) (.loc aL)) .nil))) .nil))) (.seq (.rse (.str He)) .nil) .nil) (.seq (.ex (.meth (.loc aL) bI (.cons (.attr (.loc aq) cg) .nil))) .nil)))
     (fun σ => R σ.mem) ⟨base ++ ((dk, x) :: u'), (ia, .list ((ns.take i).map .str)) :: mem⟩ K (fun v σ => Q v σ.mem) := fun u' _ _ hput => by
   refine aC (hl' _) hr ?_
   show bH _ _ _ _ ⟨put aq (cr ns[i]) (base ++ ((dk, x) :: u')), _⟩ _ _
   rw [hput]
   have cont : bH prog (k + 4 * ht b + 10) (.seq (.ex (.meth (.loc aL) bI (.cons (.attr (.loc aq) cg) .nil))) .nil) (fun σ => R σ.mem) ⟨base ++ [(dk, x), (aq, cr ns[i])], (ia, .list ((ns.take i).map .str)) :: mem⟩ K (fun v σ => Q v σ.mem) := by
    refine cC js ?_
    refine ag (bp ..) (And.intro rfl (And.intro (by rw [List.length_map, List.length_take]; unfold cap; lia) ?_))
    show K ⟨_, put ia _ ((ia, _) :: mem)⟩
    rw [bS]
    refine hK _ ⟨[(dk, x), (aq, cr ns[i])], .inr ⟨_, _, rfl⟩, ?_⟩
    have : (ns.take (i + 1)).map V.str = (ns.take i).map V.str ++ [V.str ns[i]] := by
     rw [List.take_add_one, hs, List.map_append]; rfl
    rw [this]
   refine kU (fun e1 => ?_) fun _ => cont
   refine ⟨_, _, bp .., gh _, ?_⟩
   refine bn ?_ cont
   have := s8 hok hs e1
   rwa [List.nil_append] at this
  rcases hu with rfl | ⟨a, c, rfl⟩
  ·exact go [] rfl rfl fun _ => rfl
  ·exact go [(aq, c)] rfl rfl fun _ => rfl
 ·rintro σ ⟨u, hu, rfl⟩
  rw [Nat.zero_add, hxl, List.take_length]
  refine lC (x := aL) (by rcases hu with rfl | ⟨_, _, rfl⟩ <;> rfl) hia ?_
  have lm : (ns.map V.str).length = ns.length := List.length_map ..
  have go : ∀ u : List (Str × V), (u = [] ∨ ∃ p n, u = [(dk, p), (aq, n)]) → bH prog (k + 4 * ht b + 10) (.seq (.iff (.not (.cmp2 .Lt .LtE (.int (0)) (.call (.gv (.bi .len)) (.cons (.loc aL) .nil)) (.gv (.int (32))))) (.seq (.rse (.str Hg)) .nil) .nil) (.seq (.asg aJ (.call (.gv (.ref 570)) (.cons (.loc al) (.cons (.sub (.loc aR) (.int (1))) (.cons (.loc aG) (.cons (.gv mq) .nil)))))) (.seq (.asg be (.meth (.loc al) bW (.cons (.sub (.loc aR) (.int (2))) .nil))) (.seq (.iff (.not (.call (.gv (.bi .isinst)) (.cons (.loc be) (.cons (.tup (.cons (.gv (.typ .dict)) (.cons (.gv (.ref 294)) .nil))) .nil)))) (.seq (.rse (.str Hf)) .nil) .nil) (.seq (.ret (.call (.gv (.ref 467)) (.cons (.loc br) (.cons (.call (.gv (.bi .len)) (.cons (.loc aL) .nil)) (.cons (.loc aJ) (.cons (.byt []) (.cons (.int (0)) (.cons (.loc be) (.cons (.call (.gv (.typ .tuple)) (.cons (.loc aL) .nil)) .nil))))))))) .nil)))))
    (fun σ => R σ.mem) ⟨[(al, jp ta), (br, .str word), (aM, .list xs), (aR, .list (p :: y :: t :: ex)), (aG, .int d), (aL, .list (ns.map .str))] ++ u, mem⟩ (fun σ => Q .none σ.mem) (fun v σ => Q v σ.mem) := fun u hu => by
   have fin : bA prog (k + 4 * ht b + 10) (.ref 467) [.str word, .int (ns.map V.str).length, mL b, .bytes [], .int 0, ft ws, .tup (ns.map .str)] mem Q R := (sU (k := k) (m := 0) h).up (by lia)
   have h32 : (!decide (((ns.map V.str).length : Int) ≤ 32)) = false := by rw [lm, decide_eq_true (by lia)]; rfl
   have h0 : decide ((0 : Int) < ((ns.map V.str).length : Int)) = true := by rw [lm]; exact decide_eq_true (by lia)
   rcases hu with rfl | ⟨a, c, rfl⟩
   ·refine dj h0 (bn h32 ?_)
    refine dO (k := k) (ys := Jv) W hn hl hy hd ?_
    refine aC hl htt ?_
    exact fin
   ·refine dj h0 (bn h32 ?_)
    refine dO (k := k) (ys := Jv) W hn hl hy hd ?_
    refine aC hl htt ?_
    exact fin
  rcases hu with rfl | ⟨a, c, rfl⟩
  ·exact go [] (.inl rfl)
  ·exact go _ (.inr ⟨a, c, rfl⟩)
theorem s9 {b : Tr} (W : SW prog ta vs R b) (hn : Nb Jv b) {ns : List Str} {ws : List Int} (hi : jr ns ws true) : SW prog ta vs R (.inks ns b ws true) := fun {k mem Q d v} hl hv hd h => by
 have hd : (ht b : Int) < d - 1 := by have : ((ht b + 1 : Nat) : Int) < d := hd; lia
 have hd0 : (d == 0) = false := beq_eq_false_iff_ne.mpr (by lia)
 refine gk fun _ kk => ?_
 cases hv with | @inksN _ _ _ _ n y t xs ex hv he hn' hxl hxs hy htt =>
 refine kk ?_; clear kk
 refine cf (k := k + 4 * ht b + 10) mv mu ?_
 refine aC hl hv ?_
 refine bn hd0 ?_
 rcases he with rfl | rfl
 ·refine aC hl (.here rfl) ?_
  refine aC hl (.here rfl) ?_
  refine cf (k := k + 4 * ht b + 9) nD nC ?_
  refine ⟨_, rfl, ?_⟩
  refine ⟨_, _, rfl, rfl, rfl, rfl, by intro y hy; simp at hy; rcases hy with rfl | rfl <;> rfl, ?_⟩
  refine aC hl hn' ?_
  exact fu (k := k) W hn hi.ok hi.pos hi.len hxl hxs hl hy hd htt h
 ·refine aC hl (.here rfl) ?_
  refine aC hl (.here rfl) ?_
  refine cf (k := k + 4 * ht b + 9) nD nC ?_
  refine ⟨_, rfl, ?_⟩
  refine ⟨_, _, rfl, rfl, rfl, rfl, by intro y hy; simp at hy; rcases hy with rfl | rfl <;> rfl, ?_⟩
  refine aC hl hn' ?_
  exact fu (k := k) W hn hi.ok hi.pos hi.len hxl hxs hl hy hd htt h
theorem tb {b : Tr} (W : SW prog ta vs R b) (hn : Nb Jv b) {s : Str} {ws : List Int} (hi : jr [s] ws false) : SW prog ta vs R (.inks [s] b ws false) := fun {k mem Q d v} hl hv hd h => by
 have hd : (ht b : Int) < d - 1 := by have : ((ht b + 1 : Nat) : Int) < d := hd; lia
 have hd0 : (d == 0) = false := beq_eq_false_iff_ne.mpr (by lia)
 refine gk fun _ kk => ?_
 cases hv with | @inks1 _ _ _ _ y t hv hy htt =>
 refine kk ?_; clear kk
 refine cf (k := k + 4 * ht b + 10) mv mu ?_
 refine aC hl hv ?_
 refine bn hd0 ?_
 refine aC hl (.here rfl) ?_
 refine aC hl (.here rfl) ?_
 refine cf (k := k + 4 * ht b + 9) nD nC ?_
 refine ⟨_, rfl, ?_⟩
 exact fu (k := k) W hn (ns := [s]) (xs := [cr s]) hi.ok hi.pos hi.len rfl (fun i s' x a c => by
  match i, a, c with
  | 0, a, c => simp at a c; subst a c; exact .here rfl
  | i + 1, a, c => simp at a) hl hy hd htt h
end
theorem gf.cnt_of {n : Nat} {t : Tr} (h : gf n t) : bk t = 1 ∨ bk t = 3 ∨ bk t = 4 := by
 induction h with
 | dev n f => cases f <;> first | exact .inl rfl | exact .inr (.inl rfl) | exact .inr (.inr rfl)
 | cal n b => cases b <;> first | exact .inl rfl | exact .inr (.inl rfl) | exact .inr (.inr rfl)
 | prof n f => cases f <;> first | exact .inl rfl | exact .inr (.inl rfl) | exact .inr (.inr rfl)
 | profB h ih => exact ih
section
variable {prog : Program} {k : Nat} {mem : Mem} {Q : V → Mem → Prop} {R : Mem → Prop} {ta : Addr} {vs : List V}
theorem lE (H : Gs prog) {n : Nat} {t : Tr} (h : gf n t) : SW prog ta vs R t := by
 induction h with
 | dev n f => exact Gu f
 | cal n b => exact Gv b
 | prof n f => exact vj H f
 | profB h ih => exact s7 ih (Gw (nN h)) h.cnt_of
theorem Gz (H : Gs prog) {t : Tr} (h : Gn t) : SW prog ta vs R t := by
 cases h with | @mk ns b ws m hi hb =>
 cases m with
 | true => exact s9 (lE H hb) (nN hb) hi
 | false =>
  obtain ⟨s, rfl⟩ := List.length_eq_one_iff.mp (hi.one rfl)
  exact tb (lE H hb) (nN hb) hi
theorem wf (H : Gs prog) {t : Tr} (h : Bs t) : SW prog ta vs R t := by
 cases h with
 | pln h => exact lE H h
 | ink h => exact Gz H h
inductive Rd : Tr → Prop
 | bs {t : Tr} (h : Bs t) : Rd t
 | pl2 {t : Tr} (h : gf 2 t) : Rd t
 | idx {b : Tr} {m : Nat} {o : List UInt8} (hb : Bs b) (hm : m ≤ 5) (h1 : (m + 1) * bk b ≤ o.length) (h2 : o.length ≤ (m + 1) * bk b + 1) : Rd (.idx b m o)
theorem gf.ht_le {n : Nat} {t : Tr} (h : gf n t) : ht t ≤ n := by
 induction h with
 | profB h ih => exact Nat.succ_le_succ ih
 | _ => exact Nat.zero_le _
theorem Bs.ht_le {t : Tr} (h : Bs t) : ht t ≤ 2 := by
 cases h with
 | pln h => exact Nat.le_trans h.ht_le (by decide)
 | ink h => cases h with | mk h hb => exact Nat.succ_le_succ hb.ht_le
theorem Rd.ht_le {t : Tr} (h : Rd t) : ht t ≤ 3 := by
 cases h with
 | bs h => exact Nat.le_trans h.ht_le (by decide)
 | pl2 h => exact Nat.le_trans h.ht_le (by decide)
 | idx h => exact Nat.succ_le_succ h.ht_le
theorem Jw (H : Gs prog) {t : Tr} (h : Rd t) : SW prog ta vs R t := by
 cases h with
 | bs h => exact wf H h
 | pl2 h => exact lE H h
 | idx hb hm h1 h2 => exact Gy (wf H hb) (Ju hb) hm h1 hb.cnt_le
theorem nO (H : Gs prog) {t : Tr} (ht' : Rd t) {v : V} (hl : mem.lookup ta = some (.idict (fN 0 vs))) (hv : jw vs t v) (h : Q (mL t) mem) : bA prog (k + 22) (.ref 535) [fk ta, .dict [], v] mem Q R := by
 have := ht'.ht_le
 refine cf (k := k + 19) Ix Jm ?_
 refine mE ?_
 exact (Jw H ht' (k := k) hl hv (by lia) h).up (by lia)
theorem fw (hl : mem.lookup ta = some (.idict (fN 0 vs))) (h : Q (mL .pat) mem) : bA prog (k + 9) (.ref 535) [fk ta, .dict [], cr ax] mem Q R := by
 refine cf (k := k + 6) Ix Jm ?_
 refine mE ?_
 refine cf (k := k + 5) mv mu ?_
 refine aC hl (.here rfl) ?_
 exact jX h
end
noncomputable abbrev Nu := V × (Int × Nat)
noncomputable def nv (p : Nu) : V := p.1
noncomputable def dn (q : Int × Nat) : Nu := (D q, q)
structure d9 (p : Nu) : Prop where
 n : Nm p.1 p.2
 s : p.2.2 ≤ 19
theorem wg {q : Int × Nat} (h : q.2 ≤ 19) : d9 (dn q) := ⟨.dec q, h⟩
noncomputable def cl (q : Int × Nat) (b : Int) : Int × Nat := le (gr q (0, 0)) (b, 0)
theorem po {q : Int × Nat} {b : Int} {n : Nat} (h : q.2 ≤ n) : (cl q b).2 ≤ n := Ji (wa h (Nat.zero_le _)) (Nat.zero_le _)
noncomputable def pp (q : Int × Nat) (p : Nat) : Int × Nat := if q.2 ≤ p then q else ae p (rq q.1 (10 ^ (q.2 - p)))
theorem a9 (t : Int) : ∀ p, ∀ t, (ae p t).2 ≤ p
 | 0, _ => Nat.le_refl _
 | p + 1, t => by
  unfold ae
  split
  ·exact Nat.le_succ_of_le (a9 t p _)
  ·exact Nat.le_refl _
theorem tc {q : Int × Nat} {p : Nat} : (pp q p).2 ≤ p := by
 unfold pp
 split
 ·assumption
 ·exact a9 0 _ _
theorem qb {c : Nat} (h : c ≤ 4) : (Str.ofString (toString (c : Int))).length + JE.length ≤ cap := by
 have : ∀ c : Nat, c < 5 → (Str.ofString (toString (c : Int))).length + JE.length ≤ cap := by decide +kernel
 exact this c (Nat.lt_succ_of_le h)
section
variable {prog : Program} {k : Nat} {mem : Mem} {Q : V → Mem → Prop} {R : Mem → Prop}
theorem td {d : Nat} {loc : List (Str × V)} {zs : List (V × Bool)} (hz : ∀ z ∈ zs, fO z.1 z.2) {K : List V → Mem → Prop} (h : K (zs.filterMap fun z => bif z.2 then none else some z.1) mem) :
  dD (fun σ K => qr prog (k + 6) (.cons (.not (.call (.gv (.ref 340)) (.cons (.loc af) .nil))) .nil) dP σ fun bs σ' => match bs with
    | [] => vc prog (k + 6) (.loc af) dP σ' fun y σ'' => K (some y) σ''
    | b :: _ => gm b fun k' => iK k' (vc prog (k + 6) (.loc af) dP σ' fun y σ'' => K (some y) σ'') (K none σ')) af (zs.map (·.1)) ⟨[], mem⟩ K := by
 refine dN (f := fun z : V × Bool => bif z.2 then none else some z.1) (.inl rfl) (fun z hm K hK => ?_) h
 obtain ⟨v, b⟩ := z
 refine hZ (k := k + 2) (hz _ hm) ?_
 cases b
 ·exact hK
 ·exact hK
theorem pq {ps : List Nu} (hps : ∀ p ∈ ps, d9 p) : ∀ z ∈ ps.map (fun p : Nu => (p.1, true)), fO z.1 z.2 := fun z hz => by
 obtain ⟨⟨v, q⟩, hp, rfl⟩ := List.mem_map.mp hz
 have : Nm v q := (hps _ hp).n
 cases this with
 | int n => exact .int n
 | dec q => exact .dec q
variable {name : Str} {count most : Nat} {base tint : V} {tab : List UInt8} {inks : List Str}
theorem b8 (hn : (name.cps.toList == av.cps.toList) = false) {ps : List Nu} (hps : ∀ p ∈ ps, d9 p) (hc : ps.length = count) (h : Q (.list (ps.map fun p => D (cl p.2 1))) mem) : bA prog (k + 10) (.ref 603) [eC name count base tab most tint inks, .list (ps.map nv)] mem Q R := by
 refine cf (k := k + 7) FR FQ ?_
 refine bn (by show (!(((ps.map nv).length : Int) == (count : Int))) = false; rw [List.length_map, hc]; simp) ?_
 have ez : ps.map nv = (ps.map fun p => (p.1, true)).map (·.1) := by rw [List.map_map]; rfl
 have hcomp : dD (fun σ K => vc prog (k + 9) (.call (.gv (.ref 234)) (.cons (.loc af) (.cons (.int (0)) (.cons (.int (1)) .nil)))) dP σ fun y σ'' => K (some y) σ'') af (ps.map nv) ⟨[], mem⟩ fun ys m => Q (.list ys) m := by
  refine bl (α := Nu) (g := nv) (f := fun p : Nu => D (cl p.2 1)) (ys := ps) (fun p hm K hK => ?_) h
  exact gX (k := k) (hps p hm).n (hps p hm).s (by decide) hK
 show dD _ af (ps.map nv) ⟨[], mem⟩ _
 rw [ez]
 refine td (k := k + 3) (d := 0) (loc := []) (pq hps) ?_
 rw [show (ps.map (fun p => (p.1, true))).filterMap (fun z => bif z.2 then none else some z.1) = ([] : List V) by
  rw [List.filterMap_map]; exact List.filterMap_eq_nil_iff.mpr fun _ _ => rfl]
 refine ⟨_, _, rfl, rfl, rfl, rfl, ?_⟩
 refine bn hn ?_
 rw [← ez]
 exact hcomp
theorem kH {p : Nu} (hp : d9 p) (h : Q (.list [D (cl (pp p.2 0) most)]) mem) : bA prog (k + 10) (.ref 603) [eC av 1 base tab most tint inks, .list [nv p]] mem Q R := by
 refine cf (k := k + 7) FR FQ ?_
 have ez : [nv p] = [(p.1, true)].map (·.1) := rfl
 have hk : fO p.1 true := pq (ps := [p]) (fun q hq => by rw [List.mem_singleton.mp hq]; exact hp) (p.1, true) (.head _)
 refine hZ (k := k + 5) hk ?_
 refine ⟨_, _, rfl, rfl, rfl, rfl, ?_⟩
 refine aT hp.n ?_
 refine kD (p := 0) hp.s ?_
 exact gX (k := k) (.dec _) (Nat.le_trans tc (Nat.zero_le _)) (by lia) h
theorem kJ (hcount : count ≤ 4) {zs : List (V × Bool)} (hz : ∀ z ∈ zs, fO z.1 z.2) (hb : zs.length ≠ count ∨ ∃ z ∈ zs, z.2 = false) (h : R mem) : bA prog (k + 10) (.ref 603) [eC name count base tab most tint inks, .list (zs.map (·.1))] mem Q R := by
 refine cf (k := k + 7) FR FQ ?_
 have raise : bH prog (k + 9) (.seq (.rse (.bin .Add (.call (.gv (.typ .str)) (.cons (.attr (.loc ay) an) .nil)) (.str JE))) .nil) (fun σ => R σ.mem) ⟨[(ay, eC name count base tab most tint inks), (ad, .list (zs.map (·.1)))], mem⟩ (fun σ => bH prog (k + 9) (.seq (.iff (.cmp .Eq (.attr (.loc ay) aq) (.str av)) (.seq (.ret (.lst (.cons (.call (.gv (.ref 234)) (.cons (.meth (.call (.gv (.ref 187)) (.cons (.sub (.loc ad) (.int (0))) .nil)) fD (.cons (.int (0)) .nil)) (.cons (.int (0)) (.cons (.attr (.loc ay) bJ) .nil)))) .nil))) .nil) .nil) (.seq (.ret (.comp [] af (.call (.gv (.ref 234)) (.cons (.loc af) (.cons (.int (0)) (.cons (.int (1)) .nil)))) (.loc ad) .nil)) .nil)) (fun σ => R σ.mem) σ (fun σ => Q .none σ.mem) (fun v σ => Q v σ.mem)) (fun v σ => Q v σ.mem) := by
  refine And.intro (by lia) ?_
  exact And.intro (qb hcount) h
 refine kU (fun _ => raise) fun e => ?_
 have hl : zs.length = count := by
  have : (!(((zs.map (·.1)).length : Int) == (count : Int))) = false := e
  rw [List.length_map] at this
  have := eq_of_beq (show ((zs.length : Int) == (count : Int)) = true by simpa using this)
  lia
 obtain ⟨z, hzm, hzf⟩ := hb.resolve_left fun q => q hl
 show dD _ af (zs.map (·.1)) ⟨[], mem⟩ _
 refine td (k := k + 3) (d := 0) (loc := []) hz ?_
 have hpl : ∀ y ∈ zs.filterMap (fun z => bif z.2 then none else some z.1), ∃ d, iq y = some d ∧ d.canLay0 = true ∧ d.depth ≤ 3 := fun y hy => by
  obtain ⟨⟨v, b⟩, hv, e⟩ := List.mem_filterMap.mp hy
  have := hz _ hv
  cases b with
  | true => cases e
  | false =>
   cases e
   cases this with
   | none => exact ⟨_, rfl, rfl, Nat.zero_le _⟩
   | bool b => exact ⟨_, rfl, rfl, Nat.zero_le _⟩
 have toPs : ∀ l : List V, (∀ y ∈ l, ∃ d, iq y = some d ∧ d.canLay0 = true ∧ d.depth ≤ 3) → ∃ ds, iq.toPs l = some ds ∧ ds.length = l.length ∧ ∀ d ∈ ds, d.canLay0 = true ∧ d.depth ≤ 3 := by
  intro l
  induction l with
  | nil => intro _; exact ⟨[], rfl, rfl, by simp⟩
  | cons y l ih =>
   intro hy
   obtain ⟨d, d1, d2⟩ := hy y (.head _)
   obtain ⟨ds, e1, e2, e3⟩ := ih fun z hz => hy z (.tail _ hz)
   refine ⟨d :: ds, j1 d1 e1, by rw [List.length_cons, e2]; rfl, fun x hx => ?_⟩
   rcases List.mem_cons.mp hx with rfl | hx
   ·exact d2
   ·exact e3 x hx
 obtain ⟨ds, e1, e2, e3⟩ := toPs _ hpl
 refine ⟨.list ds, .list [], kZ e1, rfl, fo e3, rfl, ?_⟩
 have hne : 0 < (zs.filterMap (fun z => bif z.2 then none else some z.1)).length := List.length_pos_of_mem (a := z.1) (List.mem_filterMap.mpr ⟨z, hzm, by rw [hzf]; rfl⟩)
 refine dj ?_ raise
 cases ds with
 | nil => rw [← e2] at hne; exact absurd hne (by decide)
 | cons d ds => rfl
end
noncomputable def qc (a b : Int × Nat) : Int × Nat :=
 let s := ae (gn [a, b]).toNat ([a, b].map fun q => up q (gn [a, b])).sum
 cl (ae (max 0 s.2) (lM (1, 0) s)) 1
noncomputable def te {α β : Type} (l : List α) (k : α → List β) : List β := match l with | [] => [] | x :: r => (match r with | [] => k x | _ :: _ => [])
noncomputable def wh {α β : Type} (l : List α) (k : α → α → α → α → List β) : List β := match l with | [] => [] | c :: r => (match r with | [] => [] | m :: r => (match r with | [] => [] | y :: r => te r (k c m y)))
noncomputable def lF (f : Fam) (qs : List (Int × Nat)) : List (Int × Nat) := match f with
 | .rgb => qs
 | .gray => te qs fun q => [q, q, q]
 | .cmyk => wh qs fun c m y k => [qc c k, qc m k, qc y k]
theorem mM {α β : Type} {l : List α} {k : α → List β} {G : List β → Prop} (h0 : G []) (h : ∀ x, l = [x] → G (k x)) : G (te l k) := by
 cases l with
 | nil => exact h0
 | cons x r => cases r with
  | nil => exact h x rfl
  | cons _ _ => exact h0
theorem tf {α β : Type} {l : List α} {k : α → α → α → α → List β} {G : List β → Prop} (h0 : G []) (h : ∀ c m y b, l = [c, m, y, b] → G (k c m y b)) : G (wh l k) := by
 cases l with
 | nil => exact h0
 | cons c r => cases r with
  | nil => exact h0
  | cons m r => cases r with
   | nil => exact h0
   | cons y r => exact mM h0 fun b e => h c m y b (by rw [e])
theorem nP {a b : Int × Nat} (ha : a.2 ≤ 19) (hb : b.2 ≤ 19) : (qc a b).2 ≤ 19 := by
 have h1 : gn [a, b] ≤ 19 := ly (n := 19) fun q hq => by
  simp only [List.mem_cons, List.not_mem_nil, or_false] at hq
  rcases hq with rfl | rfl <;> assumption
 have h2 : (ae (gn [a, b]).toNat ([a, b].map fun q => up q (gn [a, b])).sum).2 ≤ 19 := Nat.le_trans (a9 0 _ _) (by lia)
 exact po (Nat.le_trans (a9 0 _ _) (by lia))
section
variable {prog : Program} {k : Nat} {mem : Mem} {Q : V → Mem → Prop} {R : Mem → Prop}
theorem gZ {a b : Int × Nat} (ha : a.2 ≤ 19) (hb : b.2 ≤ 19) (h : Q (D (qc a b)) mem) : bA prog (k + 10) (.ref 621) [.list [D a, D b]] mem Q R := by
 have h0 : ∀ q ∈ [a, b], q.2 ≤ 19 := fun q hq => by
  simp only [List.mem_cons, List.not_mem_nil, or_false] at hq
  rcases hq with rfl | rfl <;> assumption
 have h1 : gn [a, b] ≤ 19 := ly (n := 19) h0
 have h2 : (ae (gn [a, b]).toNat ([a, b].map fun q => up q (gn [a, b])).sum).2 ≤ 19 := Nat.le_trans (a9 0 _ _) (by lia)
 refine cf (k := k + 7) Na M9 ?_
 refine aT (.int 1) ?_
 refine mC (qs := [a, b]) h0 ?_
 refine u6 (.dec _) (.dec _) (Nat.zero_le _) h2 ?_
 exact gX (k := k) (.dec _) (Nat.le_trans (a9 0 _ _) (by lia)) (by decide) h
theorem lG {f : Fam} {qs : List (Int × Nat)} (hl : qs.length = f.ct) (hq : ∀ q ∈ qs, q.2 ≤ 19) (h : Q (.list ((lF f qs).map D)) mem) : bA prog (k + 11) (.ref 626) [.str f.nm, .list (qs.map D)] mem Q R := by
 refine cf (k := k + 8) Nd Nc ?_
 cases f with
 | rgb => exact h
 | gray =>
  obtain ⟨q, rfl⟩ := List.length_eq_one_iff.mp hl
  exact h
 | cmyk =>
  obtain ⟨c, m, y, b, rfl⟩ := uF (v0 := ()) (v1 := ()) (v2 := ()) (v3 := ()) hl
  ·have hc := hq c (.head _)
   have hm := hq m (.tail _ (.head _))
   have hy := hq y (.tail _ (.tail _ (.head _)))
   have hb := hq b (.tail _ (.tail _ (.tail _ (.head _))))
   refine gZ (k := k) hc hb ?_
   refine gZ (k := k) hm hb ?_
   refine gZ (k := k) hy hb ?_
   exact h
end
theorem jy {ds : List PyData} (h : ∀ d ∈ ds, d.canLay0 = true ∧ d.depth ≤ 3) : SeqAt.shaped (.tuple ds) = true := by
 refine Bool.and_eq_true_iff.mpr ⟨eQ fun d hd => (h d hd).1, decide_eq_true ?_⟩
 have := fm fun d hd => (h d hd).2
 show PyData.depthAll ds + 1 ≤ 64
 omega
noncomputable def ov (c : Int) (p : Nat) : Int × Nat := ae p (rq (up (c, 0) (mx (c, 0) (255, 0)) * 10 ^ p) (up (255, 0) (mx (c, 0) (255, 0))))
noncomputable def JQ (q : Int × Nat) (c : Nat) : Int := q.1.fdiv (10 ^ q.2) * c
noncomputable def qd (tab : List UInt8) (q : Int × Nat) (c : Nat) : List UInt8 := cJ tab (some (JQ q c)) (some (JQ q c + c))
theorem th (c : Int) : up (255, 0) (mx (c, 0) (255, 0)) = 255 := by unfold up mx; simp [bM]
section
variable {prog : Program} {k : Nat} {mem : Mem} {Q : V → Mem → Prop} {R : Mem → Prop} {name : Str} {count most : Nat} {base tint : V} {tab : List UInt8} {inks : List Str}
theorem fy (h1 : (name.cps.toList == ax.cps.toList) = false) (h2 : (name.cps.toList == av.cps.toList) = false) {n p ev : V} (h : Q n mem) : bA prog (k + 3) (.ref 614) [eC name count base tab most tint [], n, p, ev] mem Q R := by
 refine cf sv su ?_
 refine bn h1 ?_
 refine bn h2 ?_
 exact ⟨_, _, rfl, rfl, rfl, rfl, h⟩
theorem nQ {n p ev : V} (h : R mem) : bA prog (k + 3) (.ref 614) [mL .pat, n, p, ev] mem Q R := by
 refine cf sv su ?_
 exact h
theorem nR {nm' : Str} {c m' : Nat} {b' t' ev : V} {tb' : List UInt8} {is' : List Str} {q : Int × Nat} {p : Nat} (hc : c ≤ 4) (hq : q.2 ≤ 19) (hp : p ≤ 19) (h : Q (.list ((qd tab q c).map fun o => D (ov (o.toNat : Int) p))) mem) :
  bA prog (k + 8) (.ref 614) [eC av count (eC nm' c b' tb' m' t' is') tab most tint inks, .list [D q], .int p, ev] mem Q R := by
 refine cf sv su ?_
 refine u5 hq ?_
 refine And.intro (bL (by omega)) ?_
 have go : ∀ (a e f : V), dD (fun σ K => vc prog (k + 7) (.call (.gv (.ref 206)) (.cons (.loc eW) (.cons (.int (255)) (.cons (.loc aa) .nil)))) dP σ fun y σ'' => K (some y) σ'') eW ((qd tab q c).map fun o => V.int (o.toNat : Int)) ⟨[(aa, .int p)], mem⟩ fun ys m => Q (.list ys) m := fun _ _ _ => by
  refine bl (α := UInt8) (g := fun o => V.int (o.toNat : Int)) (f := fun o => D (ov (o.toNat : Int) p)) (fun o _ K hK => ?_) h
  refine Gd (k := k) (.int _) (.int 255) (Nat.zero_le _) (Nat.zero_le _) hp ?_ ?_ hK
  ·rw [th]; decide
  ·rw [th]; decide
 exact go .none .none .none
theorem mN {ns : List Str} (h1 : (name.cps.toList == ax.cps.toList) = false) (h2 : (name.cps.toList == av.cps.toList) = false) (hns : 0 < ns.length) (hs : ∀ s ∈ ns, s.cps.all (· < 0x110000) = true) {n p : V} (h : R mem) : bA prog (k + 3) (.ref 614) [eC name count base tab most tint ns, n, p, .none] mem Q R := by
 refine cf sv su ?_
 refine bn h1 ?_
 refine bn h2 ?_
 refine ⟨.tuple (ns.map .str), _, on (fq V.str PyData.str (fun _ => rfl) ns), rfl, jy fun d hd => ?_, rfl, ?_⟩
 ·obtain ⟨s, hs', rfl⟩ := List.mem_map.mp hd
  exact ⟨hs s hs', Nat.zero_le _⟩
 ·refine bn ?_ h
  cases ns with
  | nil => exact absurd hns (by decide)
  | cons _ _ => rfl
theorem nS {ns : List Str} {ws : List Int} (h1 : (name.cps.toList == ax.cps.toList) = false) (h2 : (name.cps.toList == av.cps.toList) = false) (hns : 0 < ns.length) (hs : ∀ s ∈ ns, s.cps.all (· < 0x110000) = true) {n p : V} {i : Nat} {cs : List (Str × V)} {l : List V}
  (hev : ∀ {Q' : V → Mem → Prop}, Q' (.list l) mem → bA prog (k + 12) (.lam i cs) [ft ws, n, p] mem Q' R) (h : Q (.list l) mem) : bA prog (k + 13) (.ref 614) [eC name count base tab most (ft ws) ns, n, p, .lam i cs] mem Q R := by
 refine cf (k := k + 10) sv su ?_
 refine bn h1 ?_
 refine bn h2 ?_
 refine ⟨.tuple (ns.map .str), _, on (fq V.str PyData.str (fun _ => rfl) ns), rfl, jy fun d hd => ?_, rfl, ?_⟩
 ·obtain ⟨s, hs', rfl⟩ := List.mem_map.mp hd
  exact ⟨hs s hs', Nat.zero_le _⟩
 ·refine bn ?_ ?_
  ·cases ns with
   | nil => exact absurd hns (by decide)
   | cons _ _ => rfl
  ·refine hev ?_
   exact h
inductive Th : Tr → Tr → Prop
 | cal (b : Bool) : Th (.cal b) (.dev (vi b))
 | prof (f : Fam) : Th (.prof f) (.dev f)
 | profB (b : Tr) : Th (.profB b) b
noncomputable def lv : Tr → Nat
 | .dev _ => 0
 | .cal _ => 1
 | .prof _ => 1
 | .profB b => lv b + 1
 | .inks _ b _ _ => lv b + 1
 | .idx b _ _ => lv b + 1
 | _ => 1
inductive jz (prog : Program) (mem : Mem) (p : Nat) (ev : V) (Q : V → Mem → Prop) (R : Mem → Prop) : Tr → List V → Prop
 | dev {f : Fam} {ps : List Nu} (hps : ∀ x ∈ ps, d9 x) (hl : ps.length = f.ct) (h : Q (.tup ((lF f (ps.map fun x => cl x.2 1)).map fun q => D (pp q p))) mem) : jz prog mem p ev Q R (.dev f) (ps.map nv)
 | thru {t b : Tr} {ps : List Nu} (ht : Th t b) (hps : ∀ x ∈ ps, d9 x) (hl : ps.length = bk t) (h : jz prog mem p ev Q R b (ps.map fun x => D (cl x.2 1))) : jz prog mem p ev Q R t (ps.map nv)
 | ink {ns : List Str} {b : Tr} {ws : List Int} {m : Bool} {ps : List Nu} {i : Nat} {cs : List (Str × V)} {l : List V} (hi : jr ns ws m) (hev : ev = .lam i cs) (hps : ∀ x ∈ ps, d9 x) (hl : ps.length = ns.length)
   (hc : ∀ {k : Nat} {Q' : V → Mem → Prop}, Q' (.list l) mem → bA prog (k + 12) (.lam i cs) [ft ws, .list (ps.map fun x => D (cl x.2 1)), .int p] mem Q' R) (h : jz prog mem p ev Q R b l) : jz prog mem p ev Q R (.inks ns b ws m) (ps.map nv)
 | idx {b : Tr} {m : Nat} {o : List UInt8} {x : Nu} (hx : d9 x) (hc : bk b ≤ 4) (hp : p ≤ 19) (h : jz prog mem p ev Q R b ((qd (nM (.idx b m o)) (cl (pp x.2 0) m) (bk b)).map fun o => D (ov (o.toNat : Int) p))) : jz prog mem p ev Q R (.idx b m o) [nv x]
 | bad {t : Tr} {zs : List (V × Bool)} (hc : bk t ≤ 4) (hz : ∀ z ∈ zs, fO z.1 z.2) (hb : zs.length ≠ bk t ∨ ∃ z ∈ zs, z.2 = false) (h : R mem) : jz prog mem p ev Q R t (zs.map (·.1))
 | noev {ns : List Str} {b : Tr} {ws : List Int} {m : Bool} {ps : List Nu} (hi : jr ns ws m) (hev : ev = .none) (hps : ∀ x ∈ ps, d9 x) (hl : ps.length = ns.length) (h : R mem) : jz prog mem p ev Q R (.inks ns b ws m) (ps.map nv)
 | pat (h : R mem) : jz prog mem p ev Q R .pat []
theorem vk (P : Params) : (HB.KF P).lookup 604 = some HB.o604 := by kernel_rfl
theorem Jx (s : Shared) (a b c e : Value) (h : s.heap.get? 604 = some HB.o604) : BindsTo s (aH HB.o609) ⟨[a, b, c, e], []⟩ ([ay, ad, aa, bC].zip [a, b, c, e]) := BindsTo.of_defaults (by rfl) h (by rfl) (by rfl) (by kernel_rfl)
theorem NW {v0 v1 v2 v3 : V} : aV 609 [v0, v1, v2, v3] [ay, ad, aa, bC] [v0, v1, v2, v3] := aV.of IN fun P fz s us r hz X => by
 obtain ⟨_, _, rfl, h1, r⟩ := r.uncons; obtain ⟨_, _, rfl, h2, r⟩ := r.uncons; obtain ⟨_, _, rfl, h3, r⟩ := r.uncons; obtain ⟨_, _, rfl, h4, r⟩ := r.uncons; obtain rfl := r.unnil
 exact ⟨_, Jx s _ _ _ _ (X _ _ (vk P)), .cons h1 (.cons h2 (.cons h3 (.cons h4 .nil)))⟩
theorem vm {f : Fam} {qs : List (Int × Nat)} (h : ∀ q ∈ qs, q.2 ≤ 19) : ∀ q ∈ lF f qs, q.2 ≤ 19 := by
 cases f with
 | rgb => exact h
 | gray =>
  exact mM (l := qs) (k := fun q => [q, q, q]) (G := fun l : List (Int × Nat) => ∀ q ∈ l, q.2 ≤ 19) (fun _ h => nomatch h) fun q e => by
   have hq := h q (e ▸ .head _)
   exact fun x hx => by
    rcases List.mem_cons.mp hx with rfl | hx
    ·exact hq
    ·rcases List.mem_cons.mp hx with rfl | hx
     ·exact hq
     ·rw [List.mem_singleton.mp hx]; exact hq
 | cmyk =>
  exact tf (l := qs) (k := fun c m y k => [qc c k, qc m k, qc y k]) (G := fun l : List (Int × Nat) => ∀ q ∈ l, q.2 ≤ 19) (fun _ h => nomatch h) fun c m y k e => by
   subst e
   have hk := h k (.tail _ (.tail _ (.tail _ (.head _))))
   exact fun x hx => by
    rcases List.mem_cons.mp hx with rfl | hx
    ·exact nP (h c (.head _)) hk
    ·rcases List.mem_cons.mp hx with rfl | hx
     ·exact nP (h m (.tail _ (.head _))) hk
     ·rw [List.mem_singleton.mp hx]; exact nP (h y (.tail _ (.tail _ (.head _)))) hk
theorem iF {t : Tr} (h : ∀ f, t ≠ .dev f) : (!(List.lookup (tJ t) [(bO, V.int (1)), (bZ, .int (3)), (b9, .int (4))]).isSome) = true := by
 cases t with
 | dev f => exact absurd rfl (h f)
 | cal b => cases b <;> rfl
 | inks ns b ws m => cases m <;> rfl
 | _ => rfl
theorem ti (f : Fam) : (!(List.lookup (tJ (.dev f)) [(bO, V.int (1)), (bZ, .int (3)), (b9, .int (4))]).isSome) = false := by cases f <;> rfl
set_option maxHeartbeats 1000000 in
theorem wi {t : Tr} {nums : List V} {p : Nat} {ev : V} (Ha : jz prog mem p ev Q R t nums) (hp : p ≤ 19) : bA prog (k + 14) (.ref 609) [mL t, .list nums, .int p, ev] mem Q R := by
 refine cf (k := k + 11) M8 NW ?_
 refine ⟨fun n σ => ∃ (t' : Tr) (ns' : List V), lv t' = n ∧ jz prog mem p ev Q R t' ns' ∧ σ = ⟨[(ay, mL t), (ad, .list nums), (aa, .int p), (bC, ev), (aB, .list ns'), (cB, mL t')], mem⟩, lv t, ⟨t, nums, rfl, Ha, rfl⟩, ?_⟩
 rintro n σ ⟨t', ns', rfl, run', rfl⟩
 refine cf (k := k + 10) mt mr ?_
 cases run' with
 | @dev f ps hps hl h =>
  refine bn (ti f) ?_
  refine b8 (k := k + 3) (by cases f <;> rfl) hps hl ?_
  have e : (ps.map fun x => D (cl x.2 1)) = (ps.map fun x => cl x.2 1).map D := by rw [List.map_map]; rfl
  rw [e]
  refine lG (k := k + 2) (by rw [List.length_map]; exact hl) (fun q hq => ?_) ?_
  ·obtain ⟨x, hx, rfl⟩ := List.mem_map.mp hq
   exact po (hps x hx).s
  ·have ez : (lF f (ps.map fun x => cl x.2 1)).map (fun q => D (pp q p)) = (lF f (ps.map fun x => cl x.2 1)).map (fun q => D (pp q p)) := rfl
   have h19 : ∀ q ∈ lF f (ps.map fun x => cl x.2 1), q.2 ≤ 19 := vm (fun q hq => by
    obtain ⟨x, hx, rfl⟩ := List.mem_map.mp hq
    exact po (hps x hx).s)
   refine bl (α := Int × Nat) (g := D) (f := fun q => D (pp q p)) (fun q hq K hK => ?_) h
   exact kD (k := k + 8) (h19 q hq) hK
 | @thru _ b ps hth hps hl h =>
  refine dj (iF (fun f e => by subst e; cases hth)) ?_
  cases hth with
  | cal c =>
   refine b8 (k := k + 3) (by cases c <;> rfl) hps hl ?_
   refine fy (by cases c <;> rfl) (by cases c <;> rfl) ?_
   exact ⟨lv (.dev (vi c)), Nat.zero_lt_one, _, _, rfl, h, rfl⟩
  | prof f =>
   refine b8 (k := k + 3) rfl hps hl ?_
   refine fy rfl rfl ?_
   exact ⟨lv (.dev f), Nat.zero_lt_one, _, _, rfl, h, rfl⟩
  | profB b =>
   refine b8 (k := k + 3) rfl hps hl ?_
   refine fy rfl rfl ?_
   exact ⟨lv b, Nat.lt_succ_self _, _, _, rfl, h, rfl⟩
 | @ink ns b ws m ps i cs l hi hev hps hl hc h =>
  subst hev
  refine dj (iF fun f e => by cases e) ?_
  refine b8 (k := k + 3) (by cases m <;> rfl) hps (hl.trans (List.length_map ..).symm) ?_
  refine nS (k := k) (by cases m <;> rfl) (by cases m <;> rfl) hi.pos (lD hi.ok) hc ?_
  exact ⟨lv b, Nat.lt_succ_self _, _, _, rfl, h, rfl⟩
 | @idx b m o x hx hc hp h =>
  refine kH (k := k + 3) hx ?_
  refine nR (k := k + 5) hc (po (Nat.le_trans tc (Nat.zero_le _))) hp ?_
  exact ⟨lv b, Nat.lt_succ_self _, _, _, rfl, h, rfl⟩
 | @bad _ zs hc hz hb h =>
  by_cases hd : ∃ f, t' = .dev f
  ·obtain ⟨f, rfl⟩ := hd
   refine bn (ti f) ?_
   exact kJ (k := k + 3) hc hz hb h
  ·refine dj (iF fun f e => hd ⟨f, e⟩) ?_
   exact kJ (k := k + 3) hc hz hb h
 | @noev ns b ws m ps hi hev hps hl h =>
  subst hev
  refine dj (iF fun f e => by cases e) ?_
  refine b8 (k := k + 3) (by cases m <;> rfl) hps (hl.trans (List.length_map ..).symm) ?_
  exact mN (k := k + 10) (by cases m <;> rfl) (by cases m <;> rfl) hi.pos (lD hi.ok) h
 | pat h =>
  refine b8 (k := k + 3) (ps := []) rfl (fun x hx => by cases hx) rfl ?_
  exact nQ (k := k + 10) h
end
noncomputable def cw (a b : Int) : Int := (2 * a + b).fdiv (2 * b)
noncomputable def bF (s : Nat) (x : Int) : Int := jO (bM x 0) (10 ^ s)
noncomputable def vn (ws xs : List Int) (c : Nat) : List Int := (List.range c).map fun t => ((List.range xs.length).map fun s => xs.getD s 0 * ws.getD ((s + t) % 4) 0).sum
noncomputable def fV (top : Int) (m : Nat) : Int := jO (bM (cw (cZ top) 100 * (if top ≥ 0 then 1 else -1)) 0) m
theorem bA.mono {prog : Program} {d : Nat} {f : V} {as : List V} {mem : Mem} {Q Q' : V → Mem → Prop} {R R' : Mem → Prop} (h : bA prog d f as mem Q R) (hq : ∀ v m, Q v m → Q' v m) (hr : ∀ m, R m → R' m) : bA prog d f as mem Q' R' := ⟨h.k, h.c.mono (Nat.le_refl _) hq hr⟩
theorem gi {n : Int} {m : Nat} (e : n = m) (h : m ≤ 4096) : eK (.rng 0 n) = some ((List.range m).map fun i : Nat => V.int (i : Int)) := by
 rw [gY e h]
 unfold i8
 rw [show ((m : Int) - 0).toNat = m by lia]
 simp
noncomputable abbrev iL (l : List Int) : V := .list (l.map .int)
theorem nT {l : List Int} {i : Nat} (h : i < l.length) : (l.map V.int)[((i : Nat) : Int).toNat]? = some (.int (l.getD i 0)) := by
 rw [Int.toNat_natCast, List.getElem?_map, List.getElem?_eq_getElem h, List.getD_eq_getElem?_getD, List.getElem?_eq_getElem h]; rfl
section
variable {prog : Program} {k : Nat} {mem : Mem} {Q : V → Mem → Prop} {R : Mem → Prop}
theorem g7 {a b : Int} (hb : b ≠ 0) (hs : b.natAbs < 2 ^ 63) (h : Q (.int (cw a b)) mem) : bA prog (k + 3) (.ref 695) [.int a, .int b] mem Q R := by
 refine cf Nz Ny ?_
 refine And.intro (eO (by decide)) ?_
 refine And.intro (eO (by decide)) ?_
 exact And.intro (jl (by lia) (by lia)) h
theorem dR {xs : List Int} {s : Nat} (hs : s ≤ 19) (h : Q (iL (xs.map (bF s))) mem) : bA prog (k + 3) (.ref 705) [iL xs, .int s] mem Q R := by
 refine cf ND NC ?_
 have h' : Q (.list (xs.map fun x => .int (bF s x))) mem := by
  have : (xs.map fun x => V.int (bF s x)) = (xs.map (bF s)).map .int := by rw [List.map_map]; rfl
  rw [this]; exact h
 refine bl (α := Int) (g := .int) (f := fun x => .int (bF s x)) (fun x _ K hK => ?_) h'
 refine And.intro (.ten (by lia) (by lia)) ?_
 exact hK
theorem jA {ws xs : List Int} {c : Nat} (hw : ws.length = 4) (hws : ∀ w ∈ ws, 0 ≤ w ∧ w < 12) (hx : xs.length ≤ 4096) (hc : c ≤ 4096) (h : Q (iL (vn ws xs c)) mem) : bA prog (k + 3) (.ref 700) [iL ws, iL xs, .int c] mem Q R := by
 refine cf NB NA ?_
 refine ag (gi rfl hc) ?_
 have h' : Q (.list ((List.range c).map fun t => .int ((List.range xs.length).map fun s => xs.getD s 0 * ws.getD ((s + t) % 4) 0).sum)) mem := by
  have e : ((List.range c).map fun t => V.int ((List.range xs.length).map fun s => xs.getD s 0 * ws.getD ((s + t) % 4) 0).sum) = (vn ws xs c).map .int := by unfold vn; rw [List.map_map]; rfl
  rw [e]; exact h
 refine bl (α := Nat) (g := fun i : Nat => V.int (i : Int)) (f := fun t => .int ((List.range xs.length).map fun s => xs.getD s 0 * ws.getD ((s + t) % 4) 0).sum) (fun t _ K hK => ?_) h'
 refine ag (gi (m := xs.length) (by rw [List.length_map]) hx) ?_
 refine bl (α := Nat) (g := fun i : Nat => V.int (i : Int)) (f := fun s => .int (xs.getD s 0 * ws.getD ((s + t) % 4) 0)) (fun s hs K' hK' => ?_) ?_
 ·have hs : s < xs.length := List.mem_range.mp hs
  refine cC (decide_eq_true (Int.natCast_nonneg s)) (ag (nT hs) ?_)
  refine And.intro (by decide) ?_
  have e : ((s : Int) + (t : Int)).fmod 4 = (((s + t) % 4 : Nat) : Int) := by
   rw [Int.fmod_eq_emod_of_nonneg _ (by decide)]; lia
  rw [e]
  have hm : (s + t) % 4 < ws.length := by rw [hw]; lia
  refine cC (decide_eq_true (Int.natCast_nonneg ((s + t) % 4))) (ag (nT hm) ?_)
  refine And.intro (bL ?_) hK'
  have := hws (ws.getD ((s + t) % 4) 0) (by rw [List.getD_eq_getElem?_getD, List.getElem?_eq_getElem hm]; exact List.getElem_mem hm)
  lia
 ·exact ag (eP _ _) hK
theorem ig {b : Tr} {m : Nat} {o : List UInt8} {top : Int} (h : Q (.int (fV top m)) mem) : bA prog (k + 4) (.ref 712) [ib (.idx b m o), .int top] mem Q R := by
 refine cf NF NE ?_
 refine g7 (by decide) (by decide) ?_
 unfold fV at h
 refine cS (fun e => ?_) fun e => ?_
 ·rw [if_pos e] at h; exact And.intro (bL (by decide)) h
 ·rw [if_neg e] at h; exact And.intro (bL (by decide)) h
theorem jB {w : Int} {s : Nat} (h : Q (.tup [.int (ae s w).1, .int (ae s w).2]) mem) : bA prog (k + 3) (.ref 724) [.int w, .int s] mem Q R := by
 refine cf NH NG ?_
 refine ⟨fun n σ => ∃ t', ae n t' = ae s w ∧ σ = ⟨[(eG, .int t'), (aW, .int n)], mem⟩, s, ⟨w, rfl, rfl⟩, ?_⟩
 rintro n σ₁ ⟨t', h1, rfl⟩
 have fin : ae s w = (t', n) → Q (.tup [.int t', .int n]) mem := fun e => by rw [e] at h; exact h
 cases n with
 | zero => exact fin h1.symm
 | succ n =>
  refine cS (fun _ => ?_) fun e => absurd (by lia) e
  refine And.intro (by decide) ?_
  by_cases hz : t'.fmod 10 = 0
  ·refine dj (by rw [hz]; rfl) ?_
   refine And.intro (jl (by decide) (by decide)) ?_
   refine ⟨n, Nat.lt_succ_self n, t'.fdiv 10, ?_, ?_⟩
   ·rw [← h1]; exact (if_pos hz).symm
   ·show St.mk _ _ = _
    have : ((n + 1 : Nat) : Int) - 1 = n := by lia
    rw [← this]; rfl
  ·refine bn (by simpa using hz) (fin ?_)
   rw [← h1]; exact if_neg hz
noncomputable def inner : Tr → Tr
 | .idx (.inks ns b ws m) _ _ => .inks ns b ws m
 | t => t
theorem mO {t : Tr} (h : Q (ib (inner t)) mem) : bA prog (k + 3) (.ref 736) [ib t] mem Q R := by
 refine cf NL NK ?_
 cases t with
 | idx b m o => cases b <;> exact h
 | _ => exact h
theorem bG {t : Tr} {nums : List V} {ev : V} (Ha : jz prog mem 2 ev (fun _ _ => False) (fun m => Q (.bool true) m) t nums) : bA prog (k + 15) (.ref 743) [mL t, .list nums, ev] mem Q R := by
 refine cf (k := k + 12) NN NM ?_
 exact (wi (k := k) (p := 2) Ha (by decide)).mono (fun _ _ h => h.elim) fun m h => h
end
noncomputable def GA (row : List Int) (s : Nat) : List Int := match row with
 | [c, m, y, k] => [bM (10 ^ s - c - k) 0, bM (10 ^ s - m - k) 0, bM (10 ^ s - y - k) 0]
 | [g] => [g, g, g]
 | r => r
noncomputable def fW (row : List Int) (s p : Nat) : List Int := (GA row s).map fun x => cw (x * 10 ^ p) (10 ^ s)
noncomputable def lH : Tr → List Int → Nat → Nat → List Int
 | .idx b m o, row, s, p => lH b ((cJ o (some (fV (row.getD 0 0) m * bk b)) (some (fV (row.getD 0 0) m * bk b + bk b))).map fun c => cw ((c.toNat : Int) * 10 ^ p) 255) p p
 | .inks _ b ws _, row, s, p => lH b (vn ws (row.map (bF s)) (bk b)) (s + 1) p
 | .profB b, row, s, p => lH b (row.map (bF s)) s p
 | .dev _, row, s, p => fW (row.map (bF s)) s p
 | .cal _, row, s, p => fW (row.map (bF s)) s p
 | .prof _, row, s, p => fW (row.map (bF s)) s p
 | _, row, s, p => fW (row.map (bF s)) s p
theorem m9.cnt_le {t : Tr} (h : m9 t) : bk t ≤ 4 := by
 induction h with
 | dev f => cases f <;> decide
 | cal b => cases b <;> decide
 | prof f => cases f <;> decide
 | profB h ih => exact ih
 | idx h ih => exact (by decide : 1 ≤ 4)
 | inks h hi ih =>
  show (List.map V.str _).length ≤ 4
  rw [List.length_map]
  exact Nat.le_trans hi.len (by decide)
theorem Jy {s : Nat} (h : s ≤ 18) : ((10 : Int) ^ s).natAbs < 2 ^ 63 := by
 rw [Int.natAbs_pow]
 exact Nat.lt_of_le_of_lt (Nat.pow_le_pow_right (by decide) h) (by decide)
section
variable {prog : Program} {mem : Mem} {R : Mem → Prop}
theorem jC {k : Nat} {Q : V → Mem → Prop} {r : List Int} {s p : Nat} (hs : s ≤ 18) (hp : p ≤ 18) (h : Q (iL (r.map fun x => cw (x * 10 ^ p) (10 ^ s))) mem) {loc : List (Str × V)} (hl : loc = [(aW, .int s), (aa, .int p)]) :
  dD (fun σ K => vc prog (k + 4) (.call (.gv (.ref 695)) (.cons (.bin .Mult (.loc af) (.bin .Pow (.int (10)) (.loc aa))) (.cons (.bin .Pow (.int (10)) (.loc aW)) .nil))) dP σ fun y σ'' => K (some y) σ'') af (r.map .int) ⟨loc, mem⟩ fun ys m => Q (.list ys) m := by
 subst hl
 have h' : Q (.list (r.map fun x => .int (cw (x * 10 ^ p) (10 ^ s)))) mem := by
  have e : (r.map fun x => V.int (cw (x * 10 ^ p) (10 ^ s))) = (r.map fun x => cw (x * 10 ^ p) (10 ^ s)).map .int := by rw [List.map_map]; rfl
  rw [e]; exact h
 refine bl (α := Int) (g := .int) (f := fun x => .int (cw (x * 10 ^ p) (10 ^ s))) (fun x _ K hK => ?_) h'
 refine And.intro (.ten (by lia) (by lia)) ?_
 refine And.intro (bL (cY (by lia))) ?_
 refine And.intro (.ten (by lia) (by lia)) ?_
 exact g7 (k := k + 1) (Int.pow_ne_zero (by decide)) (Jy hs) hK
noncomputable def Jz : S := (.seq (.iff (.cmp .Eq (.call (.gv (.bi .len)) (.cons (.loc bK) .nil)) (.int (4))) (.seq (.asg bK (.comp [bK, aW] af (.call (.gv (.bi .max)) (.cons (.bin .Sub (.bin .Sub (.bin .Pow (.int (10)) (.loc aW)) (.loc af)) (.sub (.loc bK) (.int (3)))) (.cons (.int (0)) .nil))) (.slc (.loc bK) .non (.int (3))) .nil)) .nil) .nil) (.seq (.iff (.cmp .Eq (.call (.gv (.bi .len)) (.cons (.loc bK) .nil)) (.int (1))) (.seq (.asg bK (.bin .Mult (.loc bK) (.int (3)))) .nil) .nil) (.seq (.ret (.comp [aa, aW] af (.call (.gv (.ref 695)) (.cons (.bin .Mult (.loc af) (.bin .Pow (.int (10)) (.loc aa))) (.cons (.bin .Pow (.int (10)) (.loc aW)) .nil))) (.loc bK) .nil)) .nil)))
theorem jD {k : Nat} {Q : V → Mem → Prop} {r : List Int} {s p : Nat} {tv : V} (hr : r.length = 1 ∨ r.length = 3 ∨ r.length = 4) (hs : s ≤ 18) (hp : p ≤ 18) (h : Q (iL (fW r s p)) mem) :
  bH prog (k + 4) Jz (fun σ => R σ.mem) ⟨[(am, tv), (bK, iL r), (aW, .int s), (aa, .int p)], mem⟩ (fun σ => Q .none σ.mem) (fun v σ => Q v σ.mem) := by
 have h19 : s ≤ 19 := by lia
 rcases hr with hr | hr | hr
 ·obtain ⟨a, rfl⟩ := gU (v0 := ()) hr
  refine And.intro (by decide) ?_
  exact jC (k := k) (r := [a, a, a]) hs hp h rfl
 ·obtain ⟨a, b, c, rfl⟩ := jL (v0 := ()) (v1 := ()) (v2 := ()) hr
  exact jC (k := k) (r := [a, b, c]) hs hp h rfl
 ·obtain ⟨c, m, y, b, rfl⟩ := uF (v0 := ()) (v1 := ()) (v2 := ()) (v3 := ()) hr
  refine And.intro (.ten (by lia) (by lia)) ?_
  refine And.intro (.ten (by lia) (by lia)) ?_
  refine And.intro (.ten (by lia) (by lia)) ?_
  exact jC (k := k) (r := [bM (10 ^ s - c - b) 0, bM (10 ^ s - m - b) 0, bM (10 ^ s - y - b) 0]) hs hp h rfl
noncomputable def DU (prog : Program) (mem : Mem) (R : Mem → Prop) (t : Tr) : Prop := ∀ {k : Nat} {Q : V → Mem → Prop} {row : List Int} {s p : Nat}, m9 t → row.length = bk t → s + lv t ≤ 18 → p + lv t ≤ 18 → Q (iL (lH t row s p)) mem → bA prog (k + lv t + 5) (.ref 717) [ib t, iL row, .int s, .int p] mem Q R
theorem lI {t : Tr} (ht : (∃ f, t = .dev f) ∨ (∃ b, t = .cal b) ∨ ∃ f, t = .prof f) : DU prog mem R t := fun {k Q row s p} w hl hs hp h => by
 have hc : bk t = 1 ∨ bk t = 3 ∨ bk t = 4 := by
  rcases ht with ⟨f, rfl⟩ | ⟨b, rfl⟩ | ⟨f, rfl⟩
  ·exact (gf.dev 0 f).cnt_of
  ·exact (gf.cal 0 b).cnt_of
  ·exact (gf.prof 0 f).cnt_of
 have hr : (row.map (bF s)).length = 1 ∨ (row.map (bF s)).length = 3 ∨ (row.map (bF s)).length = 4 := by rw [List.length_map, hl]; exact hc
 rcases ht with ⟨f, rfl⟩ | ⟨b, rfl⟩ | ⟨f, rfl⟩
 ·refine cf (k := k + 2) pV pU ?_
  refine dR (k := k + 1) (by lia) ?_
  exact jD (k := k) hr (by lia) (by lia) h
 ·refine cf (k := k + 3) pV pU ?_
  refine dR (k := k + 2) (by lia) ?_
  exact jD (k := k + 1) hr (by lia) (by lia) h
 ·refine cf (k := k + 3) pV pU ?_
  refine dR (k := k + 2) (by lia) ?_
  exact jD (k := k + 1) hr (by lia) (by lia) h
theorem vo (ws xs : List Int) (c : Nat) : (vn ws xs c).length = c := by unfold vn; rw [List.length_map, List.length_range]
theorem tj {b : Tr} (IH : DU prog mem R b) : DU prog mem R (.profB b) := fun {k Q row s p} w hl hs hp h => by
 refine gk fun _ kk => ?_
 cases w with | profB w =>
 refine kk ?_; clear kk
 have e : lv (.profB b) = lv b + 1 := rfl
 rw [e] at hs hp
 refine cf (k := k + lv b + 3) pV pU ?_
 refine dR (k := k + lv b + 2) (by lia) ?_
 refine dj (by rw [mK]; rfl) ?_
 exact IH (k := k) w (by rw [List.length_map]; exact hl) (by lia) (by lia) h
theorem vp {ns : List Str} {b : Tr} {ws : List Int} {m : Bool} (IH : DU prog mem R b) : DU prog mem R (.inks ns b ws m) := fun {k Q row s p} w hl hs hp h => by
 refine gk fun _ kk => ?_
 cases w with | inks w hi =>
 refine kk ?_; clear kk
 have e : lv (.inks ns b ws m) = lv b + 1 := rfl
 rw [e] at hs hp
 have hl' : row.length = ns.length := hl.trans (List.length_map ..)
 have h3 := hi.len
 have h4 := w.cnt_le
 refine cf (k := k + lv b + 3) pV pU ?_
 refine dR (k := k + lv b + 2) (by lia) ?_
 refine b0 (k := k + lv b + 1) ?_
 refine jA (k := k + lv b + 2) hi.w4 hi.w (by rw [List.length_map]; lia) (by lia) ?_
 exact IH (k := k) (s := s + 1) w (vo ..) (by lia) (by lia) h
theorem kK {n x : Nat} (h : x ≤ n) : clipAt n (x : Int) = x := by
 unfold clipAt
 split <;> lia
theorem mP {α : Type} (l : List α) {a : Int} {c : Nat} (h0 : 0 ≤ a) (h : a + c ≤ l.length) : (cJ l (some a) (some (a + c))).length = c := by
 obtain ⟨n, rfl⟩ := Int.eq_ofNat_of_zero_le h0
 have h' : n + c ≤ l.length := Int.ofNat_le.mp h
 show ((l.drop (clipAt l.length (n : Int))).take (clipAt l.length ((n + c : Nat) : Int) - clipAt l.length (n : Int))).length = c
 rw [List.length_take, List.length_drop, kK h', kK (Nat.le_trans (Nat.le_add_right _ _) h'), Nat.add_sub_cancel_left, Nat.min_eq_left (Nat.le_sub_of_add_le (by rw [Nat.add_comm]; exact h'))]
theorem nU (top : Int) (m : Nat) : 0 ≤ fV top m ∧ fV top m ≤ m := by
 unfold fV jO bM
 constructor <;> split <;> (try split) <;> lia
theorem GB {b : Tr} {m : Nat} {o : List UInt8} (ho : (m + 1) * bk b ≤ o.length) (IH : DU prog mem R b) : DU prog mem R (.idx b m o) := fun {k Q row s p} w hl hs hp h => by
 refine gk fun _ kk => ?_
 cases w with | idx w =>
 have e : lv (.idx b m o) = lv b + 1 := rfl
 rw [e] at hs hp
 have h4 := w.cnt_le
 obtain ⟨r, rfl⟩ := List.length_eq_one_iff.mp hl
 refine kk ?_; clear kk
 have hlen : (cJ o (some (fV r m * bk b)) (some (fV r m * bk b + bk b))).length = bk b := by
  obtain ⟨i0, i1⟩ := nU r m
  refine mP o (Int.mul_nonneg i0 (by lia)) ?_
  have : fV r m * bk b ≤ (m : Int) * bk b := Int.mul_le_mul_of_nonneg_right i1 (by lia)
  have e2 : (((m + 1) * bk b : Nat) : Int) = (m : Int) * bk b + bk b := by rw [Nat.add_mul]; simp
  lia
 refine cf (k := k + lv b + 3) pV pU ?_
 refine ig (k := k + lv b + 1) ?_
 refine b0 (k := k + lv b + 1) ?_
 refine And.intro (bL (by lia)) ?_
 refine b0 (k := k + lv b + 1) ?_
 have go : ∀ loc, loc = [(aa, V.int p)] → dD (fun σ K => vc prog (k + lv b + 5) (.call (.gv (.ref 695)) (.cons (.bin .Mult (.loc eW) (.bin .Pow (.int (10)) (.loc aa))) (.cons (.int (255)) .nil))) dP σ fun y σ'' => K (some y) σ'') eW ((cJ o (some (fV r m * bk b)) (some (fV r m * bk b + bk b))).map fun o => V.int (o.toNat : Int)) ⟨loc, mem⟩
   fun ys m' => bA prog (k + lv b + 5) (.ref 717) [ib b, .list ys, .int p, .int p] m' Q R := fun loc hl => by
  subst hl
  refine bl (α := UInt8) (g := fun o => V.int (o.toNat : Int)) (f := fun o => .int (cw ((o.toNat : Int) * 10 ^ p) 255)) (fun x _ K hK => ?_) ?_
  ·refine And.intro (.ten (by lia) (by lia)) ?_
   refine And.intro (bL (cY (by lia))) ?_
   exact g7 (k := k + lv b + 2) (by decide) (by decide) hK
  ·have e3 : ((cJ o (some (fV r m * bk b)) (some (fV r m * bk b + bk b))).map fun o => V.int (cw ((o.toNat : Int) * 10 ^ p) 255)) = ((cJ o (some (fV r m * bk b)) (some (fV r m * bk b + bk b))).map fun o => cw ((o.toNat : Int) * 10 ^ p) 255).map .int := by rw [List.map_map]; rfl
   rw [e3]
   exact IH (k := k) w (by rw [List.length_map]; exact hlen) (by lia) (by lia) h
 exact go _ rfl
inductive qe : Tr → Prop
 | dev (f : Fam) : qe (.dev f)
 | cal (b : Bool) : qe (.cal b)
 | prof (f : Fam) : qe (.prof f)
 | profB {b : Tr} (h : qe b) : qe (.profB b)
 | idx {b : Tr} {m : Nat} {o : List UInt8} (h : qe b) (ho : (m + 1) * bk b ≤ o.length) : qe (.idx b m o)
 | inks {ns : List Str} {b : Tr} {ws : List Int} {m : Bool} (h : qe b) : qe (.inks ns b ws m)
theorem qf {t : Tr} (h : qe t) : DU prog mem R t := by
 induction h with
 | dev f => exact lI (.inl ⟨f, rfl⟩)
 | cal b => exact lI (.inr (.inl ⟨b, rfl⟩))
 | prof f => exact lI (.inr (.inr ⟨f, rfl⟩))
 | profB h ih => exact tj ih
 | idx h ho ih => exact GB ho ih
 | inks h ih => exact vp ih
end
theorem Oe (prog : Program) : Gs prog := fun {k mem Q R f} h => by
 refine cf (k := k + 3) MQ MP ?_
 refine cf (k := k + 2) mt mr ?_
 refine cC (k := N8 [(bO, V.int 1), (bZ, .int 3), (b9, .int 4)]) (by decide +kernel) ?_
 cases f with
 | gray => exact cF (f := .gray) h
 | rgb => exact cF (f := .rgb) h
 | cmyk => exact cF (f := .cmyk) h
theorem vq (w : Int) : (ae 1 w).1 = if w.fmod 10 = 0 then w / 10 else w := by
 show (if w.fmod 10 = 0 then ae 0 (w.fdiv 10) else (w, 1)).1 = _
 rw [Int.fdiv_eq_ediv_of_nonneg _ (by decide)]
 by_cases h : w.fmod 10 = 0
 ·rw [if_pos h, if_pos h]; rfl
 ·rw [if_neg h, if_neg h]
noncomputable def tl (q r : Int × Nat) : Int × Nat := ae (q.2 + r.2) (q.1 * r.1)
noncomputable def mQ {α β : Type} (f : Nat → α → β) : Nat → List α → List β
 | _, [] => []
 | i, a :: l => f i a :: mQ f (i + 1) l
theorem jE {α : Type} {turn : St → (V → St → Prop) → Prop} {x y : Str} {mem : Mem} {loc : List (Str × V)} {g : α → V} {f : Nat → α → V} (hp : ∀ u v u' v', put y u' (put x v' (put y u (put x v loc))) = put y u' (put x v' loc)) :
  ∀ {ys : List α} {i : Nat} {loc' : List (Str × V)} {Q : List V → Mem → Prop}, (∀ j a, a ∈ ys → ∀ K : V → St → Prop, K (f j a) ⟨put y (g a) (put x (.int (j : Nat)) loc), mem⟩ → turn ⟨put y (g a) (put x (.int (j : Nat)) loc), mem⟩ K) → (loc' = loc ∨ ∃ u v, loc' = put y u (put x v loc)) → Q (mQ f i ys) mem →
   lj turn x y (i : Nat) (ys.map g) ⟨loc', mem⟩ Q
 | [], _, _, _, _, _, h => h
 | a :: ys, i, loc', Q, ht, hl, h => by
  have e : put y (g a) (put x (.int (i : Nat)) loc') = put y (g a) (put x (.int (i : Nat)) loc) := by rcases hl with rfl | ⟨u, v, rfl⟩; rfl; exact hp ..
  show turn ⟨put y (g a) (put x (.int (i : Nat)) loc'), mem⟩ _
  rw [e]
  exact ht i a (.head _) _ (jE hp (i := i + 1) (fun j b hb => ht j b (.tail _ hb)) (.inr ⟨_, _, rfl⟩) h)
theorem mR {α β γ : Type} {f : Nat → α → β} {g : β → γ} : ∀ {l : List α} {i : Nat}, (mQ f i l).map g = mQ (fun i a => g (f i a)) i l
 | [], _ => rfl
 | a :: l, i => congrArg (g (f i a) :: ·) mR
theorem mS {α β : Type} {f : Nat → α → β} {P : β → Prop} : ∀ {l : List α} {i : Nat}, (∀ j a, a ∈ l → P (f j a)) → ∀ b ∈ mQ f i l, P b
 | [], _, _, b, h => by cases h
 | a :: l, i, ha, b, h => by
  rcases List.mem_cons.mp h with rfl | h
  ·exact ha i a (.head _)
  ·exact mS (fun j c hc => ha j c (.tail _ hc)) b h
noncomputable def OV (ws : List Int) (c : Nat) : V := .dict [(GN, .list (ws.map .int)), (Ls, .int c)]
noncomputable def mT (ws : List Int) (t : Nat) (qs : List (Int × Nat)) : List (Int × Nat) := mQ (fun i q => tl q (ae 1 (ws.getD ((i + t) % 4) 0))) 0 qs
noncomputable def nV (qs : List (Int × Nat)) : Int × Nat := ae (gn qs).toNat (qs.map fun q => up q (gn qs)).sum
noncomputable def tK (ws : List Int) (c : Nat) (qs : List (Int × Nat)) : List (Int × Nat) := (List.range c).map fun t => nV (mT ws t qs)
section
variable {prog : Program} {k : Nat} {mem : Mem} {Q : V → Mem → Prop} {R : Mem → Prop}
theorem nW {ws : List Int} {c : Nat} {qs : List (Int × Nat)} {p : Nat} (hw : ws.length = 4) (hws : ∀ w ∈ ws, 0 ≤ w ∧ w < 12) (hc : c ≤ 4096) (hq : ∀ q ∈ qs, q.2 ≤ 18) (h : Q (.list ((tK ws c qs).map D)) mem) : bA prog (k + 8) (.ref 729) [OV ws c, .list (qs.map D), .int p] mem Q R := by
 refine cf (k := k + 5) NJ NI ?_
 refine ag (gi rfl hc) ?_
 have st : ∀ w : Int, (ae 1 w).2 ≤ 1 := fun w => a9 0 1 w
 refine bl (α := Nat) (g := fun i : Nat => V.int (i : Int)) (f := fun t => .list ((mT ws t qs).map D)) (fun t _ K hK => ?_) ?_
 ·refine jE (α := Int × Nat) (g := D) (f := fun i q => D (tl q (ae 1 (ws.getD ((i + t) % 4) 0)))) (i := 0) (fun _ _ _ _ => rfl) (fun i q hi K' hK' => ?_) (.inl rfl) ?_
  ·refine And.intro (by decide) ?_
   have e : ((i : Int) + (t : Int)).fmod 4 = (((i + t) % 4 : Nat) : Int) := by
    rw [Int.fmod_eq_emod_of_nonneg _ (by decide)]; lia
   rw [e]
   have hm : (i + t) % 4 < ws.length := by rw [hw]; lia
   refine cC (decide_eq_true (Int.natCast_nonneg ((i + t) % 4))) (ag (nT hm) ?_)
   refine eB (p := 1) (n := 1) rfl ?_
   have := hws (ws.getD ((i + t) % 4) 0) (by rw [List.getD_eq_getElem?_getD, List.getElem?_eq_getElem hm]; exact List.getElem_mem hm)
   refine u7 (.dec _) ?_ hK'
   rw [vq]
   split <;> lia
  ·unfold mT at hK
   rw [mR] at hK
   exact hK
 ·have e : ((List.range c).map fun t => V.list ((mT ws t qs).map D)) = ((List.range c).map fun t => mT ws t qs).map fun r => V.list (r.map D) := by rw [List.map_map]; rfl
  rw [e]
  refine bl (α := List (Int × Nat)) (g := fun r => V.list (r.map D)) (f := fun r => D (nV r)) (fun r hr K hK => ?_) ?_
  ·obtain ⟨t, _, rfl⟩ := List.mem_map.mp hr
   refine mC (fun q hq' => mS (P := fun q => q.2 ≤ 19) (fun j a ha => ?_) q hq') hK
   have := hq a ha
   have := st (ws.getD ((j + t) % 4) 0)
   exact Nat.le_trans (a9 0 _ _) (by lia)
  ·have e2 : (((List.range c).map fun t => mT ws t qs).map fun r => D (nV r)) = (tK ws c qs).map D := by unfold tK; rw [List.map_map, List.map_map]; rfl
   rw [e2]; exact h
end
theorem vr (n : Nat) : (0 : Int) < 10 ^ n := Int.pow_pos (by decide)
theorem kL (s : Nat) (t : Int) : ae (s + 1) (t * 10) = ae s t := by
 show (if (t * 10).fmod 10 = 0 then ae s ((t * 10).fdiv 10) else _) = _
 rw [if_pos (by rw [Int.mul_comm]; exact Int.mul_fmod_right 10 t), Int.mul_fdiv_cancel _ (by decide)]
theorem mU (s : Nat) : ∀ (k : Nat) (t : Int), ae (s + k) (t * 10 ^ k) = ae s t
 | 0, t => by rw [Int.pow_zero, Int.mul_one]; rfl
 | k + 1, t => by rw [Int.pow_succ, ← Int.mul_assoc]; exact (kL (s + k) _).trans (mU s k t)
theorem d6 {s M : Nat} {x y : Int} (h : M ≤ s) (e : x = y * 10 ^ (s - M)) : ae s x = ae M y := by
 subst e
 have := mU M (s - M) y
 rwa [show M + (s - M) = s by lia] at this
theorem cL : ∀ (s : Nat) (x : Int), x = (ae s x).1 * 10 ^ (s - (ae s x).2)
 | 0, x => by show x = x * 10 ^ 0; rw [Int.pow_zero, Int.mul_one]
 | s + 1, x => by
  show x = (if x.fmod 10 = 0 then ae s (x.fdiv 10) else (x, s + 1)).1 * 10 ^ (s + 1 - (if x.fmod 10 = 0 then ae s (x.fdiv 10) else (x, s + 1)).2)
  by_cases h : x.fmod 10 = 0
  ·rw [if_pos h]
   have ih := cL s (x.fdiv 10)
   have hl := a9 0 s (x.fdiv 10)
   rw [Nat.succ_sub hl, Int.pow_succ, ← Int.mul_assoc, ← ih]
   have := Int.mul_fdiv_add_fmod x 10
   lia
  ·rw [if_neg h, Nat.sub_self, Int.pow_zero, Int.mul_one]
theorem nX (s : Nat) (x : Int) : ae (ae s x).2 (ae s x).1 = ae s x := (d6 (a9 0 s x) (cL s x)).symm
theorem jF : ∀ s, ae s 0 = (0, 0)
 | 0 => rfl
 | s + 1 => by have := kL s 0; rw [Int.zero_mul] at this; rw [this]; exact jF s
theorem qg (s : Nat) : ae s (10 ^ s) = (1, 0) := by
 rw [d6 (M := 0) (Nat.zero_le s) (y := 1) (by rw [Int.one_mul]; rfl)]; rfl
theorem d7 {a b k : Int} (h : 0 < k) : a * k < b * k ↔ a < b := Int.mul_lt_mul_right h
theorem vt (q : Int × Nat) (b : Int) : lM q (b, 0) = q.1 - b * 10 ^ q.2 := by
 have e : mx q (b, 0) = q.2 := by unfold mx; exact if_neg (by show ¬ ((0 : Nat) : Int) > q.2; lia)
 unfold lM up
 rw [e]
 simp
theorem gL {s M : Nat} (h : M ≤ s) : (10 : Int) ^ s = 10 ^ M * 10 ^ (s - M) := by rw [← Int.pow_add]; congr 1; lia
theorem mV (s : Nat) (x : Int) : cl (ae s x) 1 = ae s (bF s x) := by
 have v := cL s x
 have l := a9 0 s x
 have sp := vr (s - (ae s x).2)
 have g : gr (ae s x) (0, 0) = ae s (bM x 0) := by
  unfold gr bM
  rw [vt, Int.zero_mul, Int.sub_zero]
  by_cases h : x < 0
  ·rw [if_pos (show 0 > x from h), if_pos, jF]
   rw [← d7 sp, ← v, Int.zero_mul]; exact h
  ·rw [if_neg (show ¬ 0 > x from h), if_neg]
   intro h'
   rw [← d7 sp, ← v, Int.zero_mul] at h'; exact h h'
 unfold cl bF
 rw [g]
 have v := cL s (bM x 0)
 have l := a9 0 s (bM x 0)
 have sp := vr (s - (ae s (bM x 0)).2)
 generalize bM x 0 = y at v l sp ⊢
 unfold le jO
 rw [vt, Int.one_mul]
 have e : (ae s y).1 - 10 ^ (ae s y).2 > 0 ↔ 10 ^ s < y := by
  rw [gt_iff_lt, Int.sub_pos, ← d7 sp, ← v, ← gL l]
 by_cases h : 10 ^ s < y
 ·rw [if_pos (e.mpr h), if_pos h, qg]
 ·rw [if_neg fun z => h (e.mp z), if_neg h]
theorem NX {s a b : Nat} (h : a ≤ s) (h2 : b ≤ 1) : s + 1 - (a + b) = (s - a) + (1 - b) := by lia
theorem qh (s : Nat) (x w : Int) : tl (ae s x) (ae 1 w) = ae (s + 1) (x * w) := by
 have l := a9 0 s x
 have l1 := a9 0 1 w
 refine (d6 (Nat.add_le_add l l1) ?_).symm
 conv => lhs; rw [cL s x, cL 1 w]
 rw [NX l l1, Int.pow_add]
 simp only [Int.mul_assoc, Int.mul_left_comm]
theorem pv (k : Int) : ∀ l : List Int, (l.map fun x => x * k).sum = l.sum * k
 | [] => (Int.zero_mul k).symm
 | x :: l => by simp only [List.map_cons, List.sum_cons]; rw [pv k l, Int.add_mul]
theorem NY {s m a : Nat} (h : a ≤ m) (h2 : m ≤ s) : ((m : Int) - a).toNat + (s - m) = s - a := by lia
theorem kM (s : Nat) (row : List Int) : nV (row.map (ae s)) = ae s row.sum := by
 unfold nV
 have hM := jo (row.map (ae s))
 have hle : gn (row.map (ae s)) ≤ s := ly fun q hq => by
  obtain ⟨x, _, rfl⟩ := List.mem_map.mp hq
  exact a9 0 s x
 have hge : ∀ x ∈ row, ((ae s x).2 : Int) ≤ gn (row.map (ae s)) := fun x hx => (gF (row.map (ae s)) 0).2.1 _ (List.mem_map_of_mem hx)
 generalize gn (row.map (ae s)) = M at hM hle hge ⊢
 obtain ⟨m, rfl⟩ : ∃ m : Nat, M = m := ⟨M.toNat, by lia⟩
 rw [Int.toNat_natCast]
 refine (d6 (by lia) ?_).symm
 rw [← pv, List.map_map, List.map_map]
 congr 1
 conv => lhs; rw [← List.map_id row]
 refine List.map_congr_left fun x hx => ?_
 have := hge x hx
 show x = (ae s x).1 * 10 ^ ((m : Int) - (ae s x).2).toNat * 10 ^ (s - m)
 rw [Int.mul_assoc, ← Int.pow_add, NY (Int.ofNat_le.mp this) (Int.ofNat_le.mp hle)]
 exact cL s x
theorem mW {a b k : Int} (hk : 0 < k) : cw (a * k) (b * k) = cw a b := by
 unfold cw
 rw [show 2 * (a * k) + b * k = (2 * a + b) * k by rw [Int.add_mul, Int.mul_assoc], show 2 * (b * k) = 2 * b * k by rw [Int.mul_assoc]]
 exact Int.mul_fdiv_mul_of_pos_left _ _ hk
theorem tm {a b : Int} (hb : 0 < b) : cw (a * b) b = a := by
 unfold cw
 rw [Int.fdiv_eq_ediv_of_nonneg _ (by lia)]
 have : 2 * (a * b) + b = b + a * (2 * b) := by rw [Int.mul_left_comm, Int.add_comm]
 rw [this, Int.add_mul_ediv_right _ _ (by lia), Int.ediv_eq_zero_of_lt (by lia) (by lia), Int.zero_add]
noncomputable def sg (x : Int) : Int := if x ≥ 0 then 1 else -1
theorem wj (t b : Int) (hb : 0 < b) : rq t b = cw (cZ t) b * sg t := by
 unfold rq cw sg
 rw [show cZ b = b from if_neg (by lia), show o6 b = 1 by unfold o6; rw [if_neg (by lia), if_pos hb], Int.mul_one]
 by_cases h : t = 0
 ·subst h
  rw [show cZ 0 = 0 from rfl, Int.mul_zero, Int.zero_add, Int.fdiv_eq_ediv_of_nonneg _ (by lia), Int.ediv_eq_zero_of_lt (by lia) (by lia), Int.zero_mul, Int.zero_mul]
 ·congr 1
  unfold o6
  rw [if_neg h]
  by_cases h' : t > 0
  ·rw [if_pos h', if_pos (by lia)]
  ·rw [if_neg h', if_neg (by lia)]
theorem to {a k : Int} (hk : 0 < k) : cZ (a * k) = cZ a * k := by
 unfold cZ
 have : a * k < 0 ↔ a < 0 := by have := d7 (a := a) (b := 0) hk; rwa [Int.zero_mul] at this
 by_cases h : a < 0
 ·rw [if_pos h, if_pos (this.mpr h), Int.neg_mul]
 ·rw [if_neg h, if_neg fun z => h (this.mp z)]
theorem GC {a k : Int} (hk : 0 < k) : sg (a * k) = sg a := by
 unfold sg
 have : a * k ≥ 0 ↔ a ≥ 0 := by have := d7 (a := a) (b := 0) hk; rw [Int.zero_mul] at this; lia
 by_cases h : a ≥ 0
 ·rw [if_pos h, if_pos (this.mpr h)]
 ·rw [if_neg h, if_neg fun z => h (this.mp z)]
theorem vv (a : Int) : cZ a * sg a = a := by unfold cZ sg; split <;> split <;> lia
theorem mX (s p : Nat) (x : Int) : pp (ae s x) p = ae p (cw (cZ x * 10 ^ p) (10 ^ s) * sg x) := by
 have v := cL s x
 have l := a9 0 s x
 have self := nX s x
 have e : ae s x = ((ae s x).1, (ae s x).2) := rfl
 generalize ae s x = q at v l self ⊢
 obtain ⟨a, m⟩ := q
 simp only at v l self
 have kp := vr (s - m)
 rw [v, to kp, GC kp, gL l, show cZ a * 10 ^ (s - m) * 10 ^ p = cZ a * 10 ^ p * 10 ^ (s - m) by rw [Int.mul_assoc, Int.mul_comm (10 ^ (s - m)), ← Int.mul_assoc], mW kp]
 unfold pp
 by_cases h : m ≤ p
 ·rw [if_pos h]
  rw [show cZ a * 10 ^ p = cZ a * 10 ^ (p - m) * 10 ^ m by rw [gL h, Int.mul_assoc, Int.mul_comm (10 ^ m)], tm (vr m)]
  rw [d6 h (y := a) (by rw [Int.mul_assoc, Int.mul_comm (10 ^ (p - m)), ← Int.mul_assoc, vv])]
  exact self.symm
 ·rw [if_neg h]
  rw [wj _ _ (vr _), gL (show p ≤ m by lia), Int.mul_comm (10 ^ p), mW (vr p)]
theorem JA {s p : Nat} {x : Int} (h : 0 ≤ x) : pp (ae s x) p = ae p (cw (x * 10 ^ p) (10 ^ s)) := by
 rw [mX, show cZ x = x from if_neg (by lia), show sg x = 1 from if_pos h, Int.mul_one]
theorem tq (s : Nat) (x : Int) : 0 ≤ bF s x := by have := vr s; unfold bF jO bM; split <;> split <;> lia
theorem GD (s : Nat) (x : Int) : bF s x ≤ 10 ^ s := by unfold bF jO; split <;> lia
theorem GE {s : Nat} {x : Int} (h : 0 ≤ x) (h2 : x ≤ 10 ^ s) : bF s x = x := by unfold bF jO bM; rw [if_neg (show ¬ 0 > x by lia), if_neg (by lia)]
theorem vw (s : Nat) (x : Int) : bF s (bF s x) = bF s x := GE (tq s x) (GD s x)
theorem JB {c : Int} (p : Nat) (h : 0 ≤ c) : ov c p = ae p (cw (c * 10 ^ p) 255) := by
 have e : up (c, 0) (mx (c, 0) (255, 0)) = c := by unfold up mx; simp [bM]
 unfold ov
 have h0 : 0 ≤ c * 10 ^ p := Int.mul_nonneg h (Int.le_of_lt (vr p))
 rw [th, e, wj _ _ (by decide), show cZ (c * 10 ^ p) = c * 10 ^ p from if_neg (by lia), show sg (c * 10 ^ p) = 1 from if_pos h0, Int.mul_one]
theorem nY {s : Nat} {x k : Int} (hx : 0 ≤ x) (hk : 0 ≤ k) : qc (ae s x) (ae s k) = ae s (bM (10 ^ s - x - k) 0) := by
 have e := kM s [x, k]
 have e2 : ([x, k] : List Int).sum = x + k := by simp
 rw [e2] at e
 unfold nV at e
 simp only [List.map_cons, List.map_nil] at e
 unfold qc
 simp only [List.map_cons, List.map_nil]
 rw [e]
 have v := cL s (x + k)
 have l := a9 0 s (x + k)
 generalize ae s (x + k) = q at v l ⊢
 obtain ⟨a, m⟩ := q
 simp only at v l ⊢
 have ed : lM (1, 0) (a, m) = 10 ^ m - a := by
  have em : mx (1, 0) (a, m) = m := by unfold mx bM; simp only; split <;> lia
  unfold lM up
  rw [em]; simp
 rw [ed, Nat.zero_max, ← d6 l (x := 10 ^ s - (x + k)) (by rw [Int.sub_mul, ← gL l, ← v]), mV]
 congr 1
 unfold bF jO bM
 have := vr s
 split <;> split <;> split <;> lia
theorem tr (x : Int) (m : Nat) : cl (pp (ae 2 x) 0) m = (fV x m, 0) := by
 rw [mX]
 show cl (cw (cZ x * 10 ^ 0) (10 ^ 2) * sg x, 0) m = _
 rw [Int.pow_zero, Int.mul_one]
 unfold fV
 rw [show (if x ≥ 0 then 1 else -1 : Int) = sg x from rfl, show (10 : Int) ^ 2 = 100 from rfl]
 generalize cw (cZ x) 100 * sg x = n
 have g : gr (n, 0) (0, 0) = (bM n 0, 0) := by
  unfold gr bM
  rw [vt]
  by_cases h : 0 > n
  ·rw [if_pos h, if_pos (by simp; lia)]
  ·rw [if_neg h, if_neg (by simp; lia)]
 unfold cl
 rw [g]
 generalize bM n 0 = y
 unfold le jO
 rw [vt]
 by_cases h : (m : Int) < y
 ·rw [if_pos h, if_pos (by simp; lia)]
 ·rw [if_neg h, if_neg (by simp; lia)]
theorem GF {row : List Int} {s : Nat} (h : ∀ x ∈ row, 0 ≤ x) : ∀ x ∈ GA row s, 0 ≤ x := by
 cases row with
 | nil => exact h
 | cons a row => cases row with
  | nil =>
   exact fun x hx => by
    have ha := h a (.head _)
    rcases List.mem_cons.mp hx with rfl | hx
    ·exact ha
    ·rcases List.mem_cons.mp hx with rfl | hx
     ·exact ha
     ·rw [List.mem_singleton.mp hx]; exact ha
  | cons b row => cases row with
   | nil => exact h
   | cons c row => cases row with
    | nil => exact h
    | cons d row => cases row with
     | nil =>
      exact fun x hx => by
       rcases List.mem_cons.mp hx with rfl | hx
       ·exact jm _ _
       ·rcases List.mem_cons.mp hx with rfl | hx
        ·exact jm _ _
        ·rw [List.mem_singleton.mp hx]; exact jm _ _
     | cons _ _ => exact h
theorem GG {f : Fam} {row : List Int} {s : Nat} (hl : row.length = f.ct) (h : ∀ x ∈ row, 0 ≤ x) : lF f (row.map (ae s)) = (GA row s).map (ae s) := by
 cases f with
 | gray => obtain ⟨g, rfl⟩ := gU (v0 := ()) hl; rfl
 | rgb => obtain ⟨a, b, c, rfl⟩ := jL (v0 := ()) (v1 := ()) (v2 := ()) hl; rfl
 | cmyk =>
  obtain ⟨c, m, y, k, rfl⟩ := uF (v0 := ()) (v1 := ()) (v2 := ()) (v3 := ()) hl
  have hk := h k (.tail _ (.tail _ (.tail _ (.head _))))
  show [qc (ae s c) (ae s k), qc (ae s m) (ae s k), qc (ae s y) (ae s k)] = [ae s _, ae s _, ae s _]
  rw [nY (h c (.head _)) hk, nY (h m (.tail _ (.head _))) hk, nY (h y (.tail _ (.tail _ (.head _)))) hk]
theorem vx {f : Fam} {row : List Int} {s p : Nat} (hl : row.length = f.ct) (h : ∀ x ∈ row, 0 ≤ x) : (lF f (row.map (ae s))).map (fun q => pp q p) = (fW row s p).map (ae p) := by
 rw [GG hl h, List.map_map]
 unfold fW
 rw [List.map_map]
 exact List.map_congr_left fun x hx => JA (GF h x hx)
theorem JC {ws : List Int} {c s : Nat} {row : List Int} : tK ws c (row.map (ae s)) = (vn ws row c).map (ae (s + 1)) := by
 unfold tK vn
 rw [List.map_map]
 refine List.map_congr_left fun t _ => ?_
 show nV (mT ws t (row.map (ae s))) = ae (s + 1) ((List.range row.length).map fun i => row.getD i 0 * ws.getD ((i + t) % 4) 0).sum
 rw [← kM]
 congr 1
 unfold mT
 have gen : ∀ (l : List Int) (j : Nat), mQ (fun i q => tl q (ae 1 (ws.getD ((i + t) % 4) 0))) j (l.map (ae s)) = ((List.range l.length).map fun i => l.getD i 0 * ws.getD ((j + i + t) % 4) 0).map (ae (s + 1)) := by
  intro l
  induction l with
  | nil => intro j; rfl
  | cons x l ih =>
   intro j
   show tl (ae s x) (ae 1 (ws.getD ((j + t) % 4) 0)) :: mQ _ (j + 1) (l.map (ae s)) = _
   rw [ih (j + 1), qh, List.length_cons, List.range_succ_eq_map, List.map_cons, List.map_cons, List.map_map]
   congr 1
   rw [List.map_map, List.map_map]
   refine List.map_congr_left fun i _ => ?_
   show ae (s + 1) (l.getD i 0 * ws.getD ((j + 1 + i + t) % 4) 0) = ae (s + 1) ((x :: l).getD (i + 1) 0 * ws.getD ((j + (i + 1) + t) % 4) 0)
   rw [List.getD_cons_succ, show j + 1 + i + t = j + (i + 1) + t by lia]
 have := gen row 0
 simpa using this
noncomputable def x0 : X := .call (.gv (.ref 729)) (.cons (.dct [GN, Ls] (.cons (.sub (.loc be) (.str GN)) (.cons (.loc an) .nil))) (.cons (.loc ad) (.cons (.loc aa) .nil)))
noncomputable def x1 : X := .slc (.call (.loc bz) (.cons (.loc be) (.cons (.loc ad) (.cons (.loc aa) .nil)))) (.int 1) .non
noncomputable def x2 : X := .bin .Mult (.lst (.cons .non .nil)) (.loc an)
theorem GH : oW 0 [be, ad, aa] x0 := ⟨by kernel_rfl, by kernel_rfl, by kernel_rfl, by kernel_rfl, fun _ _ _ _ us h => by
 obtain ⟨u0, u1, u2, rfl⟩ := jL (v0 := be) (v1 := ad) (v2 := aa) h; kernel_rfl, by kernel_rfl⟩
theorem GI : oW 2 [be, ad, aa] x2 := ⟨by kernel_rfl, by kernel_rfl, by kernel_rfl, by kernel_rfl, fun _ _ _ _ us h => by
 obtain ⟨u0, u1, u2, rfl⟩ := jL (v0 := be) (v1 := ad) (v2 := aa) h; kernel_rfl, by kernel_rfl⟩
theorem jG {i : Nat} {x : Str} {v : V} (h1 : bf (cj i).names = [x]) (h2 : (cj i).names.lookup x = some .free) (y : Str) : (cj i).names.lookup y = some .free ↔ (([(x, v)] : List (Str × V)).lookup y).isSome = true := by
 constructor
 ·intro h
  have := fJ (bV h)
  rw [h1, List.mem_singleton] at this
  subst this
  rw [bp]; rfl
 ·intro h
  rw [List.lookup_cons] at h
  cases q : (y == x) with
  | true => rw [eq_of_beq q]; exact h2
  | false => rw [q] at h; cases h
section
variable {prog : Program} {k : Nat} {mem : Mem} {Q : V → Mem → Prop} {R : Mem → Prop}
theorem wk (f0 : bf (cj 0).names = [an]) {ws : List Int} {c : Nat} {qs : List (Int × Nat)} {p : Nat} (hw : ws.length = 4) (hws : ∀ w ∈ ws, 0 ≤ w ∧ w < 12) (hc : c ≤ 4096) (hq : ∀ q ∈ qs, q.2 ≤ 18) (h : Q (.list ((tK ws c qs).map D)) mem) :
  bA prog (k + 9) (.lam 0 [(an, .int c)]) [ft ws, .list (qs.map D), .int p] mem Q R :=
 gV (d := k + 8) GH rfl (jG f0 (by kernel_rfl)) (nW (k := k) hw hws hc hq h)
theorem jH {ps : List Nu} {row : List Int} {s : Nat} (h : ps.map (·.2) = row.map (ae s)) : (ps.map fun x => cl x.2 1) = (row.map (bF s)).map (ae s) := by
 have : (ps.map fun x => cl x.2 1) = (ps.map (·.2)).map fun q => cl q 1 := by rw [List.map_map]; rfl
 rw [this, h, List.map_map, List.map_map]
 exact List.map_congr_left fun x _ => mV s x
theorem er {ps : List Nu} {row : List Int} {s : Nat} (h : ps.map (·.2) = row.map (ae s)) : ps.length = row.length := by
 have := congrArg List.length h
 simpa using this
noncomputable def vy (s : Nat) (row : List Int) : List Nu := row.map fun x => dn (ae s x)
theorem nZ (s : Nat) (row : List Int) : (vy s row).map nv = (row.map (ae s)).map D := by unfold vy; rw [List.map_map, List.map_map]; rfl
theorem fL (s : Nat) (row : List Int) : (vy s row).map (·.2) = row.map (ae s) := by unfold vy; rw [List.map_map]; rfl
theorem g8 {s : Nat} {row : List Int} (h : s ≤ 19) : ∀ x ∈ vy s row, d9 x := fun x hx => by
 obtain ⟨y, _, rfl⟩ := List.mem_map.mp hx
 exact wg (Nat.le_trans (a9 0 _ _) h)
theorem lJ {ps : List Nu} {row : List Int} {s : Nat} (h : ps.map (·.2) = row.map (ae s)) : (ps.map fun x => D (cl x.2 1)) = (vy s (row.map (bF s))).map nv := by
 rw [nZ, ← jH h, List.map_map]; rfl
theorem pw {row : List Int} {s : Nat} : (row.map (bF s)).map (bF s) = row.map (bF s) := by rw [List.map_map]; exact List.map_congr_left fun x _ => vw s x
noncomputable def tu (t : Tr) (row : List Int) (s p : Nat) : V := .tup (((lH t row s p).map (ae p)).map D)
theorem lK {p : Nat} {ev : V} {f : Fam} {row : List Int} {s : Nat} {ps : List Nu} (hp : ps.map (·.2) = row.map (ae s)) (ok : ∀ x ∈ ps, d9 x) (hl : row.length = f.ct) (h : Q (tu (.dev f) row s p) mem) : jz prog mem p ev Q R (.dev f) (ps.map nv) := by
 refine .dev ok ((er hp).trans hl) ?_
 have e := vx (p := p) (f := f) (s := s) (row := row.map (bF s)) (by rw [List.length_map, hl]) fun x hx => by
  obtain ⟨y, _, rfl⟩ := List.mem_map.mp hx; exact tq s y
 have e2 : ((lF f (ps.map fun x => cl x.2 1)).map fun q => D (pp q p)) = ((fW (row.map (bF s)) s p).map (ae p)).map D := by
  rw [← e, List.map_map, jH hp]; rfl
 rw [e2]; exact h
theorem lL {n p : Nat} {ev : V} {t : Tr} (ht : gf n t) : ∀ {row : List Int} {s : Nat} {ps : List Nu}, ps.map (·.2) = row.map (ae s) → (∀ x ∈ ps, d9 x) → s ≤ 19 → row.length = bk t → Q (tu t row s p) mem → jz prog mem p ev Q R t (ps.map nv) := by
 induction ht with
 | dev n f => exact fun hp ok _ hl h => lK hp ok (by cases f <;> exact hl) h
 | cal n b =>
  intro row s ps hp ok hs hl h
  refine .thru (.cal b) ok ((er hp).trans hl) ?_
  rw [lJ hp]
  refine lK (fL _ _) (g8 hs) (by rw [List.length_map, hl]; cases b <;> rfl) ?_
  show Q (.tup (((fW ((row.map (bF s)).map (bF s)) s p).map (ae p)).map D)) mem
  rw [pw]; exact h
 | prof n f =>
  intro row s ps hp ok hs hl h
  refine .thru (.prof f) ok ((er hp).trans hl) ?_
  rw [lJ hp]
  refine lK (fL _ _) (g8 hs) (by rw [List.length_map, hl]; cases f <;> rfl) ?_
  show Q (.tup (((fW ((row.map (bF s)).map (bF s)) s p).map (ae p)).map D)) mem
  rw [pw]; exact h
 | profB hb ih =>
  intro row s ps hp ok hs hl h
  refine .thru (.profB _) ok ((er hp).trans hl) ?_
  rw [lJ hp]
  exact ih (fL _ _) (g8 hs) hs (by rw [List.length_map]; exact hl) h
theorem iG {ns : List Str} {b : Tr} {ws : List Int} {m : Bool} : bk (.inks ns b ws m) = ns.length := List.length_map V.str
noncomputable def dK : Tr → Nat
 | .inks _ b _ _ => bk b
 | .idx b _ _ => (match b with | .inks _ c _ _ => bk c | _ => 0)
 | _ => 0
theorem tw {p : Nat} {t : Tr} (f0 : bf (cj 0).names = [an]) (ht : Bs t) {row : List Int} {s : Nat} {ps : List Nu} (hp : ps.map (·.2) = row.map (ae s)) (ok : ∀ x ∈ ps, d9 x) (hs : s ≤ 18) (hl : row.length = bk t) (h : Q (tu t row s p) mem) : jz prog mem p (.lam 0 [(an, .int (dK t))]) Q R t (ps.map nv) := by
 cases ht with
 | pln ht => exact lL ht hp ok (by lia) hl h
 | ink ht => cases ht with | @mk ns b ws m hi hb =>
  refine .ink (l := ((tK ws (bk b) ((row.map (bF s)).map (ae s))).map D)) hi rfl ok ((er hp).trans (hl.trans iG)) (fun {k Q'} hq => ?_) ?_
  ·have e : (ps.map fun x => D (cl x.2 1)) = ((row.map (bF s)).map (ae s)).map D := by rw [← jH hp, List.map_map]; rfl
   rw [e]
   refine wk (k := k + 3) f0 hi.w4 hi.w (Nat.le_trans hb.cnt_le (by decide)) (fun q hq => ?_) hq
   obtain ⟨x, _, rfl⟩ := List.mem_map.mp hq
   exact Nat.le_trans (a9 0 _ _) hs
  ·rw [JC, ← nZ]
   exact lL hb (fL _ _) (g8 (by lia)) (by lia) (by unfold vn; rw [List.length_map, List.length_range]) h
end
theorem GJ : oW 1 [be, ad, aa] x1 := ⟨by kernel_rfl, by kernel_rfl, by kernel_rfl, by kernel_rfl, fun _ _ _ _ us h => by
 obtain ⟨u0, u1, u2, rfl⟩ := jL (v0 := be) (v1 := ad) (v2 := aa) h; kernel_rfl, by kernel_rfl⟩
section
variable {prog : Program} {k : Nat} {mem : Mem} {Q : V → Mem → Prop} {R : Mem → Prop}
theorem vz (f0 : bf (cj 0).names = [an]) (f1 : bf (cj 1).names = [bz]) {ws : List Int} {c : Nat} {qs : List (Int × Nat)} {p : Nat} (hw : ws.length = 4) (hws : ∀ w ∈ ws, 0 ≤ w ∧ w < 12) (hc : c ≤ 4096) (hq : ∀ q ∈ qs, q.2 ≤ 18) (h : Q (.list (cJ ((tK ws c qs).map D) (some 1) none)) mem) :
  bA prog (k + 12) (.lam 1 [(bz, .lam 0 [(an, .int c)])]) [ft ws, .list (qs.map D), .int p] mem Q R :=
 gV (d := k + 11) GJ rfl (jG f1 (by kernel_rfl)) (wk (k := k + 2) f0 hw hws hc hq h)
theorem OW {c : Nat} (h : c ≤ 4) : c = 0 ∨ c = 1 ∨ c = 2 ∨ c = 3 ∨ c = 4 := by lia
theorem vA (f2 : bf (cj 2).names = [an]) {a b p : V} {c : Nat} (hc : c ≤ 4) (h : Q (.list (List.replicate c .none)) mem) :
  bA prog (k + 12) (.lam 2 [(an, .int c)]) [a, b, p] mem Q R := by
 refine gV (d := k + 11) GI rfl (jG f2 (by kernel_rfl)) ?_
 rcases OW hc with rfl | rfl | rfl | rfl | rfl <;> exact ⟨by decide, h⟩
end
theorem qi {α : Type} {l : List α} {n : Nat} {a b : Int} (h0 : 0 ≤ a) (h1 : a ≤ b) (h2 : b ≤ n) (h3 : n ≤ l.length) : cJ (cJ l none (some n)) (some a) (some b) = cJ l (some a) (some b) := by
 obtain ⟨A, rfl⟩ : ∃ A : Nat, a = A := ⟨a.toNat, by lia⟩
 obtain ⟨B, rfl⟩ : ∃ B : Nat, b = B := ⟨b.toNat, by lia⟩
 have e : cJ l none (some (n : Int)) = l.take n := by
  unfold cJ
  show (l.drop 0).take (clipAt l.length n - 0) = _
  rw [clipAt_nat, Nat.min_eq_left h3]; rfl
 rw [e]
 unfold cJ
 show ((l.take n).drop (clipAt _ (A : Int))).take (clipAt _ (B : Int) - clipAt _ (A : Int)) = (l.drop (clipAt _ (A : Int))).take (clipAt _ (B : Int) - clipAt _ (A : Int))
 rw [clipAt_nat, clipAt_nat, clipAt_nat, clipAt_nat, List.length_take, Nat.min_eq_left h3, Nat.min_eq_left (show A ≤ n by lia), Nat.min_eq_left (show B ≤ n by lia), Nat.min_eq_left (show A ≤ l.length by lia), Nat.min_eq_left (show B ≤ l.length by lia), List.drop_take, List.take_take, Nat.min_eq_left (by lia)]
section
variable {prog : Program} {k : Nat} {mem : Mem} {Q : V → Mem → Prop} {R : Mem → Prop}
noncomputable def tx (b : Tr) (m : Nat) (o : List UInt8) (x : Int) (p : Nat) : List Int := (cJ o (some (fV x m * bk b)) (some (fV x m * bk b + bk b))).map fun c => cw ((c.toNat : Int) * 10 ^ p) 255
theorem mY {b : Tr} {m : Nat} {o : List UInt8} {x : Int} {p : Nat} (h1 : (m + 1) * bk b ≤ o.length) : (tx b m o x p).length = bk b := by
 unfold tx
 obtain ⟨i0, i1⟩ := nU x m
 rw [List.length_map]
 refine mP o (Int.mul_nonneg i0 (by lia)) ?_
 have : fV x m * (bk b : Int) ≤ m * bk b := Int.mul_le_mul_of_nonneg_right i1 (by lia)
 have h1 : (((m + 1) * bk b : Nat) : Int) ≤ o.length := by exact_mod_cast h1
 rw [Nat.add_mul, Nat.one_mul] at h1
 push_cast at h1
 lia
theorem jI {p m : Nat} {b : Tr} {o : List UInt8} {ev : V} (hb : bk b ≤ 4) (h1 : (m + 1) * bk b ≤ o.length) {x : Int} {u : Nu} (hu : u.2 = ae 2 x) (ok : d9 u) (hp : p ≤ 18) (h : jz prog mem p ev Q R b ((vy p (tx b m o x p)).map nv)) : jz prog mem p ev Q R (.idx b m o) [nv u] := by
 refine .idx ok hb (by lia) ?_
 rw [hu, tr]
 have e : ((qd (nM (.idx b m o)) (fV x m, 0) (bk b)).map fun c => D (ov (c.toNat : Int) p)) = (vy p (tx b m o x p)).map nv := by
  unfold tx
  rw [nZ, List.map_map, List.map_map]
  have e1 : qd (nM (.idx b m o)) (fV x m, 0) (bk b) = cJ o (some (fV x m * bk b)) (some (fV x m * bk b + bk b)) := by
   obtain ⟨i0, i1⟩ := nU x m
   have ef : JQ (fV x m, 0) (bk b) = fV x m * bk b := by unfold JQ; rw [Int.pow_zero, Int.fdiv_one]
   unfold qd
   rw [ef]
   have n0 : 0 ≤ fV x m * (bk b : Int) := Int.mul_nonneg i0 (by lia)
   have n1 : fV x m * (bk b : Int) + bk b ≤ ((m : Int) + 1) * bk b := by
    rw [Int.add_mul, Int.one_mul]
    have := Int.mul_le_mul_of_nonneg_right i1 (show (0 : Int) ≤ bk b by lia)
    lia
   have := qi (l := o) (n := (m + 1) * bk b) (a := fV x m * bk b) (b := fV x m * bk b + bk b) n0 (by lia) (by push_cast; exact n1) h1
   rw [← this]
   show cJ (cJ o none (some (((m : Int) + 1) * bk b))) _ _ = _
   congr 3
  rw [e1]
  exact List.map_congr_left fun c _ => congrArg D (JB p (by lia))
 rw [e]; exact h
theorem vB {p m : Nat} {b : Tr} {o : List UInt8} (f0 : bf (cj 0).names = [an]) (hb : Bs b) (h1 : (m + 1) * bk b ≤ o.length) {x : Int} {u : Nu} (hu : u.2 = ae 2 x) (ok : d9 u) (hp : p ≤ 18) (h : Q (tu (.idx b m o) [x] 2 p) mem) : jz prog mem p (.lam 0 [(an, .int (dK b))]) Q R (.idx b m o) [nv u] :=
 jI hb.cnt_le h1 hu ok hp (tw f0 hb (fL _ _) (g8 (by lia)) (by lia) (mY h1) h)
noncomputable def NZ : V → Bool
 | .int _ => true
 | .inst _ _ => true
 | _ => false
theorem tz {v : V} {b : Bool} (h : fO v b) : fO v (NZ v) := by
 cases h with
 | int n => exact .int n
 | dec q => exact .dec q
 | none => exact .none
 | bool b => exact .bool b
theorem eR {p : Nat} {ev : V} {t : Tr} {l : List V} (hc : bk t ≤ 4) (hn : ∀ v ∈ l, ∃ b, fO v b) (hb : l.length ≠ bk t ∨ ∃ v ∈ l, NZ v = false) (h : R mem) : jz prog mem p ev Q R t l := by
 have e : l = (l.map fun v => (v, NZ v)).map (·.1) := by rw [List.map_map]; exact (List.map_id l).symm
 rw [e]
 refine .bad hc (fun z hz => ?_) ?_ h
 ·obtain ⟨v, hv, rfl⟩ := List.mem_map.mp hz
  obtain ⟨b, hb⟩ := hn v hv
  exact tz hb
 ·rw [List.length_map]
  exact hb.imp id fun ⟨v, hv, q⟩ => ⟨_, List.mem_map_of_mem hv, q⟩
theorem GK {ps : List Nu} (ok : ∀ x ∈ ps, d9 x) : ∀ v ∈ ps.map nv, ∃ b, fO v b := fun v hv => by
 obtain ⟨x, hx, rfl⟩ := List.mem_map.mp hv
 have := (ok x hx).n
 show ∃ b, fO x.1 b
 generalize x.1 = w at this ⊢
 generalize x.2 = q at this
 cases this with
 | int n => exact ⟨_, .int n⟩
 | dec q => exact ⟨_, .dec q⟩
theorem vC {α : Type} (l : List α) : cJ l (some 1) none = l.drop 1 := by
 unfold cJ
 show (l.drop (clipAt l.length ((1 : Nat) : Int))).take (l.length - clipAt l.length ((1 : Nat) : Int)) = _
 rw [clipAt_nat]
 cases l with
 | nil => rfl
 | cons x l =>
  rw [show min 1 (x :: l).length = 1 by rw [List.length_cons]; lia]
  exact List.take_of_length_le (by simp)
inductive Bd (c : Nat) : V → Prop
 | none : Bd c .none
 | short : Bd c (.lam 1 [(bz, .lam 0 [(an, .int c)])])
 | wrong : Bd c (.lam 2 [(an, .int c)])
theorem ii {p : Nat} {ev : V} {ns : List Str} {b : Tr} {ws : List Int} {m : Bool} (f0 : bf (cj 0).names = [an]) (f1 : bf (cj 1).names = [bz]) (f2 : bf (cj 2).names = [an]) (hi : jr ns ws m) (hb : gf 1 b) (he : Bd (bk b) ev) {row : List Int} {s : Nat} {ps : List Nu}
  (hp : ps.map (·.2) = row.map (ae s)) (ok : ∀ x ∈ ps, d9 x) (hs : s ≤ 18) (hl : ps.length = ns.length) (h : R mem) : jz prog mem p ev Q R (.inks ns b ws m) (ps.map nv) := by
 have e : (ps.map fun x => D (cl x.2 1)) = ((row.map (bF s)).map (ae s)).map D := by rw [← jH hp, List.map_map]; rfl
 have c4 := hb.cnt_le
 have c1 : 1 ≤ bk b := by rcases hb.cnt_of with h | h | h <;> lia
 have hq : ∀ q ∈ (row.map (bF s)).map (ae s), q.2 ≤ 18 := fun q hq => by
  obtain ⟨x, _, rfl⟩ := List.mem_map.mp hq
  exact Nat.le_trans (a9 0 _ _) hs
 cases he with
 | none => exact .noev hi rfl ok hl h
 | short =>
  refine .ink (l := cJ ((tK ws (bk b) ((row.map (bF s)).map (ae s))).map D) (some 1) .none) hi rfl ok hl (fun {k Q'} hq' => by rw [e]; exact vz f0 f1 hi.w4 hi.w (by lia) hq hq') (eR c4 (fun v hv => ?_) (.inl ?_) h)
  ·rw [vC] at hv
   obtain ⟨q, _, rfl⟩ := List.mem_map.mp (List.mem_of_mem_drop hv)
   exact ⟨_, .dec q⟩
  ·rw [vC, List.length_drop, List.length_map]
   unfold tK
   rw [List.length_map, List.length_range]
   lia
 | wrong =>
  refine .ink (l := List.replicate (bk b) .none) hi rfl ok hl (fun {k Q'} hq' => vA f2 c4 hq') (eR c4 (fun v hv => ?_) (.inr ⟨.none, ?_, rfl⟩) h)
  ·rw [List.eq_of_mem_replicate hv]; exact ⟨_, .none⟩
  ·exact List.mem_replicate.mpr ⟨by lia, rfl⟩
end
section
variable {prog : Program} {k : Nat} {mem : Mem} {Q : V → Mem → Prop} {R : Mem → Prop}
theorem qj {xs : List Int} (hx : xs.length ≤ 63) (h : ∀ pa, mem.lookup pa = none → Q (.mut pa) ((pa, .list [.list (xs.map .int), .int (0 : Nat), .int (0 : Nat)]) :: mem)) : bA prog (k + 3) (.ref 631) [.list (xs.map .int)] mem Q R := by
 refine cf Ng Nf ?_
 have e : cJ (xs.map V.int) none (some 63) = xs.map .int := by
  unfold cJ
  show ((xs.map V.int).drop 0).take (clipAt (xs.map V.int).length ((63 : Nat) : Int) - 0) = _
  rw [clipAt_nat, List.drop_zero, Nat.sub_zero]
  exact List.take_of_length_le (by rw [List.length_map]; lia)
 have go : dD (fun σ K => vc prog (k + 2) (.call (.gv (.typ .int)) (.cons (.loc cT) .nil)) dP σ fun y σ'' => K (some y) σ'') cT (cJ (xs.map V.int) none (some 63)) ⟨[], mem⟩ (fun ys m => ∀ pa, m.lookup pa = none → Q (.mut pa) ((pa, .list [.list ys, .int (0 : Nat), .int (0 : Nat)]) :: m)) := by
  rw [e]
  exact bl (α := Int) (g := .int) (f := .int) (fun x _ K hK => hK) h
 exact go
end
theorem gf.wfo {n : Nat} {t : Tr} (h : gf n t) : m9 t := by
 induction h with
 | dev n f => exact .dev f
 | cal n b => exact .cal b
 | prof n f => exact .prof f
 | profB _ ih => exact .profB ih
theorem Bs.wfo {t : Tr} (h : Bs t) : m9 t := by
 cases h with
 | pln h => exact h.wfo
 | ink h => cases h with | mk hi hb => exact .inks hb.wfo hi
theorem Rd.wfo {t : Tr} (h : Rd t) : m9 t := by
 cases h with
 | bs h => exact h.wfo
 | pl2 h => exact h.wfo
 | idx hb => exact .idx hb.wfo
theorem gf.wft {n : Nat} {t : Tr} (h : gf n t) : qe t := by
 induction h with
 | dev n f => exact .dev f
 | cal n b => exact .cal b
 | prof n f => exact .prof f
 | profB _ ih => exact .profB ih
theorem Bs.wft {t : Tr} (h : Bs t) : qe t := by
 cases h with
 | pln h => exact h.wft
 | ink h => cases h with | mk hi hb => exact .inks hb.wft
theorem Rd.wft {t : Tr} (h : Rd t) : qe t := by
 cases h with
 | bs h => exact h.wft
 | pl2 h => exact h.wft
 | idx hb _ h1 _ => exact .idx hb.wft h1
noncomputable abbrev mm (x : M) (xs : List Int) (pa ta : Addr) (g : G) : Mem := Mm pa ta ⟨xs, [(745, x)]⟩ g
theorem pz {x : M} {xs : List Int} {pa ta : Addr} {g : G} (hp : pa ≠ 745) (ht : ta ≠ 745) : (mm x xs pa ta g).lookup 745 = some x := by
 show List.lookup 745 ((ta, _) :: (pa, _) :: [(745, x)]) = _
 rw [List.lookup_cons, beq_eq_false_iff_ne.mpr (Ne.symm ht)]
 show List.lookup 745 ((pa, _) :: [(745, x)]) = _
 rw [List.lookup_cons, beq_eq_false_iff_ne.mpr (Ne.symm hp)]
 exact bp ..
theorem n5 {x y : M} {xs : List Int} {pa ta : Addr} {g : G} (hp : pa ≠ 745) (ht : ta ≠ 745) : put 745 y (mm x xs pa ta g) = mm y xs pa ta g := by
 show (if (745 == ta) = true then _ else (ta, _) :: (if (745 == pa) = true then _ else (pa, _) :: put 745 y [(745, x)])) = _
 rw [beq_eq_false_iff_ne.mpr (Ne.symm ht), beq_eq_false_iff_ne.mpr (Ne.symm hp), if_neg (by decide), if_neg (by decide), bS]; rfl
noncomputable def qk (xs : List Int) (pa ta : Addr) (t : Tr) : List (Str × V) := [(n_script, .list (xs.map .int)), (ah, .mut pa), (ar, fk ta), (am, ib t), (ay, mL t), (c7, ib (inner t)), (an, .int (dK t))]
section
variable {prog : Program} {xs : List Int} {pa ta : Addr}
theorem jJ (hne : pa ≠ ta) (hp : pa ≠ 745) (hta : ta ≠ 745) {t : Tr} (ht : Rd t) {a b : Nat} (ha : a ≤ 50)
  (two : ∀ g cv p0, g.spot ≤ 200 → cv = V.int (dK t) → bH prog 98 sL2 dP ⟨put bz (ji cv) (qk xs pa ta t), mm (.raw (tabObj p0)) xs pa ta g⟩ (pZ prog cv p0.toList) LQr) :
  bH prog 98 NS dP ⟨[(n_script, .list (xs.map .int)), (ah, .mut pa), (ar, fk ta), (am, ib t)], mm (.raw (tabObj ([] : List Value).toArray)) xs pa ta ⟨[], a, b⟩⟩ (p6 prog) LQr := by
 have h3 := ht.ht_le
 refine (di (cells := ⟨xs, iu⟩) hne t (k := 80) (pre := []) (g := ⟨[], a, b⟩) ht.wfo ⟨rfl, rfl⟩ ⟨by unfold m8; simp; lia, by unfold m8; simp; lia⟩ fun v g' hg hl => ?_).up (by lia)
 have sp : g'.spot ≤ 200 := by have := hg.sp; unfold m8 at this; simp at this; lia
 refine nO (k := 76) (Oe prog) ht (kE g') hl ?_
 refine mO (k := 95) ?_
 have fin : p6 prog ⟨qk xs pa ta t, mm (.raw (tabObj ([] : List Value).toArray)) xs pa ta g'⟩ := by
  refine ⟨.int (dK t), rfl, pz hp hta, fun p0 => ?_⟩
  have := two g' (.int (dK t)) p0.toArray sp rfl
  rw [show put 745 (M.raw (tabObj p0.toArray)) (mm (.raw (tabObj ([] : List Value).toArray)) xs pa ta g') = mm (.raw (tabObj p0.toArray)) xs pa ta g' from n5 hp hta]
  exact this
 cases ht with
 | bs h => cases h with
  | pln h => cases h <;> exact fin
  | ink h => cases h with | mk hi hb => exact b0 (k := 94) fin
 | pl2 h => cases h <;> exact fin
 | @idx b m o hb => cases hb with
  | pln h => cases h <;> exact fin
  | ink h => cases h with | mk hi hb => exact b0 (k := 94) fin
end
section
variable {prog : Program} {xs : List Int}
theorem tA {a : Addr} {m : Mem} {x : M} (h : (m ++ [(745, x)]).lookup a = none) : a ≠ 745 := fun e => by
 subst e
 rw [List.lookup_append] at h
 cases q : m.lookup 745 with
 | some y => rw [q] at h; cases h
 | none => rw [q, bp] at h; cases h
theorem vD (hx : xs.length ≤ 63)
  (two : ∀ pa ta t g cv p0, pa ≠ ta → pa ≠ 745 → ta ≠ 745 → Rd t → g.spot ≤ 200 → cv = V.int (dK t) → bH prog 98 sL2 dP ⟨put bz (ji cv) (qk xs pa ta t), mm (.raw (tabObj p0)) xs pa ta g⟩ (pZ prog cv p0.toList) LQr) :
  bH prog 98 sL1 dP ⟨[(n_script, .list (xs.map .int))], iu⟩ (p6 prog) LQr := by
 refine qj (k := 95) hx fun pa hpa => ?_
 refine vd (k := 94) fun ta hta => ?_
 have hp := tA (m := []) hpa
 have ht5 := tA (m := [(pa, _)]) hta
 have hne : pa ≠ ta := fun e => by
  rw [e, bp] at hta; cases hta
 refine mI (k := 90) (cells := ⟨xs, iu⟩) (g := ⟨[], 0, 0⟩) hne (by decide) fun t a b ht ha => ?_
 have ha : a ≤ 50 := by simpa using ha
 have pat : LQr (.bool true) ⟨[(n_script, .list (xs.map .int)), (ah, .mut pa), (ar, fk ta), (am, ib t), (cW, mL .pat)], mm (.raw (tabObj ([] : List Value).toArray)) xs pa ta ⟨[], a, b⟩⟩ := ⟨rfl, _, pz hp ht5⟩
 cases ht with
 | pat =>
  refine cV (k := 94) ?_
  refine fw (k := 89) (kE _) ?_
  refine bG (k := 83) (t := .pat) (nums := []) (.pat ?_)
  refine bG (k := 83) (t := .pat) (nums := [.int 1]) (eR (by decide) (fun v hv => ⟨true, by rw [List.mem_singleton.mp hv]; exact .int 1⟩) (.inl (by decide)) ?_)
  exact pat
 | patB hb =>
  refine cV (k := 94) ?_
  refine fw (k := 89) (kE _) ?_
  refine bG (k := 83) (t := .pat) (nums := []) (.pat ?_)
  refine bG (k := 83) (t := .pat) (nums := [.int 1]) (eR (by decide) (fun v hv => ⟨true, by rw [List.mem_singleton.mp hv]; exact .int 1⟩) (.inl (by decide)) ?_)
  exact pat
 | pln h =>
  have r := jJ (prog := prog) (xs := xs) (a := a) (b := b) hne hp ht5 (.pl2 h) ha fun g cv p0 h1 h2 => two pa ta _ g cv p0 hne hp ht5 (.pl2 h) h1 h2
  cases h <;> exact r
 | ink h =>
  have r := jJ (prog := prog) (xs := xs) (a := a) (b := b) hne hp ht5 (.bs (.ink h)) ha fun g cv p0 h1 h2 => two pa ta _ g cv p0 hne hp ht5 (.bs (.ink h)) h1 h2
  cases h; exact r
 | idx hb hm h1 h2 =>
  exact jJ (prog := prog) (xs := xs) (a := a) (b := b) hne hp ht5 (.idx hb hm h1 h2) ha fun g cv p0 h3 h4 => two pa ta _ g cv p0 hne hp ht5 (.idx hb hm h1 h2) h3 h4
end
noncomputable def prV (q : Int × Nat) : V := .tup [.int q.1, .int q.2]
noncomputable def N0 (q : Int × Nat) : PyData := .tuple [.int q.1, .int q.2]
theorem tB {l : List (Int × Nat)} {σ : St} {Q : Bool → Prop} (h : Q true) : LG (.list (l.map prV)) (.list (l.map prV)) σ Q := by
 have e : iq (.list (l.map prV)) = some (.list (l.map N0)) := kZ (fq prV N0 (fun _ => rfl) l)
 have s : SeqAt.shaped (.list (l.map N0)) = true := fo fun d hd => by
  obtain ⟨q, _, rfl⟩ := List.mem_map.mp hd
  exact ⟨rfl, by show PyData.depth (.tuple [.int q.1, .int q.2]) ≤ 3; simp [PyData.depth, PyData.depthAll]⟩
 refine ⟨_, _, e, e, s, s, ?_⟩
 rw [SeqAt.eqv_refl _ (Bool.and_eq_true_iff.mp s).1]; exact h
theorem Rd.lv_le {t : Tr} (h : Rd t) : lv t ≤ 4 := by
 have pl : ∀ {n t}, gf n t → lv t ≤ n + 1 := fun {n t} h => by
  induction h with
  | dev n f => exact Nat.zero_le _
  | cal n b => exact Nat.le_add_left 1 n
  | prof n f => exact Nat.le_add_left 1 n
  | profB _ ih => exact Nat.succ_le_succ ih
 have bs : ∀ {t}, Bs t → lv t ≤ 3 := fun {t} h => by
  cases h with
  | pln h => have := pl h; lia
  | ink h => cases h with | mk hi hb => have := pl hb; show _ + 1 ≤ 3; lia
 cases h with
 | bs h => have := bs h; lia
 | pl2 h => have := pl h; lia
 | idx hb => have := bs hb; show _ + 1 ≤ 4; lia
theorem Rd.cnt_le {t : Tr} (h : Rd t) : bk t ≤ 4 := by
 cases h with
 | bs h => exact h.cnt_le
 | pl2 h => exact h.cnt_le
 | idx => show 1 ≤ 4; decide
theorem Rd.cnt_pos {t : Tr} (h : Rd t) : 1 ≤ bk t := by
 have pl : ∀ {n t}, gf n t → 1 ≤ bk t := fun h => by rcases h.cnt_of with e | e | e <;> lia
 cases h with
 | bs h => cases h with
  | pln h => exact pl h
  | ink h => cases h with | mk hi hb => rw [iG]; exact hi.pos
 | pl2 h => exact pl h
 | idx => show 1 ≤ 1; decide
section
variable {prog : Program} {k : Nat} {mem : Mem} {Q : V → Mem → Prop} {R : Mem → Prop}
theorem GL {p : Nat} {t : Tr} (ht : Rd t) (hp : p ≤ 18) {row : List Int} {ps : List Nu} (hs : ps.map (·.2) = row.map (ae 2)) (ok : ∀ x ∈ ps, d9 x) (hl : row.length = bk t) (h : Q (tu t row 2 p) mem) : jz prog mem p (ji (.int (dK t))) Q R t (ps.map nv) := by
 cases ht with
 | bs hb => exact tw gD hb hs ok (by decide) hl h
 | pl2 hb => exact lL hb hs ok (by decide) hl h
 | @idx b m o hb hm h1 h2 =>
  obtain ⟨x, rfl⟩ := gU (v0 := ()) hl
  obtain ⟨u, rfl⟩ := gU (er hs)
  ·have hu : u.2 = ae 2 x := (List.cons.inj hs).1
   have e : dK (.idx b m o) = dK b := by
    cases hb with
    | pln h => cases h <;> rfl
    | ink h => cases h; rfl
   rw [e]
   exact vB gD hb h1 hu (ok u (.head _)) hp h
end
structure wl (t : Tr) (tops : List Int) (ps : List Nu) : Prop where
 len : tops.length = bk t
 eq : ps.map (·.2) = tops.map (ae 2)
 ok : ∀ x ∈ ps, d9 x
noncomputable def JT (x : M) (xs : List Int) (pa ta : Addr) (g : G) (acc : List V) (m : Mem) : Prop := ∃ (l : List Int) (a b : Nat), acc = l.map .int ∧ a ≤ g.spot + 3 * acc.length ∧ m = mm x xs pa ta ⟨g.vs, a, b⟩
noncomputable def N1 (x : M) (xs : List Int) (pa ta : Addr) (g : G) (tops : List Int) (acc : List V) (m : Mem) : Prop := ∃ (ps : List Nu) (a b : Nat), acc = ps.map nv ∧ ps.map (·.2) = (tops.take acc.length).map (ae 2) ∧ (∀ x ∈ ps, d9 x) ∧ a ≤ g.spot + acc.length ∧ m = mm x xs pa ta ⟨g.vs, a, b⟩
section
variable {prog : Program} {xs : List Int} {pa ta : Addr}
theorem ql (hne : pa ≠ ta) {x : M} {t : Tr} (ht : Rd t) {g : G} (hg : g.spot ≤ 1000) {R : St → Prop} {loc : List (Str × V)} {K : V → St → Prop} (l1 : loc.lookup am = some (ib t)) (l2 : loc.lookup ah = some (.mut pa))
  (h : ∀ (tops : List Int) (g' : G), tops.length = bk t → g'.spot ≤ g.spot + 12 → K (iL tops) ⟨loc, mm x xs pa ta g'⟩) :
  vc prog 98 (.comp [ah] a8 (.sub (.lst (.cons (.call (.gv (.ref 638)) (.cons (.loc ah) (.cons (.int (101)) .nil))) (.cons (.bin .Sub (.call (.gv (.ref 638)) (.cons (.loc ah) (.cons (.int (900)) .nil))) (.int (200))) .nil))) (.call (.gv (.ref 638)) (.cons (.loc ah) (.cons (.int (2)) .nil)))) (.call (.gv (.typ .range)) (.cons (.call (.gv (.ref 659)) (.cons (.loc am) .nil)) .nil)) .nil) R ⟨loc, mm x xs pa ta g⟩ K := by
 have c4 := ht.cnt_le
 refine ag l1 ?_
 refine b0 (k := 94) ?_
 refine ag (gY rfl (by lia)) ?_
 have hp : Hd pa ta [] := ⟨rfl, rfl⟩
 have fl : (dg [ah] loc).lookup ah = some (.mut pa) := by
  unfold dg
  rw [cP (f := fun n => [ah].contains n), if_pos (by decide +kernel)]; exact l2
 refine dQ (loc := dg [ah] loc) (J := JT x xs pa ta g) (fun y acc m K' hN hJ hK => ?_) (.inl rfl) (acc := []) (List.drop_zero ..) ⟨[], g.spot, g.carry, rfl, Nat.le_refl _, rfl⟩ fun bs m' hb hJ => ?_
 ·obtain ⟨l, a, b, rfl, ha, rfl⟩ := hJ
  have hlen : (l.map V.int).length < bk t := by
   have := (List.getElem?_eq_some_iff.mp hN).1
   rwa [gK] at this
  have l3 : (put a8 y (dg [ah] loc)).lookup ah = some (.mut pa) := by
   rw [aK, if_neg (by decide +kernel)]; exact fl
  refine ag l3 ?_
  refine bx hne hp (pre := []) (g := ⟨g.vs, a, b⟩) (many := 101) (by decide) (by decide) (by show a < _; lia) fun q1 a1 b1 hq1 ha1 => ?_
  have ha1 : a1 ≤ a + 1 := ha1
  refine ag l3 ?_
  refine bx hne hp (pre := []) (g := ⟨g.vs, a1, b1⟩) (many := 900) (by decide) (by decide) (by show a1 < _; lia) fun q2 a2 b2 hq2 ha2 => ?_
  have ha2 : a2 ≤ a1 + 1 := ha2
  refine ag l3 ?_
  refine bx hne hp (pre := []) (g := ⟨g.vs, a2, b2⟩) (many := 2) (by decide) (by decide) (by show a2 < _; lia) fun r a3 b3 hr ha3 => ?_
  have ha3 : a3 ≤ a2 + 1 := ha3
  have fin : ∀ z : Int, JT x xs pa ta g (l.map V.int ++ [.int z]) (mm x xs pa ta ⟨g.vs, a3, b3⟩) := fun z => ⟨l ++ [z], a3, b3, by rw [List.map_append]; rfl, by rw [List.length_append]; show a3 ≤ g.spot + 3 * (_ + 1); lia, rfl⟩
  match r, hr with
  | 0, _ => exact hK _ _ (fin _)
  | 1, _ => exact hK _ _ (fin _)
 ·obtain ⟨l, a, b, e1, ha, rfl⟩ := hJ
  rw [List.nil_append] at e1 ha
  subst e1
  rw [gK, List.length_map] at hb
  exact h l ⟨g.vs, a, b⟩ hb (by rw [List.length_map, hb] at ha; show a ≤ _; lia)
end
theorem n6 {x : Int} (h : x.fmod 100 = 0) : ae 2 x = (x.fdiv 100, 0) := by
 have : x = x.fdiv 100 * 10 ^ (2 - 0) := by
  have := Int.mul_fdiv_add_fmod x 100
  rw [h] at this
  show x = x.fdiv 100 * 100
  lia
 rw [d6 (M := 0) (Nat.zero_le _) this]; rfl
section
variable {prog : Program} {xs : List Int} {pa ta : Addr}
theorem qm (hne : pa ≠ ta) {x : M} {t : Tr} (ht : Rd t) {g : G} (hg : g.spot ≤ 1000) {R : St → Prop} {loc : List (Str × V)} {K : V → St → Prop} {tops : List Int} (hl : tops.length = bk t) (l1 : loc.lookup bo = some (iL tops)) (l2 : loc.lookup ah = some (.mut pa))
  (h : ∀ (ps : List Nu) (g' : G), wl t tops ps → g'.spot ≤ g.spot + 4 → K (.list (ps.map nv)) ⟨loc, mm x xs pa ta g'⟩) :
  vc prog 98 (.comp [ah] aD (.ite (.andd (.cons (.cmp .Eq (.bin .Mod (.loc aD) (.int (100))) (.int (0))) (.cons (.cmp .Eq (.call (.gv (.ref 638)) (.cons (.loc ah) (.cons (.int (2)) .nil))) (.int (0))) .nil))) (.bin .FloorDiv (.loc aD) (.int (100))) (.call (.gv (.ref 155)) (.cons (.loc aD) (.cons (.int (2)) .nil)))) (.loc bo) .nil) R ⟨loc, mm x xs pa ta g⟩ K := by
 have c4 := ht.cnt_le
 refine ag l1 ?_
 have hp : Hd pa ta [] := ⟨rfl, rfl⟩
 have fl : (dg [ah] loc).lookup ah = some (.mut pa) := by
  unfold dg
  rw [cP (f := fun n => [ah].contains n), if_pos (by decide +kernel)]; exact l2
 refine dQ (loc := dg [ah] loc) (J := N1 x xs pa ta g tops) (fun y acc m K' hN hJ hK => ?_) (.inl rfl) (acc := []) (List.drop_zero ..) ⟨[], g.spot, g.carry, rfl, by rw [List.length_nil, List.take_zero]; rfl, fun _ h => absurd h List.not_mem_nil, Nat.le_refl _, rfl⟩ fun bs m' hb hJ => ?_
 ·obtain ⟨ps, a, b, rfl, he, hok, ha, rfl⟩ := hJ
  obtain ⟨hlen, hy⟩ := List.getElem?_eq_some_iff.mp hN
  rw [List.length_map (as := tops)] at hlen
  rw [List.getElem?_map, List.getElem?_eq_getElem hlen] at hN
  cases hN
  have l3 : ∀ y : V, (put aD y (dg [ah] loc)).lookup ah = some (.mut pa) := fun y => by
   rw [aK, if_neg (by decide +kernel)]; exact fl
  have l4 : ∀ y : V, (put aD y (dg [ah] loc)).lookup aD = some y := fun y => by
   rw [aK, if_pos (beq_self_eq_true _)]
  have fin : ∀ (u : Nu) (a' b' : Nat), u.2 = ae 2 tops[(ps.map nv).length] → d9 u → a' ≤ a + 1 → N1 x xs pa ta g tops (ps.map nv ++ [nv u]) (mm x xs pa ta ⟨g.vs, a', b'⟩) := fun u a' b' hu ok ha' => by
   refine ⟨ps ++ [u], a', b', by rw [List.map_append]; rfl, ?_, fun z hz => ?_, by rw [List.length_append]; show a' ≤ g.spot + (_ + 1); lia, rfl⟩
   ·rw [List.map_append, he, List.length_append, show (ps.map nv).length + [nv u].length = (ps.map nv).length + 1 from rfl, List.take_add_one, List.getElem?_eq_getElem hlen, List.map_append, List.map_cons, hu]; rfl
   ·rcases List.mem_append.mp hz with hz | hz
    ·exact hok z hz
    ·rw [List.mem_singleton.mp hz]; exact ok
  generalize tops[(ps.map nv).length] = z at fin hK ⊢
  have dec : ∀ {m' : Mem}, N1 x xs pa ta g tops (ps.map nv ++ [D (ae 2 z)]) m' → vc prog 98 (.call (.gv (.ref 155)) (.cons (.loc aD) (.cons (.int (2)) .nil))) dP ⟨put aD (.int z) (dg [ah] loc), m'⟩ fun y σ'' => K' (some y) σ'' := fun hJ' => by
   refine ag (l4 _) ?_
   refine eB (k := 94) (p := 2) (n := 2) rfl ?_
   exact hK _ _ hJ'
  have nuD : d9 (dn (ae 2 z)) := wg (Nat.le_trans (a9 0 _ _) (by decide))
  refine ag (l4 _) ?_
  refine And.intro (by decide) ?_
  by_cases h0 : z.fmod 100 = 0
  ·refine dj (by rw [h0]; rfl) ?_
   refine ag (l3 _) ?_
   refine bx hne hp (pre := []) (g := ⟨g.vs, a, b⟩) (many := 2) (by decide) (by decide) (by rw [hl] at hlen; show a < _; lia) fun r a1 b1 hr ha1 => ?_
   have ha1 : a1 ≤ a + 1 := ha1
   match r, hr with
   | 0, _ =>
    refine ag (l4 _) ?_
    refine And.intro (jl (by decide) (by decide)) ?_
    exact hK _ _ (fin (.int (z.fdiv 100), (z.fdiv 100, 0)) a1 b1 (n6 h0).symm ⟨.int _, Nat.zero_le _⟩ ha1)
   | 1, _ => exact dec (fin (dn (ae 2 z)) a1 b1 rfl nuD ha1)
  ·refine bn (by simpa using h0) ?_
   exact dec (fin (dn (ae 2 z)) a b rfl nuD (Nat.le_succ _))
 ·obtain ⟨ps, a, b, e1, he, hok, ha, rfl⟩ := hJ
  rw [List.nil_append] at e1 he ha
  subst e1
  rw [List.length_map] at hb
  rw [List.length_map, hb, List.length_map, List.take_length] at he
  exact h ps ⟨g.vs, a, b⟩ ⟨hl, he, hok⟩ (by rw [List.length_map, hb, List.length_map, hl] at ha; show a ≤ _; lia)
end
structure LL (loc : List (Str × V)) (pa : Addr) (t : Tr) (p : Nat) : Prop where
 pen : loc.lookup ah = some (.mut pa)
 tree : loc.lookup am = some (ib t)
 space : loc.lookup ay = some (mL t)
 inner : loc.lookup c7 = some (ib (inner t))
 ask : loc.lookup bz = some (ji (.int (dK t)))
 places : loc.lookup aa = some (.int p)
theorem LL.put {loc : List (Str × V)} {pa : Addr} {t : Tr} {p : Nat} (h : LL loc pa t p) {y : Str} (v : V) (hy : y ∈ [c8, bo, ad, eS, du, dw]) : LL (put y v loc) pa t p := by
 have ne : ∀ y ∈ [c8, bo, ad, eS, du, dw], ∀ z ∈ [ah, am, ay, c7, bz, aa], (z == y) = false := by decide +kernel
 have k : ∀ z ∈ [ah, am, ay, c7, bz, aa], (QZ.put y v loc).lookup z = loc.lookup z := fun z hz => by rw [aK, ne y hy z hz]; rfl
 exact ⟨(k _ (by simp)).trans h.pen, (k _ (by simp)).trans h.tree, (k _ (by simp)).trans h.space, (k _ (by simp)).trans h.inner, (k _ (by simp)).trans h.ask, (k _ (by simp)).trans h.places⟩
theorem qu (y : Str) (v : V) (loc : List (Str × V)) : (put y v loc).lookup y = some v := by rw [aK, if_pos (beq_self_eq_true _)]
theorem GM {y z : Str} (v : V) {loc : List (Str × V)} {o : Option V} (h : (z == y) = false) (e : loc.lookup z = o) : (put y v loc).lookup z = o := by rw [aK, h]; exact e
section
variable {prog : Program} {xs : List Int} {pa ta : Addr}
theorem tC {x : M} {t : Tr} (ht : Rd t) {p : Nat} (hp : p ≤ 5) {g : G} {R : St → Prop} {loc : List (Str × V)} {K : V → St → Prop} {tops : List Int} {ps : List Nu} (L : LL loc pa t p) (row : wl t tops ps) (l1 : loc.lookup bo = some (iL tops)) (l2 : loc.lookup ad = some (.list (ps.map nv)))
  (h : K (.bool false) ⟨loc, mm x xs pa ta g⟩) :
  vc prog 98 (.cmp .NotEq (.comp [] af (.meth (.loc af) fX .nil) (.call (.gv (.ref 609)) (.cons (.loc ay) (.cons (.loc ad) (.cons (.loc aa) (.cons (.loc bz) .nil))))) .nil) (.comp [aa] aD (.call (.gv (.ref 724)) (.cons (.loc aD) (.cons (.loc aa) .nil))) (.call (.gv (.ref 717)) (.cons (.loc am) (.cons (.loc bo) (.cons (.int (2)) (.cons (.loc aa) .nil))))) .nil)) R ⟨loc, mm x xs pa ta g⟩ K := by
 have lv4 := ht.lv_le
 refine ag L.space ?_
 refine ag l2 ?_
 refine ag L.places ?_
 refine ag L.ask ?_
 refine wi (k := 84) (GL ht (by lia) row.eq row.ok row.len ?_) (by lia)
 refine ag (a := ((lH t tops 2 p).map (ae p)).map D) rfl ?_
 refine bl (α := Int × Nat) (g := D) (f := prV) (loc := dg [] loc) (fun q _ K' hK => ?_) ?_
 ·refine ag (qu ..) ?_
  exact sP (k := 95) hK
 ·refine ag L.tree ?_
  refine ag l1 ?_
  refine ag L.places ?_
  refine (qf ht.wft (k := 80) (row := tops) (s := 2) (p := p) ht.wfo row.len (by lia) (by lia) ?_).up (by lia)
  refine ag (a := (lH t tops 2 p).map V.int) rfl ?_
  refine bl (α := Int) (g := .int) (f := fun w => prV (ae p w)) (loc := dg [aa] loc) (fun w _ K' hK => ?_) ?_
  ·refine ag (qu ..) ?_
   refine ag (a := V.int p) (GM (y := aD) (z := aa) _ (by decide +kernel) ?_) ?_
   ·unfold dg
    rw [cP (f := fun n => [aa].contains n), if_pos (by decide +kernel)]; exact L.places
   ·exact jB (k := 95) hK
  ·have e : (lH t tops 2 p).map (fun w => prV (ae p w)) = ((lH t tops 2 p).map (ae p)).map prV := by rw [List.map_map]; rfl
   rw [e]
   exact tB (Q := fun r => K (.bool (!r)) ⟨loc, mm x xs pa ta g⟩) (σ := ⟨loc, mm x xs pa ta g⟩) h
end
noncomputable def mZ : Tr → List Int → List (Int × Nat)
 | .idx _ m _, row => [(fV (row.getD 0 0) m, 0)]
 | _, row => (row.map (bF 2)).map (ae 2)
section
variable {prog : Program} {xs : List Int} {pa ta : Addr}
theorem tD {x : M} {t : Tr} (ht : Rd t) {p : Nat} {g : G} {R : St → Prop} {loc : List (Str × V)} {K : V → St → Prop} {tops : List Int} (L : LL loc pa t p) (hl : tops.length = bk t) (l1 : loc.lookup bo = some (iL tops))
  (h : K (.list ((mZ t tops).map prV)) ⟨loc, mm x xs pa ta g⟩) :
  vc prog 98 (.ite (.cmp .Eq (.sub (.loc am) (.int (0))) (.str cH)) (.lst (.cons (.tup (.cons (.call (.gv (.ref 712)) (.cons (.loc am) (.cons (.sub (.loc bo) (.int (0))) .nil))) (.cons (.int (0)) .nil))) .nil)) (.comp [] aD (.call (.gv (.ref 724)) (.cons (.loc aD) (.cons (.int (2)) .nil))) (.call (.gv (.ref 705)) (.cons (.loc bo) (.cons (.int (2)) .nil))) .nil)) R ⟨loc, mm x xs pa ta g⟩ K := by
 have pl : (mZ t tops = (tops.map (bF 2)).map (ae 2)) → vc prog 98 (.comp [] aD (.call (.gv (.ref 724)) (.cons (.loc aD) (.cons (.int (2)) .nil))) (.call (.gv (.ref 705)) (.cons (.loc bo) (.cons (.int (2)) .nil))) .nil) R ⟨loc, mm x xs pa ta g⟩ K := fun e => by
  refine ag l1 ?_
  refine dR (k := 95) (s := 2) (by decide) ?_
  refine ag (a := (tops.map (bF 2)).map V.int) rfl ?_
  refine bl (α := Int) (g := .int) (f := fun w => prV (ae 2 w)) (loc := dg [] loc) (fun w _ K' hK => ?_) ?_
  ·refine ag (qu ..) ?_
   exact jB (k := 95) (s := 2) hK
  ·have e2 : (tops.map (bF 2)).map (fun w => prV (ae 2 w)) = ((tops.map (bF 2)).map (ae 2)).map prV := by rw [List.map_map (g := prV)]; rfl
   rw [e2, ← e]; exact h
 refine ag L.tree ?_
 cases ht with
 | bs hb => cases hb with
  | pln hb => cases hb <;> exact pl rfl
  | ink hb => cases hb; exact pl rfl
 | pl2 hb => cases hb <;> exact pl rfl
 | @idx b m o hb hm h1 h2 =>
  match tops, hl with
  | [top], _ =>
   refine ag L.tree ?_
   refine ag l1 ?_
   exact ig (k := 94) h
theorem tE {k : Nat} {mem : Mem} {Q : V → Mem → Prop} {R : Mem → Prop} {t : Tr} (ht : Rd t) {tops : List Int} {ps : List Nu} (row : wl t tops ps) (h : Q (.list ((mZ t tops).map D)) mem) : bA prog (k + 10) (.ref 603) [mL t, .list (ps.map nv)] mem Q R := by
 have hc : ps.length = bk t := (er row.eq).trans row.len
 have pl : ((tJ t).cps.toList == av.cps.toList) = false → mZ t tops = (tops.map (bF 2)).map (ae 2) → bA prog (k + 10) (.ref 603) [mL t, .list (ps.map nv)] mem Q R := fun hn e => b8 hn row.ok hc (by
  have e2 : (ps.map fun p => D (cl p.2 1)) = (mZ t tops).map D := by rw [e, ← jH row.eq, List.map_map]; rfl
  rw [e2]; exact h)
 have bs : ∀ {n t'}, gf n t' → ((tJ t').cps.toList == av.cps.toList) = false := fun {n t'} h => by
  cases h with
  | dev n f => cases f <;> decide +kernel
  | cal n b => cases b <;> decide +kernel
  | prof n f => cases f <;> decide +kernel
  | profB h => show (ca.cps.toList == _) = false; decide +kernel
 have ik : ∀ {t'}, Gn t' → ((tJ t').cps.toList == av.cps.toList) = false := fun {t'} h => by
  cases h with | @mk ns b ws m hi hb => cases m <;> (show (_ == av.cps.toList) = false) <;> first | exact (by decide +kernel : (bg.cps.toList == av.cps.toList) = false) | exact (by decide +kernel : (bc.cps.toList == av.cps.toList) = false)
 cases ht with
 | bs hb => cases hb with
  | pln hb => exact pl (bs hb) (by cases hb <;> rfl)
  | ink hb => exact pl (ik hb) (by cases hb; rfl)
 | pl2 hb => exact pl (bs hb) (by cases hb <;> rfl)
 | @idx b m o hb hm h1 h2 =>
  obtain ⟨hl, he, ok⟩ := row
  obtain ⟨x, rfl⟩ := gU (v0 := ()) hl
  obtain ⟨u, rfl⟩ := gU (v0 := ()) hc
  refine kH (ok u (.head _)) ?_
  rw [show u.2 = ae 2 x from (List.cons.inj he).1, tr]; exact h
theorem tF {x : M} {t : Tr} (ht : Rd t) {p : Nat} {g : G} {R : St → Prop} {loc : List (Str × V)} {K : V → St → Prop} {tops : List Int} {ps : List Nu} (L : LL loc pa t p) (row : wl t tops ps) (l2 : loc.lookup ad = some (.list (ps.map nv))) (l3 : loc.lookup eS = some (.list ((mZ t tops).map prV)))
  (h : K (.bool false) ⟨loc, mm x xs pa ta g⟩) :
  vc prog 98 (.cmp .NotEq (.comp [] af (.meth (.loc af) fX .nil) (.call (.gv (.ref 603)) (.cons (.loc ay) (.cons (.loc ad) .nil))) .nil) (.loc eS)) R ⟨loc, mm x xs pa ta g⟩ K := by
 refine ag L.space ?_
 refine ag l2 ?_
 refine tE (k := 88) ht row ?_
 refine ag (a := (mZ t tops).map D) rfl ?_
 refine bl (α := Int × Nat) (g := D) (f := prV) (loc := dg [] loc) (fun q _ K' hK => ?_) ?_
 ·refine ag (qu ..) ?_
  exact sP (k := 95) hK
 ·refine ag l3 ?_
  exact tB (Q := fun r => K (.bool (!r)) ⟨loc, mm x xs pa ta g⟩) (σ := ⟨loc, mm x xs pa ta g⟩) h
end
section
variable {prog : Program} {xs : List Int} {pa ta : Addr}
theorem m0 (hne : pa ≠ ta) {x : M} {t : Tr} (ht : Rd t) {p : Nat} (hp : p ≤ 5) {g : G} (hg : g.spot ≤ 900) {loc : List (Str × V)} (L : LL loc pa t p) {Qn : St → Prop} {Qr : V → St → Prop}
  (h : ∀ tops ps due g', wl t tops ps → g'.spot ≤ g.spot + 16 → Qn ⟨put eS due (put ad (.list (ps.map nv)) (put bo (iL tops) loc)), mm x xs pa ta g'⟩) : bH prog 98 v9 dP ⟨loc, mm x xs pa ta g⟩ Qn Qr := by
 refine ql (R := dP) hne ht (by lia) L.tree L.pen fun tops g1 hl h1 => ?_
 have L1 := L.put (iL tops) (y := bo) (by simp)
 refine qm (R := dP) hne ht (by lia) hl (qu ..) L1.pen fun ps g2 row h2 => ?_
 have L2 := L1.put (.list (ps.map nv)) (y := ad) (by simp)
 have k1 : (put ad (.list (ps.map nv)) (put bo (iL tops) loc)).lookup bo = some (iL tops) := GM _ (by decide +kernel) (qu ..)
 refine tC (R := dP) ht hp L2 row k1 (qu ..) ?_
 refine tD (R := dP) ht L2 hl k1 ?_
 have L3 := L2.put (.list ((mZ t tops).map prV)) (y := eS) (by simp)
 refine tF (R := dP) ht L3 row (GM _ (by decide +kernel) (qu ..)) (qu ..) ?_
 exact h tops ps _ g2 row (by lia)
theorem vE (hne : pa ≠ ta) (hp5 : pa ≠ 745) (ht5 : ta ≠ 745) {t : Tr} (ht : Rd t) {g : G} (hg : g.spot ≤ 200) {p0 : Array Value}
  (three : ∀ loc p tops ps g p2, LL loc pa t p → wl t tops ps → loc.lookup ad = some (.list (ps.map nv)) → bH prog 98 sL3 dP ⟨put dw (jk (.int (dK t))) (put du (jj (.int (dK t))) loc), mm (.raw (tabObj p2)) xs pa ta g⟩ (fun _ => False) LQr) :
  bH prog 98 sL2 dP ⟨put bz (ji (.int (dK t))) (qk xs pa ta t), mm (.raw (tabObj p0)) xs pa ta g⟩ (pZ prog (.int (dK t)) p0.toList) LQr := by
 refine bx (k := 95) hne ⟨rfl, rfl⟩ (pre := []) (cells := ⟨xs, [(745, .raw (tabObj p0))]⟩) (g := g) (many := 5) (by decide) (by decide) (by lia) fun p a b hp ha => ?_
 have L : LL (put aa (.int p) (put bz (ji (.int (dK t))) (qk xs pa ta t))) pa t p := ⟨rfl, rfl, rfl, rfl, rfl, rfl⟩
 show rW (fun σ K => bH prog 98 v9 dP σ K LQr) c8 [.int 0, .int 1] ⟨put aa (.int p) (put bz (ji (.int (dK t))) (qk xs pa ta t)), mm (.raw (tabObj p0)) xs pa ta ⟨g.vs, a, b⟩⟩ fun σ => pZ prog (.int (dK t)) p0.toList σ
 refine m0 hne ht (p := p) (by lia) (g := ⟨g.vs, a, b⟩) (by show a ≤ _; lia) (loc := put c8 (.int 0) _) (L.put _ (by simp)) fun tops ps due g1 row h1 => ?_
 have L1 := (((L.put (.int 0) (y := c8) (by simp)).put (iL tops) (y := bo) (by simp)).put (.list (ps.map nv)) (y := ad) (by simp)).put due (y := eS) (by simp)
 have h1 : g1.spot ≤ a + 16 := h1
 refine m0 hne ht (p := p) (by lia) (g := g1) (by lia) (loc := put c8 (.int 1) _) (L1.put _ (by simp)) fun tops2 ps2 due2 g2 row2 h2 => ?_
 have L2 := (((L1.put (.int 1) (y := c8) (by simp)).put (iL tops2) (y := bo) (by simp)).put (.list (ps2.map nv)) (y := ad) (by simp)).put due2 (y := eS) (by simp)
 refine ⟨pz hp5 ht5, fun p1 p2 => ?_⟩
 have := three _ p tops2 ps2 g2 p2.toArray L2 row2 (GM _ (by decide +kernel) (qu ..))
 rw [show put 745 (M.raw (tabObj p2.toArray)) (put 745 (M.raw (tabObj p1.toArray)) (mm (.raw (tabObj p0)) xs pa ta g2)) = mm (.raw (tabObj p2.toArray)) xs pa ta g2 by rw [n5 hp5 ht5, n5 hp5 ht5]]
 exact this
end
noncomputable def JD : Tr → Bool
 | .inks _ _ _ _ => true
 | .idx b _ _ => (match b with | .inks _ _ _ _ => true | _ => false)
 | _ => false
section
variable {prog : Program} {mem : Mem} {Q : V → Mem → Prop} {R : Mem → Prop}
theorem dt {p : Nat} {ev : V} {t : Tr} (ht : Rd t) (hk : JD t = true) (he : Bd (dK t) ev) (hp : p ≤ 18) {tops : List Int} {ps : List Nu} (row : wl t tops ps) (h : R mem) : jz prog mem p ev Q R t (ps.map nv) := by
 cases ht with
 | bs hb => cases hb with
  | pln hb => cases hb <;> cases hk
  | ink hb => cases hb with | mk hi hb => exact ii gD lu lw hi hb he row.eq row.ok (by decide) ((er row.eq).trans (row.len.trans iG)) h
 | pl2 hb => cases hb <;> cases hk
 | @idx b m o hb hm h1 h2 =>
  cases hb with
  | pln hb => cases hb <;> cases hk
  | ink hb => cases hb with | @mk ns b' ws m' hi hb =>
   obtain ⟨hl, he', ok⟩ := row
   obtain ⟨x, rfl⟩ := gU (v0 := ()) hl
   obtain ⟨u, rfl⟩ := gU (er he')
   ·have hu : u.2 = ae 2 x := (List.cons.inj he').1
    refine jI (Bs.cnt_le (.ink (.mk hi hb))) h1 hu (ok u (.head _)) hp ?_
    exact ii gD lu lw hi hb he (fL _ _) (g8 (by lia)) hp (by unfold vy; rw [List.length_map, mY h1, iG]) h
end
section
variable {prog : Program} {xs : List Int} {pa ta : Addr}
theorem qo (hp5 : pa ≠ 745) (ht5 : ta ≠ 745) {t : Tr} (ht : Rd t) {g : G} {p : Nat} {tops : List Int} {ps : List Nu} {loc : List (Str × V)} {p2 : Array Value} (L : LL loc pa t p) (row : wl t tops ps) (l2 : loc.lookup ad = some (.list (ps.map nv))) :
  bH prog 98 sL3 dP ⟨put dw (jk (.int (dK t))) (put du (jj (.int (dK t))) loc), mm (.raw (tabObj p2)) xs pa ta g⟩ (fun _ => False) LQr := by
 have c4 := ht.cnt_le
 have c1 := ht.cnt_pos
 have lp : ps.length = bk t := (er row.eq).trans row.len
 have hn := GK row.ok
 generalize e : put dw (jk (.int (dK t))) (put du (jj (.int (dK t))) loc) = loc2
 have L2 : LL loc2 pa t p := e ▸ (L.put _ (by simp)).put _ (by simp)
 have kn : loc2.lookup ad = some (.list (ps.map nv)) := e ▸ GM _ (by decide +kernel) (GM _ (by decide +kernel) l2)
 have ks : loc2.lookup du = some (jj (.int (dK t))) := e ▸ GM _ (by decide +kernel) (qu ..)
 have kw : loc2.lookup dw = some (jk (.int (dK t))) := e ▸ qu ..
 clear e
 have last : bH prog 98 (.seq (.ret (.andd (.cons (.call (.gv (.ref 743)) (.cons (.loc ay) (.cons (.bin .Add (.loc ad) (.lst (.cons (.int (0)) .nil))) (.cons (.loc bz) .nil)))) (.cons (.call (.gv (.ref 743)) (.cons (.loc ay) (.cons (.bin .Add (.lst (.cons (.bool true) .nil)) (.slc (.loc ad) (.int (1)) .non)) (.cons (.loc bz) .nil)))) (.cons (.call (.gv (.ref 743)) (.cons (.loc ay) (.cons (.slc (.loc ad) (.int (1)) .non) (.cons (.loc bz) .nil)))) .nil))))) .nil) dP ⟨loc2, mm (.raw (tabObj p2)) xs pa ta g⟩ (fun _ => False) LQr := by
  have hs : ∀ v ∈ cJ (ps.map nv) (some 1) none, ∃ b, fO v b := fun v hv => by rw [vC] at hv; exact hn v (List.mem_of_mem_drop hv)
  have ls : (cJ (ps.map nv) (some 1) none).length = bk t - 1 := by rw [vC, List.length_drop, List.length_map, lp]
  refine ag L2.space ?_
  refine ag kn ?_
  refine And.intro (by rw [List.length_map, lp]; unfold cap; simp; lia) ?_
  refine ag L2.ask ?_
  refine bG (k := 83) (eR c4 (fun v hv => ?_) (.inl (by rw [List.length_append, List.length_map, lp]; simp)) ?_)
  ·rcases List.mem_append.mp hv with hv | hv
   ·exact hn v hv
   ·rw [List.mem_singleton.mp hv]; exact ⟨_, .int 0⟩
  refine ag L2.space ?_
  refine ag kn ?_
  refine And.intro (by rw [ls]; unfold cap; simp; lia) ?_
  refine ag L2.ask ?_
  refine bG (k := 83) (eR c4 (fun v hv => ?_) (.inr ⟨.bool true, .head _, rfl⟩) ?_)
  ·rcases List.mem_cons.mp hv with rfl | hv
   ·exact ⟨_, .bool true⟩
   ·exact hs v hv
  refine ag L2.space ?_
  refine ag kn ?_
  refine ag L2.ask ?_
  refine bG (k := 83) (eR c4 hs (.inl (by rw [ls]; lia)) ?_)
  exact ⟨rfl, _, pz hp5 ht5⟩
 have ht' := ht
 refine ag L2.inner ?_
 cases ht with
 | bs hb => cases hb with
  | pln hb => cases hb <;> exact last
  | ink hb => cases hb with | mk hi hb =>
   refine ag L2.space ?_
   refine ag kn ?_
   refine bG (k := 83) (dt ht' rfl .none (by decide) row ?_)
   refine ag L2.space ?_
   refine ag kn ?_
   refine ag ks ?_
   refine bG (k := 83) (dt ht' rfl .short (by decide) row ?_)
   refine ag L2.space ?_
   refine ag kn ?_
   refine ag kw ?_
   refine bG (k := 83) (dt ht' rfl .wrong (by decide) row ?_)
   exact last
 | pl2 hb => cases hb <;> exact last
 | idx hb hm h1 h2 => cases hb with
  | pln hb => cases hb <;> exact last
  | ink hb => cases hb with | mk hi hb =>
   refine ag L2.space ?_
   refine ag kn ?_
   refine bG (k := 83) (dt ht' rfl .none (by decide) row ?_)
   refine ag L2.space ?_
   refine ag kn ?_
   refine ag ks ?_
   refine bG (k := 83) (dt ht' rfl .short (by decide) row ?_)
   refine ag L2.space ?_
   refine ag kn ?_
   refine ag kw ?_
   refine bG (k := 83) (dt ht' rfl .wrong (by decide) row ?_)
   exact last
end
theorem law_all : HB.L0.Holds := p7 fun xs hx => vD hx fun pa ta t g cv p0 hne hp5 ht5 ht hg e => by
 subst e
 exact vE hne hp5 ht5 ht hg fun loc p tops ps g p2 L row l2 => qo hp5 ht5 ht L row l2
end QZ
theorem PySem.Challenge.cw_qz0081_01_holds : PySem.Challenge.rw_qz0081_01.Holds :=
  QZ.law_all
