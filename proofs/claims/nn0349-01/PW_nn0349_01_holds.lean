import PyProof.Rows.All
import Wide.All
import OpenK.AllK
import Wide.FinOn
import Lean
import PySem.Challenge.RW_nn0349_01
set_option Elab.async false
namespace PyLaw.G
open PySem PySem.W PySem.Calls PyProof.Rows
set_option maxRecDepth 100000
set_option maxHeartbeats 8000000
set_option linter.unusedVariables false
abbrev pw : Program := PySem.Challenge.pw_nn0349_01
abbrev S (x : String) : Str := Str.ofString x
abbrev s (x : String) (t : Nat) : Value := .str (Str.ofString x) t
abbrev i (n t : Nat) : Value := .int (Int.ofNat n) t
abbrev r (a : Nat) : Value := .ref a
abbrev b (x : Bool) : Value := .bool x
abbrev nn : Value := .none
abbrev ty (x : String) : Value := .type x
abbrev bi (x : String) : Value := .builtin x
abbrev e (P : Params) (x : String) (t : Nat) (v : Value) : DictEntry := ⟨PyData.keyHash P (Str.ofString x), .str (Str.ofString x) t, v⟩
def tu (vs : List Value) : Obj := ⟨.type "tuple", none, .seq ⟨vs⟩ 0, #[]⟩
def fl (vs : List Value) : Obj := ⟨.none, none, .fields ⟨vs⟩, #[]⟩
def co (vs : List Value) : Obj := ⟨.type "code", none, .fields ⟨vs⟩, #[]⟩
def di (es : List DictEntry) (n : Nat) : Obj := ⟨.type "dict", none, .dict ⟨es⟩ n, #[]⟩
def nth : List Stmt → Nat → Stmt
  | [], _ => .Pass ⟨0, 0, 0, 0⟩
  | x :: l, n => match n with
    | 0 => x
    | n + 1 => nth l n
def f (n : Nat) : Stmt := nth pw.main.body n
def m (n k : Nat) : Stmt := match f n with
  | .ClassDef _ _ _ l _ _ _ _ _ _ _ => nth l k
  | x => x
def fD (x : Stmt) (q : String) (g : Nat) (dv mo cd : Value) : Data := match x with
  | .FunctionDef n a l _ _ _ sc _ _ _ => .func { name := n, qualname := Str.ofString q, params := a, body := .stmts l, scope := sc, globals := g, closure := [], defaults := dv, kwdefaults := .none, doc := .none, pyModule := mo, annotations := none, code := cd, closureTuple := .none, builtins := 0 }
  | _ => .plain
def fi (x : Stmt) (q : String) (g : Nat) (dv mo cd : Value) : Obj := ⟨.none, none, fD x q g dv mo cd, #[]⟩
def fu (x : Stmt) (q : String) (g : Nat) (dv mo cd : Value) : Obj := ⟨.type "function", none, fD x q g dv mo cd, #[]⟩
def insL : BT → Nat → List Obj → BT
  | t, _, [] => t
  | t, n, x :: l => insL (t.ins n x) (n + 1) l
def putC (P : Params) (o : Obj) : Params → Obj := fun _ => o
def ap : List DictEntry → List DictEntry → List DictEntry
  | [], l => l
  | x :: k, l => x :: ap k l
def apv : List Value → List Value → List Value
  | [], l => l
  | x :: k, l => x :: apv k l
def life0 : Life := {}
def ann0 : Option Value := some (.ref 6)
abbrev bE : List Stmt := behindTheImports pw
def env : Env := { scope := pw.main.scope, locals := mainNs, globals := mainNs, cells := [], code := .ref 13, frame := some 14 }
abbrev cE : Code := .body bE env
abbrev BB : List Frame := [topFrame ⟨0, 0, 0, 0⟩]
def sl : Nat → Nat → List Stmt → List Stmt
  | 0, n, l => (match n, l with
    | 0, _ => []
    | n + 1, x :: l => x :: sl 0 n l
    | _ + 1, [] => [])
  | k + 1, n, _ :: l => sl k n l
  | _ + 1, _, [] => []

noncomputable def os_pre : List Obj := [tu [], fl [], co [(s "<module>" 182), (s "<module>" 183), (s "/claim/cut.py" 184), (i 1 0), (i 0 0), (i 0 0), (i 0 0), (i 0 0), (r 11), (b false), (i 181 0), (r 12), nn, nn, nn, nn, (i 185 0), (i 1 0), (s "/claim/cut.py" 186)], ⟨(ty "frame"), none, .plain, #[some (r 13), some (r 3), some (r 3), none, some (s "__main__" 164), none, some (r 0)]⟩]
noncomputable def T0 (P : Params) : BT := insL BT.nil 0 ([boot_o_0 P, boot_o_1 P, boot_o_2 P, boot_o_3 P, boot_o_4 P, boot_o_5 P, boot_o_6 P, boot_o_7 P, boot_o_8 P, boot_o_9 P, boot_o_10 P] ++ os_pre)
noncomputable def Sa (w : World) (os : OsState) : Shared := ⟨⟨⟨[boot_o_0 w.params, boot_o_1 w.params, boot_o_2 w.params, boot_o_3 w.params, boot_o_4 w.params, boot_o_5 w.params, boot_o_6 w.params, boot_o_7 w.params, boot_o_8 w.params, boot_o_9 w.params, boot_o_10 w.params] ++ os_pre⟩, life0⟩, #[], {}, 187, os⟩
noncomputable def st0 (w : World) (os : OsState) : SharedT := ⟨T0 w.params, 15, life0, #[], {}, 187, os⟩
noncomputable def os1 (P : Params) : List Obj := [tu [], fl [], tu [(s "k" 190)], tu [], fi (f 0) "_wall" 0 nn nn nn, co [(s "_wall" 187), (s "_wall" 188), (s "/claim/cut.py" 189), (i 1 0), (i 1 0), (i 0 0), (i 0 0), (i 3 0), (r 15), (b true), (i 181 0), (r 16), nn, (r 17), (r 18), (r 19), (i 191 0), (i 1 0), (s "/claim/cut.py" 192)], fu (f 0) "_wall" 3 nn (s "__main__" 164) (r 20), tu [(ty "Exception")], ⟨(ty "builtin_function_or_method"), none, .fields #[(bi "type.__prepare__"), (ty "type")], #[]⟩, di [e P "__module__" 203 (s "gateloom.errors" 194), e P "__qualname__" 205 (s "GateloomError" 204), e P "__firstlineno__" 207 (i 5 206), e P "__init__" 220 (r 36), e P "__static_attributes__" 224 (r 37)] 5, tu [], fl [(i 7 0), (i 4 0), (r 35)], co [(s "GateloomError" 198), (s "GateloomError" 199), (s "/claim/cut.py" 200), (i 5 0), (i 0 0), (i 0 0), (i 0 0), (i 0 0), (r 25), (b false), (i 181 0), (r 26), nn, nn, nn, nn, (i 201 0), (i 5 0), (s "/claim/cut.py" 202)], ⟨(ty "frame"), none, .plain, #[some (r 27), some (r 3), some (r 24), none, some (s "gateloom.errors" 194), none, some (r 0)]⟩, tu [(.int (-1) 209), (s "" 210)], tu [], fl [], tu [(s "self" 214), (s "kind" 215), (s "at" 216), (s "detail" 217)], tu [], fi (m 2 0) "GateloomError.__init__" 0 nn nn nn, co [(s "__init__" 211), (s "GateloomError.__init__" 212), (s "/claim/cut.py" 213), (i 7 0), (i 4 0), (i 0 0), (i 0 0), (i 3 0), (r 30), (b true), (i 181 0), (r 31), nn, (r 32), (r 33), (r 34), (i 218 0), (i 7 0), (s "/claim/cut.py" 219)], fu (m 2 0) "GateloomError.__init__" 3 (r 29) (s "gateloom.errors" 194) (r 35), tu [(s "at" 221), (s "detail" 222), (s "kind" 223)], di [e P "__module__" 203 (s "gateloom.errors" 194), e P "__firstlineno__" 207 (i 5 206), e P "__init__" 220 (r 36), e P "__static_attributes__" 224 (r 37), e P "__weakref__" 226 (r 40), e P "__doc__" 227 nn] 3, ⟨(ty "type"), none, .cls { name := S "GateloomError", bases := [(ty "Exception")], mro := [(r 39), (ty "Exception"), (ty "BaseException"), (ty "object")], ns := 38, qualname := S "GateloomError", hasDict := true, subclasses := [], abstract := false, hasDel := false}, #[some (r 22), none, some (s "GateloomError" 196), some (s "GateloomError" 204), some (bi "Exception.__new__"), some (b true)]⟩, ⟨(ty "getset_descriptor"), none, .fields #[(s "__weakref__" 225), (r 39), (bi "ExceptionGroup.__weakref__"), nn], #[]⟩, ⟨(ty "super"), none, .fields #[(r 39), (r 39), (r 39)], #[]⟩, ⟨(ty "builtin_function_or_method"), none, .fields #[(bi "object.__init_subclass__"), (r 39)], #[]⟩]
noncomputable def ch0 (P : Params) : List DictEntry := [e P "__doc__" 166 nn, e P "__package__" 167 nn, e P "__loader__" 168 (bi "__main__.__loader__#opaque"), e P "__spec__" 169 nn, e P "__annotations__" 170 (r 6), e P "__builtins__" 171 (r 4), e P "__file__" 173 (s "/claim/cut.py" 172), e P "__cached__" 174 nn]
noncomputable def ch1 (P : Params) : List DictEntry := [e P "_wall" 193 (r 21), e P "GateloomError" 231 (r 39)]
noncomputable def d1 (P : Params) : Obj := di (e P "__name__" 165 (s "gateloom.errors" 194) :: ap (ch0 P) (ch1 P)) 11
noncomputable def vc0 : List Value := [(i 1 0), (i 0 0), (r 20), (i 5 0), (i 0 0), (r 27)]
noncomputable def g1 : Obj := ⟨.none, none, .fields ⟨vc0⟩, #[]⟩
noncomputable def T1 (P : Params) : BT := (((insL (T0 P) 15 (os1 P)).set 2 (fun _ => ⟨nn, none, .dict #[e P "type.__subclasses__.Exception.0" 228 (i 39 0), e P "type.__subclasses__.Exception.n" 229 (i 1 0)] 2, #[]⟩)).set 3 (fun _ => d1 P)).set 12 (fun _ => g1)
noncomputable def st1 (w : World) (os : OsState) : SharedT := ⟨T1 w.params, 43, life0, #[], {}, 232, os⟩
noncomputable def sl1 : List Stmt := sl 0 3 bE
noncomputable def os2 (P : Params) : List Obj := [tu [(r 39)], ⟨(ty "builtin_function_or_method"), none, .fields #[(bi "type.__prepare__"), (ty "type")], #[]⟩, di [e P "__module__" 239 (s "gateloom.errors" 194), e P "__qualname__" 241 (s "DesignError" 240), e P "__firstlineno__" 243 (i 11 242), e P "__static_attributes__" 244 (r 50)] 4, tu [], fl [], co [(s "DesignError" 234), (s "DesignError" 235), (s "/claim/cut.py" 236), (i 11 0), (i 0 0), (i 0 0), (i 0 0), (i 0 0), (r 46), (b false), (i 181 0), (r 47), nn, nn, nn, nn, (i 237 0), (i 11 0), (s "/claim/cut.py" 238)], ⟨(ty "frame"), none, .plain, #[some (r 48), some (r 3), some (r 45), none, some (s "gateloom.errors" 194), none, some (r 0)]⟩, tu [], di [e P "__module__" 239 (s "gateloom.errors" 194), e P "__firstlineno__" 243 (i 11 242), e P "__static_attributes__" 244 (r 50), e P "__doc__" 245 nn] 2, ⟨(ty "type"), none, .cls { name := S "DesignError", bases := [(r 39)], mro := [(r 52), (r 39), (ty "Exception"), (ty "BaseException"), (ty "object")], ns := 51, qualname := S "DesignError", hasDict := true, subclasses := [], abstract := false, hasDel := false}, #[some (r 43), none, some (s "DesignError" 232), some (s "DesignError" 240), some (bi "Exception.__new__"), some (b true)]⟩, ⟨(ty "super"), none, .fields #[(r 52), (r 52), (r 52)], #[]⟩, ⟨(ty "builtin_function_or_method"), none, .fields #[(bi "object.__init_subclass__"), (r 52)], #[]⟩]
noncomputable def ch2 (P : Params) : List DictEntry := [e P "DesignError" 247 (r 52)]
noncomputable def d2 (P : Params) : Obj := di (e P "__name__" 165 (s "gateloom.errors" 194) :: ap (ch0 P) (ap (ch1 P) (ch2 P))) 12
noncomputable def vc1 : List Value := [(i 11 0), (i 0 0), (r 48)]
noncomputable def g2 : Obj := ⟨.none, none, .fields ⟨apv vc0 (vc1)⟩, #[]⟩
noncomputable def T2 (P : Params) : BT := (((insL (T1 P) 43 (os2 P)).set 3 (fun _ => d2 P)).set 12 (fun _ => g2)).set 39 (fun _ => ⟨(ty "type"), none, .cls { name := S "GateloomError", bases := [(ty "Exception")], mro := [(r 39), (ty "Exception"), (ty "BaseException"), (ty "object")], ns := 38, qualname := S "GateloomError", hasDict := true, subclasses := [(r 52)], abstract := false, hasDel := false}, #[some (r 22), none, some (s "GateloomError" 196), some (s "GateloomError" 204), some (bi "Exception.__new__"), some (b true)]⟩)
noncomputable def st2 (w : World) (os : OsState) : SharedT := ⟨T2 w.params, 55, life0, #[], {}, 248, os⟩
noncomputable def sl2 : List Stmt := sl 3 1 bE
noncomputable def os3 (P : Params) : List Obj := [tu [(r 39)], ⟨(ty "builtin_function_or_method"), none, .fields #[(bi "type.__prepare__"), (ty "type")], #[]⟩, di [e P "__module__" 255 (s "gateloom.errors" 194), e P "__qualname__" 257 (s "LimitReached" 256), e P "__firstlineno__" 259 (i 13 258), e P "__static_attributes__" 260 (r 62)] 4, tu [], fl [], co [(s "LimitReached" 250), (s "LimitReached" 251), (s "/claim/cut.py" 252), (i 13 0), (i 0 0), (i 0 0), (i 0 0), (i 0 0), (r 58), (b false), (i 181 0), (r 59), nn, nn, nn, nn, (i 253 0), (i 13 0), (s "/claim/cut.py" 254)], ⟨(ty "frame"), none, .plain, #[some (r 60), some (r 3), some (r 57), none, some (s "gateloom.errors" 194), none, some (r 0)]⟩, tu [], di [e P "__module__" 255 (s "gateloom.errors" 194), e P "__firstlineno__" 259 (i 13 258), e P "__static_attributes__" 260 (r 62), e P "__doc__" 261 nn] 2, ⟨(ty "type"), none, .cls { name := S "LimitReached", bases := [(r 39)], mro := [(r 64), (r 39), (ty "Exception"), (ty "BaseException"), (ty "object")], ns := 63, qualname := S "LimitReached", hasDict := true, subclasses := [], abstract := false, hasDel := false}, #[some (r 55), none, some (s "LimitReached" 248), some (s "LimitReached" 256), some (bi "Exception.__new__"), some (b true)]⟩, ⟨(ty "super"), none, .fields #[(r 64), (r 64), (r 64)], #[]⟩, ⟨(ty "builtin_function_or_method"), none, .fields #[(bi "object.__init_subclass__"), (r 64)], #[]⟩, tu [], fl [], tu [(s "w" 269)], tu [], fi (f 6) "mask" 0 nn nn nn, co [(s "mask" 266), (s "mask" 267), (s "/claim/cut.py" 268), (i 16 0), (i 1 0), (i 0 0), (i 0 0), (i 3 0), (r 67), (b true), (i 181 0), (r 68), nn, (r 69), (r 70), (r 71), (i 270 0), (i 16 0), (s "/claim/cut.py" 271)], fu (f 6) "mask" 3 nn (s "gateloom.vec" 264) (r 72), tu [(i 0 273)], tu [], fl [], tu [(s "w" 277), (s "a" 278), (s "b" 279), (s "full" 280)], tu [], fi (f 7) "vec" 0 nn nn nn, co [(s "vec" 274), (s "vec" 275), (s "/claim/cut.py" 276), (i 18 0), (i 3 0), (i 0 0), (i 0 0), (i 3 0), (r 75), (b true), (i 181 0), (r 76), nn, (r 77), (r 78), (r 79), (i 281 0), (i 18 0), (s "/claim/cut.py" 282)], fu (f 7) "vec" 3 (r 74) (s "gateloom.vec" 264) (r 80), tu [], fl [], tu [(s "w" 287)], tu [], fi (f 8) "zeros" 0 nn nn nn, co [(s "zeros" 284), (s "zeros" 285), (s "/claim/cut.py" 286), (i 21 0), (i 1 0), (i 0 0), (i 0 0), (i 3 0), (r 82), (b true), (i 181 0), (r 83), nn, (r 84), (r 85), (r 86), (i 288 0), (i 21 0), (s "/claim/cut.py" 289)], fu (f 8) "zeros" 3 nn (s "gateloom.vec" 264) (r 87), tu [], fl [], tu [(s "w" 294), (s "full" 295)], tu [], fi (f 9) "all_x" 0 nn nn nn, co [(s "all_x" 291), (s "all_x" 292), (s "/claim/cut.py" 293), (i 23 0), (i 1 0), (i 0 0), (i 0 0), (i 3 0), (r 89), (b true), (i 181 0), (r 90), nn, (r 91), (r 92), (r 93), (i 296 0), (i 23 0), (s "/claim/cut.py" 297)], fu (f 9) "all_x" 3 nn (s "gateloom.vec" 264) (r 94), tu [], fl [], tu [(s "w" 302)], tu [], fi (f 10) "all_z" 0 nn nn nn, co [(s "all_z" 299), (s "all_z" 300), (s "/claim/cut.py" 301), (i 26 0), (i 1 0), (i 0 0), (i 0 0), (i 3 0), (r 96), (b true), (i 181 0), (r 97), nn, (r 98), (r 99), (r 100), (i 303 0), (i 26 0), (s "/claim/cut.py" 304)], fu (f 10) "all_z" 3 nn (s "gateloom.vec" 264) (r 101)]
noncomputable def ch3 (P : Params) : List DictEntry := [e P "LimitReached" 263 (r 64), e P "mask" 272 (r 73), e P "vec" 283 (r 81), e P "zeros" 290 (r 88), e P "all_x" 298 (r 95), e P "all_z" 305 (r 102)]
noncomputable def d3 (P : Params) : Obj := di (e P "__name__" 165 (s "gateloom.vec" 264) :: ap (ch0 P) (ap (ch1 P) (ap (ch2 P) (ch3 P)))) 18
noncomputable def vc2 : List Value := [(i 13 0), (i 0 0), (r 60), (i 16 0), (i 0 0), (r 72), (i 18 0), (i 0 0), (r 80), (i 21 0), (i 0 0), (r 87), (i 23 0), (i 0 0), (r 94), (i 26 0), (i 0 0), (r 101)]
noncomputable def g3 : Obj := ⟨.none, none, .fields ⟨apv vc0 (apv vc1 (vc2))⟩, #[]⟩
noncomputable def T3 (P : Params) : BT := (((insL (T2 P) 55 (os3 P)).set 3 (fun _ => d3 P)).set 12 (fun _ => g3)).set 39 (fun _ => ⟨(ty "type"), none, .cls { name := S "GateloomError", bases := [(ty "Exception")], mro := [(r 39), (ty "Exception"), (ty "BaseException"), (ty "object")], ns := 38, qualname := S "GateloomError", hasDict := true, subclasses := [(r 52), (r 64)], abstract := false, hasDel := false}, #[some (r 22), none, some (s "GateloomError" 196), some (s "GateloomError" 204), some (bi "Exception.__new__"), some (b true)]⟩)
noncomputable def st3 (w : World) (os : OsState) : SharedT := ⟨T3 w.params, 103, life0, #[], {}, 306, os⟩
noncomputable def sl3 : List Stmt := sl 4 7 bE
noncomputable def os4 (P : Params) : List Obj := [tu [], fl [], tu [(s "w" 309), (s "n" 310)], tu [], fi (f 11) "from_int" 0 nn nn nn, co [(s "from_int" 306), (s "from_int" 307), (s "/claim/cut.py" 308), (i 28 0), (i 2 0), (i 0 0), (i 0 0), (i 3 0), (r 103), (b true), (i 181 0), (r 104), nn, (r 105), (r 106), (r 107), (i 311 0), (i 28 0), (s "/claim/cut.py" 312)], fu (f 11) "from_int" 3 nn (s "gateloom.vec" 264) (r 108), tu [], fl [], tu [(s "v" 317)], tu [], fi (f 12) "is_known" 0 nn nn nn, co [(s "is_known" 314), (s "is_known" 315), (s "/claim/cut.py" 316), (i 30 0), (i 1 0), (i 0 0), (i 0 0), (i 3 0), (r 110), (b true), (i 181 0), (r 111), nn, (r 112), (r 113), (r 114), (i 318 0), (i 30 0), (s "/claim/cut.py" 319)], fu (f 12) "is_known" 3 nn (s "gateloom.vec" 264) (r 115), tu [], fl [], tu [(s "v" 324), (s "signed" 325), (s "w" 326), (s "a" 327), (s "b" 328)], tu [], fi (f 13) "to_int" 0 nn nn nn, co [(s "to_int" 321), (s "to_int" 322), (s "/claim/cut.py" 323), (i 32 0), (i 2 0), (i 0 0), (i 0 0), (i 3 0), (r 117), (b true), (i 181 0), (r 118), nn, (r 119), (r 120), (r 121), (i 329 0), (i 32 0), (s "/claim/cut.py" 330)], fu (f 13) "to_int" 3 nn (s "gateloom.vec" 264) (r 122), tu [], fl [], tu [(s "v" 335), (s "i" 336)], tu [], fi (f 14) "code" 0 nn nn nn, co [(s "code" 332), (s "code" 333), (s "/claim/cut.py" 334), (i 39 0), (i 2 0), (i 0 0), (i 0 0), (i 3 0), (r 124), (b true), (i 181 0), (r 125), nn, (r 126), (r 127), (r 128), (i 337 0), (i 39 0), (s "/claim/cut.py" 338)], fu (f 14) "code" 3 nn (s "gateloom.vec" 264) (r 129), tu [], fl [], tu [(s "v" 343), (s "lo" 344), (s "w" 345), (s "first" 346), (s "last" 347), (s "inner" 348), (s "shift" 349), (s "outside" 350), (s "a" 351), (s "b" 352)], tu [], fi (f 15) "slice_vec" 0 nn nn nn, co [(s "slice_vec" 340), (s "slice_vec" 341), (s "/claim/cut.py" 342), (i 41 0), (i 3 0), (i 0 0), (i 0 0), (i 3 0), (r 131), (b true), (i 181 0), (r 132), nn, (r 133), (r 134), (r 135), (i 353 0), (i 41 0), (s "/claim/cut.py" 354)], fu (f 15) "slice_vec" 3 nn (s "gateloom.vec" 264) (r 136), tu [], fl [], tu [(s "v" 359), (s "lo" 360), (s "part" 361), (s "first" 362), (s "last" 363), (s "inner" 364), (s "skip" 365), (s "keep" 366), (s "a" 367), (s "b" 368)], tu [], fi (f 16) "put_slice" 0 nn nn nn, co [(s "put_slice" 356), (s "put_slice" 357), (s "/claim/cut.py" 358), (i 52 0), (i 3 0), (i 0 0), (i 0 0), (i 3 0), (r 138), (b true), (i 181 0), (r 139), nn, (r 140), (r 141), (r 142), (i 369 0), (i 52 0), (s "/claim/cut.py" 370)], fu (f 16) "put_slice" 3 nn (s "gateloom.vec" 264) (r 143), tu [], fl [], tu [(s "vs" 375), (s "w" 376), (s "a" 377), (s "b" 378), (s "v" 379)], tu [], fi (f 17) "concat" 0 nn nn nn, co [(s "concat" 372), (s "concat" 373), (s "/claim/cut.py" 374), (i 63 0), (i 1 0), (i 0 0), (i 0 0), (i 3 0), (r 145), (b true), (i 181 0), (r 146), nn, (r 147), (r 148), (r 149), (i 380 0), (i 63 0), (s "/claim/cut.py" 381)], fu (f 17) "concat" 3 nn (s "gateloom.vec" 264) (r 150), tu [], fl [], tu [(s "v" 386), (s "w" 387), (s "signed" 388), (s "fill" 389), (s "top" 390), (s "a" 391), (s "b" 392)], tu [], fi (f 18) "extend" 0 nn nn nn, co [(s "extend" 383), (s "extend" 384), (s "/claim/cut.py" 385), (i 72 0), (i 3 0), (i 0 0), (i 0 0), (i 3 0), (r 152), (b true), (i 181 0), (r 153), nn, (r 154), (r 155), (r 156), (i 393 0), (i 72 0), (s "/claim/cut.py" 394)], fu (f 18) "extend" 3 nn (s "gateloom.vec" 264) (r 157), tu [], fl [], tu [(s "v" 399)], tu [], fi (f 19) "z_to_x" 0 nn nn nn, co [(s "z_to_x" 396), (s "z_to_x" 397), (s "/claim/cut.py" 398), (i 82 0), (i 1 0), (i 0 0), (i 0 0), (i 3 0), (r 159), (b true), (i 181 0), (r 160), nn, (r 161), (r 162), (r 163), (i 400 0), (i 82 0), (s "/claim/cut.py" 401)], fu (f 19) "z_to_x" 3 nn (s "gateloom.vec" 264) (r 164), tu [], fl [], tu [(s "v" 406)], tu [], fi (f 20) "truth" 0 nn nn nn, co [(s "truth" 403), (s "truth" 404), (s "/claim/cut.py" 405), (i 84 0), (i 1 0), (i 0 0), (i 0 0), (i 3 0), (r 166), (b true), (i 181 0), (r 167), nn, (r 168), (r 169), (r 170), (i 407 0), (i 84 0), (s "/claim/cut.py" 408)], fu (f 20) "truth" 3 nn (s "gateloom.vec" 264) (r 171)]
noncomputable def ch4 (P : Params) : List DictEntry := [e P "from_int" 313 (r 109), e P "is_known" 320 (r 116), e P "to_int" 331 (r 123), e P "code" 339 (r 130), e P "slice_vec" 355 (r 137), e P "put_slice" 371 (r 144), e P "concat" 382 (r 151), e P "extend" 395 (r 158), e P "z_to_x" 402 (r 165), e P "truth" 409 (r 172)]
noncomputable def d4 (P : Params) : Obj := di (e P "__name__" 165 (s "gateloom.store" 410) :: ap (ch0 P) (ap (ch1 P) (ap (ch2 P) (ap (ch3 P) (ch4 P))))) 28
noncomputable def vc3 : List Value := [(i 28 0), (i 0 0), (r 108), (i 30 0), (i 0 0), (r 115), (i 32 0), (i 0 0), (r 122), (i 39 0), (i 0 0), (r 129), (i 41 0), (i 0 0), (r 136), (i 52 0), (i 0 0), (r 143), (i 63 0), (i 0 0), (r 150), (i 72 0), (i 0 0), (r 157), (i 82 0), (i 0 0), (r 164), (i 84 0), (i 0 0), (r 171)]
noncomputable def g4 : Obj := ⟨.none, none, .fields ⟨apv vc0 (apv vc1 (apv vc2 (vc3)))⟩, #[]⟩
noncomputable def T4 (P : Params) : BT := ((insL (T3 P) 103 (os4 P)).set 3 (fun _ => d4 P)).set 12 (fun _ => g4)
noncomputable def st4 (w : World) (os : OsState) : SharedT := ⟨T4 w.params, 173, life0, #[], {}, 412, os⟩
noncomputable def sl4 : List Stmt := sl 11 11 bE
noncomputable def os5 (P : Params) : List Obj := [tu [], ⟨(ty "builtin_function_or_method"), none, .fields #[(bi "type.__prepare__"), (ty "type")], #[]⟩, di [e P "__module__" 419 (s "gateloom.store" 410), e P "__qualname__" 421 (s "Store" 420), e P "__firstlineno__" 423 (i 91 422), e P "__init__" 431 (r 186), e P "get" 441 (r 193), e P "word" 452 (r 200), e P "set_bits" 465 (r 207), e P "__static_attributes__" 470 (r 208)] 8, tu [], fl [(i 93 0), (i 4 0), (r 185), (i 99 0), (i 4 0), (r 192), (i 108 0), (i 4 0), (r 199), (i 116 0), (i 4 0), (r 206)], co [(s "Store" 414), (s "Store" 415), (s "/claim/cut.py" 416), (i 91 0), (i 0 0), (i 0 0), (i 0 0), (i 0 0), (r 176), (b false), (i 181 0), (r 177), nn, nn, nn, nn, (i 417 0), (i 91 0), (s "/claim/cut.py" 418)], ⟨(ty "frame"), none, .plain, #[some (r 178), some (r 3), some (r 175), none, some (s "gateloom.store" 410), none, some (r 0)]⟩, tu [], fl [], tu [(s "self" 427), (s "signals" 428)], tu [], fi (m 22 0) "Store.__init__" 0 nn nn nn, co [(s "__init__" 424), (s "Store.__init__" 425), (s "/claim/cut.py" 426), (i 93 0), (i 2 0), (i 0 0), (i 0 0), (i 3 0), (r 180), (b true), (i 181 0), (r 181), nn, (r 182), (r 183), (r 184), (i 429 0), (i 93 0), (s "/claim/cut.py" 430)], fu (m 22 0) "Store.__init__" 3 nn (s "gateloom.store" 410) (r 185), tu [], fl [], tu [(s "self" 435), (s "key" 436), (s "value" 437), (s "signal" 438)], tu [], fi (m 22 1) "Store.get" 0 nn nn nn, co [(s "get" 432), (s "Store.get" 433), (s "/claim/cut.py" 434), (i 99 0), (i 2 0), (i 0 0), (i 0 0), (i 3 0), (r 187), (b true), (i 181 0), (r 188), nn, (r 189), (r 190), (r 191), (i 439 0), (i 99 0), (s "/claim/cut.py" 440)], fu (m 22 1) "Store.get" 3 nn (s "gateloom.store" 410) (r 192), tu [], fl [], tu [(s "self" 445), (s "key" 446), (s "place" 447), (s "words" 448), (s "value" 449)], tu [], fi (m 22 2) "Store.word" 0 nn nn nn, co [(s "word" 442), (s "Store.word" 443), (s "/claim/cut.py" 444), (i 108 0), (i 3 0), (i 0 0), (i 0 0), (i 3 0), (r 194), (b true), (i 181 0), (r 195), nn, (r 196), (r 197), (r 198), (i 450 0), (i 108 0), (s "/claim/cut.py" 451)], fu (m 22 2) "Store.word" 3 nn (s "gateloom.store" 410) (r 199), tu [], fl [], tu [(s "self" 456), (s "key" 457), (s "place" 458), (s "lo" 459), (s "value" 460), (s "old" 461), (s "new" 462)], tu [], fi (m 22 3) "Store.set_bits" 0 nn nn nn, co [(s "set_bits" 453), (s "Store.set_bits" 454), (s "/claim/cut.py" 455), (i 116 0), (i 5 0), (i 0 0), (i 0 0), (i 3 0), (r 201), (b true), (i 181 0), (r 202), nn, (r 203), (r 204), (r 205), (i 463 0), (i 116 0), (s "/claim/cut.py" 464)], fu (m 22 3) "Store.set_bits" 3 nn (s "gateloom.store" 410) (r 206), tu [(s "memories" 466), (s "random_seed" 467), (s "signals" 468), (s "values" 469)], di [e P "__module__" 419 (s "gateloom.store" 410), e P "__firstlineno__" 423 (i 91 422), e P "__init__" 431 (r 186), e P "get" 441 (r 193), e P "word" 452 (r 200), e P "set_bits" 465 (r 207), e P "__static_attributes__" 470 (r 208), e P "__dict__" 472 (r 211), e P "__weakref__" 474 (r 212), e P "__doc__" 475 nn] 4, ⟨(ty "type"), none, .cls { name := S "Store", bases := [(ty "object")], mro := [(r 210), (ty "object")], ns := 209, qualname := S "Store", hasDict := true, subclasses := [], abstract := false, hasDel := false}, #[none, none, some (s "Store" 412), some (s "Store" 420), some (bi "object.__new__"), some (b true)]⟩, ⟨(ty "getset_descriptor"), none, .fields #[(s "__dict__" 471), (r 210), (bi "function.__dict__"), (bi "function.__dict__#set")], #[]⟩, ⟨(ty "getset_descriptor"), none, .fields #[(s "__weakref__" 473), (r 210), (bi "ExceptionGroup.__weakref__"), nn], #[]⟩, ⟨(ty "super"), none, .fields #[(r 210), (r 210), (r 210)], #[]⟩, ⟨(ty "builtin_function_or_method"), none, .fields #[(bi "object.__init_subclass__"), (r 210)], #[]⟩]
noncomputable def ch5 (P : Params) : List DictEntry := [e P "Store" 477 (r 210)]
noncomputable def d5 (P : Params) : Obj := di (e P "__name__" 165 (s "gateloom.store" 410) :: ap (ch0 P) (ap (ch1 P) (ap (ch2 P) (ap (ch3 P) (ap (ch4 P) (ch5 P)))))) 29
noncomputable def vc4 : List Value := [(i 91 0), (i 0 0), (r 178)]
noncomputable def g5 : Obj := ⟨.none, none, .fields ⟨apv vc0 (apv vc1 (apv vc2 (apv vc3 (vc4))))⟩, #[]⟩
noncomputable def T5 (P : Params) : BT := ((insL (T4 P) 173 (os5 P)).set 3 (fun _ => d5 P)).set 12 (fun _ => g5)
noncomputable def st5 (w : World) (os : OsState) : SharedT := ⟨T5 w.params, 215, life0, #[], {}, 478, os⟩
noncomputable def sl5 : List Stmt := sl 22 1 bE
noncomputable def os6 (P : Params) : List Obj := [tu [], ⟨(ty "builtin_function_or_method"), none, .fields #[(bi "type.__prepare__"), (ty "type")], #[]⟩, di [e P "__module__" 485 (s "gateloom.store" 410), e P "__qualname__" 487 (s "Context" 486), e P "__firstlineno__" 489 (i 134 488), e P "__init__" 500 (r 229), e P "call" 509 (r 236), e P "next_random" 517 (r 243), e P "time_vec" 525 (r 250), e P "__static_attributes__" 529 (r 251)] 8, tu [], fl [(i 136 0), (i 4 0), (r 228), (i 141 0), (i 4 0), (r 235), (i 144 0), (i 4 0), (r 242), (i 151 0), (i 4 0), (r 249)], co [(s "Context" 480), (s "Context" 481), (s "/claim/cut.py" 482), (i 134 0), (i 0 0), (i 0 0), (i 0 0), (i 0 0), (r 218), (b false), (i 181 0), (r 219), nn, nn, nn, nn, (i 483 0), (i 134 0), (s "/claim/cut.py" 484)], ⟨(ty "frame"), none, .plain, #[some (r 220), some (r 3), some (r 217), none, some (s "gateloom.store" 410), none, some (r 0)]⟩, tu [(i 0 490)], tu [], fl [], tu [(s "self" 494), (s "store" 495), (s "frame" 496), (s "now" 497)], tu [], fi (m 23 0) "Context.__init__" 0 nn nn nn, co [(s "__init__" 491), (s "Context.__init__" 492), (s "/claim/cut.py" 493), (i 136 0), (i 4 0), (i 0 0), (i 0 0), (i 3 0), (r 223), (b true), (i 181 0), (r 224), nn, (r 225), (r 226), (r 227), (i 498 0), (i 136 0), (s "/claim/cut.py" 499)], fu (m 23 0) "Context.__init__" 3 (r 222) (s "gateloom.store" 410) (r 228), tu [], fl [], tu [(s "self" 504), (s "number" 505), (s "args" 506)], tu [], fi (m 23 1) "Context.call" 0 nn nn nn, co [(s "call" 501), (s "Context.call" 502), (s "/claim/cut.py" 503), (i 141 0), (i 3 0), (i 0 0), (i 0 0), (i 3 0), (r 230), (b true), (i 181 0), (r 231), nn, (r 232), (r 233), (r 234), (i 507 0), (i 141 0), (s "/claim/cut.py" 508)], fu (m 23 1) "Context.call" 3 nn (s "gateloom.store" 410) (r 235), tu [], fl [], tu [(s "self" 513), (s "seed" 514)], tu [], fi (m 23 2) "Context.next_random" 0 nn nn nn, co [(s "next_random" 510), (s "Context.next_random" 511), (s "/claim/cut.py" 512), (i 144 0), (i 1 0), (i 0 0), (i 0 0), (i 3 0), (r 237), (b true), (i 181 0), (r 238), nn, (r 239), (r 240), (r 241), (i 515 0), (i 144 0), (s "/claim/cut.py" 516)], fu (m 23 2) "Context.next_random" 3 nn (s "gateloom.store" 410) (r 242), tu [], fl [], tu [(s "self" 521), (s "width" 522)], tu [], fi (m 23 3) "Context.time_vec" 0 nn nn nn, co [(s "time_vec" 518), (s "Context.time_vec" 519), (s "/claim/cut.py" 520), (i 151 0), (i 2 0), (i 0 0), (i 0 0), (i 3 0), (r 244), (b true), (i 181 0), (r 245), nn, (r 246), (r 247), (r 248), (i 523 0), (i 151 0), (s "/claim/cut.py" 524)], fu (m 23 3) "Context.time_vec" 3 nn (s "gateloom.store" 410) (r 249), tu [(s "frame" 526), (s "now" 527), (s "store" 528)], di [e P "__module__" 485 (s "gateloom.store" 410), e P "__firstlineno__" 489 (i 134 488), e P "__init__" 500 (r 229), e P "call" 509 (r 236), e P "next_random" 517 (r 243), e P "time_vec" 525 (r 250), e P "__static_attributes__" 529 (r 251), e P "__dict__" 531 (r 254), e P "__weakref__" 533 (r 255), e P "__doc__" 534 nn] 4, ⟨(ty "type"), none, .cls { name := S "Context", bases := [(ty "object")], mro := [(r 253), (ty "object")], ns := 252, qualname := S "Context", hasDict := true, subclasses := [], abstract := false, hasDel := false}, #[none, none, some (s "Context" 478), some (s "Context" 486), some (bi "object.__new__"), some (b true)]⟩, ⟨(ty "getset_descriptor"), none, .fields #[(s "__dict__" 530), (r 253), (bi "function.__dict__"), (bi "function.__dict__#set")], #[]⟩, ⟨(ty "getset_descriptor"), none, .fields #[(s "__weakref__" 532), (r 253), (bi "ExceptionGroup.__weakref__"), nn], #[]⟩, ⟨(ty "super"), none, .fields #[(r 253), (r 253), (r 253)], #[]⟩, ⟨(ty "builtin_function_or_method"), none, .fields #[(bi "object.__init_subclass__"), (r 253)], #[]⟩, tu [], fl [], tu [(s "u" 542), (s "v" 543)], tu [], fi (f 25) "add" 0 nn nn nn, co [(s "add" 539), (s "add" 540), (s "/claim/cut.py" 541), (i 154 0), (i 2 0), (i 0 0), (i 0 0), (i 3 0), (r 258), (b true), (i 181 0), (r 259), nn, (r 260), (r 261), (r 262), (i 544 0), (i 154 0), (s "/claim/cut.py" 545)], fu (f 25) "add" 3 nn (s "gateloom.vecarith" 537) (r 263), tu [], fl [], tu [(s "u" 550), (s "v" 551)], tu [], fi (f 26) "sub" 0 nn nn nn, co [(s "sub" 547), (s "sub" 548), (s "/claim/cut.py" 549), (i 158 0), (i 2 0), (i 0 0), (i 0 0), (i 3 0), (r 265), (b true), (i 181 0), (r 266), nn, (r 267), (r 268), (r 269), (i 552 0), (i 158 0), (s "/claim/cut.py" 553)], fu (f 26) "sub" 3 nn (s "gateloom.vecarith" 537) (r 270)]
noncomputable def ch6 (P : Params) : List DictEntry := [e P "Context" 536 (r 253), e P "add" 546 (r 264), e P "sub" 554 (r 271)]
noncomputable def d6 (P : Params) : Obj := di (e P "__name__" 165 (s "gateloom.vecarith" 537) :: ap (ch0 P) (ap (ch1 P) (ap (ch2 P) (ap (ch3 P) (ap (ch4 P) (ap (ch5 P) (ch6 P))))))) 32
noncomputable def vc5 : List Value := [(i 134 0), (i 0 0), (r 220), (i 154 0), (i 0 0), (r 263), (i 158 0), (i 0 0), (r 270)]
noncomputable def g6 : Obj := ⟨.none, none, .fields ⟨apv vc0 (apv vc1 (apv vc2 (apv vc3 (apv vc4 (vc5)))))⟩, #[]⟩
noncomputable def T6 (P : Params) : BT := ((insL (T5 P) 215 (os6 P)).set 3 (fun _ => d6 P)).set 12 (fun _ => g6)
noncomputable def st6 (w : World) (os : OsState) : SharedT := ⟨T6 w.params, 272, life0, #[], {}, 555, os⟩
noncomputable def sl6 : List Stmt := sl 23 4 bE
noncomputable def os7 (P : Params) : List Obj := [tu [], fl [], tu [(s "u" 558), (s "v" 559)], tu [], fi (f 27) "mul" 0 nn nn nn, co [(s "mul" 555), (s "mul" 556), (s "/claim/cut.py" 557), (i 162 0), (i 2 0), (i 0 0), (i 0 0), (i 3 0), (r 272), (b true), (i 181 0), (r 273), nn, (r 274), (r 275), (r 276), (i 560 0), (i 162 0), (s "/claim/cut.py" 561)], fu (f 27) "mul" 3 nn (s "gateloom.vecarith" 537) (r 277), tu [], fl [], tu [(s "v" 566)], tu [], fi (f 28) "neg" 0 nn nn nn, co [(s "neg" 563), (s "neg" 564), (s "/claim/cut.py" 565), (i 166 0), (i 1 0), (i 0 0), (i 0 0), (i 3 0), (r 279), (b true), (i 181 0), (r 280), nn, (r 281), (r 282), (r 283), (i 567 0), (i 166 0), (s "/claim/cut.py" 568)], fu (f 28) "neg" 3 nn (s "gateloom.vecarith" 537) (r 284), tu [], fl [], tu [(s "m" 573), (s "n" 574), (s "found" 575)], tu [], fi (f 29) "quotient" 0 nn nn nn, co [(s "quotient" 570), (s "quotient" 571), (s "/claim/cut.py" 572), (i 170 0), (i 2 0), (i 0 0), (i 0 0), (i 3 0), (r 286), (b true), (i 181 0), (r 287), nn, (r 288), (r 289), (r 290), (i 576 0), (i 170 0), (s "/claim/cut.py" 577)], fu (f 29) "quotient" 3 nn (s "gateloom.vecarith" 537) (r 291), tu [], fl [], tu [(s "u" 582), (s "v" 583), (s "signed" 584), (s "m" 585), (s "n" 586)], tu [], fi (f 30) "div" 0 nn nn nn, co [(s "div" 579), (s "div" 580), (s "/claim/cut.py" 581), (i 175 0), (i 3 0), (i 0 0), (i 0 0), (i 3 0), (r 293), (b true), (i 181 0), (r 294), nn, (r 295), (r 296), (r 297), (i 587 0), (i 175 0), (s "/claim/cut.py" 588)], fu (f 30) "div" 3 nn (s "gateloom.vecarith" 537) (r 298), tu [], fl [], tu [(s "u" 593), (s "v" 594), (s "signed" 595), (s "m" 596), (s "n" 597)], tu [], fi (f 31) "mod" 0 nn nn nn, co [(s "mod" 590), (s "mod" 591), (s "/claim/cut.py" 592), (i 181 0), (i 3 0), (i 0 0), (i 0 0), (i 3 0), (r 300), (b true), (i 181 0), (r 301), nn, (r 302), (r 303), (r 304), (i 598 0), (i 181 0), (s "/claim/cut.py" 599)], fu (f 31) "mod" 3 nn (s "gateloom.vecarith" 537) (r 305), tu [], fl [], tu [(s "base" 604), (s "exponent" 605), (s "w" 606), (s "full" 607), (s "result" 608), (s "square" 609), (s "rest" 610)], tu [], fi (f 32) "raise_whole" 0 nn nn nn, co [(s "raise_whole" 601), (s "raise_whole" 602), (s "/claim/cut.py" 603), (i 187 0), (i 3 0), (i 0 0), (i 0 0), (i 3 0), (r 307), (b true), (i 181 0), (r 308), nn, (r 309), (r 310), (r 311), (i 611 0), (i 187 0), (s "/claim/cut.py" 612)], fu (f 32) "raise_whole" 3 nn (s "gateloom.vecarith" 537) (r 312), tu [], fl [], tu [(s "u" 617), (s "v" 618), (s "usigned" 619), (s "vsigned" 620), (s "w" 621), (s "base" 622), (s "exponent" 623)], tu [], fi (f 33) "power" 0 nn nn nn, co [(s "power" 614), (s "power" 615), (s "/claim/cut.py" 616), (i 198 0), (i 4 0), (i 0 0), (i 0 0), (i 3 0), (r 314), (b true), (i 181 0), (r 315), nn, (r 316), (r 317), (r 318), (i 624 0), (i 198 0), (s "/claim/cut.py" 625)], fu (f 33) "power" 3 nn (s "gateloom.vecarith" 537) (r 319), tu [], fl [], tu [(s "u" 630), (s "n" 631), (s "w" 632), (s "full" 633)], tu [], fi (f 34) "shift_left" 0 nn nn nn, co [(s "shift_left" 627), (s "shift_left" 628), (s "/claim/cut.py" 629), (i 213 0), (i 2 0), (i 0 0), (i 0 0), (i 3 0), (r 321), (b true), (i 181 0), (r 322), nn, (r 323), (r 324), (r 325), (i 634 0), (i 213 0), (s "/claim/cut.py" 635)], fu (f 34) "shift_left" 3 nn (s "gateloom.vecarith" 537) (r 326), tu [], fl [], tu [(s "u" 640), (s "n" 641), (s "w" 642)], tu [], fi (f 35) "shift_right" 0 nn nn nn, co [(s "shift_right" 637), (s "shift_right" 638), (s "/claim/cut.py" 639), (i 221 0), (i 2 0), (i 0 0), (i 0 0), (i 3 0), (r 328), (b true), (i 181 0), (r 329), nn, (r 330), (r 331), (r 332), (i 643 0), (i 221 0), (s "/claim/cut.py" 644)], fu (f 35) "shift_right" 3 nn (s "gateloom.vecarith" 537) (r 333), tu [], fl [], tu [(s "u" 649), (s "n" 650), (s "signed" 651), (s "w" 652), (s "count" 653), (s "fill" 654), (s "top" 655), (s "a" 656), (s "b" 657)], tu [], fi (f 36) "shift_arith" 0 nn nn nn, co [(s "shift_arith" 646), (s "shift_arith" 647), (s "/claim/cut.py" 648), (i 228 0), (i 3 0), (i 0 0), (i 0 0), (i 3 0), (r 335), (b true), (i 181 0), (r 336), nn, (r 337), (r 338), (r 339), (i 658 0), (i 228 0), (s "/claim/cut.py" 659)], fu (f 36) "shift_arith" 3 nn (s "gateloom.vecarith" 537) (r 340), tu [], fl [], tu [(s "u" 664), (s "v" 665), (s "signed" 666), (s "m" 667), (s "n" 668)], tu [], fi (f 37) "ordered" 0 nn nn nn, co [(s "ordered" 661), (s "ordered" 662), (s "/claim/cut.py" 663), (i 238 0), (i 3 0), (i 0 0), (i 0 0), (i 3 0), (r 342), (b true), (i 181 0), (r 343), nn, (r 344), (r 345), (r 346), (i 669 0), (i 238 0), (s "/claim/cut.py" 670)], fu (f 37) "ordered" 3 nn (s "gateloom.vecarith" 537) (r 347), tu [], fl [], tu [(s "u" 675), (s "v" 676), (s "signed" 677), (s "sign" 678)], tu [], fi (f 38) "less" 0 nn nn nn, co [(s "less" 672), (s "less" 673), (s "/claim/cut.py" 674), (i 246 0), (i 3 0), (i 0 0), (i 0 0), (i 3 0), (r 349), (b true), (i 181 0), (r 350), nn, (r 351), (r 352), (r 353), (i 679 0), (i 246 0), (s "/claim/cut.py" 680)], fu (f 38) "less" 3 nn (s "gateloom.vecarith" 537) (r 354)]
noncomputable def ch7 (P : Params) : List DictEntry := [e P "mul" 562 (r 278), e P "neg" 569 (r 285), e P "quotient" 578 (r 292), e P "div" 589 (r 299), e P "mod" 600 (r 306), e P "raise_whole" 613 (r 313), e P "power" 626 (r 320), e P "shift_left" 636 (r 327), e P "shift_right" 645 (r 334), e P "shift_arith" 660 (r 341), e P "ordered" 671 (r 348), e P "less" 681 (r 355)]
noncomputable def d7 (P : Params) : Obj := di (e P "__name__" 165 (s "gateloom.vecarith" 537) :: ap (ch0 P) (ap (ch1 P) (ap (ch2 P) (ap (ch3 P) (ap (ch4 P) (ap (ch5 P) (ap (ch6 P) (ch7 P)))))))) 44
noncomputable def vc6 : List Value := [(i 162 0), (i 0 0), (r 277), (i 166 0), (i 0 0), (r 284), (i 170 0), (i 0 0), (r 291), (i 175 0), (i 0 0), (r 298), (i 181 0), (i 0 0), (r 305), (i 187 0), (i 0 0), (r 312), (i 198 0), (i 0 0), (r 319), (i 213 0), (i 0 0), (r 326), (i 221 0), (i 0 0), (r 333), (i 228 0), (i 0 0), (r 340), (i 238 0), (i 0 0), (r 347), (i 246 0), (i 0 0), (r 354)]
noncomputable def g7 : Obj := ⟨.none, none, .fields ⟨apv vc0 (apv vc1 (apv vc2 (apv vc3 (apv vc4 (apv vc5 (vc6))))))⟩, #[]⟩
noncomputable def T7 (P : Params) : BT := ((insL (T6 P) 272 (os7 P)).set 3 (fun _ => d7 P)).set 12 (fun _ => g7)
noncomputable def st7 (w : World) (os : OsState) : SharedT := ⟨T7 w.params, 356, life0, #[], {}, 682, os⟩
noncomputable def sl7 : List Stmt := sl 27 12 bE
noncomputable def os8 (P : Params) : List Obj := [tu [], fl [], tu [(s "u" 685), (s "v" 686), (s "signed" 687), (s "sign" 688)], tu [], fi (f 39) "less_equal" 0 nn nn nn, co [(s "less_equal" 682), (s "less_equal" 683), (s "/claim/cut.py" 684), (i 251 0), (i 3 0), (i 0 0), (i 0 0), (i 3 0), (r 356), (b true), (i 181 0), (r 357), nn, (r 358), (r 359), (r 360), (i 689 0), (i 251 0), (s "/claim/cut.py" 690)], fu (f 39) "less_equal" 3 nn (s "gateloom.vecarith" 537) (r 361), tu [], fl [], tu [(s "u" 695), (s "v" 696), (s "signed" 697)], tu [], fi (f 40) "greater" 0 nn nn nn, co [(s "greater" 692), (s "greater" 693), (s "/claim/cut.py" 694), (i 256 0), (i 3 0), (i 0 0), (i 0 0), (i 3 0), (r 363), (b true), (i 181 0), (r 364), nn, (r 365), (r 366), (r 367), (i 698 0), (i 256 0), (s "/claim/cut.py" 699)], fu (f 40) "greater" 3 nn (s "gateloom.vecarith" 537) (r 368), tu [], fl [], tu [(s "u" 704), (s "v" 705), (s "signed" 706)], tu [], fi (f 41) "greater_equal" 0 nn nn nn, co [(s "greater_equal" 701), (s "greater_equal" 702), (s "/claim/cut.py" 703), (i 258 0), (i 3 0), (i 0 0), (i 0 0), (i 3 0), (r 370), (b true), (i 181 0), (r 371), nn, (r 372), (r 373), (r 374), (i 707 0), (i 258 0), (s "/claim/cut.py" 708)], fu (f 41) "greater_equal" 3 nn (s "gateloom.vecarith" 537) (r 375), tu [], fl [], tu [(s "c" 715)], tu [], fi (f 43) "one_bit" 0 nn nn nn, co [(s "one_bit" 712), (s "one_bit" 713), (s "/claim/cut.py" 714), (i 261 0), (i 1 0), (i 0 0), (i 0 0), (i 3 0), (r 377), (b true), (i 181 0), (r 378), nn, (r 379), (r 380), (r 381), (i 716 0), (i 261 0), (s "/claim/cut.py" 717)], fu (f 43) "one_bit" 3 nn (s "gateloom.vecops" 710) (r 382), tu [], fl [], tu [(s "v" 722), (s "w" 723), (s "a" 724), (s "b" 725)], tu [], fi (f 44) "bit_not" 0 nn nn nn, co [(s "bit_not" 719), (s "bit_not" 720), (s "/claim/cut.py" 721), (i 263 0), (i 1 0), (i 0 0), (i 0 0), (i 3 0), (r 384), (b true), (i 181 0), (r 385), nn, (r 386), (r 387), (r 388), (i 726 0), (i 263 0), (s "/claim/cut.py" 727)], fu (f 44) "bit_not" 3 nn (s "gateloom.vecops" 710) (r 389), tu [], fl [], tu [(s "u" 732), (s "v" 733), (s "w" 734), (s "a" 735), (s "b" 736), (s "c" 737), (s "d" 738), (s "both" 739)], tu [], fi (f 45) "bit_and" 0 nn nn nn, co [(s "bit_and" 729), (s "bit_and" 730), (s "/claim/cut.py" 731), (i 266 0), (i 2 0), (i 0 0), (i 0 0), (i 3 0), (r 391), (b true), (i 181 0), (r 392), nn, (r 393), (r 394), (r 395), (i 740 0), (i 266 0), (s "/claim/cut.py" 741)], fu (f 45) "bit_and" 3 nn (s "gateloom.vecops" 710) (r 396), tu [], fl [], tu [(s "u" 746), (s "v" 747), (s "w" 748), (s "a" 749), (s "b" 750), (s "c" 751), (s "d" 752), (s "either" 753), (s "sure" 754)], tu [], fi (f 46) "bit_or" 0 nn nn nn, co [(s "bit_or" 743), (s "bit_or" 744), (s "/claim/cut.py" 745), (i 271 0), (i 2 0), (i 0 0), (i 0 0), (i 3 0), (r 398), (b true), (i 181 0), (r 399), nn, (r 400), (r 401), (r 402), (i 755 0), (i 271 0), (s "/claim/cut.py" 756)], fu (f 46) "bit_or" 3 nn (s "gateloom.vecops" 710) (r 403), tu [], fl [], tu [(s "u" 761), (s "v" 762), (s "b" 763)], tu [], fi (f 47) "bit_xor" 0 nn nn nn, co [(s "bit_xor" 758), (s "bit_xor" 759), (s "/claim/cut.py" 760), (i 277 0), (i 2 0), (i 0 0), (i 0 0), (i 3 0), (r 405), (b true), (i 181 0), (r 406), nn, (r 407), (r 408), (r 409), (i 764 0), (i 277 0), (s "/claim/cut.py" 765)], fu (f 47) "bit_xor" 3 nn (s "gateloom.vecops" 710) (r 410), tu [], fl [], tu [(s "u" 770), (s "v" 771)], tu [], fi (f 48) "bit_xnor" 0 nn nn nn, co [(s "bit_xnor" 767), (s "bit_xnor" 768), (s "/claim/cut.py" 769), (i 280 0), (i 2 0), (i 0 0), (i 0 0), (i 3 0), (r 412), (b true), (i 181 0), (r 413), nn, (r 414), (r 415), (r 416), (i 772 0), (i 280 0), (s "/claim/cut.py" 773)], fu (f 48) "bit_xnor" 3 nn (s "gateloom.vecops" 710) (r 417), tu [], fl [], tu [(s "v" 778), (s "w" 779), (s "a" 780), (s "b" 781)], tu [], fi (f 49) "reduce_and" 0 nn nn nn, co [(s "reduce_and" 775), (s "reduce_and" 776), (s "/claim/cut.py" 777), (i 282 0), (i 1 0), (i 0 0), (i 0 0), (i 3 0), (r 419), (b true), (i 181 0), (r 420), nn, (r 421), (r 422), (r 423), (i 782 0), (i 282 0), (s "/claim/cut.py" 783)], fu (f 49) "reduce_and" 3 nn (s "gateloom.vecops" 710) (r 424), tu [], fl [], tu [(s "v" 788)], tu [], fi (f 50) "reduce_nand" 0 nn nn nn, co [(s "reduce_nand" 785), (s "reduce_nand" 786), (s "/claim/cut.py" 787), (i 287 0), (i 1 0), (i 0 0), (i 0 0), (i 3 0), (r 426), (b true), (i 181 0), (r 427), nn, (r 428), (r 429), (r 430), (i 789 0), (i 287 0), (s "/claim/cut.py" 790)], fu (f 50) "reduce_nand" 3 nn (s "gateloom.vecops" 710) (r 431), tu [], fl [], tu [(s "v" 795)], tu [], fi (f 51) "reduce_or" 0 nn nn nn, co [(s "reduce_or" 792), (s "reduce_or" 793), (s "/claim/cut.py" 794), (i 289 0), (i 1 0), (i 0 0), (i 0 0), (i 3 0), (r 433), (b true), (i 181 0), (r 434), nn, (r 435), (r 436), (r 437), (i 796 0), (i 289 0), (s "/claim/cut.py" 797)], fu (f 51) "reduce_or" 3 nn (s "gateloom.vecops" 710) (r 438)]
noncomputable def ch8 (P : Params) : List DictEntry := [e P "less_equal" 691 (r 362), e P "greater" 700 (r 369), e P "greater_equal" 709 (r 376), e P "one_bit" 718 (r 383), e P "bit_not" 728 (r 390), e P "bit_and" 742 (r 397), e P "bit_or" 757 (r 404), e P "bit_xor" 766 (r 411), e P "bit_xnor" 774 (r 418), e P "reduce_and" 784 (r 425), e P "reduce_nand" 791 (r 432), e P "reduce_or" 798 (r 439)]
noncomputable def d8 (P : Params) : Obj := di (e P "__name__" 165 (s "gateloom.vecops" 710) :: ap (ch0 P) (ap (ch1 P) (ap (ch2 P) (ap (ch3 P) (ap (ch4 P) (ap (ch5 P) (ap (ch6 P) (ap (ch7 P) (ch8 P))))))))) 56
noncomputable def vc7 : List Value := [(i 251 0), (i 0 0), (r 361), (i 256 0), (i 0 0), (r 368), (i 258 0), (i 0 0), (r 375), (i 261 0), (i 0 0), (r 382), (i 263 0), (i 0 0), (r 389), (i 266 0), (i 0 0), (r 396), (i 271 0), (i 0 0), (r 403), (i 277 0), (i 0 0), (r 410), (i 280 0), (i 0 0), (r 417), (i 282 0), (i 0 0), (r 424), (i 287 0), (i 0 0), (r 431), (i 289 0), (i 0 0), (r 438)]
noncomputable def g8 : Obj := ⟨.none, none, .fields ⟨apv vc0 (apv vc1 (apv vc2 (apv vc3 (apv vc4 (apv vc5 (apv vc6 (vc7)))))))⟩, #[]⟩
noncomputable def T8 (P : Params) : BT := ((insL (T7 P) 356 (os8 P)).set 3 (fun _ => d8 P)).set 12 (fun _ => g8)
noncomputable def st8 (w : World) (os : OsState) : SharedT := ⟨T8 w.params, 440, life0, #[], {}, 799, os⟩
noncomputable def sl8 : List Stmt := sl 39 13 bE
noncomputable def os9 (P : Params) : List Obj := [tu [], fl [], tu [(s "v" 802)], tu [], fi (f 52) "reduce_nor" 0 nn nn nn, co [(s "reduce_nor" 799), (s "reduce_nor" 800), (s "/claim/cut.py" 801), (i 291 0), (i 1 0), (i 0 0), (i 0 0), (i 3 0), (r 440), (b true), (i 181 0), (r 441), nn, (r 442), (r 443), (r 444), (i 803 0), (i 291 0), (s "/claim/cut.py" 804)], fu (f 52) "reduce_nor" 3 nn (s "gateloom.vecops" 710) (r 445), tu [], fl [], tu [(s "v" 809), (s "parity" 810), (s "rest" 811)], tu [], fi (f 53) "reduce_xor" 0 nn nn nn, co [(s "reduce_xor" 806), (s "reduce_xor" 807), (s "/claim/cut.py" 808), (i 293 0), (i 1 0), (i 0 0), (i 0 0), (i 3 0), (r 447), (b true), (i 181 0), (r 448), nn, (r 449), (r 450), (r 451), (i 812 0), (i 293 0), (s "/claim/cut.py" 813)], fu (f 53) "reduce_xor" 3 nn (s "gateloom.vecops" 710) (r 452), tu [], fl [], tu [(s "v" 818)], tu [], fi (f 54) "reduce_xnor" 0 nn nn nn, co [(s "reduce_xnor" 815), (s "reduce_xnor" 816), (s "/claim/cut.py" 817), (i 302 0), (i 1 0), (i 0 0), (i 0 0), (i 3 0), (r 454), (b true), (i 181 0), (r 455), nn, (r 456), (r 457), (r 458), (i 819 0), (i 302 0), (s "/claim/cut.py" 820)], fu (f 54) "reduce_xnor" 3 nn (s "gateloom.vecops" 710) (r 459), tu [], fl [], tu [(s "v" 825)], tu [], fi (f 55) "logic_not" 0 nn nn nn, co [(s "logic_not" 822), (s "logic_not" 823), (s "/claim/cut.py" 824), (i 304 0), (i 1 0), (i 0 0), (i 0 0), (i 3 0), (r 461), (b true), (i 181 0), (r 462), nn, (r 463), (r 464), (r 465), (i 826 0), (i 304 0), (s "/claim/cut.py" 827)], fu (f 55) "logic_not" 3 nn (s "gateloom.vecops" 710) (r 466), tu [], fl [], tu [(s "u" 832), (s "v" 833)], tu [], fi (f 56) "logic_and" 0 nn nn nn, co [(s "logic_and" 829), (s "logic_and" 830), (s "/claim/cut.py" 831), (i 306 0), (i 2 0), (i 0 0), (i 0 0), (i 3 0), (r 468), (b true), (i 181 0), (r 469), nn, (r 470), (r 471), (r 472), (i 834 0), (i 306 0), (s "/claim/cut.py" 835)], fu (f 56) "logic_and" 3 nn (s "gateloom.vecops" 710) (r 473), tu [], fl [], tu [(s "u" 840), (s "v" 841)], tu [], fi (f 57) "logic_or" 0 nn nn nn, co [(s "logic_or" 837), (s "logic_or" 838), (s "/claim/cut.py" 839), (i 308 0), (i 2 0), (i 0 0), (i 0 0), (i 3 0), (r 475), (b true), (i 181 0), (r 476), nn, (r 477), (r 478), (r 479), (i 842 0), (i 308 0), (s "/claim/cut.py" 843)], fu (f 57) "logic_or" 3 nn (s "gateloom.vecops" 710) (r 480), tu [], fl [], tu [(s "u" 848), (s "v" 849), (s "unknown" 850)], tu [], fi (f 58) "equal" 0 nn nn nn, co [(s "equal" 845), (s "equal" 846), (s "/claim/cut.py" 847), (i 310 0), (i 2 0), (i 0 0), (i 0 0), (i 3 0), (r 482), (b true), (i 181 0), (r 483), nn, (r 484), (r 485), (r 486), (i 851 0), (i 310 0), (s "/claim/cut.py" 852)], fu (f 58) "equal" 3 nn (s "gateloom.vecops" 710) (r 487), tu [], fl [], tu [(s "u" 857), (s "v" 858)], tu [], fi (f 59) "not_equal" 0 nn nn nn, co [(s "not_equal" 854), (s "not_equal" 855), (s "/claim/cut.py" 856), (i 315 0), (i 2 0), (i 0 0), (i 0 0), (i 3 0), (r 489), (b true), (i 181 0), (r 490), nn, (r 491), (r 492), (r 493), (i 859 0), (i 315 0), (s "/claim/cut.py" 860)], fu (f 59) "not_equal" 3 nn (s "gateloom.vecops" 710) (r 494), tu [], fl [], tu [(s "u" 865), (s "v" 866)], tu [], fi (f 60) "case_equal" 0 nn nn nn, co [(s "case_equal" 862), (s "case_equal" 863), (s "/claim/cut.py" 864), (i 317 0), (i 2 0), (i 0 0), (i 0 0), (i 3 0), (r 496), (b true), (i 181 0), (r 497), nn, (r 498), (r 499), (r 500), (i 867 0), (i 317 0), (s "/claim/cut.py" 868)], fu (f 60) "case_equal" 3 nn (s "gateloom.vecops" 710) (r 501), tu [], fl [], tu [(s "u" 873), (s "v" 874)], tu [], fi (f 61) "case_not_equal" 0 nn nn nn, co [(s "case_not_equal" 870), (s "case_not_equal" 871), (s "/claim/cut.py" 872), (i 319 0), (i 2 0), (i 0 0), (i 0 0), (i 3 0), (r 503), (b true), (i 181 0), (r 504), nn, (r 505), (r 506), (r 507), (i 875 0), (i 319 0), (s "/claim/cut.py" 876)], fu (f 61) "case_not_equal" 3 nn (s "gateloom.vecops" 710) (r 508), tu [], fl [], tu [(s "kind" 881), (s "u" 882), (s "v" 883), (s "free" 884), (s "care" 885)], tu [], fi (f 62) "matches" 0 nn nn nn, co [(s "matches" 878), (s "matches" 879), (s "/claim/cut.py" 880), (i 321 0), (i 3 0), (i 0 0), (i 0 0), (i 3 0), (r 510), (b true), (i 181 0), (r 511), nn, (r 512), (r 513), (r 514), (i 886 0), (i 321 0), (s "/claim/cut.py" 887)], fu (f 62) "matches" 3 nn (s "gateloom.vecops" 710) (r 515), tu [], fl [], tu [(s "c" 892), (s "t" 893), (s "f" 894), (s "found" 895), (s "w" 896), (s "same" 897), (s "unknown" 898)], tu [], fi (f 63) "choose" 0 nn nn nn, co [(s "choose" 889), (s "choose" 890), (s "/claim/cut.py" 891), (i 329 0), (i 3 0), (i 0 0), (i 0 0), (i 3 0), (r 517), (b true), (i 181 0), (r 518), nn, (r 519), (r 520), (r 521), (i 899 0), (i 329 0), (s "/claim/cut.py" 900)], fu (f 63) "choose" 3 nn (s "gateloom.vecops" 710) (r 522)]
noncomputable def ch9 (P : Params) : List DictEntry := [e P "reduce_nor" 805 (r 446), e P "reduce_xor" 814 (r 453), e P "reduce_xnor" 821 (r 460), e P "logic_not" 828 (r 467), e P "logic_and" 836 (r 474), e P "logic_or" 844 (r 481), e P "equal" 853 (r 488), e P "not_equal" 861 (r 495), e P "case_equal" 869 (r 502), e P "case_not_equal" 877 (r 509), e P "matches" 888 (r 516), e P "choose" 901 (r 523)]
noncomputable def d9 (P : Params) : Obj := di (e P "__name__" 165 (s "gateloom.evaluate" 902) :: ap (ch0 P) (ap (ch1 P) (ap (ch2 P) (ap (ch3 P) (ap (ch4 P) (ap (ch5 P) (ap (ch6 P) (ap (ch7 P) (ap (ch8 P) (ch9 P)))))))))) 68
noncomputable def vc8 : List Value := [(i 291 0), (i 0 0), (r 445), (i 293 0), (i 0 0), (r 452), (i 302 0), (i 0 0), (r 459), (i 304 0), (i 0 0), (r 466), (i 306 0), (i 0 0), (r 473), (i 308 0), (i 0 0), (r 480), (i 310 0), (i 0 0), (r 487), (i 315 0), (i 0 0), (r 494), (i 317 0), (i 0 0), (r 501), (i 319 0), (i 0 0), (r 508), (i 321 0), (i 0 0), (r 515), (i 329 0), (i 0 0), (r 522)]
noncomputable def g9 : Obj := ⟨.none, none, .fields ⟨apv vc0 (apv vc1 (apv vc2 (apv vc3 (apv vc4 (apv vc5 (apv vc6 (apv vc7 (vc8))))))))⟩, #[]⟩
noncomputable def T9 (P : Params) : BT := ((insL (T8 P) 440 (os9 P)).set 3 (fun _ => d9 P)).set 12 (fun _ => g9)
noncomputable def st9 (w : World) (os : OsState) : SharedT := ⟨T9 w.params, 524, life0, #[], {}, 904, os⟩
noncomputable def sl9 : List Stmt := sl 52 13 bE
noncomputable def os10 (P : Params) : List Obj := [tu [], fl [], tu [(s "op" 907), (s "u" 908)], tu [], fi (f 65) "unary" 0 nn nn nn, co [(s "unary" 904), (s "unary" 905), (s "/claim/cut.py" 906), (i 340 0), (i 2 0), (i 0 0), (i 0 0), (i 3 0), (r 524), (b true), (i 181 0), (r 525), nn, (r 526), (r 527), (r 528), (i 909 0), (i 340 0), (s "/claim/cut.py" 910)], fu (f 65) "unary" 3 nn (s "gateloom.evaluate" 902) (r 529), tu [], fl [], tu [(s "op" 915), (s "u" 916), (s "v" 917), (s "signed" 918)], tu [], fi (f 66) "arithmetic" 0 nn nn nn, co [(s "arithmetic" 912), (s "arithmetic" 913), (s "/claim/cut.py" 914), (i 360 0), (i 4 0), (i 0 0), (i 0 0), (i 3 0), (r 531), (b true), (i 181 0), (r 532), nn, (r 533), (r 534), (r 535), (i 919 0), (i 360 0), (s "/claim/cut.py" 920)], fu (f 66) "arithmetic" 3 nn (s "gateloom.evaluate" 902) (r 536), tu [], fl [], tu [(s "op" 925), (s "u" 926), (s "v" 927), (s "signed" 928)], tu [], fi (f 67) "comparison" 0 nn nn nn, co [(s "comparison" 922), (s "comparison" 923), (s "/claim/cut.py" 924), (i 378 0), (i 4 0), (i 0 0), (i 0 0), (i 3 0), (r 538), (b true), (i 181 0), (r 539), nn, (r 540), (r 541), (r 542), (i 929 0), (i 378 0), (s "/claim/cut.py" 930)], fu (f 67) "comparison" 3 nn (s "gateloom.evaluate" 902) (r 543), tu [], fl [], tu [(s "op" 935), (s "u" 936), (s "v" 937)], tu [], fi (f 68) "bitwise" 0 nn nn nn, co [(s "bitwise" 932), (s "bitwise" 933), (s "/claim/cut.py" 934), (i 396 0), (i 3 0), (i 0 0), (i 0 0), (i 3 0), (r 545), (b true), (i 181 0), (r 546), nn, (r 547), (r 548), (r 549), (i 938 0), (i 396 0), (s "/claim/cut.py" 939)], fu (f 68) "bitwise" 3 nn (s "gateloom.evaluate" 902) (r 550), tu [], fl [], tu [(s "op" 944), (s "u" 945), (s "v" 946), (s "signed" 947), (s "value" 948)], tu [], fi (f 69) "binary" 0 nn nn nn, co [(s "binary" 941), (s "binary" 942), (s "/claim/cut.py" 943), (i 410 0), (i 4 0), (i 0 0), (i 0 0), (i 3 0), (r 552), (b true), (i 181 0), (r 553), nn, (r 554), (r 555), (r 556), (i 949 0), (i 410 0), (s "/claim/cut.py" 950)], fu (f 69) "binary" 3 nn (s "gateloom.evaluate" 902) (r 557), tu [], fl [], tu [(s "e" 955), (s "signed" 956), (s "ctx" 957)], tu [], fi (f 70) "whole_of" 0 nn nn nn, co [(s "whole_of" 952), (s "whole_of" 953), (s "/claim/cut.py" 954), (i 419 0), (i 3 0), (i 0 0), (i 0 0), (i 3 0), (r 559), (b true), (i 181 0), (r 560), nn, (r 561), (r 562), (r 563), (i 958 0), (i 419 0), (s "/claim/cut.py" 959)], fu (f 70) "whole_of" 3 nn (s "gateloom.evaluate" 902) (r 564), tu [], fl [], tu [(s "e" 964), (s "ctx" 965), (s "index" 966), (s "place" 967)], tu [], fi (f 71) "memory_word" 0 nn nn nn, co [(s "memory_word" 961), (s "memory_word" 962), (s "/claim/cut.py" 963), (i 421 0), (i 2 0), (i 0 0), (i 0 0), (i 3 0), (r 566), (b true), (i 181 0), (r 567), nn, (r 568), (r 569), (r 570), (i 968 0), (i 421 0), (s "/claim/cut.py" 969)], fu (f 71) "memory_word" 3 nn (s "gateloom.evaluate" 902) (r 571), tu [], fl [], tu [(s "e" 974), (s "ctx" 975), (s "value" 976), (s "index" 977)], tu [], fi (f 72) "picked" 0 nn nn nn, co [(s "picked" 971), (s "picked" 972), (s "/claim/cut.py" 973), (i 429 0), (i 2 0), (i 0 0), (i 0 0), (i 3 0), (r 573), (b true), (i 181 0), (r 574), nn, (r 575), (r 576), (r 577), (i 978 0), (i 429 0), (s "/claim/cut.py" 979)], fu (f 72) "picked" 3 nn (s "gateloom.evaluate" 902) (r 578), tu [], fl [], tu [(s "e" 984), (s "ctx" 985), (s "condition" 986), (s "known" 987)], tu [], fi (f 73) "conditional" 0 nn nn nn, co [(s "conditional" 981), (s "conditional" 982), (s "/claim/cut.py" 983), (i 435 0), (i 2 0), (i 0 0), (i 0 0), (i 3 0), (r 580), (b true), (i 181 0), (r 581), nn, (r 582), (r 583), (r 584), (i 988 0), (i 435 0), (s "/claim/cut.py" 989)], fu (f 73) "conditional" 3 nn (s "gateloom.evaluate" 902) (r 585), tu [], fl [], tu [(s "n" 994), (s "k" 995)], tu [], fi (f 74) "bits_needed" 0 nn nn nn, co [(s "bits_needed" 991), (s "bits_needed" 992), (s "/claim/cut.py" 993), (i 443 0), (i 1 0), (i 0 0), (i 0 0), (i 3 0), (r 587), (b true), (i 181 0), (r 588), nn, (r 589), (r 590), (r 591), (i 996 0), (i 443 0), (s "/claim/cut.py" 997)], fu (f 74) "bits_needed" 3 nn (s "gateloom.evaluate" 902) (r 592), tu [], fl [], tu [(s "e" 1002), (s "ctx" 1003), (s "w" 1004), (s "name" 1005), (s "n" 1006)], tu [], fi (f 75) "system_value" 0 nn nn nn, co [(s "system_value" 999), (s "system_value" 1000), (s "/claim/cut.py" 1001), (i 448 0), (i 2 0), (i 0 0), (i 0 0), (i 3 0), (r 594), (b true), (i 181 0), (r 595), nn, (r 596), (r 597), (r 598), (i 1007 0), (i 448 0), (s "/claim/cut.py" 1008)], fu (f 75) "system_value" 3 nn (s "gateloom.evaluate" 902) (r 599), tu [], fl [], fi (f 77) "evaluate" 0 nn nn nn, co [(s "evaluate" 1011), (s "evaluate" 1012), (s "/claim/cut.py" 1013), (i 462 0), (i 2 0), (i 0 0), (i 0 0), (i 3 0), (r 601), (b true), (i 181 0), (r 602), nn, nn, nn, (r 603), (i 1014 0), (i 462 0), (s "/claim/cut.py" 1015)], fu (f 77) "evaluate" 3 nn (s "gateloom.evaluate" 902) (r 604)]
noncomputable def ch10 (P : Params) : List DictEntry := [e P "unary" 911 (r 530), e P "arithmetic" 921 (r 537), e P "comparison" 931 (r 544), e P "bitwise" 940 (r 551), e P "binary" 951 (r 558), e P "whole_of" 960 (r 565), e P "memory_word" 970 (r 572), e P "picked" 980 (r 579), e P "conditional" 990 (r 586), e P "bits_needed" 998 (r 593), e P "system_value" 1009 (r 600), e P "system_value_evaluate" 1010 (r 600), e P "evaluate" 1016 (r 605)]
noncomputable def d10 (P : Params) : Obj := di (e P "__name__" 165 (s "gateloom.evaluate" 902) :: ap (ch0 P) (ap (ch1 P) (ap (ch2 P) (ap (ch3 P) (ap (ch4 P) (ap (ch5 P) (ap (ch6 P) (ap (ch7 P) (ap (ch8 P) (ap (ch9 P) (ch10 P))))))))))) 81
noncomputable def vc9 : List Value := [(i 340 0), (i 0 0), (r 529), (i 360 0), (i 0 0), (r 536), (i 378 0), (i 0 0), (r 543), (i 396 0), (i 0 0), (r 550), (i 410 0), (i 0 0), (r 557), (i 419 0), (i 0 0), (r 564), (i 421 0), (i 0 0), (r 571), (i 429 0), (i 0 0), (r 578), (i 435 0), (i 0 0), (r 585), (i 443 0), (i 0 0), (r 592), (i 448 0), (i 0 0), (r 599), (i 462 0), (i 0 0), (r 604)]
noncomputable def g10 : Obj := ⟨.none, none, .fields ⟨apv vc0 (apv vc1 (apv vc2 (apv vc3 (apv vc4 (apv vc5 (apv vc6 (apv vc7 (apv vc8 (vc9)))))))))⟩, #[]⟩
noncomputable def T10 (P : Params) : BT := ((insL (T9 P) 524 (os10 P)).set 3 (fun _ => d10 P)).set 12 (fun _ => g10)
noncomputable def st10 (w : World) (os : OsState) : SharedT := ⟨T10 w.params, 606, life0, #[], {}, 1017, os⟩
noncomputable def sl10 : List Stmt := sl 65 13 bE
noncomputable def os11 (P : Params) : List Obj := [tu [], fl [], tu [(s "where" 1020), (s "ctx" 1021), (s "index" 1022)], tu [], fi (f 78) "locate" 0 nn nn nn, co [(s "locate" 1017), (s "locate" 1018), (s "/claim/cut.py" 1019), (i 493 0), (i 2 0), (i 0 0), (i 0 0), (i 3 0), (r 606), (b true), (i 181 0), (r 607), nn, (r 608), (r 609), (r 610), (i 1023 0), (i 493 0), (s "/claim/cut.py" 1024)], fu (f 78) "locate" 3 nn (s "gateloom.evaluate" 902) (r 611), tu [], fl [], tu [(s "part" 1029), (s "ctx" 1030)], tu [], fi (f 79) "holder_width" 0 nn nn nn, co [(s "holder_width" 1026), (s "holder_width" 1027), (s "/claim/cut.py" 1028), (i 500 0), (i 2 0), (i 0 0), (i 0 0), (i 3 0), (r 613), (b true), (i 181 0), (r 614), nn, (r 615), (r 616), (r 617), (i 1031 0), (i 500 0), (s "/claim/cut.py" 1032)], fu (f 79) "holder_width" 3 nn (s "gateloom.evaluate" 902) (r 618), tu [], fl [], tu [(s "lv" 1037), (s "ctx" 1038), (s "rows" 1039), (s "take" 1040), (s "part" 1041), (s "kind" 1042), (s "w" 1043), (s "ref" 1044), (s "word" 1045), (s "where" 1046), (s "place" 1047), (s "index" 1048), (s "lo" 1049)], tu [], fi (f 80) "resolve_target" 0 nn nn nn, co [(s "resolve_target" 1034), (s "resolve_target" 1035), (s "/claim/cut.py" 1036), (i 504 0), (i 2 0), (i 0 0), (i 0 0), (i 3 0), (r 620), (b true), (i 181 0), (r 621), nn, (r 622), (r 623), (r 624), (i 1050 0), (i 504 0), (s "/claim/cut.py" 1051)], fu (f 80) "resolve_target" 3 nn (s "gateloom.evaluate" 902) (r 625), tu [], fl [], tu [(s "rows" 1056), (s "value" 1057), (s "ctx" 1058), (s "changed" 1059), (s "kind" 1060), (s "ref" 1061), (s "place" 1062), (s "lo" 1063), (s "w" 1064), (s "take" 1065), (s "piece" 1066)], tu [], fi (f 81) "store_rows" 0 nn nn nn, co [(s "store_rows" 1053), (s "store_rows" 1054), (s "/claim/cut.py" 1055), (i 523 0), (i 3 0), (i 0 0), (i 0 0), (i 3 0), (r 627), (b true), (i 181 0), (r 628), nn, (r 629), (r 630), (r 631), (i 1067 0), (i 523 0), (s "/claim/cut.py" 1068)], fu (f 81) "store_rows" 3 nn (s "gateloom.evaluate" 902) (r 632)]
noncomputable def ch11 (P : Params) : List DictEntry := [e P "locate" 1025 (r 612), e P "holder_width" 1033 (r 619), e P "resolve_target" 1052 (r 626), e P "store_rows" 1069 (r 633), e P "DEPTH_LIMIT" 1073 (i 24 1072)]
noncomputable def d11 (P : Params) : Obj := di (e P "__name__" 165 (s "gateloom.funcs" 1070) :: ap (ch0 P) (ap (ch1 P) (ap (ch2 P) (ap (ch3 P) (ap (ch4 P) (ap (ch5 P) (ap (ch6 P) (ap (ch7 P) (ap (ch8 P) (ap (ch9 P) (ap (ch10 P) (ch11 P)))))))))))) 86
noncomputable def vc10 : List Value := [(i 493 0), (i 0 0), (r 611), (i 500 0), (i 0 0), (r 618), (i 504 0), (i 0 0), (r 625), (i 523 0), (i 0 0), (r 632)]
noncomputable def g11 : Obj := ⟨.none, none, .fields ⟨apv vc0 (apv vc1 (apv vc2 (apv vc3 (apv vc4 (apv vc5 (apv vc6 (apv vc7 (apv vc8 (apv vc9 (vc10))))))))))⟩, #[]⟩
noncomputable def T11 (P : Params) : BT := ((insL (T10 P) 606 (os11 P)).set 3 (fun _ => d11 P)).set 12 (fun _ => g11)
noncomputable def st11 (w : World) (os : OsState) : SharedT := ⟨T11 w.params, 634, life0, #[], {}, 1074, os⟩
noncomputable def sl11 : List Stmt := sl 78 6 bE
noncomputable def os12 (P : Params) : List Obj := [tu [(r 253)], ⟨(ty "builtin_function_or_method"), none, .fields #[(bi "type.__prepare__"), (ty "type")], #[]⟩, di [e P "__module__" 1081 (s "gateloom.funcs" 1070), e P "__qualname__" 1083 (s "FunctionContext" 1082), e P "__firstlineno__" 1085 (i 535 1084), e P "__init__" 1098 (r 648), e P "call" 1110 (r 655), e P "new_frame" 1116 (r 660), e P "burn" 1123 (r 667), e P "is_true" 1131 (r 674), e P "__static_attributes__" 1137 (r 675)] 9, tu [], fl [(i 537 0), (i 4 0), (r 647), (i 544 0), (i 4 0), (r 654), (i 559 0), (i 4 0), (r 659), (i 571 0), (i 4 0), (r 666), (i 576 0), (i 4 0), (r 673)], co [(s "FunctionContext" 1076), (s "FunctionContext" 1077), (s "/claim/cut.py" 1078), (i 535 0), (i 0 0), (i 0 0), (i 0 0), (i 0 0), (r 637), (b false), (i 181 0), (r 638), nn, nn, nn, nn, (i 1079 0), (i 535 0), (s "/claim/cut.py" 1080)], ⟨(ty "frame"), none, .plain, #[some (r 639), some (r 3), some (r 636), none, some (s "gateloom.funcs" 1070), none, some (r 0)]⟩, tu [(i 10000 1086)], tu [], fl [], tu [(s "self" 1090), (s "design" 1091), (s "store" 1092), (s "frame" 1093), (s "now" 1094), (s "fuel" 1095)], tu [], fi (m 84 0) "FunctionContext.__init__" 0 nn nn nn, co [(s "__init__" 1087), (s "FunctionContext.__init__" 1088), (s "/claim/cut.py" 1089), (i 537 0), (i 6 0), (i 0 0), (i 0 0), (i 3 0), (r 642), (b true), (i 181 0), (r 643), nn, (r 644), (r 645), (r 646), (i 1096 0), (i 537 0), (s "/claim/cut.py" 1097)], fu (m 84 0) "FunctionContext.__init__" 3 (r 641) (s "gateloom.funcs" 1070) (r 647), tu [], fl [], tu [(s "self" 1102), (s "number" 1103), (s "args" 1104), (s "routine" 1105), (s "caller" 1106), (s "value" 1107)], tu [], fi (m 84 1) "FunctionContext.call" 0 nn nn nn, co [(s "call" 1099), (s "FunctionContext.call" 1100), (s "/claim/cut.py" 1101), (i 544 0), (i 3 0), (i 0 0), (i 0 0), (i 3 0), (r 649), (b true), (i 181 0), (r 650), nn, (r 651), (r 652), (r 653), (i 1108 0), (i 544 0), (s "/claim/cut.py" 1109)], fu (m 84 1) "FunctionContext.call" 3 nn (s "gateloom.funcs" 1070) (r 654), tu [], fl [], fi (m 84 2) "FunctionContext.new_frame" 0 nn nn nn, co [(s "new_frame" 1111), (s "FunctionContext.new_frame" 1112), (s "/claim/cut.py" 1113), (i 559 0), (i 3 0), (i 0 0), (i 0 0), (i 3 0), (r 656), (b true), (i 181 0), (r 657), nn, nn, nn, (r 658), (i 1114 0), (i 559 0), (s "/claim/cut.py" 1115)], fu (m 84 2) "FunctionContext.new_frame" 3 nn (s "gateloom.funcs" 1070) (r 659), tu [], fl [], tu [(s "self" 1120)], tu [], fi (m 84 3) "FunctionContext.burn" 0 nn nn nn, co [(s "burn" 1117), (s "FunctionContext.burn" 1118), (s "/claim/cut.py" 1119), (i 571 0), (i 1 0), (i 0 0), (i 0 0), (i 3 0), (r 661), (b true), (i 181 0), (r 662), nn, (r 663), (r 664), (r 665), (i 1121 0), (i 571 0), (s "/claim/cut.py" 1122)], fu (m 84 3) "FunctionContext.burn" 3 nn (s "gateloom.funcs" 1070) (r 666), tu [], fl [], tu [(s "self" 1127), (s "e" 1128)], tu [], fi (m 84 4) "FunctionContext.is_true" 0 nn nn nn, co [(s "is_true" 1124), (s "FunctionContext.is_true" 1125), (s "/claim/cut.py" 1126), (i 576 0), (i 2 0), (i 0 0), (i 0 0), (i 3 0), (r 668), (b true), (i 181 0), (r 669), nn, (r 670), (r 671), (r 672), (i 1129 0), (i 576 0), (s "/claim/cut.py" 1130)], fu (m 84 4) "FunctionContext.is_true" 3 nn (s "gateloom.funcs" 1070) (r 673), tu [(s "depth" 1132), (s "design" 1133), (s "frame" 1134), (s "fuel" 1135), (s "written" 1136)], di [e P "__module__" 1081 (s "gateloom.funcs" 1070), e P "__firstlineno__" 1085 (i 535 1084), e P "__init__" 1098 (r 648), e P "call" 1110 (r 655), e P "new_frame" 1116 (r 660), e P "burn" 1123 (r 667), e P "is_true" 1131 (r 674), e P "__static_attributes__" 1137 (r 675), e P "__doc__" 1138 nn] 2, ⟨(ty "type"), none, .cls { name := S "FunctionContext", bases := [(r 253)], mro := [(r 677), (r 253), (ty "object")], ns := 676, qualname := S "FunctionContext", hasDict := true, subclasses := [], abstract := false, hasDel := false}, #[some (r 634), none, some (s "FunctionContext" 1074), some (s "FunctionContext" 1082), some (bi "object.__new__"), some (b true)]⟩, ⟨(ty "super"), none, .fields #[(r 677), (r 677), (r 677)], #[]⟩, ⟨(ty "builtin_function_or_method"), none, .fields #[(bi "object.__init_subclass__"), (r 677)], #[]⟩]
noncomputable def ch12 (P : Params) : List DictEntry := [e P "FunctionContext" 1140 (r 677)]
noncomputable def d12 (P : Params) : Obj := di (e P "__name__" 165 (s "gateloom.funcs" 1070) :: ap (ch0 P) (ap (ch1 P) (ap (ch2 P) (ap (ch3 P) (ap (ch4 P) (ap (ch5 P) (ap (ch6 P) (ap (ch7 P) (ap (ch8 P) (ap (ch9 P) (ap (ch10 P) (ap (ch11 P) (ch12 P))))))))))))) 87
noncomputable def vc11 : List Value := [(i 535 0), (i 0 0), (r 639)]
noncomputable def g12 : Obj := ⟨.none, none, .fields ⟨apv vc0 (apv vc1 (apv vc2 (apv vc3 (apv vc4 (apv vc5 (apv vc6 (apv vc7 (apv vc8 (apv vc9 (apv vc10 (vc11)))))))))))⟩, #[]⟩
noncomputable def T12 (P : Params) : BT := (((insL (T11 P) 634 (os12 P)).set 3 (fun _ => d12 P)).set 12 (fun _ => g12)).set 253 (fun _ => ⟨(ty "type"), none, .cls { name := S "Context", bases := [(ty "object")], mro := [(r 253), (ty "object")], ns := 252, qualname := S "Context", hasDict := true, subclasses := [(r 677)], abstract := false, hasDel := false}, #[none, none, some (s "Context" 478), some (s "Context" 486), some (bi "object.__new__"), some (b true)]⟩)
noncomputable def st12 (w : World) (os : OsState) : SharedT := ⟨T12 w.params, 680, life0, #[], {}, 1141, os⟩
noncomputable def sl12 : List Stmt := sl 84 1 bE
noncomputable def os13 (P : Params) : List Obj := [tu [], fl [], tu [(s "s" 1144), (s "ctx" 1145), (s "inner" 1146), (s "disabled" 1147)], tu [], fi (f 85) "run_block" 0 nn nn nn, co [(s "run_block" 1141), (s "run_block" 1142), (s "/claim/cut.py" 1143), (i 578 0), (i 2 0), (i 0 0), (i 0 0), (i 3 0), (r 680), (b true), (i 181 0), (r 681), nn, (r 682), (r 683), (r 684), (i 1148 0), (i 578 0), (s "/claim/cut.py" 1149)], fu (f 85) "run_block" 3 nn (s "gateloom.funcs" 1070) (r 685), tu [], fl [], tu [(s "s" 1154), (s "ctx" 1155), (s "value" 1156), (s "key" 1157)], tu [], fi (f 86) "run_set" 0 nn nn nn, co [(s "run_set" 1151), (s "run_set" 1152), (s "/claim/cut.py" 1153), (i 586 0), (i 2 0), (i 0 0), (i 0 0), (i 3 0), (r 687), (b true), (i 181 0), (r 688), nn, (r 689), (r 690), (r 691), (i 1158 0), (i 586 0), (s "/claim/cut.py" 1159)], fu (f 86) "run_set" 3 nn (s "gateloom.funcs" 1070) (r 692), tu [], fl [], tu [(s "s" 1164), (s "ctx" 1165), (s "value" 1166), (s "default" 1167), (s "labels" 1168), (s "inner" 1169), (s "label" 1170)], tu [], fi (f 87) "run_case" 0 nn nn nn, co [(s "run_case" 1161), (s "run_case" 1162), (s "/claim/cut.py" 1163), (i 593 0), (i 2 0), (i 0 0), (i 0 0), (i 3 0), (r 694), (b true), (i 181 0), (r 695), nn, (r 696), (r 697), (r 698), (i 1171 0), (i 593 0), (s "/claim/cut.py" 1172)], fu (f 87) "run_case" 3 nn (s "gateloom.funcs" 1070) (r 699), tu [], fl [], tu [(s "condition" 1177), (s "body" 1178), (s "step" 1179), (s "ctx" 1180), (s "disabled" 1181)], tu [], fi (f 88) "run_while" 0 nn nn nn, co [(s "run_while" 1174), (s "run_while" 1175), (s "/claim/cut.py" 1176), (i 604 0), (i 4 0), (i 0 0), (i 0 0), (i 3 0), (r 701), (b true), (i 181 0), (r 702), nn, (r 703), (r 704), (r 705), (i 1182 0), (i 604 0), (s "/claim/cut.py" 1183)], fu (f 88) "run_while" 3 nn (s "gateloom.funcs" 1070) (r 706), tu [], fl [], tu [(s "s" 1188), (s "ctx" 1189), (s "count" 1190), (s "disabled" 1191)], tu [], fi (f 89) "run_repeat" 0 nn nn nn, co [(s "run_repeat" 1185), (s "run_repeat" 1186), (s "/claim/cut.py" 1187), (i 612 0), (i 2 0), (i 0 0), (i 0 0), (i 3 0), (r 708), (b true), (i 181 0), (r 709), nn, (r 710), (r 711), (r 712), (i 1192 0), (i 612 0), (s "/claim/cut.py" 1193)], fu (f 89) "run_repeat" 3 nn (s "gateloom.funcs" 1070) (r 713), tu [], fl [], tu [(s "s" 1198), (s "ctx" 1199)], tu [], fi (f 90) "run_for" 0 nn nn nn, co [(s "run_for" 1195), (s "run_for" 1196), (s "/claim/cut.py" 1197), (i 623 0), (i 2 0), (i 0 0), (i 0 0), (i 3 0), (r 715), (b true), (i 181 0), (r 716), nn, (r 717), (r 718), (r 719), (i 1200 0), (i 623 0), (s "/claim/cut.py" 1201)], fu (f 90) "run_for" 3 nn (s "gateloom.funcs" 1070) (r 720), tu [], fl [], tu [(s "s" 1206), (s "ctx" 1207), (s "tag" 1208)], tu [], fi (f 91) "run_statement" 0 nn nn nn, co [(s "run_statement" 1203), (s "run_statement" 1204), (s "/claim/cut.py" 1205), (i 626 0), (i 2 0), (i 0 0), (i 0 0), (i 3 0), (r 722), (b true), (i 181 0), (r 723), nn, (r 724), (r 725), (r 726), (i 1209 0), (i 626 0), (s "/claim/cut.py" 1210)], fu (f 91) "run_statement" 3 nn (s "gateloom.funcs" 1070) (r 727), tu [], fl [], tu [(s "e" 1217), (s "tag" 1218)], tu [], fi (f 93) "children" 0 nn nn nn, co [(s "children" 1214), (s "children" 1215), (s "/claim/cut.py" 1216), (i 653 0), (i 1 0), (i 0 0), (i 0 0), (i 3 0), (r 729), (b true), (i 181 0), (r 730), nn, (r 731), (r 732), (r 733), (i 1219 0), (i 653 0), (s "/claim/cut.py" 1220)], fu (f 93) "children" 3 nn (s "gateloom.walks" 1212) (r 734), tu [], fl [], tu [(s "e" 1225), (s "found" 1226), (s "stack" 1227), (s "node" 1228), (s "part" 1229)], tu [], fi (f 94) "subexpressions" 0 nn nn nn, co [(s "subexpressions" 1222), (s "subexpressions" 1223), (s "/claim/cut.py" 1224), (i 672 0), (i 1 0), (i 0 0), (i 0 0), (i 3 0), (r 736), (b true), (i 181 0), (r 737), nn, (r 738), (r 739), (r 740), (i 1230 0), (i 672 0), (s "/claim/cut.py" 1231)], fu (f 94) "subexpressions" 3 nn (s "gateloom.walks" 1212) (r 741), tu [], fl [], tu [(s "e" 1236), (s "keys" 1237), (s "node" 1238)], tu [], fi (f 95) "expr_reads" 0 nn nn nn, co [(s "expr_reads" 1233), (s "expr_reads" 1234), (s "/claim/cut.py" 1235), (i 681 0), (i 1 0), (i 0 0), (i 0 0), (i 3 0), (r 743), (b true), (i 181 0), (r 744), nn, (r 745), (r 746), (r 747), (i 1239 0), (i 681 0), (s "/claim/cut.py" 1240)], fu (f 95) "expr_reads" 3 nn (s "gateloom.walks" 1212) (r 748), tu [], fl [], tu [(s "e" 1245), (s "numbers" 1246), (s "node" 1247)], tu [], fi (f 96) "expr_calls" 0 nn nn nn, co [(s "expr_calls" 1242), (s "expr_calls" 1243), (s "/claim/cut.py" 1244), (i 687 0), (i 1 0), (i 0 0), (i 0 0), (i 3 0), (r 750), (b true), (i 181 0), (r 751), nn, (r 752), (r 753), (r 754), (i 1248 0), (i 687 0), (s "/claim/cut.py" 1249)], fu (f 96) "expr_calls" 3 nn (s "gateloom.walks" 1212) (r 755), tu [], fl [], tu [(s "lv" 1254), (s "found" 1255), (s "part" 1256)], tu [], fi (f 97) "target_indexes" 0 nn nn nn, co [(s "target_indexes" 1251), (s "target_indexes" 1252), (s "/claim/cut.py" 1253), (i 693 0), (i 1 0), (i 0 0), (i 0 0), (i 3 0), (r 757), (b true), (i 181 0), (r 758), nn, (r 759), (r 760), (r 761), (i 1257 0), (i 693 0), (s "/claim/cut.py" 1258)], fu (f 97) "target_indexes" 3 nn (s "gateloom.walks" 1212) (r 762)]
noncomputable def ch13 (P : Params) : List DictEntry := [e P "run_block" 1150 (r 686), e P "run_set" 1160 (r 693), e P "run_case" 1173 (r 700), e P "run_while" 1184 (r 707), e P "run_repeat" 1194 (r 714), e P "run_for" 1202 (r 721), e P "run_statement" 1211 (r 728), e P "children" 1221 (r 735), e P "subexpressions" 1232 (r 742), e P "expr_reads" 1241 (r 749), e P "expr_calls" 1250 (r 756), e P "target_indexes" 1259 (r 763)]
noncomputable def d13 (P : Params) : Obj := di (e P "__name__" 165 (s "gateloom.walks" 1212) :: ap (ch0 P) (ap (ch1 P) (ap (ch2 P) (ap (ch3 P) (ap (ch4 P) (ap (ch5 P) (ap (ch6 P) (ap (ch7 P) (ap (ch8 P) (ap (ch9 P) (ap (ch10 P) (ap (ch11 P) (ap (ch12 P) (ch13 P)))))))))))))) 99
noncomputable def vc12 : List Value := [(i 578 0), (i 0 0), (r 685), (i 586 0), (i 0 0), (r 692), (i 593 0), (i 0 0), (r 699), (i 604 0), (i 0 0), (r 706), (i 612 0), (i 0 0), (r 713), (i 623 0), (i 0 0), (r 720), (i 626 0), (i 0 0), (r 727), (i 653 0), (i 0 0), (r 734), (i 672 0), (i 0 0), (r 741), (i 681 0), (i 0 0), (r 748), (i 687 0), (i 0 0), (r 755), (i 693 0), (i 0 0), (r 762)]
noncomputable def g13 : Obj := ⟨.none, none, .fields ⟨apv vc0 (apv vc1 (apv vc2 (apv vc3 (apv vc4 (apv vc5 (apv vc6 (apv vc7 (apv vc8 (apv vc9 (apv vc10 (apv vc11 (vc12))))))))))))⟩, #[]⟩
noncomputable def T13 (P : Params) : BT := ((insL (T12 P) 680 (os13 P)).set 3 (fun _ => d13 P)).set 12 (fun _ => g13)
noncomputable def st13 (w : World) (os : OsState) : SharedT := ⟨T13 w.params, 764, life0, #[], {}, 1260, os⟩
noncomputable def sl13 : List Stmt := sl 85 13 bE
noncomputable def os14 (P : Params) : List Obj := [tu [], fl [], tu [(s "lv" 1263), (s "keys" 1264), (s "part" 1265)], tu [], fi (f 98) "target_writes" 0 nn nn nn, co [(s "target_writes" 1260), (s "target_writes" 1261), (s "/claim/cut.py" 1262), (i 701 0), (i 1 0), (i 0 0), (i 0 0), (i 3 0), (r 764), (b true), (i 181 0), (r 765), nn, (r 766), (r 767), (r 768), (i 1266 0), (i 701 0), (s "/claim/cut.py" 1267)], fu (f 98) "target_writes" 3 nn (s "gateloom.walks" 1212) (r 769), tu [], fl [], fi (f 99) "stmt_parts" 0 nn nn nn, co [(s "stmt_parts" 1269), (s "stmt_parts" 1270), (s "/claim/cut.py" 1271), (i 707 0), (i 1 0), (i 0 0), (i 0 0), (i 3 0), (r 771), (b true), (i 181 0), (r 772), nn, nn, nn, (r 773), (i 1272 0), (i 707 0), (s "/claim/cut.py" 1273)], fu (f 99) "stmt_parts" 3 nn (s "gateloom.walks" 1212) (r 774), tu [], fl [], tu [(s "s" 1278), (s "found" 1279), (s "stack" 1280), (s "node" 1281), (s "part" 1282)], tu [], fi (f 100) "substatements" 0 nn nn nn, co [(s "substatements" 1275), (s "substatements" 1276), (s "/claim/cut.py" 1277), (i 725 0), (i 1 0), (i 0 0), (i 0 0), (i 3 0), (r 776), (b true), (i 181 0), (r 777), nn, (r 778), (r 779), (r 780), (i 1283 0), (i 725 0), (s "/claim/cut.py" 1284)], fu (f 100) "substatements" 3 nn (s "gateloom.walks" 1212) (r 781), tu [], fl [], fi (f 101) "stmt_targets" 0 nn nn nn, co [(s "stmt_targets" 1286), (s "stmt_targets" 1287), (s "/claim/cut.py" 1288), (i 736 0), (i 1 0), (i 0 0), (i 0 0), (i 3 0), (r 783), (b true), (i 181 0), (r 784), nn, nn, nn, (r 785), (i 1289 0), (i 736 0), (s "/claim/cut.py" 1290)], fu (f 101) "stmt_targets" 3 nn (s "gateloom.walks" 1212) (r 786), tu [], fl [], tu [(s "s" 1295), (s "tag" 1296), (s "found" 1297), (s "row" 1298), (s "arg" 1299), (s "lv" 1300)], tu [], fi (f 102) "stmt_exprs" 0 nn nn nn, co [(s "stmt_exprs" 1292), (s "stmt_exprs" 1293), (s "/claim/cut.py" 1294), (i 742 0), (i 1 0), (i 0 0), (i 0 0), (i 3 0), (r 788), (b true), (i 181 0), (r 789), nn, (r 790), (r 791), (r 792), (i 1301 0), (i 742 0), (s "/claim/cut.py" 1302)], fu (f 102) "stmt_exprs" 3 nn (s "gateloom.walks" 1212) (r 793), tu [], fl [], tu [(s "s" 1307), (s "keys" 1308), (s "node" 1309), (s "e" 1310), (s "key" 1311)], tu [], fi (f 103) "stmt_reads" 0 nn nn nn, co [(s "stmt_reads" 1304), (s "stmt_reads" 1305), (s "/claim/cut.py" 1306), (i 767 0), (i 1 0), (i 0 0), (i 0 0), (i 3 0), (r 795), (b true), (i 181 0), (r 796), nn, (r 797), (r 798), (r 799), (i 1312 0), (i 767 0), (s "/claim/cut.py" 1313)], fu (f 103) "stmt_reads" 3 nn (s "gateloom.walks" 1212) (r 800), tu [], fl [], tu [(s "s" 1318), (s "keys" 1319), (s "node" 1320), (s "lv" 1321), (s "key" 1322)], tu [], fi (f 104) "stmt_writes" 0 nn nn nn, co [(s "stmt_writes" 1315), (s "stmt_writes" 1316), (s "/claim/cut.py" 1317), (i 774 0), (i 1 0), (i 0 0), (i 0 0), (i 3 0), (r 802), (b true), (i 181 0), (r 803), nn, (r 804), (r 805), (r 806), (i 1323 0), (i 774 0), (s "/claim/cut.py" 1324)], fu (f 104) "stmt_writes" 3 nn (s "gateloom.walks" 1212) (r 807), tu [], fl [], tu [(s "s" 1329), (s "numbers" 1330), (s "node" 1331), (s "e" 1332), (s "number" 1333)], tu [], fi (f 105) "stmt_calls" 0 nn nn nn, co [(s "stmt_calls" 1326), (s "stmt_calls" 1327), (s "/claim/cut.py" 1328), (i 781 0), (i 1 0), (i 0 0), (i 0 0), (i 3 0), (r 809), (b true), (i 181 0), (r 810), nn, (r 811), (r 812), (r 813), (i 1334 0), (i 781 0), (s "/claim/cut.py" 1335)], fu (f 105) "stmt_calls" 3 nn (s "gateloom.walks" 1212) (r 814), tu [], fl [], tu [(s "e" 1344), (s "name" 1345), (s "index" 1346)], tu [], fi (f 108) "last_select" 0 nn nn nn, co [(s "last_select" 1341), (s "last_select" 1342), (s "/claim/cut.py" 1343), (i 792 0), (i 1 0), (i 0 0), (i 0 0), (i 3 0), (r 816), (b true), (i 181 0), (r 817), nn, (r 818), (r 819), (r 820), (i 1347 0), (i 792 0), (s "/claim/cut.py" 1348)], fu (f 108) "last_select" 3 nn (s "gateloom.elabparts" 1337) (r 821), tu [], fl [], tu [(s "scope" 1353), (s "entry" 1354)], tu [], fi (f 109) "is_memory" 0 nn nn nn, co [(s "is_memory" 1350), (s "is_memory" 1351), (s "/claim/cut.py" 1352), (i 797 0), (i 2 0), (i 0 0), (i 0 0), (i 3 0), (r 823), (b true), (i 181 0), (r 824), nn, (r 825), (r 826), (r 827), (i 1355 0), (i 797 0), (s "/claim/cut.py" 1356)], fu (f 109) "is_memory" 3 nn (s "gateloom.elabparts" 1337) (r 828), tu [], fl [], tu [(s "scope" 1361), (s "entry" 1362), (s "at" 1363), (s "signal" 1364)], tu [], fi (f 110) "shape" 0 nn nn nn, co [(s "shape" 1358), (s "shape" 1359), (s "/claim/cut.py" 1360), (i 799 0), (i 3 0), (i 0 0), (i 0 0), (i 3 0), (r 830), (b true), (i 181 0), (r 831), nn, (r 832), (r 833), (r 834), (i 1365 0), (i 799 0), (s "/claim/cut.py" 1366)], fu (f 110) "shape" 3 nn (s "gateloom.elabparts" 1337) (r 835), tu [], fl [], tu [(s "scope" 1371), (s "entry" 1372), (s "word" 1373), (s "width" 1374)], tu [], fi (f 111) "read_entry" 0 nn nn nn, co [(s "read_entry" 1368), (s "read_entry" 1369), (s "/claim/cut.py" 1370), (i 812 0), (i 3 0), (i 0 0), (i 0 0), (i 3 0), (r 837), (b true), (i 181 0), (r 838), nn, (r 839), (r 840), (r 841), (i 1375 0), (i 812 0), (s "/claim/cut.py" 1376)], fu (f 111) "read_entry" 3 nn (s "gateloom.elabparts" 1337) (r 842)]
noncomputable def ch14 (P : Params) : List DictEntry := [e P "target_writes" 1268 (r 770), e P "stmt_parts" 1274 (r 775), e P "substatements" 1285 (r 782), e P "stmt_targets" 1291 (r 787), e P "stmt_exprs" 1303 (r 794), e P "stmt_reads" 1314 (r 801), e P "stmt_writes" 1325 (r 808), e P "stmt_calls" 1336 (r 815), e P "MAX_WIDTH" 1340 (i 65536 1339), e P "last_select" 1349 (r 822), e P "is_memory" 1357 (r 829), e P "shape" 1367 (r 836), e P "read_entry" 1377 (r 843)]
noncomputable def d14 (P : Params) : Obj := di (e P "__name__" 165 (s "gateloom.elabparts" 1337) :: ap (ch0 P) (ap (ch1 P) (ap (ch2 P) (ap (ch3 P) (ap (ch4 P) (ap (ch5 P) (ap (ch6 P) (ap (ch7 P) (ap (ch8 P) (ap (ch9 P) (ap (ch10 P) (ap (ch11 P) (ap (ch12 P) (ap (ch13 P) (ch14 P))))))))))))))) 112
noncomputable def vc13 : List Value := [(i 701 0), (i 0 0), (r 769), (i 707 0), (i 0 0), (r 774), (i 725 0), (i 0 0), (r 781), (i 736 0), (i 0 0), (r 786), (i 742 0), (i 0 0), (r 793), (i 767 0), (i 0 0), (r 800), (i 774 0), (i 0 0), (r 807), (i 781 0), (i 0 0), (r 814), (i 792 0), (i 0 0), (r 821), (i 797 0), (i 0 0), (r 828), (i 799 0), (i 0 0), (r 835), (i 812 0), (i 0 0), (r 842)]
noncomputable def g14 : Obj := ⟨.none, none, .fields ⟨apv vc0 (apv vc1 (apv vc2 (apv vc3 (apv vc4 (apv vc5 (apv vc6 (apv vc7 (apv vc8 (apv vc9 (apv vc10 (apv vc11 (apv vc12 (vc13)))))))))))))⟩, #[]⟩
noncomputable def T14 (P : Params) : BT := ((insL (T13 P) 764 (os14 P)).set 3 (fun _ => d14 P)).set 12 (fun _ => g14)
noncomputable def st14 (w : World) (os : OsState) : SharedT := ⟨T14 w.params, 844, life0, #[], {}, 1378, os⟩
noncomputable def sl14 : List Stmt := sl 98 14 bE
noncomputable def os15 (P : Params) : List Obj := [tu [], fl [], tu [(s "e" 1381)], tu [], fi (f 112) "folds" 0 nn nn nn, co [(s "folds" 1378), (s "folds" 1379), (s "/claim/cut.py" 1380), (i 823 0), (i 1 0), (i 0 0), (i 0 0), (i 3 0), (r 844), (b true), (i 181 0), (r 845), nn, (r 846), (r 847), (r 848), (i 1382 0), (i 823 0), (s "/claim/cut.py" 1383)], fu (f 112) "folds" 3 nn (s "gateloom.elabparts" 1337) (r 849), tu [], fl [], tu [(s "e" 1388), (s "part" 1389)], tu [], fi (f 113) "folded" 0 nn nn nn, co [(s "folded" 1385), (s "folded" 1386), (s "/claim/cut.py" 1387), (i 827 0), (i 1 0), (i 0 0), (i 0 0), (i 3 0), (r 851), (b true), (i 181 0), (r 852), nn, (r 853), (r 854), (r 855), (i 1390 0), (i 827 0), (s "/claim/cut.py" 1391)], fu (f 113) "folded" 3 nn (s "gateloom.elabparts" 1337) (r 856), tu [], fl [], tu [(s "width" 1396), (s "at" 1397)], tu [], fi (f 114) "checked_width" 0 nn nn nn, co [(s "checked_width" 1393), (s "checked_width" 1394), (s "/claim/cut.py" 1395), (i 834 0), (i 2 0), (i 0 0), (i 0 0), (i 3 0), (r 858), (b true), (i 181 0), (r 859), nn, (r 860), (r 861), (r 862), (i 1398 0), (i 834 0), (s "/claim/cut.py" 1399)], fu (f 114) "checked_width" 3 nn (s "gateloom.elabparts" 1337) (r 863), tu [], fl [], tu [(s "value" 1404), (s "width" 1405), (s "where" 1406)], tu [], fi (f 115) "selected" 0 nn nn nn, co [(s "selected" 1401), (s "selected" 1402), (s "/claim/cut.py" 1403), (i 840 0), (i 3 0), (i 0 0), (i 0 0), (i 3 0), (r 865), (b true), (i 181 0), (r 866), nn, (r 867), (r 868), (r 869), (i 1407 0), (i 840 0), (s "/claim/cut.py" 1408)], fu (f 115) "selected" 3 nn (s "gateloom.elabparts" 1337) (r 870), tu [], fl [], tu [(s "text" 1413), (s "value" 1414), (s "sign" 1415)], tu [], fi (f 116) "text_vec" 0 nn nn nn, co [(s "text_vec" 1410), (s "text_vec" 1411), (s "/claim/cut.py" 1412), (i 844 0), (i 1 0), (i 0 0), (i 0 0), (i 3 0), (r 872), (b true), (i 181 0), (r 873), nn, (r 874), (r 875), (r 876), (i 1416 0), (i 844 0), (s "/claim/cut.py" 1417)], fu (f 116) "text_vec" 3 nn (s "gateloom.elabparts" 1337) (r 877), tu [], fl [], tu [(s "e" 1422)], tu [], fi (f 117) "inner_join" 0 nn nn nn, co [(s "inner_join" 1419), (s "inner_join" 1420), (s "/claim/cut.py" 1421), (i 849 0), (i 1 0), (i 0 0), (i 0 0), (i 3 0), (r 879), (b true), (i 181 0), (r 880), nn, (r 881), (r 882), (r 883), (i 1423 0), (i 849 0), (s "/claim/cut.py" 1424)], fu (f 117) "inner_join" 3 nn (s "gateloom.elabparts" 1337) (r 884), tu [], fl [], tu [(s "op" 1429)], tu [], fi (f 118) "is_context_operator" 0 nn nn nn, co [(s "is_context_operator" 1426), (s "is_context_operator" 1427), (s "/claim/cut.py" 1428), (i 851 0), (i 1 0), (i 0 0), (i 0 0), (i 3 0), (r 886), (b true), (i 181 0), (r 887), nn, (r 888), (r 889), (r 890), (i 1430 0), (i 851 0), (s "/claim/cut.py" 1431)], fu (f 118) "is_context_operator" 3 nn (s "gateloom.elabparts" 1337) (r 891), tu [], fl [], tu [(s "op" 1436)], tu [], fi (f 119) "is_shift" 0 nn nn nn, co [(s "is_shift" 1433), (s "is_shift" 1434), (s "/claim/cut.py" 1435), (i 853 0), (i 1 0), (i 0 0), (i 0 0), (i 3 0), (r 893), (b true), (i 181 0), (r 894), nn, (r 895), (r 896), (r 897), (i 1437 0), (i 853 0), (s "/claim/cut.py" 1438)], fu (f 119) "is_shift" 3 nn (s "gateloom.elabparts" 1337) (r 898), tu [], fl [], tu [(s "value" 1443), (s "w" 1444), (s "signed" 1445)], tu [], fi (f 120) "widen" 0 nn nn nn, co [(s "widen" 1440), (s "widen" 1441), (s "/claim/cut.py" 1442), (i 855 0), (i 3 0), (i 0 0), (i 0 0), (i 3 0), (r 900), (b true), (i 181 0), (r 901), nn, (r 902), (r 903), (r 904), (i 1446 0), (i 855 0), (s "/claim/cut.py" 1447)], fu (f 120) "widen" 3 nn (s "gateloom.elabparts" 1337) (r 905), tu [], fl [], tu [(s "e" 1452), (s "w" 1453), (s "signed" 1454), (s "number" 1455), (s "fill" 1456)], tu [], fi (f 121) "number_value" 0 nn nn nn, co [(s "number_value" 1449), (s "number_value" 1450), (s "/claim/cut.py" 1451), (i 859 0), (i 3 0), (i 0 0), (i 0 0), (i 3 0), (r 907), (b true), (i 181 0), (r 908), nn, (r 909), (r 910), (r 911), (i 1457 0), (i 859 0), (s "/claim/cut.py" 1458)], fu (f 121) "number_value" 3 nn (s "gateloom.elabparts" 1337) (r 912), tu [], fl [], tu [(s "design" 1463), (s "e" 1464), (s "node" 1465), (s "numbers" 1466), (s "seen" 1467), (s "n" 1468), (s "body" 1469)], tu [], fi (f 122) "is_constant" 0 nn nn nn, co [(s "is_constant" 1460), (s "is_constant" 1461), (s "/claim/cut.py" 1462), (i 863 0), (i 2 0), (i 0 0), (i 0 0), (i 3 0), (r 914), (b true), (i 181 0), (r 915), nn, (r 916), (r 917), (r 918), (i 1470 0), (i 863 0), (s "/claim/cut.py" 1471)], fu (f 122) "is_constant" 3 nn (s "gateloom.elabparts" 1337) (r 919), tu [], fl [], tu [(s "scope" 1478), (s "e" 1479), (s "names" 1480), (s "name" 1481), (s "index" 1482)], tu [], fi (f 124) "path_names" 0 nn nn nn, co [(s "path_names" 1475), (s "path_names" 1476), (s "/claim/cut.py" 1477), (i 881 0), (i 2 0), (i 0 0), (i 0 0), (i 3 0), (r 921), (b true), (i 181 0), (r 922), nn, (r 923), (r 924), (r 925), (i 1483 0), (i 881 0), (s "/claim/cut.py" 1484)], fu (f 124) "path_names" 3 nn (s "gateloom.elabexpr" 1473) (r 926)]
noncomputable def ch15 (P : Params) : List DictEntry := [e P "folds" 1384 (r 850), e P "folded" 1392 (r 857), e P "checked_width" 1400 (r 864), e P "selected" 1409 (r 871), e P "text_vec" 1418 (r 878), e P "inner_join" 1425 (r 885), e P "is_context_operator" 1432 (r 892), e P "is_shift" 1439 (r 899), e P "widen" 1448 (r 906), e P "number_value" 1459 (r 913), e P "is_constant" 1472 (r 920), e P "path_names" 1485 (r 927)]
noncomputable def d15 (P : Params) : Obj := di (e P "__name__" 165 (s "gateloom.elabexpr" 1473) :: ap (ch0 P) (ap (ch1 P) (ap (ch2 P) (ap (ch3 P) (ap (ch4 P) (ap (ch5 P) (ap (ch6 P) (ap (ch7 P) (ap (ch8 P) (ap (ch9 P) (ap (ch10 P) (ap (ch11 P) (ap (ch12 P) (ap (ch13 P) (ap (ch14 P) (ch15 P)))))))))))))))) 124
noncomputable def vc14 : List Value := [(i 823 0), (i 0 0), (r 849), (i 827 0), (i 0 0), (r 856), (i 834 0), (i 0 0), (r 863), (i 840 0), (i 0 0), (r 870), (i 844 0), (i 0 0), (r 877), (i 849 0), (i 0 0), (r 884), (i 851 0), (i 0 0), (r 891), (i 853 0), (i 0 0), (r 898), (i 855 0), (i 0 0), (r 905), (i 859 0), (i 0 0), (r 912), (i 863 0), (i 0 0), (r 919), (i 881 0), (i 0 0), (r 926)]
noncomputable def g15 : Obj := ⟨.none, none, .fields ⟨apv vc0 (apv vc1 (apv vc2 (apv vc3 (apv vc4 (apv vc5 (apv vc6 (apv vc7 (apv vc8 (apv vc9 (apv vc10 (apv vc11 (apv vc12 (apv vc13 (vc14))))))))))))))⟩, #[]⟩
noncomputable def T15 (P : Params) : BT := ((insL (T14 P) 844 (os15 P)).set 3 (fun _ => d15 P)).set 12 (fun _ => g15)
noncomputable def st15 (w : World) (os : OsState) : SharedT := ⟨T15 w.params, 928, life0, #[], {}, 1486, os⟩
noncomputable def sl15 : List Stmt := sl 112 13 bE
noncomputable def os16 (P : Params) : List Obj := [tu [], fl [], tu [(s "scope" 1489), (s "e" 1490), (s "entry" 1491)], tu [], fi (f 125) "entry_of" 0 nn nn nn, co [(s "entry_of" 1486), (s "entry_of" 1487), (s "/claim/cut.py" 1488), (i 888 0), (i 2 0), (i 0 0), (i 0 0), (i 3 0), (r 928), (b true), (i 181 0), (r 929), nn, (r 930), (r 931), (r 932), (i 1492 0), (i 888 0), (s "/claim/cut.py" 1493)], fu (f 125) "entry_of" 3 nn (s "gateloom.elabexpr" 1473) (r 933), tu [], fl [], tu [(s "scope" 1498), (s "e" 1499), (s "entry" 1500), (s "inner" 1501)], tu [], fi (f 126) "base_entry" 0 nn nn nn, co [(s "base_entry" 1495), (s "base_entry" 1496), (s "/claim/cut.py" 1497), (i 895 0), (i 2 0), (i 0 0), (i 0 0), (i 3 0), (r 935), (b true), (i 181 0), (r 936), nn, (r 937), (r 938), (r 939), (i 1502 0), (i 895 0), (s "/claim/cut.py" 1503)], fu (f 126) "base_entry" 3 nn (s "gateloom.elabexpr" 1473) (r 940), tu [], fl [], tu [(s "scope" 1508), (s "e" 1509)], tu [], fi (f 127) "select_width" 0 nn nn nn, co [(s "select_width" 1505), (s "select_width" 1506), (s "/claim/cut.py" 1507), (i 905 0), (i 2 0), (i 0 0), (i 0 0), (i 3 0), (r 942), (b true), (i 181 0), (r 943), nn, (r 944), (r 945), (r 946), (i 1510 0), (i 905 0), (s "/claim/cut.py" 1511)], fu (f 127) "select_width" 3 nn (s "gateloom.elabexpr" 1473) (r 947), tu [], fl [], tu [(s "scope" 1516), (s "e" 1517), (s "form" 1518), (s "msb" 1519), (s "lsb" 1520), (s "step" 1521), (s "left" 1522), (s "right" 1523), (s "width" 1524), (s "base" 1525), (s "index" 1526), (s "signed" 1527)], tu [], fi (f 128) "select_where" 0 nn nn nn, co [(s "select_where" 1513), (s "select_where" 1514), (s "/claim/cut.py" 1515), (i 911 0), (i 3 0), (i 0 0), (i 0 0), (i 3 0), (r 949), (b true), (i 181 0), (r 950), nn, (r 951), (r 952), (r 953), (i 1528 0), (i 911 0), (s "/claim/cut.py" 1529)], fu (f 128) "select_where" 3 nn (s "gateloom.elabexpr" 1473) (r 954), tu [], fl [], tu [(s "scope" 1534), (s "e" 1535), (s "entry" 1536), (s "inner" 1537)], tu [], fi (f 129) "named_type" 0 nn nn nn, co [(s "named_type" 1531), (s "named_type" 1532), (s "/claim/cut.py" 1533), (i 933 0), (i 2 0), (i 0 0), (i 0 0), (i 3 0), (r 956), (b true), (i 181 0), (r 957), nn, (r 958), (r 959), (r 960), (i 1538 0), (i 933 0), (s "/claim/cut.py" 1539)], fu (f 129) "named_type" 3 nn (s "gateloom.elabexpr" 1473) (r 961), tu [], fl [], tu [(s "scope" 1544), (s "e" 1545), (s "entry" 1546), (s "inner" 1547), (s "form" 1548), (s "word" 1549), (s "where" 1550)], tu [], fi (f 130) "named_value" 0 nn nn nn, co [(s "named_value" 1541), (s "named_value" 1542), (s "/claim/cut.py" 1543), (i 946 0), (i 2 0), (i 0 0), (i 0 0), (i 3 0), (r 963), (b true), (i 181 0), (r 964), nn, (r 965), (r 966), (r 967), (i 1551 0), (i 946 0), (s "/claim/cut.py" 1552)], fu (f 130) "named_value" 3 nn (s "gateloom.elabexpr" 1473) (r 968), tu [], fl [], tu [(s "scope" 1557), (s "e" 1558), (s "entry" 1559), (s "routine" 1560)], tu [], fi (f 131) "function_of" 0 nn nn nn, co [(s "function_of" 1554), (s "function_of" 1555), (s "/claim/cut.py" 1556), (i 965 0), (i 2 0), (i 0 0), (i 0 0), (i 3 0), (r 970), (b true), (i 181 0), (r 971), nn, (r 972), (r 973), (r 974), (i 1561 0), (i 965 0), (s "/claim/cut.py" 1562)], fu (f 131) "function_of" 3 nn (s "gateloom.elabexpr" 1473) (r 975), tu [], fl [], tu [(s "scope" 1567), (s "e" 1568), (s "routine" 1569), (s "args" 1570), (s "at" 1571), (s "port" 1572)], tu [], fi (f 132) "call_value" 0 nn nn nn, co [(s "call_value" 1564), (s "call_value" 1565), (s "/claim/cut.py" 1566), (i 977 0), (i 2 0), (i 0 0), (i 0 0), (i 3 0), (r 977), (b true), (i 181 0), (r 978), nn, (r 979), (r 980), (r 981), (i 1573 0), (i 977 0), (s "/claim/cut.py" 1574)], fu (f 132) "call_value" 3 nn (s "gateloom.elabexpr" 1473) (r 982), tu [], fl [], tu [(s "scope" 1579), (s "e" 1580), (s "name" 1581), (s "count" 1582)], tu [], fi (f 133) "system_type" 0 nn nn nn, co [(s "system_type" 1576), (s "system_type" 1577), (s "/claim/cut.py" 1578), (i 985 0), (i 2 0), (i 0 0), (i 0 0), (i 3 0), (r 984), (b true), (i 181 0), (r 985), nn, (r 986), (r 987), (r 988), (i 1583 0), (i 985 0), (s "/claim/cut.py" 1584)], fu (f 133) "system_type" 3 nn (s "gateloom.elabexpr" 1473) (r 989), tu [], fl [], tu [(s "scope" 1589), (s "e" 1590), (s "width" 1591), (s "args" 1592), (s "arg" 1593)], tu [], fi (f 134) "system_value" 0 nn nn nn, co [(s "system_value" 1586), (s "system_value" 1587), (s "/claim/cut.py" 1588), (i 1003 0), (i 2 0), (i 0 0), (i 0 0), (i 3 0), (r 991), (b true), (i 181 0), (r 992), nn, (r 993), (r 994), (r 995), (i 1594 0), (i 1003 0), (s "/claim/cut.py" 1595)], fu (f 134) "system_value" 3 nn (s "gateloom.elabexpr" 1473) (r 996), tu [], fl [], tu [(s "scope" 1601), (s "e" 1602), (s "parts" 1603), (s "part" 1604)], tu [], fi (f 136) "joined_parts" 0 nn nn nn, co [(s "joined_parts" 1598), (s "joined_parts" 1599), (s "/claim/cut.py" 1600), (i 1012 0), (i 2 0), (i 0 0), (i 0 0), (i 3 0), (r 998), (b true), (i 181 0), (r 999), nn, (r 1000), (r 1001), (r 1002), (i 1605 0), (i 1012 0), (s "/claim/cut.py" 1606)], fu (f 136) "joined_parts" 3 nn (s "gateloom.elabexpr" 1473) (r 1003)]
noncomputable def ch16 (P : Params) : List DictEntry := [e P "unary" 911 (r 530), e P "arithmetic" 921 (r 537), e P "comparison" 931 (r 544), e P "bitwise" 940 (r 551), e P "binary" 951 (r 558), e P "whole_of" 960 (r 565), e P "memory_word" 970 (r 572), e P "picked" 980 (r 579), e P "conditional" 990 (r 586), e P "bits_needed" 998 (r 593), e P "system_value" 1009 (r 997), e P "system_value_evaluate" 1010 (r 600), e P "evaluate" 1016 (r 605)]
noncomputable def ch17 (P : Params) : List DictEntry := [e P "entry_of" 1494 (r 934), e P "base_entry" 1504 (r 941), e P "select_width" 1512 (r 948), e P "select_where" 1530 (r 955), e P "named_type" 1540 (r 962), e P "named_value" 1553 (r 969), e P "function_of" 1563 (r 976), e P "call_value" 1575 (r 983), e P "system_type" 1585 (r 990), e P "system_value_elabexpr" 1597 (r 997), e P "joined_parts" 1607 (r 1004)]
noncomputable def d16 (P : Params) : Obj := di (e P "__name__" 165 (s "gateloom.elabexpr" 1473) :: ap (ch0 P) (ap (ch1 P) (ap (ch2 P) (ap (ch3 P) (ap (ch4 P) (ap (ch5 P) (ap (ch6 P) (ap (ch7 P) (ap (ch8 P) (ap (ch9 P) (ap (ch16 P) (ap (ch11 P) (ap (ch12 P) (ap (ch13 P) (ap (ch14 P) (ap (ch15 P) (ch17 P))))))))))))))))) 135
noncomputable def vc15 : List Value := [(i 888 0), (i 0 0), (r 933), (i 895 0), (i 0 0), (r 940), (i 905 0), (i 0 0), (r 947), (i 911 0), (i 0 0), (r 954), (i 933 0), (i 0 0), (r 961), (i 946 0), (i 0 0), (r 968), (i 965 0), (i 0 0), (r 975), (i 977 0), (i 0 0), (r 982), (i 985 0), (i 0 0), (r 989), (i 1003 0), (i 0 0), (r 996), (i 1012 0), (i 0 0), (r 1003)]
noncomputable def g16 : Obj := ⟨.none, none, .fields ⟨apv vc0 (apv vc1 (apv vc2 (apv vc3 (apv vc4 (apv vc5 (apv vc6 (apv vc7 (apv vc8 (apv vc9 (apv vc10 (apv vc11 (apv vc12 (apv vc13 (apv vc14 (vc15)))))))))))))))⟩, #[]⟩
noncomputable def T16 (P : Params) : BT := ((insL (T15 P) 928 (os16 P)).set 3 (fun _ => d16 P)).set 12 (fun _ => g16)
noncomputable def st16 (w : World) (os : OsState) : SharedT := ⟨T16 w.params, 1005, life0, #[], {}, 1608, os⟩
noncomputable def sl16 : List Stmt := sl 125 12 bE
noncomputable def os17 (P : Params) : List Obj := [tu [], fl [], tu [(s "scope" 1611), (s "e" 1612), (s "n" 1613)], tu [], fi (f 137) "copies" 0 nn nn nn, co [(s "copies" 1608), (s "copies" 1609), (s "/claim/cut.py" 1610), (i 1022 0), (i 2 0), (i 0 0), (i 0 0), (i 3 0), (r 1005), (b true), (i 181 0), (r 1006), nn, (r 1007), (r 1008), (r 1009), (i 1614 0), (i 1022 0), (s "/claim/cut.py" 1615)], fu (f 137) "copies" 3 nn (s "gateloom.elabexpr" 1473) (r 1010), tu [], fl [], tu [(s "scope" 1620), (s "e" 1621), (s "width" 1622), (s "part" 1623)], tu [], fi (f 138) "joined_width" 0 nn nn nn, co [(s "joined_width" 1617), (s "joined_width" 1618), (s "/claim/cut.py" 1619), (i 1027 0), (i 2 0), (i 0 0), (i 0 0), (i 3 0), (r 1012), (b true), (i 181 0), (r 1013), nn, (r 1014), (r 1015), (r 1016), (i 1624 0), (i 1027 0), (s "/claim/cut.py" 1625)], fu (f 138) "joined_width" 3 nn (s "gateloom.elabexpr" 1473) (r 1017), tu [], fl [], tu [(s "scope" 1630), (s "e" 1631), (s "width" 1632), (s "parts" 1633), (s "part" 1634)], tu [], fi (f 139) "joined_value" 0 nn nn nn, co [(s "joined_value" 1627), (s "joined_value" 1628), (s "/claim/cut.py" 1629), (i 1034 0), (i 2 0), (i 0 0), (i 0 0), (i 3 0), (r 1019), (b true), (i 181 0), (r 1020), nn, (r 1021), (r 1022), (r 1023), (i 1635 0), (i 1034 0), (s "/claim/cut.py" 1636)], fu (f 139) "joined_value" 3 nn (s "gateloom.elabexpr" 1473) (r 1024), tu [], fl [], tu [(s "scope" 1641), (s "left" 1642), (s "right" 1643), (s "one" 1644), (s "other" 1645)], tu [], fi (f 140) "both_types" 0 nn nn nn, co [(s "both_types" 1638), (s "both_types" 1639), (s "/claim/cut.py" 1640), (i 1042 0), (i 3 0), (i 0 0), (i 0 0), (i 3 0), (r 1026), (b true), (i 181 0), (r 1027), nn, (r 1028), (r 1029), (r 1030), (i 1646 0), (i 1042 0), (s "/claim/cut.py" 1647)], fu (f 140) "both_types" 3 nn (s "gateloom.elabexpr" 1473) (r 1031), tu [], fl [], tu [(s "scope" 1652), (s "e" 1653), (s "tag" 1654), (s "routine" 1655)], tu [], fi (f 141) "expr_type" 0 nn nn nn, co [(s "expr_type" 1649), (s "expr_type" 1650), (s "/claim/cut.py" 1651), (i 1046 0), (i 2 0), (i 0 0), (i 0 0), (i 3 0), (r 1033), (b true), (i 181 0), (r 1034), nn, (r 1035), (r 1036), (r 1037), (i 1656 0), (i 1046 0), (s "/claim/cut.py" 1657)], fu (f 141) "expr_type" 3 nn (s "gateloom.elabexpr" 1473) (r 1038), tu [], fl [], tu [(s "scope" 1662), (s "e" 1663), (s "w" 1664), (s "signed" 1665), (s "op" 1666)], tu [], fi (f 142) "unary_value" 0 nn nn nn, co [(s "unary_value" 1659), (s "unary_value" 1660), (s "/claim/cut.py" 1661), (i 1074 0), (i 4 0), (i 0 0), (i 0 0), (i 3 0), (r 1040), (b true), (i 181 0), (r 1041), nn, (r 1042), (r 1043), (r 1044), (i 1667 0), (i 1074 0), (s "/claim/cut.py" 1668)], fu (f 142) "unary_value" 3 nn (s "gateloom.elabexpr" 1473) (r 1045), tu [], fl [], tu [(s "scope" 1673), (s "e" 1674), (s "w" 1675), (s "signed" 1676), (s "op" 1677), (s "left" 1678), (s "right" 1679), (s "right_signed" 1680), (s "width" 1681), (s "both" 1682)], tu [], fi (f 143) "binary_value" 0 nn nn nn, co [(s "binary_value" 1670), (s "binary_value" 1671), (s "/claim/cut.py" 1672), (i 1081 0), (i 4 0), (i 0 0), (i 0 0), (i 3 0), (r 1047), (b true), (i 181 0), (r 1048), nn, (r 1049), (r 1050), (r 1051), (i 1683 0), (i 1081 0), (s "/claim/cut.py" 1684)], fu (f 143) "binary_value" 3 nn (s "gateloom.elabexpr" 1473) (r 1052), tu [], fl [], tu [(s "scope" 1689), (s "e" 1690), (s "w" 1691), (s "signed" 1692), (s "tag" 1693), (s "test" 1694), (s "then" 1695), (s "value" 1696)], tu [], fi (f 144) "build" 0 nn nn nn, co [(s "build" 1686), (s "build" 1687), (s "/claim/cut.py" 1688), (i 1100 0), (i 4 0), (i 0 0), (i 0 0), (i 3 0), (r 1054), (b true), (i 181 0), (r 1055), nn, (r 1056), (r 1057), (r 1058), (i 1697 0), (i 1100 0), (s "/claim/cut.py" 1698)], fu (f 144) "build" 3 nn (s "gateloom.elabexpr" 1473) (r 1059), tu [], fl [], tu [(s "scope" 1703), (s "e" 1704), (s "width" 1705), (s "signed" 1706)], tu [], fi (f 145) "self_determined" 0 nn nn nn, co [(s "self_determined" 1700), (s "self_determined" 1701), (s "/claim/cut.py" 1702), (i 1123 0), (i 2 0), (i 0 0), (i 0 0), (i 3 0), (r 1061), (b true), (i 181 0), (r 1062), nn, (r 1063), (r 1064), (r 1065), (i 1707 0), (i 1123 0), (s "/claim/cut.py" 1708)], fu (f 145) "self_determined" 3 nn (s "gateloom.elabexpr" 1473) (r 1066), tu [], fl [], tu [(s "scope" 1713), (s "e" 1714), (s "w" 1715), (s "width" 1716), (s "signed" 1717)], tu [], fi (f 146) "sized" 0 nn nn nn, co [(s "sized" 1710), (s "sized" 1711), (s "/claim/cut.py" 1712), (i 1126 0), (i 3 0), (i 0 0), (i 0 0), (i 3 0), (r 1068), (b true), (i 181 0), (r 1069), nn, (r 1070), (r 1071), (r 1072), (i 1718 0), (i 1126 0), (s "/claim/cut.py" 1719)], fu (f 146) "sized" 3 nn (s "gateloom.elabexpr" 1473) (r 1073), tu [], fl [], tu [(s "scope" 1724), (s "value" 1725), (s "at" 1726), (s "store" 1727)], tu [], fi (f 147) "constant_vec" 0 nn nn nn, co [(s "constant_vec" 1721), (s "constant_vec" 1722), (s "/claim/cut.py" 1723), (i 1129 0), (i 3 0), (i 0 0), (i 0 0), (i 3 0), (r 1075), (b true), (i 181 0), (r 1076), nn, (r 1077), (r 1078), (r 1079), (i 1728 0), (i 1129 0), (s "/claim/cut.py" 1729)], fu (f 147) "constant_vec" 3 nn (s "gateloom.elabexpr" 1473) (r 1080), tu [], fl [], tu [(s "scope" 1734), (s "e" 1735), (s "value" 1736), (s "signed" 1737)], tu [], fi (f 148) "constant" 0 nn nn nn, co [(s "constant" 1731), (s "constant" 1732), (s "/claim/cut.py" 1733), (i 1136 0), (i 2 0), (i 0 0), (i 0 0), (i 3 0), (r 1082), (b true), (i 181 0), (r 1083), nn, (r 1084), (r 1085), (r 1086), (i 1738 0), (i 1136 0), (s "/claim/cut.py" 1739)], fu (f 148) "constant" 3 nn (s "gateloom.elabexpr" 1473) (r 1087)]
noncomputable def ch18 (P : Params) : List DictEntry := [e P "copies" 1616 (r 1011), e P "joined_width" 1626 (r 1018), e P "joined_value" 1637 (r 1025), e P "both_types" 1648 (r 1032), e P "expr_type" 1658 (r 1039), e P "unary_value" 1669 (r 1046), e P "binary_value" 1685 (r 1053), e P "build" 1699 (r 1060), e P "self_determined" 1709 (r 1067), e P "sized" 1720 (r 1074), e P "constant_vec" 1730 (r 1081), e P "constant" 1740 (r 1088)]
noncomputable def d17 (P : Params) : Obj := di (e P "__name__" 165 (s "gateloom.elabexpr" 1473) :: ap (ch0 P) (ap (ch1 P) (ap (ch2 P) (ap (ch3 P) (ap (ch4 P) (ap (ch5 P) (ap (ch6 P) (ap (ch7 P) (ap (ch8 P) (ap (ch9 P) (ap (ch16 P) (ap (ch11 P) (ap (ch12 P) (ap (ch13 P) (ap (ch14 P) (ap (ch15 P) (ap (ch17 P) (ch18 P)))))))))))))))))) 147
noncomputable def vc16 : List Value := [(i 1022 0), (i 0 0), (r 1010), (i 1027 0), (i 0 0), (r 1017), (i 1034 0), (i 0 0), (r 1024), (i 1042 0), (i 0 0), (r 1031), (i 1046 0), (i 0 0), (r 1038), (i 1074 0), (i 0 0), (r 1045), (i 1081 0), (i 0 0), (r 1052), (i 1100 0), (i 0 0), (r 1059), (i 1123 0), (i 0 0), (r 1066), (i 1126 0), (i 0 0), (r 1073), (i 1129 0), (i 0 0), (r 1080), (i 1136 0), (i 0 0), (r 1087)]
noncomputable def g17 : Obj := ⟨.none, none, .fields ⟨apv vc0 (apv vc1 (apv vc2 (apv vc3 (apv vc4 (apv vc5 (apv vc6 (apv vc7 (apv vc8 (apv vc9 (apv vc10 (apv vc11 (apv vc12 (apv vc13 (apv vc14 (apv vc15 (vc16))))))))))))))))⟩, #[]⟩
noncomputable def T17 (P : Params) : BT := ((insL (T16 P) 1005 (os17 P)).set 3 (fun _ => d17 P)).set 12 (fun _ => g17)
noncomputable def st17 (w : World) (os : OsState) : SharedT := ⟨T17 w.params, 1089, life0, #[], {}, 1741, os⟩
noncomputable def sl17 : List Stmt := sl 137 12 bE
noncomputable def os18 (P : Params) : List Obj := [tu [], fl [], tu [(s "scope" 1744), (s "e" 1745), (s "value" 1746), (s "signed" 1747), (s "number" 1748)], tu [], fi (f 149) "whole" 0 nn nn nn, co [(s "whole" 1741), (s "whole" 1742), (s "/claim/cut.py" 1743), (i 1139 0), (i 2 0), (i 0 0), (i 0 0), (i 3 0), (r 1089), (b true), (i 181 0), (r 1090), nn, (r 1091), (r 1092), (r 1093), (i 1749 0), (i 1139 0), (s "/claim/cut.py" 1750)], fu (f 149) "whole" 3 nn (s "gateloom.elabexpr" 1473) (r 1094), tu [], fl [], tu [(s "scope" 1755), (s "bounds" 1756), (s "msb" 1757), (s "lsb" 1758)], tu [], fi (f 150) "range_of" 0 nn nn nn, co [(s "range_of" 1752), (s "range_of" 1753), (s "/claim/cut.py" 1754), (i 1145 0), (i 2 0), (i 0 0), (i 0 0), (i 3 0), (r 1096), (b true), (i 181 0), (r 1097), nn, (r 1098), (r 1099), (r 1100), (i 1759 0), (i 1145 0), (s "/claim/cut.py" 1760)], fu (f 150) "range_of" 3 nn (s "gateloom.elabexpr" 1473) (r 1101), tu [], fl [], tu [(s "block" 1769), (s "number" 1770)], tu [], fi (f 153) "block_label" 0 nn nn nn, co [(s "block_label" 1766), (s "block_label" 1767), (s "/claim/cut.py" 1768), (i 1154 0), (i 2 0), (i 0 0), (i 0 0), (i 3 0), (r 1103), (b true), (i 181 0), (r 1104), nn, (r 1105), (r 1106), (r 1107), (i 1771 0), (i 1154 0), (s "/claim/cut.py" 1772)], fu (f 153) "block_label" 3 nn (s "gateloom.elabgen" 1762) (r 1108), tu [], fl [], tu [(s "scope" 1777), (s "item" 1778), (s "number" 1779)], tu [], fi (f 154) "branch_rows" 0 nn nn nn, co [(s "branch_rows" 1774), (s "branch_rows" 1775), (s "/claim/cut.py" 1776), (i 1158 0), (i 3 0), (i 0 0), (i 0 0), (i 3 0), (r 1110), (b true), (i 181 0), (r 1111), nn, (r 1112), (r 1113), (r 1114), (i 1780 0), (i 1158 0), (s "/claim/cut.py" 1781)], fu (f 154) "branch_rows" 3 nn (s "gateloom.elabgen" 1762) (r 1115), tu [], fl [], tu [(s "constants" 1786), (s "width" 1787), (s "signed" 1788), (s "vec" 1789), (s "is_signed" 1790)], tu [], fi (f 155) "common_type" 0 nn nn nn, co [(s "common_type" 1783), (s "common_type" 1784), (s "/claim/cut.py" 1785), (i 1166 0), (i 1 0), (i 0 0), (i 0 0), (i 3 0), (r 1117), (b true), (i 181 0), (r 1118), nn, (r 1119), (r 1120), (r 1121), (i 1791 0), (i 1166 0), (s "/claim/cut.py" 1792)], fu (f 155) "common_type" 3 nn (s "gateloom.elabgen" 1762) (r 1122), tu [], fl [], tu [(s "scope" 1797), (s "item" 1798), (s "subject" 1799), (s "default" 1800), (s "rows" 1801), (s "constants" 1802), (s "labels" 1803), (s "branch" 1804), (s "label" 1805), (s "width" 1806), (s "signed" 1807), (s "value" 1808), (s "vec" 1809)], tu [], fi (f 156) "case_branch" 0 nn nn nn, co [(s "case_branch" 1794), (s "case_branch" 1795), (s "/claim/cut.py" 1796), (i 1173 0), (i 2 0), (i 0 0), (i 0 0), (i 3 0), (r 1124), (b true), (i 181 0), (r 1125), nn, (r 1126), (r 1127), (r 1128), (i 1810 0), (i 1173 0), (s "/claim/cut.py" 1811)], fu (f 156) "case_branch" 3 nn (s "gateloom.elabgen" 1762) (r 1129), tu [], fl [], tu [(s "scope" 1816), (s "item" 1817), (s "name" 1818), (s "hidden" 1819), (s "values" 1820), (s "value" 1821)], tu [], fi (f 157) "loop_values" 0 nn nn nn, co [(s "loop_values" 1813), (s "loop_values" 1814), (s "/claim/cut.py" 1815), (i 1191 0), (i 2 0), (i 0 0), (i 0 0), (i 3 0), (r 1131), (b true), (i 181 0), (r 1132), nn, (r 1133), (r 1134), (r 1135), (i 1822 0), (i 1191 0), (s "/claim/cut.py" 1823)], fu (f 157) "loop_values" 3 nn (s "gateloom.elabgen" 1762) (r 1136), tu [], fl [], tu [(s "scope" 1828), (s "item" 1829), (s "number" 1830), (s "block" 1831), (s "label" 1832), (s "rows" 1833), (s "value" 1834)], tu [], fi (f 158) "loop_rows" 0 nn nn nn, co [(s "loop_rows" 1825), (s "loop_rows" 1826), (s "/claim/cut.py" 1827), (i 1210 0), (i 3 0), (i 0 0), (i 0 0), (i 3 0), (r 1138), (b true), (i 181 0), (r 1139), nn, (r 1140), (r 1141), (r 1142), (i 1835 0), (i 1210 0), (s "/claim/cut.py" 1836)], fu (f 158) "loop_rows" 3 nn (s "gateloom.elabgen" 1762) (r 1143), tu [(i 1 1838)], tu [], fl [], tu [(s "scope" 1842), (s "item" 1843), (s "number" 1844), (s "branch" 1845)], tu [], fi (f 159) "generate_choice" 0 nn nn nn, co [(s "generate_choice" 1839), (s "generate_choice" 1840), (s "/claim/cut.py" 1841), (i 1217 0), (i 3 0), (i 0 0), (i 0 0), (i 3 0), (r 1146), (b true), (i 181 0), (r 1147), nn, (r 1148), (r 1149), (r 1150), (i 1846 0), (i 1217 0), (s "/claim/cut.py" 1847)], fu (f 159) "generate_choice" 3 (r 1145) (s "gateloom.elabgen" 1762) (r 1151), tu [], fl [], tu [(s "scope" 1852), (s "item" 1853), (s "_" 1854), (s "at" 1855), (s "names" 1856), (s "value" 1857)], tu [], fi (f 160) "defparam_row" 0 nn nn nn, co [(s "defparam_row" 1849), (s "defparam_row" 1850), (s "/claim/cut.py" 1851), (i 1228 0), (i 2 0), (i 0 0), (i 0 0), (i 3 0), (r 1153), (b true), (i 181 0), (r 1154), nn, (r 1155), (r 1156), (r 1157), (i 1858 0), (i 1228 0), (s "/claim/cut.py" 1859)], fu (f 160) "defparam_row" 3 nn (s "gateloom.elabgen" 1762) (r 1158), tu [], fl [], tu [(s "scope" 1864), (s "name" 1865), (s "bounds" 1866), (s "at" 1867), (s "left" 1868), (s "right" 1869), (s "count" 1870), (s "step" 1871), (s "rows" 1872), (s "position" 1873)], tu [], fi (f 161) "instance_rows" 0 nn nn nn, co [(s "instance_rows" 1861), (s "instance_rows" 1862), (s "/claim/cut.py" 1863), (i 1233 0), (i 4 0), (i 0 0), (i 0 0), (i 3 0), (r 1160), (b true), (i 181 0), (r 1161), nn, (r 1162), (r 1163), (r 1164), (i 1874 0), (i 1233 0), (s "/claim/cut.py" 1875)], fu (f 161) "instance_rows" 3 nn (s "gateloom.elabgen" 1762) (r 1165)]
noncomputable def ch19 (P : Params) : List DictEntry := [e P "whole" 1751 (r 1095), e P "range_of" 1761 (r 1102), e P "MOST_TURNS" 1765 (i 256 1764), e P "block_label" 1773 (r 1109), e P "branch_rows" 1782 (r 1116), e P "common_type" 1793 (r 1123), e P "case_branch" 1812 (r 1130), e P "loop_values" 1824 (r 1137), e P "loop_rows" 1837 (r 1144), e P "generate_choice" 1848 (r 1152), e P "defparam_row" 1860 (r 1159), e P "instance_rows" 1876 (r 1166)]
noncomputable def d18 (P : Params) : Obj := di (e P "__name__" 165 (s "gateloom.elabgen" 1762) :: ap (ch0 P) (ap (ch1 P) (ap (ch2 P) (ap (ch3 P) (ap (ch4 P) (ap (ch5 P) (ap (ch6 P) (ap (ch7 P) (ap (ch8 P) (ap (ch9 P) (ap (ch16 P) (ap (ch11 P) (ap (ch12 P) (ap (ch13 P) (ap (ch14 P) (ap (ch15 P) (ap (ch17 P) (ap (ch18 P) (ch19 P))))))))))))))))))) 159
noncomputable def vc17 : List Value := [(i 1139 0), (i 0 0), (r 1094), (i 1145 0), (i 0 0), (r 1101), (i 1154 0), (i 0 0), (r 1108), (i 1158 0), (i 0 0), (r 1115), (i 1166 0), (i 0 0), (r 1122), (i 1173 0), (i 0 0), (r 1129), (i 1191 0), (i 0 0), (r 1136), (i 1210 0), (i 0 0), (r 1143), (i 1217 0), (i 0 0), (r 1151), (i 1228 0), (i 0 0), (r 1158), (i 1233 0), (i 0 0), (r 1165)]
noncomputable def g18 : Obj := ⟨.none, none, .fields ⟨apv vc0 (apv vc1 (apv vc2 (apv vc3 (apv vc4 (apv vc5 (apv vc6 (apv vc7 (apv vc8 (apv vc9 (apv vc10 (apv vc11 (apv vc12 (apv vc13 (apv vc14 (apv vc15 (apv vc16 (vc17)))))))))))))))))⟩, #[]⟩
noncomputable def T18 (P : Params) : BT := ((insL (T17 P) 1089 (os18 P)).set 3 (fun _ => d18 P)).set 12 (fun _ => g18)
noncomputable def st18 (w : World) (os : OsState) : SharedT := ⟨T18 w.params, 1167, life0, #[], {}, 1877, os⟩
noncomputable def sl18 : List Stmt := sl 149 13 bE
noncomputable def os19 (P : Params) : List Obj := []
noncomputable def d19 (P : Params) : Obj := di (e P "__name__" 165 (s "gateloom.design" 1877) :: ap (ch0 P) (ap (ch1 P) (ap (ch2 P) (ap (ch3 P) (ap (ch4 P) (ap (ch5 P) (ap (ch6 P) (ap (ch7 P) (ap (ch8 P) (ap (ch9 P) (ap (ch16 P) (ap (ch11 P) (ap (ch12 P) (ap (ch13 P) (ap (ch14 P) (ap (ch15 P) (ap (ch17 P) (ap (ch18 P) (ch19 P))))))))))))))))))) 159
noncomputable def T19 (P : Params) : BT := (insL (T18 P) 1167 (os19 P)).set 3 (fun _ => d19 P)
noncomputable def st19 (w : World) (os : OsState) : SharedT := ⟨T19 w.params, 1167, life0, #[], {}, 1879, os⟩
noncomputable def sl19 : List Stmt := sl 162 1 bE
noncomputable def os20 (P : Params) : List Obj := [tu [], ⟨(ty "builtin_function_or_method"), none, .fields #[(bi "type.__prepare__"), (ty "type")], #[]⟩, di [e P "__module__" 1886 (s "gateloom.design" 1877), e P "__qualname__" 1888 (s "Design" 1887), e P "__firstlineno__" 1890 (i 1248 1889), e P "__init__" 1897 (r 1180), e P "add_signal" 1911 (r 1187), e P "add_scope" 1919 (r 1194), e P "add_routine" 1930 (r 1201), e P "add_process" 1941 (r 1208), e P "find" 1949 (r 1215), e P "routine" 1958 (r 1222), e P "__static_attributes__" 1970 (r 1223)] 11, tu [], fl [(i 1250 0), (i 4 0), (r 1179), (i 1263 0), (i 4 0), (r 1186), (i 1266 0), (i 4 0), (r 1193), (i 1270 0), (i 4 0), (r 1200), (i 1273 0), (i 4 0), (r 1207), (i 1276 0), (i 4 0), (r 1214), (i 1279 0), (i 4 0), (r 1221)], co [(s "Design" 1881), (s "Design" 1882), (s "/claim/cut.py" 1883), (i 1248 0), (i 0 0), (i 0 0), (i 0 0), (i 0 0), (r 1170), (b false), (i 181 0), (r 1171), nn, nn, nn, nn, (i 1884 0), (i 1248 0), (s "/claim/cut.py" 1885)], ⟨(ty "frame"), none, .plain, #[some (r 1172), some (r 3), some (r 1169), none, some (s "gateloom.design" 1877), none, some (r 0)]⟩, tu [], fl [], tu [(s "self" 1894)], tu [], fi (m 163 0) "Design.__init__" 0 nn nn nn, co [(s "__init__" 1891), (s "Design.__init__" 1892), (s "/claim/cut.py" 1893), (i 1250 0), (i 1 0), (i 0 0), (i 0 0), (i 3 0), (r 1174), (b true), (i 181 0), (r 1175), nn, (r 1176), (r 1177), (r 1178), (i 1895 0), (i 1250 0), (s "/claim/cut.py" 1896)], fu (m 163 0) "Design.__init__" 3 nn (s "gateloom.design" 1877) (r 1179), tu [], fl [], tu [(s "self" 1901), (s "path" 1902), (s "kind" 1903), (s "width" 1904), (s "signed" 1905), (s "msb" 1906), (s "lsb" 1907), (s "at" 1908)], tu [], fi (m 163 1) "Design.add_signal" 0 nn nn nn, co [(s "add_signal" 1898), (s "Design.add_signal" 1899), (s "/claim/cut.py" 1900), (i 1263 0), (i 8 0), (i 0 0), (i 0 0), (i 3 0), (r 1181), (b true), (i 181 0), (r 1182), nn, (r 1183), (r 1184), (r 1185), (i 1909 0), (i 1263 0), (s "/claim/cut.py" 1910)], fu (m 163 1) "Design.add_signal" 3 nn (s "gateloom.design" 1877) (r 1186), tu [], fl [], tu [(s "self" 1915), (s "path" 1916)], tu [], fi (m 163 2) "Design.add_scope" 0 nn nn nn, co [(s "add_scope" 1912), (s "Design.add_scope" 1913), (s "/claim/cut.py" 1914), (i 1266 0), (i 2 0), (i 0 0), (i 0 0), (i 3 0), (r 1188), (b true), (i 181 0), (r 1189), nn, (r 1190), (r 1191), (r 1192), (i 1917 0), (i 1266 0), (s "/claim/cut.py" 1918)], fu (m 163 2) "Design.add_scope" 3 nn (s "gateloom.design" 1877) (r 1193), tu [], fl [], tu [(s "self" 1923), (s "path" 1924), (s "is_function" 1925), (s "automatic" 1926), (s "at" 1927)], tu [], fi (m 163 3) "Design.add_routine" 0 nn nn nn, co [(s "add_routine" 1920), (s "Design.add_routine" 1921), (s "/claim/cut.py" 1922), (i 1270 0), (i 5 0), (i 0 0), (i 0 0), (i 3 0), (r 1195), (b true), (i 181 0), (r 1196), nn, (r 1197), (r 1198), (r 1199), (i 1928 0), (i 1270 0), (s "/claim/cut.py" 1929)], fu (m 163 3) "Design.add_routine" 3 nn (s "gateloom.design" 1877) (r 1200), tu [], fl [], tu [(s "self" 1934), (s "kind" 1935), (s "body" 1936), (s "path" 1937), (s "at" 1938)], tu [], fi (m 163 4) "Design.add_process" 0 nn nn nn, co [(s "add_process" 1931), (s "Design.add_process" 1932), (s "/claim/cut.py" 1933), (i 1273 0), (i 5 0), (i 0 0), (i 0 0), (i 3 0), (r 1202), (b true), (i 181 0), (r 1203), nn, (r 1204), (r 1205), (r 1206), (i 1939 0), (i 1273 0), (s "/claim/cut.py" 1940)], fu (m 163 4) "Design.add_process" 3 nn (s "gateloom.design" 1877) (r 1207), tu [], fl [], tu [(s "self" 1945), (s "path" 1946)], tu [], fi (m 163 5) "Design.find" 0 nn nn nn, co [(s "find" 1942), (s "Design.find" 1943), (s "/claim/cut.py" 1944), (i 1276 0), (i 2 0), (i 0 0), (i 0 0), (i 3 0), (r 1209), (b true), (i 181 0), (r 1210), nn, (r 1211), (r 1212), (r 1213), (i 1947 0), (i 1276 0), (s "/claim/cut.py" 1948)], fu (m 163 5) "Design.find" 3 nn (s "gateloom.design" 1877) (r 1214), tu [], fl [], tu [(s "self" 1953), (s "n" 1954), (s "routine" 1955)], tu [], fi (m 163 6) "Design.routine" 0 nn nn nn, co [(s "routine" 1950), (s "Design.routine" 1951), (s "/claim/cut.py" 1952), (i 1279 0), (i 2 0), (i 0 0), (i 0 0), (i 3 0), (r 1216), (b true), (i 181 0), (r 1217), nn, (r 1218), (r 1219), (r 1220), (i 1956 0), (i 1279 0), (s "/claim/cut.py" 1957)], fu (m 163 6) "Design.routine" 3 nn (s "gateloom.design" 1877) (r 1221), tu [(s "assigns" 1959), (s "by_path" 1960), (s "gates" 1961), (s "maker" 1962), (s "ports" 1963), (s "processes" 1964), (s "routines" 1965), (s "scopes" 1966), (s "signals" 1967), (s "tops" 1968), (s "udps" 1969)], di [e P "__module__" 1886 (s "gateloom.design" 1877), e P "__firstlineno__" 1890 (i 1248 1889), e P "__init__" 1897 (r 1180), e P "add_signal" 1911 (r 1187), e P "add_scope" 1919 (r 1194), e P "add_routine" 1930 (r 1201), e P "add_process" 1941 (r 1208), e P "find" 1949 (r 1215), e P "routine" 1958 (r 1222), e P "__static_attributes__" 1970 (r 1223), e P "__dict__" 1972 (r 1226), e P "__weakref__" 1974 (r 1227), e P "__doc__" 1975 nn] 4, ⟨(ty "type"), none, .cls { name := S "Design", bases := [(ty "object")], mro := [(r 1225), (ty "object")], ns := 1224, qualname := S "Design", hasDict := true, subclasses := [], abstract := false, hasDel := false}, #[none, none, some (s "Design" 1879), some (s "Design" 1887), some (bi "object.__new__"), some (b true)]⟩, ⟨(ty "getset_descriptor"), none, .fields #[(s "__dict__" 1971), (r 1225), (bi "function.__dict__"), (bi "function.__dict__#set")], #[]⟩, ⟨(ty "getset_descriptor"), none, .fields #[(s "__weakref__" 1973), (r 1225), (bi "ExceptionGroup.__weakref__"), nn], #[]⟩, ⟨(ty "super"), none, .fields #[(r 1225), (r 1225), (r 1225)], #[]⟩, ⟨(ty "builtin_function_or_method"), none, .fields #[(bi "object.__init_subclass__"), (r 1225)], #[]⟩]
noncomputable def ch20 (P : Params) : List DictEntry := [e P "Design" 1977 (r 1225)]
noncomputable def d20 (P : Params) : Obj := di (e P "__name__" 165 (s "gateloom.design" 1877) :: ap (ch0 P) (ap (ch1 P) (ap (ch2 P) (ap (ch3 P) (ap (ch4 P) (ap (ch5 P) (ap (ch6 P) (ap (ch7 P) (ap (ch8 P) (ap (ch9 P) (ap (ch16 P) (ap (ch11 P) (ap (ch12 P) (ap (ch13 P) (ap (ch14 P) (ap (ch15 P) (ap (ch17 P) (ap (ch18 P) (ap (ch19 P) (ch20 P)))))))))))))))))))) 160
noncomputable def vc18 : List Value := [(i 1248 0), (i 0 0), (r 1172)]
noncomputable def g20 : Obj := ⟨.none, none, .fields ⟨apv vc0 (apv vc1 (apv vc2 (apv vc3 (apv vc4 (apv vc5 (apv vc6 (apv vc7 (apv vc8 (apv vc9 (apv vc10 (apv vc11 (apv vc12 (apv vc13 (apv vc14 (apv vc15 (apv vc16 (apv vc17 (vc18))))))))))))))))))⟩, #[]⟩
noncomputable def T20 (P : Params) : BT := ((insL (T19 P) 1167 (os20 P)).set 3 (fun _ => d20 P)).set 12 (fun _ => g20)
noncomputable def st20 (w : World) (os : OsState) : SharedT := ⟨T20 w.params, 1230, life0, #[], {}, 1978, os⟩
noncomputable def sl20 : List Stmt := sl 163 1 bE
noncomputable def os21 (P : Params) : List Obj := []
noncomputable def d21 (P : Params) : Obj := di (e P "__name__" 165 (s "gateloom.scopes" 1978) :: ap (ch0 P) (ap (ch1 P) (ap (ch2 P) (ap (ch3 P) (ap (ch4 P) (ap (ch5 P) (ap (ch6 P) (ap (ch7 P) (ap (ch8 P) (ap (ch9 P) (ap (ch16 P) (ap (ch11 P) (ap (ch12 P) (ap (ch13 P) (ap (ch14 P) (ap (ch15 P) (ap (ch17 P) (ap (ch18 P) (ap (ch19 P) (ch20 P)))))))))))))))))))) 160
noncomputable def T21 (P : Params) : BT := (insL (T20 P) 1230 (os21 P)).set 3 (fun _ => d21 P)
noncomputable def st21 (w : World) (os : OsState) : SharedT := ⟨T21 w.params, 1230, life0, #[], {}, 1980, os⟩
noncomputable def sl21 : List Stmt := sl 164 1 bE
noncomputable def os22 (P : Params) : List Obj := [tu [], ⟨(ty "builtin_function_or_method"), none, .fields #[(bi "type.__prepare__"), (ty "type")], #[]⟩, di [e P "__module__" 1987 (s "gateloom.scopes" 1978), e P "__qualname__" 1989 (s "Scope" 1988), e P "__firstlineno__" 1991 (i 1287 1990), e P "__init__" 2002 (r 1243), e P "child" 2013 (r 1250), e P "declare" 2023 (r 1257), e P "module_scope" 2030 (r 1264), e P "lookup" 2039 (r 1271), e P "lookup_routine" 2049 (r 1278), e P "descend" 2060 (r 1285), e P "resolve" 2071 (r 1292), e P "answers_to" 2079 (r 1299), e P "__static_attributes__" 2089 (r 1300)] 13, tu [], fl [(i 1289 0), (i 4 0), (r 1242), (i 1303 0), (i 4 0), (r 1249), (i 1308 0), (i 4 0), (r 1256), (i 1313 0), (i 4 0), (r 1263), (i 1316 0), (i 4 0), (r 1270), (i 1326 0), (i 4 0), (r 1277), (i 1337 0), (i 4 0), (r 1284), (i 1349 0), (i 4 0), (r 1291), (i 1360 0), (i 4 0), (r 1298)], co [(s "Scope" 1982), (s "Scope" 1983), (s "/claim/cut.py" 1984), (i 1287 0), (i 0 0), (i 0 0), (i 0 0), (i 0 0), (r 1233), (b false), (i 181 0), (r 1234), nn, nn, nn, nn, (i 1985 0), (i 1287 0), (s "/claim/cut.py" 1986)], ⟨(ty "frame"), none, .plain, #[some (r 1235), some (r 3), some (r 1232), none, some (s "gateloom.scopes" 1978), none, some (r 0)]⟩, tu [], fl [], tu [(s "self" 1995), (s "design" 1996), (s "name" 1997), (s "parent" 1998), (s "kind" 1999)], tu [], fi (m 165 0) "Scope.__init__" 0 nn nn nn, co [(s "__init__" 1992), (s "Scope.__init__" 1993), (s "/claim/cut.py" 1994), (i 1289 0), (i 5 0), (i 0 0), (i 0 0), (i 3 0), (r 1237), (b true), (i 181 0), (r 1238), nn, (r 1239), (r 1240), (r 1241), (i 2000 0), (i 1289 0), (s "/claim/cut.py" 2001)], fu (m 165 0) "Scope.__init__" 3 nn (s "gateloom.scopes" 1978) (r 1242), tu [], fl [], tu [(s "self" 2006), (s "name" 2007), (s "kind" 2008), (s "at" 2009), (s "inner" 2010)], tu [], fi (m 165 1) "Scope.child" 0 nn nn nn, co [(s "child" 2003), (s "Scope.child" 2004), (s "/claim/cut.py" 2005), (i 1303 0), (i 4 0), (i 0 0), (i 0 0), (i 3 0), (r 1244), (b true), (i 181 0), (r 1245), nn, (r 1246), (r 1247), (r 1248), (i 2011 0), (i 1303 0), (s "/claim/cut.py" 2012)], fu (m 165 1) "Scope.child" 3 nn (s "gateloom.scopes" 1978) (r 1249), tu [], fl [], tu [(s "self" 2017), (s "name" 2018), (s "entry" 2019), (s "at" 2020)], tu [], fi (m 165 2) "Scope.declare" 0 nn nn nn, co [(s "declare" 2014), (s "Scope.declare" 2015), (s "/claim/cut.py" 2016), (i 1308 0), (i 4 0), (i 0 0), (i 0 0), (i 3 0), (r 1251), (b true), (i 181 0), (r 1252), nn, (r 1253), (r 1254), (r 1255), (i 2021 0), (i 1308 0), (s "/claim/cut.py" 2022)], fu (m 165 2) "Scope.declare" 3 nn (s "gateloom.scopes" 1978) (r 1256), tu [], fl [], tu [(s "self" 2027)], tu [], fi (m 165 3) "Scope.module_scope" 0 nn nn nn, co [(s "module_scope" 2024), (s "Scope.module_scope" 2025), (s "/claim/cut.py" 2026), (i 1313 0), (i 1 0), (i 0 0), (i 0 0), (i 3 0), (r 1258), (b true), (i 181 0), (r 1259), nn, (r 1260), (r 1261), (r 1262), (i 2028 0), (i 1313 0), (s "/claim/cut.py" 2029)], fu (m 165 3) "Scope.module_scope" 3 nn (s "gateloom.scopes" 1978) (r 1263), tu [], fl [], tu [(s "self" 2034), (s "name" 2035), (s "scope" 2036)], tu [], fi (m 165 4) "Scope.lookup" 0 nn nn nn, co [(s "lookup" 2031), (s "Scope.lookup" 2032), (s "/claim/cut.py" 2033), (i 1316 0), (i 2 0), (i 0 0), (i 0 0), (i 3 0), (r 1265), (b true), (i 181 0), (r 1266), nn, (r 1267), (r 1268), (r 1269), (i 2037 0), (i 1316 0), (s "/claim/cut.py" 2038)], fu (m 165 4) "Scope.lookup" 3 nn (s "gateloom.scopes" 1978) (r 1270), tu [], fl [], tu [(s "self" 2043), (s "name" 2044), (s "scope" 2045), (s "entry" 2046)], tu [], fi (m 165 5) "Scope.lookup_routine" 0 nn nn nn, co [(s "lookup_routine" 2040), (s "Scope.lookup_routine" 2041), (s "/claim/cut.py" 2042), (i 1326 0), (i 2 0), (i 0 0), (i 0 0), (i 3 0), (r 1272), (b true), (i 181 0), (r 1273), nn, (r 1274), (r 1275), (r 1276), (i 2047 0), (i 1326 0), (s "/claim/cut.py" 2048)], fu (m 165 5) "Scope.lookup_routine" 3 nn (s "gateloom.scopes" 1978) (r 1277), tu [], fl [], tu [(s "self" 2053), (s "parts" 2054), (s "scope" 2055), (s "entry" 2056), (s "name" 2057)], tu [], fi (m 165 6) "Scope.descend" 0 nn nn nn, co [(s "descend" 2050), (s "Scope.descend" 2051), (s "/claim/cut.py" 2052), (i 1337 0), (i 2 0), (i 0 0), (i 0 0), (i 3 0), (r 1279), (b true), (i 181 0), (r 1280), nn, (r 1281), (r 1282), (r 1283), (i 2058 0), (i 1337 0), (s "/claim/cut.py" 2059)], fu (m 165 6) "Scope.descend" 3 nn (s "gateloom.scopes" 1978) (r 1284), tu [], fl [], tu [(s "self" 2064), (s "parts" 2065), (s "at" 2066), (s "scope" 2067), (s "entry" 2068)], tu [], fi (m 165 7) "Scope.resolve" 0 nn nn nn, co [(s "resolve" 2061), (s "Scope.resolve" 2062), (s "/claim/cut.py" 2063), (i 1349 0), (i 3 0), (i 0 0), (i 0 0), (i 3 0), (r 1286), (b true), (i 181 0), (r 1287), nn, (r 1288), (r 1289), (r 1290), (i 2069 0), (i 1349 0), (s "/claim/cut.py" 2070)], fu (m 165 7) "Scope.resolve" 3 nn (s "gateloom.scopes" 1978) (r 1291), tu [], fl [], tu [(s "self" 2075), (s "name" 2076)], tu [], fi (m 165 8) "Scope.answers_to" 0 nn nn nn, co [(s "answers_to" 2072), (s "Scope.answers_to" 2073), (s "/claim/cut.py" 2074), (i 1360 0), (i 2 0), (i 0 0), (i 0 0), (i 3 0), (r 1293), (b true), (i 181 0), (r 1294), nn, (r 1295), (r 1296), (r 1297), (i 2077 0), (i 1360 0), (s "/claim/cut.py" 2078)], fu (m 165 8) "Scope.answers_to" 3 nn (s "gateloom.scopes" 1978) (r 1298), tu [(s "design" 2080), (s "entries" 2081), (s "kind" 2082), (s "module_name" 2083), (s "name" 2084), (s "nettype" 2085), (s "number" 2086), (s "parent" 2087), (s "path" 2088)], di [e P "__module__" 1987 (s "gateloom.scopes" 1978), e P "__firstlineno__" 1991 (i 1287 1990), e P "__init__" 2002 (r 1243), e P "child" 2013 (r 1250), e P "declare" 2023 (r 1257), e P "module_scope" 2030 (r 1264), e P "lookup" 2039 (r 1271), e P "lookup_routine" 2049 (r 1278), e P "descend" 2060 (r 1285), e P "resolve" 2071 (r 1292), e P "answers_to" 2079 (r 1299), e P "__static_attributes__" 2089 (r 1300), e P "__dict__" 2091 (r 1303), e P "__weakref__" 2093 (r 1304), e P "__doc__" 2094 nn] 4, ⟨(ty "type"), none, .cls { name := S "Scope", bases := [(ty "object")], mro := [(r 1302), (ty "object")], ns := 1301, qualname := S "Scope", hasDict := true, subclasses := [], abstract := false, hasDel := false}, #[none, none, some (s "Scope" 1980), some (s "Scope" 1988), some (bi "object.__new__"), some (b true)]⟩, ⟨(ty "getset_descriptor"), none, .fields #[(s "__dict__" 2090), (r 1302), (bi "function.__dict__"), (bi "function.__dict__#set")], #[]⟩, ⟨(ty "getset_descriptor"), none, .fields #[(s "__weakref__" 2092), (r 1302), (bi "ExceptionGroup.__weakref__"), nn], #[]⟩, ⟨(ty "super"), none, .fields #[(r 1302), (r 1302), (r 1302)], #[]⟩, ⟨(ty "builtin_function_or_method"), none, .fields #[(bi "object.__init_subclass__"), (r 1302)], #[]⟩]
noncomputable def ch21 (P : Params) : List DictEntry := [e P "Scope" 2096 (r 1302)]
noncomputable def d22 (P : Params) : Obj := di (e P "__name__" 165 (s "gateloom.scopes" 1978) :: ap (ch0 P) (ap (ch1 P) (ap (ch2 P) (ap (ch3 P) (ap (ch4 P) (ap (ch5 P) (ap (ch6 P) (ap (ch7 P) (ap (ch8 P) (ap (ch9 P) (ap (ch16 P) (ap (ch11 P) (ap (ch12 P) (ap (ch13 P) (ap (ch14 P) (ap (ch15 P) (ap (ch17 P) (ap (ch18 P) (ap (ch19 P) (ap (ch20 P) (ch21 P))))))))))))))))))))) 161
noncomputable def vc19 : List Value := [(i 1287 0), (i 0 0), (r 1235)]
noncomputable def g22 : Obj := ⟨.none, none, .fields ⟨apv vc0 (apv vc1 (apv vc2 (apv vc3 (apv vc4 (apv vc5 (apv vc6 (apv vc7 (apv vc8 (apv vc9 (apv vc10 (apv vc11 (apv vc12 (apv vc13 (apv vc14 (apv vc15 (apv vc16 (apv vc17 (apv vc18 (vc19)))))))))))))))))))⟩, #[]⟩
noncomputable def T22 (P : Params) : BT := ((insL (T21 P) 1230 (os22 P)).set 3 (fun _ => d22 P)).set 12 (fun _ => g22)
noncomputable def st22 (w : World) (os : OsState) : SharedT := ⟨T22 w.params, 1307, life0, #[], {}, 2097, os⟩
noncomputable def sl22 : List Stmt := sl 165 1 bE
noncomputable def os23 (P : Params) : List Obj := [tu [], fl [], tu [(s "script" 2102), (s "row" 2103), (s "cell" 2104), (s "number" 2105), (s "turn" 2106)], tu [], fi (f 167) "_law_row" 0 nn nn nn, co [(s "_law_row" 2099), (s "_law_row" 2100), (s "/claim/cut.py" 2101), (i 1363 0), (i 1 0), (i 0 0), (i 0 0), (i 3 0), (r 1307), (b true), (i 181 0), (r 1308), nn, (r 1309), (r 1310), (r 1311), (i 2107 0), (i 1363 0), (s "/claim/cut.py" 2108)], fu (f 167) "_law_row" 3 nn (s "law_nn0349_01" 2097) (r 1312), tu [], fl [], tu [(s "row" 2113)], tu [], fi (f 168) "_law_next" 0 nn nn nn, co [(s "_law_next" 2110), (s "_law_next" 2111), (s "/claim/cut.py" 2112), (i 1376 0), (i 1 0), (i 0 0), (i 0 0), (i 3 0), (r 1314), (b true), (i 181 0), (r 1315), nn, (r 1316), (r 1317), (r 1318), (i 2114 0), (i 1376 0), (s "/claim/cut.py" 2115)], fu (f 168) "_law_next" 3 nn (s "law_nn0349_01" 2097) (r 1319), tu [], fl [], tu [(s "row" 2120), (s "wide" 2121), (s "bits" 2122), (s "turn" 2123), (s "number" 2124), (s "step" 2125)], tu [], fi (f 169) "_law_bits" 0 nn nn nn, co [(s "_law_bits" 2117), (s "_law_bits" 2118), (s "/claim/cut.py" 2119), (i 1378 0), (i 2 0), (i 0 0), (i 0 0), (i 3 0), (r 1321), (b true), (i 181 0), (r 1322), nn, (r 1323), (r 1324), (r 1325), (i 2126 0), (i 1378 0), (s "/claim/cut.py" 2127)], fu (f 169) "_law_bits" 3 nn (s "law_nn0349_01" 2097) (r 1326), tu [], fl [], tu [(s "bits" 2132), (s "low" 2133), (s "high" 2134), (s "spot" 2135)], tu [], fi (f 170) "_law_made" 0 nn nn nn, co [(s "_law_made" 2129), (s "_law_made" 2130), (s "/claim/cut.py" 2131), (i 1386 0), (i 1 0), (i 0 0), (i 0 0), (i 3 0), (r 1328), (b true), (i 181 0), (r 1329), nn, (r 1330), (r 1331), (r 1332), (i 2136 0), (i 1386 0), (s "/claim/cut.py" 2137)], fu (f 170) "_law_made" 3 nn (s "law_nn0349_01" 2097) (r 1333), tu [], fl [], tu [(s "figure" 2142)], tu [], fi (f 171) "_law_small" 0 nn nn nn, co [(s "_law_small" 2139), (s "_law_small" 2140), (s "/claim/cut.py" 2141), (i 1393 0), (i 1 0), (i 0 0), (i 0 0), (i 3 0), (r 1335), (b true), (i 181 0), (r 1336), nn, (r 1337), (r 1338), (r 1339), (i 2143 0), (i 1393 0), (s "/claim/cut.py" 2144)], fu (f 171) "_law_small" 3 nn (s "law_nn0349_01" 2097) (r 1340), tu [], fl [], fi (f 172) "_law_number" 0 nn nn nn, co [(s "_law_number" 2146), (s "_law_number" 2147), (s "/claim/cut.py" 2148), (i 1395 0), (i 1 0), (i 0 0), (i 0 0), (i 3 0), (r 1342), (b true), (i 181 0), (r 1343), nn, nn, nn, (r 1344), (i 2149 0), (i 1395 0), (s "/claim/cut.py" 2150)], fu (f 172) "_law_number" 3 nn (s "law_nn0349_01" 2097) (r 1345), tu [], fl [], tu [(s "number" 2155)], tu [], fi (f 173) "_law_source" 0 nn nn nn, co [(s "_law_source" 2152), (s "_law_source" 2153), (s "/claim/cut.py" 2154), (i 1400 0), (i 1 0), (i 0 0), (i 0 0), (i 3 0), (r 1347), (b true), (i 181 0), (r 1348), nn, (r 1349), (r 1350), (r 1351), (i 2156 0), (i 1400 0), (s "/claim/cut.py" 2157)], fu (f 173) "_law_source" 3 nn (s "law_nn0349_01" 2097) (r 1352), tu [], fl [], tu [(s "number" 2162), (s "wide" 2163), (s "signed" 2164)], tu [], fi (f 174) "_law_wide" 0 nn nn nn, co [(s "_law_wide" 2159), (s "_law_wide" 2160), (s "/claim/cut.py" 2161), (i 1402 0), (i 3 0), (i 0 0), (i 0 0), (i 3 0), (r 1354), (b true), (i 181 0), (r 1355), nn, (r 1356), (r 1357), (r 1358), (i 2165 0), (i 1402 0), (s "/claim/cut.py" 2166)], fu (f 174) "_law_wide" 3 nn (s "law_nn0349_01" 2097) (r 1359), tu [], fl [], tu [(s "call" 2171), (s "error" 2172)], tu [], fi (f 175) "_law_kept" 0 nn nn nn, co [(s "_law_kept" 2168), (s "_law_kept" 2169), (s "/claim/cut.py" 2170), (i 1404 0), (i 1 0), (i 0 0), (i 0 0), (i 3 0), (r 1361), (b true), (i 181 0), (r 1362), nn, (r 1363), (r 1364), (r 1365), (i 2173 0), (i 1404 0), (s "/claim/cut.py" 2174)], fu (f 175) "_law_kept" 3 nn (s "law_nn0349_01" 2097) (r 1366), tu [], fl [], fi (f 176) "law" 0 nn nn nn, co [(s "law" 2176), (s "law" 2177), (s "/claim/cut.py" 2178), (i 1409 0), (i 1 0), (i 0 0), (i 0 0), (i 3 0), (r 1368), (b true), (i 181 0), (r 1369), nn, nn, nn, (r 1370), (i 2179 0), (i 1409 0), (s "/claim/cut.py" 2180)], fu (f 176) "law" 3 nn (s "law_nn0349_01" 2097) (r 1371)]
noncomputable def ch22 (P : Params) : List DictEntry := [e P "_law_row" 2109 (r 1313), e P "_law_next" 2116 (r 1320), e P "_law_bits" 2128 (r 1327), e P "_law_made" 2138 (r 1334), e P "_law_small" 2145 (r 1341), e P "_law_number" 2151 (r 1346), e P "_law_source" 2158 (r 1353), e P "_law_wide" 2167 (r 1360), e P "_law_kept" 2175 (r 1367), e P "law" 2181 (r 1372)]
noncomputable def d23 (P : Params) : Obj := di (e P "__name__" 165 (s "law_nn0349_01" 2097) :: ap (ch0 P) (ap (ch1 P) (ap (ch2 P) (ap (ch3 P) (ap (ch4 P) (ap (ch5 P) (ap (ch6 P) (ap (ch7 P) (ap (ch8 P) (ap (ch9 P) (ap (ch16 P) (ap (ch11 P) (ap (ch12 P) (ap (ch13 P) (ap (ch14 P) (ap (ch15 P) (ap (ch17 P) (ap (ch18 P) (ap (ch19 P) (ap (ch20 P) (ap (ch21 P) (ch22 P)))))))))))))))))))))) 171
noncomputable def vc20 : List Value := [(i 1363 0), (i 0 0), (r 1312), (i 1376 0), (i 0 0), (r 1319), (i 1378 0), (i 0 0), (r 1326), (i 1386 0), (i 0 0), (r 1333), (i 1393 0), (i 0 0), (r 1340), (i 1395 0), (i 0 0), (r 1345), (i 1400 0), (i 0 0), (r 1352), (i 1402 0), (i 0 0), (r 1359), (i 1404 0), (i 0 0), (r 1366), (i 1409 0), (i 0 0), (r 1371)]
noncomputable def g23 : Obj := ⟨.none, none, .fields ⟨apv vc0 (apv vc1 (apv vc2 (apv vc3 (apv vc4 (apv vc5 (apv vc6 (apv vc7 (apv vc8 (apv vc9 (apv vc10 (apv vc11 (apv vc12 (apv vc13 (apv vc14 (apv vc15 (apv vc16 (apv vc17 (apv vc18 (apv vc19 (vc20))))))))))))))))))))⟩, #[]⟩
noncomputable def T23 (P : Params) : BT := ((insL (T22 P) 1307 (os23 P)).set 3 (fun _ => d23 P)).set 12 (fun _ => g23)
noncomputable def st23 (w : World) (os : OsState) : SharedT := ⟨T23 w.params, 1373, life0, #[], {}, 2182, os⟩
noncomputable def sl23 : List Stmt := sl 166 11 bE
end PyLaw.G

namespace PyLaw.G
open PySem PySem.W PySem.Calls PyProof.Rows
set_option maxRecDepth 100000
set_option maxHeartbeats 8000000
theorem sq {w : World} {n : Nat} {st : SharedT} {th : Thread} {v : Option (Flow × SharedT × Code × Pos)} (h : PySem.W.Fast.tw10110043849684766642 PySem.W.Fast.tw14364793385576792824 pw w 11 ann0 1 n st th = v) : segRunT treeTable pw w 11 ann0 1 n st th = v := by
  rw [PySem.W.Fast.te10110043849684766642, PySem.W.Fast.te14364793385576792824]; exact h
end PyLaw.G

namespace PyLaw.G
open PySem PySem.W PySem.Calls PyProof.Rows
set_option maxRecDepth 100000
theorem pc1 (w : World) (os : OsState) : segRunT treeTable pw w 11 ann0 1 279 (st0 w os) (piecesOf sl1 env cE ⟨0, 0, 0, 0⟩ BB) = some (.next, st1 w os, cE, ⟨5, 0, 10, 28⟩) := sq (by kernel_rfl)
end PyLaw.G

namespace PyLaw.G
open PySem PySem.W PySem.Calls PyProof.Rows
set_option maxRecDepth 100000
theorem pc2 (w : World) (os : OsState) : segRunT treeTable pw w 11 ann0 1 214 (st1 w os) (piecesOf sl2 env cE ⟨5, 0, 10, 28⟩ BB) = some (.next, st2 w os, cE, ⟨11, 0, 12, 8⟩) := sq (by kernel_rfl)
end PyLaw.G

namespace PyLaw.G
open PySem PySem.W PySem.Calls PyProof.Rows
set_option maxRecDepth 100000
theorem pc3 (w : World) (os : OsState) : segRunT treeTable pw w 11 ann0 1 374 (st2 w os) (piecesOf sl3 env cE ⟨11, 0, 12, 8⟩ BB) = some (.next, st3 w os, cE, ⟨26, 0, 27, 26⟩) := sq (by kernel_rfl)
end PyLaw.G

namespace PyLaw.G
open PySem PySem.W PySem.Calls PyProof.Rows
set_option maxRecDepth 100000
theorem pc4 (w : World) (os : OsState) : segRunT treeTable pw w 11 ann0 1 334 (st3 w os) (piecesOf sl4 env cE ⟨26, 0, 27, 26⟩ BB) = some (.next, st4 w os, cE, ⟨90, 0, 90, 8⟩) := sq (by kernel_rfl)
end PyLaw.G

namespace PyLaw.G
open PySem PySem.W PySem.Calls PyProof.Rows
set_option maxRecDepth 100000
theorem pc5 (w : World) (os : OsState) : segRunT treeTable pw w 11 ann0 1 332 (st4 w os) (piecesOf sl5 env cE ⟨90, 0, 90, 8⟩ BB) = some (.next, st5 w os, cE, ⟨91, 0, 133, 19⟩) := sq (by kernel_rfl)
end PyLaw.G

namespace PyLaw.G
open PySem PySem.W PySem.Calls PyProof.Rows
set_option maxRecDepth 100000
theorem pc6 (w : World) (os : OsState) : segRunT treeTable pw w 11 ann0 1 395 (st5 w os) (piecesOf sl6 env cE ⟨91, 0, 133, 19⟩ BB) = some (.next, st6 w os, cE, ⟨158, 0, 161, 38⟩) := sq (by kernel_rfl)
end PyLaw.G

namespace PyLaw.G
open PySem PySem.W PySem.Calls PyProof.Rows
set_option maxRecDepth 100000
theorem pc7 (w : World) (os : OsState) : segRunT treeTable pw w 11 ann0 1 392 (st6 w os) (piecesOf sl7 env cE ⟨158, 0, 161, 38⟩ BB) = some (.next, st7 w os, cE, ⟨246, 0, 250, 39⟩) := sq (by kernel_rfl)
end PyLaw.G

namespace PyLaw.G
open PySem PySem.W PySem.Calls PyProof.Rows
set_option maxRecDepth 100000
theorem pc8 (w : World) (os : OsState) : segRunT treeTable pw w 11 ann0 1 389 (st7 w os) (piecesOf sl8 env cE ⟨246, 0, 250, 39⟩ BB) = some (.next, st8 w os, cE, ⟨289, 0, 290, 28⟩) := sq (by kernel_rfl)
end PyLaw.G

namespace PyLaw.G
open PySem PySem.W PySem.Calls PyProof.Rows
set_option maxRecDepth 100000
theorem pc9 (w : World) (os : OsState) : segRunT treeTable pw w 11 ann0 1 377 (st8 w os) (piecesOf sl9 env cE ⟨289, 0, 290, 28⟩ BB) = some (.next, st9 w os, cE, ⟨339, 0, 339, 8⟩) := sq (by kernel_rfl)
end PyLaw.G

namespace PyLaw.G
open PySem PySem.W PySem.Calls PyProof.Rows
set_option maxRecDepth 100000
theorem pc10 (w : World) (os : OsState) : segRunT treeTable pw w 11 ann0 1 385 (st9 w os) (piecesOf sl10 env cE ⟨339, 0, 339, 8⟩ BB) = some (.next, st10 w os, cE, ⟨462, 0, 492, 52⟩) := sq (by kernel_rfl)
end PyLaw.G

namespace PyLaw.G
open PySem PySem.W PySem.Calls PyProof.Rows
set_option maxRecDepth 100000
theorem pc11 (w : World) (os : OsState) : segRunT treeTable pw w 11 ann0 1 160 (st10 w os) (piecesOf sl11 env cE ⟨462, 0, 492, 52⟩ BB) = some (.next, st11 w os, cE, ⟨534, 0, 534, 11⟩) := sq (by kernel_rfl)
end PyLaw.G

namespace PyLaw.G
open PySem PySem.W PySem.Calls PyProof.Rows
set_option maxRecDepth 100000
theorem pc12 (w : World) (os : OsState) : segRunT treeTable pw w 11 ann0 1 383 (st11 w os) (piecesOf sl12 env cE ⟨534, 0, 534, 11⟩ BB) = some (.next, st12 w os, cE, ⟨535, 0, 577, 44⟩) := sq (by kernel_rfl)
end PyLaw.G

namespace PyLaw.G
open PySem PySem.W PySem.Calls PyProof.Rows
set_option maxRecDepth 100000
theorem pc13 (w : World) (os : OsState) : segRunT treeTable pw w 11 ann0 1 391 (st12 w os) (piecesOf sl13 env cE ⟨535, 0, 577, 44⟩ BB) = some (.next, st13 w os, cE, ⟨693, 0, 700, 16⟩) := sq (by kernel_rfl)
end PyLaw.G

namespace PyLaw.G
open PySem PySem.W PySem.Calls PyProof.Rows
set_option maxRecDepth 100000
theorem pc14 (w : World) (os : OsState) : segRunT treeTable pw w 11 ann0 1 393 (st13 w os) (piecesOf sl14 env cE ⟨693, 0, 700, 16⟩ BB) = some (.next, st14 w os, cE, ⟨812, 0, 822, 46⟩) := sq (by kernel_rfl)
end PyLaw.G

namespace PyLaw.G
open PySem PySem.W PySem.Calls PyProof.Rows
set_option maxRecDepth 100000
theorem pc15 (w : World) (os : OsState) : segRunT treeTable pw w 11 ann0 1 380 (st14 w os) (piecesOf sl15 env cE ⟨812, 0, 822, 46⟩ BB) = some (.next, st15 w os, cE, ⟨881, 0, 887, 16⟩) := sq (by kernel_rfl)
end PyLaw.G

namespace PyLaw.G
open PySem PySem.W PySem.Calls PyProof.Rows
set_option maxRecDepth 100000
theorem pc16 (w : World) (os : OsState) : segRunT treeTable pw w 11 ann0 1 374 (st15 w os) (piecesOf sl16 env cE ⟨881, 0, 887, 16⟩ BB) = some (.next, st16 w os, cE, ⟨1012, 0, 1021, 16⟩) := sq (by kernel_rfl)
end PyLaw.G

namespace PyLaw.G
open PySem PySem.W PySem.Calls PyProof.Rows
set_option maxRecDepth 100000
theorem pc17 (w : World) (os : OsState) : segRunT treeTable pw w 11 ann0 1 398 (st16 w os) (piecesOf sl17 env cE ⟨1012, 0, 1021, 16⟩ BB) = some (.next, st17 w os, cE, ⟨1136, 0, 1138, 53⟩) := sq (by kernel_rfl)
end PyLaw.G

namespace PyLaw.G
open PySem PySem.W PySem.Calls PyProof.Rows
set_option maxRecDepth 100000
theorem pc18 (w : World) (os : OsState) : segRunT treeTable pw w 11 ann0 1 394 (st17 w os) (piecesOf sl18 env cE ⟨1136, 0, 1138, 53⟩ BB) = some (.next, st18 w os, cE, ⟨1233, 0, 1246, 15⟩) := sq (by kernel_rfl)
end PyLaw.G

namespace PyLaw.G
open PySem PySem.W PySem.Calls PyProof.Rows
set_option maxRecDepth 100000
theorem pc19 (w : World) (os : OsState) : segRunT treeTable pw w 11 ann0 1 10 (st18 w os) (piecesOf sl19 env cE ⟨1233, 0, 1246, 15⟩ BB) = some (.next, st19 w os, cE, ⟨1247, 0, 1247, 8⟩) := sq (by kernel_rfl)
end PyLaw.G

namespace PyLaw.G
open PySem PySem.W PySem.Calls PyProof.Rows
set_option maxRecDepth 100000
theorem pc20 (w : World) (os : OsState) : segRunT treeTable pw w 11 ann0 1 437 (st19 w os) (piecesOf sl20 env cE ⟨1247, 0, 1247, 8⟩ BB) = some (.next, st20 w os, cE, ⟨1248, 0, 1285, 22⟩) := sq (by kernel_rfl)
end PyLaw.G

namespace PyLaw.G
open PySem PySem.W PySem.Calls PyProof.Rows
set_option maxRecDepth 100000
theorem pc21 (w : World) (os : OsState) : segRunT treeTable pw w 11 ann0 1 10 (st20 w os) (piecesOf sl21 env cE ⟨1248, 0, 1285, 22⟩ BB) = some (.next, st21 w os, cE, ⟨1286, 0, 1286, 8⟩) := sq (by kernel_rfl)
end PyLaw.G

namespace PyLaw.G
open PySem PySem.W PySem.Calls PyProof.Rows
set_option maxRecDepth 100000
theorem pc22 (w : World) (os : OsState) : segRunT treeTable pw w 11 ann0 1 503 (st21 w os) (piecesOf sl22 env cE ⟨1286, 0, 1286, 8⟩ BB) = some (.next, st22 w os, cE, ⟨1287, 0, 1361, 88⟩) := sq (by kernel_rfl)
end PyLaw.G

namespace PyLaw.G
open PySem PySem.W PySem.Calls PyProof.Rows
set_option maxRecDepth 100000
theorem pc23 (w : World) (os : OsState) : segRunT treeTable pw w 11 ann0 1 309 (st22 w os) (piecesOf sl23 env cE ⟨1287, 0, 1361, 88⟩ BB) = some (.next, st23 w os, cE, ⟨1409, 0, 1461, 94⟩) := sq (by kernel_rfl)
end PyLaw.G

namespace PyLaw.G
open PySem PySem.W PySem.Calls PyProof.Rows
set_option maxRecDepth 100000
theorem bodyEq : bE = sl1 ++ (sl2 ++ (sl3 ++ (sl4 ++ (sl5 ++ (sl6 ++ (sl7 ++ (sl8 ++ (sl9 ++ (sl10 ++ (sl11 ++ (sl12 ++ (sl13 ++ (sl14 ++ (sl15 ++ (sl16 ++ (sl17 ++ (sl18 ++ (sl19 ++ (sl20 ++ (sl21 ++ (sl22 ++ (sl23 ++ [])))))))))))))))))))))) := by kernel_rfl
theorem pre_q (w : World) (os : OsState) : topGo treeTable pw w 11 ann0 12 ⟨boot_heap w.params, #[], boot_drawn, boot_toks, os⟩ (topStub pw) = some (Sa w os, ⟨denote treeTable cE, cE, ⟨0, 0, 0, 0⟩, BB⟩) := by
  rw [PySem.W.Fast.te15667345088766844465, PySem.W.Fast.te14364793385576792824, PySem.W.Fast.te11892475500146522536]
  kernel_rfl
theorem block_q (w : World) (os : OsState) : segRun treeTable pw w 11 ann0 1 1 (Sa w os) (blockOf bE env cE ⟨0, 0, 0, 0⟩ BB) = some (.next, (st0 w os).abs, cE, ⟨0, 0, 0, 0⟩) := by
  rw [PySem.W.Fast.te14374325043358763698, PySem.W.Fast.te14364793385576792824]
  kernel_rfl
theorem fin_q (w : World) (os : OsState) : topRun treeTable pw w 11 ann0 2 (st23 w os).abs ⟨doneF .next, cE, ⟨1409, 0, 1461, 94⟩, BB⟩ = some (st23 w os).abs := by
  rw [PySem.W.Fast.te14082659384304107361, PySem.W.Fast.te14364793385576792824]
  kernel_rfl
abbrev MM : Nat := 12 + (1 + (279 + (214 + (374 + (334 + (332 + (395 + (392 + (389 + (377 + (385 + (160 + (383 + (391 + (393 + (380 + (374 + (398 + (394 + (10 + (437 + (10 + (503 + (309 + (2)))))))))))))))))))))))))
theorem run_all (w : World) (os : OsState) : topRun treeTable pw w 11 ann0 MM ⟨boot_heap w.params, #[], boot_drawn, boot_toks, os⟩ (topStub pw) = some (st23 w os).abs :=
  go_top (pre_q w os) (piece_block (block_q w os) ((congrArg (fun l => topRun treeTable pw w 11 ann0 _ (st0 w os).abs (restOf l env cE ⟨0, 0, 0, 0⟩ BB)) bodyEq).trans
    (piece_app (segRun_of (pc1 w os)) (piece_app (segRun_of (pc2 w os)) (piece_app (segRun_of (pc3 w os)) (piece_app (segRun_of (pc4 w os)) (piece_app (segRun_of (pc5 w os)) (piece_app (segRun_of (pc6 w os)) (piece_app (segRun_of (pc7 w os)) (piece_app (segRun_of (pc8 w os)) (piece_app (segRun_of (pc9 w os)) (piece_app (segRun_of (pc10 w os)) (piece_app (segRun_of (pc11 w os)) (piece_app (segRun_of (pc12 w os)) (piece_app (segRun_of (pc13 w os)) (piece_app (segRun_of (pc14 w os)) (piece_app (segRun_of (pc15 w os)) (piece_app (segRun_of (pc16 w os)) (piece_app (segRun_of (pc17 w os)) (piece_app (segRun_of (pc18 w os)) (piece_app (segRun_of (pc19 w os)) (piece_app (segRun_of (pc20 w os)) (piece_app (segRun_of (pc21 w os)) (piece_app (segRun_of (pc22 w os)) (piece_app (segRun_of (pc23 w os)) (piece_nil (fin_q w os)))))))))))))))))))))))))))
end PyLaw.G

namespace PyLaw.G
open PySem PySem.W PySem.Calls PyProof.Rows
set_option maxRecDepth 100000
set_option maxHeartbeats 8000000
noncomputable def q : Program := { pw with main := { pw.main with body := [f 176] } }
noncomputable def loose : List Str := [S "_wall", S "GateloomError", S "DesignError", S "LimitReached", S "mask", S "vec", S "zeros", S "all_x", S "all_z", S "from_int", S "is_known", S "to_int", S "code", S "slice_vec", S "put_slice", S "concat", S "extend", S "z_to_x", S "truth", S "Store", S "Context", S "add", S "sub", S "mul", S "neg", S "quotient", S "div", S "mod", S "raise_whole", S "power", S "shift_left", S "shift_right", S "shift_arith", S "ordered", S "less", S "less_equal", S "greater", S "greater_equal", S "one_bit", S "bit_not", S "bit_and", S "bit_or", S "bit_xor", S "bit_xnor", S "reduce_and", S "reduce_nand", S "reduce_or", S "reduce_nor", S "reduce_xor", S "reduce_xnor", S "logic_not", S "logic_and", S "logic_or", S "equal", S "not_equal", S "case_equal", S "case_not_equal", S "matches", S "choose", S "unary", S "arithmetic", S "comparison", S "bitwise", S "binary", S "whole_of", S "memory_word", S "picked", S "conditional", S "bits_needed", S "system_value", S "system_value_evaluate", S "evaluate", S "locate", S "holder_width", S "resolve_target", S "store_rows", S "DEPTH_LIMIT", S "FunctionContext", S "run_block", S "run_set", S "run_case", S "run_while", S "run_repeat", S "run_for", S "run_statement", S "children", S "subexpressions", S "expr_reads", S "expr_calls", S "target_indexes", S "target_writes", S "stmt_parts", S "substatements", S "stmt_targets", S "stmt_exprs", S "stmt_reads", S "stmt_writes", S "stmt_calls", S "MAX_WIDTH", S "last_select", S "is_memory", S "shape", S "read_entry", S "folds", S "folded", S "checked_width", S "selected", S "text_vec", S "inner_join", S "is_context_operator", S "is_shift", S "widen", S "number_value", S "is_constant", S "path_names", S "entry_of", S "base_entry", S "select_width", S "select_where", S "named_type", S "named_value", S "function_of", S "call_value", S "system_type", S "system_value_elabexpr", S "joined_parts", S "copies", S "joined_width", S "joined_value", S "both_types", S "expr_type", S "unary_value", S "binary_value", S "build", S "self_determined", S "sized", S "constant_vec", S "constant", S "whole", S "range_of", S "MOST_TURNS", S "block_label", S "branch_rows", S "common_type", S "case_branch", S "loop_values", S "loop_rows", S "generate_choice", S "defparam_row", S "instance_rows", S "Design", S "Scope", S "_law_row", S "_law_next", S "_law_bits", S "_law_made", S "_law_small", S "_law_number", S "_law_source", S "_law_wide", S "_law_kept"]
noncomputable abbrev Hf (P : Params) : Heap := absHeap (T23 P) 1373 life0
noncomputable abbrev sF (w : World) (os : OsState) : Shared := ⟨Hf w.params, #[], {}, 2182, os⟩
noncomputable abbrev Xt : Shared → Bool := fun s => xlAt q [] s && recOk [] s
theorem la1 (P : Params) : staticsOk (importedModules pw.main.body) (boot_heap P) (Hf P) = true := by kernel_rfl
theorem la2 (P : Params) : namesBound pw (Hf P) = true := by kernel_rfl
theorem la4 (P : Params) : laidKept (boot_heap P) (Hf P) = true := by kernel_rfl
theorem la3 (w : World) (os : OsState) : gensDone (sF w os) = true := by kernel_rfl
theorem lb (w : World) (os : OsState) : openSeen q loose (importedModules pw.main.body) Xt true (sF w os) = openGood q loose := by
  rw [PySem.W.Fast.te4187177175401517315]
  kernel_rfl
end PyLaw.G

namespace PyLaw.G
open PySem PySem.W PySem.Calls PyProof.Rows
set_option maxRecDepth 100000
set_option maxHeartbeats 400000
theorem op1 : opening pw = plainProg pw.main.scope.names := by kernel_rfl
theorem op2 (x : Shared) : fenceModules? pw x = some x := by kernel_rfl
theorem op3 (w : World) : ((boot_heap w.params).isNs mainGlobals && (#[] : Array GenState).size == 0, (boot_heap w.params).objs.size, (boot_heap w.params).nsMap mainGlobals "__annotations__") = (true, 11, ann0) := by kernel_rfl
theorem op4 (w : World) : (fencedOpening treeTable pw w 15306).map (fun s => (s.heap, s.gens, s.drawn, s.toks)) = some (boot_heap w.params, #[], boot_drawn, boot_toks) := boot_open op1 rfl op2 w
theorem op5 (w : World) (os : OsState) : (st23 w os).abs = ⟨Hf w.params, #[], {}, 2182, os⟩ := by kernel_rfl
theorem looks {α : Type} {Yf : Shared → α} {Ya : World → α} (w : World) (os : OsState) (h : Yf ⟨Hf w.params, #[], {}, 2182, os⟩ = Ya w) : ((staticsOk (importedModules pw.main.body) (boot_heap w.params) (Hf w.params) && namesBound pw (Hf w.params) && gensDone ⟨Hf w.params, #[], {}, 2182, os⟩ && laidKept (boot_heap w.params) (Hf w.params)),
        openSeen q loose (importedModules pw.main.body) Xt true ⟨Hf w.params, #[], {}, 2182, os⟩, Yf ⟨Hf w.params, #[], {}, 2182, os⟩) = (true, openGood q loose, Ya w) := by
  have e1 := la1 w.params
  have e2 := la2 w.params
  have e4 := la4 w.params
  have e3 := la3 w os
  have e5 := lb w os
  unfold sF at e3 e5
  generalize Hf = H at *
  rw [e1, e2, e3, e4, e5, h]
  rfl
theorem left_of {p q : Program} {loose : List Str} {Xt : Shared → Bool} {α : Type} {Yf : Shared → α} {Ya : World → α} {N : Nat} {H₀ H₁ : Params → Heap} {d₀ d₁ : Drawn} {k₀ k₁ : Nat} {m₀ : Nat} {ann : Option Value} {M : Nat}
    (open_ : ∀ w : World, (fencedOpening treeTable p w N).map (fun s => (s.heap, s.gens, s.drawn, s.toks)) = some (H₀ w.params, #[], d₀, k₀))
    (size : ∀ w : World, ((H₀ w.params).isNs mainGlobals && (#[] : Array GenState).size == 0, (H₀ w.params).objs.size, (H₀ w.params).nsMap mainGlobals "__annotations__") = (true, m₀, ann))
    (run : ∀ (w : World) (os : OsState), topRun treeTable p w m₀ ann M ⟨H₀ w.params, #[], d₀, k₀, os⟩ (topStub p) = some ⟨H₁ w.params, #[], d₁, k₁, os⟩) (le : Nat.ble M N = true)
    (looks : ∀ (w : World) (os : OsState), ((staticsOk (importedModules p.main.body) (H₀ w.params) (H₁ w.params) && namesBound p (H₁ w.params) && gensDone ⟨H₁ w.params, #[], d₁, k₁, os⟩ && laidKept (H₀ w.params) (H₁ w.params)),
        openSeen q loose (importedModules p.main.body) Xt true ⟨H₁ w.params, #[], d₁, k₁, os⟩, Yf ⟨H₁ w.params, #[], d₁, k₁, os⟩) = (true, openGood q loose, Ya w)) : LeftO p q loose Xt Yf Ya N true :=
  LeftO.of_pieces open_ size run le fun w => funext (looks w)
theorem run_end (w : World) (os : OsState) : topRun treeTable pw w 11 ann0 MM ⟨boot_heap w.params, #[], boot_drawn, boot_toks, os⟩ (topStub pw) = some ⟨Hf w.params, #[], {}, 2182, os⟩ := (run_all w os).trans (congrArg some (op5 w os))
theorem left {α : Type} {Yf : Shared → α} {Ya : World → α} (h : ∀ (w : World) (os : OsState), Yf ⟨Hf w.params, #[], {}, 2182, os⟩ = Ya w) : LeftO pw q loose Xt Yf Ya 15306 true :=
  left_of op4 op3 run_end (by kernel_rfl) fun w os => looks w os (h w os)
end PyLaw.G

namespace PyLaw.G
open PySem PySem.W PySem.Calls PyProof.Rows
set_option maxRecDepth 100000
set_option maxHeartbeats 8000000
abbrev pw' : Program := PySem.Challenge.pw_nn0349_01
abbrev rw' : OpenLaw := PySem.Challenge.rw_nn0349_01
theorem s1 : (sreFenced pw'.main && ((moduleNames pw'.main.body).isEmpty || lookedIntoSs (moduleNames pw'.main.body) pw'.main.body)) = true := by
  rw [PySem.W.Fast.te11788848310118352699, PySem.W.Fast.te9807087744658564304, PySem.W.Fast.te12862048085361865435]
  kernel_rfl
theorem s2 : namesResolve pw' = true := by
  rw [PySem.W.Fast.te8377067652309620493]
  kernel_rfl
theorem s3 : (pw'.boundNames.all fun n => !worldNames.contains n) = true := by
  rw [PySem.W.Fast.te18344453789297297638, PySem.W.Fast.te3471404346716756564, PySem.W.Fast.sDec_eq, PySem.W.Fast.te14412699480532031325]
  kernel_rfl
theorem s4a : (!(importedModules pw'.main.body).all cThrough.contains) = false := by kernel_rfl
theorem rd1 : readsOut pw' pw'.main.body ("vars" : Str) = false := by
  rw [PySem.W.Fast.te13343964577679436407]
  kernel_rfl
theorem rd2 : readsOut pw' pw'.main.body ("dir" : Str) = false := by
  rw [PySem.W.Fast.te13343964577679436407]
  kernel_rfl
theorem rd3 : readsOut pw' pw'.main.body ("locals" : Str) = false := by
  rw [PySem.W.Fast.te13343964577679436407]
  kernel_rfl
theorem filter3 {α : Type} {f : α → Bool} {a b c : α} (h1 : f a = false) (h2 : f b = false) (h3 : f c = false) : [a, b, c].filter f = [] := by simp [h1, h2, h3]
theorem s4b : ((["vars", "dir", "locals"] : List Str).filter (readsOut pw' pw'.main.body)) = [] := filter3 rd1 rd2 rd3
theorem s4c : noRoadLSs { strict := false, foot := none, bare := [] } pw'.main.body = true := by
  rw [PySem.W.Fast.te8326940854005059898]
  kernel_rfl
theorem s4 : noRoadLSs { strict := !(importedModules pw'.main.body).all cThrough.contains, foot := none, bare := (["vars", "dir", "locals"] : List Str).filter (readsOut pw' pw'.main.body) } pw'.main.body = true := by
  rw [s4a, s4b]
  exact s4c
theorem s5 : namesMeet pw' pw'.main.body (fun _ n => attrL n) = true := by
  rw [PySem.W.Fast.te17119622794617984870, PySem.W.Fast.te17868728402115742887]
  kernel_rfl
theorem s_open : looksOpen pw' = true := by
  unfold looksOpen
  rw [s1, s2, s3, s4, s5]
  rfl
end PyLaw.G

namespace PyLaw.G
open PySem PySem.W PySem.Calls PyProof.Rows
set_option maxRecDepth 100000
set_option maxHeartbeats 8000000
theorem s_part : rw'.row.partSaid = true := by
  unfold OpenRow.partSaid
  show (looksOpen pw' && _ && _ && _ && _ && _ && _ && _ && _ && _ && _ && _ && _ && _) = true
  rw [s_open]
  rw [PySem.W.Fast.te13582783067957832011, PySem.W.Fast.te5318747976498570220]
  kernel_rfl
theorem s_row : rw'.row.wellSaid = true := by
  unfold OpenRow.wellSaid
  rw [s_part]
  rw [PySem.W.Fast.te3471404346716756564, PySem.W.Fast.sDec_eq, PySem.W.Fast.te18344453789297297638, PySem.W.Fast.te12749700546528644094, PySem.W.Fast.te2368527892694137696]
  kernel_rfl
theorem t1 : (decide (rw'.foot ≤ (behindTheImports rw'.prog).length) && rw'.footing.all footLine) = true := by
  rw [PySem.W.Fast.te10501279942588096481]
  kernel_rfl
theorem t2 : noClassBlock rw'.prog rw'.footing = true := by
  rw [PySem.W.Fast.te8179353310426384613]
  kernel_rfl
theorem t3 : noRoadLSs { strict := true, foot := some rw'.bound', writes := rw'.writes, may := rw'.may } rw'.footing = true := by
  rw [PySem.W.Fast.te8326940854005059898, PySem.W.Fast.te797321630700447069, PySem.W.Fast.te9572597257264208301]
  kernel_rfl
theorem t4 : (defStands rw'.about rw'.above && rw'.namesIt) = true := by
  rw [PySem.W.Fast.te9558739934217749035, PySem.W.Fast.te16286561074155671207]
  kernel_rfl
theorem t5 : (rw'.bound'.all fun n => !builtinNamed n || rw'.about == [n] || !rw'.reads n) = true := by
  rw [PySem.W.Fast.te797321630700447069, PySem.W.Fast.te6984425678791042302, PySem.W.Fast.named_eq]
  kernel_rfl
theorem t6 : ((!rw'.writes || (rw'.prog.main.body.flatMap importedNames).all fun n => !rw'.reads n) && (rw'.prog.main.body.flatMap importedNames).all (fun n => !rw'.reads n || (drawsOf n rw'.prog.main.body).all fun mn => mn.2 != ("attrgetter" : Str) && mn.2 != ("methodcaller" : Str))) = true := by
  rw [PySem.W.Fast.te6984425678791042302, PySem.W.Fast.te12879404354523853263, PySem.W.Fast.te17095254045102204799]
  kernel_rfl
theorem t7 : (namesMeet rw'.prog rw'.footing fun sc n => (!(["type", "isinstance", "issubclass", "getattr", "hasattr"] : List Str).contains n || sc.names.lookup n == some .globalImplicit) &&
    (rw'.may != some n || sc.kind == .module || sc.names.lookup n == some .globalImplicit)) = true := by
  rw [PySem.W.Fast.te17119622794617984870]
  kernel_rfl
theorem t8 : (rw'.own.contains rw'.name && rw'.own.eraseDups.length == rw'.own.length && rw'.own.all (fun n => !builtinNamed n)) = true := by
  rw [PySem.W.Fast.te10792542408131684335, PySem.W.Fast.named_eq]
  kernel_rfl
theorem t9 : (namesMeet rw'.prog rw'.above fun _ n => !rw'.own.contains n) = true := by
  rw [PySem.W.Fast.te17119622794617984870, PySem.W.Fast.te3471404346716756564, PySem.W.Fast.sDec_eq, PySem.W.Fast.te10792542408131684335]
  kernel_rfl
theorem t10 : (namesMeet rw'.prog rw'.footing fun sc n => sc.kind == .module || sc.names.lookup n != some .globalExplicit) = true := by
  rw [PySem.W.Fast.te17119622794617984870]
  kernel_rfl
theorem and_t {a b : Bool} (x : a = true) (y : b = true) : (a && b) = true := by rw [x, y]; rfl
theorem and_l {a b : Bool} (x : (a && b) = true) : a = true := (Bool.and_eq_true_iff.mp x).1
theorem and_r {a b : Bool} (x : (a && b) = true) : b = true := (Bool.and_eq_true_iff.mp x).2
theorem said : rw'.wellSaid = true := by
  unfold OpenLaw.wellSaid
  refine and_t ?_ t10
  refine and_t ?_ t9
  refine and_t ?_ (and_r t8)
  refine and_t ?_ (and_r (and_l t8))
  refine and_t ?_ (and_l (and_l t8))
  refine and_t ?_ t7
  refine and_t ?_ (and_r t6)
  refine and_t ?_ (and_l t6)
  refine and_t ?_ t5
  refine and_t ?_ (by kernel_rfl)
  refine and_t ?_ (and_r t4)
  refine and_t ?_ (and_l t4)
  refine and_t ?_ t3
  refine and_t ?_ (by kernel_rfl)
  refine and_t ?_ (by kernel_rfl)
  refine and_t ?_ t2
  refine and_t ?_ (and_r t1)
  exact and_t s_row (and_l t1)
end PyLaw.G

namespace PyLaw.G
open PySem PySem.W PySem.Calls PyProof.Rows
set_option maxRecDepth 100000
set_option maxHeartbeats 8000000
theorem holds_q : TablesWhole.holds = ⟨fun sc n _ => PySem.W.Fast.tw15985051520779696433 sc n, fun _ _ _ ok => ok, fun _ => true, true, false, fun a b => a && b⟩ := by
  rw [← PySem.W.Fast.te15985051520779696433]; rfl
/-- the check of a body, cut in two -/
theorem whole_cut {top sc : PySem.Scope} {cx : TablesWhole.Ctx} : ∀ (k : Nat) (l : List Stmt), TablesWhole.wSs TablesWhole.holds top cx sc (l.take k) = true → TablesWhole.wSs TablesWhole.holds top cx sc (l.drop k) = true → TablesWhole.wSs TablesWhole.holds top cx sc l = true
  | 0, _, _, h => h
  | _ + 1, [], _, h => h
  | k + 1, s :: l, h1, h2 => by
    rw [List.take_succ_cons, TablesWhole.wSs] at h1
    rw [TablesWhole.wSs]
    have q := Bool.and_eq_true_iff.mp h1
    exact Bool.and_eq_true_iff.mpr ⟨q.1, whole_cut k l q.2 h2⟩
theorem wmod_of (m : Module) (h0 : TablesWhole.wSs TablesWhole.gather m.scope ⟨m.scope, [], [], [], none⟩ m.scope m.body = []) (h1 : TablesWhole.noTwice m.scope = true) (h2 : TablesWhole.wSs TablesWhole.holds m.scope ⟨m.scope, [], [], [], none⟩ m.scope m.body = true) : TablesWhole.wModule TablesWhole.holds m = true := by
  unfold TablesWhole.wModule
  rw [h0]
  dsimp only
  rw [h1, h2]
  rfl
abbrev wsc : PySem.Scope := pw.main.scope
abbrev wcx : TablesWhole.Ctx := ⟨wsc, [], [], [], none⟩
theorem wm0 : TablesWhole.wSs TablesWhole.gather wsc wcx wsc pw.main.body = [] := by
  rw [PySem.W.Fast.te16421684217811934046, PySem.W.Fast.te12652042256554560961]
  kernel_rfl
theorem wm1 : TablesWhole.wSs TablesWhole.holds wsc wcx wsc (pw.main.body.take 60) = true := by
  rw [PySem.W.Fast.te16421684217811934046, holds_q]
  kernel_rfl
theorem wm2 : TablesWhole.wSs TablesWhole.holds wsc wcx wsc ((pw.main.body.drop 60).take 60) = true := by
  rw [PySem.W.Fast.te16421684217811934046, holds_q]
  kernel_rfl
theorem wm3 : TablesWhole.wSs TablesWhole.holds wsc wcx wsc ((pw.main.body.drop 60).drop 60) = true := by
  rw [PySem.W.Fast.te16421684217811934046, holds_q]
  kernel_rfl
theorem wm4 : (TablesWhole.noTwice wsc && true) = true := by
  rw [PySem.W.Fast.te8331962902438777018]
  kernel_rfl
theorem wm : TablesWhole.wModule TablesWhole.holds pw.main = true := wmod_of pw.main wm0 (Bool.and_eq_true_iff.mp wm4).1 (whole_cut 60 pw.main.body wm1 (whole_cut 60 (pw.main.body.drop 60) wm2 wm3))
theorem whole_t : pw.tablesWhole = true := by
  unfold Program.tablesWhole TablesWhole.wProgram
  rw [wm]
  rfl
end PyLaw.G

namespace PyLaw
open PySem PySem.W PySem.Calls PyProof.Rows PyLaw.G
set_option maxRecDepth 100000
set_option maxHeartbeats 8000000
noncomputable abbrev k2 (P : Params) : Obj := ⟨.none, none, .dict #[⟨PyData.keyHash P (Str.ofString "type.__subclasses__.Exception.0"), .str (Str.ofString "type.__subclasses__.Exception.0") 228, (.int 39 0)⟩, ⟨PyData.keyHash P (Str.ofString "type.__subclasses__.Exception.n"), .str (Str.ofString "type.__subclasses__.Exception.n") 229, (.int 1 0)⟩] 2, #[]⟩
noncomputable abbrev k22 : Obj := ⟨.type "tuple", none, .seq (List.toArray [(.type "Exception")]) 0, List.toArray []⟩
noncomputable abbrev k29 : Obj := ⟨.type "tuple", none, .seq (List.toArray [(.int (-1) 209), (.str (Str.ofString "") 210)]) 0, List.toArray []⟩
noncomputable abbrev k35 : Obj := ⟨.type "code", none, .fields (List.toArray [(.str (Str.ofString "__init__") 211), (.str (Str.ofString "GateloomError.__init__") 212), (.str (Str.ofString "/claim/cut.py") 213), (.int 7 0), (.int 4 0), (.int 0 0), (.int 0 0), (.int 3 0), (.ref 30), (.bool true), (.int 181 0), (.ref 31), .none, (.ref 32), (.ref 33), (.ref 34), (.int 218 0), (.int 7 0), (.str (Str.ofString "/claim/cut.py") 219)]), List.toArray []⟩
noncomputable abbrev k36 : Obj := by
  refine' (?F : ∀ (n : Str) (a : Arguments) (l : List Stmt) (sc : PySem.Scope) (bd : Str) (ps : Pos), m 2 0 = .FunctionDef n a l [] none [] sc none bd ps → Obj) _ _ _ _ _ _ rfl
  exact fun n a l sc _ _ _ => ⟨.type "function", none, .func { name := n, qualname := Str.ofString "GateloomError.__init__", params := a, body := .stmts l, scope := sc, globals := 3, closure := [], defaults := (.ref 29), kwdefaults := .none, doc := .none, pyModule := (.str (Str.ofString "gateloom.errors") 194), annotations := none, code := (.ref 35), closureTuple := .none, builtins := 0 }, List.toArray []⟩
noncomputable abbrev k37 : Obj := ⟨.type "tuple", none, .seq (List.toArray [(.str (Str.ofString "at") 221), (.str (Str.ofString "detail") 222), (.str (Str.ofString "kind") 223)]) 0, List.toArray []⟩
noncomputable abbrev k38 (P : Params) : Obj := ⟨.type "dict", none, .dict (List.toArray [⟨PyData.keyHash P (Str.ofString "__module__"), .str (Str.ofString "__module__") 203, (.str (Str.ofString "gateloom.errors") 194)⟩, ⟨PyData.keyHash P (Str.ofString "__firstlineno__"), .str (Str.ofString "__firstlineno__") 207, (.int 5 206)⟩, ⟨PyData.keyHash P (Str.ofString "__init__"), .str (Str.ofString "__init__") 220, (.ref 36)⟩, ⟨PyData.keyHash P (Str.ofString "__static_attributes__"), .str (Str.ofString "__static_attributes__") 224, (.ref 37)⟩, ⟨PyData.keyHash P (Str.ofString "__weakref__"), .str (Str.ofString "__weakref__") 226, (.ref 40)⟩, ⟨PyData.keyHash P (Str.ofString "__doc__"), .str (Str.ofString "__doc__") 227, .none⟩]) 3, List.toArray []⟩
noncomputable abbrev k39 : Obj := ⟨(.type "type"), none, .cls { name := Str.ofString "GateloomError", bases := [(.type "Exception")], mro := [(.ref 39), (.type "Exception"), (.type "BaseException"), (.type "object")], ns := 38, qualname := Str.ofString "GateloomError", hasDict := true, subclasses := [(.ref 52), (.ref 64)], abstract := false, hasDel := false}, #[some (.ref 22), none, some (.str (Str.ofString "GateloomError") 196), some (.str (Str.ofString "GateloomError") 204), some (.builtin "Exception.__new__"), some (.bool true)]⟩
noncomputable abbrev k40 : Obj := ⟨(.type "getset_descriptor"), none, .fields #[(.str (Str.ofString "__weakref__") 225), (.ref 39), (.builtin "ExceptionGroup.__weakref__"), .none], #[]⟩
noncomputable abbrev k43 : Obj := ⟨.type "tuple", none, .seq (List.toArray [(.ref 39)]) 0, List.toArray []⟩
noncomputable abbrev k50 : Obj := ⟨.type "tuple", none, .seq (List.toArray []) 0, List.toArray []⟩
noncomputable abbrev k51 (P : Params) : Obj := ⟨.type "dict", none, .dict (List.toArray [⟨PyData.keyHash P (Str.ofString "__module__"), .str (Str.ofString "__module__") 239, (.str (Str.ofString "gateloom.errors") 194)⟩, ⟨PyData.keyHash P (Str.ofString "__firstlineno__"), .str (Str.ofString "__firstlineno__") 243, (.int 11 242)⟩, ⟨PyData.keyHash P (Str.ofString "__static_attributes__"), .str (Str.ofString "__static_attributes__") 244, (.ref 50)⟩, ⟨PyData.keyHash P (Str.ofString "__doc__"), .str (Str.ofString "__doc__") 245, .none⟩]) 2, List.toArray []⟩
noncomputable abbrev k52 : Obj := ⟨(.type "type"), none, .cls { name := Str.ofString "DesignError", bases := [(.ref 39)], mro := [(.ref 52), (.ref 39), (.type "Exception"), (.type "BaseException"), (.type "object")], ns := 51, qualname := Str.ofString "DesignError", hasDict := true, subclasses := [], abstract := false, hasDel := false}, #[some (.ref 43), none, some (.str (Str.ofString "DesignError") 232), some (.str (Str.ofString "DesignError") 240), some (.builtin "Exception.__new__"), some (.bool true)]⟩
noncomputable abbrev k64 : Obj := ⟨(.type "type"), none, .cls { name := Str.ofString "LimitReached", bases := [(.ref 39)], mro := [(.ref 64), (.ref 39), (.type "Exception"), (.type "BaseException"), (.type "object")], ns := 63, qualname := Str.ofString "LimitReached", hasDict := true, subclasses := [], abstract := false, hasDel := false}, #[some (.ref 55), none, some (.str (Str.ofString "LimitReached") 248), some (.str (Str.ofString "LimitReached") 256), some (.builtin "Exception.__new__"), some (.bool true)]⟩
noncomputable abbrev k72 : Obj := ⟨.type "code", none, .fields (List.toArray [(.str (Str.ofString "mask") 266), (.str (Str.ofString "mask") 267), (.str (Str.ofString "/claim/cut.py") 268), (.int 16 0), (.int 1 0), (.int 0 0), (.int 0 0), (.int 3 0), (.ref 67), (.bool true), (.int 181 0), (.ref 68), .none, (.ref 69), (.ref 70), (.ref 71), (.int 270 0), (.int 16 0), (.str (Str.ofString "/claim/cut.py") 271)]), List.toArray []⟩
noncomputable abbrev k73 : Obj := by
  refine' (?F : ∀ (n : Str) (a : Arguments) (l : List Stmt) (sc : PySem.Scope) (bd : Str) (ps : Pos), f 6 = .FunctionDef n a l [] none [] sc none bd ps → Obj) _ _ _ _ _ _ rfl
  exact fun n a l sc _ _ _ => ⟨.type "function", none, .func { name := n, qualname := Str.ofString "mask", params := a, body := .stmts l, scope := sc, globals := 3, closure := [], defaults := .none, kwdefaults := .none, doc := .none, pyModule := (.str (Str.ofString "gateloom.vec") 264), annotations := none, code := (.ref 72), closureTuple := .none, builtins := 0 }, List.toArray []⟩
noncomputable abbrev k74 : Obj := ⟨.type "tuple", none, .seq (List.toArray [(.int 0 273)]) 0, List.toArray []⟩
noncomputable abbrev k80 : Obj := ⟨.type "code", none, .fields (List.toArray [(.str (Str.ofString "vec") 274), (.str (Str.ofString "vec") 275), (.str (Str.ofString "/claim/cut.py") 276), (.int 18 0), (.int 3 0), (.int 0 0), (.int 0 0), (.int 3 0), (.ref 75), (.bool true), (.int 181 0), (.ref 76), .none, (.ref 77), (.ref 78), (.ref 79), (.int 281 0), (.int 18 0), (.str (Str.ofString "/claim/cut.py") 282)]), List.toArray []⟩
noncomputable abbrev k81 : Obj := by
  refine' (?F : ∀ (n : Str) (a : Arguments) (l : List Stmt) (sc : PySem.Scope) (bd : Str) (ps : Pos), f 7 = .FunctionDef n a l [] none [] sc none bd ps → Obj) _ _ _ _ _ _ rfl
  exact fun n a l sc _ _ _ => ⟨.type "function", none, .func { name := n, qualname := Str.ofString "vec", params := a, body := .stmts l, scope := sc, globals := 3, closure := [], defaults := (.ref 74), kwdefaults := .none, doc := .none, pyModule := (.str (Str.ofString "gateloom.vec") 264), annotations := none, code := (.ref 80), closureTuple := .none, builtins := 0 }, List.toArray []⟩
noncomputable abbrev k122 : Obj := ⟨.type "code", none, .fields (List.toArray [(.str (Str.ofString "to_int") 321), (.str (Str.ofString "to_int") 322), (.str (Str.ofString "/claim/cut.py") 323), (.int 32 0), (.int 2 0), (.int 0 0), (.int 0 0), (.int 3 0), (.ref 117), (.bool true), (.int 181 0), (.ref 118), .none, (.ref 119), (.ref 120), (.ref 121), (.int 329 0), (.int 32 0), (.str (Str.ofString "/claim/cut.py") 330)]), List.toArray []⟩
noncomputable abbrev k123 : Obj := by
  refine' (?F : ∀ (n : Str) (a : Arguments) (l : List Stmt) (sc : PySem.Scope) (bd : Str) (ps : Pos), f 13 = .FunctionDef n a l [] none [] sc none bd ps → Obj) _ _ _ _ _ _ rfl
  exact fun n a l sc _ _ _ => ⟨.type "function", none, .func { name := n, qualname := Str.ofString "to_int", params := a, body := .stmts l, scope := sc, globals := 3, closure := [], defaults := .none, kwdefaults := .none, doc := .none, pyModule := (.str (Str.ofString "gateloom.vec") 264), annotations := none, code := (.ref 122), closureTuple := .none, builtins := 0 }, List.toArray []⟩
noncomputable abbrev k129 : Obj := ⟨.type "code", none, .fields (List.toArray [(.str (Str.ofString "code") 332), (.str (Str.ofString "code") 333), (.str (Str.ofString "/claim/cut.py") 334), (.int 39 0), (.int 2 0), (.int 0 0), (.int 0 0), (.int 3 0), (.ref 124), (.bool true), (.int 181 0), (.ref 125), .none, (.ref 126), (.ref 127), (.ref 128), (.int 337 0), (.int 39 0), (.str (Str.ofString "/claim/cut.py") 338)]), List.toArray []⟩
noncomputable abbrev k130 : Obj := by
  refine' (?F : ∀ (n : Str) (a : Arguments) (l : List Stmt) (sc : PySem.Scope) (bd : Str) (ps : Pos), f 14 = .FunctionDef n a l [] none [] sc none bd ps → Obj) _ _ _ _ _ _ rfl
  exact fun n a l sc _ _ _ => ⟨.type "function", none, .func { name := n, qualname := Str.ofString "code", params := a, body := .stmts l, scope := sc, globals := 3, closure := [], defaults := .none, kwdefaults := .none, doc := .none, pyModule := (.str (Str.ofString "gateloom.vec") 264), annotations := none, code := (.ref 129), closureTuple := .none, builtins := 0 }, List.toArray []⟩
noncomputable abbrev k157 : Obj := ⟨.type "code", none, .fields (List.toArray [(.str (Str.ofString "extend") 383), (.str (Str.ofString "extend") 384), (.str (Str.ofString "/claim/cut.py") 385), (.int 72 0), (.int 3 0), (.int 0 0), (.int 0 0), (.int 3 0), (.ref 152), (.bool true), (.int 181 0), (.ref 153), .none, (.ref 154), (.ref 155), (.ref 156), (.int 393 0), (.int 72 0), (.str (Str.ofString "/claim/cut.py") 394)]), List.toArray []⟩
noncomputable abbrev k158 : Obj := by
  refine' (?F : ∀ (n : Str) (a : Arguments) (l : List Stmt) (sc : PySem.Scope) (bd : Str) (ps : Pos), f 18 = .FunctionDef n a l [] none [] sc none bd ps → Obj) _ _ _ _ _ _ rfl
  exact fun n a l sc _ _ _ => ⟨.type "function", none, .func { name := n, qualname := Str.ofString "extend", params := a, body := .stmts l, scope := sc, globals := 3, closure := [], defaults := .none, kwdefaults := .none, doc := .none, pyModule := (.str (Str.ofString "gateloom.vec") 264), annotations := none, code := (.ref 157), closureTuple := .none, builtins := 0 }, List.toArray []⟩
noncomputable abbrev k863 : Obj := ⟨.type "code", none, .fields (List.toArray [(.str (Str.ofString "checked_width") 1393), (.str (Str.ofString "checked_width") 1394), (.str (Str.ofString "/claim/cut.py") 1395), (.int 834 0), (.int 2 0), (.int 0 0), (.int 0 0), (.int 3 0), (.ref 858), (.bool true), (.int 181 0), (.ref 859), .none, (.ref 860), (.ref 861), (.ref 862), (.int 1398 0), (.int 834 0), (.str (Str.ofString "/claim/cut.py") 1399)]), List.toArray []⟩
noncomputable abbrev k864 : Obj := by
  refine' (?F : ∀ (n : Str) (a : Arguments) (l : List Stmt) (sc : PySem.Scope) (bd : Str) (ps : Pos), f 114 = .FunctionDef n a l [] none [] sc none bd ps → Obj) _ _ _ _ _ _ rfl
  exact fun n a l sc _ _ _ => ⟨.type "function", none, .func { name := n, qualname := Str.ofString "checked_width", params := a, body := .stmts l, scope := sc, globals := 3, closure := [], defaults := .none, kwdefaults := .none, doc := .none, pyModule := (.str (Str.ofString "gateloom.elabparts") 1337), annotations := none, code := (.ref 863), closureTuple := .none, builtins := 0 }, List.toArray []⟩
noncomputable abbrev k912 : Obj := ⟨.type "code", none, .fields (List.toArray [(.str (Str.ofString "number_value") 1449), (.str (Str.ofString "number_value") 1450), (.str (Str.ofString "/claim/cut.py") 1451), (.int 859 0), (.int 3 0), (.int 0 0), (.int 0 0), (.int 3 0), (.ref 907), (.bool true), (.int 181 0), (.ref 908), .none, (.ref 909), (.ref 910), (.ref 911), (.int 1457 0), (.int 859 0), (.str (Str.ofString "/claim/cut.py") 1458)]), List.toArray []⟩
noncomputable abbrev k913 : Obj := by
  refine' (?F : ∀ (n : Str) (a : Arguments) (l : List Stmt) (sc : PySem.Scope) (bd : Str) (ps : Pos), f 121 = .FunctionDef n a l [] none [] sc none bd ps → Obj) _ _ _ _ _ _ rfl
  exact fun n a l sc _ _ _ => ⟨.type "function", none, .func { name := n, qualname := Str.ofString "number_value", params := a, body := .stmts l, scope := sc, globals := 3, closure := [], defaults := .none, kwdefaults := .none, doc := .none, pyModule := (.str (Str.ofString "gateloom.elabparts") 1337), annotations := none, code := (.ref 912), closureTuple := .none, builtins := 0 }, List.toArray []⟩
noncomputable abbrev k1038 : Obj := ⟨.type "code", none, .fields (List.toArray [(.str (Str.ofString "expr_type") 1649), (.str (Str.ofString "expr_type") 1650), (.str (Str.ofString "/claim/cut.py") 1651), (.int 1046 0), (.int 2 0), (.int 0 0), (.int 0 0), (.int 3 0), (.ref 1033), (.bool true), (.int 181 0), (.ref 1034), .none, (.ref 1035), (.ref 1036), (.ref 1037), (.int 1656 0), (.int 1046 0), (.str (Str.ofString "/claim/cut.py") 1657)]), List.toArray []⟩
noncomputable abbrev k1039 : Obj := by
  refine' (?F : ∀ (n : Str) (a : Arguments) (l : List Stmt) (sc : PySem.Scope) (bd : Str) (ps : Pos), f 141 = .FunctionDef n a l [] none [] sc none bd ps → Obj) _ _ _ _ _ _ rfl
  exact fun n a l sc _ _ _ => ⟨.type "function", none, .func { name := n, qualname := Str.ofString "expr_type", params := a, body := .stmts l, scope := sc, globals := 3, closure := [], defaults := .none, kwdefaults := .none, doc := .none, pyModule := (.str (Str.ofString "gateloom.elabexpr") 1473), annotations := none, code := (.ref 1038), closureTuple := .none, builtins := 0 }, List.toArray []⟩
noncomputable abbrev k1059 : Obj := ⟨.type "code", none, .fields (List.toArray [(.str (Str.ofString "build") 1686), (.str (Str.ofString "build") 1687), (.str (Str.ofString "/claim/cut.py") 1688), (.int 1100 0), (.int 4 0), (.int 0 0), (.int 0 0), (.int 3 0), (.ref 1054), (.bool true), (.int 181 0), (.ref 1055), .none, (.ref 1056), (.ref 1057), (.ref 1058), (.int 1697 0), (.int 1100 0), (.str (Str.ofString "/claim/cut.py") 1698)]), List.toArray []⟩
noncomputable abbrev k1060 : Obj := by
  refine' (?F : ∀ (n : Str) (a : Arguments) (l : List Stmt) (sc : PySem.Scope) (bd : Str) (ps : Pos), f 144 = .FunctionDef n a l [] none [] sc none bd ps → Obj) _ _ _ _ _ _ rfl
  exact fun n a l sc _ _ _ => ⟨.type "function", none, .func { name := n, qualname := Str.ofString "build", params := a, body := .stmts l, scope := sc, globals := 3, closure := [], defaults := .none, kwdefaults := .none, doc := .none, pyModule := (.str (Str.ofString "gateloom.elabexpr") 1473), annotations := none, code := (.ref 1059), closureTuple := .none, builtins := 0 }, List.toArray []⟩
noncomputable abbrev k1066 : Obj := ⟨.type "code", none, .fields (List.toArray [(.str (Str.ofString "self_determined") 1700), (.str (Str.ofString "self_determined") 1701), (.str (Str.ofString "/claim/cut.py") 1702), (.int 1123 0), (.int 2 0), (.int 0 0), (.int 0 0), (.int 3 0), (.ref 1061), (.bool true), (.int 181 0), (.ref 1062), .none, (.ref 1063), (.ref 1064), (.ref 1065), (.int 1707 0), (.int 1123 0), (.str (Str.ofString "/claim/cut.py") 1708)]), List.toArray []⟩
noncomputable abbrev k1067 : Obj := by
  refine' (?F : ∀ (n : Str) (a : Arguments) (l : List Stmt) (sc : PySem.Scope) (bd : Str) (ps : Pos), f 145 = .FunctionDef n a l [] none [] sc none bd ps → Obj) _ _ _ _ _ _ rfl
  exact fun n a l sc _ _ _ => ⟨.type "function", none, .func { name := n, qualname := Str.ofString "self_determined", params := a, body := .stmts l, scope := sc, globals := 3, closure := [], defaults := .none, kwdefaults := .none, doc := .none, pyModule := (.str (Str.ofString "gateloom.elabexpr") 1473), annotations := none, code := (.ref 1066), closureTuple := .none, builtins := 0 }, List.toArray []⟩
noncomputable abbrev k1080 : Obj := ⟨.type "code", none, .fields (List.toArray [(.str (Str.ofString "constant_vec") 1721), (.str (Str.ofString "constant_vec") 1722), (.str (Str.ofString "/claim/cut.py") 1723), (.int 1129 0), (.int 3 0), (.int 0 0), (.int 0 0), (.int 3 0), (.ref 1075), (.bool true), (.int 181 0), (.ref 1076), .none, (.ref 1077), (.ref 1078), (.ref 1079), (.int 1728 0), (.int 1129 0), (.str (Str.ofString "/claim/cut.py") 1729)]), List.toArray []⟩
noncomputable abbrev k1081 : Obj := by
  refine' (?F : ∀ (n : Str) (a : Arguments) (l : List Stmt) (sc : PySem.Scope) (bd : Str) (ps : Pos), f 147 = .FunctionDef n a l [] none [] sc none bd ps → Obj) _ _ _ _ _ _ rfl
  exact fun n a l sc _ _ _ => ⟨.type "function", none, .func { name := n, qualname := Str.ofString "constant_vec", params := a, body := .stmts l, scope := sc, globals := 3, closure := [], defaults := .none, kwdefaults := .none, doc := .none, pyModule := (.str (Str.ofString "gateloom.elabexpr") 1473), annotations := none, code := (.ref 1080), closureTuple := .none, builtins := 0 }, List.toArray []⟩
noncomputable abbrev k1087 : Obj := ⟨.type "code", none, .fields (List.toArray [(.str (Str.ofString "constant") 1731), (.str (Str.ofString "constant") 1732), (.str (Str.ofString "/claim/cut.py") 1733), (.int 1136 0), (.int 2 0), (.int 0 0), (.int 0 0), (.int 3 0), (.ref 1082), (.bool true), (.int 181 0), (.ref 1083), .none, (.ref 1084), (.ref 1085), (.ref 1086), (.int 1738 0), (.int 1136 0), (.str (Str.ofString "/claim/cut.py") 1739)]), List.toArray []⟩
noncomputable abbrev k1088 : Obj := by
  refine' (?F : ∀ (n : Str) (a : Arguments) (l : List Stmt) (sc : PySem.Scope) (bd : Str) (ps : Pos), f 148 = .FunctionDef n a l [] none [] sc none bd ps → Obj) _ _ _ _ _ _ rfl
  exact fun n a l sc _ _ _ => ⟨.type "function", none, .func { name := n, qualname := Str.ofString "constant", params := a, body := .stmts l, scope := sc, globals := 3, closure := [], defaults := .none, kwdefaults := .none, doc := .none, pyModule := (.str (Str.ofString "gateloom.elabexpr") 1473), annotations := none, code := (.ref 1087), closureTuple := .none, builtins := 0 }, List.toArray []⟩
noncomputable abbrev k1094 : Obj := ⟨.type "code", none, .fields (List.toArray [(.str (Str.ofString "whole") 1741), (.str (Str.ofString "whole") 1742), (.str (Str.ofString "/claim/cut.py") 1743), (.int 1139 0), (.int 2 0), (.int 0 0), (.int 0 0), (.int 3 0), (.ref 1089), (.bool true), (.int 181 0), (.ref 1090), .none, (.ref 1091), (.ref 1092), (.ref 1093), (.int 1749 0), (.int 1139 0), (.str (Str.ofString "/claim/cut.py") 1750)]), List.toArray []⟩
noncomputable abbrev k1095 : Obj := by
  refine' (?F : ∀ (n : Str) (a : Arguments) (l : List Stmt) (sc : PySem.Scope) (bd : Str) (ps : Pos), f 149 = .FunctionDef n a l [] none [] sc none bd ps → Obj) _ _ _ _ _ _ rfl
  exact fun n a l sc _ _ _ => ⟨.type "function", none, .func { name := n, qualname := Str.ofString "whole", params := a, body := .stmts l, scope := sc, globals := 3, closure := [], defaults := .none, kwdefaults := .none, doc := .none, pyModule := (.str (Str.ofString "gateloom.elabexpr") 1473), annotations := none, code := (.ref 1094), closureTuple := .none, builtins := 0 }, List.toArray []⟩
noncomputable abbrev k1101 : Obj := ⟨.type "code", none, .fields (List.toArray [(.str (Str.ofString "range_of") 1752), (.str (Str.ofString "range_of") 1753), (.str (Str.ofString "/claim/cut.py") 1754), (.int 1145 0), (.int 2 0), (.int 0 0), (.int 0 0), (.int 3 0), (.ref 1096), (.bool true), (.int 181 0), (.ref 1097), .none, (.ref 1098), (.ref 1099), (.ref 1100), (.int 1759 0), (.int 1145 0), (.str (Str.ofString "/claim/cut.py") 1760)]), List.toArray []⟩
noncomputable abbrev k1102 : Obj := by
  refine' (?F : ∀ (n : Str) (a : Arguments) (l : List Stmt) (sc : PySem.Scope) (bd : Str) (ps : Pos), f 150 = .FunctionDef n a l [] none [] sc none bd ps → Obj) _ _ _ _ _ _ rfl
  exact fun n a l sc _ _ _ => ⟨.type "function", none, .func { name := n, qualname := Str.ofString "range_of", params := a, body := .stmts l, scope := sc, globals := 3, closure := [], defaults := .none, kwdefaults := .none, doc := .none, pyModule := (.str (Str.ofString "gateloom.elabexpr") 1473), annotations := none, code := (.ref 1101), closureTuple := .none, builtins := 0 }, List.toArray []⟩
noncomputable abbrev k1108 : Obj := ⟨.type "code", none, .fields (List.toArray [(.str (Str.ofString "block_label") 1766), (.str (Str.ofString "block_label") 1767), (.str (Str.ofString "/claim/cut.py") 1768), (.int 1154 0), (.int 2 0), (.int 0 0), (.int 0 0), (.int 3 0), (.ref 1103), (.bool true), (.int 181 0), (.ref 1104), .none, (.ref 1105), (.ref 1106), (.ref 1107), (.int 1771 0), (.int 1154 0), (.str (Str.ofString "/claim/cut.py") 1772)]), List.toArray []⟩
noncomputable abbrev k1109 : Obj := by
  refine' (?F : ∀ (n : Str) (a : Arguments) (l : List Stmt) (sc : PySem.Scope) (bd : Str) (ps : Pos), f 153 = .FunctionDef n a l [] none [] sc none bd ps → Obj) _ _ _ _ _ _ rfl
  exact fun n a l sc _ _ _ => ⟨.type "function", none, .func { name := n, qualname := Str.ofString "block_label", params := a, body := .stmts l, scope := sc, globals := 3, closure := [], defaults := .none, kwdefaults := .none, doc := .none, pyModule := (.str (Str.ofString "gateloom.elabgen") 1762), annotations := none, code := (.ref 1108), closureTuple := .none, builtins := 0 }, List.toArray []⟩
noncomputable abbrev k1115 : Obj := ⟨.type "code", none, .fields (List.toArray [(.str (Str.ofString "branch_rows") 1774), (.str (Str.ofString "branch_rows") 1775), (.str (Str.ofString "/claim/cut.py") 1776), (.int 1158 0), (.int 3 0), (.int 0 0), (.int 0 0), (.int 3 0), (.ref 1110), (.bool true), (.int 181 0), (.ref 1111), .none, (.ref 1112), (.ref 1113), (.ref 1114), (.int 1780 0), (.int 1158 0), (.str (Str.ofString "/claim/cut.py") 1781)]), List.toArray []⟩
noncomputable abbrev k1116 : Obj := by
  refine' (?F : ∀ (n : Str) (a : Arguments) (l : List Stmt) (sc : PySem.Scope) (bd : Str) (ps : Pos), f 154 = .FunctionDef n a l [] none [] sc none bd ps → Obj) _ _ _ _ _ _ rfl
  exact fun n a l sc _ _ _ => ⟨.type "function", none, .func { name := n, qualname := Str.ofString "branch_rows", params := a, body := .stmts l, scope := sc, globals := 3, closure := [], defaults := .none, kwdefaults := .none, doc := .none, pyModule := (.str (Str.ofString "gateloom.elabgen") 1762), annotations := none, code := (.ref 1115), closureTuple := .none, builtins := 0 }, List.toArray []⟩
noncomputable abbrev k1122 : Obj := ⟨.type "code", none, .fields (List.toArray [(.str (Str.ofString "common_type") 1783), (.str (Str.ofString "common_type") 1784), (.str (Str.ofString "/claim/cut.py") 1785), (.int 1166 0), (.int 1 0), (.int 0 0), (.int 0 0), (.int 3 0), (.ref 1117), (.bool true), (.int 181 0), (.ref 1118), .none, (.ref 1119), (.ref 1120), (.ref 1121), (.int 1791 0), (.int 1166 0), (.str (Str.ofString "/claim/cut.py") 1792)]), List.toArray []⟩
noncomputable abbrev k1123 : Obj := by
  refine' (?F : ∀ (n : Str) (a : Arguments) (l : List Stmt) (sc : PySem.Scope) (bd : Str) (ps : Pos), f 155 = .FunctionDef n a l [] none [] sc none bd ps → Obj) _ _ _ _ _ _ rfl
  exact fun n a l sc _ _ _ => ⟨.type "function", none, .func { name := n, qualname := Str.ofString "common_type", params := a, body := .stmts l, scope := sc, globals := 3, closure := [], defaults := .none, kwdefaults := .none, doc := .none, pyModule := (.str (Str.ofString "gateloom.elabgen") 1762), annotations := none, code := (.ref 1122), closureTuple := .none, builtins := 0 }, List.toArray []⟩
noncomputable abbrev k1129 : Obj := ⟨.type "code", none, .fields (List.toArray [(.str (Str.ofString "case_branch") 1794), (.str (Str.ofString "case_branch") 1795), (.str (Str.ofString "/claim/cut.py") 1796), (.int 1173 0), (.int 2 0), (.int 0 0), (.int 0 0), (.int 3 0), (.ref 1124), (.bool true), (.int 181 0), (.ref 1125), .none, (.ref 1126), (.ref 1127), (.ref 1128), (.int 1810 0), (.int 1173 0), (.str (Str.ofString "/claim/cut.py") 1811)]), List.toArray []⟩
noncomputable abbrev k1130 : Obj := by
  refine' (?F : ∀ (n : Str) (a : Arguments) (l : List Stmt) (sc : PySem.Scope) (bd : Str) (ps : Pos), f 156 = .FunctionDef n a l [] none [] sc none bd ps → Obj) _ _ _ _ _ _ rfl
  exact fun n a l sc _ _ _ => ⟨.type "function", none, .func { name := n, qualname := Str.ofString "case_branch", params := a, body := .stmts l, scope := sc, globals := 3, closure := [], defaults := .none, kwdefaults := .none, doc := .none, pyModule := (.str (Str.ofString "gateloom.elabgen") 1762), annotations := none, code := (.ref 1129), closureTuple := .none, builtins := 0 }, List.toArray []⟩
noncomputable abbrev k1145 : Obj := ⟨.type "tuple", none, .seq (List.toArray [(.int 1 1838)]) 0, List.toArray []⟩
noncomputable abbrev k1151 : Obj := ⟨.type "code", none, .fields (List.toArray [(.str (Str.ofString "generate_choice") 1839), (.str (Str.ofString "generate_choice") 1840), (.str (Str.ofString "/claim/cut.py") 1841), (.int 1217 0), (.int 3 0), (.int 0 0), (.int 0 0), (.int 3 0), (.ref 1146), (.bool true), (.int 181 0), (.ref 1147), .none, (.ref 1148), (.ref 1149), (.ref 1150), (.int 1846 0), (.int 1217 0), (.str (Str.ofString "/claim/cut.py") 1847)]), List.toArray []⟩
noncomputable abbrev k1152 : Obj := by
  refine' (?F : ∀ (n : Str) (a : Arguments) (l : List Stmt) (sc : PySem.Scope) (bd : Str) (ps : Pos), f 159 = .FunctionDef n a l [] none [] sc none bd ps → Obj) _ _ _ _ _ _ rfl
  exact fun n a l sc _ _ _ => ⟨.type "function", none, .func { name := n, qualname := Str.ofString "generate_choice", params := a, body := .stmts l, scope := sc, globals := 3, closure := [], defaults := (.ref 1145), kwdefaults := .none, doc := .none, pyModule := (.str (Str.ofString "gateloom.elabgen") 1762), annotations := none, code := (.ref 1151), closureTuple := .none, builtins := 0 }, List.toArray []⟩
noncomputable abbrev k1158 : Obj := ⟨.type "code", none, .fields (List.toArray [(.str (Str.ofString "defparam_row") 1849), (.str (Str.ofString "defparam_row") 1850), (.str (Str.ofString "/claim/cut.py") 1851), (.int 1228 0), (.int 2 0), (.int 0 0), (.int 0 0), (.int 3 0), (.ref 1153), (.bool true), (.int 181 0), (.ref 1154), .none, (.ref 1155), (.ref 1156), (.ref 1157), (.int 1858 0), (.int 1228 0), (.str (Str.ofString "/claim/cut.py") 1859)]), List.toArray []⟩
noncomputable abbrev k1159 : Obj := by
  refine' (?F : ∀ (n : Str) (a : Arguments) (l : List Stmt) (sc : PySem.Scope) (bd : Str) (ps : Pos), f 160 = .FunctionDef n a l [] none [] sc none bd ps → Obj) _ _ _ _ _ _ rfl
  exact fun n a l sc _ _ _ => ⟨.type "function", none, .func { name := n, qualname := Str.ofString "defparam_row", params := a, body := .stmts l, scope := sc, globals := 3, closure := [], defaults := .none, kwdefaults := .none, doc := .none, pyModule := (.str (Str.ofString "gateloom.elabgen") 1762), annotations := none, code := (.ref 1158), closureTuple := .none, builtins := 0 }, List.toArray []⟩
noncomputable abbrev k1165 : Obj := ⟨.type "code", none, .fields (List.toArray [(.str (Str.ofString "instance_rows") 1861), (.str (Str.ofString "instance_rows") 1862), (.str (Str.ofString "/claim/cut.py") 1863), (.int 1233 0), (.int 4 0), (.int 0 0), (.int 0 0), (.int 3 0), (.ref 1160), (.bool true), (.int 181 0), (.ref 1161), .none, (.ref 1162), (.ref 1163), (.ref 1164), (.int 1874 0), (.int 1233 0), (.str (Str.ofString "/claim/cut.py") 1875)]), List.toArray []⟩
noncomputable abbrev k1166 : Obj := by
  refine' (?F : ∀ (n : Str) (a : Arguments) (l : List Stmt) (sc : PySem.Scope) (bd : Str) (ps : Pos), f 161 = .FunctionDef n a l [] none [] sc none bd ps → Obj) _ _ _ _ _ _ rfl
  exact fun n a l sc _ _ _ => ⟨.type "function", none, .func { name := n, qualname := Str.ofString "instance_rows", params := a, body := .stmts l, scope := sc, globals := 3, closure := [], defaults := .none, kwdefaults := .none, doc := .none, pyModule := (.str (Str.ofString "gateloom.elabgen") 1762), annotations := none, code := (.ref 1165), closureTuple := .none, builtins := 0 }, List.toArray []⟩
noncomputable abbrev k1179 : Obj := ⟨.type "code", none, .fields (List.toArray [(.str (Str.ofString "__init__") 1891), (.str (Str.ofString "Design.__init__") 1892), (.str (Str.ofString "/claim/cut.py") 1893), (.int 1250 0), (.int 1 0), (.int 0 0), (.int 0 0), (.int 3 0), (.ref 1174), (.bool true), (.int 181 0), (.ref 1175), .none, (.ref 1176), (.ref 1177), (.ref 1178), (.int 1895 0), (.int 1250 0), (.str (Str.ofString "/claim/cut.py") 1896)]), List.toArray []⟩
noncomputable abbrev k1180 : Obj := by
  refine' (?F : ∀ (n : Str) (a : Arguments) (l : List Stmt) (sc : PySem.Scope) (bd : Str) (ps : Pos), m 163 0 = .FunctionDef n a l [] none [] sc none bd ps → Obj) _ _ _ _ _ _ rfl
  exact fun n a l sc _ _ _ => ⟨.type "function", none, .func { name := n, qualname := Str.ofString "Design.__init__", params := a, body := .stmts l, scope := sc, globals := 3, closure := [], defaults := .none, kwdefaults := .none, doc := .none, pyModule := (.str (Str.ofString "gateloom.design") 1877), annotations := none, code := (.ref 1179), closureTuple := .none, builtins := 0 }, List.toArray []⟩
noncomputable abbrev k1186 : Obj := ⟨.type "code", none, .fields (List.toArray [(.str (Str.ofString "add_signal") 1898), (.str (Str.ofString "Design.add_signal") 1899), (.str (Str.ofString "/claim/cut.py") 1900), (.int 1263 0), (.int 8 0), (.int 0 0), (.int 0 0), (.int 3 0), (.ref 1181), (.bool true), (.int 181 0), (.ref 1182), .none, (.ref 1183), (.ref 1184), (.ref 1185), (.int 1909 0), (.int 1263 0), (.str (Str.ofString "/claim/cut.py") 1910)]), List.toArray []⟩
noncomputable abbrev k1187 : Obj := by
  refine' (?F : ∀ (n : Str) (a : Arguments) (l : List Stmt) (sc : PySem.Scope) (bd : Str) (ps : Pos), m 163 1 = .FunctionDef n a l [] none [] sc none bd ps → Obj) _ _ _ _ _ _ rfl
  exact fun n a l sc _ _ _ => ⟨.type "function", none, .func { name := n, qualname := Str.ofString "Design.add_signal", params := a, body := .stmts l, scope := sc, globals := 3, closure := [], defaults := .none, kwdefaults := .none, doc := .none, pyModule := (.str (Str.ofString "gateloom.design") 1877), annotations := none, code := (.ref 1186), closureTuple := .none, builtins := 0 }, List.toArray []⟩
noncomputable abbrev k1193 : Obj := ⟨.type "code", none, .fields (List.toArray [(.str (Str.ofString "add_scope") 1912), (.str (Str.ofString "Design.add_scope") 1913), (.str (Str.ofString "/claim/cut.py") 1914), (.int 1266 0), (.int 2 0), (.int 0 0), (.int 0 0), (.int 3 0), (.ref 1188), (.bool true), (.int 181 0), (.ref 1189), .none, (.ref 1190), (.ref 1191), (.ref 1192), (.int 1917 0), (.int 1266 0), (.str (Str.ofString "/claim/cut.py") 1918)]), List.toArray []⟩
noncomputable abbrev k1194 : Obj := by
  refine' (?F : ∀ (n : Str) (a : Arguments) (l : List Stmt) (sc : PySem.Scope) (bd : Str) (ps : Pos), m 163 2 = .FunctionDef n a l [] none [] sc none bd ps → Obj) _ _ _ _ _ _ rfl
  exact fun n a l sc _ _ _ => ⟨.type "function", none, .func { name := n, qualname := Str.ofString "Design.add_scope", params := a, body := .stmts l, scope := sc, globals := 3, closure := [], defaults := .none, kwdefaults := .none, doc := .none, pyModule := (.str (Str.ofString "gateloom.design") 1877), annotations := none, code := (.ref 1193), closureTuple := .none, builtins := 0 }, List.toArray []⟩
noncomputable abbrev k1200 : Obj := ⟨.type "code", none, .fields (List.toArray [(.str (Str.ofString "add_routine") 1920), (.str (Str.ofString "Design.add_routine") 1921), (.str (Str.ofString "/claim/cut.py") 1922), (.int 1270 0), (.int 5 0), (.int 0 0), (.int 0 0), (.int 3 0), (.ref 1195), (.bool true), (.int 181 0), (.ref 1196), .none, (.ref 1197), (.ref 1198), (.ref 1199), (.int 1928 0), (.int 1270 0), (.str (Str.ofString "/claim/cut.py") 1929)]), List.toArray []⟩
noncomputable abbrev k1201 : Obj := by
  refine' (?F : ∀ (n : Str) (a : Arguments) (l : List Stmt) (sc : PySem.Scope) (bd : Str) (ps : Pos), m 163 3 = .FunctionDef n a l [] none [] sc none bd ps → Obj) _ _ _ _ _ _ rfl
  exact fun n a l sc _ _ _ => ⟨.type "function", none, .func { name := n, qualname := Str.ofString "Design.add_routine", params := a, body := .stmts l, scope := sc, globals := 3, closure := [], defaults := .none, kwdefaults := .none, doc := .none, pyModule := (.str (Str.ofString "gateloom.design") 1877), annotations := none, code := (.ref 1200), closureTuple := .none, builtins := 0 }, List.toArray []⟩
noncomputable abbrev k1207 : Obj := ⟨.type "code", none, .fields (List.toArray [(.str (Str.ofString "add_process") 1931), (.str (Str.ofString "Design.add_process") 1932), (.str (Str.ofString "/claim/cut.py") 1933), (.int 1273 0), (.int 5 0), (.int 0 0), (.int 0 0), (.int 3 0), (.ref 1202), (.bool true), (.int 181 0), (.ref 1203), .none, (.ref 1204), (.ref 1205), (.ref 1206), (.int 1939 0), (.int 1273 0), (.str (Str.ofString "/claim/cut.py") 1940)]), List.toArray []⟩
noncomputable abbrev k1208 : Obj := by
  refine' (?F : ∀ (n : Str) (a : Arguments) (l : List Stmt) (sc : PySem.Scope) (bd : Str) (ps : Pos), m 163 4 = .FunctionDef n a l [] none [] sc none bd ps → Obj) _ _ _ _ _ _ rfl
  exact fun n a l sc _ _ _ => ⟨.type "function", none, .func { name := n, qualname := Str.ofString "Design.add_process", params := a, body := .stmts l, scope := sc, globals := 3, closure := [], defaults := .none, kwdefaults := .none, doc := .none, pyModule := (.str (Str.ofString "gateloom.design") 1877), annotations := none, code := (.ref 1207), closureTuple := .none, builtins := 0 }, List.toArray []⟩
noncomputable abbrev k1214 : Obj := ⟨.type "code", none, .fields (List.toArray [(.str (Str.ofString "find") 1942), (.str (Str.ofString "Design.find") 1943), (.str (Str.ofString "/claim/cut.py") 1944), (.int 1276 0), (.int 2 0), (.int 0 0), (.int 0 0), (.int 3 0), (.ref 1209), (.bool true), (.int 181 0), (.ref 1210), .none, (.ref 1211), (.ref 1212), (.ref 1213), (.int 1947 0), (.int 1276 0), (.str (Str.ofString "/claim/cut.py") 1948)]), List.toArray []⟩
noncomputable abbrev k1215 : Obj := by
  refine' (?F : ∀ (n : Str) (a : Arguments) (l : List Stmt) (sc : PySem.Scope) (bd : Str) (ps : Pos), m 163 5 = .FunctionDef n a l [] none [] sc none bd ps → Obj) _ _ _ _ _ _ rfl
  exact fun n a l sc _ _ _ => ⟨.type "function", none, .func { name := n, qualname := Str.ofString "Design.find", params := a, body := .stmts l, scope := sc, globals := 3, closure := [], defaults := .none, kwdefaults := .none, doc := .none, pyModule := (.str (Str.ofString "gateloom.design") 1877), annotations := none, code := (.ref 1214), closureTuple := .none, builtins := 0 }, List.toArray []⟩
noncomputable abbrev k1221 : Obj := ⟨.type "code", none, .fields (List.toArray [(.str (Str.ofString "routine") 1950), (.str (Str.ofString "Design.routine") 1951), (.str (Str.ofString "/claim/cut.py") 1952), (.int 1279 0), (.int 2 0), (.int 0 0), (.int 0 0), (.int 3 0), (.ref 1216), (.bool true), (.int 181 0), (.ref 1217), .none, (.ref 1218), (.ref 1219), (.ref 1220), (.int 1956 0), (.int 1279 0), (.str (Str.ofString "/claim/cut.py") 1957)]), List.toArray []⟩
noncomputable abbrev k1222 : Obj := by
  refine' (?F : ∀ (n : Str) (a : Arguments) (l : List Stmt) (sc : PySem.Scope) (bd : Str) (ps : Pos), m 163 6 = .FunctionDef n a l [] none [] sc none bd ps → Obj) _ _ _ _ _ _ rfl
  exact fun n a l sc _ _ _ => ⟨.type "function", none, .func { name := n, qualname := Str.ofString "Design.routine", params := a, body := .stmts l, scope := sc, globals := 3, closure := [], defaults := .none, kwdefaults := .none, doc := .none, pyModule := (.str (Str.ofString "gateloom.design") 1877), annotations := none, code := (.ref 1221), closureTuple := .none, builtins := 0 }, List.toArray []⟩
noncomputable abbrev k1223 : Obj := ⟨.type "tuple", none, .seq (List.toArray [(.str (Str.ofString "assigns") 1959), (.str (Str.ofString "by_path") 1960), (.str (Str.ofString "gates") 1961), (.str (Str.ofString "maker") 1962), (.str (Str.ofString "ports") 1963), (.str (Str.ofString "processes") 1964), (.str (Str.ofString "routines") 1965), (.str (Str.ofString "scopes") 1966), (.str (Str.ofString "signals") 1967), (.str (Str.ofString "tops") 1968), (.str (Str.ofString "udps") 1969)]) 0, List.toArray []⟩
noncomputable abbrev k1224 (P : Params) : Obj := ⟨.type "dict", none, .dict (List.toArray [⟨PyData.keyHash P (Str.ofString "__module__"), .str (Str.ofString "__module__") 1886, (.str (Str.ofString "gateloom.design") 1877)⟩, ⟨PyData.keyHash P (Str.ofString "__firstlineno__"), .str (Str.ofString "__firstlineno__") 1890, (.int 1248 1889)⟩, ⟨PyData.keyHash P (Str.ofString "__init__"), .str (Str.ofString "__init__") 1897, (.ref 1180)⟩, ⟨PyData.keyHash P (Str.ofString "add_signal"), .str (Str.ofString "add_signal") 1911, (.ref 1187)⟩, ⟨PyData.keyHash P (Str.ofString "add_scope"), .str (Str.ofString "add_scope") 1919, (.ref 1194)⟩, ⟨PyData.keyHash P (Str.ofString "add_routine"), .str (Str.ofString "add_routine") 1930, (.ref 1201)⟩, ⟨PyData.keyHash P (Str.ofString "add_process"), .str (Str.ofString "add_process") 1941, (.ref 1208)⟩, ⟨PyData.keyHash P (Str.ofString "find"), .str (Str.ofString "find") 1949, (.ref 1215)⟩, ⟨PyData.keyHash P (Str.ofString "routine"), .str (Str.ofString "routine") 1958, (.ref 1222)⟩, ⟨PyData.keyHash P (Str.ofString "__static_attributes__"), .str (Str.ofString "__static_attributes__") 1970, (.ref 1223)⟩, ⟨PyData.keyHash P (Str.ofString "__dict__"), .str (Str.ofString "__dict__") 1972, (.ref 1226)⟩, ⟨PyData.keyHash P (Str.ofString "__weakref__"), .str (Str.ofString "__weakref__") 1974, (.ref 1227)⟩, ⟨PyData.keyHash P (Str.ofString "__doc__"), .str (Str.ofString "__doc__") 1975, .none⟩]) 4, List.toArray []⟩
noncomputable abbrev k1225 : Obj := ⟨(.type "type"), none, .cls { name := Str.ofString "Design", bases := [(.type "object")], mro := [(.ref 1225), (.type "object")], ns := 1224, qualname := Str.ofString "Design", hasDict := true, subclasses := [], abstract := false, hasDel := false}, #[none, none, some (.str (Str.ofString "Design") 1879), some (.str (Str.ofString "Design") 1887), some (.builtin "object.__new__"), some (.bool true)]⟩
noncomputable abbrev k1226 : Obj := ⟨(.type "getset_descriptor"), none, .fields #[(.str (Str.ofString "__dict__") 1971), (.ref 1225), (.builtin "function.__dict__"), (.builtin "function.__dict__#set")], #[]⟩
noncomputable abbrev k1227 : Obj := ⟨(.type "getset_descriptor"), none, .fields #[(.str (Str.ofString "__weakref__") 1973), (.ref 1225), (.builtin "ExceptionGroup.__weakref__"), .none], #[]⟩
noncomputable abbrev k1242 : Obj := ⟨.type "code", none, .fields (List.toArray [(.str (Str.ofString "__init__") 1992), (.str (Str.ofString "Scope.__init__") 1993), (.str (Str.ofString "/claim/cut.py") 1994), (.int 1289 0), (.int 5 0), (.int 0 0), (.int 0 0), (.int 3 0), (.ref 1237), (.bool true), (.int 181 0), (.ref 1238), .none, (.ref 1239), (.ref 1240), (.ref 1241), (.int 2000 0), (.int 1289 0), (.str (Str.ofString "/claim/cut.py") 2001)]), List.toArray []⟩
noncomputable abbrev k1243 : Obj := by
  refine' (?F : ∀ (n : Str) (a : Arguments) (l : List Stmt) (sc : PySem.Scope) (bd : Str) (ps : Pos), m 165 0 = .FunctionDef n a l [] none [] sc none bd ps → Obj) _ _ _ _ _ _ rfl
  exact fun n a l sc _ _ _ => ⟨.type "function", none, .func { name := n, qualname := Str.ofString "Scope.__init__", params := a, body := .stmts l, scope := sc, globals := 3, closure := [], defaults := .none, kwdefaults := .none, doc := .none, pyModule := (.str (Str.ofString "gateloom.scopes") 1978), annotations := none, code := (.ref 1242), closureTuple := .none, builtins := 0 }, List.toArray []⟩
noncomputable abbrev k1249 : Obj := ⟨.type "code", none, .fields (List.toArray [(.str (Str.ofString "child") 2003), (.str (Str.ofString "Scope.child") 2004), (.str (Str.ofString "/claim/cut.py") 2005), (.int 1303 0), (.int 4 0), (.int 0 0), (.int 0 0), (.int 3 0), (.ref 1244), (.bool true), (.int 181 0), (.ref 1245), .none, (.ref 1246), (.ref 1247), (.ref 1248), (.int 2011 0), (.int 1303 0), (.str (Str.ofString "/claim/cut.py") 2012)]), List.toArray []⟩
noncomputable abbrev k1250 : Obj := by
  refine' (?F : ∀ (n : Str) (a : Arguments) (l : List Stmt) (sc : PySem.Scope) (bd : Str) (ps : Pos), m 165 1 = .FunctionDef n a l [] none [] sc none bd ps → Obj) _ _ _ _ _ _ rfl
  exact fun n a l sc _ _ _ => ⟨.type "function", none, .func { name := n, qualname := Str.ofString "Scope.child", params := a, body := .stmts l, scope := sc, globals := 3, closure := [], defaults := .none, kwdefaults := .none, doc := .none, pyModule := (.str (Str.ofString "gateloom.scopes") 1978), annotations := none, code := (.ref 1249), closureTuple := .none, builtins := 0 }, List.toArray []⟩
noncomputable abbrev k1256 : Obj := ⟨.type "code", none, .fields (List.toArray [(.str (Str.ofString "declare") 2014), (.str (Str.ofString "Scope.declare") 2015), (.str (Str.ofString "/claim/cut.py") 2016), (.int 1308 0), (.int 4 0), (.int 0 0), (.int 0 0), (.int 3 0), (.ref 1251), (.bool true), (.int 181 0), (.ref 1252), .none, (.ref 1253), (.ref 1254), (.ref 1255), (.int 2021 0), (.int 1308 0), (.str (Str.ofString "/claim/cut.py") 2022)]), List.toArray []⟩
noncomputable abbrev k1257 : Obj := by
  refine' (?F : ∀ (n : Str) (a : Arguments) (l : List Stmt) (sc : PySem.Scope) (bd : Str) (ps : Pos), m 165 2 = .FunctionDef n a l [] none [] sc none bd ps → Obj) _ _ _ _ _ _ rfl
  exact fun n a l sc _ _ _ => ⟨.type "function", none, .func { name := n, qualname := Str.ofString "Scope.declare", params := a, body := .stmts l, scope := sc, globals := 3, closure := [], defaults := .none, kwdefaults := .none, doc := .none, pyModule := (.str (Str.ofString "gateloom.scopes") 1978), annotations := none, code := (.ref 1256), closureTuple := .none, builtins := 0 }, List.toArray []⟩
noncomputable abbrev k1263 : Obj := ⟨.type "code", none, .fields (List.toArray [(.str (Str.ofString "module_scope") 2024), (.str (Str.ofString "Scope.module_scope") 2025), (.str (Str.ofString "/claim/cut.py") 2026), (.int 1313 0), (.int 1 0), (.int 0 0), (.int 0 0), (.int 3 0), (.ref 1258), (.bool true), (.int 181 0), (.ref 1259), .none, (.ref 1260), (.ref 1261), (.ref 1262), (.int 2028 0), (.int 1313 0), (.str (Str.ofString "/claim/cut.py") 2029)]), List.toArray []⟩
noncomputable abbrev k1264 : Obj := by
  refine' (?F : ∀ (n : Str) (a : Arguments) (l : List Stmt) (sc : PySem.Scope) (bd : Str) (ps : Pos), m 165 3 = .FunctionDef n a l [] none [] sc none bd ps → Obj) _ _ _ _ _ _ rfl
  exact fun n a l sc _ _ _ => ⟨.type "function", none, .func { name := n, qualname := Str.ofString "Scope.module_scope", params := a, body := .stmts l, scope := sc, globals := 3, closure := [], defaults := .none, kwdefaults := .none, doc := .none, pyModule := (.str (Str.ofString "gateloom.scopes") 1978), annotations := none, code := (.ref 1263), closureTuple := .none, builtins := 0 }, List.toArray []⟩
noncomputable abbrev k1270 : Obj := ⟨.type "code", none, .fields (List.toArray [(.str (Str.ofString "lookup") 2031), (.str (Str.ofString "Scope.lookup") 2032), (.str (Str.ofString "/claim/cut.py") 2033), (.int 1316 0), (.int 2 0), (.int 0 0), (.int 0 0), (.int 3 0), (.ref 1265), (.bool true), (.int 181 0), (.ref 1266), .none, (.ref 1267), (.ref 1268), (.ref 1269), (.int 2037 0), (.int 1316 0), (.str (Str.ofString "/claim/cut.py") 2038)]), List.toArray []⟩
noncomputable abbrev k1271 : Obj := by
  refine' (?F : ∀ (n : Str) (a : Arguments) (l : List Stmt) (sc : PySem.Scope) (bd : Str) (ps : Pos), m 165 4 = .FunctionDef n a l [] none [] sc none bd ps → Obj) _ _ _ _ _ _ rfl
  exact fun n a l sc _ _ _ => ⟨.type "function", none, .func { name := n, qualname := Str.ofString "Scope.lookup", params := a, body := .stmts l, scope := sc, globals := 3, closure := [], defaults := .none, kwdefaults := .none, doc := .none, pyModule := (.str (Str.ofString "gateloom.scopes") 1978), annotations := none, code := (.ref 1270), closureTuple := .none, builtins := 0 }, List.toArray []⟩
noncomputable abbrev k1277 : Obj := ⟨.type "code", none, .fields (List.toArray [(.str (Str.ofString "lookup_routine") 2040), (.str (Str.ofString "Scope.lookup_routine") 2041), (.str (Str.ofString "/claim/cut.py") 2042), (.int 1326 0), (.int 2 0), (.int 0 0), (.int 0 0), (.int 3 0), (.ref 1272), (.bool true), (.int 181 0), (.ref 1273), .none, (.ref 1274), (.ref 1275), (.ref 1276), (.int 2047 0), (.int 1326 0), (.str (Str.ofString "/claim/cut.py") 2048)]), List.toArray []⟩
noncomputable abbrev k1278 : Obj := by
  refine' (?F : ∀ (n : Str) (a : Arguments) (l : List Stmt) (sc : PySem.Scope) (bd : Str) (ps : Pos), m 165 5 = .FunctionDef n a l [] none [] sc none bd ps → Obj) _ _ _ _ _ _ rfl
  exact fun n a l sc _ _ _ => ⟨.type "function", none, .func { name := n, qualname := Str.ofString "Scope.lookup_routine", params := a, body := .stmts l, scope := sc, globals := 3, closure := [], defaults := .none, kwdefaults := .none, doc := .none, pyModule := (.str (Str.ofString "gateloom.scopes") 1978), annotations := none, code := (.ref 1277), closureTuple := .none, builtins := 0 }, List.toArray []⟩
noncomputable abbrev k1284 : Obj := ⟨.type "code", none, .fields (List.toArray [(.str (Str.ofString "descend") 2050), (.str (Str.ofString "Scope.descend") 2051), (.str (Str.ofString "/claim/cut.py") 2052), (.int 1337 0), (.int 2 0), (.int 0 0), (.int 0 0), (.int 3 0), (.ref 1279), (.bool true), (.int 181 0), (.ref 1280), .none, (.ref 1281), (.ref 1282), (.ref 1283), (.int 2058 0), (.int 1337 0), (.str (Str.ofString "/claim/cut.py") 2059)]), List.toArray []⟩
noncomputable abbrev k1285 : Obj := by
  refine' (?F : ∀ (n : Str) (a : Arguments) (l : List Stmt) (sc : PySem.Scope) (bd : Str) (ps : Pos), m 165 6 = .FunctionDef n a l [] none [] sc none bd ps → Obj) _ _ _ _ _ _ rfl
  exact fun n a l sc _ _ _ => ⟨.type "function", none, .func { name := n, qualname := Str.ofString "Scope.descend", params := a, body := .stmts l, scope := sc, globals := 3, closure := [], defaults := .none, kwdefaults := .none, doc := .none, pyModule := (.str (Str.ofString "gateloom.scopes") 1978), annotations := none, code := (.ref 1284), closureTuple := .none, builtins := 0 }, List.toArray []⟩
noncomputable abbrev k1291 : Obj := ⟨.type "code", none, .fields (List.toArray [(.str (Str.ofString "resolve") 2061), (.str (Str.ofString "Scope.resolve") 2062), (.str (Str.ofString "/claim/cut.py") 2063), (.int 1349 0), (.int 3 0), (.int 0 0), (.int 0 0), (.int 3 0), (.ref 1286), (.bool true), (.int 181 0), (.ref 1287), .none, (.ref 1288), (.ref 1289), (.ref 1290), (.int 2069 0), (.int 1349 0), (.str (Str.ofString "/claim/cut.py") 2070)]), List.toArray []⟩
noncomputable abbrev k1292 : Obj := by
  refine' (?F : ∀ (n : Str) (a : Arguments) (l : List Stmt) (sc : PySem.Scope) (bd : Str) (ps : Pos), m 165 7 = .FunctionDef n a l [] none [] sc none bd ps → Obj) _ _ _ _ _ _ rfl
  exact fun n a l sc _ _ _ => ⟨.type "function", none, .func { name := n, qualname := Str.ofString "Scope.resolve", params := a, body := .stmts l, scope := sc, globals := 3, closure := [], defaults := .none, kwdefaults := .none, doc := .none, pyModule := (.str (Str.ofString "gateloom.scopes") 1978), annotations := none, code := (.ref 1291), closureTuple := .none, builtins := 0 }, List.toArray []⟩
noncomputable abbrev k1298 : Obj := ⟨.type "code", none, .fields (List.toArray [(.str (Str.ofString "answers_to") 2072), (.str (Str.ofString "Scope.answers_to") 2073), (.str (Str.ofString "/claim/cut.py") 2074), (.int 1360 0), (.int 2 0), (.int 0 0), (.int 0 0), (.int 3 0), (.ref 1293), (.bool true), (.int 181 0), (.ref 1294), .none, (.ref 1295), (.ref 1296), (.ref 1297), (.int 2077 0), (.int 1360 0), (.str (Str.ofString "/claim/cut.py") 2078)]), List.toArray []⟩
noncomputable abbrev k1299 : Obj := by
  refine' (?F : ∀ (n : Str) (a : Arguments) (l : List Stmt) (sc : PySem.Scope) (bd : Str) (ps : Pos), m 165 8 = .FunctionDef n a l [] none [] sc none bd ps → Obj) _ _ _ _ _ _ rfl
  exact fun n a l sc _ _ _ => ⟨.type "function", none, .func { name := n, qualname := Str.ofString "Scope.answers_to", params := a, body := .stmts l, scope := sc, globals := 3, closure := [], defaults := .none, kwdefaults := .none, doc := .none, pyModule := (.str (Str.ofString "gateloom.scopes") 1978), annotations := none, code := (.ref 1298), closureTuple := .none, builtins := 0 }, List.toArray []⟩
noncomputable abbrev k1300 : Obj := ⟨.type "tuple", none, .seq (List.toArray [(.str (Str.ofString "design") 2080), (.str (Str.ofString "entries") 2081), (.str (Str.ofString "kind") 2082), (.str (Str.ofString "module_name") 2083), (.str (Str.ofString "name") 2084), (.str (Str.ofString "nettype") 2085), (.str (Str.ofString "number") 2086), (.str (Str.ofString "parent") 2087), (.str (Str.ofString "path") 2088)]) 0, List.toArray []⟩
noncomputable abbrev k1301 (P : Params) : Obj := ⟨.type "dict", none, .dict (List.toArray [⟨PyData.keyHash P (Str.ofString "__module__"), .str (Str.ofString "__module__") 1987, (.str (Str.ofString "gateloom.scopes") 1978)⟩, ⟨PyData.keyHash P (Str.ofString "__firstlineno__"), .str (Str.ofString "__firstlineno__") 1991, (.int 1287 1990)⟩, ⟨PyData.keyHash P (Str.ofString "__init__"), .str (Str.ofString "__init__") 2002, (.ref 1243)⟩, ⟨PyData.keyHash P (Str.ofString "child"), .str (Str.ofString "child") 2013, (.ref 1250)⟩, ⟨PyData.keyHash P (Str.ofString "declare"), .str (Str.ofString "declare") 2023, (.ref 1257)⟩, ⟨PyData.keyHash P (Str.ofString "module_scope"), .str (Str.ofString "module_scope") 2030, (.ref 1264)⟩, ⟨PyData.keyHash P (Str.ofString "lookup"), .str (Str.ofString "lookup") 2039, (.ref 1271)⟩, ⟨PyData.keyHash P (Str.ofString "lookup_routine"), .str (Str.ofString "lookup_routine") 2049, (.ref 1278)⟩, ⟨PyData.keyHash P (Str.ofString "descend"), .str (Str.ofString "descend") 2060, (.ref 1285)⟩, ⟨PyData.keyHash P (Str.ofString "resolve"), .str (Str.ofString "resolve") 2071, (.ref 1292)⟩, ⟨PyData.keyHash P (Str.ofString "answers_to"), .str (Str.ofString "answers_to") 2079, (.ref 1299)⟩, ⟨PyData.keyHash P (Str.ofString "__static_attributes__"), .str (Str.ofString "__static_attributes__") 2089, (.ref 1300)⟩, ⟨PyData.keyHash P (Str.ofString "__dict__"), .str (Str.ofString "__dict__") 2091, (.ref 1303)⟩, ⟨PyData.keyHash P (Str.ofString "__weakref__"), .str (Str.ofString "__weakref__") 2093, (.ref 1304)⟩, ⟨PyData.keyHash P (Str.ofString "__doc__"), .str (Str.ofString "__doc__") 2094, .none⟩]) 4, List.toArray []⟩
noncomputable abbrev k1302 : Obj := ⟨(.type "type"), none, .cls { name := Str.ofString "Scope", bases := [(.type "object")], mro := [(.ref 1302), (.type "object")], ns := 1301, qualname := Str.ofString "Scope", hasDict := true, subclasses := [], abstract := false, hasDel := false}, #[none, none, some (.str (Str.ofString "Scope") 1980), some (.str (Str.ofString "Scope") 1988), some (.builtin "object.__new__"), some (.bool true)]⟩
noncomputable abbrev k1303 : Obj := ⟨(.type "getset_descriptor"), none, .fields #[(.str (Str.ofString "__dict__") 2090), (.ref 1302), (.builtin "function.__dict__"), (.builtin "function.__dict__#set")], #[]⟩
noncomputable abbrev k1304 : Obj := ⟨(.type "getset_descriptor"), none, .fields #[(.str (Str.ofString "__weakref__") 2092), (.ref 1302), (.builtin "ExceptionGroup.__weakref__"), .none], #[]⟩
noncomputable abbrev k1312 : Obj := ⟨.type "code", none, .fields (List.toArray [(.str (Str.ofString "_law_row") 2099), (.str (Str.ofString "_law_row") 2100), (.str (Str.ofString "/claim/cut.py") 2101), (.int 1363 0), (.int 1 0), (.int 0 0), (.int 0 0), (.int 3 0), (.ref 1307), (.bool true), (.int 181 0), (.ref 1308), .none, (.ref 1309), (.ref 1310), (.ref 1311), (.int 2107 0), (.int 1363 0), (.str (Str.ofString "/claim/cut.py") 2108)]), List.toArray []⟩
noncomputable abbrev k1313 : Obj := by
  refine' (?F : ∀ (n : Str) (a : Arguments) (l : List Stmt) (sc : PySem.Scope) (bd : Str) (ps : Pos), f 167 = .FunctionDef n a l [] none [] sc none bd ps → Obj) _ _ _ _ _ _ rfl
  exact fun n a l sc _ _ _ => ⟨.type "function", none, .func { name := n, qualname := Str.ofString "_law_row", params := a, body := .stmts l, scope := sc, globals := 3, closure := [], defaults := .none, kwdefaults := .none, doc := .none, pyModule := (.str (Str.ofString "law_nn0349_01") 2097), annotations := none, code := (.ref 1312), closureTuple := .none, builtins := 0 }, List.toArray []⟩
noncomputable abbrev k1319 : Obj := ⟨.type "code", none, .fields (List.toArray [(.str (Str.ofString "_law_next") 2110), (.str (Str.ofString "_law_next") 2111), (.str (Str.ofString "/claim/cut.py") 2112), (.int 1376 0), (.int 1 0), (.int 0 0), (.int 0 0), (.int 3 0), (.ref 1314), (.bool true), (.int 181 0), (.ref 1315), .none, (.ref 1316), (.ref 1317), (.ref 1318), (.int 2114 0), (.int 1376 0), (.str (Str.ofString "/claim/cut.py") 2115)]), List.toArray []⟩
noncomputable abbrev k1320 : Obj := by
  refine' (?F : ∀ (n : Str) (a : Arguments) (l : List Stmt) (sc : PySem.Scope) (bd : Str) (ps : Pos), f 168 = .FunctionDef n a l [] none [] sc none bd ps → Obj) _ _ _ _ _ _ rfl
  exact fun n a l sc _ _ _ => ⟨.type "function", none, .func { name := n, qualname := Str.ofString "_law_next", params := a, body := .stmts l, scope := sc, globals := 3, closure := [], defaults := .none, kwdefaults := .none, doc := .none, pyModule := (.str (Str.ofString "law_nn0349_01") 2097), annotations := none, code := (.ref 1319), closureTuple := .none, builtins := 0 }, List.toArray []⟩
noncomputable abbrev k1326 : Obj := ⟨.type "code", none, .fields (List.toArray [(.str (Str.ofString "_law_bits") 2117), (.str (Str.ofString "_law_bits") 2118), (.str (Str.ofString "/claim/cut.py") 2119), (.int 1378 0), (.int 2 0), (.int 0 0), (.int 0 0), (.int 3 0), (.ref 1321), (.bool true), (.int 181 0), (.ref 1322), .none, (.ref 1323), (.ref 1324), (.ref 1325), (.int 2126 0), (.int 1378 0), (.str (Str.ofString "/claim/cut.py") 2127)]), List.toArray []⟩
noncomputable abbrev k1327 : Obj := by
  refine' (?F : ∀ (n : Str) (a : Arguments) (l : List Stmt) (sc : PySem.Scope) (bd : Str) (ps : Pos), f 169 = .FunctionDef n a l [] none [] sc none bd ps → Obj) _ _ _ _ _ _ rfl
  exact fun n a l sc _ _ _ => ⟨.type "function", none, .func { name := n, qualname := Str.ofString "_law_bits", params := a, body := .stmts l, scope := sc, globals := 3, closure := [], defaults := .none, kwdefaults := .none, doc := .none, pyModule := (.str (Str.ofString "law_nn0349_01") 2097), annotations := none, code := (.ref 1326), closureTuple := .none, builtins := 0 }, List.toArray []⟩
noncomputable abbrev k1333 : Obj := ⟨.type "code", none, .fields (List.toArray [(.str (Str.ofString "_law_made") 2129), (.str (Str.ofString "_law_made") 2130), (.str (Str.ofString "/claim/cut.py") 2131), (.int 1386 0), (.int 1 0), (.int 0 0), (.int 0 0), (.int 3 0), (.ref 1328), (.bool true), (.int 181 0), (.ref 1329), .none, (.ref 1330), (.ref 1331), (.ref 1332), (.int 2136 0), (.int 1386 0), (.str (Str.ofString "/claim/cut.py") 2137)]), List.toArray []⟩
noncomputable abbrev k1334 : Obj := by
  refine' (?F : ∀ (n : Str) (a : Arguments) (l : List Stmt) (sc : PySem.Scope) (bd : Str) (ps : Pos), f 170 = .FunctionDef n a l [] none [] sc none bd ps → Obj) _ _ _ _ _ _ rfl
  exact fun n a l sc _ _ _ => ⟨.type "function", none, .func { name := n, qualname := Str.ofString "_law_made", params := a, body := .stmts l, scope := sc, globals := 3, closure := [], defaults := .none, kwdefaults := .none, doc := .none, pyModule := (.str (Str.ofString "law_nn0349_01") 2097), annotations := none, code := (.ref 1333), closureTuple := .none, builtins := 0 }, List.toArray []⟩
noncomputable abbrev k1340 : Obj := ⟨.type "code", none, .fields (List.toArray [(.str (Str.ofString "_law_small") 2139), (.str (Str.ofString "_law_small") 2140), (.str (Str.ofString "/claim/cut.py") 2141), (.int 1393 0), (.int 1 0), (.int 0 0), (.int 0 0), (.int 3 0), (.ref 1335), (.bool true), (.int 181 0), (.ref 1336), .none, (.ref 1337), (.ref 1338), (.ref 1339), (.int 2143 0), (.int 1393 0), (.str (Str.ofString "/claim/cut.py") 2144)]), List.toArray []⟩
noncomputable abbrev k1341 : Obj := by
  refine' (?F : ∀ (n : Str) (a : Arguments) (l : List Stmt) (sc : PySem.Scope) (bd : Str) (ps : Pos), f 171 = .FunctionDef n a l [] none [] sc none bd ps → Obj) _ _ _ _ _ _ rfl
  exact fun n a l sc _ _ _ => ⟨.type "function", none, .func { name := n, qualname := Str.ofString "_law_small", params := a, body := .stmts l, scope := sc, globals := 3, closure := [], defaults := .none, kwdefaults := .none, doc := .none, pyModule := (.str (Str.ofString "law_nn0349_01") 2097), annotations := none, code := (.ref 1340), closureTuple := .none, builtins := 0 }, List.toArray []⟩
noncomputable abbrev k1345 : Obj := ⟨.type "code", none, .fields (List.toArray [(.str (Str.ofString "_law_number") 2146), (.str (Str.ofString "_law_number") 2147), (.str (Str.ofString "/claim/cut.py") 2148), (.int 1395 0), (.int 1 0), (.int 0 0), (.int 0 0), (.int 3 0), (.ref 1342), (.bool true), (.int 181 0), (.ref 1343), .none, .none, .none, (.ref 1344), (.int 2149 0), (.int 1395 0), (.str (Str.ofString "/claim/cut.py") 2150)]), List.toArray []⟩
noncomputable abbrev k1346 : Obj := by
  refine' (?F : ∀ (n : Str) (a : Arguments) (l : List Stmt) (sc : PySem.Scope) (bd : Str) (ps : Pos), f 172 = .FunctionDef n a l [] none [] sc none bd ps → Obj) _ _ _ _ _ _ rfl
  exact fun n a l sc _ _ _ => ⟨.type "function", none, .func { name := n, qualname := Str.ofString "_law_number", params := a, body := .stmts l, scope := sc, globals := 3, closure := [], defaults := .none, kwdefaults := .none, doc := .none, pyModule := (.str (Str.ofString "law_nn0349_01") 2097), annotations := none, code := (.ref 1345), closureTuple := .none, builtins := 0 }, List.toArray []⟩
noncomputable abbrev k1352 : Obj := ⟨.type "code", none, .fields (List.toArray [(.str (Str.ofString "_law_source") 2152), (.str (Str.ofString "_law_source") 2153), (.str (Str.ofString "/claim/cut.py") 2154), (.int 1400 0), (.int 1 0), (.int 0 0), (.int 0 0), (.int 3 0), (.ref 1347), (.bool true), (.int 181 0), (.ref 1348), .none, (.ref 1349), (.ref 1350), (.ref 1351), (.int 2156 0), (.int 1400 0), (.str (Str.ofString "/claim/cut.py") 2157)]), List.toArray []⟩
noncomputable abbrev k1353 : Obj := by
  refine' (?F : ∀ (n : Str) (a : Arguments) (l : List Stmt) (sc : PySem.Scope) (bd : Str) (ps : Pos), f 173 = .FunctionDef n a l [] none [] sc none bd ps → Obj) _ _ _ _ _ _ rfl
  exact fun n a l sc _ _ _ => ⟨.type "function", none, .func { name := n, qualname := Str.ofString "_law_source", params := a, body := .stmts l, scope := sc, globals := 3, closure := [], defaults := .none, kwdefaults := .none, doc := .none, pyModule := (.str (Str.ofString "law_nn0349_01") 2097), annotations := none, code := (.ref 1352), closureTuple := .none, builtins := 0 }, List.toArray []⟩
noncomputable abbrev k1359 : Obj := ⟨.type "code", none, .fields (List.toArray [(.str (Str.ofString "_law_wide") 2159), (.str (Str.ofString "_law_wide") 2160), (.str (Str.ofString "/claim/cut.py") 2161), (.int 1402 0), (.int 3 0), (.int 0 0), (.int 0 0), (.int 3 0), (.ref 1354), (.bool true), (.int 181 0), (.ref 1355), .none, (.ref 1356), (.ref 1357), (.ref 1358), (.int 2165 0), (.int 1402 0), (.str (Str.ofString "/claim/cut.py") 2166)]), List.toArray []⟩
noncomputable abbrev k1360 : Obj := by
  refine' (?F : ∀ (n : Str) (a : Arguments) (l : List Stmt) (sc : PySem.Scope) (bd : Str) (ps : Pos), f 174 = .FunctionDef n a l [] none [] sc none bd ps → Obj) _ _ _ _ _ _ rfl
  exact fun n a l sc _ _ _ => ⟨.type "function", none, .func { name := n, qualname := Str.ofString "_law_wide", params := a, body := .stmts l, scope := sc, globals := 3, closure := [], defaults := .none, kwdefaults := .none, doc := .none, pyModule := (.str (Str.ofString "law_nn0349_01") 2097), annotations := none, code := (.ref 1359), closureTuple := .none, builtins := 0 }, List.toArray []⟩
noncomputable abbrev k1366 : Obj := ⟨.type "code", none, .fields (List.toArray [(.str (Str.ofString "_law_kept") 2168), (.str (Str.ofString "_law_kept") 2169), (.str (Str.ofString "/claim/cut.py") 2170), (.int 1404 0), (.int 1 0), (.int 0 0), (.int 0 0), (.int 3 0), (.ref 1361), (.bool true), (.int 181 0), (.ref 1362), .none, (.ref 1363), (.ref 1364), (.ref 1365), (.int 2173 0), (.int 1404 0), (.str (Str.ofString "/claim/cut.py") 2174)]), List.toArray []⟩
noncomputable abbrev k1367 : Obj := by
  refine' (?F : ∀ (n : Str) (a : Arguments) (l : List Stmt) (sc : PySem.Scope) (bd : Str) (ps : Pos), f 175 = .FunctionDef n a l [] none [] sc none bd ps → Obj) _ _ _ _ _ _ rfl
  exact fun n a l sc _ _ _ => ⟨.type "function", none, .func { name := n, qualname := Str.ofString "_law_kept", params := a, body := .stmts l, scope := sc, globals := 3, closure := [], defaults := .none, kwdefaults := .none, doc := .none, pyModule := (.str (Str.ofString "law_nn0349_01") 2097), annotations := none, code := (.ref 1366), closureTuple := .none, builtins := 0 }, List.toArray []⟩
noncomputable abbrev k1371 : Obj := ⟨.type "code", none, .fields (List.toArray [(.str (Str.ofString "law") 2176), (.str (Str.ofString "law") 2177), (.str (Str.ofString "/claim/cut.py") 2178), (.int 1409 0), (.int 1 0), (.int 0 0), (.int 0 0), (.int 3 0), (.ref 1368), (.bool true), (.int 181 0), (.ref 1369), .none, .none, .none, (.ref 1370), (.int 2179 0), (.int 1409 0), (.str (Str.ofString "/claim/cut.py") 2180)]), List.toArray []⟩
noncomputable abbrev k1372 : Obj := by
  refine' (?F : ∀ (n : Str) (a : Arguments) (l : List Stmt) (sc : PySem.Scope) (bd : Str) (ps : Pos), f 176 = .FunctionDef n a l [] none [] sc none bd ps → Obj) _ _ _ _ _ _ rfl
  exact fun n a l sc _ _ _ => ⟨.type "function", none, .func { name := n, qualname := Str.ofString "law", params := a, body := .stmts l, scope := sc, globals := 3, closure := [], defaults := .none, kwdefaults := .none, doc := .none, pyModule := (.str (Str.ofString "law_nn0349_01") 2097), annotations := none, code := (.ref 1371), closureTuple := .none, builtins := 0 }, List.toArray []⟩
noncomputable def K : Params → Frag := fun P => (nat_lit 2, k2 P) :: (nat_lit 3, d23 P) :: (nat_lit 22, k22) :: (nat_lit 29, k29) :: (nat_lit 35, k35) :: (nat_lit 36, k36) :: (nat_lit 37, k37) :: (nat_lit 38, k38 P) :: (nat_lit 39, k39) :: (nat_lit 40, k40) :: (nat_lit 43, k43) :: (nat_lit 50, k50) :: (nat_lit 51, k51 P) :: (nat_lit 52, k52) :: (nat_lit 64, k64) :: (nat_lit 72, k72) :: (nat_lit 73, k73) :: (nat_lit 74, k74) :: (nat_lit 80, k80) :: (nat_lit 81, k81) :: (nat_lit 122, k122) :: (nat_lit 123, k123) :: (nat_lit 129, k129) :: (nat_lit 130, k130) :: (nat_lit 157, k157) :: (nat_lit 158, k158) :: (nat_lit 863, k863) :: (nat_lit 864, k864) :: (nat_lit 912, k912) :: (nat_lit 913, k913) :: (nat_lit 1038, k1038) :: (nat_lit 1039, k1039) :: (nat_lit 1059, k1059) :: (nat_lit 1060, k1060) :: (nat_lit 1066, k1066) :: (nat_lit 1067, k1067) :: (nat_lit 1080, k1080) :: (nat_lit 1081, k1081) :: (nat_lit 1087, k1087) :: (nat_lit 1088, k1088) :: (nat_lit 1094, k1094) :: (nat_lit 1095, k1095) :: (nat_lit 1101, k1101) :: (nat_lit 1102, k1102) :: (nat_lit 1108, k1108) :: (nat_lit 1109, k1109) :: (nat_lit 1115, k1115) :: (nat_lit 1116, k1116) :: (nat_lit 1122, k1122) :: (nat_lit 1123, k1123) :: (nat_lit 1129, k1129) :: (nat_lit 1130, k1130) :: (nat_lit 1145, k1145) :: (nat_lit 1151, k1151) :: (nat_lit 1152, k1152) :: (nat_lit 1158, k1158) :: (nat_lit 1159, k1159) :: (nat_lit 1165, k1165) :: (nat_lit 1166, k1166) :: (nat_lit 1179, k1179) :: (nat_lit 1180, k1180) :: (nat_lit 1186, k1186) :: (nat_lit 1187, k1187) :: (nat_lit 1193, k1193) :: (nat_lit 1194, k1194) :: (nat_lit 1200, k1200) :: (nat_lit 1201, k1201) :: (nat_lit 1207, k1207) :: (nat_lit 1208, k1208) :: (nat_lit 1214, k1214) :: (nat_lit 1215, k1215) :: (nat_lit 1221, k1221) :: (nat_lit 1222, k1222) :: (nat_lit 1223, k1223) :: (nat_lit 1224, k1224 P) :: (nat_lit 1225, k1225) :: (nat_lit 1226, k1226) :: (nat_lit 1227, k1227) :: (nat_lit 1242, k1242) :: (nat_lit 1243, k1243) :: (nat_lit 1249, k1249) :: (nat_lit 1250, k1250) :: (nat_lit 1256, k1256) :: (nat_lit 1257, k1257) :: (nat_lit 1263, k1263) :: (nat_lit 1264, k1264) :: (nat_lit 1270, k1270) :: (nat_lit 1271, k1271) :: (nat_lit 1277, k1277) :: (nat_lit 1278, k1278) :: (nat_lit 1284, k1284) :: (nat_lit 1285, k1285) :: (nat_lit 1291, k1291) :: (nat_lit 1292, k1292) :: (nat_lit 1298, k1298) :: (nat_lit 1299, k1299) :: (nat_lit 1300, k1300) :: (nat_lit 1301, k1301 P) :: (nat_lit 1302, k1302) :: (nat_lit 1303, k1303) :: (nat_lit 1304, k1304) :: (nat_lit 1312, k1312) :: (nat_lit 1313, k1313) :: (nat_lit 1319, k1319) :: (nat_lit 1320, k1320) :: (nat_lit 1326, k1326) :: (nat_lit 1327, k1327) :: (nat_lit 1333, k1333) :: (nat_lit 1334, k1334) :: (nat_lit 1340, k1340) :: (nat_lit 1341, k1341) :: (nat_lit 1345, k1345) :: (nat_lit 1346, k1346) :: (nat_lit 1352, k1352) :: (nat_lit 1353, k1353) :: (nat_lit 1359, k1359) :: (nat_lit 1360, k1360) :: (nat_lit 1366, k1366) :: (nat_lit 1367, k1367) :: (nat_lit 1371, k1371) :: (nat_lit 1372, k1372) :: []
noncomputable def Kas : List Addr := nat_lit 2 :: nat_lit 3 :: nat_lit 22 :: nat_lit 29 :: nat_lit 35 :: nat_lit 36 :: nat_lit 37 :: nat_lit 38 :: nat_lit 39 :: nat_lit 40 :: nat_lit 43 :: nat_lit 50 :: nat_lit 51 :: nat_lit 52 :: nat_lit 64 :: nat_lit 72 :: nat_lit 73 :: nat_lit 74 :: nat_lit 80 :: nat_lit 81 :: nat_lit 122 :: nat_lit 123 :: nat_lit 129 :: nat_lit 130 :: nat_lit 157 :: nat_lit 158 :: nat_lit 863 :: nat_lit 864 :: nat_lit 912 :: nat_lit 913 :: nat_lit 1038 :: nat_lit 1039 :: nat_lit 1059 :: nat_lit 1060 :: nat_lit 1066 :: nat_lit 1067 :: nat_lit 1080 :: nat_lit 1081 :: nat_lit 1087 :: nat_lit 1088 :: nat_lit 1094 :: nat_lit 1095 :: nat_lit 1101 :: nat_lit 1102 :: nat_lit 1108 :: nat_lit 1109 :: nat_lit 1115 :: nat_lit 1116 :: nat_lit 1122 :: nat_lit 1123 :: nat_lit 1129 :: nat_lit 1130 :: nat_lit 1145 :: nat_lit 1151 :: nat_lit 1152 :: nat_lit 1158 :: nat_lit 1159 :: nat_lit 1165 :: nat_lit 1166 :: nat_lit 1179 :: nat_lit 1180 :: nat_lit 1186 :: nat_lit 1187 :: nat_lit 1193 :: nat_lit 1194 :: nat_lit 1200 :: nat_lit 1201 :: nat_lit 1207 :: nat_lit 1208 :: nat_lit 1214 :: nat_lit 1215 :: nat_lit 1221 :: nat_lit 1222 :: nat_lit 1223 :: nat_lit 1224 :: nat_lit 1225 :: nat_lit 1226 :: nat_lit 1227 :: nat_lit 1242 :: nat_lit 1243 :: nat_lit 1249 :: nat_lit 1250 :: nat_lit 1256 :: nat_lit 1257 :: nat_lit 1263 :: nat_lit 1264 :: nat_lit 1270 :: nat_lit 1271 :: nat_lit 1277 :: nat_lit 1278 :: nat_lit 1284 :: nat_lit 1285 :: nat_lit 1291 :: nat_lit 1292 :: nat_lit 1298 :: nat_lit 1299 :: nat_lit 1300 :: nat_lit 1301 :: nat_lit 1302 :: nat_lit 1303 :: nat_lit 1304 :: nat_lit 1312 :: nat_lit 1313 :: nat_lit 1319 :: nat_lit 1320 :: nat_lit 1326 :: nat_lit 1327 :: nat_lit 1333 :: nat_lit 1334 :: nat_lit 1340 :: nat_lit 1341 :: nat_lit 1345 :: nat_lit 1346 :: nat_lit 1352 :: nat_lit 1353 :: nat_lit 1359 :: nat_lit 1360 :: nat_lit 1366 :: nat_lit 1367 :: nat_lit 1371 :: nat_lit 1372 :: []
theorem Kas_eq (P : Params) : Kas = (K P).map (·.1) := by kernel_rfl
end PyLaw

namespace PyLaw
open PySem PySem.W PySem.Calls PyProof.Rows PyLaw.G
set_option maxRecDepth 100000
set_option maxHeartbeats 8000000
theorem hook_eq (w : World) (os : OsState) : (kmHook K Kas Kas_eq [1369]).obs ⟨Hf w.params, #[], {}, 2182, os⟩ = (kmHook K Kas Kas_eq [1369]).val w := by kernel_rfl
noncomputable abbrev dLaw : DefRec := by
  refine' (?F : ∀ (n : Str) (a : Arguments) (l : List Stmt) (sc : PySem.Scope) (bd : Str) (ps : Pos), f 176 = .FunctionDef n a l [] none [] sc none bd ps → DefRec) _ _ _ _ _ _ rfl
  exact fun n a l sc _ ps _ => ⟨n, a, l, sc, ps⟩
theorem e_def : defOf q rw'.row.name = some (dLaw, []) := by kernel_rfl
theorem e_the : rw'.row.prog.theDef rw'.row.name = some (dLaw.params, dLaw.body, dLaw.scope) := by
  rw [PySem.W.Fast.te10235530238920679567]; kernel_rfl
theorem e_kw : kwWritten? dLaw.params.kwonlyargs dLaw.params.kw_defaults = some [] := by kernel_rfl
theorem e_ok : (chainsOk q && opensWell rw'.row.prog && (frees rw'.row.toRowW && rw'.row.within.isEmpty)) = true := by kernel_rfl
theorem e_bare : rw'.row.prog.bare := ⟨rfl, rfl, rfl, rfl, rfl, whole_t⟩
theorem e_prom : rw'.row.toRowW.promised := by w_witness2
theorem hd (walk : WalkO q loose (XL q []) (kmHook K Kas Kas_eq [1369]).says rw'.row.toRowW dLaw [] fun f vs => PySem.call f vs) : rw'.Holds :=
  holds_law said fun k1 => holds_open (Xt := Xt) (left hook_eq) (kmHook K Kas Kas_eq [1369]).of (kmHook K Kas Kas_eq [1369]).keeps
    (fun s e => xl_of s (Bool.and_eq_true_iff.mp e).1) XL.keeps e_def e_the e_kw (fun s e => recFacts_of (Bool.and_eq_true_iff.mp e).2) (by kernel_rfl) k1 e_ok e_bare e_prom walk
end PyLaw

namespace PyLaw
open PySem PySem.W PySem.Spec PySem.Calls PyProof.Rows
set_option maxRecDepth 100000
set_option maxHeartbeats 8000000
set_option linter.unusedVariables false
set_option linter.unusedSimpArgs false
set_option rowWalk.seconds 0
def StopHere (p : Prop) : Prop := p
theorem stop_here {p : Prop} (h : StopHere p) : p := h
abbrev Led := List (Addr × Obj)
abbrev tupO (vs : List Value) (n : Nat) : Obj := { cls := .type "tuple", data := .seq vs.toArray n }

def Sep (mt im : Led) : Prop := ∀ p ∈ im, ∀ q ∈ mt, p.1 ≠ q.1
def NoTup (mt : Led) : Prop := ∀ q ∈ mt, ∀ vs k, q.2 ≠ tupO vs k
-- a call's datum seen from within: what stands behind it is told of its parts
mutual
def OpD (im : Led) : Dat → (Value → Prop) → Prop
  | .none, P => P .none
  | .bool b, P => P (.bool b)
  | .int i, P => ∀ t, P (.int i t)
  | .str x, P => ∀ t, P (.str x t)
  | .bytes b, P => ∀ v, DatIn im v (.bytes b) → P v
  | .tuple ds, P => OpL im ds fun vs => ∀ p k, (p, tupO vs k) ∈ im → P (.ref p)
  | .list ds, P => ∀ v, DatIn im v (.list ds) → P v
def OpL (im : Led) : List Dat → (List Value → Prop) → Prop
  | [], P => P []
  | d :: ds, P => OpD im d fun v => OpL im ds fun vs => P (v :: vs)
end
theorem opd_in {im : Led} {d : Dat} {v : Value} {P : Value → Prop} (hd : DatIn im v d) (k : OpD im d P) : P v :=
  DatIn.rec (motive_1 := fun v d _ => ∀ P : Value → Prop, OpD im d P → P v) (motive_2 := fun vs ds _ => ∀ P : List Value → Prop, OpL im ds P → P vs)
    (fun _ h => h) (fun _ _ h => h) (fun _ t _ h => h t) (fun _ t _ h => h t) (fun b t _ h => h _ (.bytes b t)) (fun hm _ ih _ h => ih _ h _ _ hm) (fun hm r _ _ h => h _ (.list hm r))
    (fun _ h => h) (fun _ _ ih1 ih2 P h => ih2 (fun vs => P (_ :: vs)) (ih1 _ h)) hd P k
theorem opl_in {im : Led} {ds : List Dat} {vs : List Value} {P : List Value → Prop} (hd : DatAll im vs ds) (k : OpL im ds P) : P vs :=
  DatAll.rec (motive_1 := fun _ _ _ => True) (motive_2 := fun vs ds _ => ∀ P : List Value → Prop, OpL im ds P → P vs)
    trivial (fun _ => trivial) (fun _ _ => trivial) (fun _ _ => trivial) (fun _ _ => trivial) (fun _ _ _ => trivial) (fun _ _ _ => trivial)
    (fun _ h => h) (fun hd _ _ ih2 P h => ih2 (fun vs => P (_ :: vs)) (opd_in (P := fun v => OpL im _ fun vs => P (v :: vs)) hd h)) hd P k
theorem opd_all {im : Led} {d : Dat} {P : Value → Prop} (h : OpD im d P) : ∀ v, DatIn im v d → P v := fun _ hv => opd_in hv h
theorem opd_of {im : Led} {d : Dat} {P : Value → Prop} (h : ∀ v, DatIn im v d → P v) : OpD im d P :=
  Dat.rec (motive_1 := fun d => ∀ P : Value → Prop, (∀ v, DatIn im v d → P v) → OpD im d P) (motive_2 := fun ds => ∀ P : List Value → Prop, (∀ vs, DatAll im vs ds → P vs) → OpL im ds P)
    (fun _ h => h _ .none) (fun b _ h => h _ (.bool b)) (fun i _ h t => h _ (.int i t)) (fun x _ h t => h _ (.str x t)) (fun _ _ h => h) (fun _ ih _ h => ih _ fun _ hvs _ _ hm => h _ (.tuple hm hvs)) (fun _ _ _ h => h)
    (fun _ h => h _ .nil) (fun _ _ ih1 ih2 _ h => ih1 _ fun _ hv => ih2 _ fun _ hvs => h _ (.cons hv hvs)) d P h
theorem opl_of {im : Led} {ds : List Dat} {P : List Value → Prop} (h : ∀ vs, DatAll im vs ds → P vs) : OpL im ds P := by
  induction ds generalizing P with
  | nil => exact h _ .nil
  | cons d ds ih => exact opd_of fun v hv => ih fun vs hvs => h _ (.cons hv hvs)
theorem Sep.nil {im : Led} : Sep [] im := fun _ _ _ h => (nomatch h)
theorem Sep.cons {e : Addr × Obj} {mt im : Led} (h1 : ∀ p ∈ im, p.1 ≠ e.1) (h2 : Sep mt im) : Sep (e :: mt) im := by
  intro p hp q hq
  rcases List.mem_cons.mp hq with rfl | hq
  · exact h1 p hp
  · exact h2 p hp q hq
theorem Sep.tail {e : Addr × Obj} {mt im : Led} (h : Sep (e :: mt) im) : Sep mt im := fun p hp q hq => h p hp q (.tail _ hq)
theorem Sep.head {e : Addr × Obj} {mt im : Led} (h : Sep (e :: mt) im) : ∀ p ∈ im, p.1 ≠ e.1 := fun p hp => h p hp e (.head _)
theorem Sep.snoc {a : Addr} {o : Obj} {mt im : Led} (h1 : ∀ q ∈ mt, q.1 ≠ a) (h2 : Sep mt im) : Sep mt ((a, o) :: im) := by
  intro p hp q hq
  rcases List.mem_cons.mp hp with rfl | hp
  · exact (h1 q hq).symm
  · exact h2 p hp q hq
theorem Sep.sub {mt mt' im im' : Led} (h : Sep mt im) (h1 : ∀ p ∈ mt', p ∈ mt) (h2 : ∀ p ∈ im', p ∈ im) : Sep mt' im' := fun p hp q hq => h p (h2 p hp) q (h1 q hq)
theorem up {a b : Led} (h : ∀ p ∈ a, p ∈ b) {p : Addr × Obj} (hp : p ∈ a) : p ∈ b := h p hp
theorem up_trans {a b c : Led} (h : ∀ p ∈ a, p ∈ b) (h2 : ∀ p ∈ b, p ∈ c) : ∀ p ∈ a, p ∈ c := fun p hp => h2 p (h p hp)

/-- a ledger seen as its mutable part and the rest -/
inductive Spl : Led → Led → Led → Prop
  | base (mt im : Led) : Spl (mt ++ im) mt im
  | cons {e : Addr × Obj} {X mt im : Led} : Spl X mt im → Spl (e :: X) (e :: mt) im
theorem Spl.eq {X mt im : Led} (h : Spl X mt im) : X = mt ++ im := by
  induction h with
  | base => rfl
  | cons _ ih => rw [ih]; rfl

/-- a call of the def at f with vs, from any frame: it comes back with Post -/
def CallOk (w : World) (f : Addr) (d u : Nat) (vs : List Value) (news : Led) (Post : Value → Led → Prop) : Prop :=
  ∀ (prog : Program) (p : Program) (loose : List Str) (mean : ExcName → Option Value) (mg mb : Str → Option Value)
    (dp un : Nat) (gd : Option (List Code)) (cn : Str) (cs : Scope) (a : Addr) (ccd : Value) (cl : List (Str × Addr)) (outer : List Env) (A₀ : Around) (base h₀ : Heap) (L : Addr) (m : Str → Option Value) (s : Shared)
    (Q E : Value → Shared → Prop),
    Below A₀ base outer h₀ → Fr h₀ L s.heap m → (K w.params).In h₀ → News h₀ L s.heap news → Top p loose mean mg mb h₀ → cs.kind = .function → dp + d < recursionLimit → un + u < cLine →
    (∀ r h' tk' news', Fr h₀ L h' m → News h₀ L h' news' → Post r news' → Q r { s with heap := h', toks := tk' }) →
    wpAny (model prog w) (ktrTop dp un gd cn cs L a ccd cl outer) (call (.ref f) vs) Q E s

/-- what a def that changes nothing hands back: a datum -/
def PD (mt im : Led) (D : Dat) (r : Value) (nw : Led) : Prop := ∃ im', nw = mt ++ im' ∧ (∀ p ∈ im, p ∈ im') ∧ Sep mt im' ∧ DatIn im' r D

def PureOkT (w : World) (f : Addr) (d u : Nat) (pf : List Value) (ds : List Dat) (D : Dat) : Prop :=
  ∀ mt im vs, Sep mt im → NoTup mt → DatAll im vs ds → CallOk w f d u (pf ++ vs) (mt ++ im) (PD mt im D)
def PureOk (w : World) (f : Addr) (d u : Nat) (pf : List Value) (ds : List Dat) (D : Dat) : Prop :=
  ∀ mt im vs, Sep mt im → DatAll im vs ds → CallOk w f d u (pf ++ vs) (mt ++ im) (PD mt im D)

theorem pureOk_of {w : World} {f : Addr} {d u : Nat} {pf : List Value} {ds : List Dat} {D : Dat} (h : ∀ mt im, Sep mt im → OpL im ds fun vs => CallOk w f d u (pf ++ vs) (mt ++ im) (PD mt im D)) : PureOk w f d u pf ds D :=
  fun mt im vs hS hD => opl_in (P := fun vs => CallOk w f d u (pf ++ vs) (mt ++ im) (PD mt im D)) hD (h mt im hS)
theorem pureOkT_of {w : World} {f : Addr} {d u : Nat} {pf : List Value} {ds : List Dat} {D : Dat} (h : ∀ mt im, Sep mt im → NoTup mt → OpL im ds fun vs => CallOk w f d u (pf ++ vs) (mt ++ im) (PD mt im D)) : PureOkT w f d u pf ds D :=
  fun mt im vs hS hT hD => opl_in (P := fun vs => CallOk w f d u (pf ++ vs) (mt ++ im) (PD mt im D)) hD (h mt im hS hT)
section
variable {prog : Program} {w : World} {p : Program} {loose : List Str} {mean : ExcName → Option Value} {mg mb : Str → Option Value} {f : Addr} {d u : Nat} {pf : List Value} {ds : List Dat} {D : Dat}
  {dp un : Nat} {gd : Option (List Code)} {cn : Str} {cs : Scope} {a : Addr} {ccd : Value} {cl : List (Str × Addr)} {outer : List Env} {A₀ : Around} {base h₀ : Heap} {L : Addr} {m : Str → Option Value} {s : Shared}
  {Q E : Value → Shared → Prop} {X mt im : Led} {args vs : List Value}
theorem pure_use (C : PureOk w f d u pf ds D) (B : Below A₀ base outer h₀) (F : Fr h₀ L s.heap m) (K : (K w.params).In h₀) (N : News h₀ L s.heap X) (T : Top p loose mean mg mb h₀) (hk : cs.kind = .function)
    (hX : Spl X mt im) (hS : Sep mt im) (hv : args = pf ++ vs) (hD : DatAll im vs ds) (hd : dp + d < recursionLimit) (hu : un + u < cLine)
    (ret : ∀ r h' tk' im', Fr h₀ L h' m → News h₀ L h' (mt ++ im') → (∀ p ∈ im, p ∈ im') → Sep mt im' → DatIn im' r D → Q r { s with heap := h', toks := tk' }) :
    wpAny (model prog w) (ktrTop dp un gd cn cs L a ccd cl outer) (call (.ref f) args) Q E s := by
  subst hv
  have e := hX.eq
  subst e
  refine C mt im vs hS hD prog p loose mean mg mb dp un gd cn cs a ccd cl outer A₀ base h₀ L m s Q E B F K N T hk hd hu ?_
  rintro r h' tk' nw F' N' ⟨im', rfl, h1, h2, h3⟩
  exact ret r h' tk' im' F' N' h1 h2 h3

theorem pure_useO (C : PureOk w f d u pf ds D) (B : Below A₀ base outer h₀) (F : Fr h₀ L s.heap m) (K : (K w.params).In h₀) (N : News h₀ L s.heap X) (T : Top p loose mean mg mb h₀) (hk : cs.kind = .function)
    (hX : Spl X mt im) (hS : Sep mt im) (hv : args = pf ++ vs) (hD : DatAll im vs ds) (hd : dp + d < recursionLimit) (hu : un + u < cLine)
    (ret : ∀ h' tk' im', Fr h₀ L h' m → News h₀ L h' (mt ++ im') → (∀ p ∈ im, p ∈ im') → Sep mt im' → OpD im' D fun r => Q r { s with heap := h', toks := tk' }) :
    wpAny (model prog w) (ktrTop dp un gd cn cs L a ccd cl outer) (call (.ref f) args) Q E s :=
  pure_use C B F K N T hk hX hS hv hD hd hu fun r h' tk' im' F' N' h1 h2 h3 => opd_in (P := fun r => Q r { s with heap := h', toks := tk' }) h3 (ret h' tk' im' F' N' h1 h2)

theorem pure_useOC (B : Below A₀ base outer h₀) (F : Fr h₀ L s.heap m) (K : (K w.params).In h₀) (N : News h₀ L s.heap X) (T : Top p loose mean mg mb h₀) (hk : cs.kind = .function)
    (hX : Spl X mt im) (hS : Sep mt im) (hv : args = pf ++ vs) (hD : DatAll im vs ds) (hd : dp + d < recursionLimit) (hu : un + u < cLine) (C : PureOk w f d u pf ds D)
    (ret : ∀ h' tk' im', Fr h₀ L h' m → News h₀ L h' (mt ++ im') → (∀ p ∈ im, p ∈ im') → Sep mt im' → OpD im' D fun r => Q r { s with heap := h', toks := tk' }) :
    wpAny (model prog w) (ktrTop dp un gd cn cs L a ccd cl outer) (call (.ref f) args) Q E s :=
  pure_use C B F K N T hk hX hS hv hD hd hu fun r h' tk' im' F' N' h1 h2 h3 => opd_in (P := fun r => Q r { s with heap := h', toks := tk' }) h3 (ret h' tk' im' F' N' h1 h2)

theorem pureT_use (C : PureOkT w f d u pf ds D) (B : Below A₀ base outer h₀) (F : Fr h₀ L s.heap m) (K : (K w.params).In h₀) (N : News h₀ L s.heap X) (T : Top p loose mean mg mb h₀) (hk : cs.kind = .function)
    (hX : Spl X mt im) (hS : Sep mt im) (hT : NoTup mt) (hv : args = pf ++ vs) (hD : DatAll im vs ds) (hd : dp + d < recursionLimit) (hu : un + u < cLine)
    (ret : ∀ r h' tk' im', Fr h₀ L h' m → News h₀ L h' (mt ++ im') → (∀ p ∈ im, p ∈ im') → Sep mt im' → DatIn im' r D → Q r { s with heap := h', toks := tk' }) :
    wpAny (model prog w) (ktrTop dp un gd cn cs L a ccd cl outer) (call (.ref f) args) Q E s := by
  subst hv
  have e := hX.eq
  subst e
  refine C mt im vs hS hT hD prog p loose mean mg mb dp un gd cn cs a ccd cl outer A₀ base h₀ L m s Q E B F K N T hk hd hu ?_
  rintro r h' tk' nw F' N' ⟨im', rfl, h1, h2, h3⟩
  exact ret r h' tk' im' F' N' h1 h2 h3

theorem pureT_useO (C : PureOkT w f d u pf ds D) (B : Below A₀ base outer h₀) (F : Fr h₀ L s.heap m) (K : (K w.params).In h₀) (N : News h₀ L s.heap X) (T : Top p loose mean mg mb h₀) (hk : cs.kind = .function)
    (hX : Spl X mt im) (hS : Sep mt im) (hT : NoTup mt) (hv : args = pf ++ vs) (hD : DatAll im vs ds) (hd : dp + d < recursionLimit) (hu : un + u < cLine)
    (ret : ∀ h' tk' im', Fr h₀ L h' m → News h₀ L h' (mt ++ im') → (∀ p ∈ im, p ∈ im') → Sep mt im' → OpD im' D fun r => Q r { s with heap := h', toks := tk' }) :
    wpAny (model prog w) (ktrTop dp un gd cn cs L a ccd cl outer) (call (.ref f) args) Q E s :=
  pureT_use C B F K N T hk hX hS hT hv hD hd hu fun r h' tk' im' F' N' h1 h2 h3 => opd_in (P := fun r => Q r { s with heap := h', toks := tk' }) h3 (ret h' tk' im' F' N' h1 h2)

theorem pureT_useOC (B : Below A₀ base outer h₀) (F : Fr h₀ L s.heap m) (K : (K w.params).In h₀) (N : News h₀ L s.heap X) (T : Top p loose mean mg mb h₀) (hk : cs.kind = .function)
    (hX : Spl X mt im) (hS : Sep mt im) (hT : NoTup mt) (hv : args = pf ++ vs) (hD : DatAll im vs ds) (hd : dp + d < recursionLimit) (hu : un + u < cLine) (C : PureOkT w f d u pf ds D)
    (ret : ∀ h' tk' im', Fr h₀ L h' m → News h₀ L h' (mt ++ im') → (∀ p ∈ im, p ∈ im') → Sep mt im' → OpD im' D fun r => Q r { s with heap := h', toks := tk' }) :
    wpAny (model prog w) (ktrTop dp un gd cn cs L a ccd cl outer) (call (.ref f) args) Q E s :=
  pureT_use C B F K N T hk hX hS hT hv hD hd hu fun r h' tk' im' F' N' h1 h2 h3 => opd_in (P := fun r => Q r { s with heap := h', toks := tk' }) h3 (ret h' tk' im' F' N' h1 h2)

theorem pd_fin {r : Value} {h' : Heap} {tk' : Nat} {im₀ : Led} {mt₀ : Led} (ret : ∀ r h' tk' news', Fr h₀ L h' m → News h₀ L h' news' → PD mt₀ im₀ D r news' → Q r { s with heap := h', toks := tk' })
    (F : Fr h₀ L h' m) (N : News h₀ L h' X) (hX : Spl X mt im) (hm : ∀ p ∈ mt₀, p ∈ mt) (h1 : ∀ p ∈ im₀, p ∈ im) (hS : Sep mt im) (hD : DatIn im r D) : Q r { s with heap := h', toks := tk' } := by
  have e := hX.eq
  subst e
  refine ret r h' tk' (mt₀ ++ im) F (fun p hp => N p ?_) ⟨im, rfl, h1, hS.sub hm (fun _ h => h), hD⟩
  rcases List.mem_append.mp hp with h | h
  · exact List.mem_append.mpr (.inl (hm p h))
  · exact List.mem_append.mpr (.inr h)

theorem tup_new {M : Model} {A : Around} {vs : List Value} (F : Fr h₀ L s.heap m) (N : News h₀ L s.heap X) (hX : Spl X mt im) (hS : Sep mt im)
    (h : ∀ a im' h', Fr h₀ L h' m → News h₀ L h' (mt ++ im') → (∀ p ∈ im, p ∈ im') → Sep mt im' → (a, tupO vs 0) ∈ im' → Q (.ref a) { s with heap := h' }) (hz : vs.length ≤ sizeLine) : wpAny M A (newTuple vs) Q E s := by
  have e := hX.eq
  subst e
  refine newTuple_N F N (fun h' F' N' => h _ ((s.heap.objs.size, tupO vs 0) :: im) h' F' (fun p hp => N' p ?_) (fun p hp => .tail _ hp) (hS.snoc fun q hq e => ?_) (.head _)) hz
  · rcases List.mem_append.mp hp with h | h
    · exact .tail _ (List.mem_append.mpr (.inl h))
    · rcases List.mem_cons.mp h with rfl | h
      · exact .head _
      · exact .tail _ (List.mem_append.mpr (.inr h))
  · have := Heap.lt_size (N q (List.mem_append.mpr (.inl hq))).1
    rw [e] at this
    exact absurd this (Nat.lt_irrefl _)
end
theorem room0 {d a b R : Nat} (h : d + b < R) (e : Nat.ble a b = true) : d + a < R := Nat.lt_of_le_of_lt (Nat.add_le_add_left (Nat.le_of_ble_eq_true e) d) h
theorem room1 {d b R : Nat} (h : d + b < R) : d < R := Nat.lt_of_le_of_lt (Nat.le_add_right d b) h
theorem room2 {d k a b R : Nat} (h : d + b < R) (e : Nat.ble (k + a) b = true) : d + k + a < R := by
  rw [Nat.add_assoc]
  exact room0 h e
theorem hold {P : Prop} (k : ∀ G : Prop, (P → G) → G) : P := k P id
theorem dat_up {a b : Led} {v : Value} {d : Dat} (h : DatIn a v d) (hs : ∀ p ∈ a, p ∈ b) : DatIn b v d := DatIn.mono hs h
theorem mem_r {mt im : Led} {p : Addr × Obj} (h : p ∈ im) : p ∈ mt ++ im := List.mem_append.mpr (.inr h)
theorem id_sub {im : Led} : ∀ p ∈ im, p ∈ im := fun _ h => h
theorem cons_sub {e : Addr × Obj} {a b : Led} (h : ∀ p ∈ a, p ∈ b) : ∀ p ∈ a, p ∈ e :: b := fun p hp => .tail _ (h p hp)

abbrev vecD (w a b : Int) : Dat := .tuple [.int w, .int a, .int b]
theorem dat_int {im : Led} {v : Value} {n : Int} (h : DatIn im v (.int n)) : ∃ t, v = .int n t := by
  cases h; exact ⟨_, rfl⟩
theorem up_sub {a b : Led} (h : ∀ p ∈ a, p ∈ b) : ∀ p ∈ a, p ∈ b := h
theorem all_nil {im : Led} {vs : List Value} (h : DatAll im vs []) : vs = [] := by cases h; rfl
theorem all_cons {im : Led} {vs : List Value} {d : Dat} {ds : List Dat} (h : DatAll im vs (d :: ds)) : ∃ v ws, vs = v :: ws ∧ DatIn im v d ∧ DatAll im ws ds := by
  cases h with
  | cons h1 h2 => exact ⟨_, _, rfl, h1, h2⟩
theorem dat_tup {im : Led} {v : Value} {ds : List Dat} (h : DatIn im v (.tuple ds)) : ∃ p vs n, v = .ref p ∧ (p, tupO vs n) ∈ im ∧ DatAll im vs ds := by
  cases h with
  | tuple hm r => exact ⟨_, _, _, rfl, hm, r⟩
theorem dat_list {im : Led} {v : Value} {ds : List Dat} (h : DatIn im v (.list ds)) : ∃ p vs n, v = .ref p ∧ (p, listOf vs.toArray n) ∈ im ∧ DatAll im vs ds := by
  cases h with
  | list hm r => exact ⟨_, _, _, rfl, hm, r⟩
theorem dat_bool {im : Led} {v : Value} {b : Bool} (h : DatIn im v (.bool b)) : v = .bool b := by cases h; rfl
theorem dat_str {im : Led} {v : Value} {x : Str} (h : DatIn im v (.str x)) : ∃ t, v = .str x t := by cases h; exact ⟨_, rfl⟩
theorem dat_none {im : Led} {v : Value} (h : DatIn im v .none) : v = .none := by cases h; rfl

section
variable {prog : Program} {w : World} {A : Around} {E : Value → Shared → Prop} {s : Shared} {h₀ h : Heap} {L t b : Addr} {m : Str → Option Value} {X mt im : Led}
theorem frz {D : Addr} {o : Obj} (N : News h₀ L h ((D, o) :: X)) (hX : Spl X mt im) (hS : Sep mt im) (hl : ∀ p ∈ X, p.1 < D) : News h₀ L h (mt ++ ((D, o) :: im)) ∧ Sep mt ((D, o) :: im) := by
  have e := hX.eq
  subst e
  refine ⟨fun p hp => N p ?_, hS.snoc fun q hq => Nat.ne_of_lt (hl q (List.mem_append.mpr (.inl hq)))⟩
  rcases List.mem_append.mp hp with h | h
  · exact .tail _ (List.mem_append.mpr (.inl h))
  · rcases List.mem_cons.mp h with rfl | h
    · exact .head _
    · exact .tail _ (List.mem_append.mpr (.inr h))
abbrev NewIm (h₀ : Heap) (L : Addr) (m : Str → Option Value) (mt im : Led) (s : Shared) (o : Obj) (Q : Value → Shared → Prop) : Prop :=
  ∀ a im' h', Fr h₀ L h' m → News h₀ L h' (mt ++ im') → (∀ p ∈ im, p ∈ im') → Sep mt im' → (a, o) ∈ im' → Q (.ref a) { s with heap := h' }
theorem tup_cat {vs ws zs : List Value} {k k2 : Nat} {Q : Value → Shared → Prop} (F : Fr h₀ L s.heap m) (N : News h₀ L s.heap X) (hX : Spl X mt im) (hS : Sep mt im) (ht : (t, tupO vs k) ∈ X) (hb : (b, tupO ws k2) ∈ X)
    (hv : vs ≠ []) (hw : ws ≠ []) (hz : vs.length + ws.length ≤ 16384) (e : vs ++ ws = zs) (h : NewIm h₀ L m mt im s (tupO zs 0) Q) : wpAny (model prog w) A (binaryOp .Add (.ref t) (.ref b)) Q E s :=
  kde_addT F N (News.isTup N ht) (News.isTup N hb) (by simpa using hv) (by simpa using hw) (by simpa using hz) (by simpa using e) fun D h' F' N' l =>
    h D _ h' F' (frz N' hX hS l).1 (fun p hp => .tail _ hp) (frz N' hX hS l).2 (.head _)
end

section
variable {prog : Program} {w : World} {A : Around} {E : Value → Shared → Prop} {s : Shared} {h₀ h : Heap} {L t : Addr} {m : Str → Option Value} {X mt im : Led}
theorem tup_from {value slice : PySem.Expr} {vs zs : List Value} {k : Nat} {a : Nat} {u : Tok} {Q : Value → Shared → Prop} (F : Fr h₀ L s.heap m) (N : News h₀ L s.heap X) (hX : Spl X mt im) (hS : Sep mt im) (ht : (t, tupO vs k) ∈ X)
    (h1 : 1 ≤ a) (ha : a ≤ vs.length) (e : vs.drop a = zs) (h : NewIm h₀ L m mt im s (tupO zs 0) Q)
    (hs : subscripted slice false (.ref t) (.ref s.heap.objs.size) = operate [.ref s.heap.objs.size, .ref t] (getItem (.ref t) (.ref s.heap.objs.size)))
    (hg : ∀ r, letTemporaryGo value (.ref t) r = pure ()) (hsz : vs.length ≤ 16384) :
    wpAny (model prog w) A (subscriptTail value slice (.ref t) (.ref s.heap.objs.size)) Q E { s with heap := s.heap.push { cls := .type "slice", data := .fields #[.int (a : Int) u, .none, .none] } } := by
  refine slice_tuple_from F N (News.isTup N ht) h1 (by simpa using ha) (fun h' F' N' => ?_) hs hg (by rw [sizeLine_eq, List.size_toArray]; omega)
  have e' : (vs.toArray.toList.drop a).toArray = zs.toArray := by rw [← e]
  rw [e'] at N'
  have l : ∀ p ∈ X, p.1 < s.heap.objs.size + 1 := fun p hp => Nat.lt_succ_of_lt (Heap.lt_size (N p hp).1)
  exact h _ _ h' F' (frz N' hX hS l).1 (fun p hp => .tail _ hp) (frz N' hX hS l).2 (.head _)
end

theorem pd_finL {D : Dat} {h₀ : Heap} {L l : Addr} {o : Obj} {m : Str → Option Value} {s : Shared} {Q : Value → Shared → Prop} {X mt im mt₀ im₀ : Led} {h' : Heap} {tk' : Nat}
    (ret : ∀ r h' tk' news', Fr h₀ L h' m → News h₀ L h' news' → PD mt₀ im₀ D r news' → Q r { s with heap := h', toks := tk' })
    (F : Fr h₀ L h' m) (N : News h₀ L h' ((l, o) :: X)) (hX : Spl X mt im) (hm : ∀ p ∈ mt₀, p ∈ mt) (h1 : ∀ p ∈ im₀, p ∈ im) (hS : Sep mt im) (hl : ∀ p ∈ X, p.1 < l) (hD : DatIn ((l, o) :: im) (.ref l) D) : Q (.ref l) { s with heap := h', toks := tk' } :=
  pd_fin ret F (frz N hX hS hl).1 (.base _ _) hm (cons_sub h1) (frz N hX hS hl).2 hD

/-- data made of tuples alone: no list within -/
def tupOnly : Dat → Bool
  | .tuple ds => tupOnlys ds
  | .list _ => false
  | _ => true
where tupOnlys : List Dat → Bool
  | [] => true
  | d :: ds => tupOnly d && tupOnlys ds
theorem dat_drop {mt im : Led} (hm : NoTup mt) {v : Value} {d : Dat} (k : tupOnly d = true) (h : DatIn (mt ++ im) v d) : DatIn im v d :=
  DatIn.rec (motive_1 := fun v d _ => tupOnly d = true → DatIn im v d) (motive_2 := fun vs ds _ => tupOnly.tupOnlys ds = true → DatAll im vs ds)
    (fun _ => .none) (fun b _ => .bool b) (fun i t _ => .int i t) (fun x t _ => .str x t) (fun b t _ => .bytes b t) (fun h _ ih k => .tuple ((List.mem_append.mp h).resolve_left fun q => hm _ q _ _ rfl) (ih k)) (fun _ _ _ k => nomatch k)
    (fun _ => .nil) (fun _ _ ih1 ih2 k => .cons (ih1 (Bool.and_eq_true_iff.mp k).1) (ih2 (Bool.and_eq_true_iff.mp k).2)) h k
theorem all_drop {mt im : Led} (hm : NoTup mt) {vs : List Value} {ds : List Dat} (k : tupOnly.tupOnlys ds = true) (h : DatAll (mt ++ im) vs ds) : DatAll im vs ds :=
  DatAll.rec (motive_1 := fun _ _ _ => True) (motive_2 := fun vs ds _ => tupOnly.tupOnlys ds = true → DatAll im vs ds)
    trivial (fun _ => trivial) (fun _ _ => trivial) (fun _ _ => trivial) (fun _ _ => trivial) (fun _ _ _ => trivial) (fun _ _ _ => trivial)
    (fun _ => .nil) (fun hd _ _ ih2 k => .cons (dat_drop hm (Bool.and_eq_true_iff.mp k).1 hd) (ih2 (Bool.and_eq_true_iff.mp k).2)) h k
theorem tupOnlys_of {ds : List Dat} (h : ∀ d ∈ ds, tupOnly d = true) : tupOnly.tupOnlys ds = true := by
  induction ds with
  | nil => rfl
  | cons d ds ih => simp only [tupOnly.tupOnlys, Bool.and_eq_true]; exact ⟨h d (.head _), ih fun e he => h e (.tail _ he)⟩
theorem app3 {mt im tl : Led} : mt ++ im ++ tl = mt ++ (im ++ tl) := List.append_assoc _ _ _

/-- the end of a def that hands back a list that it has filled with tuples in a loop -/
theorem pd_finT {ds ds' : List Dat} {vs : List Value} {n : Nat} {h₀ : Heap} {L l : Addr} {m : Str → Option Value} {s : Shared} {Q : Value → Shared → Prop} {X mt im tl mt₀ im₀ : Led} {h' : Heap} {tk' : Nat}
    (ret : ∀ r h' tk' news', Fr h₀ L h' m → News h₀ L h' news' → PD mt₀ im₀ (.list ds) r news' → Q r { s with heap := h', toks := tk' })
    (F : Fr h₀ L h' m) (N : News h₀ L h' ((l, W.listOf vs.toArray n) :: (X ++ tl))) (hX : Spl X mt im) (hm : ∀ p ∈ mt₀, p ∈ mt) (h1 : ∀ p ∈ im₀, p ∈ im) (hS : Sep mt im) (hl : ∀ p ∈ X, p.1 < l)
    (hT : NoTup mt) (hO : OwnOff tl (l :: X.map (·.1))) (hf : DatAll (X ++ tl) vs ds') (he : ds' = ds) (ht : tupOnly.tupOnlys ds = true) : Q (.ref l) { s with heap := h', toks := tk' } := by
  subst he
  have e := hX.eq
  subst e
  rw [app3] at hf
  have hf' := all_drop hT ht hf
  have hS' : Sep mt ((l, W.listOf vs.toArray n) :: (im ++ tl)) := by
    intro p hp q hq
    rcases List.mem_cons.mp hp with rfl | hp
    · exact (Nat.ne_of_lt (hl q (List.mem_append.mpr (.inl hq)))).symm
    · rcases List.mem_append.mp hp with hp | hp
      · exact hS p hp q hq
      · exact hO p hp _ (.tail _ (List.mem_map_of_mem (List.mem_append.mpr (.inl hq))))
  refine pd_fin (X := mt ++ ((l, W.listOf vs.toArray n) :: (im ++ tl))) ret F (fun p hp => N p ?_) (.base _ _) hm (fun p hp => .tail _ (List.mem_append.mpr (.inl (h1 p hp)))) hS' (.list (.head _) (hf'.mono fun p hp => .tail _ hp))
  rcases List.mem_append.mp hp with hp | hp
  · exact .tail _ (List.mem_append.mpr (.inl (List.mem_append.mpr (.inl hp))))
  · rcases List.mem_cons.mp hp with rfl | hp
    · exact .head _
    · rcases List.mem_append.mp hp with hp | hp
      · exact .tail _ (List.mem_append.mpr (.inl (List.mem_append.mpr (.inr hp))))
      · exact .tail _ (List.mem_append.mpr (.inr hp))


theorem and_hi {a n k : Nat} (h : a < 2 ^ n) : a &&& (2 ^ n * k) = 0 := by
  apply Nat.eq_of_testBit_eq
  intro i
  rw [Nat.testBit_and, Nat.testBit_two_pow_mul, Nat.zero_testBit]
  by_cases hi : n ≤ i
  · rw [Nat.testBit_lt_two_pow (Nat.lt_of_lt_of_le h (Nat.pow_le_pow_right (by decide) hi)), Bool.false_and]
  · simp [hi]
theorem pow_pos' (k : Nat) : (0 : Int) < 2 ^ k := kbt_pos k
theorem pow_split {n W : Nat} (h : n ≤ W) : (2 : Int) ^ W = 2 ^ n * 2 ^ (W - n) := by
  rw [← Int.pow_add]
  congr 1
  omega
theorem fill_eq {n W : Nat} (h : n ≤ W) : Builtin.bitXor (2 ^ W - 1) (2 ^ n - 1) = 2 ^ W - 2 ^ n := by
  rw [bitXor_and, kbt_mask]
  have e : ((2 : Int) ^ W - 1) % 2 ^ n = 2 ^ n - 1 := by
    have hp := pow_pos' n
    have h1 : (2 : Int) ^ W - 1 = (2 ^ n - 1) + 2 ^ n * (2 ^ (W - n) - 1) := by rw [pow_split h, Int.mul_sub, Int.mul_one]; omega
    rw [h1, Int.add_mul_emod_self_left, Int.emod_eq_of_lt (by omega) (by omega)]
  rw [e]
  omega
theorem or_fill {n W : Nat} {a : Int} (h : n ≤ W) (h0 : 0 ≤ a) (h1 : a < 2 ^ n) : Builtin.bitOr a (Builtin.bitXor (2 ^ W - 1) (2 ^ n - 1)) = a + 2 ^ W - 2 ^ n := by
  rw [fill_eq h, bitOr_and]
  have hk : (2 : Int) ^ W - 2 ^ n = ((2 ^ n * (2 ^ (W - n) - 1) : Nat) : Int) := by
    have hp : 1 ≤ 2 ^ (W - n) := Nat.one_le_two_pow
    rw [Int.natCast_mul, Int.natCast_sub hp, kbt_cast, kbt_cast, pow_split h, Int.mul_sub]
    simp
  have hp : (0 : Int) ≤ 2 ^ W - 2 ^ n := by rw [hk]; exact Int.natCast_nonneg _
  have e : Builtin.bitAnd a (2 ^ W - 2 ^ n) = 0 := by
    rw [bitAnd_pp h0 hp, hk, Int.toNat_natCast, and_hi (n := n) (by have := kbt_cast n; omega)]
    rfl
  rw [e]
  omega
theorem or_zero (a : Int) : Builtin.bitOr a 0 = a := by rw [bitOr_and, bitAnd_zero]; omega
theorem top1 {p q : Int} : Builtin.bitAnd (p % 2 + 2 * (q % 2)) 1 = p % 2 := by rw [bitAnd_m1]; omega
theorem top2 {p q : Int} : Builtin.bitAnd (p % 2 + 2 * (q % 2)) 2 = 2 * (q % 2) := by
  have h := kbt_bit (p % 2 + 2 * (q % 2)) 1
  rw [show (2 : Int) ^ 1 = 2 from rfl] at h
  rw [h]; omega
def extI (n W x : Int) (sg : Bool) : Int := if sg = true ∧ x / 2 ^ (n - 1).toNat % 2 = 1 then x + 2 ^ W.toNat - 2 ^ n.toNat else x
section
variable {n W a b : Int} {sg : Bool}
theorem ext_n (h : ¬ sg = true) : a = extI n W a sg := by unfold extI; rw [if_neg (fun q => h q.1)]
theorem ext_n2 (h : sg = false) : a = extI n W a sg := ext_n (by rw [h]; decide)
theorem ext_a1 (hs : sg = true) (h0 : 1 ≤ n) (hn : n ≤ W) (ha : 0 ≤ a) (ha2 : a < 2 ^ n.toNat) (h : Builtin.bitAnd (a / 2 ^ (n - 1).toNat % 2 + 2 * (b / 2 ^ (n - 1).toNat % 2)) 1 ≠ 0) :
    Builtin.bitOr a (Builtin.bitXor (2 ^ W.toNat - 1) (2 ^ n.toNat - 1)) = extI n W a sg := by
  rw [top1] at h
  unfold extI
  rw [if_pos ⟨hs, by omega⟩, or_fill (by omega) ha ha2]
theorem ext_a0 (h : Builtin.bitAnd (a / 2 ^ (n - 1).toNat % 2 + 2 * (b / 2 ^ (n - 1).toNat % 2)) 1 = 0) : Builtin.bitOr a 0 = extI n W a sg := by
  rw [top1] at h
  unfold extI
  rw [if_neg (fun q => by omega), or_zero]
theorem ext_b1 (hs : sg = true) (h0 : 1 ≤ n) (hn : n ≤ W) (ha : 0 ≤ b) (ha2 : b < 2 ^ n.toNat) (h : Builtin.bitAnd (a / 2 ^ (n - 1).toNat % 2 + 2 * (b / 2 ^ (n - 1).toNat % 2)) 2 ≠ 0) :
    Builtin.bitOr b (Builtin.bitXor (2 ^ W.toNat - 1) (2 ^ n.toNat - 1)) = extI n W b sg := by
  rw [top2] at h
  unfold extI
  rw [if_pos ⟨hs, by omega⟩, or_fill (by omega) ha ha2]
theorem ext_b0 (h : Builtin.bitAnd (a / 2 ^ (n - 1).toNat % 2 + 2 * (b / 2 ^ (n - 1).toNat % 2)) 2 = 0) : Builtin.bitOr b 0 = extI n W b sg := by
  rw [top2] at h
  unfold extI
  rw [if_neg (fun q => by omega), or_zero]
theorem ext_same (hn : n ≤ W) (hn2 : W ≤ n) (ha : 0 ≤ a) (ha2 : a < 2 ^ n.toNat) : a % 2 ^ W.toNat = extI n W a sg := by
  have e : W = n := by omega
  subst e
  rw [Int.emod_eq_of_lt ha ha2]
  unfold extI
  split <;> omega
end
theorem vec_eq {im : Led} {v : Value} {n x y x' y' : Int} (h : DatIn im v (vecD n x y)) (h1 : x = x') (h2 : y = y') : DatIn im v (vecD n x' y') := by subst h1; subst h2; exact h
theorem dat_eq {im : Led} {v : Value} {d d' : Dat} (h : DatIn im v d) (h1 : d = d') : DatIn im v d' := h1 ▸ h

theorem to_int_1 {a : Int} (h : a.fdiv (2 ^ ((32 : Int) - 1).toNat) = 1) : Dat.int (a - 1 * 2 ^ Int.toNat 32) = Dat.int (if a / 2 ^ 31 = 1 then a - 2 ^ 32 else a) := by
  rw [Int.fdiv_eq_ediv_of_nonneg _ (Int.le_of_lt (kbt_pos _))] at h
  rw [if_pos (show a / 2 ^ 31 = 1 from h), Int.one_mul]
  rfl
theorem to_int_0 {a : Int} (h : a.fdiv (2 ^ ((32 : Int) - 1).toNat) ≠ 1) : Dat.int a = Dat.int (if a / 2 ^ 31 = 1 then a - 2 ^ 32 else a) := by
  rw [Int.fdiv_eq_ediv_of_nonneg _ (Int.le_of_lt (kbt_pos _))] at h
  rw [if_neg (show ¬ a / 2 ^ 31 = 1 from h)]

theorem fill_one (w : World) (h : Heap) : (PySem.Challenge.rw_nn0349_01.about = [(PySem.Str.ofString "instance_rows")]) → (K w.params).In h → True := by
  k_fill
  intros
  trivial
local macro_rules | `(tactic| walk_at $s:str) => if s.getString.startsWith "my " then Lean.Macro.throwUnsupported else `(tactic| k_extra $s)
local macro_rules | `(tactic| k_mem) => `(tactic| walk_at "my kmem")
local macro_rules | `(tactic| k_upd) => `(tactic| walk_at "my kupd")
local macro_rules | `(tactic| k_updF) => `(tactic| walk_at "my kupdF")
local macro_rules | `(tactic| k_ne) => `(tactic| walk_at "my kne")
theorem rg_mac_a : True := by
  k_with "my room" => first | exact room2 (by assumption) rfl | exact room0 (by assumption) rfl | exact room1 (by assumption) | ktr_room
  exact trivial
theorem rg_mac_b : True := by
  k_with "my units" => first | exact room2 (by assumption) rfl | exact room0 (by assumption) rfl | exact room1 (by assumption) | ktr_units
  exact trivial
theorem rg_mac_1 : True := by
  k_with "my spl" => first | with_reducible_and_instances exact Spl.base _ _ | with_reducible_and_instances exact Spl.cons (Spl.base _ _) | with_reducible_and_instances exact Spl.cons (Spl.cons (Spl.base _ _)) | with_reducible_and_instances exact Spl.cons (Spl.cons (Spl.cons (Spl.base _ _))) | with_reducible_and_instances exact Spl.cons (Spl.cons (Spl.cons (Spl.cons (Spl.base _ _)))) | with_reducible_and_instances exact Spl.cons (Spl.cons (Spl.cons (Spl.cons (Spl.cons (Spl.base _ _))))) | with_reducible_and_instances exact Spl.cons (Spl.cons (Spl.cons (Spl.cons (Spl.cons (Spl.cons (Spl.base _ _)))))) | with_reducible_and_instances exact Spl.cons (Spl.cons (Spl.cons (Spl.cons (Spl.cons (Spl.cons (Spl.cons (Spl.base _ _))))))) | with_reducible_and_instances exact Spl.cons (Spl.cons (Spl.cons (Spl.cons (Spl.cons (Spl.cons (Spl.cons (Spl.cons (Spl.base _ _)))))))) | with_reducible_and_instances exact Spl.cons (Spl.cons (Spl.cons (Spl.cons (Spl.cons (Spl.cons (Spl.cons (Spl.cons (Spl.cons (Spl.base _ _))))))))) | with_reducible_and_instances exact Spl.cons (Spl.cons (Spl.cons (Spl.cons (Spl.cons (Spl.cons (Spl.cons (Spl.cons (Spl.cons (Spl.cons (Spl.base _ _)))))))))) | with_reducible_and_instances exact Spl.cons (Spl.cons (Spl.cons (Spl.cons (Spl.cons (Spl.cons (Spl.cons (Spl.cons (Spl.cons (Spl.cons (Spl.cons (Spl.base _ _))))))))))) | with_reducible_and_instances exact Spl.cons (Spl.cons (Spl.cons (Spl.cons (Spl.cons (Spl.cons (Spl.cons (Spl.cons (Spl.cons (Spl.cons (Spl.cons (Spl.cons (Spl.base _ _)))))))))))) | with_reducible_and_instances exact Spl.cons (Spl.cons (Spl.cons (Spl.cons (Spl.cons (Spl.cons (Spl.cons (Spl.cons (Spl.cons (Spl.cons (Spl.cons (Spl.cons (Spl.cons (Spl.base _ _))))))))))))) | with_reducible_and_instances exact Spl.cons (Spl.cons (Spl.cons (Spl.cons (Spl.cons (Spl.cons (Spl.cons (Spl.cons (Spl.cons (Spl.cons (Spl.cons (Spl.cons (Spl.cons (Spl.cons (Spl.base _ _)))))))))))))) | with_reducible_and_instances exact Spl.cons (Spl.cons (Spl.cons (Spl.cons (Spl.cons (Spl.cons (Spl.cons (Spl.cons (Spl.cons (Spl.cons (Spl.cons (Spl.cons (Spl.cons (Spl.cons (Spl.cons (Spl.base _ _))))))))))))))) | with_reducible_and_instances exact Spl.cons (Spl.cons (Spl.cons (Spl.cons (Spl.cons (Spl.cons (Spl.cons (Spl.cons (Spl.cons (Spl.cons (Spl.cons (Spl.cons (Spl.cons (Spl.cons (Spl.cons (Spl.cons (Spl.base _ _)))))))))))))))) | with_reducible_and_instances exact Spl.cons (Spl.cons (Spl.cons (Spl.cons (Spl.cons (Spl.cons (Spl.cons (Spl.cons (Spl.cons (Spl.cons (Spl.cons (Spl.cons (Spl.cons (Spl.cons (Spl.cons (Spl.cons (Spl.cons (Spl.base _ _))))))))))))))))) | with_reducible_and_instances exact Spl.cons (Spl.cons (Spl.cons (Spl.cons (Spl.cons (Spl.cons (Spl.cons (Spl.cons (Spl.cons (Spl.cons (Spl.cons (Spl.cons (Spl.cons (Spl.cons (Spl.cons (Spl.cons (Spl.cons (Spl.cons (Spl.base _ _)))))))))))))))))) | with_reducible_and_instances exact Spl.cons (Spl.cons (Spl.cons (Spl.cons (Spl.cons (Spl.cons (Spl.cons (Spl.cons (Spl.cons (Spl.cons (Spl.cons (Spl.cons (Spl.cons (Spl.cons (Spl.cons (Spl.cons (Spl.cons (Spl.cons (Spl.cons (Spl.base _ _)))))))))))))))))))
  exact trivial
theorem rg_mac_2 : True := by
  k_with "my sub" => first | exact id_sub | assumption | (refine cons_sub ?_; walk_at "my sub") | (refine up_trans ?_ (by assumption); walk_at "my sub")
  exact trivial
theorem rg_mac_3 : True := by
  k_with "my mem" => first | assumption | exact List.Mem.head _ | (refine List.Mem.tail _ ?_; walk_at "my mem") | (refine up (by assumption) ?_; walk_at "my mem")
  exact trivial
theorem rg_mack_1 : True := by
  k_with "my kmem" => (refine mem_r ?_; walk_at "my mem")
  exact trivial
theorem rg_mac_4 : True := by
  k_with "my lt" => first | assumption | exact And.right (by assumption) | exact And.right (And.right (by assumption))
  exact trivial
theorem rg_mac_5 : True := by
  k_with "my sep" => first | assumption | exact Sep.nil | (refine Sep.cons ?_ ?_; (case' refine_1 => walk_at "my lt"); walk_at "my sep")
  exact trivial
theorem rg_mac_6 : True := by
  k_with "my dat" => first | with_reducible_and_instances exact DatIn.int _ _ | with_reducible_and_instances exact DatIn.bool _ | with_reducible_and_instances exact DatIn.str _ _ | with_reducible_and_instances exact DatIn.none | assumption | (exact dat_up (by assumption) (by walk_at "my sub")) | (exact DatIn.tuple (by walk_at "my mem") (by walk_at "my all")) | (exact DatIn.list (by walk_at "my mem") (by walk_at "my all")) | exact DatIn.int _ _ | exact DatIn.bool _ | exact DatIn.str _ _ | exact DatIn.none
  exact trivial
theorem rg_mac_7 : True := by
  k_with "my all" => first | exact DatAll.nil | (exact DatAll.cons (by walk_at "my dat") (by walk_at "my all"))
  exact trivial
theorem rg_mac_8 : True := by
  k_with "newTuple" => (k_here; k_dflt (refine tup_new (by k_asm) (by k_asm) (by walk_at "my spl") (by walk_at "my sep") ?_ (by kmk_size)); intro D'w im'w h'w F'w N'w hs'w hS'w hm'w; (try k_sweep))
  exact trivial
theorem rg_mac_9 : True := by
  k_with "my args" => ((case hv => exact rfl); (case B => k_asm); (case F => k_asm); (case K => k_asm); (case N => k_asm); (case T => k_asm); (case hk => first | exact rfl | assumption); (case hX => walk_at "my spl"); (case hS => walk_at "my sep"); (case hD => walk_at "my all"); (case hd => walk_at "my room"); (case hu => walk_at "my units"))
  exact trivial
theorem rg_mac_10 : True := by
  k_with "my fin" => (refine pd_fin (by assumption) (by k_asm) (by k_asm) (by walk_at "my spl") (by walk_at "my sub") (by walk_at "my sub") (by walk_at "my sep") ?_)
  exact trivial
theorem rg_mac_11 : True := by
  k_with "my open1" => (first | (rename DatAll _ _ (_ :: _) => hA9w; obtain ⟨v9w, w9w, e9w, hA91w, hA92w⟩ := all_cons hA9w; subst e9w; clear hA9w) | (rename DatAll _ _ [] => hA9w; have e9w := all_nil hA9w; subst e9w; clear hA9w) | (rename DatIn _ _ (Dat.int _) => hA9w; obtain ⟨t9w, e9w⟩ := dat_int hA9w; subst e9w; clear hA9w) | (rename DatIn _ _ (Dat.bool _) => hA9w; have e9w := dat_bool hA9w; subst e9w; clear hA9w) | (rename DatIn _ _ (Dat.str _) => hA9w; obtain ⟨t9w, e9w⟩ := dat_str hA9w; subst e9w; clear hA9w) | (rename DatIn _ _ Dat.none => hA9w; have e9w := dat_none hA9w; subst e9w; clear hA9w) | (rename DatIn _ _ (Dat.tuple _) => hA9w; obtain ⟨p9w, v9w, k9w, e9w, hm9w, hA91w⟩ := dat_tup hA9w; subst e9w; clear hA9w))
  exact trivial
theorem rg_mac_12 : True := by
  k_with "my open" => repeat walk_at "my open1"
  exact trivial
theorem rg_mac_13 : True := by
  k_with "my opn" => ((try dsimp only [OpD, OpL]); intros; (try (first | ((with_reducible refine opd_of ?_); intro r9w hD9w; walk_at "my opn") | ((with_reducible refine opl_of ?_); intro v9w hA9w; walk_at "my opn"))))
  exact trivial
theorem rg_mac_14 : True := by
  k_with "my tail" => (intro h9w tk9w im9w F9w N9w hs9w hS9w; walk_at "my opn"; (try k_fold); (try k_sweep))
  exact trivial
theorem rg_mac_15 : True := by
  k_with "my enter" => (refine wpAny_call ?_; k_dflt (refine code_def (by k_asm) (by k_asm) (by k_asm) (by k_asm) (by k_asm) (by exact rfl) (by exact rfl) (by assumption) (by k_is) (by k_is) (by walk_at "my room") (by first | exact BindsTo.of_eq rfl | exact binds_K (by k_in) rfl (by k_is) rfl rfl rfl) (by exact locs rfl) ?_ (by exact rfl) (by exact rfl) (by exact rfl) (by decide); k_whole); intro g'w L'w h'w FG'w F'w N'w B'w X'w T'w; (try dsimp only); (try k_fold))
  exact trivial
theorem rg_mac_16 : True := by
  k_with "my num" => first | with_reducible assumption | decide | omega | exact Or.inl rfl | exact Or.inr rfl
  exact trivial
theorem rg_mac_17 : True := by
  k_with "my new" => (intro D'w im'w h'w F'w N'w hs'w hS'w hm'w; (try simp only [List.cons_append, List.nil_append, List.drop_succ_cons, List.drop_zero] at hm'w); (try k_sweep))
  exact trivial
theorem rg_mac_18 : True := by
  k_with "binaryOp Add ref ref" => (k_here; (with_reducible show wpAny _ _ (binaryOp _ (Value.ref _) (Value.ref _)) _ _ _); k_dflt (refine tup_cat (by k_asm) (by k_asm) (by walk_at "my spl") (by walk_at "my sep") (by k_mem) (by k_mem) (by exact List.cons_ne_nil _ _) (by exact List.cons_ne_nil _ _) (by exact Nat.le_of_ble_eq_true rfl) (by exact rfl) ?_); walk_at "my new")
  exact trivial
theorem rg_mac_19 : True := by
  k_with "subscriptTail Name Slice ref ref" => (k_here; (with_reducible show wpAny _ _ (subscriptTail _ (PySem.Expr.Slice _ none none _) (Value.ref _) (Value.ref _)) _ _ _); k_dflt (refine tup_from (a := 1) (by k_asm) (by k_asm) (by walk_at "my spl") (by walk_at "my sep") (by k_mem) (by decide) (by exact Nat.le_of_ble_eq_true rfl) (by exact rfl) ?_ (by with_unfolding_all rfl) (by kmk_pure) (by exact Nat.le_of_ble_eq_true rfl)); walk_at "my new")
  exact trivial
theorem rg_mac_20 : True := by
  k_with "my finl" => (refine pd_finL (by assumption) (by k_asm) (by k_asm) (by walk_at "my spl") (by walk_at "my sub") (by walk_at "my sub") (by walk_at "my sep") (by walk_at "my lt") ?_)
  exact trivial
theorem rg_mac_21 : True := by
  k_with "my finT" => (refine pd_finT (by with_reducible assumption) (by k_asm) (by k_asm) (by walk_at "my spl") (by walk_at "my sub") (by walk_at "my sub") (by walk_at "my sep") (by walk_at "my lt") (by with_reducible assumption) (by with_reducible assumption) (by with_reducible assumption) ?_ ?_)
  exact trivial
theorem rg_mac_ne7 : True := by
  k_with "my ne" => first | with_reducible assumption | (with_reducible refine Ne.symm ?_; with_reducible assumption) | (with_reducible refine Nat.ne_of_lt ?_; with_reducible assumption) | (with_reducible refine Nat.ne_of_gt ?_; with_reducible assumption)
  exact trivial
theorem rg_mac_nen1 : True := by
  k_with "my nea" => first | exact Nat.ne_of_lt (And.left (by assumption)) | exact Nat.ne_of_gt (And.left (by assumption)) | exact Nat.ne_of_lt (And.left (And.right (by assumption))) | exact Nat.ne_of_gt (And.left (And.right (by assumption))) | exact Nat.ne_of_lt (And.left (And.right (And.right (by assumption)))) | exact Nat.ne_of_gt (And.left (And.right (And.right (by assumption)))) | exact Nat.ne_of_lt (And.left (And.right (And.right (And.right (by assumption))))) | exact Nat.ne_of_gt (And.left (And.right (And.right (And.right (by assumption))))) | exact Nat.ne_of_lt (And.left (And.right (And.right (And.right (And.right (by assumption)))))) | exact Nat.ne_of_gt (And.left (And.right (And.right (And.right (And.right (by assumption)))))) | exact Nat.ne_of_lt (And.left (And.right (And.right (And.right (And.right (And.right (by assumption))))))) | exact Nat.ne_of_gt (And.left (And.right (And.right (And.right (And.right (And.right (by assumption))))))) | exact Nat.ne_of_lt (And.left (And.right (And.right (And.right (And.right (And.right (And.right (by assumption)))))))) | exact Nat.ne_of_gt (And.left (And.right (And.right (And.right (And.right (And.right (And.right (by assumption)))))))) | exact Nat.ne_of_lt (And.left (And.right (And.right (And.right (And.right (And.right (And.right (And.right (by assumption))))))))) | exact Nat.ne_of_gt (And.left (And.right (And.right (And.right (And.right (And.right (And.right (And.right (by assumption))))))))) | exact Nat.ne_of_lt (And.left (And.right (And.right (And.right (And.right (And.right (And.right (And.right (And.right (by assumption)))))))))) | exact Nat.ne_of_gt (And.left (And.right (And.right (And.right (And.right (And.right (And.right (And.right (And.right (by assumption)))))))))) | exact Nat.ne_of_lt (And.left (And.right (And.right (And.right (And.right (And.right (And.right (And.right (And.right (And.right (by assumption))))))))))) | exact Nat.ne_of_gt (And.left (And.right (And.right (And.right (And.right (And.right (And.right (And.right (And.right (And.right (by assumption))))))))))) | exact Nat.ne_of_lt (And.left (And.right (And.right (And.right (And.right (And.right (And.right (And.right (And.right (And.right (And.right (by assumption)))))))))))) | exact Nat.ne_of_gt (And.left (And.right (And.right (And.right (And.right (And.right (And.right (And.right (And.right (And.right (And.right (by assumption))))))))))))
  exact trivial
theorem rg_mac_nek2 : True := by
  k_with "my kne" => first | walk_at "my ne" | ((try dsimp only); walk_at "my ne") | walk_at "my nea"
  exact trivial


theorem mask_ok (w : World) (n : Int) (h0 : 0 ≤ n) (h1 : n ≤ 64) : PureOk w 73 2 20 [] [.int n] (.int (2 ^ n.toNat - 1)) := by
  refine pureOk_of fun mt im hS => ?_
  walk_at "my opn"
  unfold CallOk; intro prog p loose mean mg mb dp un gd cn cs ca ccd cl outer A₀ base h₀ L m s Q E B F X N T hk hd hu hret
  walk_at "my enter"
  k_steps
  walk_at "my fin"
  rw [Int.one_mul]
  walk_at "my dat"

theorem rg_p02_1 : True := by
  k_with "call ref" => (k_here; (with_reducible show wpAny _ _ (call (Value.ref 73) _) _ _ _); k_dflt (refine pure_useOC (by k_asm) (by k_asm) (by k_asm) (by k_asm) (by k_asm) (by first | exact rfl | assumption) (by walk_at "my spl") (by walk_at "my sep") (by exact rfl) (by walk_at "my all") (by walk_at "my room") (by walk_at "my units") (mask_ok _ _ (by omega) (by omega)) ?_); walk_at "my tail")
  exact trivial

theorem vec_ok (w : World) (n a b : Int) (h0 : 0 ≤ n) (h1 : n ≤ 64) : PureOk w 81 4 60 [] [.int n, .int a, .int b] (vecD n (a % 2 ^ n.toNat) (b % 2 ^ n.toNat)) := by
  refine pureOk_of fun mt im hS => ?_
  walk_at "my opn"
  unfold CallOk; intro prog p loose mean mg mb dp un gd cn cs ca ccd cl outer A₀ base h₀ L m s Q E B F X N T hk hd hu hret
  walk_at "my enter"
  k_steps
  rw [kbt_mask, kbt_mask] at *
  walk_at "my fin"
  walk_at "my dat"
theorem rg_p02_2 : True := by
  k_with "call ref" => (k_here; (with_reducible show wpAny _ _ (call (Value.ref 81) _) _ _ _); k_dflt (refine pure_useOC (by k_asm) (by k_asm) (by k_asm) (by k_asm) (by k_asm) (by first | exact rfl | assumption) (by walk_at "my spl") (by walk_at "my sep") (by exact rfl) (by walk_at "my all") (by walk_at "my room") (by walk_at "my units") (vec_ok _ _ _ _ (by omega) (by omega)) ?_); walk_at "my tail")
  exact trivial

theorem shr1 (a : Int) (i : Nat) : Builtin.bitAnd (a.fdiv (2 ^ i)) 1 = a / 2 ^ i % 2 := by
  have h := kbt_mask (a.fdiv (2 ^ i)) 1
  rw [show (2 : Int) ^ 1 - 1 = 1 from rfl, show (2 : Int) ^ 1 = 2 from rfl] at h
  rw [h, Int.fdiv_eq_ediv_of_nonneg _ (Int.le_of_lt (kbt_pos i))]

theorem code_ok (w : World) (n a b i : Int) (h0 : 0 ≤ i) (h1 : i ≤ 64) : PureOk w 130 4 60 [] [vecD n a b, .int i] (.int (a / 2 ^ i.toNat % 2 + 2 * (b / 2 ^ i.toNat % 2))) := by
  refine pureOk_of fun mt im hS => ?_
  walk_at "my opn"
  unfold CallOk; intro prog p loose mean mg mb dp un gd cn cs ca ccd cl outer A₀ base h₀ L m s Q E B F X N T hk hd hu hret
  walk_at "my enter"
  k_steps
  walk_at "my fin"
  rw [shr1, shr1]
  walk_at "my dat"
theorem rg_p02_3 : True := by
  k_with "call ref" => (k_here; (with_reducible show wpAny _ _ (call (Value.ref 130) _) _ _ _); k_dflt (refine pure_useOC (by k_asm) (by k_asm) (by k_asm) (by k_asm) (by k_asm) (by first | exact rfl | assumption) (by walk_at "my spl") (by walk_at "my sep") (by exact rfl) (by walk_at "my all") (by walk_at "my room") (by walk_at "my units") (code_ok _ _ _ _ _ (by omega) (by omega)) ?_); walk_at "my tail")
  exact trivial

theorem extend_ok (w : World) (n a b W : Int) (sg : Bool) (h0 : 1 ≤ n) (h1 : n ≤ W) (h2 : W ≤ 64) (ha : 0 ≤ a) (ha2 : a < 2 ^ n.toNat) (hb : 0 ≤ b) (hb2 : b < 2 ^ n.toNat) : PureOk w 158 6 120 [] [vecD n a b, .int W, .bool sg] (vecD W (extI n W a sg) (extI n W b sg)) := by
  refine pureOk_of fun mt im hS => ?_
  walk_at "my opn"
  unfold CallOk; intro prog p loose mean mg mb dp un gd cn cs ca ccd cl outer A₀ base h₀ L m s Q E B F X N T hk hd hu hret
  walk_at "my enter"
  k_steps
  all_goals (walk_at "my fin"; refine vec_eq (by walk_at "my dat") ?_ ?_)
  all_goals with_reducible first
    | (refine ext_same ?_ ?_ ?_ ?_ <;> assumption)
    | (refine ext_n ?_ <;> assumption)
    | (refine ext_n2 ?_ <;> assumption)
    | (refine ext_a1 (b := b) ?_ ?_ ?_ ?_ ?_ ?_ <;> assumption)
    | (refine ext_a0 (b := b) ?_ <;> assumption)
    | (refine ext_b1 (a := a) ?_ ?_ ?_ ?_ ?_ ?_ <;> assumption)
    | (refine ext_b0 (a := a) ?_ <;> assumption)
theorem rg_p02_4 : True := by
  k_with "call ref" => (k_here; (with_reducible show wpAny _ _ (call (Value.ref 158) _) _ _ _); k_dflt (refine pure_useOC (by k_asm) (by k_asm) (by k_asm) (by k_asm) (by k_asm) (by first | exact rfl | assumption) (by walk_at "my spl") (by walk_at "my sep") (by exact rfl) (by walk_at "my all") (by walk_at "my room") (by walk_at "my units") (extend_ok _ _ _ _ _ _ (by walk_at "my num") (by walk_at "my num") (by walk_at "my num") (by walk_at "my num") (by walk_at "my num") (by walk_at "my num") (by walk_at "my num")) ?_); walk_at "my tail")
  exact trivial

theorem extI_same (n x : Int) (sg : Bool) : extI n n x sg = x := by
  unfold extI; split <;> omega
theorem extend_same_ok (w : World) (n a b : Int) (sg : Bool) (h0 : 1 ≤ n) (h2 : n ≤ 64) (ha : 0 ≤ a) (ha2 : a < 2 ^ n.toNat) (hb : 0 ≤ b) (hb2 : b < 2 ^ n.toNat) : PureOk w 158 6 120 [] [vecD n a b, .int n, .bool sg] (vecD n a b) := by
  have h := extend_ok w n a b n sg h0 (Int.le_refl n) h2 ha ha2 hb hb2
  rw [extI_same, extI_same] at h
  exact h
theorem rg_p02_5 : True := by
  k_with "call ref" => (k_here; (with_reducible show wpAny _ _ (call (Value.ref 158) _) _ _ _); k_dflt (refine pure_useOC (by k_asm) (by k_asm) (by k_asm) (by k_asm) (by k_asm) (by first | exact rfl | assumption) (by walk_at "my spl") (by walk_at "my sep") (by exact rfl) (by walk_at "my all") (by walk_at "my room") (by walk_at "my units") (extend_same_ok _ _ _ _ _ (by walk_at "my num") (by walk_at "my num") (by walk_at "my num") (by walk_at "my num") (by walk_at "my num") (by walk_at "my num")) ?_); walk_at "my tail")
  exact trivial
/-- 32 bits with the sign read off -/
theorem to_int_ok (w : World) (a : Int) (ha : 0 ≤ a) (ha2 : a < 2 ^ 32) : PureOk w 123 4 60 [] [vecD 32 a 0, .bool true] (.int (if a / 2 ^ 31 = 1 then a - 2 ^ 32 else a)) := by
  refine pureOk_of fun mt im hS => ?_
  walk_at "my opn"
  unfold CallOk; intro prog p loose mean mg mb dp un gd cn cs ca ccd cl outer A₀ base h₀ L m s Q E B F X N T hk hd hu hret
  walk_at "my enter"
  k_steps
  all_goals (walk_at "my fin"; refine dat_eq (by walk_at "my dat") ?_)
  · exact to_int_1 (by with_reducible assumption)
  · exact to_int_0 (by with_reducible assumption)
theorem rg_p02_6 : True := by
  k_with "call ref" => (k_here; (with_reducible show wpAny _ _ (call (Value.ref 123) _) _ _ _); k_dflt (refine pure_useOC (by k_asm) (by k_asm) (by k_asm) (by k_asm) (by k_asm) (by first | exact rfl | assumption) (by walk_at "my spl") (by walk_at "my sep") (by exact rfl) (by walk_at "my all") (by walk_at "my room") (by walk_at "my units") (to_int_ok _ _ (by walk_at "my num") (by walk_at "my num")) ?_); walk_at "my tail")
  exact trivial


abbrev S (x : String) : Str := Str.ofString x
abbrev numD (n a b : Int) (sg sz : Bool) : Dat := .tuple [.str (Str.ofString "num"), .int 0, vecD n a b, .bool sg, .bool sz]
abbrev constD (n a b : Int) : Dat := .tuple [.str (Str.ofString "const"), .int n, .int a, .int b]

theorem number_value_ok (w : World) (n a b : Int) (sg sz : Bool) (h0 : 1 ≤ n) (h2 : n ≤ 64) (ha : 0 ≤ a) (ha2 : a < 2 ^ n.toNat) (hb : 0 ≤ b) (hb2 : b < 2 ^ n.toNat) (hz : sg = true ∨ sz = true) :
    PureOk w 913 8 160 [] [numD n a b sg sz, .int n, .bool sg] (constD n a b) := by
  refine pureOk_of fun mt im hS => ?_
  walk_at "my opn"
  unfold CallOk; intro prog p loose mean mg mb dp un gd cn cs ca ccd cl outer A₀ base h₀ L m s Q E B F X N T hk hd hu hret
  walk_at "my enter"
  k_steps
  · walk_at "my fin"; walk_at "my dat"
  · walk_at "my fin"; walk_at "my dat"
  · simp_all
theorem rg_p03_1 : True := by
  k_with "call ref" => (k_here; (with_reducible show wpAny _ _ (call (Value.ref 913) _) _ _ _); k_dflt (refine pure_useOC (by k_asm) (by k_asm) (by k_asm) (by k_asm) (by k_asm) (by first | exact rfl | assumption) (by walk_at "my spl") (by walk_at "my sep") (by exact rfl) (by walk_at "my all") (by walk_at "my room") (by walk_at "my units") (number_value_ok _ _ _ _ _ _ (by walk_at "my num") (by walk_at "my num") (by walk_at "my num") (by walk_at "my num") (by walk_at "my num") (by walk_at "my num") (by walk_at "my num")) ?_); walk_at "my tail")
  exact trivial

theorem expr_type_ok (w : World) (sc : Value) (n a b : Int) (sg sz : Bool) : PureOk w 1039 8 160 [sc] [numD n a b sg sz] (.tuple [.int n, .bool sg]) := by
  refine pureOk_of fun mt im hS => ?_
  walk_at "my opn"
  unfold CallOk; intro prog p loose mean mg mb dp un gd cn cs ca ccd cl outer A₀ base h₀ L m s Q E B F X N T hk hd hu hret
  walk_at "my enter"
  k_steps
  walk_at "my fin"; walk_at "my dat"
theorem rg_p03_2 : True := by
  k_with "call ref" => (k_here; (with_reducible show wpAny _ _ (call (Value.ref 1039) _) _ _ _); k_dflt (refine pure_useOC (by k_asm) (by k_asm) (by k_asm) (by k_asm) (by k_asm) (by first | exact rfl | assumption) (by walk_at "my spl") (by walk_at "my sep") (by exact rfl) (by walk_at "my all") (by walk_at "my room") (by walk_at "my units") (expr_type_ok _ _ _ _ _ _ _ ) ?_); walk_at "my tail")
  exact trivial

theorem build_ok (w : World) (sc : Value) (n a b : Int) (sg sz : Bool) (h0 : 1 ≤ n) (h2 : n ≤ 64) (ha : 0 ≤ a) (ha2 : a < 2 ^ n.toNat) (hb : 0 ≤ b) (hb2 : b < 2 ^ n.toNat) (hz : sg = true ∨ sz = true) :
    PureOk w 1060 12 240 [sc] [numD n a b sg sz, .int n, .bool sg] (constD n a b) := by
  refine pureOk_of fun mt im hS => ?_
  walk_at "my opn"
  unfold CallOk; intro prog p loose mean mg mb dp un gd cn cs ca ccd cl outer A₀ base h₀ L m s Q E B F X N T hk hd hu hret
  walk_at "my enter"
  k_steps
  walk_at "my fin"; walk_at "my dat"
theorem rg_p03_3 : True := by
  k_with "call ref" => (k_here; (with_reducible show wpAny _ _ (call (Value.ref 1060) _) _ _ _); k_dflt (refine pure_useOC (by k_asm) (by k_asm) (by k_asm) (by k_asm) (by k_asm) (by first | exact rfl | assumption) (by walk_at "my spl") (by walk_at "my sep") (by exact rfl) (by walk_at "my all") (by walk_at "my room") (by walk_at "my units") (build_ok _ _ _ _ _ _ _ (by walk_at "my num") (by walk_at "my num") (by walk_at "my num") (by walk_at "my num") (by walk_at "my num") (by walk_at "my num") (by walk_at "my num")) ?_); walk_at "my tail")
  exact trivial

theorem self_determined_ok (w : World) (sc : Value) (n a b : Int) (sg sz : Bool) (h0 : 1 ≤ n) (h2 : n ≤ 64) (ha : 0 ≤ a) (ha2 : a < 2 ^ n.toNat) (hb : 0 ≤ b) (hb2 : b < 2 ^ n.toNat) (hz : sg = true ∨ sz = true) :
    PureOk w 1067 16 300 [sc] [numD n a b sg sz] (.tuple [constD n a b, .bool sg]) := by
  refine pureOk_of fun mt im hS => ?_
  walk_at "my opn"
  unfold CallOk; intro prog p loose mean mg mb dp un gd cn cs ca ccd cl outer A₀ base h₀ L m s Q E B F X N T hk hd hu hret
  walk_at "my enter"
  k_steps
  walk_at "my fin"; walk_at "my dat"
theorem rg_p03_4 : True := by
  k_with "call ref" => (k_here; (with_reducible show wpAny _ _ (call (Value.ref 1067) _) _ _ _); k_dflt (refine pure_useOC (by k_asm) (by k_asm) (by k_asm) (by k_asm) (by k_asm) (by first | exact rfl | assumption) (by walk_at "my spl") (by walk_at "my sep") (by exact rfl) (by walk_at "my all") (by walk_at "my room") (by walk_at "my units") (self_determined_ok _ _ _ _ _ _ _ (by walk_at "my num") (by walk_at "my num") (by walk_at "my num") (by walk_at "my num") (by walk_at "my num") (by walk_at "my num") (by walk_at "my num")) ?_); walk_at "my tail")
  exact trivial

theorem constant_vec_ok (w : World) (sc : Value) (n a b : Int) : PureOk w 1081 6 100 [sc] [constD n a b, .int 0] (vecD n a b) := by
  refine pureOk_of fun mt im hS => ?_
  walk_at "my opn"
  unfold CallOk; intro prog p loose mean mg mb dp un gd cn cs ca ccd cl outer A₀ base h₀ L m s Q E B F X N T hk hd hu hret
  walk_at "my enter"
  k_steps
  walk_at "my fin"; walk_at "my dat"
theorem rg_p03_5 : True := by
  k_with "call ref" => (k_here; (with_reducible show wpAny _ _ (call (Value.ref 1081) _) _ _ _); k_dflt (refine pure_useOC (by k_asm) (by k_asm) (by k_asm) (by k_asm) (by k_asm) (by first | exact rfl | assumption) (by walk_at "my spl") (by walk_at "my sep") (by exact rfl) (by walk_at "my all") (by walk_at "my room") (by walk_at "my units") (constant_vec_ok _ _ _ _ _) ?_); walk_at "my tail")
  exact trivial

theorem constant_ok (w : World) (sc : Value) (n a b : Int) (sg sz : Bool) (h0 : 1 ≤ n) (h2 : n ≤ 64) (ha : 0 ≤ a) (ha2 : a < 2 ^ n.toNat) (hb : 0 ≤ b) (hb2 : b < 2 ^ n.toNat) (hz : sg = true ∨ sz = true) :
    PureOk w 1088 20 400 [sc] [numD n a b sg sz] (.tuple [vecD n a b, .bool sg]) := by
  refine pureOk_of fun mt im hS => ?_
  walk_at "my opn"
  unfold CallOk; intro prog p loose mean mg mb dp un gd cn cs ca ccd cl outer A₀ base h₀ L m s Q E B F X N T hk hd hu hret
  walk_at "my enter"
  k_steps
  walk_at "my fin"; walk_at "my dat"
theorem rg_p03_6 : True := by
  k_with "call ref" => (k_here; (with_reducible show wpAny _ _ (call (Value.ref 1088) _) _ _ _); k_dflt (refine pure_useOC (by k_asm) (by k_asm) (by k_asm) (by k_asm) (by k_asm) (by first | exact rfl | assumption) (by walk_at "my spl") (by walk_at "my sep") (by exact rfl) (by walk_at "my all") (by walk_at "my room") (by walk_at "my units") (constant_ok _ _ _ _ _ _ _ (by walk_at "my num") (by walk_at "my num") (by walk_at "my num") (by walk_at "my num") (by walk_at "my num") (by walk_at "my num") (by walk_at "my num")) ?_); walk_at "my tail")
  exact trivial

theorem small_nn (f : Int) : 0 ≤ f % 2 ^ 32 := Int.emod_nonneg _ (by decide)
theorem small_lt (f : Int) : f % 2 ^ 32 < 2 ^ (32 : Int).toNat := Int.emod_lt_of_pos _ (by decide)
theorem small_back {f : Int} (h1 : -1000 ≤ f) (h2 : f ≤ 1000) : (if f % 2 ^ 32 / 2 ^ 31 = 1 then f % 2 ^ 32 - 2 ^ 32 else f % 2 ^ 32) = f := by
  split <;> omega
theorem whole_ok (w : World) (sc : Value) (f : Int) (h1 : -1000 ≤ f) (h2 : f ≤ 1000) : PureOk w 1095 26 500 [sc] [numD 32 (f % 2 ^ 32) 0 true false] (.int f) := by
  refine pureOk_of fun mt im hS => ?_
  walk_at "my opn"
  unfold CallOk; intro prog p loose mean mg mb dp un gd cn cs ca ccd cl outer A₀ base h₀ L m s Q E B F X N T hk hd hu hret
  have e1 := small_nn f
  have e2 := small_lt f
  have e3 : (0 : Int) < 2 ^ (32 : Int).toNat := by decide
  have e4 : f % 2 ^ 32 < 2 ^ 32 := small_lt f
  walk_at "my enter"
  k_steps
  walk_at "my fin"
  refine' dat_eq ?x ?y
  (case x => walk_at "my dat")
  rw [small_back h1 h2]
theorem rg_p03_7 : True := by
  k_with "call ref" => (k_here; (with_reducible show wpAny _ _ (call (Value.ref 1095) _) _ _ _); k_dflt (refine pure_useOC (by k_asm) (by k_asm) (by k_asm) (by k_asm) (by k_asm) (by first | exact rfl | assumption) (by walk_at "my spl") (by walk_at "my sep") (by exact rfl) (by walk_at "my all") (by walk_at "my room") (by walk_at "my units") (whole_ok _ _ _ (by walk_at "my num") (by walk_at "my num")) ?_); walk_at "my tail")
  exact trivial


theorem checked_width_ok (w : World) (n k : Int) (h1 : 1 ≤ n) (h2 : n ≤ 65536) : PureOk w 864 3 40 [] [.int n, .int k] (.int n) := by
  refine pureOk_of fun mt im hS => ?_
  walk_at "my opn"
  unfold CallOk; intro prog p loose mean mg mb dp un gd cn cs ca ccd cl outer A₀ base h₀ L m s Q E B F X N T hk hd hu hret
  walk_at "my enter"
  k_steps
  walk_at "my fin"; walk_at "my dat"
theorem rg_p04_1 : True := by
  k_with "call ref" => (k_here; (with_reducible show wpAny _ _ (call (Value.ref 864) _) _ _ _); k_dflt (refine pure_useOC (by k_asm) (by k_asm) (by k_asm) (by k_asm) (by k_asm) (by first | exact rfl | assumption) (by walk_at "my spl") (by walk_at "my sep") (by exact rfl) (by walk_at "my all") (by walk_at "my room") (by walk_at "my units") (checked_width_ok _ _ _ (by walk_at "my num") (by walk_at "my num")) ?_); walk_at "my tail")
  exact trivial

abbrev smallD (f : Int) : Dat := numD 32 (f % 2 ^ 32) 0 true false
theorem range_of_ok (w : World) (sc : Value) (l r : Int) (h1 : -1000 ≤ l) (h2 : l ≤ 1000) (h3 : -1000 ≤ r) (h4 : r ≤ 1000) : PureOk w 1102 30 600 [sc] [.tuple [smallD l, smallD r]] (.tuple [.int l, .int r]) := by
  refine pureOk_of fun mt im hS => ?_
  walk_at "my opn"
  unfold CallOk; intro prog p loose mean mg mb dp un gd cn cs ca ccd cl outer A₀ base h₀ L m s Q E B F X N T hk hd hu hret
  walk_at "my enter"
  k_steps
  walk_at "my fin"; walk_at "my dat"
theorem rg_p04_2 : True := by
  k_with "call ref" => (k_here; (with_reducible show wpAny _ _ (call (Value.ref 1102) _) _ _ _); k_dflt (refine pure_useOC (by k_asm) (by k_asm) (by k_asm) (by k_asm) (by k_asm) (by first | exact rfl | assumption) (by walk_at "my spl") (by walk_at "my sep") (by exact rfl) (by walk_at "my all") (by walk_at "my room") (by walk_at "my units") (range_of_ok _ _ _ _ (by walk_at "my num") (by walk_at "my num") (by walk_at "my num") (by walk_at "my num")) ?_); walk_at "my tail")
  exact trivial

theorem rows_none_ok (w : World) (sc : Value) (x : Str) (k : Int) : PureOk w 1166 34 700 [sc] [.str x, .none, .int k] (.list [.tuple [.str x, .int 0, .int 1]]) := by
  refine pureOk_of fun mt im hS => ?_
  walk_at "my opn"
  unfold CallOk; intro prog p loose mean mg mb dp un gd cn cs ca ccd cl outer A₀ base h₀ L m s Q E B F X N T hk hd hu hret
  walk_at "my enter"
  k_steps
  walk_at "my finl"; walk_at "my dat"

def cnt (l r : Int) : Int := (l - r).natAbs + 1
def stp (l r : Int) : Int := if r < l then -1 else 1
def txt (k : Int) : Str := ((Str.ofString "u" ++ Str.ofString "[") ++ Str.ofString (toString k)) ++ Str.ofString "]"
def rowD (l r p : Int) : Dat := .tuple [.str (txt (l + stp l r * p)), .int p, .int (cnt l r)]
theorem cnt_eq (l r : Int) : (if l - r < 0 then -(l - r) else l - r) + 1 = cnt l r := by unfold cnt; split <;> omega
theorem rowD_neg {l r n : Int} (h : r < l) : Dat.tuple [.str (Str.ofString "u[" ++ Str.ofString (toString (l + -1 * n)) ++ Str.ofString "]"), .int n, .int ((if l - r < 0 then -(l - r) else l - r) + 1)] = rowD l r n := by
  unfold rowD stp; rw [if_pos h, cnt_eq]; rfl
theorem rowD_pos {l r n : Int} (h : ¬ r < l) : Dat.tuple [.str (Str.ofString "u[" ++ Str.ofString (toString (l + 1 * n)) ++ Str.ofString "]"), .int n, .int ((if l - r < 0 then -(l - r) else l - r) + 1)] = rowD l r n := by
  unfold rowD stp; rw [if_neg h, cnt_eq]; rfl
theorem rowD_any {l r n x : Int} (h : (r < l ∧ x = -1) ∨ (¬ r < l ∧ x = 1)) : Dat.tuple [.str (Str.ofString "u[" ++ Str.ofString (toString (l + x * n)) ++ Str.ofString "]"), .int n, .int ((if l - r < 0 then -(l - r) else l - r) + 1)] = rowD l r n := by
  rcases h with ⟨h, rfl⟩ | ⟨h, rfl⟩
  · exact rowD_neg h
  · exact rowD_pos h
structure PmSeen : Prop where
theorem pm_in {M : Model} {A : Around} {E : Value → Shared → Prop} {s : Shared} {Q : Value → Shared → Prop} {l r n x : Int} {t : Tok} (h : (r < l ∧ x = -1) ∨ (¬ r < l ∧ x = 1)) (hl : -1000 ≤ l ∧ l ≤ 1000) (hn : 0 ≤ n ∧ n ≤ 1000)
    (k : PmSeen → -3000 < l + x * n → l + x * n < 3000 → wpAny M A (call (.type "str") [.int (l + x * n) t]) Q E s) : wpAny M A (call (.type "str") [.int (l + x * n) t]) Q E s := by
  rcases h with ⟨_, rfl⟩ | ⟨_, rfl⟩ <;> exact k ⟨⟩ (by omega) (by omega)
theorem rows_step {l r n : Int} {pre : List Int} {d : Dat} (e : d = rowD l r n) : (List.map (rowD l r) pre ++ [d]).length = (pre ++ [n]).length ∧ List.map (rowD l r) pre ++ [d] = List.map (rowD l r) (pre ++ [n]) := by
  subst e; simp
theorem rows_nil (l r : Int) : ([] : List Dat).length = ([] : List Int).length ∧ [] = List.map (rowD l r) [] := ⟨rfl, rfl⟩
theorem rows_only (l r : Int) (ks : List Int) : tupOnly.tupOnlys (ks.map (rowD l r)) = true := tupOnlys_of fun d hd => by
  obtain ⟨k, _, rfl⟩ := List.mem_map.mp hd
  rfl
theorem rows_len {l r : Int} : ((if l - r < 0 then -(l - r) else l - r) + 1 - 0).toNat = (cnt l r).toNat := by rw [cnt_eq]; simp
theorem rows_ok (w : World) (sc : Value) (l r k : Int) (h1 : -1000 ≤ l) (h2 : l ≤ 1000) (h3 : -1000 ≤ r) (h4 : r ≤ 1000) (h5 : (l - r).natAbs < 256) : PureOkT w 1166 34 700 [sc] [.str (Str.ofString "u"), .tuple [smallD l, smallD r], .int k] (.list ((rangeKs 0 (cnt l r).toNat).map (rowD l r))) := by
  refine pureOkT_of fun mt im hS hT => ?_
  walk_at "my opn"
  unfold CallOk; intro prog p loose mean mg mb dp un gd cn cs ca ccd cl outer A₀ base h₀ L m s Q E B F X N T hk hd hu hret
  walk_at "my enter"
  k_with "pyIter ref" => k_dat (fun (pre : List Int) out => out.length = pre.length ∧ out = pre.map (rowD l r)) "rows*"
  k_with "state" => first | with_reducible exact rows_nil _ _ | (refine rows_step ?_; exact rowD_any (by with_reducible assumption))
  k_with "exec If" => (k_here; kj_step)
  k_with "call type:str" => (k_here; (fail_if_success (with_reducible rename PmSeen => mkw)); refine pm_in (by with_reducible assumption) ⟨by with_reducible assumption, by with_reducible assumption⟩ ⟨by omega, by omega⟩ ?_; intro mkw hp1w hp2w)
  k_steps
  all_goals walk_at "my finT"
  all_goals first | exact rows_only _ _ _ | rw [rows_len]

theorem rst_p04 : True := by
  k_with_none
  exact trivial
theorem rxrp04_mac_a : True := by
  k_with "my room" => first | exact room2 (by assumption) rfl | exact room0 (by assumption) rfl | exact room1 (by assumption) | ktr_room
  exact trivial
theorem rxrp04_mac_b : True := by
  k_with "my units" => first | exact room2 (by assumption) rfl | exact room0 (by assumption) rfl | exact room1 (by assumption) | ktr_units
  exact trivial
theorem rxrp04_mac_1 : True := by
  k_with "my spl" => first | with_reducible_and_instances exact Spl.base _ _ | with_reducible_and_instances exact Spl.cons (Spl.base _ _) | with_reducible_and_instances exact Spl.cons (Spl.cons (Spl.base _ _)) | with_reducible_and_instances exact Spl.cons (Spl.cons (Spl.cons (Spl.base _ _))) | with_reducible_and_instances exact Spl.cons (Spl.cons (Spl.cons (Spl.cons (Spl.base _ _)))) | with_reducible_and_instances exact Spl.cons (Spl.cons (Spl.cons (Spl.cons (Spl.cons (Spl.base _ _))))) | with_reducible_and_instances exact Spl.cons (Spl.cons (Spl.cons (Spl.cons (Spl.cons (Spl.cons (Spl.base _ _)))))) | with_reducible_and_instances exact Spl.cons (Spl.cons (Spl.cons (Spl.cons (Spl.cons (Spl.cons (Spl.cons (Spl.base _ _))))))) | with_reducible_and_instances exact Spl.cons (Spl.cons (Spl.cons (Spl.cons (Spl.cons (Spl.cons (Spl.cons (Spl.cons (Spl.base _ _)))))))) | with_reducible_and_instances exact Spl.cons (Spl.cons (Spl.cons (Spl.cons (Spl.cons (Spl.cons (Spl.cons (Spl.cons (Spl.cons (Spl.base _ _))))))))) | with_reducible_and_instances exact Spl.cons (Spl.cons (Spl.cons (Spl.cons (Spl.cons (Spl.cons (Spl.cons (Spl.cons (Spl.cons (Spl.cons (Spl.base _ _)))))))))) | with_reducible_and_instances exact Spl.cons (Spl.cons (Spl.cons (Spl.cons (Spl.cons (Spl.cons (Spl.cons (Spl.cons (Spl.cons (Spl.cons (Spl.cons (Spl.base _ _))))))))))) | with_reducible_and_instances exact Spl.cons (Spl.cons (Spl.cons (Spl.cons (Spl.cons (Spl.cons (Spl.cons (Spl.cons (Spl.cons (Spl.cons (Spl.cons (Spl.cons (Spl.base _ _)))))))))))) | with_reducible_and_instances exact Spl.cons (Spl.cons (Spl.cons (Spl.cons (Spl.cons (Spl.cons (Spl.cons (Spl.cons (Spl.cons (Spl.cons (Spl.cons (Spl.cons (Spl.cons (Spl.base _ _))))))))))))) | with_reducible_and_instances exact Spl.cons (Spl.cons (Spl.cons (Spl.cons (Spl.cons (Spl.cons (Spl.cons (Spl.cons (Spl.cons (Spl.cons (Spl.cons (Spl.cons (Spl.cons (Spl.cons (Spl.base _ _)))))))))))))) | with_reducible_and_instances exact Spl.cons (Spl.cons (Spl.cons (Spl.cons (Spl.cons (Spl.cons (Spl.cons (Spl.cons (Spl.cons (Spl.cons (Spl.cons (Spl.cons (Spl.cons (Spl.cons (Spl.cons (Spl.base _ _))))))))))))))) | with_reducible_and_instances exact Spl.cons (Spl.cons (Spl.cons (Spl.cons (Spl.cons (Spl.cons (Spl.cons (Spl.cons (Spl.cons (Spl.cons (Spl.cons (Spl.cons (Spl.cons (Spl.cons (Spl.cons (Spl.cons (Spl.base _ _)))))))))))))))) | with_reducible_and_instances exact Spl.cons (Spl.cons (Spl.cons (Spl.cons (Spl.cons (Spl.cons (Spl.cons (Spl.cons (Spl.cons (Spl.cons (Spl.cons (Spl.cons (Spl.cons (Spl.cons (Spl.cons (Spl.cons (Spl.cons (Spl.base _ _))))))))))))))))) | with_reducible_and_instances exact Spl.cons (Spl.cons (Spl.cons (Spl.cons (Spl.cons (Spl.cons (Spl.cons (Spl.cons (Spl.cons (Spl.cons (Spl.cons (Spl.cons (Spl.cons (Spl.cons (Spl.cons (Spl.cons (Spl.cons (Spl.cons (Spl.base _ _)))))))))))))))))) | with_reducible_and_instances exact Spl.cons (Spl.cons (Spl.cons (Spl.cons (Spl.cons (Spl.cons (Spl.cons (Spl.cons (Spl.cons (Spl.cons (Spl.cons (Spl.cons (Spl.cons (Spl.cons (Spl.cons (Spl.cons (Spl.cons (Spl.cons (Spl.cons (Spl.base _ _)))))))))))))))))))
  exact trivial
theorem rxrp04_mac_2 : True := by
  k_with "my sub" => first | exact id_sub | assumption | (refine cons_sub ?_; walk_at "my sub") | (refine up_trans ?_ (by assumption); walk_at "my sub")
  exact trivial
theorem rxrp04_mac_3 : True := by
  k_with "my mem" => first | assumption | exact List.Mem.head _ | (refine List.Mem.tail _ ?_; walk_at "my mem") | (refine up (by assumption) ?_; walk_at "my mem")
  exact trivial
theorem rxrp04_mack_1 : True := by
  k_with "my kmem" => (refine mem_r ?_; walk_at "my mem")
  exact trivial
theorem rxrp04_mac_4 : True := by
  k_with "my lt" => first | assumption | exact And.right (by assumption) | exact And.right (And.right (by assumption))
  exact trivial
theorem rxrp04_mac_5 : True := by
  k_with "my sep" => first | assumption | exact Sep.nil | (refine Sep.cons ?_ ?_; (case' refine_1 => walk_at "my lt"); walk_at "my sep")
  exact trivial
theorem rxrp04_mac_6 : True := by
  k_with "my dat" => first | with_reducible_and_instances exact DatIn.int _ _ | with_reducible_and_instances exact DatIn.bool _ | with_reducible_and_instances exact DatIn.str _ _ | with_reducible_and_instances exact DatIn.none | assumption | (exact dat_up (by assumption) (by walk_at "my sub")) | (exact DatIn.tuple (by walk_at "my mem") (by walk_at "my all")) | (exact DatIn.list (by walk_at "my mem") (by walk_at "my all")) | exact DatIn.int _ _ | exact DatIn.bool _ | exact DatIn.str _ _ | exact DatIn.none
  exact trivial
theorem rxrp04_mac_7 : True := by
  k_with "my all" => first | exact DatAll.nil | (exact DatAll.cons (by walk_at "my dat") (by walk_at "my all"))
  exact trivial
theorem rxrp04_mac_8 : True := by
  k_with "newTuple" => (k_here; k_dflt (refine tup_new (by k_asm) (by k_asm) (by walk_at "my spl") (by walk_at "my sep") ?_ (by kmk_size)); intro D'w im'w h'w F'w N'w hs'w hS'w hm'w; (try k_sweep))
  exact trivial
theorem rxrp04_mac_9 : True := by
  k_with "my args" => ((case hv => exact rfl); (case B => k_asm); (case F => k_asm); (case K => k_asm); (case N => k_asm); (case T => k_asm); (case hk => first | exact rfl | assumption); (case hX => walk_at "my spl"); (case hS => walk_at "my sep"); (case hD => walk_at "my all"); (case hd => walk_at "my room"); (case hu => walk_at "my units"))
  exact trivial
theorem rxrp04_mac_10 : True := by
  k_with "my fin" => (refine pd_fin (by assumption) (by k_asm) (by k_asm) (by walk_at "my spl") (by walk_at "my sub") (by walk_at "my sub") (by walk_at "my sep") ?_)
  exact trivial
theorem rxrp04_mac_11 : True := by
  k_with "my open1" => (first | (rename DatAll _ _ (_ :: _) => hA9w; obtain ⟨v9w, w9w, e9w, hA91w, hA92w⟩ := all_cons hA9w; subst e9w; clear hA9w) | (rename DatAll _ _ [] => hA9w; have e9w := all_nil hA9w; subst e9w; clear hA9w) | (rename DatIn _ _ (Dat.int _) => hA9w; obtain ⟨t9w, e9w⟩ := dat_int hA9w; subst e9w; clear hA9w) | (rename DatIn _ _ (Dat.bool _) => hA9w; have e9w := dat_bool hA9w; subst e9w; clear hA9w) | (rename DatIn _ _ (Dat.str _) => hA9w; obtain ⟨t9w, e9w⟩ := dat_str hA9w; subst e9w; clear hA9w) | (rename DatIn _ _ Dat.none => hA9w; have e9w := dat_none hA9w; subst e9w; clear hA9w) | (rename DatIn _ _ (Dat.tuple _) => hA9w; obtain ⟨p9w, v9w, k9w, e9w, hm9w, hA91w⟩ := dat_tup hA9w; subst e9w; clear hA9w))
  exact trivial
theorem rxrp04_mac_12 : True := by
  k_with "my open" => repeat walk_at "my open1"
  exact trivial
theorem rxrp04_mac_13 : True := by
  k_with "my opn" => ((try dsimp only [OpD, OpL]); intros; (try (first | ((with_reducible refine opd_of ?_); intro r9w hD9w; walk_at "my opn") | ((with_reducible refine opl_of ?_); intro v9w hA9w; walk_at "my opn"))))
  exact trivial
theorem rxrp04_mac_14 : True := by
  k_with "my tail" => (intro h9w tk9w im9w F9w N9w hs9w hS9w; walk_at "my opn"; (try k_fold); (try k_sweep))
  exact trivial
theorem rxrp04_mac_15 : True := by
  k_with "my enter" => (refine wpAny_call ?_; k_dflt (refine code_def (by k_asm) (by k_asm) (by k_asm) (by k_asm) (by k_asm) (by exact rfl) (by exact rfl) (by assumption) (by k_is) (by k_is) (by walk_at "my room") (by first | exact BindsTo.of_eq rfl | exact binds_K (by k_in) rfl (by k_is) rfl rfl rfl) (by exact locs rfl) ?_ (by exact rfl) (by exact rfl) (by exact rfl) (by decide); k_whole); intro g'w L'w h'w FG'w F'w N'w B'w X'w T'w; (try dsimp only); (try k_fold))
  exact trivial
theorem rxrp04_mac_16 : True := by
  k_with "my num" => first | with_reducible assumption | decide | omega | exact Or.inl rfl | exact Or.inr rfl
  exact trivial
theorem rxrp04_mac_17 : True := by
  k_with "my new" => (intro D'w im'w h'w F'w N'w hs'w hS'w hm'w; (try simp only [List.cons_append, List.nil_append, List.drop_succ_cons, List.drop_zero] at hm'w); (try k_sweep))
  exact trivial
theorem rxrp04_mac_18 : True := by
  k_with "binaryOp Add ref ref" => (k_here; (with_reducible show wpAny _ _ (binaryOp _ (Value.ref _) (Value.ref _)) _ _ _); k_dflt (refine tup_cat (by k_asm) (by k_asm) (by walk_at "my spl") (by walk_at "my sep") (by k_mem) (by k_mem) (by exact List.cons_ne_nil _ _) (by exact List.cons_ne_nil _ _) (by exact Nat.le_of_ble_eq_true rfl) (by exact rfl) ?_); walk_at "my new")
  exact trivial
theorem rxrp04_mac_19 : True := by
  k_with "subscriptTail Name Slice ref ref" => (k_here; (with_reducible show wpAny _ _ (subscriptTail _ (PySem.Expr.Slice _ none none _) (Value.ref _) (Value.ref _)) _ _ _); k_dflt (refine tup_from (a := 1) (by k_asm) (by k_asm) (by walk_at "my spl") (by walk_at "my sep") (by k_mem) (by decide) (by exact Nat.le_of_ble_eq_true rfl) (by exact rfl) ?_ (by with_unfolding_all rfl) (by kmk_pure) (by exact Nat.le_of_ble_eq_true rfl)); walk_at "my new")
  exact trivial
theorem rxrp04_mac_20 : True := by
  k_with "my finl" => (refine pd_finL (by assumption) (by k_asm) (by k_asm) (by walk_at "my spl") (by walk_at "my sub") (by walk_at "my sub") (by walk_at "my sep") (by walk_at "my lt") ?_)
  exact trivial
theorem rxrp04_mac_21 : True := by
  k_with "my finT" => (refine pd_finT (by with_reducible assumption) (by k_asm) (by k_asm) (by walk_at "my spl") (by walk_at "my sub") (by walk_at "my sub") (by walk_at "my sep") (by walk_at "my lt") (by with_reducible assumption) (by with_reducible assumption) (by with_reducible assumption) ?_ ?_)
  exact trivial
theorem rxrp04_mac_ne7 : True := by
  k_with "my ne" => first | with_reducible assumption | (with_reducible refine Ne.symm ?_; with_reducible assumption) | (with_reducible refine Nat.ne_of_lt ?_; with_reducible assumption) | (with_reducible refine Nat.ne_of_gt ?_; with_reducible assumption)
  exact trivial
theorem rxrp04_mac_nen1 : True := by
  k_with "my nea" => first | exact Nat.ne_of_lt (And.left (by assumption)) | exact Nat.ne_of_gt (And.left (by assumption)) | exact Nat.ne_of_lt (And.left (And.right (by assumption))) | exact Nat.ne_of_gt (And.left (And.right (by assumption))) | exact Nat.ne_of_lt (And.left (And.right (And.right (by assumption)))) | exact Nat.ne_of_gt (And.left (And.right (And.right (by assumption)))) | exact Nat.ne_of_lt (And.left (And.right (And.right (And.right (by assumption))))) | exact Nat.ne_of_gt (And.left (And.right (And.right (And.right (by assumption))))) | exact Nat.ne_of_lt (And.left (And.right (And.right (And.right (And.right (by assumption)))))) | exact Nat.ne_of_gt (And.left (And.right (And.right (And.right (And.right (by assumption)))))) | exact Nat.ne_of_lt (And.left (And.right (And.right (And.right (And.right (And.right (by assumption))))))) | exact Nat.ne_of_gt (And.left (And.right (And.right (And.right (And.right (And.right (by assumption))))))) | exact Nat.ne_of_lt (And.left (And.right (And.right (And.right (And.right (And.right (And.right (by assumption)))))))) | exact Nat.ne_of_gt (And.left (And.right (And.right (And.right (And.right (And.right (And.right (by assumption)))))))) | exact Nat.ne_of_lt (And.left (And.right (And.right (And.right (And.right (And.right (And.right (And.right (by assumption))))))))) | exact Nat.ne_of_gt (And.left (And.right (And.right (And.right (And.right (And.right (And.right (And.right (by assumption))))))))) | exact Nat.ne_of_lt (And.left (And.right (And.right (And.right (And.right (And.right (And.right (And.right (And.right (by assumption)))))))))) | exact Nat.ne_of_gt (And.left (And.right (And.right (And.right (And.right (And.right (And.right (And.right (And.right (by assumption)))))))))) | exact Nat.ne_of_lt (And.left (And.right (And.right (And.right (And.right (And.right (And.right (And.right (And.right (And.right (by assumption))))))))))) | exact Nat.ne_of_gt (And.left (And.right (And.right (And.right (And.right (And.right (And.right (And.right (And.right (And.right (by assumption))))))))))) | exact Nat.ne_of_lt (And.left (And.right (And.right (And.right (And.right (And.right (And.right (And.right (And.right (And.right (And.right (by assumption)))))))))))) | exact Nat.ne_of_gt (And.left (And.right (And.right (And.right (And.right (And.right (And.right (And.right (And.right (And.right (And.right (by assumption))))))))))))
  exact trivial
theorem rxrp04_mac_nek2 : True := by
  k_with "my kne" => first | walk_at "my ne" | ((try dsimp only); walk_at "my ne") | walk_at "my nea"
  exact trivial
theorem rxrp04_p02_1 : True := by
  k_with "call ref" => (k_here; (with_reducible show wpAny _ _ (call (Value.ref 73) _) _ _ _); k_dflt (refine pure_useOC (by k_asm) (by k_asm) (by k_asm) (by k_asm) (by k_asm) (by first | exact rfl | assumption) (by walk_at "my spl") (by walk_at "my sep") (by exact rfl) (by walk_at "my all") (by walk_at "my room") (by walk_at "my units") (mask_ok _ _ (by omega) (by omega)) ?_); walk_at "my tail")
  exact trivial
theorem rxrp04_p02_2 : True := by
  k_with "call ref" => (k_here; (with_reducible show wpAny _ _ (call (Value.ref 81) _) _ _ _); k_dflt (refine pure_useOC (by k_asm) (by k_asm) (by k_asm) (by k_asm) (by k_asm) (by first | exact rfl | assumption) (by walk_at "my spl") (by walk_at "my sep") (by exact rfl) (by walk_at "my all") (by walk_at "my room") (by walk_at "my units") (vec_ok _ _ _ _ (by omega) (by omega)) ?_); walk_at "my tail")
  exact trivial
theorem rxrp04_p02_3 : True := by
  k_with "call ref" => (k_here; (with_reducible show wpAny _ _ (call (Value.ref 130) _) _ _ _); k_dflt (refine pure_useOC (by k_asm) (by k_asm) (by k_asm) (by k_asm) (by k_asm) (by first | exact rfl | assumption) (by walk_at "my spl") (by walk_at "my sep") (by exact rfl) (by walk_at "my all") (by walk_at "my room") (by walk_at "my units") (code_ok _ _ _ _ _ (by omega) (by omega)) ?_); walk_at "my tail")
  exact trivial
theorem rxrp04_p02_4 : True := by
  k_with "call ref" => (k_here; (with_reducible show wpAny _ _ (call (Value.ref 158) _) _ _ _); k_dflt (refine pure_useOC (by k_asm) (by k_asm) (by k_asm) (by k_asm) (by k_asm) (by first | exact rfl | assumption) (by walk_at "my spl") (by walk_at "my sep") (by exact rfl) (by walk_at "my all") (by walk_at "my room") (by walk_at "my units") (extend_ok _ _ _ _ _ _ (by walk_at "my num") (by walk_at "my num") (by walk_at "my num") (by walk_at "my num") (by walk_at "my num") (by walk_at "my num") (by walk_at "my num")) ?_); walk_at "my tail")
  exact trivial
theorem rxrp04_p02_5 : True := by
  k_with "call ref" => (k_here; (with_reducible show wpAny _ _ (call (Value.ref 158) _) _ _ _); k_dflt (refine pure_useOC (by k_asm) (by k_asm) (by k_asm) (by k_asm) (by k_asm) (by first | exact rfl | assumption) (by walk_at "my spl") (by walk_at "my sep") (by exact rfl) (by walk_at "my all") (by walk_at "my room") (by walk_at "my units") (extend_same_ok _ _ _ _ _ (by walk_at "my num") (by walk_at "my num") (by walk_at "my num") (by walk_at "my num") (by walk_at "my num") (by walk_at "my num")) ?_); walk_at "my tail")
  exact trivial
theorem rxrp04_p02_6 : True := by
  k_with "call ref" => (k_here; (with_reducible show wpAny _ _ (call (Value.ref 123) _) _ _ _); k_dflt (refine pure_useOC (by k_asm) (by k_asm) (by k_asm) (by k_asm) (by k_asm) (by first | exact rfl | assumption) (by walk_at "my spl") (by walk_at "my sep") (by exact rfl) (by walk_at "my all") (by walk_at "my room") (by walk_at "my units") (to_int_ok _ _ (by walk_at "my num") (by walk_at "my num")) ?_); walk_at "my tail")
  exact trivial
theorem rxrp04_p03_1 : True := by
  k_with "call ref" => (k_here; (with_reducible show wpAny _ _ (call (Value.ref 913) _) _ _ _); k_dflt (refine pure_useOC (by k_asm) (by k_asm) (by k_asm) (by k_asm) (by k_asm) (by first | exact rfl | assumption) (by walk_at "my spl") (by walk_at "my sep") (by exact rfl) (by walk_at "my all") (by walk_at "my room") (by walk_at "my units") (number_value_ok _ _ _ _ _ _ (by walk_at "my num") (by walk_at "my num") (by walk_at "my num") (by walk_at "my num") (by walk_at "my num") (by walk_at "my num") (by walk_at "my num")) ?_); walk_at "my tail")
  exact trivial
theorem rxrp04_p03_2 : True := by
  k_with "call ref" => (k_here; (with_reducible show wpAny _ _ (call (Value.ref 1039) _) _ _ _); k_dflt (refine pure_useOC (by k_asm) (by k_asm) (by k_asm) (by k_asm) (by k_asm) (by first | exact rfl | assumption) (by walk_at "my spl") (by walk_at "my sep") (by exact rfl) (by walk_at "my all") (by walk_at "my room") (by walk_at "my units") (expr_type_ok _ _ _ _ _ _ _ ) ?_); walk_at "my tail")
  exact trivial
theorem rxrp04_p03_3 : True := by
  k_with "call ref" => (k_here; (with_reducible show wpAny _ _ (call (Value.ref 1060) _) _ _ _); k_dflt (refine pure_useOC (by k_asm) (by k_asm) (by k_asm) (by k_asm) (by k_asm) (by first | exact rfl | assumption) (by walk_at "my spl") (by walk_at "my sep") (by exact rfl) (by walk_at "my all") (by walk_at "my room") (by walk_at "my units") (build_ok _ _ _ _ _ _ _ (by walk_at "my num") (by walk_at "my num") (by walk_at "my num") (by walk_at "my num") (by walk_at "my num") (by walk_at "my num") (by walk_at "my num")) ?_); walk_at "my tail")
  exact trivial
theorem rxrp04_p03_4 : True := by
  k_with "call ref" => (k_here; (with_reducible show wpAny _ _ (call (Value.ref 1067) _) _ _ _); k_dflt (refine pure_useOC (by k_asm) (by k_asm) (by k_asm) (by k_asm) (by k_asm) (by first | exact rfl | assumption) (by walk_at "my spl") (by walk_at "my sep") (by exact rfl) (by walk_at "my all") (by walk_at "my room") (by walk_at "my units") (self_determined_ok _ _ _ _ _ _ _ (by walk_at "my num") (by walk_at "my num") (by walk_at "my num") (by walk_at "my num") (by walk_at "my num") (by walk_at "my num") (by walk_at "my num")) ?_); walk_at "my tail")
  exact trivial
theorem rxrp04_p03_5 : True := by
  k_with "call ref" => (k_here; (with_reducible show wpAny _ _ (call (Value.ref 1081) _) _ _ _); k_dflt (refine pure_useOC (by k_asm) (by k_asm) (by k_asm) (by k_asm) (by k_asm) (by first | exact rfl | assumption) (by walk_at "my spl") (by walk_at "my sep") (by exact rfl) (by walk_at "my all") (by walk_at "my room") (by walk_at "my units") (constant_vec_ok _ _ _ _ _) ?_); walk_at "my tail")
  exact trivial
theorem rxrp04_p03_6 : True := by
  k_with "call ref" => (k_here; (with_reducible show wpAny _ _ (call (Value.ref 1088) _) _ _ _); k_dflt (refine pure_useOC (by k_asm) (by k_asm) (by k_asm) (by k_asm) (by k_asm) (by first | exact rfl | assumption) (by walk_at "my spl") (by walk_at "my sep") (by exact rfl) (by walk_at "my all") (by walk_at "my room") (by walk_at "my units") (constant_ok _ _ _ _ _ _ _ (by walk_at "my num") (by walk_at "my num") (by walk_at "my num") (by walk_at "my num") (by walk_at "my num") (by walk_at "my num") (by walk_at "my num")) ?_); walk_at "my tail")
  exact trivial
theorem rxrp04_p03_7 : True := by
  k_with "call ref" => (k_here; (with_reducible show wpAny _ _ (call (Value.ref 1095) _) _ _ _); k_dflt (refine pure_useOC (by k_asm) (by k_asm) (by k_asm) (by k_asm) (by k_asm) (by first | exact rfl | assumption) (by walk_at "my spl") (by walk_at "my sep") (by exact rfl) (by walk_at "my all") (by walk_at "my room") (by walk_at "my units") (whole_ok _ _ _ (by walk_at "my num") (by walk_at "my num")) ?_); walk_at "my tail")
  exact trivial
theorem rxrp04_p04_1 : True := by
  k_with "call ref" => (k_here; (with_reducible show wpAny _ _ (call (Value.ref 864) _) _ _ _); k_dflt (refine pure_useOC (by k_asm) (by k_asm) (by k_asm) (by k_asm) (by k_asm) (by first | exact rfl | assumption) (by walk_at "my spl") (by walk_at "my sep") (by exact rfl) (by walk_at "my all") (by walk_at "my room") (by walk_at "my units") (checked_width_ok _ _ _ (by walk_at "my num") (by walk_at "my num")) ?_); walk_at "my tail")
  exact trivial
theorem rxrp04_p04_2 : True := by
  k_with "call ref" => (k_here; (with_reducible show wpAny _ _ (call (Value.ref 1102) _) _ _ _); k_dflt (refine pure_useOC (by k_asm) (by k_asm) (by k_asm) (by k_asm) (by k_asm) (by first | exact rfl | assumption) (by walk_at "my spl") (by walk_at "my sep") (by exact rfl) (by walk_at "my all") (by walk_at "my room") (by walk_at "my units") (range_of_ok _ _ _ _ (by walk_at "my num") (by walk_at "my num") (by walk_at "my num") (by walk_at "my num")) ?_); walk_at "my tail")
  exact trivial

def RowIs (us : List Value) : Prop := ∃ ns, IntsAre us ns ∧ (∀ x ∈ ns, 0 ≤ x ∧ x < 1024) ∧ us.length ≤ 160
def NextPost (rw : Addr) (rest : Led) (r : Value) (nw : Led) : Prop := ∃ x t us n, r = .int x t ∧ 0 ≤ x ∧ x < 1024 ∧ RowIs us ∧ nw = (rw, W.listOf us.toArray n) :: rest
section
variable {prog : Program} {w : World} {A : Around} {E : Value → Shared → Prop} {s : Shared}
theorem ne_row_t {h₀ : Heap} {L : Addr} {X : Led} {n k : Nat} {a b : Addr} {us : List Value} {ns : List Int} {Q : Value → Shared → Prop} (N : News h₀ L s.heap X) (m1 : (a, W.listOf us.toArray n) ∈ X) (hi : IntsAre us ns) (m2 : (b, W.listOf #[] k) ∈ X) (hu : A.units + 64 < cLine) (hn : ns ≠ [])
    (h : Q (.bool true) s) : wpAny (model prog w) A (compareOp .NotEq (.ref a) (.ref b)) Q E s :=
  ne_intsK (News.isList N m1) hi (News.isList N m2) .nil hu (by rw [decide_eq_false hn]; exact h)
theorem ne_row_f {h₀ : Heap} {L : Addr} {X : Led} {n k : Nat} {a b : Addr} {us : List Value} {ns : List Int} {Q : Value → Shared → Prop} (N : News h₀ L s.heap X) (m1 : (a, W.listOf us.toArray n) ∈ X) (hi : IntsAre us ns) (m2 : (b, W.listOf #[] k) ∈ X) (hu : A.units + 64 < cLine) (hn : ns = [])
    (h : Q (.bool false) s) : wpAny (model prog w) A (compareOp .NotEq (.ref a) (.ref b)) Q E s :=
  ne_intsK (News.isList N m1) hi (News.isList N m2) .nil hu (by rw [decide_eq_true hn]; exact h)
end
theorem row_drop {us : List Value} {ns : List Int} (hI : IntsAre us.dropLast ns.dropLast) (hb : ∀ x ∈ ns, 0 ≤ x ∧ x < 1024) (hl : us.length ≤ 160) : RowIs us.dropLast :=
  ⟨_, hI, fun x hx => hb x (List.dropLast_subset _ hx), by rw [List.length_dropLast]; omega⟩
theorem row_last {ns : List Int} (hn : ns ≠ []) (hb : ∀ x ∈ ns, 0 ≤ x ∧ x < 1024) : 0 ≤ ns.getLastD 0 ∧ ns.getLastD 0 < 1024 := by
  have e : ns.getLastD 0 = ns.getLast hn := by
    cases ns with
    | nil => exact absurd rfl hn
    | cons a l => rw [List.getLastD_eq_getLast?, List.getLast?_eq_some_getLast (List.cons_ne_nil a l)]; rfl
  rw [e]
  exact hb _ (List.getLast_mem hn)
theorem rg_p05_1 : True := by
  k_with "my mem0" => first | with_reducible_and_instances exact List.Mem.head _ | (with_reducible_and_instances refine List.Mem.tail _ ?_; walk_at "my mem0")
  exact trivial
theorem rg_p05_2 : True := by
  k_with "compareOp NotEq ref ref" => (k_here; k_dflt (first | (refine ne_row_t (by k_asm) (by walk_at "my mem0") (by with_reducible assumption) (by walk_at "my mem0") (by walk_at "my units") (by with_reducible assumption) ?_) | (refine ne_row_f (by k_asm) (by walk_at "my mem0") (by with_reducible assumption) (by walk_at "my mem0") (by walk_at "my units") (by with_reducible assumption) ?_)))
  exact trivial
theorem rg_p05k_1 : True := by
  k_with "my kupd" => first | (exact Upd.head (by with_reducible assumption)) | (exact Upd.tail (by k_ne) (by k_upd))
  exact trivial
theorem news_tail {h₀ h : Heap} {L : Addr} {e : Addr × Obj} {X : Led} (N : News h₀ L h (e :: X)) : News h₀ L h X := fun p hp => N p (.tail _ hp)
theorem next_ok (w : World) (rw : Addr) (us : List Value) (n : Nat) (rest : Led) (hR : RowIs us) (hne : ∀ p ∈ rest, p.1 ≠ rw) : CallOk w 1320 6 300 [.ref rw] ((rw, W.listOf us.toArray n) :: rest) (NextPost rw rest) := by
  obtain ⟨ns, hI, hb, hl⟩ := hR
  unfold CallOk; intro prog p loose mean mg mb dp un gd cn cs ca ccd cl outer A₀ base h₀ L m s Q E B F X N T hk hd hu hret
  have hlen := IntsAre.length hI
  by_cases he : ns = []
  · walk_at "my enter"
    k_steps
    exact hret _ _ _ _ (by k_asm) (news_tail (by with_reducible assumption)) ⟨0, _, us, n, rfl, by decide, by decide, ⟨ns, hI, hb, hl⟩, rfl⟩
  · have h0 : 0 < us.length := by rw [hlen]; exact List.length_pos_iff.mpr he
    walk_at "my enter"
    k_steps
    exact hret _ _ _ _ (by k_asm) (news_tail (by with_reducible assumption)) ⟨_, _, _, _, rfl, (row_last he hb).1, (row_last he hb).2, row_drop (by with_reducible assumption) hb hl, rfl⟩

/-- an entry of a ledger brought to its head -/
inductive Front : Led → Addr × Obj → Led → Prop
  | head (e : Addr × Obj) (X : Led) : Front (e :: X) e X
  | tail {X : Led} {e : Addr × Obj} {R : Led} (a : Addr × Obj) : Front X e R → Front (a :: X) e (a :: R)
theorem Front.mem {X R : Led} {e : Addr × Obj} (h : Front X e R) : ∀ p ∈ e :: R, p ∈ X := by
  induction h with
  | head e X => exact fun _ h => h
  | tail a _ ih =>
    intro p hp
    rcases List.mem_cons.mp hp with rfl | hp
    · exact .tail _ (ih _ (.head _))
    · rcases List.mem_cons.mp hp with rfl | hp
      · exact .head _
      · exact .tail _ (ih _ (.tail _ hp))
section
variable {prog : Program} {w : World} {p : Program} {loose : List Str} {mean : ExcName → Option Value} {mg mb : Str → Option Value}
  {dp un : Nat} {gd : Option (List Code)} {cn : Str} {cs : PySem.Scope} {a : Addr} {ccd : Value} {cl : List (Str × Addr)} {outer : List Env} {A₀ : Around} {base h₀ : Heap} {L : Addr} {m : Str → Option Value} {s : Shared}
  {Q E : Value → Shared → Prop} {X rest : Led} {us : List Value} {n : Nat} {rw : Addr}
theorem next_use (hR : RowIs us) (B : Below A₀ base outer h₀) (F : Fr h₀ L s.heap m) (KX : (K w.params).In h₀) (N : News h₀ L s.heap X) (T : Top p loose mean mg mb h₀) (hk : cs.kind = .function)
    (hX : Front X (rw, W.listOf us.toArray n) rest) (hne : ∀ p ∈ rest, p.1 ≠ rw) (hd : dp + 6 < recursionLimit) (hu : un + 300 < cLine)
    (ret : ∀ x t us' n' h' tk', Fr h₀ L h' m → News h₀ L h' ((rw, W.listOf us'.toArray n') :: rest) → 0 ≤ x → x < 1024 → RowIs us' → Q (.int x t) { s with heap := h', toks := tk' }) :
    wpAny (model prog w) (ktrTop dp un gd cn cs L a ccd cl outer) (call (.ref 1320) [.ref rw]) Q E s := by
  refine next_ok w rw us n rest hR hne prog p loose mean mg mb dp un gd cn cs a ccd cl outer A₀ base h₀ L m s Q E B F KX (fun q hq => N q (hX.mem q hq)) T hk hd hu ?_
  rintro r h' tk' nw F' N' ⟨x, t, us', n', rfl, h1, h2, h3, rfl⟩
  exact ret x t us' n' h' tk' F' N' h1 h2 h3
end
theorem unr_front {h₀ : Heap} {L I : Addr} {it : Obj} {rest : (Str → Option Value) → Led → Prop} {s₁ : Shared} {h' : Heap} {tk : Nat} {m' : Str → Option Value} {X news' : Led} (F : Fr h₀ L h' m') (N : News h₀ L h' X)
    (hf : Front X (I, it) news') (off : ∀ p ∈ news', p.1 ≠ I) (r : rest m' news') : UnrEnd h₀ L s₁ I it rest { s₁ with heap := h', toks := tk } := UnrEnd.intro F N news' hf.mem off r
theorem allLt_ne {d : Addr} {l : Led} (h : AllLt d l) : ∀ p ∈ l, p.1 ≠ d := by
  induction l with
  | nil => intro p hp; exact nomatch hp
  | cons a l ih =>
    intro p hp
    rcases List.mem_cons.mp hp with e | hp
    · rw [e]; exact Nat.ne_of_lt h.1
    · exact ih h.2 p hp
theorem rg_p05_3 : True := by
  k_with "my front" => first | exact Front.head _ _ | exact Front.tail _ (Front.head _ _) | exact Front.tail _ (Front.tail _ (Front.head _ _)) | exact Front.tail _ (Front.tail _ (Front.tail _ (Front.head _ _))) | exact Front.tail _ (Front.tail _ (Front.tail _ (Front.tail _ (Front.head _ _)))) | exact Front.tail _ (Front.tail _ (Front.tail _ (Front.tail _ (Front.tail _ (Front.head _ _))))) | exact Front.tail _ (Front.tail _ (Front.tail _ (Front.tail _ (Front.tail _ (Front.tail _ (Front.head _ _)))))) | exact Front.tail _ (Front.tail _ (Front.tail _ (Front.tail _ (Front.tail _ (Front.tail _ (Front.tail _ (Front.head _ _))))))) | exact Front.tail _ (Front.tail _ (Front.tail _ (Front.tail _ (Front.tail _ (Front.tail _ (Front.tail _ (Front.tail _ (Front.head _ _)))))))) | exact Front.tail _ (Front.tail _ (Front.tail _ (Front.tail _ (Front.tail _ (Front.tail _ (Front.tail _ (Front.tail _ (Front.tail _ (Front.head _ _))))))))) | exact Front.tail _ (Front.tail _ (Front.tail _ (Front.tail _ (Front.tail _ (Front.tail _ (Front.tail _ (Front.tail _ (Front.tail _ (Front.tail _ (Front.head _ _)))))))))) | exact Front.tail _ (Front.tail _ (Front.tail _ (Front.tail _ (Front.tail _ (Front.tail _ (Front.tail _ (Front.tail _ (Front.tail _ (Front.tail _ (Front.tail _ (Front.head _ _))))))))))) | exact Front.tail _ (Front.tail _ (Front.tail _ (Front.tail _ (Front.tail _ (Front.tail _ (Front.tail _ (Front.tail _ (Front.tail _ (Front.tail _ (Front.tail _ (Front.tail _ (Front.head _ _)))))))))))) | exact Front.tail _ (Front.tail _ (Front.tail _ (Front.tail _ (Front.tail _ (Front.tail _ (Front.tail _ (Front.tail _ (Front.tail _ (Front.tail _ (Front.tail _ (Front.tail _ (Front.tail _ (Front.head _ _)))))))))))))
  exact trivial
theorem rg_p05_4 : True := by
  k_with "my alln" => first | with_reducible assumption | exact List.forall_mem_nil _ | (refine List.forall_mem_cons.mpr ⟨?_, ?_⟩; (case' refine_1 => k_ne); walk_at "my alln") | exact allLt_ne (by with_reducible assumption) | exact allLt_ne (And.right (by with_reducible assumption)) | exact allLt_ne (And.right (And.right (by with_reducible assumption))) | exact allLt_ne (And.right (And.right (And.right (by with_reducible assumption)))) | exact allLt_ne (And.right (And.right (And.right (And.right (by with_reducible assumption))))) | exact allLt_ne (And.right (And.right (And.right (And.right (And.right (by with_reducible assumption)))))) | exact allLt_ne (And.right (And.right (And.right (And.right (And.right (And.right (by with_reducible assumption))))))) | exact allLt_ne (And.right (And.right (And.right (And.right (And.right (And.right (And.right (by with_reducible assumption)))))))) | exact allLt_ne (And.right (And.right (And.right (And.right (And.right (And.right (And.right (And.right (by with_reducible assumption))))))))) | exact allLt_ne (And.right (And.right (And.right (And.right (And.right (And.right (And.right (And.right (And.right (by with_reducible assumption)))))))))) | exact allLt_ne (And.right (And.right (And.right (And.right (And.right (And.right (And.right (And.right (And.right (And.right (by with_reducible assumption))))))))))) | exact allLt_ne (And.right (And.right (And.right (And.right (And.right (And.right (And.right (And.right (And.right (And.right (And.right (by with_reducible assumption))))))))))))
  exact trivial
theorem rg_p05k_2 : True := by
  k_with "my kupd" => first | (exact Upd.head (by walk_at "my alln")) | (exact Upd.tail (by k_ne) (by k_upd))
  exact trivial
theorem rg_p05_5 : True := by
  k_with "call ref" => (k_here; (with_reducible show wpAny _ _ (call (Value.ref 1320) _) _ _ _); k_dflt (refine next_use (by with_reducible assumption) (by k_asm) (by k_asm) (by k_asm) (by k_asm) (by k_asm) (by first | exact rfl | assumption) (by walk_at "my front") (by walk_at "my alln") (by walk_at "my room") (by walk_at "my units") ?_); intro x'w t'w us'w n'w h'w tk'w F'w N'w hx0w hx1w hR'w; (try k_sweep))
  exact trivial
theorem rg_p05_6 : True := by
  k_with "UnrEnd" => (refine unr_front (by k_asm) (by k_asm) (by walk_at "my front") (by walk_at "my alln") ?_)
  exact trivial


theorem sep_addr {mt mt' im : Led} (S : Sep mt im) (h : mt'.map (·.1) = mt.map (·.1)) : Sep mt' im := fun p hp q hq => by
  have h1 : q.1 ∈ mt.map (·.1) := h ▸ List.mem_map_of_mem hq
  obtain ⟨q', h2, h3⟩ := List.mem_map.mp h1
  rw [← h3]
  exact S p hp q' h2
theorem off_addr {I : Addr} {mt mt' : Led} (S : ∀ p ∈ mt, p.1 ≠ I) (h : mt'.map (·.1) = mt.map (·.1)) : ∀ p ∈ mt', p.1 ≠ I := fun q hq => by
  have h1 : q.1 ∈ mt.map (·.1) := h ▸ List.mem_map_of_mem hq
  obtain ⟨q', h2, h3⟩ := List.mem_map.mp h1
  rw [← h3]
  exact S q' h2
theorem rg_p05a_1 : True := by
  k_with "my sep" => first | assumption | (exact sep_addr (by with_reducible assumption) (by exact rfl)) | exact Sep.nil | (refine Sep.cons ?_ ?_; (case' refine_1 => walk_at "my lt"); walk_at "my sep")
  exact trivial
/-- the end of a turn: mutable part, immutable part, the iterator beside them -/
def TEnd (h₀ : Heap) (L I : Addr) (oI : Obj) (src : Led) (Jn : (Str → Option Value) → Led → Led → Prop) (s₁ s₂ : Shared) : Prop :=
  ∃ h' tk m' mt' im', s₂ = { s₁ with heap := h', toks := tk } ∧ Fr h₀ L h' m' ∧ News h₀ L h' ((I, oI) :: (mt' ++ im')) ∧ Sep ((I, oI) :: mt') im' ∧ (∀ p ∈ mt', p.1 ≠ I) ∧ (∀ p ∈ src, p ∈ im') ∧ Jn m' mt' im'
def TPost (h₀ : Heap) (L I : Addr) (oI : Obj) (src : Led) (Jn : (Str → Option Value) → Led → Led → Prop) (s₁ : Shared) (Q : Flow → Shared → Prop) (f : Flow) (s₂ : Shared) : Prop :=
  match f with
  | .ret v => Q (.ret v) s₂
  | .brk => Q .next s₂
  | _ => TEnd h₀ L I oI src Jn s₁ s₂
section
variable {prog : Program} {w : World} {A : Around} {E : Value → Shared → Prop} {s : Shared} {env : Env} {h₀ : Heap} {target : PySem.Expr} {body : List Stmt} {Q : Flow → Shared → Prop}
/-- a turn's goal, shut: its copies are cheap -/
def TGoal (prog : Program) (w : World) (A : Around) (h₀ : Heap) (env : Env) (target : PySem.Expr) (body : List Stmt) (Q : Flow → Shared → Prop) (E : Value → Shared → Prop) (s : Shared) (src : Led) (J : (Str → Option Value) → Led → Led → Prop) (v : Value) (m : Str → Option Value) (mt im : Led) (h : Heap) (tk : Nat) (I : Addr) (oI : Obj) : Prop :=
  Fr h₀ env.locals h m → News h₀ env.locals h ((I, oI) :: (mt ++ im)) → Sep ((I, oI) :: mt) im → (∀ p ∈ mt, p.1 ≠ I) → (∀ p ∈ src, p ∈ im) →
    wpAny (model prog w) A (assign target env v) (fun _ s₃ => wpAny (model prog w) A (execs body env) (TPost h₀ env.locals I oI src J { s with heap := h, toks := tk } Q) E s₃) E { s with heap := h, toks := tk }
def DGoal (h₀ : Heap) (env : Env) (Q : Flow → Shared → Prop) (s : Shared) (m : Str → Option Value) (mt im : Led) (h : Heap) (tk : Nat) : Prop :=
  Fr h₀ env.locals h m → News h₀ env.locals h (mt ++ im) → Sep mt im → Q .next { s with heap := h, toks := tk }
abbrev TTurn (prog : Program) (w : World) (A : Around) (h₀ : Heap) (env : Env) (target : PySem.Expr) (body : List Stmt) (Q : Flow → Shared → Prop) (E : Value → Shared → Prop) (s : Shared) (src : Led) (n : Nat) (P : Nat → Value → Prop) (J : Nat → (Str → Option Value) → Led → Led → Prop) : Prop :=
  ∀ G : Nat → Value → (Str → Option Value) → Led → Led → Heap → Nat → Addr → Obj → Prop, (∀ {i v m mt im h tk I oI}, TGoal prog w A h₀ env target body Q E s src (J (i + 1)) v m mt im h tk I oI → G i v m mt im h tk I oI) → ∀ i v m mt im h tk I oI, i < n → P i v → J i m mt im → G i v m mt im h tk I oI
abbrev TDone (h₀ : Heap) (env : Env) (Q : Flow → Shared → Prop) (s : Shared) (n : Nat) (J : Nat → (Str → Option Value) → Led → Led → Prop) : Prop :=
  ∀ G : (Str → Option Value) → Led → Led → Heap → Nat → Prop, (∀ {m mt im h tk}, DGoal h₀ env Q s m mt im h tk → G m mt im h tk) → ∀ m mt im h tk, J n m mt im → G m mt im h tk
theorem turns_mt {I : Addr} {fp : List Addr} {n : Nat} {P : Nat → Value → Prop} {St : Nat → Heap → Prop} {m₀ : Str → Option Value} {mt im : Led} (src : Led) (J : Nat → (Str → Option Value) → Led → Led → Prop) (W : Walks prog w A I fp [I] n P St)
    (hfp : ∀ b ∈ fp, b = I ∨ ∃ o, (b, o) ∈ src) (hI : I ∈ fp) (hSt : ∀ i h, St i h → ∃ o, h.get? I = some o)
    (hgo : ∀ i v (s : Shared) (Q : Unit → Shared → Prop) (E : Value → Shared → Prop), St i s.heap → Q () s → wpAny (model prog w) A (letOwnedTupleGo target (.ref I) v) Q E s)
    (hIL : I ≠ env.locals) (hI₀ : h₀.get? I = none) (hnI : ∀ p ∈ mt ++ im, p.1 ≠ I) (hst : St 0 s.heap) (F : Fr h₀ env.locals s.heap m₀) (N : News h₀ env.locals s.heap (mt ++ im)) (S : Sep mt im) (hsrc : ∀ p ∈ src, p ∈ im) (hj : J 0 m₀ mt im)
    (turn : TTurn prog w A h₀ env target body Q E s src n P J) (done : TDone h₀ env Q s n J) : TurnsAt prog w A h₀ env target body Q E (.ref I) s := by
  refine ⟨I, fp, [I], n, _, _, St, m₀, mt ++ im, (fun i m nx => ∃ mt im, nx = mt ++ im ∧ Sep mt im ∧ (∀ p ∈ src, p ∈ im) ∧ J i m mt im), rfl, KTurns.ofWalks W hgo, ?_, ?_, ?_, hst, F, N, ⟨mt, im, rfl, S, hsrc, hj⟩, ?_, ?_⟩
  · intro hb
    rcases hfp _ hb with e | ⟨o, ho⟩
    · exact hIL e.symm
    · exact (N _ (List.mem_append.mpr (.inr (hsrc _ ho)))).2.1 rfl
  · intro b hb
    rw [List.mem_singleton.mp hb]; exact hI₀
  · intro p hp hb
    exact hnI p hp (List.mem_singleton.mp hb)
  · rintro i v m₁ news₁ h₁ tk₁ own hin hP hq1_9
    refine hold fun G9 hG9 => ?_
    obtain ⟨mt, im, rfl, S, hsrc, hJ⟩ := hq1_9
    refine hG9 ?_
    clear hG9
    intro hoff hown hget hmem hst₁ F₁ N₁
    obtain ⟨oI, hoI⟩ := hSt _ _ hst₁
    have hIown : (I, oI) ∈ own := hmem I hI hI₀ oI hoI
    have hne : ∀ p ∈ mt ++ im, p.1 ≠ I := fun p hp e => hoff p hp (List.mem_singleton.mpr e)
    have N₂ : News h₀ env.locals h₁ ((I, oI) :: (mt ++ im)) := fun p hp => by
      rcases List.mem_cons.mp hp with rfl | hp
      · exact N₁ _ (List.mem_append.mpr (.inl hIown))
      · exact N₁ _ (List.mem_append.mpr (.inr hp))
    have S₂ : Sep ((I, oI) :: mt) im := Sep.cons (fun p hp => hne p (List.mem_append.mpr (.inr hp))) S
    refine wpAny_mono (turn (fun i v m mt im h tk I oI => TGoal prog w A h₀ env target body Q E s src (J (i + 1)) v m mt im h tk I oI) (fun h => h) i v m₁ mt im h₁ tk₁ I oI hin hP hJ F₁ N₂ S₂ (fun p hp => hne p (List.mem_append.mpr (.inl hp))) hsrc) (fun _ s₃ h₃ => wpAny_mono h₃ (fun f s₄ p => ?_) fun _ _ e => e) fun _ _ e => e
    have fin : TEnd h₀ env.locals I oI src (J (i + 1)) { s with heap := h₁, toks := tk₁ } s₄ → LoopStepU h₀ env.locals [I] own (fun m nx => ∃ mt im, nx = mt ++ im ∧ Sep mt im ∧ (∀ p ∈ src, p ∈ im) ∧ J (i + 1) m mt im) { s with heap := h₁, toks := tk₁ } .next s₄ := by
      rintro ⟨h', tk, m', mt', im', e, F', N', S', hn', hs', hJ'⟩
      refine ⟨rfl, h', tk, m', mt' ++ im', e, F', fun p hp => ?_, fun p hp hb => ?_, mt', im', rfl, S'.tail, hs', hJ'⟩
      · rcases List.mem_append.mp hp with hp | hp
        · rcases hfp _ (hown p hp) with e1 | ⟨o, ho⟩
          · have h2 := hget p hp
            rw [e1, hoI] at h2
            have h3 : p = (I, oI) := Prod.ext e1 (Option.some.inj h2).symm
            rw [h3]; exact N' _ (.head _)
          · have h2 := hget p hp
            rw [(N₂ _ (.tail _ (List.mem_append.mpr (.inr (hsrc _ ho))))).1] at h2
            have h3 : p = (p.1, o) := Prod.ext rfl (Option.some.inj h2).symm
            rw [h3]; exact N' _ (.tail _ (List.mem_append.mpr (.inr (hs' _ ho))))
        · exact N' _ (.tail _ hp)
      · have e1 := List.mem_singleton.mp hb
        rcases List.mem_append.mp hp with hp | hp
        · exact hn' p hp e1
        · exact S'.head p hp e1
    cases f with
    | ret v => exact .ret p
    | brk => exact .brk p
    | next => exact .next (fin p)
    | cont => exact .cont (fin p)
  · rintro h' tk m' news' F' N' _ ⟨mt, im, rfl, S, _, hJ⟩
    exact done (fun m mt im h tk => DGoal h₀ env Q s m mt im h tk) (fun h => h) m' mt im h' tk hJ F' N' S
theorem size_ne {h : Heap} {L : Addr} {m : Str → Option Value} (F : Fr h₀ L h m) : h.objs.size ≠ L := Ne.symm (Nat.ne_of_lt F.ns.lt)
theorem tup_turns {l : Addr} {vs : List Value} {k : Nat} {m₀ : Str → Option Value} {mt im : Led} (JJ : (Str → Option Value) → Nat → (Str → Option Value) → Led → Led → Prop) (hh : A.handled = none) (hl : (l, tupO vs k) ∈ im) (F : Fr h₀ env.locals s.heap m₀) (N : News h₀ env.locals s.heap (mt ++ im)) (S : Sep mt im) (hj : JJ m₀ 0 m₀ mt im)
    (turn : TTurn prog w A h₀ env target body Q E s [(l, tupO vs k)] vs.length (fun i v => vs[i]? = some v) (JJ m₀)) (done : TDone h₀ env Q s vs.length (JJ m₀)) :
    wpAny (model prog w) A (pyIter (.ref l)) (fun it s₂ => TurnsAt prog w A h₀ env target body Q E it s₂) E s := by
  have hol := (N _ (List.mem_append.mpr (.inr hl))).1
  have hls : s.heap.IsTuple l vs.toArray := ⟨_, hol, rfl, k, rfl⟩
  have hne : l ≠ s.heap.objs.size := Nat.ne_of_lt (Heap.lt_size hol)
  refine wpAny_pyIter_tuple hls ?_
  have W := Walks.tuple (prog := prog) (w := w) hh s.heap.objs.size l hne vs.toArray
  have hlen : vs.toArray.size = vs.length := by simp
  rw [hlen] at W
  refine turns_mt [(l, tupO vs k)] (JJ m₀) W ?_ (.head _) (fun i h st => ⟨_, st.1.choose_spec.1⟩) (fun i v s' Q' E' st hQ' => letGo_tupleiter st.1 hQ') (size_ne F) (next_is_new F) (fun p hp => Nat.ne_of_lt (Heap.lt_size (N p hp).1))
    ⟨⟨_, Heap.get?_push_size _ rfl, rfl, rfl⟩, hls.at fun o e => Heap.get?_push_of_some _ e⟩ (F.push _) (fun p hp => ⟨Heap.get?_push_of_some _ (N p hp).1, (N p hp).2⟩) S (fun p hp => (List.mem_singleton.mp hp) ▸ hl) hj (fun G hG i v m mt im h tk I oI hin hP => turn G hG i v m mt im h tk I oI hin (by simpa using hP)) done
  intro b hb
  rcases List.mem_cons.mp hb with e | hb
  · exact .inl e
  · exact .inr ⟨_, by rw [List.mem_singleton.mp hb]; exact .head _⟩
theorem list_turns {l : Addr} {vs : List Value} {k : Nat} {m₀ : Str → Option Value} {mt im : Led} (JJ : (Str → Option Value) → Nat → (Str → Option Value) → Led → Led → Prop) (hh : A.handled = none) (hl : (l, W.listOf vs.toArray k) ∈ im) (F : Fr h₀ env.locals s.heap m₀) (N : News h₀ env.locals s.heap (mt ++ im)) (S : Sep mt im) (hj : JJ m₀ 0 m₀ mt im)
    (turn : TTurn prog w A h₀ env target body Q E s [(l, W.listOf vs.toArray k)] vs.length (fun i v => vs[i]? = some v) (JJ m₀)) (done : TDone h₀ env Q s vs.length (JJ m₀)) :
    wpAny (model prog w) A (pyIter (.ref l)) (fun it s₂ => TurnsAt prog w A h₀ env target body Q E it s₂) E s := by
  have hol := (N _ (List.mem_append.mpr (.inr hl))).1
  have hls : s.heap.IsList l vs.toArray := ⟨_, hol, rfl, k, rfl⟩
  have hne : l ≠ s.heap.objs.size := Nat.ne_of_lt (Heap.lt_size hol)
  refine wpAny_pyIter_list hls ?_
  have W := Walks.list (prog := prog) (w := w) hh s.heap.objs.size l hne vs.toArray
  have hlen : vs.toArray.size = vs.length := by simp
  rw [hlen] at W
  refine turns_mt [(l, PySem.W.listOf vs.toArray k)] (JJ m₀) W ?_ (.head _) (fun i h st => ⟨_, st.1.choose_spec.1⟩) (fun i v s' Q' E' st hQ' => letGo_listiter st.1 hQ') (size_ne F) (next_is_new F) (fun p hp => Nat.ne_of_lt (Heap.lt_size (N p hp).1))
    ⟨⟨_, Heap.get?_push_size _ rfl, rfl, rfl⟩, hls.at fun o e => Heap.get?_push_of_some _ e⟩ (F.push _) (fun p hp => ⟨Heap.get?_push_of_some _ (N p hp).1, (N p hp).2⟩) S (fun p hp => (List.mem_singleton.mp hp) ▸ hl) hj (fun G hG i v m mt im h tk I oI hin hP => turn G hG i v m mt im h tk I oI hin (by simpa using hP)) done
  intro b hb
  rcases List.mem_cons.mp hb with e | hb
  · exact .inl e
  · exact .inr ⟨_, by rw [List.mem_singleton.mp hb]; exact .head _⟩
theorem range_turns {x : Str} {px : Pos} {r : Addr} {a b c : Int} {t₀ u₀ v₀ : Tok} {n : Nat} {m₀ : Str → Option Value} {mt im : Led} (JJ : (Str → Option Value) → Nat → (Str → Option Value) → Led → Led → Prop) (hh : A.handled = none) (hr : IsRange s.heap r a b c t₀ u₀ v₀) (hsmall : Builtin.Range.small a b c = true) (hn : Builtin.Range.rangeSize a b c = (n : Int))
    (F : Fr h₀ env.locals s.heap m₀) (N : News h₀ env.locals s.heap (mt ++ im)) (S : Sep mt im) (hj : JJ m₀ 0 m₀ mt im)
    (turn : TTurn prog w A h₀ env (.Name x px) body Q E s [] n (fun i v => ∃ t, v = .int (a + i * c) t) (JJ m₀)) (done : TDone h₀ env Q s n (JJ m₀)) :
    wpAny (model prog w) A (pyIter (.ref r)) (fun it s₂ => TurnsAt prog w A h₀ env (.Name x px) body Q E it s₂) E s := by
  refine wpAny_pyIter_range hr hsmall ?_
  have W := Walks.range (prog := prog) (w := w) hh s.heap.objs.size a c n
  refine turns_mt [] (JJ m₀) W (fun b hb => .inl (List.mem_singleton.mp hb)) (.head _) (fun i h st => ⟨_, st⟩) (fun i v s' Q' E' st hQ' => wpAny_pure hQ') (size_ne F) (next_is_new F) (fun p hp => Nat.ne_of_lt (Heap.lt_size (N p hp).1))
    (by show IsRangeIter _ _ _ _ _; rw [hn]; simpa using Heap.get?_push_size _ rfl) (F.push _) (fun p hp => ⟨Heap.get?_push_of_some _ (N p hp).1, (N p hp).2⟩) S (fun p hp => nomatch hp) hj turn done
end


/-- what a frame holds: the names ps, all else but the names ch as in m₀ -/
def Kept (m m₀ : Str → Option Value) (ps : List (Str × Value)) (ch : List Str) : Prop := (∀ p ∈ ps, m p.1 = some p.2) ∧ ∀ z, z ∉ ch → m z = m₀ z
def ovr (f : Str → Option Value) : List (Str × Value) → Str → Option Value
  | [], z => f z
  | p :: ps, z => if z = p.1 then some p.2 else ovr f ps z
theorem ovr_eq {m f : Str → Option Value} : ∀ {ps : List (Str × Value)}, (∀ p ∈ ps, m p.1 = some p.2) → (∀ z, f z = m z) → ∀ z, ovr f ps z = m z
  | [], _, h, z => h z
  | p :: ps, h1, h2, z => by
    unfold ovr
    split
    · rename_i e; rw [e]; exact (h1 p (.head _)).symm
    · exact ovr_eq (fun q hq => h1 q (.tail _ hq)) h2 z
theorem Kept.fr {h₀ h : Heap} {L : Addr} {m m₀ : Str → Option Value} {ps : List (Str × Value)} {ch : List Str} (k : Kept m m₀ ps ch) (F : Fr h₀ L h m) : Fr h₀ L h (fun z => ovr (fun z => if ch.contains z then m z else m₀ z) ps z) := by
  have e : (fun z => ovr (fun z => if ch.contains z then m z else m₀ z) ps z) = m := funext fun z => ovr_eq k.1 (fun z => by
    by_cases hz : z ∈ ch
    · rw [if_pos (by simpa using hz)]
    · rw [if_neg (by simpa using hz), k.2 z hz]) z
  rw [e]; exact F
/-- all else as before: by the names that were stored -/
def KeptZ (m m₀ : Str → Option Value) (ch : List Str) : Prop := ∀ z, z ∉ ch → m z = m₀ z
theorem Kept.of {m m₀ : Str → Option Value} {ps : List (Str × Value)} {ch : List Str} (h1 : ∀ p ∈ ps, m p.1 = some p.2) (h2 : KeptZ m m₀ ch) : Kept m m₀ ps ch := ⟨h1, h2⟩
theorem KeptZ.same {m : Str → Option Value} {ch : List Str} : KeptZ m m ch := fun _ _ => rfl
theorem KeptZ.set {m m₀ : Str → Option Value} {x : Str} {v : Value} {ch : List Str} (hx : x ∈ ch) (h : KeptZ m m₀ ch) : KeptZ (fun y => if y = x then some v else m y) m₀ ch := fun z hz => by
  show (if z = x then some v else m z) = m₀ z
  rw [if_neg (show ¬ z = x from fun e => hz (e.symm ▸ hx))]
  exact h z hz
theorem ovr_off {f : Str → Option Value} {ch : List Str} : ∀ {ps : List (Str × Value)}, (∀ p ∈ ps, p.1 ∈ ch) → ∀ {z}, z ∉ ch → ovr f ps z = f z
  | [], _, _, _ => rfl
  | p :: ps, h, z, hz => by
    unfold ovr
    rw [if_neg (show ¬ z = p.1 from fun e => hz (e.symm ▸ h p (.head _)))]
    exact ovr_off (fun q hq => h q (.tail _ hq)) hz
theorem names_cons {x : Str} {v : Value} {ps : List (Str × Value)} {ch : List Str} (h : x ∈ ch) (h2 : ∀ p ∈ ps, p.1 ∈ ch) : ∀ p ∈ (x, v) :: ps, p.1 ∈ ch := List.forall_mem_cons.mpr ⟨h, h2⟩
theorem names_cons1 {x : Str} {c ch : List Str} (h : x ∈ ch) (h2 : ∀ p ∈ c, p ∈ ch) : ∀ p ∈ x :: c, p ∈ ch := List.forall_mem_cons.mpr ⟨h, h2⟩
theorem kept_cons {m : Str → Option Value} {x : Str} {v : Value} {ps : List (Str × Value)} (h : m x = some v) (h2 : ∀ p ∈ ps, m p.1 = some p.2) : ∀ p ∈ (x, v) :: ps, m p.1 = some p.2 := List.forall_mem_cons.mpr ⟨h, h2⟩
theorem KeptZ.ovr {m m1 m₀ : Str → Option Value} {ps : List (Str × Value)} {ch1 ch : List Str} (hp : ∀ p ∈ ps, p.1 ∈ ch) (hc : ∀ x ∈ ch1, x ∈ ch) (h : KeptZ m1 m₀ ch) : KeptZ (fun z => PyLaw.ovr (fun z => if ch1.contains z then m z else m1 z) ps z) m₀ ch := fun z hz => by
  show PyLaw.ovr _ ps z = m₀ z
  rw [ovr_off hp hz, if_neg fun e => hz (hc z (by simpa using e))]
  exact h z hz
theorem tend {h₀ h' : Heap} {L I : Addr} {oI : Obj} {src : Led} {Jn : (Str → Option Value) → Led → Led → Prop} {s₁ : Shared} {tk : Nat} {m' : Str → Option Value} {X mt' im' : Led} (F : Fr h₀ L h' m') (N : News h₀ L h' X) (hX : Spl X ((I, oI) :: mt') im') (S : Sep ((I, oI) :: mt') im') (hI : ∀ p ∈ mt', p.1 ≠ I) (hs : ∀ p ∈ src, p ∈ im') (hJ : Jn m' mt' im') :
    TEnd h₀ L I oI src Jn s₁ { s₁ with heap := h', toks := tk } := by
  have e := hX.eq
  subst e
  exact ⟨h', tk, m', mt', im', rfl, F, N, S, hI, hs, hJ⟩
theorem src1 {e : Addr × Obj} {im : Led} (h : e ∈ im) : ∀ p ∈ [e], p ∈ im := fun p hp => (List.mem_singleton.mp hp) ▸ h
theorem rg_p05b_1 : True := by
  k_with "pyIter ref" => (k_here; (with_reducible show wpAny _ _ (pyIter (Value.ref _)) (fun it s₂ => TurnsAt _ _ _ _ _ _ _ _ _ it s₂) _ _); refine stop_here ?_)
  exact trivial
theorem rg_p05b_2 : True := by
  k_with "my for" => (k_here; (rename Fr _ _ _ _ => lF'w); k_dflt (refine' For_turns lF'w ?_))
  exact trivial
theorem rg_p05b_3 : True := by
  k_with "exec For Tuple Name cons nil" => walk_at "my for"
  exact trivial
theorem rg_p05b_4 : True := by
  k_with "my kept1" => first | exact List.forall_mem_nil _ | (refine List.forall_mem_cons.mpr ⟨rfl, ?_⟩; walk_at "my kept1")
  exact trivial
theorem rg_p05b_5 : True := by
  k_with "my kname" => first | with_reducible_and_instances exact List.Mem.head _ | (with_reducible_and_instances refine List.Mem.tail _ ?_; walk_at "my kname")
  exact trivial
theorem rg_p05b_5a : True := by
  k_with "my knames" => first | exact List.forall_mem_nil _ | (with_reducible refine names_cons1 ?_ ?_; (case' refine_1 => walk_at "my kname"); walk_at "my knames") | (with_reducible refine names_cons ?_ ?_; (case' refine_1 => walk_at "my kname"); walk_at "my knames")
  exact trivial
theorem rg_p05b_5b : True := by
  k_with "my keptz" => first | with_reducible exact KeptZ.same | (with_reducible refine KeptZ.ovr ?_ ?_ ?_; (case' refine_1 => walk_at "my knames"); (case' refine_2 => walk_at "my knames"); walk_at "my keptz") | (with_reducible refine KeptZ.set ?_ ?_; (case' refine_1 => walk_at "my kname"); walk_at "my keptz") | (intro z9w hz9w; simp only [List.mem_cons, List.not_mem_nil, or_false, not_or] at hz9w; simp only [hz9w, if_false, ovr, List.contains_eq_mem, List.mem_cons, List.not_mem_nil, or_self, decide_false, Bool.false_eq_true]; (try exact rfl); walk_say "KEPT BY SIMP")
  exact trivial
theorem rg_p05b_5c : True := by
  k_with "my kept" => (refine Kept.of ?_ ?_; (case' refine_1 => walk_at "my kept1"); (case' refine_2 => walk_at "my keptz"))
  exact trivial
theorem rg_p05b_6 : True := by
  k_with "my tend" => (refine tend (by k_asm) (by k_asm) (by walk_at "my spl") (by walk_at "my sep") (by first | with_reducible assumption | assumption | (exact off_addr (by with_reducible assumption) (by exact rfl))) (by first | exact List.forall_mem_nil _ | (refine src1 ?_; walk_at "my mem")) ?_)
  exact trivial


theorem fdiv5 {a b : Int} (h : a / 5 = b) : a.fdiv 5 = b := by rw [Int.fdiv_eq_ediv_of_nonneg _ (by decide)]; exact h
def BitsIs (vs : List Value) (wide : Int) : Prop := ∃ bs, IntsAre vs bs ∧ (bs.length : Int) = wide ∧ ∀ b ∈ bs, 0 ≤ b ∧ b < 4
theorem fm4 (x : Int) : 0 ≤ x.fmod 4 ∧ x.fmod 4 < 4 := by
  rw [Int.fmod_eq_emod_of_nonneg _ (by decide)]; omega
def BitsPost (rw : Addr) (rest : Led) (wide : Int) (r : Value) (nw : Led) : Prop := ∃ q vs k us n, r = .ref q ∧ BitsIs vs wide ∧ RowIs us ∧ nw = (q, W.listOf vs.toArray k) :: (rw, W.listOf us.toArray n) :: rest ∧ rw < q ∧ AllLt q rest
theorem bits_out2 {rw D : Addr} {rest : Led} {wide : Int} {ws us : List Value} {bs : List Int} {n : Nat} (hI : IntsAre ws (List.take wide.toNat bs)) (hb : ∀ x ∈ bs, 0 ≤ x ∧ x < 4) (hw : 1 ≤ wide) (hl : wide ≤ bs.length) (hR : RowIs us) (h1 : rw < D) (h2 : AllLt D rest) :
    BitsPost rw rest wide (.ref D) ((D, W.listOf ws.toArray 0) :: (rw, W.listOf us.toArray n) :: rest) :=
  ⟨D, ws, 0, us, n, rfl, ⟨_, hI, by rw [List.length_take]; omega, fun b h => hb b (List.mem_of_mem_take h)⟩, hR, rfl, h1, h2⟩
theorem turns_small {b : Int} (h0 : 0 ≤ b) (h : b ≤ 1000) : Builtin.Range.small 0 b 1 = true := small_one (by decide) (by decide) (by omega) (by omega)
theorem turns_size {b : Int} (h : 0 ≤ b) : Builtin.Range.rangeSize 0 b 1 = (b.toNat : Int) := by
  unfold Builtin.Range.rangeSize
  split <;> split <;> omega
section
variable {prog : Program} {w : World} {A : Around} {E : Value → Shared → Prop} {s : Shared} {env : Env} {h₀ : Heap} {x : Str} {body : List Stmt} {Q : Flow → Shared → Prop}
/-- a loop over a range by what holds of the ledger after j turns; the names in `stored` are forgotten -/
theorem inv_end {L : Addr} {J : (Str → Option Value) → Led → Prop} {own : Led} {adr : List Addr} {s₁ : Shared} {h' : Heap} {tk : Nat} {m' : Str → Option Value} {news' nx : Led} (F : Fr h₀ L h' m') (N : News h₀ L h' news') (h1 : ∀ p ∈ nx, p ∈ news') (h2 : ∀ p ∈ own, p ∈ news')
    (h3 : nx.map (·.1) = adr) (h4 : J m' nx) : InvEndN h₀ L J own adr s₁ { s₁ with heap := h', toks := tk } := ⟨h', tk, m', news', nx, rfl, F, N, h1, h2, h3, h4⟩
end
def WideOk (wide : Int) : Prop := 1 ≤ wide ∧ wide ≤ 12
theorem fd_nn {wide : Int} (h : 1 ≤ wide) : 0 ≤ (wide + 4).fdiv 5 := by rw [Int.fdiv_eq_ediv_of_nonneg _ (by decide)]; omega
theorem fd_le {wide : Int} (h : wide ≤ 12) : (wide + 4).fdiv 5 ≤ 3 := by rw [Int.fdiv_eq_ediv_of_nonneg _ (by decide)]; omega
theorem wide3 {wide : Int} (h : WideOk wide) : ((wide + 4).fdiv 5).toNat ≤ 3 := Int.toNat_le.mpr (fd_le h.2)
theorem fd_le2 {wide : Int} (h : WideOk wide) : (wide + 4).fdiv 5 ≤ 1000 := Int.le_trans (fd_le h.2) (by decide)
theorem wide_fit {wide : Int} {n : Nat} (h : n = 5 * ((wide + 4).fdiv 5).toNat) : wide ≤ n := by
  subst h; rw [Int.fdiv_eq_ediv_of_nonneg _ (by decide)]; omega
theorem turn_len {a b i q : Nat} (e : a = b) (hl : b = 5 * i) (hi : i ≤ q) (hq : q ≤ 3) : a ≤ 5000 := by omega
theorem turn_len2 {a b i j q : Nat} (e : a = b) (hl : b = 5 * i + j) (hi : i < q) (hj : j < 5) (hq : q ≤ 3) : a ≤ 6000 := by omega
theorem size_ok {vs : List Value} (h : vs.length ≤ 5000) : vs.toArray.size ≤ sizeLine := by rw [sizeLine_eq, List.size_toArray]; exact Nat.le_trans h (by decide)
theorem turn_next {n i j : Nat} (h : n = 5 * i + j) : n + 1 = 5 * i + (j + 1) := by rw [h]; rfl
theorem ints_snoc {vs : List Value} {ns : List Int} (h : IntsAre vs ns) (a : Int) (t : Tok) : IntsAre (vs ++ [.int a t]) (ns ++ [a]) := by
  induction h with
  | nil => exact .cons a t .nil
  | cons n t' _ ih => exact .cons n t' ih
theorem in_snoc {ns : List Int} {a : Int} (h : ∀ b ∈ ns, 0 ≤ b ∧ b < 4) (ha : 0 ≤ a ∧ a < 4) : ∀ b ∈ ns ++ [a], 0 ≤ b ∧ b < 4 := fun b hb => by
  rcases List.mem_append.mp hb with hb | hb
  · exact h b hb
  · rw [List.mem_singleton.mp hb]; exact ha
theorem news_skip {h₀ h : Heap} {L : Addr} {a b : Addr × Obj} {X : Led} (N : News h₀ L h (a :: b :: X)) : News h₀ L h (a :: X) := fun p hp => N p (by
  rcases List.mem_cons.mp hp with rfl | hp
  · exact .head _
  · exact .tail _ (.tail _ hp))
theorem news_rot {h₀ h : Heap} {L : Addr} {a b c : Addr × Obj} {X : Led} (N : News h₀ L h (a :: b :: c :: X)) : News h₀ L h (b :: c :: a :: X) :=
  List.forall_mem_cons.mpr ⟨N b (.tail _ (.head _)), List.forall_mem_cons.mpr ⟨N c (.tail _ (.tail _ (.head _))), List.forall_mem_cons.mpr ⟨N a (.head _), fun p hp => N p (.tail _ (.tail _ (.tail _ hp)))⟩⟩⟩
theorem push_cons {D : Addr} {us : List Value} {v : Value} {k : Nat} {mt : Led} : (D, W.listOf (us.toArray.push v) k) :: mt = (D, W.listOf (us ++ [v]).toArray k) :: mt := by rw [List.push_toArray]
theorem int_all {n : Int} {P : Value → Prop} (k : ∀ t, P (.int n t)) : ∀ v, (∃ t, v = .int n t) → P v := fun v ⟨t, e⟩ => e ▸ k t
inductive BitsJ (rw q : Addr) (rest : Led) (m0 : Str → Option Value) (i : Nat) (m1 : Str → Option Value) : Led → Led → Prop
  | mk (us vs : List Value) (bs : List Int) (k n : Nat) (hR : RowIs us) (hI : IntsAre vs bs) (hl : bs.length = 5 * i) (hb : ∀ b ∈ bs, 0 ≤ b ∧ b < 4) (kp : Kept m1 m0 [] [Str.ofString "turn", Str.ofString "number", Str.ofString "step"]) :
    BitsJ rw q rest m0 i m1 [(q, W.listOf vs.toArray k), (rw, W.listOf us.toArray n)] rest
inductive TurnJ (e1 e2 : Addr × Obj) (q : Addr) (rest : Led) (i : Nat) (m0 : Str → Option Value) (j : Nat) (m1 : Str → Option Value) : Led → Led → Prop
  | mk (vs : List Value) (bs : List Int) (k : Nat) (x : Int) (t : Tok) (hI : IntsAre vs bs) (hl : bs.length = 5 * i + j) (hb : ∀ b ∈ bs, 0 ≤ b ∧ b < 4) (kp : Kept m1 m0 [(Str.ofString "number", .int x t)] [Str.ofString "number", Str.ofString "step"]) :
    TurnJ e1 e2 q rest i m0 j m1 [e1, e2, (q, W.listOf vs.toArray k)] rest
theorem BitsJ.all {rw q : Addr} {rest : Led} {m0 m1 : Str → Option Value} {i : Nat} {P : Led → Led → Prop} (k : ∀ us vs bs k n, RowIs us → IntsAre vs bs → bs.length = 5 * i → (∀ b ∈ bs, 0 ≤ b ∧ b < 4) → Kept m1 m0 [] [Str.ofString "turn", Str.ofString "number", Str.ofString "step"] → P [(q, W.listOf vs.toArray k), (rw, W.listOf us.toArray n)] rest) : ∀ mt im, BitsJ rw q rest m0 i m1 mt im → P mt im
  | _, _, .mk us vs bs a n hR hI hl hb kp => k us vs bs a n hR hI hl hb kp
theorem TurnJ.all {e1 e2 : Addr × Obj} {q : Addr} {rest : Led} {i j : Nat} {m0 m1 : Str → Option Value} {P : Led → Led → Prop} (k : ∀ vs bs k x t, IntsAre vs bs → bs.length = 5 * i + j → (∀ b ∈ bs, 0 ≤ b ∧ b < 4) → Kept m1 m0 [(Str.ofString "number", .int x t)] [Str.ofString "number", Str.ofString "step"] → P [e1, e2, (q, W.listOf vs.toArray k)] rest) : ∀ mt im, TurnJ e1 e2 q rest i m0 j m1 mt im → P mt im
  | _, _, .mk vs bs a x t hI hl hb kp => k vs bs a x t hI hl hb kp
theorem TurnJ.push {e1 e2 : Addr × Obj} {q : Addr} {rest : Led} {i j : Nat} {m0 m1 : Str → Option Value} {vs : List Value} {bs : List Int} {k : Nat} {x y : Int} {t u : Tok} (hI : IntsAre vs bs) (hl : bs.length = 5 * i + j) (hb : ∀ b ∈ bs, 0 ≤ b ∧ b < 4) (kp : Kept m1 m0 [(Str.ofString "number", .int x t)] [Str.ofString "number", Str.ofString "step"]) :
    TurnJ e1 e2 q rest i m0 (j + 1) m1 [e1, e2, (q, W.listOf (vs.toArray.push (.int (y.fmod 4) u)) k)] rest := by
  rw [List.push_toArray]
  exact .mk _ _ _ _ _ (ints_snoc hI _ _) (by rw [List.length_append]; exact turn_next hl) (in_snoc hb (fm4 _)) kp
theorem bits_ok (w : World) (rw : Addr) (us : List Value) (n : Nat) (rest : Led) (wide : Int) (t : Tok) (hR : RowIs us) (hne : ∀ p ∈ rest, p.1 ≠ rw) (hw : WideOk wide) : CallOk w 1327 12 500 [.ref rw, .int wide t] ((rw, W.listOf us.toArray n) :: rest) (BitsPost rw rest wide) := by
  unfold CallOk; intro prog p loose mean mg mb dp un gd cn cs ca ccd cl outer A₀ base h₀ L m s Q E B F X N T hk hd hu hret
  walk_at "my enter"
  k_with "exec For Name Call cons nil" => walk_at "my for"
  k_steps
  unfold StopHere
  (with_reducible rename IsRange _ _ _ _ _ _ _ _ => rg9)
  (with_reducible rename News _ _ _ (_ :: _ :: _) => N4)
  (with_reducible rename _ ∧ AllLt _ _ => lq4)
  rename_i q _ _ _ _ _ _ _ _ _ _ _
  have hq1 : @LT.lt Nat _ rw q := lq4.1
  have hqn : @Ne Nat q rw := Nat.ne_of_gt hq1
  have hqr : ∀ p ∈ rest, p.1 ≠ q := allLt_ne lq4.2
  refine range_turns (mt := [(q, W.listOf #[] 0), (rw, W.listOf us.toArray n)]) (im := rest) (BitsJ rw q rest) rfl rg9 (turns_small (fd_nn hw.1) (fd_le2 hw)) (turns_size (fd_nn hw.1)) (by k_asm) N4 (Sep.cons hqr (Sep.cons hne Sep.nil)) (.mk us [] [] _ _ hR .nil rfl (List.forall_mem_nil _) (by walk_at "my kept")) ?bT ?bD
  case bT =>
    intro G9 hG9 i9 v9 m9 mt9 im9 h9 tk9 I9 oI9 hi9 hv9 hJ9
    revert v9 hv9
    refine int_all fun tv9 => ?_
    revert mt9 im9
    refine BitsJ.all fun us9 vs9 bs9 k9 n9 hR9 hI9 hl9 hb9 kp9 => ?_
    have hz9 : vs9.length ≤ 5000 := turn_len hI9.length hl9 (Nat.le_of_lt hi9) (wide3 hw)
    refine hG9 ?_
    clear hG9
    intro F9 N9 S9 hO9 hr9
    have F8 := kp9.fr F9
    have N7 : News _ _ h9 ((I9, oI9) :: (q, W.listOf vs9.toArray k9) :: (rw, W.listOf us9.toArray n9) :: rest) := N9
    have hO1 : @Ne Nat q I9 := hO9 _ (.head _)
    have hO2 : @Ne Nat rw I9 := hO9 _ (.tail _ (.head _))
    have S8 := S9.head
    clear F9 N9 N4 rg9
    k_steps
    unfold StopHere
    (with_reducible rename IsRange _ _ _ _ _ _ _ _ => rg8)
    (with_reducible rename News _ _ _ ((_, _) :: (_, _) :: _) => N6)
    (with_reducible rename RowIs _ => hR8)
    refine range_turns (mt := [(rw, W.listOf us'w.toArray n'w), (I9, oI9), (q, W.listOf vs9.toArray k9)]) (im := rest) (TurnJ (rw, W.listOf us'w.toArray n'w) (I9, oI9) q rest i9) rfl rg8 (turns_small (by decide) (by decide)) (turns_size (by decide)) (by k_asm) N6 (Sep.cons S9.tail.tail.head (Sep.cons S9.head (Sep.cons S9.tail.head Sep.nil))) (.mk vs9 bs9 _ _ _ hI9 hl9 hb9 (by walk_at "my kept")) ?iT ?iD
    case iT =>
      intro G8 hG8 j8 v8 m8 mt8 im8 h8 tk8 I8 oI8 hj8 hv8 hJ8
      revert v8 hv8
      refine int_all fun tv8 => ?_
      revert mt8 im8
      refine TurnJ.all fun vs8 bs8 k8 x8 t8 hI8 hl8 hb8 kp8 => ?_
      have hz8 : vs8.length ≤ 6000 := turn_len2 hI8.length hl8 hi9 hj8 (wide3 hw)
      refine hG8 ?_
      clear hG8
      intro F7 N8 S8 hO8 hr8
      have F6 := kp8.fr F7
      have N5 : News _ _ h8 ((I8, oI8) :: (rw, W.listOf us'w.toArray n'w) :: (I9, oI9) :: (q, W.listOf vs8.toArray k8) :: rest) := N8
      have hO3 : @Ne Nat rw I8 := hO8 _ (.head _)
      have hO4 : @Ne Nat I9 I8 := hO8 _ (.tail _ (.head _))
      have hO5 : @Ne Nat q I8 := hO8 _ (.tail _ (.tail _ (.head _)))
      have S7 := S8.head
      have S6 := S8.tail.tail.head
      clear F7 N8 N6 rg8
      k_steps
      show TEnd _ _ _ _ _ _ _ _
      (with_reducible rename News _ _ _ ((_, _) :: (_, _) :: (_, _) :: _) => N3)
      refine tend (mt' := [(rw, _), (I9, oI9), (q, _)]) (im' := rest) (by k_asm) N3 (Spl.cons (Spl.cons (Spl.cons (Spl.cons (Spl.base [] rest))))) (sep_addr S8 rfl) (off_addr hO8 rfl) (List.forall_mem_nil _) ?_
      exact TurnJ.push hI8 hl8 hb8 (by walk_at "my kept")
    case iD =>
      intro G8 hG8 m8 mt8 im8 h8 tk8 hJ8
      revert mt8 im8
      refine TurnJ.all fun vs8 bs8 k8 x8 t8 hI8 hl8 hb8 kp8 => ?_
      refine hG8 ?_
      clear hG8
      intro F7 N8 S8
      have F6 := kp8.fr F7
      have N5 : News _ _ h8 ((rw, W.listOf us'w.toArray n'w) :: (I9, oI9) :: (q, W.listOf vs8.toArray k8) :: rest) := N8
      clear F7 N8 N6
      k_steps
      show TEnd _ _ _ _ _ _ _ _
      exact ⟨_, _, _, [(q, W.listOf vs8.toArray k8), (rw, W.listOf us'w.toArray n'w)], rest, rfl, (by k_asm), news_rot N5, Sep.cons S9.head (Sep.cons S9.tail.head (Sep.cons S9.tail.tail.head Sep.nil)), (List.forall_mem_cons.mpr ⟨hO1, List.forall_mem_cons.mpr ⟨hO2, List.forall_mem_nil _⟩⟩), List.forall_mem_nil _, BitsJ.mk us'w vs8 bs8 _ _ hR8 hI8 (by rw [hl8]; rfl) hb8 (by walk_at "my kept")⟩
  case bD =>
    intro G9 hG9 m9 mt9 im9 h9 tk9 hJ9
    revert mt9 im9
    refine BitsJ.all fun us9 vs9 bs9 k9 n9 hR9 hI9 hl9 hb9 kp9 => ?_
    have hs9 : vs9.length ≤ 5000 := turn_len hI9.length hl9 (Nat.le_refl _) (wide3 hw)
    have hz9 : vs9.toArray.size ≤ sizeLine := size_ok hs9
    have hw1 : 1 ≤ wide := hw.1
    refine hG9 ?_
    clear hG9
    intro F9 N9 S9
    have F8 := kp9.fr F9
    have N7 : News _ _ h9 ((q, W.listOf vs9.toArray k9) :: (rw, W.listOf us9.toArray n9) :: rest) := N9
    clear F9 N9 N4
    k_steps
    exact hret _ _ _ _ (by k_asm) (news_skip (by with_reducible assumption)) (bits_out2 (by with_reducible assumption) hb9 hw1 (wide_fit hl9) hR9 (And.left (And.right (by with_reducible assumption))) (And.right (And.right (by with_reducible assumption))))

theorem rst_p06 : True := by
  k_with_none
  exact trivial
theorem rxrp06_mac_a : True := by
  k_with "my room" => first | exact room2 (by assumption) rfl | exact room0 (by assumption) rfl | exact room1 (by assumption) | ktr_room
  exact trivial
theorem rxrp06_mac_b : True := by
  k_with "my units" => first | exact room2 (by assumption) rfl | exact room0 (by assumption) rfl | exact room1 (by assumption) | ktr_units
  exact trivial
theorem rxrp06_mac_1 : True := by
  k_with "my spl" => first | with_reducible_and_instances exact Spl.base _ _ | with_reducible_and_instances exact Spl.cons (Spl.base _ _) | with_reducible_and_instances exact Spl.cons (Spl.cons (Spl.base _ _)) | with_reducible_and_instances exact Spl.cons (Spl.cons (Spl.cons (Spl.base _ _))) | with_reducible_and_instances exact Spl.cons (Spl.cons (Spl.cons (Spl.cons (Spl.base _ _)))) | with_reducible_and_instances exact Spl.cons (Spl.cons (Spl.cons (Spl.cons (Spl.cons (Spl.base _ _))))) | with_reducible_and_instances exact Spl.cons (Spl.cons (Spl.cons (Spl.cons (Spl.cons (Spl.cons (Spl.base _ _)))))) | with_reducible_and_instances exact Spl.cons (Spl.cons (Spl.cons (Spl.cons (Spl.cons (Spl.cons (Spl.cons (Spl.base _ _))))))) | with_reducible_and_instances exact Spl.cons (Spl.cons (Spl.cons (Spl.cons (Spl.cons (Spl.cons (Spl.cons (Spl.cons (Spl.base _ _)))))))) | with_reducible_and_instances exact Spl.cons (Spl.cons (Spl.cons (Spl.cons (Spl.cons (Spl.cons (Spl.cons (Spl.cons (Spl.cons (Spl.base _ _))))))))) | with_reducible_and_instances exact Spl.cons (Spl.cons (Spl.cons (Spl.cons (Spl.cons (Spl.cons (Spl.cons (Spl.cons (Spl.cons (Spl.cons (Spl.base _ _)))))))))) | with_reducible_and_instances exact Spl.cons (Spl.cons (Spl.cons (Spl.cons (Spl.cons (Spl.cons (Spl.cons (Spl.cons (Spl.cons (Spl.cons (Spl.cons (Spl.base _ _))))))))))) | with_reducible_and_instances exact Spl.cons (Spl.cons (Spl.cons (Spl.cons (Spl.cons (Spl.cons (Spl.cons (Spl.cons (Spl.cons (Spl.cons (Spl.cons (Spl.cons (Spl.base _ _)))))))))))) | with_reducible_and_instances exact Spl.cons (Spl.cons (Spl.cons (Spl.cons (Spl.cons (Spl.cons (Spl.cons (Spl.cons (Spl.cons (Spl.cons (Spl.cons (Spl.cons (Spl.cons (Spl.base _ _))))))))))))) | with_reducible_and_instances exact Spl.cons (Spl.cons (Spl.cons (Spl.cons (Spl.cons (Spl.cons (Spl.cons (Spl.cons (Spl.cons (Spl.cons (Spl.cons (Spl.cons (Spl.cons (Spl.cons (Spl.base _ _)))))))))))))) | with_reducible_and_instances exact Spl.cons (Spl.cons (Spl.cons (Spl.cons (Spl.cons (Spl.cons (Spl.cons (Spl.cons (Spl.cons (Spl.cons (Spl.cons (Spl.cons (Spl.cons (Spl.cons (Spl.cons (Spl.base _ _))))))))))))))) | with_reducible_and_instances exact Spl.cons (Spl.cons (Spl.cons (Spl.cons (Spl.cons (Spl.cons (Spl.cons (Spl.cons (Spl.cons (Spl.cons (Spl.cons (Spl.cons (Spl.cons (Spl.cons (Spl.cons (Spl.cons (Spl.base _ _)))))))))))))))) | with_reducible_and_instances exact Spl.cons (Spl.cons (Spl.cons (Spl.cons (Spl.cons (Spl.cons (Spl.cons (Spl.cons (Spl.cons (Spl.cons (Spl.cons (Spl.cons (Spl.cons (Spl.cons (Spl.cons (Spl.cons (Spl.cons (Spl.base _ _))))))))))))))))) | with_reducible_and_instances exact Spl.cons (Spl.cons (Spl.cons (Spl.cons (Spl.cons (Spl.cons (Spl.cons (Spl.cons (Spl.cons (Spl.cons (Spl.cons (Spl.cons (Spl.cons (Spl.cons (Spl.cons (Spl.cons (Spl.cons (Spl.cons (Spl.base _ _)))))))))))))))))) | with_reducible_and_instances exact Spl.cons (Spl.cons (Spl.cons (Spl.cons (Spl.cons (Spl.cons (Spl.cons (Spl.cons (Spl.cons (Spl.cons (Spl.cons (Spl.cons (Spl.cons (Spl.cons (Spl.cons (Spl.cons (Spl.cons (Spl.cons (Spl.cons (Spl.base _ _)))))))))))))))))))
  exact trivial
theorem rxrp06_mac_2 : True := by
  k_with "my sub" => first | exact id_sub | assumption | (refine cons_sub ?_; walk_at "my sub") | (refine up_trans ?_ (by assumption); walk_at "my sub")
  exact trivial
theorem rxrp06_mac_3 : True := by
  k_with "my mem" => first | assumption | exact List.Mem.head _ | (refine List.Mem.tail _ ?_; walk_at "my mem") | (refine up (by assumption) ?_; walk_at "my mem")
  exact trivial
theorem rxrp06_mack_1 : True := by
  k_with "my kmem" => (refine mem_r ?_; walk_at "my mem")
  exact trivial
theorem rxrp06_mac_4 : True := by
  k_with "my lt" => first | assumption | exact And.right (by assumption) | exact And.right (And.right (by assumption))
  exact trivial
theorem rxrp06_mac_5 : True := by
  k_with "my sep" => first | assumption | exact Sep.nil | (refine Sep.cons ?_ ?_; (case' refine_1 => walk_at "my lt"); walk_at "my sep")
  exact trivial
theorem rxrp06_mac_6 : True := by
  k_with "my dat" => first | with_reducible_and_instances exact DatIn.int _ _ | with_reducible_and_instances exact DatIn.bool _ | with_reducible_and_instances exact DatIn.str _ _ | with_reducible_and_instances exact DatIn.none | assumption | (exact dat_up (by assumption) (by walk_at "my sub")) | (exact DatIn.tuple (by walk_at "my mem") (by walk_at "my all")) | (exact DatIn.list (by walk_at "my mem") (by walk_at "my all")) | exact DatIn.int _ _ | exact DatIn.bool _ | exact DatIn.str _ _ | exact DatIn.none
  exact trivial
theorem rxrp06_mac_7 : True := by
  k_with "my all" => first | exact DatAll.nil | (exact DatAll.cons (by walk_at "my dat") (by walk_at "my all"))
  exact trivial
theorem rxrp06_mac_8 : True := by
  k_with "newTuple" => (k_here; k_dflt (refine tup_new (by k_asm) (by k_asm) (by walk_at "my spl") (by walk_at "my sep") ?_ (by kmk_size)); intro D'w im'w h'w F'w N'w hs'w hS'w hm'w; (try k_sweep))
  exact trivial
theorem rxrp06_mac_9 : True := by
  k_with "my args" => ((case hv => exact rfl); (case B => k_asm); (case F => k_asm); (case K => k_asm); (case N => k_asm); (case T => k_asm); (case hk => first | exact rfl | assumption); (case hX => walk_at "my spl"); (case hS => walk_at "my sep"); (case hD => walk_at "my all"); (case hd => walk_at "my room"); (case hu => walk_at "my units"))
  exact trivial
theorem rxrp06_mac_10 : True := by
  k_with "my fin" => (refine pd_fin (by assumption) (by k_asm) (by k_asm) (by walk_at "my spl") (by walk_at "my sub") (by walk_at "my sub") (by walk_at "my sep") ?_)
  exact trivial
theorem rxrp06_mac_11 : True := by
  k_with "my open1" => (first | (rename DatAll _ _ (_ :: _) => hA9w; obtain ⟨v9w, w9w, e9w, hA91w, hA92w⟩ := all_cons hA9w; subst e9w; clear hA9w) | (rename DatAll _ _ [] => hA9w; have e9w := all_nil hA9w; subst e9w; clear hA9w) | (rename DatIn _ _ (Dat.int _) => hA9w; obtain ⟨t9w, e9w⟩ := dat_int hA9w; subst e9w; clear hA9w) | (rename DatIn _ _ (Dat.bool _) => hA9w; have e9w := dat_bool hA9w; subst e9w; clear hA9w) | (rename DatIn _ _ (Dat.str _) => hA9w; obtain ⟨t9w, e9w⟩ := dat_str hA9w; subst e9w; clear hA9w) | (rename DatIn _ _ Dat.none => hA9w; have e9w := dat_none hA9w; subst e9w; clear hA9w) | (rename DatIn _ _ (Dat.tuple _) => hA9w; obtain ⟨p9w, v9w, k9w, e9w, hm9w, hA91w⟩ := dat_tup hA9w; subst e9w; clear hA9w))
  exact trivial
theorem rxrp06_mac_12 : True := by
  k_with "my open" => repeat walk_at "my open1"
  exact trivial
theorem rxrp06_mac_13 : True := by
  k_with "my opn" => ((try dsimp only [OpD, OpL]); intros; (try (first | ((with_reducible refine opd_of ?_); intro r9w hD9w; walk_at "my opn") | ((with_reducible refine opl_of ?_); intro v9w hA9w; walk_at "my opn"))))
  exact trivial
theorem rxrp06_mac_14 : True := by
  k_with "my tail" => (intro h9w tk9w im9w F9w N9w hs9w hS9w; walk_at "my opn"; (try k_fold); (try k_sweep))
  exact trivial
theorem rxrp06_mac_15 : True := by
  k_with "my enter" => (refine wpAny_call ?_; k_dflt (refine code_def (by k_asm) (by k_asm) (by k_asm) (by k_asm) (by k_asm) (by exact rfl) (by exact rfl) (by assumption) (by k_is) (by k_is) (by walk_at "my room") (by first | exact BindsTo.of_eq rfl | exact binds_K (by k_in) rfl (by k_is) rfl rfl rfl) (by exact locs rfl) ?_ (by exact rfl) (by exact rfl) (by exact rfl) (by decide); k_whole); intro g'w L'w h'w FG'w F'w N'w B'w X'w T'w; (try dsimp only); (try k_fold))
  exact trivial
theorem rxrp06_mac_16 : True := by
  k_with "my num" => first | with_reducible assumption | decide | omega | exact Or.inl rfl | exact Or.inr rfl
  exact trivial
theorem rxrp06_mac_17 : True := by
  k_with "my new" => (intro D'w im'w h'w F'w N'w hs'w hS'w hm'w; (try simp only [List.cons_append, List.nil_append, List.drop_succ_cons, List.drop_zero] at hm'w); (try k_sweep))
  exact trivial
theorem rxrp06_mac_18 : True := by
  k_with "binaryOp Add ref ref" => (k_here; (with_reducible show wpAny _ _ (binaryOp _ (Value.ref _) (Value.ref _)) _ _ _); k_dflt (refine tup_cat (by k_asm) (by k_asm) (by walk_at "my spl") (by walk_at "my sep") (by k_mem) (by k_mem) (by exact List.cons_ne_nil _ _) (by exact List.cons_ne_nil _ _) (by exact Nat.le_of_ble_eq_true rfl) (by exact rfl) ?_); walk_at "my new")
  exact trivial
theorem rxrp06_mac_19 : True := by
  k_with "subscriptTail Name Slice ref ref" => (k_here; (with_reducible show wpAny _ _ (subscriptTail _ (PySem.Expr.Slice _ none none _) (Value.ref _) (Value.ref _)) _ _ _); k_dflt (refine tup_from (a := 1) (by k_asm) (by k_asm) (by walk_at "my spl") (by walk_at "my sep") (by k_mem) (by decide) (by exact Nat.le_of_ble_eq_true rfl) (by exact rfl) ?_ (by with_unfolding_all rfl) (by kmk_pure) (by exact Nat.le_of_ble_eq_true rfl)); walk_at "my new")
  exact trivial
theorem rxrp06_mac_20 : True := by
  k_with "my finl" => (refine pd_finL (by assumption) (by k_asm) (by k_asm) (by walk_at "my spl") (by walk_at "my sub") (by walk_at "my sub") (by walk_at "my sep") (by walk_at "my lt") ?_)
  exact trivial
theorem rxrp06_mac_21 : True := by
  k_with "my finT" => (refine pd_finT (by with_reducible assumption) (by k_asm) (by k_asm) (by walk_at "my spl") (by walk_at "my sub") (by walk_at "my sub") (by walk_at "my sep") (by walk_at "my lt") (by with_reducible assumption) (by with_reducible assumption) (by with_reducible assumption) ?_ ?_)
  exact trivial
theorem rxrp06_mac_ne7 : True := by
  k_with "my ne" => first | with_reducible assumption | (with_reducible refine Ne.symm ?_; with_reducible assumption) | (with_reducible refine Nat.ne_of_lt ?_; with_reducible assumption) | (with_reducible refine Nat.ne_of_gt ?_; with_reducible assumption)
  exact trivial
theorem rxrp06_mac_nen1 : True := by
  k_with "my nea" => first | exact Nat.ne_of_lt (And.left (by assumption)) | exact Nat.ne_of_gt (And.left (by assumption)) | exact Nat.ne_of_lt (And.left (And.right (by assumption))) | exact Nat.ne_of_gt (And.left (And.right (by assumption))) | exact Nat.ne_of_lt (And.left (And.right (And.right (by assumption)))) | exact Nat.ne_of_gt (And.left (And.right (And.right (by assumption)))) | exact Nat.ne_of_lt (And.left (And.right (And.right (And.right (by assumption))))) | exact Nat.ne_of_gt (And.left (And.right (And.right (And.right (by assumption))))) | exact Nat.ne_of_lt (And.left (And.right (And.right (And.right (And.right (by assumption)))))) | exact Nat.ne_of_gt (And.left (And.right (And.right (And.right (And.right (by assumption)))))) | exact Nat.ne_of_lt (And.left (And.right (And.right (And.right (And.right (And.right (by assumption))))))) | exact Nat.ne_of_gt (And.left (And.right (And.right (And.right (And.right (And.right (by assumption))))))) | exact Nat.ne_of_lt (And.left (And.right (And.right (And.right (And.right (And.right (And.right (by assumption)))))))) | exact Nat.ne_of_gt (And.left (And.right (And.right (And.right (And.right (And.right (And.right (by assumption)))))))) | exact Nat.ne_of_lt (And.left (And.right (And.right (And.right (And.right (And.right (And.right (And.right (by assumption))))))))) | exact Nat.ne_of_gt (And.left (And.right (And.right (And.right (And.right (And.right (And.right (And.right (by assumption))))))))) | exact Nat.ne_of_lt (And.left (And.right (And.right (And.right (And.right (And.right (And.right (And.right (And.right (by assumption)))))))))) | exact Nat.ne_of_gt (And.left (And.right (And.right (And.right (And.right (And.right (And.right (And.right (And.right (by assumption)))))))))) | exact Nat.ne_of_lt (And.left (And.right (And.right (And.right (And.right (And.right (And.right (And.right (And.right (And.right (by assumption))))))))))) | exact Nat.ne_of_gt (And.left (And.right (And.right (And.right (And.right (And.right (And.right (And.right (And.right (And.right (by assumption))))))))))) | exact Nat.ne_of_lt (And.left (And.right (And.right (And.right (And.right (And.right (And.right (And.right (And.right (And.right (And.right (by assumption)))))))))))) | exact Nat.ne_of_gt (And.left (And.right (And.right (And.right (And.right (And.right (And.right (And.right (And.right (And.right (And.right (by assumption))))))))))))
  exact trivial
theorem rxrp06_mac_nek2 : True := by
  k_with "my kne" => first | walk_at "my ne" | ((try dsimp only); walk_at "my ne") | walk_at "my nea"
  exact trivial
theorem rxrp06_p02_1 : True := by
  k_with "call ref" => (k_here; (with_reducible show wpAny _ _ (call (Value.ref 73) _) _ _ _); k_dflt (refine pure_useOC (by k_asm) (by k_asm) (by k_asm) (by k_asm) (by k_asm) (by first | exact rfl | assumption) (by walk_at "my spl") (by walk_at "my sep") (by exact rfl) (by walk_at "my all") (by walk_at "my room") (by walk_at "my units") (mask_ok _ _ (by omega) (by omega)) ?_); walk_at "my tail")
  exact trivial
theorem rxrp06_p02_2 : True := by
  k_with "call ref" => (k_here; (with_reducible show wpAny _ _ (call (Value.ref 81) _) _ _ _); k_dflt (refine pure_useOC (by k_asm) (by k_asm) (by k_asm) (by k_asm) (by k_asm) (by first | exact rfl | assumption) (by walk_at "my spl") (by walk_at "my sep") (by exact rfl) (by walk_at "my all") (by walk_at "my room") (by walk_at "my units") (vec_ok _ _ _ _ (by omega) (by omega)) ?_); walk_at "my tail")
  exact trivial
theorem rxrp06_p02_3 : True := by
  k_with "call ref" => (k_here; (with_reducible show wpAny _ _ (call (Value.ref 130) _) _ _ _); k_dflt (refine pure_useOC (by k_asm) (by k_asm) (by k_asm) (by k_asm) (by k_asm) (by first | exact rfl | assumption) (by walk_at "my spl") (by walk_at "my sep") (by exact rfl) (by walk_at "my all") (by walk_at "my room") (by walk_at "my units") (code_ok _ _ _ _ _ (by omega) (by omega)) ?_); walk_at "my tail")
  exact trivial
theorem rxrp06_p02_4 : True := by
  k_with "call ref" => (k_here; (with_reducible show wpAny _ _ (call (Value.ref 158) _) _ _ _); k_dflt (refine pure_useOC (by k_asm) (by k_asm) (by k_asm) (by k_asm) (by k_asm) (by first | exact rfl | assumption) (by walk_at "my spl") (by walk_at "my sep") (by exact rfl) (by walk_at "my all") (by walk_at "my room") (by walk_at "my units") (extend_ok _ _ _ _ _ _ (by walk_at "my num") (by walk_at "my num") (by walk_at "my num") (by walk_at "my num") (by walk_at "my num") (by walk_at "my num") (by walk_at "my num")) ?_); walk_at "my tail")
  exact trivial
theorem rxrp06_p02_5 : True := by
  k_with "call ref" => (k_here; (with_reducible show wpAny _ _ (call (Value.ref 158) _) _ _ _); k_dflt (refine pure_useOC (by k_asm) (by k_asm) (by k_asm) (by k_asm) (by k_asm) (by first | exact rfl | assumption) (by walk_at "my spl") (by walk_at "my sep") (by exact rfl) (by walk_at "my all") (by walk_at "my room") (by walk_at "my units") (extend_same_ok _ _ _ _ _ (by walk_at "my num") (by walk_at "my num") (by walk_at "my num") (by walk_at "my num") (by walk_at "my num") (by walk_at "my num")) ?_); walk_at "my tail")
  exact trivial
theorem rxrp06_p02_6 : True := by
  k_with "call ref" => (k_here; (with_reducible show wpAny _ _ (call (Value.ref 123) _) _ _ _); k_dflt (refine pure_useOC (by k_asm) (by k_asm) (by k_asm) (by k_asm) (by k_asm) (by first | exact rfl | assumption) (by walk_at "my spl") (by walk_at "my sep") (by exact rfl) (by walk_at "my all") (by walk_at "my room") (by walk_at "my units") (to_int_ok _ _ (by walk_at "my num") (by walk_at "my num")) ?_); walk_at "my tail")
  exact trivial
theorem rxrp06_p03_1 : True := by
  k_with "call ref" => (k_here; (with_reducible show wpAny _ _ (call (Value.ref 913) _) _ _ _); k_dflt (refine pure_useOC (by k_asm) (by k_asm) (by k_asm) (by k_asm) (by k_asm) (by first | exact rfl | assumption) (by walk_at "my spl") (by walk_at "my sep") (by exact rfl) (by walk_at "my all") (by walk_at "my room") (by walk_at "my units") (number_value_ok _ _ _ _ _ _ (by walk_at "my num") (by walk_at "my num") (by walk_at "my num") (by walk_at "my num") (by walk_at "my num") (by walk_at "my num") (by walk_at "my num")) ?_); walk_at "my tail")
  exact trivial
theorem rxrp06_p03_2 : True := by
  k_with "call ref" => (k_here; (with_reducible show wpAny _ _ (call (Value.ref 1039) _) _ _ _); k_dflt (refine pure_useOC (by k_asm) (by k_asm) (by k_asm) (by k_asm) (by k_asm) (by first | exact rfl | assumption) (by walk_at "my spl") (by walk_at "my sep") (by exact rfl) (by walk_at "my all") (by walk_at "my room") (by walk_at "my units") (expr_type_ok _ _ _ _ _ _ _ ) ?_); walk_at "my tail")
  exact trivial
theorem rxrp06_p03_3 : True := by
  k_with "call ref" => (k_here; (with_reducible show wpAny _ _ (call (Value.ref 1060) _) _ _ _); k_dflt (refine pure_useOC (by k_asm) (by k_asm) (by k_asm) (by k_asm) (by k_asm) (by first | exact rfl | assumption) (by walk_at "my spl") (by walk_at "my sep") (by exact rfl) (by walk_at "my all") (by walk_at "my room") (by walk_at "my units") (build_ok _ _ _ _ _ _ _ (by walk_at "my num") (by walk_at "my num") (by walk_at "my num") (by walk_at "my num") (by walk_at "my num") (by walk_at "my num") (by walk_at "my num")) ?_); walk_at "my tail")
  exact trivial
theorem rxrp06_p03_4 : True := by
  k_with "call ref" => (k_here; (with_reducible show wpAny _ _ (call (Value.ref 1067) _) _ _ _); k_dflt (refine pure_useOC (by k_asm) (by k_asm) (by k_asm) (by k_asm) (by k_asm) (by first | exact rfl | assumption) (by walk_at "my spl") (by walk_at "my sep") (by exact rfl) (by walk_at "my all") (by walk_at "my room") (by walk_at "my units") (self_determined_ok _ _ _ _ _ _ _ (by walk_at "my num") (by walk_at "my num") (by walk_at "my num") (by walk_at "my num") (by walk_at "my num") (by walk_at "my num") (by walk_at "my num")) ?_); walk_at "my tail")
  exact trivial
theorem rxrp06_p03_5 : True := by
  k_with "call ref" => (k_here; (with_reducible show wpAny _ _ (call (Value.ref 1081) _) _ _ _); k_dflt (refine pure_useOC (by k_asm) (by k_asm) (by k_asm) (by k_asm) (by k_asm) (by first | exact rfl | assumption) (by walk_at "my spl") (by walk_at "my sep") (by exact rfl) (by walk_at "my all") (by walk_at "my room") (by walk_at "my units") (constant_vec_ok _ _ _ _ _) ?_); walk_at "my tail")
  exact trivial
theorem rxrp06_p03_6 : True := by
  k_with "call ref" => (k_here; (with_reducible show wpAny _ _ (call (Value.ref 1088) _) _ _ _); k_dflt (refine pure_useOC (by k_asm) (by k_asm) (by k_asm) (by k_asm) (by k_asm) (by first | exact rfl | assumption) (by walk_at "my spl") (by walk_at "my sep") (by exact rfl) (by walk_at "my all") (by walk_at "my room") (by walk_at "my units") (constant_ok _ _ _ _ _ _ _ (by walk_at "my num") (by walk_at "my num") (by walk_at "my num") (by walk_at "my num") (by walk_at "my num") (by walk_at "my num") (by walk_at "my num")) ?_); walk_at "my tail")
  exact trivial
theorem rxrp06_p03_7 : True := by
  k_with "call ref" => (k_here; (with_reducible show wpAny _ _ (call (Value.ref 1095) _) _ _ _); k_dflt (refine pure_useOC (by k_asm) (by k_asm) (by k_asm) (by k_asm) (by k_asm) (by first | exact rfl | assumption) (by walk_at "my spl") (by walk_at "my sep") (by exact rfl) (by walk_at "my all") (by walk_at "my room") (by walk_at "my units") (whole_ok _ _ _ (by walk_at "my num") (by walk_at "my num")) ?_); walk_at "my tail")
  exact trivial
theorem rxrp06_p04_1 : True := by
  k_with "call ref" => (k_here; (with_reducible show wpAny _ _ (call (Value.ref 864) _) _ _ _); k_dflt (refine pure_useOC (by k_asm) (by k_asm) (by k_asm) (by k_asm) (by k_asm) (by first | exact rfl | assumption) (by walk_at "my spl") (by walk_at "my sep") (by exact rfl) (by walk_at "my all") (by walk_at "my room") (by walk_at "my units") (checked_width_ok _ _ _ (by walk_at "my num") (by walk_at "my num")) ?_); walk_at "my tail")
  exact trivial
theorem rxrp06_p04_2 : True := by
  k_with "call ref" => (k_here; (with_reducible show wpAny _ _ (call (Value.ref 1102) _) _ _ _); k_dflt (refine pure_useOC (by k_asm) (by k_asm) (by k_asm) (by k_asm) (by k_asm) (by first | exact rfl | assumption) (by walk_at "my spl") (by walk_at "my sep") (by exact rfl) (by walk_at "my all") (by walk_at "my room") (by walk_at "my units") (range_of_ok _ _ _ _ (by walk_at "my num") (by walk_at "my num") (by walk_at "my num") (by walk_at "my num")) ?_); walk_at "my tail")
  exact trivial
theorem rxrp06_p05_1 : True := by
  k_with "my mem0" => first | with_reducible_and_instances exact List.Mem.head _ | (with_reducible_and_instances refine List.Mem.tail _ ?_; walk_at "my mem0")
  exact trivial
theorem rxrp06_p05_2 : True := by
  k_with "compareOp NotEq ref ref" => (k_here; k_dflt (first | (refine ne_row_t (by k_asm) (by walk_at "my mem0") (by with_reducible assumption) (by walk_at "my mem0") (by walk_at "my units") (by with_reducible assumption) ?_) | (refine ne_row_f (by k_asm) (by walk_at "my mem0") (by with_reducible assumption) (by walk_at "my mem0") (by walk_at "my units") (by with_reducible assumption) ?_)))
  exact trivial
theorem rxrp06_p05k_1 : True := by
  k_with "my kupd" => first | (exact Upd.head (by with_reducible assumption)) | (exact Upd.tail (by k_ne) (by k_upd))
  exact trivial
theorem rxrp06_p05_3 : True := by
  k_with "my front" => first | exact Front.head _ _ | exact Front.tail _ (Front.head _ _) | exact Front.tail _ (Front.tail _ (Front.head _ _)) | exact Front.tail _ (Front.tail _ (Front.tail _ (Front.head _ _))) | exact Front.tail _ (Front.tail _ (Front.tail _ (Front.tail _ (Front.head _ _)))) | exact Front.tail _ (Front.tail _ (Front.tail _ (Front.tail _ (Front.tail _ (Front.head _ _))))) | exact Front.tail _ (Front.tail _ (Front.tail _ (Front.tail _ (Front.tail _ (Front.tail _ (Front.head _ _)))))) | exact Front.tail _ (Front.tail _ (Front.tail _ (Front.tail _ (Front.tail _ (Front.tail _ (Front.tail _ (Front.head _ _))))))) | exact Front.tail _ (Front.tail _ (Front.tail _ (Front.tail _ (Front.tail _ (Front.tail _ (Front.tail _ (Front.tail _ (Front.head _ _)))))))) | exact Front.tail _ (Front.tail _ (Front.tail _ (Front.tail _ (Front.tail _ (Front.tail _ (Front.tail _ (Front.tail _ (Front.tail _ (Front.head _ _))))))))) | exact Front.tail _ (Front.tail _ (Front.tail _ (Front.tail _ (Front.tail _ (Front.tail _ (Front.tail _ (Front.tail _ (Front.tail _ (Front.tail _ (Front.head _ _)))))))))) | exact Front.tail _ (Front.tail _ (Front.tail _ (Front.tail _ (Front.tail _ (Front.tail _ (Front.tail _ (Front.tail _ (Front.tail _ (Front.tail _ (Front.tail _ (Front.head _ _))))))))))) | exact Front.tail _ (Front.tail _ (Front.tail _ (Front.tail _ (Front.tail _ (Front.tail _ (Front.tail _ (Front.tail _ (Front.tail _ (Front.tail _ (Front.tail _ (Front.tail _ (Front.head _ _)))))))))))) | exact Front.tail _ (Front.tail _ (Front.tail _ (Front.tail _ (Front.tail _ (Front.tail _ (Front.tail _ (Front.tail _ (Front.tail _ (Front.tail _ (Front.tail _ (Front.tail _ (Front.tail _ (Front.head _ _)))))))))))))
  exact trivial
theorem rxrp06_p05_4 : True := by
  k_with "my alln" => first | with_reducible assumption | exact List.forall_mem_nil _ | (refine List.forall_mem_cons.mpr ⟨?_, ?_⟩; (case' refine_1 => k_ne); walk_at "my alln") | exact allLt_ne (by with_reducible assumption) | exact allLt_ne (And.right (by with_reducible assumption)) | exact allLt_ne (And.right (And.right (by with_reducible assumption))) | exact allLt_ne (And.right (And.right (And.right (by with_reducible assumption)))) | exact allLt_ne (And.right (And.right (And.right (And.right (by with_reducible assumption))))) | exact allLt_ne (And.right (And.right (And.right (And.right (And.right (by with_reducible assumption)))))) | exact allLt_ne (And.right (And.right (And.right (And.right (And.right (And.right (by with_reducible assumption))))))) | exact allLt_ne (And.right (And.right (And.right (And.right (And.right (And.right (And.right (by with_reducible assumption)))))))) | exact allLt_ne (And.right (And.right (And.right (And.right (And.right (And.right (And.right (And.right (by with_reducible assumption))))))))) | exact allLt_ne (And.right (And.right (And.right (And.right (And.right (And.right (And.right (And.right (And.right (by with_reducible assumption)))))))))) | exact allLt_ne (And.right (And.right (And.right (And.right (And.right (And.right (And.right (And.right (And.right (And.right (by with_reducible assumption))))))))))) | exact allLt_ne (And.right (And.right (And.right (And.right (And.right (And.right (And.right (And.right (And.right (And.right (And.right (by with_reducible assumption))))))))))))
  exact trivial
theorem rxrp06_p05k_2 : True := by
  k_with "my kupd" => first | (exact Upd.head (by walk_at "my alln")) | (exact Upd.tail (by k_ne) (by k_upd))
  exact trivial
theorem rxrp06_p05_5 : True := by
  k_with "call ref" => (k_here; (with_reducible show wpAny _ _ (call (Value.ref 1320) _) _ _ _); k_dflt (refine next_use (by with_reducible assumption) (by k_asm) (by k_asm) (by k_asm) (by k_asm) (by k_asm) (by first | exact rfl | assumption) (by walk_at "my front") (by walk_at "my alln") (by walk_at "my room") (by walk_at "my units") ?_); intro x'w t'w us'w n'w h'w tk'w F'w N'w hx0w hx1w hR'w; (try k_sweep))
  exact trivial
theorem rxrp06_p05_6 : True := by
  k_with "UnrEnd" => (refine unr_front (by k_asm) (by k_asm) (by walk_at "my front") (by walk_at "my alln") ?_)
  exact trivial
theorem rxrp06_p05a_1 : True := by
  k_with "my sep" => first | assumption | (exact sep_addr (by with_reducible assumption) (by exact rfl)) | exact Sep.nil | (refine Sep.cons ?_ ?_; (case' refine_1 => walk_at "my lt"); walk_at "my sep")
  exact trivial
theorem rxrp06_p05b_1 : True := by
  k_with "pyIter ref" => (k_here; (with_reducible show wpAny _ _ (pyIter (Value.ref _)) (fun it s₂ => TurnsAt _ _ _ _ _ _ _ _ _ it s₂) _ _); refine stop_here ?_)
  exact trivial
theorem rxrp06_p05b_2 : True := by
  k_with "my for" => (k_here; (rename Fr _ _ _ _ => lF'w); k_dflt (refine' For_turns lF'w ?_))
  exact trivial
theorem rxrp06_p05b_3 : True := by
  k_with "exec For Tuple Name cons nil" => walk_at "my for"
  exact trivial
theorem rxrp06_p05b_4 : True := by
  k_with "my kept1" => first | exact List.forall_mem_nil _ | (refine List.forall_mem_cons.mpr ⟨rfl, ?_⟩; walk_at "my kept1")
  exact trivial
theorem rxrp06_p05b_5 : True := by
  k_with "my kname" => first | with_reducible_and_instances exact List.Mem.head _ | (with_reducible_and_instances refine List.Mem.tail _ ?_; walk_at "my kname")
  exact trivial
theorem rxrp06_p05b_5a : True := by
  k_with "my knames" => first | exact List.forall_mem_nil _ | (with_reducible refine names_cons1 ?_ ?_; (case' refine_1 => walk_at "my kname"); walk_at "my knames") | (with_reducible refine names_cons ?_ ?_; (case' refine_1 => walk_at "my kname"); walk_at "my knames")
  exact trivial
theorem rxrp06_p05b_5b : True := by
  k_with "my keptz" => first | with_reducible exact KeptZ.same | (with_reducible refine KeptZ.ovr ?_ ?_ ?_; (case' refine_1 => walk_at "my knames"); (case' refine_2 => walk_at "my knames"); walk_at "my keptz") | (with_reducible refine KeptZ.set ?_ ?_; (case' refine_1 => walk_at "my kname"); walk_at "my keptz") | (intro z9w hz9w; simp only [List.mem_cons, List.not_mem_nil, or_false, not_or] at hz9w; simp only [hz9w, if_false, ovr, List.contains_eq_mem, List.mem_cons, List.not_mem_nil, or_self, decide_false, Bool.false_eq_true]; (try exact rfl); walk_say "KEPT BY SIMP")
  exact trivial
theorem rxrp06_p05b_5c : True := by
  k_with "my kept" => (refine Kept.of ?_ ?_; (case' refine_1 => walk_at "my kept1"); (case' refine_2 => walk_at "my keptz"))
  exact trivial
theorem rxrp06_p05b_6 : True := by
  k_with "my tend" => (refine tend (by k_asm) (by k_asm) (by walk_at "my spl") (by walk_at "my sep") (by first | with_reducible assumption | assumption | (exact off_addr (by with_reducible assumption) (by exact rfl))) (by first | exact List.forall_mem_nil _ | (refine src1 ?_; walk_at "my mem")) ?_)
  exact trivial

section
variable {prog : Program} {w : World} {p : Program} {loose : List Str} {mean : ExcName → Option Value} {mg mb : Str → Option Value}
  {dp un : Nat} {gd : Option (List Code)} {cn : Str} {cs : PySem.Scope} {a : Addr} {ccd : Value} {cl : List (Str × Addr)} {outer : List Env} {A₀ : Around} {base h₀ : Heap} {L : Addr} {m : Str → Option Value} {s : Shared}
  {Q E : Value → Shared → Prop} {X rest : Led} {us : List Value} {n : Nat} {rw : Addr}
theorem bits_use {wide : Int} {t : Tok} (hR : RowIs us) (hw : WideOk wide) (B : Below A₀ base outer h₀) (F : Fr h₀ L s.heap m) (KX : (K w.params).In h₀) (N : News h₀ L s.heap X) (T : Top p loose mean mg mb h₀) (hk : cs.kind = .function)
    (hX : Front X (rw, W.listOf us.toArray n) rest) (hne : ∀ p ∈ rest, p.1 ≠ rw) (hd : dp + 12 < recursionLimit) (hu : un + 500 < cLine)
    (ret : ∀ q vs bs k us' n' h' tk', Fr h₀ L h' m → News h₀ L h' ((q, W.listOf vs.toArray k) :: (rw, W.listOf us'.toArray n') :: rest) → IntsAre vs bs → (bs.length : Int) = wide → bs.length ≤ 12 → (∀ b ∈ bs, 0 ≤ b ∧ b < 4) → RowIs us' → (@LT.lt Nat _ rw q ∧ AllLt q rest) → Q (.ref q) { s with heap := h', toks := tk' }) :
    wpAny (model prog w) (ktrTop dp un gd cn cs L a ccd cl outer) (call (.ref 1327) [.ref rw, .int wide t]) Q E s := by
  refine bits_ok w rw us n rest wide t hR hne hw prog p loose mean mg mb dp un gd cn cs a ccd cl outer A₀ base h₀ L m s Q E B F KX (fun q hq => N q (hX.mem q hq)) T hk hd hu ?_
  rintro r h' tk' nw F' N' ⟨q, vs, k, us', n', rfl, ⟨bs, h1, h5, h6⟩, h2, rfl, h3, h4⟩
  exact ret q vs bs k us' n' h' tk' F' N' h1 h5 (by have := hw.2; omega) h6 h2 ⟨h3, h4⟩
end
theorem wide_draw {x : Int} (h : 0 ≤ x) : WideOk (1 + x.fmod 12) := by
  rw [Int.fmod_eq_emod_of_nonneg _ (by decide)]; unfold WideOk; omega
theorem rg_p07_1 : True := by
  k_with "call ref" => (k_here; (with_reducible show wpAny _ _ (call (Value.ref 1327) _) _ _ _); k_dflt (refine bits_use (by with_reducible assumption) (wide_draw (by with_reducible assumption)) (by k_asm) (by k_asm) (by k_asm) (by k_asm) (by k_asm) (by first | exact rfl | assumption) (by walk_at "my front") (by walk_at "my alln") (by walk_at "my room") (by walk_at "my units") ?_); intro q'w vs'w bs'w k'w us'w n'w h'w tk'w F'w N'w hI'w hlb'w hlc'w hbb'w hR'w l1w; (try k_sweep))
  exact trivial

abbrev bitD (bs : List Int) : Dat := .list (bs.map .int)
abbrev numberD (bs : List Int) (sg : Bool) : Dat := .tuple [bitD bs, .bool sg]
def NumOk (bs : List Int) : Prop := 1 ≤ bs.length ∧ bs.length ≤ 12 ∧ ∀ b ∈ bs, 0 ≤ b ∧ b < 4
def NumPost (rw : Addr) (mt im : Led) (r : Value) (nw : Led) : Prop := ∃ us n im' bs sg, RowIs us ∧ nw = (rw, W.listOf us.toArray n) :: (mt ++ im') ∧ (∀ p ∈ im, p ∈ im') ∧ Sep mt im' ∧ (∀ p ∈ mt ++ im', p.1 ≠ rw) ∧ DatIn im' r (numberD bs sg) ∧ NumOk bs
theorem dat_ints {news : Led} {vs : List Value} {ns : List Int} (h : IntsAre vs ns) : DatAll news vs (ns.map .int) := by
  induction h with
  | nil => exact .nil
  | cons n t _ ih => exact .cons (.int n t) ih
theorem allLt_app {d : Addr} {a b : Led} : AllLt d (a ++ b) → AllLt d a ∧ AllLt d b := by
  induction a with
  | nil => intro h; exact ⟨trivial, h⟩
  | cons x a ih => intro h; exact ⟨⟨h.1, (ih h.2).1⟩, (ih h.2).2⟩
theorem number_out {rw D q : Addr} {mt im : Led} {us vs : List Value} {n k j : Nat} {bs : List Int} {sg : Bool} (hR : RowIs us) (hI : IntsAre vs bs) (hb : NumOk bs) (hS : Sep mt im) (hne : ∀ p ∈ mt ++ im, p.1 ≠ rw) (h1 : @LT.lt Nat _ rw D) (h2 : @Ne Nat rw q) (hD : AllLt D (mt ++ im)) (hq : ∀ p ∈ mt ++ im, p.1 ≠ q) :
    NumPost rw mt im (.ref D) ((rw, W.listOf us.toArray n) :: (mt ++ ((D, tupO [.ref q, .bool sg] j) :: (q, W.listOf vs.toArray k) :: im))) := by
  refine ⟨us, n, _, bs, sg, hR, rfl, fun p hp => .tail _ (.tail _ hp), ?_, ?_, .tuple (.head _) (.cons (.list (.tail _ (.head _)) (dat_ints hI)) (.cons (.bool sg) .nil)), hb⟩
  · exact Sep.snoc (fun p hp => allLt_ne (allLt_app hD).1 p hp) (Sep.snoc (fun p hp => hq p (List.mem_append.mpr (.inl hp))) hS)
  · intro p hp
    rcases List.mem_append.mp hp with hp | hp
    · exact hne p (List.mem_append.mpr (.inl hp))
    · rcases List.mem_cons.mp hp with rfl | hp
      · exact Nat.ne_of_gt h1
      · rcases List.mem_cons.mp hp with rfl | hp
        · exact Ne.symm h2
        · exact hne p (List.mem_append.mpr (.inr hp))
theorem off1_ne {D : Addr} {l : Led} (h : LCg.Off1 D l) : ∀ p ∈ l, p.1 ≠ D := by
  induction l with
  | nil => intro p hp; exact nomatch hp
  | cons a l ih =>
    intro p hp
    rcases List.mem_cons.mp hp with e | hp
    · rw [e]; exact h.1
    · exact ih h.2 p hp
theorem news_mid4 {h₀ h : Heap} {L : Addr} {a b c d : Addr × Obj} {mt im : Led} (N : News h₀ L h (a :: b :: c :: d :: (mt ++ im))) : News h₀ L h (b :: (mt ++ (a :: c :: im))) := fun p hp => N p (by
  rcases List.mem_cons.mp hp with rfl | hp
  · exact .tail _ (.head _)
  · rcases List.mem_append.mp hp with hp | hp
    · exact .tail _ (.tail _ (.tail _ (.tail _ (List.mem_append.mpr (.inl hp)))))
    · rcases List.mem_cons.mp hp with rfl | hp
      · exact .head _
      · rcases List.mem_cons.mp hp with rfl | hp
        · exact .tail _ (.tail _ (.head _))
        · exact .tail _ (.tail _ (.tail _ (.tail _ (List.mem_append.mpr (.inr hp))))))
theorem num_ok2 {bs : List Int} {x : Int} (h : NumOk bs) : NumOk (bs.map fun k => k.fmod 2) := by
  refine ⟨by rw [List.length_map]; exact h.1, by rw [List.length_map]; exact h.2.1, fun b hb => ?_⟩
  obtain ⟨k, _, rfl⟩ := List.mem_map.mp hb
  rw [Int.fmod_eq_emod_of_nonneg _ (by decide)]; omega
theorem news_mid {h₀ h : Heap} {L : Addr} {a b c : Addr × Obj} {mt im : Led} (N : News h₀ L h (a :: b :: c :: (mt ++ im))) : News h₀ L h (b :: (mt ++ (a :: c :: im))) := fun p hp => N p (by
  rcases List.mem_cons.mp hp with rfl | hp
  · exact .tail _ (.head _)
  · rcases List.mem_append.mp hp with hp | hp
    · exact .tail _ (.tail _ (.tail _ (List.mem_append.mpr (.inl hp))))
    · rcases List.mem_cons.mp hp with rfl | hp
      · exact .head _
      · rcases List.mem_cons.mp hp with rfl | hp
        · exact .tail _ (.tail _ (.head _))
        · exact .tail _ (.tail _ (.tail _ (List.mem_append.mpr (.inr hp)))))
theorem num_ok {bs : List Int} {x : Int} (h : (bs.length : Int) = 1 + x.fmod 12) (hx : 0 ≤ x) (hb : ∀ b ∈ bs, 0 ≤ b ∧ b < 4) : NumOk bs := by
  rw [Int.fmod_eq_emod_of_nonneg _ (by decide)] at h
  exact ⟨by omega, by omega, hb⟩
theorem rg_p07_2 : True := by
  k_with "exec Assign cons ListComp" => (k_here; k_dflt (refine LCg.Assign_ListComp_U (F₀ := by k_asm) (by rfl) (by with_unfolding_all rfl) (by with_unfolding_all rfl) (by decide) (by rfl) (by decide) (by rfl) (by rfl) (by rfl) ?_))
  exact trivial
theorem rg_p07_3 : True := by
  k_with "CompSrc" => (k_here; k_dflt (refine LCg.CompSrc.ledger (by rfl) (by k_asm) (by k_asm) (by walk_at "my mem0") (by kcf_size) ?_; intro g'w; (refine' kcf_list _ (by with_reducible assumption) (fun k' t' I' oI' C' oC' D' m' ys' h' tk' E' hk' hC' hx' F' N' off' ne' hMark' => ?_) ?_); (all_goals (try (simp only [LCg.Off3, and_true] at off'))); kcf_last))
  exact trivial
theorem number_ok (w : World) (rw : Addr) (us : List Value) (n : Nat) (mt im : Led) (hR : RowIs us) (hS : Sep mt im) (hne : ∀ p ∈ mt ++ im, p.1 ≠ rw) : CallOk w 1346 18 700 [.ref rw] ((rw, W.listOf us.toArray n) :: (mt ++ im)) (NumPost rw mt im) := by
  unfold CallOk; intro prog p loose mean mg mb dp un gd cn cs ca ccd cl outer A₀ base h₀ L m s Q E B F X N T hk hd hu hret
  walk_at "my enter"
  k_steps
  · exact hret _ _ _ _ (by k_asm) (news_mid4 (by with_reducible assumption)) (number_out (by with_reducible assumption) (by with_reducible assumption) (num_ok2 (x := 0) (num_ok (by with_reducible assumption) (by with_reducible assumption) (by with_reducible assumption))) hS hne (And.left (by with_reducible assumption)) (And.left (by with_reducible assumption)) (And.right (And.right (And.right (by with_reducible assumption)))) (off1_ne (And.right (And.right (by with_reducible assumption)))))
  · exact hret _ _ _ _ (by k_asm) (news_mid (by with_reducible assumption)) (number_out (by with_reducible assumption) (by with_reducible assumption) (num_ok (by with_reducible assumption) (by with_reducible assumption) (by with_reducible assumption)) hS hne (And.left (by with_reducible assumption)) (Nat.ne_of_lt (And.left (by with_reducible assumption))) (And.right (And.right (by with_reducible assumption))) (allLt_ne (And.right (by with_reducible assumption))))


theorem small_ok (w : World) (f : Int) (h1 : -1000 ≤ f) (h2 : f ≤ 1000) : PureOk w 1341 6 100 [] [.int f] (smallD f) := by
  refine pureOk_of fun mt im hS => ?_
  walk_at "my opn"
  unfold CallOk; intro prog p loose mean mg mb dp un gd cn cs ca ccd cl outer A₀ base h₀ L m s Q E B F X N T hk hd hu hret
  walk_at "my enter"
  k_steps
  walk_at "my fin"
  refine' dat_eq ?x ?y
  (case x => walk_at "my dat")
  unfold smallD numD vecD
  rw [Int.fmod_eq_emod_of_nonneg _ (by decide)]
  rfl
theorem rg_p08_1 : True := by
  k_with "call ref" => (k_here; (with_reducible show wpAny _ _ (call (Value.ref 1341) _) _ _ _); k_dflt (refine pure_useOC (by k_asm) (by k_asm) (by k_asm) (by k_asm) (by k_asm) (by first | exact rfl | assumption) (by walk_at "my spl") (by walk_at "my sep") (by exact rfl) (by walk_at "my all") (by walk_at "my room") (by walk_at "my units") (small_ok _ _ (by walk_at "my num") (by walk_at "my num")) ?_); walk_at "my tail")
  exact trivial

theorem ints_of_dat {news : Led} : ∀ {ns : List Int} {vs : List Value}, DatAll news vs (ns.map .int) → IntsAre vs ns
  | [], _, h => by cases h; exact .nil
  | n :: ns, _, h => by
    cases h with
    | cons h1 h2 => cases h1; exact .cons n _ (ints_of_dat h2)
def lowOf : List Int → Int
  | [] => 0
  | b :: bs => b % 2 + 2 * lowOf bs
def highOf : List Int → Int
  | [] => 0
  | b :: bs => b / 2 + 2 * highOf bs
theorem rg_p08_2 : True := by
  k_with "call builtin:len" => (k_here; (with_reducible show wpAny _ _ (call (Value.builtin "len") [Value.ref _]) _ _ _); k_dflt (refine call_len_list (News.isList (by k_asm) (by k_mem)) (by (rw [List.size_toArray]; omega)) ?_); (try simp only [List.size_toArray]))
  exact trivial
section
variable {prog : Program} {w : World} {A : Around} {E : Value → Shared → Prop} {s : Shared} {env : Env} {h₀ : Heap} {x y1 y2 : Str} {body : List Stmt} {Q : Flow → Shared → Prop}
/-- a loop over a range that turns two ints and nothing else -/
theorem range_two {r : Addr} {a₀ b₀ c₁ c₂ : Int} {t₀ u₀ v₀ w₁ w₂ : Tok} {n : Nat} {m₀ : Str → Option Value} {news : Led} (J : Nat → Int → Int → Prop)
    (hh : A.handled = none) (hr : IsRange s.heap r a₀ b₀ 1 t₀ u₀ v₀) (hsmall : Builtin.Range.small a₀ b₀ 1 = true) (hn : Builtin.Range.rangeSize a₀ b₀ 1 = (n : Int)) (F : Fr h₀ env.locals s.heap m₀) (N : News h₀ env.locals s.heap news)
    (hy1 : m₀ y1 = some (.int c₁ w₁)) (hy2 : m₀ y2 = some (.int c₂ w₂)) (hJ : J 0 c₁ c₂)
    (turn : ∀ (j : Nat) (k a b : Int) (t ta tb : Tok) h tk own, j < n → k = a₀ + (j : Int) → J j a b → Fr h₀ env.locals h (fun z => if z = x then some (.int k t) else if z = y1 then some (.int a ta) else if z = y2 then some (.int b tb) else m₀ z) → News h₀ env.locals h (news ++ own) →
      wpAny (model prog w) A (execs body env) (InvPostN h₀ env.locals (fun m nx => nx = news ∧ (∃ a b ta tb, m y1 = some (.int a ta) ∧ m y2 = some (.int b tb) ∧ J (j + 1) a b) ∧ ∀ z, z ≠ x → z ≠ y1 → z ≠ y2 → m z = m₀ z) own (news.map (·.1)) { s with heap := h, toks := tk } Q) E { s with heap := h, toks := tk })
    (done : ∀ (v : Option Value) (a b : Int) (ta tb : Tok) h tk, J n a b → Fr h₀ env.locals h (fun z => if z = x then v else if z = y1 then some (.int a ta) else if z = y2 then some (.int b tb) else m₀ z) → News h₀ env.locals h news → Q .next { s with heap := h, toks := tk })
    (hxy : y1 ≠ x ∧ y2 ≠ x ∧ y2 ≠ y1 := by decide) :
    wpAny (model prog w) A (pyIter (.ref r)) (fun it s₂ => LoopAtV prog w A h₀ env x body Q E it s₂) E s := by
  obtain ⟨x1, x2, x3⟩ := hxy
  refine kpr_invN (fun j m nx => nx = news ∧ (∃ a b ta tb, m y1 = some (.int a ta) ∧ m y2 = some (.int b tb) ∧ J j a b) ∧ ∀ z, z ≠ x → z ≠ y1 → z ≠ y2 → m z = m₀ z) hh hr hsmall hn F N ⟨rfl, ⟨c₁, c₂, w₁, w₂, hy1, hy2, hJ⟩, fun _ _ _ _ => rfl⟩ ?_ ?_
  · rintro j k t m₁ nx h tk own hk hoff ⟨rfl, ⟨a, b, ta, tb, e1, e2, hj⟩, hm⟩ F₁ N₁
    have hjn : j < n := by
      obtain ⟨q, _⟩ := List.getElem?_eq_some_iff.mp hk
      rwa [rangeKs_length] at q
    have hkk : k = a₀ + (j : Int) := by
      simp [rangeKs, hjn] at hk
      exact hk.symm
    refine turn j k a b t ta tb h tk own hjn hkk hj ?_ N₁
    have e : (fun y => if y = x then some (Value.int k t) else m₁ y) = fun z => if z = x then some (.int k t) else if z = y1 then some (.int a ta) else if z = y2 then some (.int b tb) else m₀ z := by
      funext z
      by_cases h1 : z = x
      · simp only [if_pos h1]
      · by_cases h2 : z = y1
        · subst h2; simp [h1, e1]
        · by_cases h3 : z = y2
          · subst h3; simp [h1, h2, e2]
          · simp [h1, h2, h3, hm z h1 h2 h3]
    rw [← e]; exact F₁
  · rintro m₁ nx h tk ⟨rfl, ⟨a, b, ta, tb, e1, e2, hj⟩, hm⟩ F₁ N₁
    rw [rangeKs_length] at hj
    refine done (m₁ x) a b ta tb h tk hj ?_ N₁
    have e : m₁ = fun z => if z = x then m₁ x else if z = y1 then some (.int a ta) else if z = y2 then some (.int b tb) else m₀ z := by
      funext z
      by_cases h1 : z = x
      · subst h1; simp
      · by_cases h2 : z = y1
        · subst h2; simp [h1, e1]
        · by_cases h3 : z = y2
          · subst h3; simp [h1, h2, e2]
          · simp [h1, h2, h3, hm z h1 h2 h3]
    rw [← e]; exact F₁
end
theorem lowOf_take : ∀ {bs : List Int} {j : Nat}, j < bs.length → lowOf (bs.take (j + 1)) = lowOf (bs.take j) + bs.getD j 0 % 2 * 2 ^ j
  | [], _, h => nomatch h
  | b :: bs, 0, _ => by simp [lowOf]
  | b :: bs, j + 1, h => by
    have ih := lowOf_take (bs := bs) (j := j) (Nat.lt_of_succ_lt_succ h)
    have e : (bs.getD j 0 % 2) * (2 : Int) ^ (j + 1) = 2 * (bs.getD j 0 % 2 * 2 ^ j) := by rw [Int.pow_succ, ← Int.mul_assoc, Int.mul_comm]
    rw [List.take_succ_cons, List.take_succ_cons, List.getD_cons_succ, e]
    simp only [lowOf]
    rw [ih, Int.mul_add]
    omega
theorem highOf_take : ∀ {bs : List Int} {j : Nat}, j < bs.length → highOf (bs.take (j + 1)) = highOf (bs.take j) + bs.getD j 0 / 2 * 2 ^ j
  | [], _, h => nomatch h
  | b :: bs, 0, _ => by simp [highOf]
  | b :: bs, j + 1, h => by
    have ih := highOf_take (bs := bs) (j := j) (Nat.lt_of_succ_lt_succ h)
    have e : (bs.getD j 0 / 2) * (2 : Int) ^ (j + 1) = 2 * (bs.getD j 0 / 2 * 2 ^ j) := by rw [Int.pow_succ, ← Int.mul_assoc, Int.mul_comm]
    rw [List.take_succ_cons, List.take_succ_cons, List.getD_cons_succ, e]
    simp only [highOf]
    rw [ih, Int.mul_add]
    omega
theorem two_end {h₀ : Heap} {L : Addr} {h' : Heap} {tk : Nat} {m' m₀ : Str → Option Value} {x y1 y2 : Str} {news own : Led} {J : Int → Int → Prop} {a b : Int} {ta tb : Tok} {s₁ : Shared} (F : Fr h₀ L h' m') (N : News h₀ L h' (news ++ own))
    (h1 : m' y1 = some (.int a ta)) (h2 : m' y2 = some (.int b tb)) (hJ : J a b) (hm : ∀ z, z ≠ x → z ≠ y1 → z ≠ y2 → m' z = m₀ z) :
    InvEndN h₀ L (fun m nx => nx = news ∧ (∃ a b ta tb, m y1 = some (.int a ta) ∧ m y2 = some (.int b tb) ∧ J a b) ∧ ∀ z, z ≠ x → z ≠ y1 → z ≠ y2 → m z = m₀ z) own (news.map (·.1)) s₁ { s₁ with heap := h', toks := tk } :=
  inv_end (nx := news) F N (fun p hp => List.mem_append.mpr (.inl hp)) (fun p hp => List.mem_append.mpr (.inr hp)) rfl ⟨rfl, ⟨a, b, ta, tb, h1, h2, hJ⟩, hm⟩
theorem made_ok (w : World) (bs : List Int) (hb : NumOk bs) : PureOk w 1334 8 300 [] [bitD bs] (vecD bs.length (lowOf bs) (highOf bs)) := by
  intro mt im vs hS hD
  obtain ⟨v9, w9, e9, hA91, hA92⟩ := all_cons hD
  subst e9
  have e9 := all_nil hA92
  subst e9
  obtain ⟨q9, vs9, k9, e9, hm9, hA9⟩ := dat_list hA91
  subst e9
  have hI9 := ints_of_dat hA9
  have hl9 := hI9.length
  obtain ⟨hb1, hb2, hb3⟩ := hb
  unfold CallOk; intro prog p loose mean mg mb dp un gd cn cs ca ccd cl outer A₀ base h₀ L m s Q E B F X N T hk hd hu hret
  walk_at "my enter"
  k_with "pyIter ref" => (refine stop_here ?_)
  k_steps
  unfold StopHere
  (with_reducible rename IsRange _ _ _ _ _ _ _ _ => rg9)
  refine' range_two (y1 := Str.ofString "low") (y2 := Str.ofString "high") (fun j a b => a = lowOf (bs.take j) ∧ b = highOf (bs.take j)) rfl rg9 (turns_small (by omega) (by omega)) (turns_size (by omega)) ?bF ?bN ?bL ?bH ⟨rfl, rfl⟩ ?bT ?bD
  case bF => k_asm
  case bN => k_asm
  case bL => exact rfl
  case bH => exact rfl
  case bT =>
    rintro j9 k9 a9 b9 t9 ta9 tb9 h9 tk9 own9 hj9 hk9 ⟨ha9, hb9⟩ F9 N9
    have hj8 : j9 < bs.length := by omega
    have hk8 : k9.toNat = j9 := by omega
    have hx8 : 0 ≤ bs.getD k9.toNat 0 ∧ bs.getD k9.toNat 0 < 4 := by
      rw [hk8, List.getD_eq_getElem?_getD, List.getElem?_eq_getElem hj8]; exact hb3 _ (List.getElem_mem hj8)
    have hy8 : 0 ≤ (bs.getD k9.toNat 0).fdiv 2 ∧ (bs.getD k9.toNat 0).fdiv 2 < 2 := by
      rw [Int.fdiv_eq_ediv_of_nonneg _ (by decide)]; omega
    obtain ⟨hy6, hy7⟩ := hy8
    have hk6 : 0 ≤ k9 := by omega
    have hk7 : k9 < 12 := by omega
    k_steps
    refine' two_end (J := fun a b => a = lowOf (List.take (j9 + 1) bs) ∧ b = highOf (List.take (j9 + 1) bs)) ?xF ?xN ?x1 ?x2 ⟨?xl, ?xh⟩ ?xm
    case xF => k_asm
    case xN => k_asm
    case x1 => exact rfl
    case x2 => exact rfl
    case xm => (intro z z1 z2 z3; simp only [z1, z2, z3, if_false])
    case xl => (rw [ha9, lowOf_take hj8, ← hk8, Int.fmod_eq_emod_of_nonneg _ (by decide)])
    case xh => (rw [hb9, highOf_take hj8, ← hk8, Int.fdiv_eq_ediv_of_nonneg _ (by decide)])
  case bD =>
    rintro v9 a9 b9 ta9 tb9 h9 tk9 ⟨ha9, hb9⟩ F9 N9
    rw [List.take_of_length_le (show bs.length ≤ ((bs.length : Nat) : Int).toNat by omega)] at ha9 hb9
    subst ha9 hb9
    k_steps
    walk_at "my fin"; rw [← hl9]; walk_at "my dat"
theorem rg_p08_3 : True := by
  k_with "call ref" => (k_here; (with_reducible show wpAny _ _ (call (Value.ref 1334) _) _ _ _); k_dflt (refine pure_useOC (by k_asm) (by k_asm) (by k_asm) (by k_asm) (by k_asm) (by first | exact rfl | assumption) (by walk_at "my spl") (by walk_at "my sep") (by exact rfl) (by walk_at "my all") (by walk_at "my room") (by walk_at "my units") (made_ok _ _ (by with_reducible assumption)) ?_); walk_at "my tail")
  exact trivial

abbrev srcD (bs : List Int) (sg : Bool) : Dat := numD bs.length (lowOf bs) (highOf bs) sg true
theorem source_ok (w : World) (bs : List Int) (sg : Bool) (hb : NumOk bs) : PureOk w 1353 12 400 [] [numberD bs sg] (srcD bs sg) := by
  refine pureOk_of fun mt im hS => ?_
  walk_at "my opn"
  unfold CallOk; intro prog p loose mean mg mb dp un gd cn cs ca ccd cl outer A₀ base h₀ L m s Q E B F X N T hk hd hu hret
  walk_at "my enter"
  k_steps

  walk_at "my fin"; walk_at "my dat"
theorem rg_p08_4 : True := by
  k_with "call ref" => (k_here; (with_reducible show wpAny _ _ (call (Value.ref 1353) _) _ _ _); k_dflt (refine pure_useOC (by k_asm) (by k_asm) (by k_asm) (by k_asm) (by k_asm) (by first | exact rfl | assumption) (by walk_at "my spl") (by walk_at "my sep") (by exact rfl) (by walk_at "my all") (by walk_at "my room") (by walk_at "my units") (source_ok _ _ _ (by with_reducible assumption)) ?_); walk_at "my tail")
  exact trivial

theorem rst_p08 : True := by
  k_with_none
  exact trivial
theorem rxrp08_mac_a : True := by
  k_with "my room" => first | exact room2 (by assumption) rfl | exact room0 (by assumption) rfl | exact room1 (by assumption) | ktr_room
  exact trivial
theorem rxrp08_mac_b : True := by
  k_with "my units" => first | exact room2 (by assumption) rfl | exact room0 (by assumption) rfl | exact room1 (by assumption) | ktr_units
  exact trivial
theorem rxrp08_mac_1 : True := by
  k_with "my spl" => first | with_reducible_and_instances exact Spl.base _ _ | with_reducible_and_instances exact Spl.cons (Spl.base _ _) | with_reducible_and_instances exact Spl.cons (Spl.cons (Spl.base _ _)) | with_reducible_and_instances exact Spl.cons (Spl.cons (Spl.cons (Spl.base _ _))) | with_reducible_and_instances exact Spl.cons (Spl.cons (Spl.cons (Spl.cons (Spl.base _ _)))) | with_reducible_and_instances exact Spl.cons (Spl.cons (Spl.cons (Spl.cons (Spl.cons (Spl.base _ _))))) | with_reducible_and_instances exact Spl.cons (Spl.cons (Spl.cons (Spl.cons (Spl.cons (Spl.cons (Spl.base _ _)))))) | with_reducible_and_instances exact Spl.cons (Spl.cons (Spl.cons (Spl.cons (Spl.cons (Spl.cons (Spl.cons (Spl.base _ _))))))) | with_reducible_and_instances exact Spl.cons (Spl.cons (Spl.cons (Spl.cons (Spl.cons (Spl.cons (Spl.cons (Spl.cons (Spl.base _ _)))))))) | with_reducible_and_instances exact Spl.cons (Spl.cons (Spl.cons (Spl.cons (Spl.cons (Spl.cons (Spl.cons (Spl.cons (Spl.cons (Spl.base _ _))))))))) | with_reducible_and_instances exact Spl.cons (Spl.cons (Spl.cons (Spl.cons (Spl.cons (Spl.cons (Spl.cons (Spl.cons (Spl.cons (Spl.cons (Spl.base _ _)))))))))) | with_reducible_and_instances exact Spl.cons (Spl.cons (Spl.cons (Spl.cons (Spl.cons (Spl.cons (Spl.cons (Spl.cons (Spl.cons (Spl.cons (Spl.cons (Spl.base _ _))))))))))) | with_reducible_and_instances exact Spl.cons (Spl.cons (Spl.cons (Spl.cons (Spl.cons (Spl.cons (Spl.cons (Spl.cons (Spl.cons (Spl.cons (Spl.cons (Spl.cons (Spl.base _ _)))))))))))) | with_reducible_and_instances exact Spl.cons (Spl.cons (Spl.cons (Spl.cons (Spl.cons (Spl.cons (Spl.cons (Spl.cons (Spl.cons (Spl.cons (Spl.cons (Spl.cons (Spl.cons (Spl.base _ _))))))))))))) | with_reducible_and_instances exact Spl.cons (Spl.cons (Spl.cons (Spl.cons (Spl.cons (Spl.cons (Spl.cons (Spl.cons (Spl.cons (Spl.cons (Spl.cons (Spl.cons (Spl.cons (Spl.cons (Spl.base _ _)))))))))))))) | with_reducible_and_instances exact Spl.cons (Spl.cons (Spl.cons (Spl.cons (Spl.cons (Spl.cons (Spl.cons (Spl.cons (Spl.cons (Spl.cons (Spl.cons (Spl.cons (Spl.cons (Spl.cons (Spl.cons (Spl.base _ _))))))))))))))) | with_reducible_and_instances exact Spl.cons (Spl.cons (Spl.cons (Spl.cons (Spl.cons (Spl.cons (Spl.cons (Spl.cons (Spl.cons (Spl.cons (Spl.cons (Spl.cons (Spl.cons (Spl.cons (Spl.cons (Spl.cons (Spl.base _ _)))))))))))))))) | with_reducible_and_instances exact Spl.cons (Spl.cons (Spl.cons (Spl.cons (Spl.cons (Spl.cons (Spl.cons (Spl.cons (Spl.cons (Spl.cons (Spl.cons (Spl.cons (Spl.cons (Spl.cons (Spl.cons (Spl.cons (Spl.cons (Spl.base _ _))))))))))))))))) | with_reducible_and_instances exact Spl.cons (Spl.cons (Spl.cons (Spl.cons (Spl.cons (Spl.cons (Spl.cons (Spl.cons (Spl.cons (Spl.cons (Spl.cons (Spl.cons (Spl.cons (Spl.cons (Spl.cons (Spl.cons (Spl.cons (Spl.cons (Spl.base _ _)))))))))))))))))) | with_reducible_and_instances exact Spl.cons (Spl.cons (Spl.cons (Spl.cons (Spl.cons (Spl.cons (Spl.cons (Spl.cons (Spl.cons (Spl.cons (Spl.cons (Spl.cons (Spl.cons (Spl.cons (Spl.cons (Spl.cons (Spl.cons (Spl.cons (Spl.cons (Spl.base _ _)))))))))))))))))))
  exact trivial
theorem rxrp08_mac_2 : True := by
  k_with "my sub" => first | exact id_sub | assumption | (refine cons_sub ?_; walk_at "my sub") | (refine up_trans ?_ (by assumption); walk_at "my sub")
  exact trivial
theorem rxrp08_mac_3 : True := by
  k_with "my mem" => first | assumption | exact List.Mem.head _ | (refine List.Mem.tail _ ?_; walk_at "my mem") | (refine up (by assumption) ?_; walk_at "my mem")
  exact trivial
theorem rxrp08_mack_1 : True := by
  k_with "my kmem" => (refine mem_r ?_; walk_at "my mem")
  exact trivial
theorem rxrp08_mac_4 : True := by
  k_with "my lt" => first | assumption | exact And.right (by assumption) | exact And.right (And.right (by assumption))
  exact trivial
theorem rxrp08_mac_5 : True := by
  k_with "my sep" => first | assumption | exact Sep.nil | (refine Sep.cons ?_ ?_; (case' refine_1 => walk_at "my lt"); walk_at "my sep")
  exact trivial
theorem rxrp08_mac_6 : True := by
  k_with "my dat" => first | with_reducible_and_instances exact DatIn.int _ _ | with_reducible_and_instances exact DatIn.bool _ | with_reducible_and_instances exact DatIn.str _ _ | with_reducible_and_instances exact DatIn.none | assumption | (exact dat_up (by assumption) (by walk_at "my sub")) | (exact DatIn.tuple (by walk_at "my mem") (by walk_at "my all")) | (exact DatIn.list (by walk_at "my mem") (by walk_at "my all")) | exact DatIn.int _ _ | exact DatIn.bool _ | exact DatIn.str _ _ | exact DatIn.none
  exact trivial
theorem rxrp08_mac_7 : True := by
  k_with "my all" => first | exact DatAll.nil | (exact DatAll.cons (by walk_at "my dat") (by walk_at "my all"))
  exact trivial
theorem rxrp08_mac_8 : True := by
  k_with "newTuple" => (k_here; k_dflt (refine tup_new (by k_asm) (by k_asm) (by walk_at "my spl") (by walk_at "my sep") ?_ (by kmk_size)); intro D'w im'w h'w F'w N'w hs'w hS'w hm'w; (try k_sweep))
  exact trivial
theorem rxrp08_mac_9 : True := by
  k_with "my args" => ((case hv => exact rfl); (case B => k_asm); (case F => k_asm); (case K => k_asm); (case N => k_asm); (case T => k_asm); (case hk => first | exact rfl | assumption); (case hX => walk_at "my spl"); (case hS => walk_at "my sep"); (case hD => walk_at "my all"); (case hd => walk_at "my room"); (case hu => walk_at "my units"))
  exact trivial
theorem rxrp08_mac_10 : True := by
  k_with "my fin" => (refine pd_fin (by assumption) (by k_asm) (by k_asm) (by walk_at "my spl") (by walk_at "my sub") (by walk_at "my sub") (by walk_at "my sep") ?_)
  exact trivial
theorem rxrp08_mac_11 : True := by
  k_with "my open1" => (first | (rename DatAll _ _ (_ :: _) => hA9w; obtain ⟨v9w, w9w, e9w, hA91w, hA92w⟩ := all_cons hA9w; subst e9w; clear hA9w) | (rename DatAll _ _ [] => hA9w; have e9w := all_nil hA9w; subst e9w; clear hA9w) | (rename DatIn _ _ (Dat.int _) => hA9w; obtain ⟨t9w, e9w⟩ := dat_int hA9w; subst e9w; clear hA9w) | (rename DatIn _ _ (Dat.bool _) => hA9w; have e9w := dat_bool hA9w; subst e9w; clear hA9w) | (rename DatIn _ _ (Dat.str _) => hA9w; obtain ⟨t9w, e9w⟩ := dat_str hA9w; subst e9w; clear hA9w) | (rename DatIn _ _ Dat.none => hA9w; have e9w := dat_none hA9w; subst e9w; clear hA9w) | (rename DatIn _ _ (Dat.tuple _) => hA9w; obtain ⟨p9w, v9w, k9w, e9w, hm9w, hA91w⟩ := dat_tup hA9w; subst e9w; clear hA9w))
  exact trivial
theorem rxrp08_mac_12 : True := by
  k_with "my open" => repeat walk_at "my open1"
  exact trivial
theorem rxrp08_mac_13 : True := by
  k_with "my opn" => ((try dsimp only [OpD, OpL]); intros; (try (first | ((with_reducible refine opd_of ?_); intro r9w hD9w; walk_at "my opn") | ((with_reducible refine opl_of ?_); intro v9w hA9w; walk_at "my opn"))))
  exact trivial
theorem rxrp08_mac_14 : True := by
  k_with "my tail" => (intro h9w tk9w im9w F9w N9w hs9w hS9w; walk_at "my opn"; (try k_fold); (try k_sweep))
  exact trivial
theorem rxrp08_mac_15 : True := by
  k_with "my enter" => (refine wpAny_call ?_; k_dflt (refine code_def (by k_asm) (by k_asm) (by k_asm) (by k_asm) (by k_asm) (by exact rfl) (by exact rfl) (by assumption) (by k_is) (by k_is) (by walk_at "my room") (by first | exact BindsTo.of_eq rfl | exact binds_K (by k_in) rfl (by k_is) rfl rfl rfl) (by exact locs rfl) ?_ (by exact rfl) (by exact rfl) (by exact rfl) (by decide); k_whole); intro g'w L'w h'w FG'w F'w N'w B'w X'w T'w; (try dsimp only); (try k_fold))
  exact trivial
theorem rxrp08_mac_16 : True := by
  k_with "my num" => first | with_reducible assumption | decide | omega | exact Or.inl rfl | exact Or.inr rfl
  exact trivial
theorem rxrp08_mac_17 : True := by
  k_with "my new" => (intro D'w im'w h'w F'w N'w hs'w hS'w hm'w; (try simp only [List.cons_append, List.nil_append, List.drop_succ_cons, List.drop_zero] at hm'w); (try k_sweep))
  exact trivial
theorem rxrp08_mac_18 : True := by
  k_with "binaryOp Add ref ref" => (k_here; (with_reducible show wpAny _ _ (binaryOp _ (Value.ref _) (Value.ref _)) _ _ _); k_dflt (refine tup_cat (by k_asm) (by k_asm) (by walk_at "my spl") (by walk_at "my sep") (by k_mem) (by k_mem) (by exact List.cons_ne_nil _ _) (by exact List.cons_ne_nil _ _) (by exact Nat.le_of_ble_eq_true rfl) (by exact rfl) ?_); walk_at "my new")
  exact trivial
theorem rxrp08_mac_19 : True := by
  k_with "subscriptTail Name Slice ref ref" => (k_here; (with_reducible show wpAny _ _ (subscriptTail _ (PySem.Expr.Slice _ none none _) (Value.ref _) (Value.ref _)) _ _ _); k_dflt (refine tup_from (a := 1) (by k_asm) (by k_asm) (by walk_at "my spl") (by walk_at "my sep") (by k_mem) (by decide) (by exact Nat.le_of_ble_eq_true rfl) (by exact rfl) ?_ (by with_unfolding_all rfl) (by kmk_pure) (by exact Nat.le_of_ble_eq_true rfl)); walk_at "my new")
  exact trivial
theorem rxrp08_mac_20 : True := by
  k_with "my finl" => (refine pd_finL (by assumption) (by k_asm) (by k_asm) (by walk_at "my spl") (by walk_at "my sub") (by walk_at "my sub") (by walk_at "my sep") (by walk_at "my lt") ?_)
  exact trivial
theorem rxrp08_mac_21 : True := by
  k_with "my finT" => (refine pd_finT (by with_reducible assumption) (by k_asm) (by k_asm) (by walk_at "my spl") (by walk_at "my sub") (by walk_at "my sub") (by walk_at "my sep") (by walk_at "my lt") (by with_reducible assumption) (by with_reducible assumption) (by with_reducible assumption) ?_ ?_)
  exact trivial
theorem rxrp08_mac_ne7 : True := by
  k_with "my ne" => first | with_reducible assumption | (with_reducible refine Ne.symm ?_; with_reducible assumption) | (with_reducible refine Nat.ne_of_lt ?_; with_reducible assumption) | (with_reducible refine Nat.ne_of_gt ?_; with_reducible assumption)
  exact trivial
theorem rxrp08_mac_nen1 : True := by
  k_with "my nea" => first | exact Nat.ne_of_lt (And.left (by assumption)) | exact Nat.ne_of_gt (And.left (by assumption)) | exact Nat.ne_of_lt (And.left (And.right (by assumption))) | exact Nat.ne_of_gt (And.left (And.right (by assumption))) | exact Nat.ne_of_lt (And.left (And.right (And.right (by assumption)))) | exact Nat.ne_of_gt (And.left (And.right (And.right (by assumption)))) | exact Nat.ne_of_lt (And.left (And.right (And.right (And.right (by assumption))))) | exact Nat.ne_of_gt (And.left (And.right (And.right (And.right (by assumption))))) | exact Nat.ne_of_lt (And.left (And.right (And.right (And.right (And.right (by assumption)))))) | exact Nat.ne_of_gt (And.left (And.right (And.right (And.right (And.right (by assumption)))))) | exact Nat.ne_of_lt (And.left (And.right (And.right (And.right (And.right (And.right (by assumption))))))) | exact Nat.ne_of_gt (And.left (And.right (And.right (And.right (And.right (And.right (by assumption))))))) | exact Nat.ne_of_lt (And.left (And.right (And.right (And.right (And.right (And.right (And.right (by assumption)))))))) | exact Nat.ne_of_gt (And.left (And.right (And.right (And.right (And.right (And.right (And.right (by assumption)))))))) | exact Nat.ne_of_lt (And.left (And.right (And.right (And.right (And.right (And.right (And.right (And.right (by assumption))))))))) | exact Nat.ne_of_gt (And.left (And.right (And.right (And.right (And.right (And.right (And.right (And.right (by assumption))))))))) | exact Nat.ne_of_lt (And.left (And.right (And.right (And.right (And.right (And.right (And.right (And.right (And.right (by assumption)))))))))) | exact Nat.ne_of_gt (And.left (And.right (And.right (And.right (And.right (And.right (And.right (And.right (And.right (by assumption)))))))))) | exact Nat.ne_of_lt (And.left (And.right (And.right (And.right (And.right (And.right (And.right (And.right (And.right (And.right (by assumption))))))))))) | exact Nat.ne_of_gt (And.left (And.right (And.right (And.right (And.right (And.right (And.right (And.right (And.right (And.right (by assumption))))))))))) | exact Nat.ne_of_lt (And.left (And.right (And.right (And.right (And.right (And.right (And.right (And.right (And.right (And.right (And.right (by assumption)))))))))))) | exact Nat.ne_of_gt (And.left (And.right (And.right (And.right (And.right (And.right (And.right (And.right (And.right (And.right (And.right (by assumption))))))))))))
  exact trivial
theorem rxrp08_mac_nek2 : True := by
  k_with "my kne" => first | walk_at "my ne" | ((try dsimp only); walk_at "my ne") | walk_at "my nea"
  exact trivial
theorem rxrp08_p02_1 : True := by
  k_with "call ref" => (k_here; (with_reducible show wpAny _ _ (call (Value.ref 73) _) _ _ _); k_dflt (refine pure_useOC (by k_asm) (by k_asm) (by k_asm) (by k_asm) (by k_asm) (by first | exact rfl | assumption) (by walk_at "my spl") (by walk_at "my sep") (by exact rfl) (by walk_at "my all") (by walk_at "my room") (by walk_at "my units") (mask_ok _ _ (by omega) (by omega)) ?_); walk_at "my tail")
  exact trivial
theorem rxrp08_p02_2 : True := by
  k_with "call ref" => (k_here; (with_reducible show wpAny _ _ (call (Value.ref 81) _) _ _ _); k_dflt (refine pure_useOC (by k_asm) (by k_asm) (by k_asm) (by k_asm) (by k_asm) (by first | exact rfl | assumption) (by walk_at "my spl") (by walk_at "my sep") (by exact rfl) (by walk_at "my all") (by walk_at "my room") (by walk_at "my units") (vec_ok _ _ _ _ (by omega) (by omega)) ?_); walk_at "my tail")
  exact trivial
theorem rxrp08_p02_3 : True := by
  k_with "call ref" => (k_here; (with_reducible show wpAny _ _ (call (Value.ref 130) _) _ _ _); k_dflt (refine pure_useOC (by k_asm) (by k_asm) (by k_asm) (by k_asm) (by k_asm) (by first | exact rfl | assumption) (by walk_at "my spl") (by walk_at "my sep") (by exact rfl) (by walk_at "my all") (by walk_at "my room") (by walk_at "my units") (code_ok _ _ _ _ _ (by omega) (by omega)) ?_); walk_at "my tail")
  exact trivial
theorem rxrp08_p02_4 : True := by
  k_with "call ref" => (k_here; (with_reducible show wpAny _ _ (call (Value.ref 158) _) _ _ _); k_dflt (refine pure_useOC (by k_asm) (by k_asm) (by k_asm) (by k_asm) (by k_asm) (by first | exact rfl | assumption) (by walk_at "my spl") (by walk_at "my sep") (by exact rfl) (by walk_at "my all") (by walk_at "my room") (by walk_at "my units") (extend_ok _ _ _ _ _ _ (by walk_at "my num") (by walk_at "my num") (by walk_at "my num") (by walk_at "my num") (by walk_at "my num") (by walk_at "my num") (by walk_at "my num")) ?_); walk_at "my tail")
  exact trivial
theorem rxrp08_p02_5 : True := by
  k_with "call ref" => (k_here; (with_reducible show wpAny _ _ (call (Value.ref 158) _) _ _ _); k_dflt (refine pure_useOC (by k_asm) (by k_asm) (by k_asm) (by k_asm) (by k_asm) (by first | exact rfl | assumption) (by walk_at "my spl") (by walk_at "my sep") (by exact rfl) (by walk_at "my all") (by walk_at "my room") (by walk_at "my units") (extend_same_ok _ _ _ _ _ (by walk_at "my num") (by walk_at "my num") (by walk_at "my num") (by walk_at "my num") (by walk_at "my num") (by walk_at "my num")) ?_); walk_at "my tail")
  exact trivial
theorem rxrp08_p02_6 : True := by
  k_with "call ref" => (k_here; (with_reducible show wpAny _ _ (call (Value.ref 123) _) _ _ _); k_dflt (refine pure_useOC (by k_asm) (by k_asm) (by k_asm) (by k_asm) (by k_asm) (by first | exact rfl | assumption) (by walk_at "my spl") (by walk_at "my sep") (by exact rfl) (by walk_at "my all") (by walk_at "my room") (by walk_at "my units") (to_int_ok _ _ (by walk_at "my num") (by walk_at "my num")) ?_); walk_at "my tail")
  exact trivial
theorem rxrp08_p03_1 : True := by
  k_with "call ref" => (k_here; (with_reducible show wpAny _ _ (call (Value.ref 913) _) _ _ _); k_dflt (refine pure_useOC (by k_asm) (by k_asm) (by k_asm) (by k_asm) (by k_asm) (by first | exact rfl | assumption) (by walk_at "my spl") (by walk_at "my sep") (by exact rfl) (by walk_at "my all") (by walk_at "my room") (by walk_at "my units") (number_value_ok _ _ _ _ _ _ (by walk_at "my num") (by walk_at "my num") (by walk_at "my num") (by walk_at "my num") (by walk_at "my num") (by walk_at "my num") (by walk_at "my num")) ?_); walk_at "my tail")
  exact trivial
theorem rxrp08_p03_2 : True := by
  k_with "call ref" => (k_here; (with_reducible show wpAny _ _ (call (Value.ref 1039) _) _ _ _); k_dflt (refine pure_useOC (by k_asm) (by k_asm) (by k_asm) (by k_asm) (by k_asm) (by first | exact rfl | assumption) (by walk_at "my spl") (by walk_at "my sep") (by exact rfl) (by walk_at "my all") (by walk_at "my room") (by walk_at "my units") (expr_type_ok _ _ _ _ _ _ _ ) ?_); walk_at "my tail")
  exact trivial
theorem rxrp08_p03_3 : True := by
  k_with "call ref" => (k_here; (with_reducible show wpAny _ _ (call (Value.ref 1060) _) _ _ _); k_dflt (refine pure_useOC (by k_asm) (by k_asm) (by k_asm) (by k_asm) (by k_asm) (by first | exact rfl | assumption) (by walk_at "my spl") (by walk_at "my sep") (by exact rfl) (by walk_at "my all") (by walk_at "my room") (by walk_at "my units") (build_ok _ _ _ _ _ _ _ (by walk_at "my num") (by walk_at "my num") (by walk_at "my num") (by walk_at "my num") (by walk_at "my num") (by walk_at "my num") (by walk_at "my num")) ?_); walk_at "my tail")
  exact trivial
theorem rxrp08_p03_4 : True := by
  k_with "call ref" => (k_here; (with_reducible show wpAny _ _ (call (Value.ref 1067) _) _ _ _); k_dflt (refine pure_useOC (by k_asm) (by k_asm) (by k_asm) (by k_asm) (by k_asm) (by first | exact rfl | assumption) (by walk_at "my spl") (by walk_at "my sep") (by exact rfl) (by walk_at "my all") (by walk_at "my room") (by walk_at "my units") (self_determined_ok _ _ _ _ _ _ _ (by walk_at "my num") (by walk_at "my num") (by walk_at "my num") (by walk_at "my num") (by walk_at "my num") (by walk_at "my num") (by walk_at "my num")) ?_); walk_at "my tail")
  exact trivial
theorem rxrp08_p03_5 : True := by
  k_with "call ref" => (k_here; (with_reducible show wpAny _ _ (call (Value.ref 1081) _) _ _ _); k_dflt (refine pure_useOC (by k_asm) (by k_asm) (by k_asm) (by k_asm) (by k_asm) (by first | exact rfl | assumption) (by walk_at "my spl") (by walk_at "my sep") (by exact rfl) (by walk_at "my all") (by walk_at "my room") (by walk_at "my units") (constant_vec_ok _ _ _ _ _) ?_); walk_at "my tail")
  exact trivial
theorem rxrp08_p03_6 : True := by
  k_with "call ref" => (k_here; (with_reducible show wpAny _ _ (call (Value.ref 1088) _) _ _ _); k_dflt (refine pure_useOC (by k_asm) (by k_asm) (by k_asm) (by k_asm) (by k_asm) (by first | exact rfl | assumption) (by walk_at "my spl") (by walk_at "my sep") (by exact rfl) (by walk_at "my all") (by walk_at "my room") (by walk_at "my units") (constant_ok _ _ _ _ _ _ _ (by walk_at "my num") (by walk_at "my num") (by walk_at "my num") (by walk_at "my num") (by walk_at "my num") (by walk_at "my num") (by walk_at "my num")) ?_); walk_at "my tail")
  exact trivial
theorem rxrp08_p03_7 : True := by
  k_with "call ref" => (k_here; (with_reducible show wpAny _ _ (call (Value.ref 1095) _) _ _ _); k_dflt (refine pure_useOC (by k_asm) (by k_asm) (by k_asm) (by k_asm) (by k_asm) (by first | exact rfl | assumption) (by walk_at "my spl") (by walk_at "my sep") (by exact rfl) (by walk_at "my all") (by walk_at "my room") (by walk_at "my units") (whole_ok _ _ _ (by walk_at "my num") (by walk_at "my num")) ?_); walk_at "my tail")
  exact trivial
theorem rxrp08_p04_1 : True := by
  k_with "call ref" => (k_here; (with_reducible show wpAny _ _ (call (Value.ref 864) _) _ _ _); k_dflt (refine pure_useOC (by k_asm) (by k_asm) (by k_asm) (by k_asm) (by k_asm) (by first | exact rfl | assumption) (by walk_at "my spl") (by walk_at "my sep") (by exact rfl) (by walk_at "my all") (by walk_at "my room") (by walk_at "my units") (checked_width_ok _ _ _ (by walk_at "my num") (by walk_at "my num")) ?_); walk_at "my tail")
  exact trivial
theorem rxrp08_p04_2 : True := by
  k_with "call ref" => (k_here; (with_reducible show wpAny _ _ (call (Value.ref 1102) _) _ _ _); k_dflt (refine pure_useOC (by k_asm) (by k_asm) (by k_asm) (by k_asm) (by k_asm) (by first | exact rfl | assumption) (by walk_at "my spl") (by walk_at "my sep") (by exact rfl) (by walk_at "my all") (by walk_at "my room") (by walk_at "my units") (range_of_ok _ _ _ _ (by walk_at "my num") (by walk_at "my num") (by walk_at "my num") (by walk_at "my num")) ?_); walk_at "my tail")
  exact trivial
theorem rxrp08_p05_1 : True := by
  k_with "my mem0" => first | with_reducible_and_instances exact List.Mem.head _ | (with_reducible_and_instances refine List.Mem.tail _ ?_; walk_at "my mem0")
  exact trivial
theorem rxrp08_p05_2 : True := by
  k_with "compareOp NotEq ref ref" => (k_here; k_dflt (first | (refine ne_row_t (by k_asm) (by walk_at "my mem0") (by with_reducible assumption) (by walk_at "my mem0") (by walk_at "my units") (by with_reducible assumption) ?_) | (refine ne_row_f (by k_asm) (by walk_at "my mem0") (by with_reducible assumption) (by walk_at "my mem0") (by walk_at "my units") (by with_reducible assumption) ?_)))
  exact trivial
theorem rxrp08_p05k_1 : True := by
  k_with "my kupd" => first | (exact Upd.head (by with_reducible assumption)) | (exact Upd.tail (by k_ne) (by k_upd))
  exact trivial
theorem rxrp08_p05_3 : True := by
  k_with "my front" => first | exact Front.head _ _ | exact Front.tail _ (Front.head _ _) | exact Front.tail _ (Front.tail _ (Front.head _ _)) | exact Front.tail _ (Front.tail _ (Front.tail _ (Front.head _ _))) | exact Front.tail _ (Front.tail _ (Front.tail _ (Front.tail _ (Front.head _ _)))) | exact Front.tail _ (Front.tail _ (Front.tail _ (Front.tail _ (Front.tail _ (Front.head _ _))))) | exact Front.tail _ (Front.tail _ (Front.tail _ (Front.tail _ (Front.tail _ (Front.tail _ (Front.head _ _)))))) | exact Front.tail _ (Front.tail _ (Front.tail _ (Front.tail _ (Front.tail _ (Front.tail _ (Front.tail _ (Front.head _ _))))))) | exact Front.tail _ (Front.tail _ (Front.tail _ (Front.tail _ (Front.tail _ (Front.tail _ (Front.tail _ (Front.tail _ (Front.head _ _)))))))) | exact Front.tail _ (Front.tail _ (Front.tail _ (Front.tail _ (Front.tail _ (Front.tail _ (Front.tail _ (Front.tail _ (Front.tail _ (Front.head _ _))))))))) | exact Front.tail _ (Front.tail _ (Front.tail _ (Front.tail _ (Front.tail _ (Front.tail _ (Front.tail _ (Front.tail _ (Front.tail _ (Front.tail _ (Front.head _ _)))))))))) | exact Front.tail _ (Front.tail _ (Front.tail _ (Front.tail _ (Front.tail _ (Front.tail _ (Front.tail _ (Front.tail _ (Front.tail _ (Front.tail _ (Front.tail _ (Front.head _ _))))))))))) | exact Front.tail _ (Front.tail _ (Front.tail _ (Front.tail _ (Front.tail _ (Front.tail _ (Front.tail _ (Front.tail _ (Front.tail _ (Front.tail _ (Front.tail _ (Front.tail _ (Front.head _ _)))))))))))) | exact Front.tail _ (Front.tail _ (Front.tail _ (Front.tail _ (Front.tail _ (Front.tail _ (Front.tail _ (Front.tail _ (Front.tail _ (Front.tail _ (Front.tail _ (Front.tail _ (Front.tail _ (Front.head _ _)))))))))))))
  exact trivial
theorem rxrp08_p05_4 : True := by
  k_with "my alln" => first | with_reducible assumption | exact List.forall_mem_nil _ | (refine List.forall_mem_cons.mpr ⟨?_, ?_⟩; (case' refine_1 => k_ne); walk_at "my alln") | exact allLt_ne (by with_reducible assumption) | exact allLt_ne (And.right (by with_reducible assumption)) | exact allLt_ne (And.right (And.right (by with_reducible assumption))) | exact allLt_ne (And.right (And.right (And.right (by with_reducible assumption)))) | exact allLt_ne (And.right (And.right (And.right (And.right (by with_reducible assumption))))) | exact allLt_ne (And.right (And.right (And.right (And.right (And.right (by with_reducible assumption)))))) | exact allLt_ne (And.right (And.right (And.right (And.right (And.right (And.right (by with_reducible assumption))))))) | exact allLt_ne (And.right (And.right (And.right (And.right (And.right (And.right (And.right (by with_reducible assumption)))))))) | exact allLt_ne (And.right (And.right (And.right (And.right (And.right (And.right (And.right (And.right (by with_reducible assumption))))))))) | exact allLt_ne (And.right (And.right (And.right (And.right (And.right (And.right (And.right (And.right (And.right (by with_reducible assumption)))))))))) | exact allLt_ne (And.right (And.right (And.right (And.right (And.right (And.right (And.right (And.right (And.right (And.right (by with_reducible assumption))))))))))) | exact allLt_ne (And.right (And.right (And.right (And.right (And.right (And.right (And.right (And.right (And.right (And.right (And.right (by with_reducible assumption))))))))))))
  exact trivial
theorem rxrp08_p05k_2 : True := by
  k_with "my kupd" => first | (exact Upd.head (by walk_at "my alln")) | (exact Upd.tail (by k_ne) (by k_upd))
  exact trivial
theorem rxrp08_p05_5 : True := by
  k_with "call ref" => (k_here; (with_reducible show wpAny _ _ (call (Value.ref 1320) _) _ _ _); k_dflt (refine next_use (by with_reducible assumption) (by k_asm) (by k_asm) (by k_asm) (by k_asm) (by k_asm) (by first | exact rfl | assumption) (by walk_at "my front") (by walk_at "my alln") (by walk_at "my room") (by walk_at "my units") ?_); intro x'w t'w us'w n'w h'w tk'w F'w N'w hx0w hx1w hR'w; (try k_sweep))
  exact trivial
theorem rxrp08_p05_6 : True := by
  k_with "UnrEnd" => (refine unr_front (by k_asm) (by k_asm) (by walk_at "my front") (by walk_at "my alln") ?_)
  exact trivial
theorem rxrp08_p05a_1 : True := by
  k_with "my sep" => first | assumption | (exact sep_addr (by with_reducible assumption) (by exact rfl)) | exact Sep.nil | (refine Sep.cons ?_ ?_; (case' refine_1 => walk_at "my lt"); walk_at "my sep")
  exact trivial
theorem rxrp08_p05b_1 : True := by
  k_with "pyIter ref" => (k_here; (with_reducible show wpAny _ _ (pyIter (Value.ref _)) (fun it s₂ => TurnsAt _ _ _ _ _ _ _ _ _ it s₂) _ _); refine stop_here ?_)
  exact trivial
theorem rxrp08_p05b_2 : True := by
  k_with "my for" => (k_here; (rename Fr _ _ _ _ => lF'w); k_dflt (refine' For_turns lF'w ?_))
  exact trivial
theorem rxrp08_p05b_3 : True := by
  k_with "exec For Tuple Name cons nil" => walk_at "my for"
  exact trivial
theorem rxrp08_p05b_4 : True := by
  k_with "my kept1" => first | exact List.forall_mem_nil _ | (refine List.forall_mem_cons.mpr ⟨rfl, ?_⟩; walk_at "my kept1")
  exact trivial
theorem rxrp08_p05b_5 : True := by
  k_with "my kname" => first | with_reducible_and_instances exact List.Mem.head _ | (with_reducible_and_instances refine List.Mem.tail _ ?_; walk_at "my kname")
  exact trivial
theorem rxrp08_p05b_5a : True := by
  k_with "my knames" => first | exact List.forall_mem_nil _ | (with_reducible refine names_cons1 ?_ ?_; (case' refine_1 => walk_at "my kname"); walk_at "my knames") | (with_reducible refine names_cons ?_ ?_; (case' refine_1 => walk_at "my kname"); walk_at "my knames")
  exact trivial
theorem rxrp08_p05b_5b : True := by
  k_with "my keptz" => first | with_reducible exact KeptZ.same | (with_reducible refine KeptZ.ovr ?_ ?_ ?_; (case' refine_1 => walk_at "my knames"); (case' refine_2 => walk_at "my knames"); walk_at "my keptz") | (with_reducible refine KeptZ.set ?_ ?_; (case' refine_1 => walk_at "my kname"); walk_at "my keptz") | (intro z9w hz9w; simp only [List.mem_cons, List.not_mem_nil, or_false, not_or] at hz9w; simp only [hz9w, if_false, ovr, List.contains_eq_mem, List.mem_cons, List.not_mem_nil, or_self, decide_false, Bool.false_eq_true]; (try exact rfl); walk_say "KEPT BY SIMP")
  exact trivial
theorem rxrp08_p05b_5c : True := by
  k_with "my kept" => (refine Kept.of ?_ ?_; (case' refine_1 => walk_at "my kept1"); (case' refine_2 => walk_at "my keptz"))
  exact trivial
theorem rxrp08_p05b_6 : True := by
  k_with "my tend" => (refine tend (by k_asm) (by k_asm) (by walk_at "my spl") (by walk_at "my sep") (by first | with_reducible assumption | assumption | (exact off_addr (by with_reducible assumption) (by exact rfl))) (by first | exact List.forall_mem_nil _ | (refine src1 ?_; walk_at "my mem")) ?_)
  exact trivial
theorem rxrp08_p07_1 : True := by
  k_with "call ref" => (k_here; (with_reducible show wpAny _ _ (call (Value.ref 1327) _) _ _ _); k_dflt (refine bits_use (by with_reducible assumption) (wide_draw (by with_reducible assumption)) (by k_asm) (by k_asm) (by k_asm) (by k_asm) (by k_asm) (by first | exact rfl | assumption) (by walk_at "my front") (by walk_at "my alln") (by walk_at "my room") (by walk_at "my units") ?_); intro q'w vs'w bs'w k'w us'w n'w h'w tk'w F'w N'w hI'w hlb'w hlc'w hbb'w hR'w l1w; (try k_sweep))
  exact trivial
theorem rxrp08_p07_2 : True := by
  k_with "exec Assign cons ListComp" => (k_here; k_dflt (refine LCg.Assign_ListComp_U (F₀ := by k_asm) (by rfl) (by with_unfolding_all rfl) (by with_unfolding_all rfl) (by decide) (by rfl) (by decide) (by rfl) (by rfl) (by rfl) ?_))
  exact trivial
theorem rxrp08_p07_3 : True := by
  k_with "CompSrc" => (k_here; k_dflt (refine LCg.CompSrc.ledger (by rfl) (by k_asm) (by k_asm) (by walk_at "my mem0") (by kcf_size) ?_; intro g'w; (refine' kcf_list _ (by with_reducible assumption) (fun k' t' I' oI' C' oC' D' m' ys' h' tk' E' hk' hC' hx' F' N' off' ne' hMark' => ?_) ?_); (all_goals (try (simp only [LCg.Off3, and_true] at off'))); kcf_last))
  exact trivial
theorem rxrp08_p08_1 : True := by
  k_with "call ref" => (k_here; (with_reducible show wpAny _ _ (call (Value.ref 1341) _) _ _ _); k_dflt (refine pure_useOC (by k_asm) (by k_asm) (by k_asm) (by k_asm) (by k_asm) (by first | exact rfl | assumption) (by walk_at "my spl") (by walk_at "my sep") (by exact rfl) (by walk_at "my all") (by walk_at "my room") (by walk_at "my units") (small_ok _ _ (by walk_at "my num") (by walk_at "my num")) ?_); walk_at "my tail")
  exact trivial
theorem rxrp08_p08_2 : True := by
  k_with "call builtin:len" => (k_here; (with_reducible show wpAny _ _ (call (Value.builtin "len") [Value.ref _]) _ _ _); k_dflt (refine call_len_list (News.isList (by k_asm) (by k_mem)) (by (rw [List.size_toArray]; omega)) ?_); (try simp only [List.size_toArray]))
  exact trivial
theorem rxrp08_p08_3 : True := by
  k_with "call ref" => (k_here; (with_reducible show wpAny _ _ (call (Value.ref 1334) _) _ _ _); k_dflt (refine pure_useOC (by k_asm) (by k_asm) (by k_asm) (by k_asm) (by k_asm) (by first | exact rfl | assumption) (by walk_at "my spl") (by walk_at "my sep") (by exact rfl) (by walk_at "my all") (by walk_at "my room") (by walk_at "my units") (made_ok _ _ (by with_reducible assumption)) ?_); walk_at "my tail")
  exact trivial
theorem rxrp08_p08_4 : True := by
  k_with "call ref" => (k_here; (with_reducible show wpAny _ _ (call (Value.ref 1353) _) _ _ _); k_dflt (refine pure_useOC (by k_asm) (by k_asm) (by k_asm) (by k_asm) (by k_asm) (by first | exact rfl | assumption) (by walk_at "my spl") (by walk_at "my sep") (by exact rfl) (by walk_at "my all") (by walk_at "my room") (by walk_at "my units") (source_ok _ _ _ (by with_reducible assumption)) ?_); walk_at "my tail")
  exact trivial

def wideOf (bs : List Int) (W : Int) (sg : Bool) : List Int := (bs ++ List.replicate W.toNat (if sg = true then bs.getLastD 0 else 0)).take W.toNat
theorem ints_last {us : List Value} {ns : List Int} (hI : IntsAre us ns) (hne : ns ≠ []) : ∃ t, us[(-1 + (us.length : Int)).toNat]? = some (.int (ns.getLastD 0) t) := by
  have hl := hI.length
  have hp := List.length_pos_iff.mpr hne
  have e : (-1 + (us.length : Int)).toNat = ns.length - 1 := by omega
  have e2 : ns[ns.length - 1]? = some (ns.getLastD 0) := by
    rw [List.getLastD_eq_getLast?, ← List.getLast?_eq_getElem?, List.getLast?_eq_some_getLast hne]; rfl
  rw [e]
  exact hI.get _ _ e2
theorem item_last {prog : Program} {w : World} {A : Around} {E : Value → Shared → Prop} {s : Shared} {h₀ : Heap} {L l : Addr} {X : Led} {value slice : PySem.Expr} {us : List Value} {ns : List Int} {n : Nat} {u : Tok} {Q : Value → Shared → Prop}
    (N : News h₀ L s.heap X) (hm : (l, W.listOf us.toArray n) ∈ X) (hI : IntsAre us ns) (hne : ns ≠ []) (h : ∀ t, Q (.int (ns.getLastD 0) t) s)
    (hs : subscripted slice false (.ref l) (.int (-1) u) = operate [.ref l, .int (-1) u] (getItem (.ref l) (.int (-1) u)) := by with_unfolding_all rfl) (hg : ∀ r, letTemporaryGo value (.ref l) r = pure () := by intro _; with_unfolding_all rfl) :
    wpAny (model prog w) A (subscriptTail value slice (.ref l) (.int (-1) u)) Q E s := by
  obtain ⟨t, ht⟩ := ints_last hI hne
  have := List.length_pos_iff.mpr hne
  have := hI.length
  exact kim_back N hm rfl rfl (by decide) (by omega) (by decide) ht (h t) hs hg
theorem rg_p09_1 : True := by
  k_with "subscriptTail Name UnaryOp ref int" => (k_here; (with_reducible show wpAny _ _ (subscriptTail _ _ (Value.ref _) (Value.int (-1) _)) _ _ _); k_dflt (refine item_last (by k_asm) (by k_mem) (by with_reducible assumption) (by with_reducible assumption) ?_ (by with_unfolding_all rfl) (by (intro _; with_unfolding_all rfl))); intro t'w)
  exact trivial
/-- the end of a def that hands back a fresh list of ints, other objects forgotten -/
theorem pd_finI {ns ns' : List Int} {ws : List Value} {n : Nat} {h₀ : Heap} {L l : Addr} {m : Str → Option Value} {s : Shared} {Q : Value → Shared → Prop} {X mt₀ im₀ : Led} {h' : Heap} {tk' : Nat}
    (ret : ∀ r h' tk' news', Fr h₀ L h' m → News h₀ L h' news' → PD mt₀ im₀ (bitD ns) r news' → Q r { s with heap := h', toks := tk' })
    (F : Fr h₀ L h' m) (N : News h₀ L h' ((l, W.listOf ws.toArray n) :: X)) (hX : ∀ p ∈ mt₀ ++ im₀, p ∈ X) (hS : Sep mt₀ im₀) (hl : AllLt l (mt₀ ++ im₀)) (hI : IntsAre ws ns') (e : ns' = ns) : Q (.ref l) { s with heap := h', toks := tk' } := by
  subst e
  exact ret _ _ _ _ F (fun p hp => N p (by
    rcases List.mem_append.mp hp with hp | hp
    · exact .tail _ (hX p (List.mem_append.mpr (.inl hp)))
    · rcases List.mem_cons.mp hp with rfl | hp
      · exact .head _
      · exact .tail _ (hX p (List.mem_append.mpr (.inr hp))))) ⟨(l, W.listOf ws.toArray n) :: im₀, rfl, fun p hp => .tail _ hp, Sep.snoc (allLt_ne (allLt_app hl).1) hS, .list (.head _) (dat_ints hI)⟩
theorem rep_flat (k : Nat) (x : Int) : (List.replicate k [x]).flatten = List.replicate k x := by
  induction k with
  | zero => rfl
  | succ k ih => rw [List.replicate_succ, List.flatten_cons, ih]; rfl
theorem wide_t {bs : List Int} {W : Int} {sg : Bool} (h : sg = true) : List.take W.toNat (bs ++ (List.replicate W.toNat [bs.getLastD 0]).flatten) = wideOf bs W sg := by unfold wideOf; rw [rep_flat, if_pos h]
theorem wide_f {bs : List Int} {W : Int} {sg : Bool} (h : sg = false) : List.take W.toNat (bs ++ (List.replicate W.toNat [0]).flatten) = wideOf bs W sg := by unfold wideOf; rw [rep_flat, if_neg (by rw [h]; decide)]
theorem wide_ok (w : World) (bs : List Int) (sg sg2 : Bool) (W : Int) (hb : NumOk bs) (h1 : 1 ≤ W) (h2 : W ≤ 12) : PureOk w 1360 8 400 [] [numberD bs sg2, .int W, .bool sg] (bitD (wideOf bs W sg)) := by
  refine pureOk_of fun mt im hS => ?_
  walk_at "my opn"
  (with_reducible rename DatIn _ _ (Dat.list _) => hL9); obtain ⟨p9, v9, k9, e9, hm9, hA91⟩ := dat_list hL9; subst e9; clear hL9
  have hI9 := ints_of_dat hA91
  have hl9 := hI9.length
  obtain ⟨hb1, hb2, hb3⟩ := hb
  have hne9 : bs ≠ [] := fun e => by rw [e] at hb1; exact absurd hb1 (by decide)
  unfold CallOk; intro prog p loose mean mg mb dp un gd cn cs ca ccd cl outer A₀ base h₀ L m s Q E B F X N T hk hd hu hret
  walk_at "my enter"
  k_steps
  all_goals refine pd_finI (by with_reducible assumption) (by k_asm) (by k_asm) ?_ hS ?_ (by with_reducible assumption) ?_
  all_goals first
    | exact wide_t (by with_reducible assumption)
    | exact wide_f (by with_reducible assumption)
    | walk_at "my sub"
    | exact And.right (And.right (And.right (by with_reducible assumption)))
    | skip

theorem rg_p09_2 : True := by
  k_with "call ref" => (k_here; (with_reducible show wpAny _ _ (call (Value.ref 1360) _) _ _ _); k_dflt (refine pure_useOC (by k_asm) (by k_asm) (by k_asm) (by k_asm) (by k_asm) (by first | exact rfl | assumption) (by walk_at "my spl") (by walk_at "my sep") (by exact rfl) (by walk_at "my all") (by walk_at "my room") (by walk_at "my units") (wide_ok _ _ _ _ _ (by with_reducible assumption) (by walk_at "my num") (by walk_at "my num")) ?_); walk_at "my tail")
  exact trivial


abbrev Num := List Int × Bool
abbrev cD (x : Num) : Dat := .tuple [vecD x.1.length (lowOf x.1) (highOf x.1), .bool x.2]
def wOf : List Num → Int
  | [] => 1
  | x :: l => max (x.1.length : Int) (wOf l)
def sOf : List Num → Bool
  | [] => true
  | x :: l => x.2 && sOf l
theorem wOf_snoc (l : List Num) (x : Num) : wOf (l ++ [x]) = if (x.1.length : Int) > wOf l then (x.1.length : Int) else wOf l := by
  have h : wOf (l ++ [x]) = max (wOf l) (x.1.length : Int) := by
    induction l with
    | nil => exact Int.max_comm _ _
    | cons y l ih => show max _ (wOf (l ++ [x])) = max (max _ (wOf l)) _; rw [ih, Int.max_assoc]
  rw [h]; split
  · exact Int.max_eq_right (Int.le_of_lt (by assumption))
  · exact Int.max_eq_left (Int.not_lt.mp (by assumption))
theorem and_t {a b : Bool} (h : a = true) : (a && b) = b := by rw [h]; rfl
theorem and_f {a b : Bool} (h : a = false) : (a && b) = a := by rw [h]; rfl
theorem sOf_snoc (l : List Num) (x : Num) : sOf (l ++ [x]) = (sOf l && x.2) := by
  induction l with
  | nil => simp [sOf]
  | cons y l ih => show (y.2 && sOf (l ++ [x])) = ((y.2 && sOf l) && x.2); rw [ih, Bool.and_assoc]
theorem take_snoc {α : Type} {l : List α} {i : Nat} (h : i < l.length) : l.take (i + 1) = l.take i ++ [l[i]] := by
  rw [List.take_add_one, List.getElem?_eq_getElem h] <;> rfl
theorem dat_at {im : Led} {vs : List Value} {ds : List Dat} {i : Nat} {v : Value} (h : DatAll im vs ds) (hv : vs[i]? = some v) : ∃ hi : i < ds.length, DatIn im v ds[i] := by
  have hi : i < ds.length := by rw [← h.length]; exact (List.getElem?_eq_some_iff.mp hv).1
  obtain ⟨v', e, hd⟩ := h.get hi
  rw [hv] at e
  exact ⟨hi, by rw [Option.some.inj e]; exact hd⟩
theorem dat_atM {α : Type} {f : α → Dat} {im : Led} {vs : List Value} {xs : List α} {i : Nat} {v : Value} (h : DatAll im vs (xs.map f)) (hv : vs[i]? = some v) : ∃ hi : i < xs.length, DatIn im v (f xs[i]) := by
  obtain ⟨hi, hd⟩ := dat_at h hv
  rw [List.length_map] at hi
  rw [List.getElem_map] at hd
  exact ⟨hi, hd⟩
inductive TypeJ (mt im : Led) (xs : List Num) (m0 : Str → Option Value) (i : Nat) (m1 : Str → Option Value) : Led → Led → Prop
  | mk (im1 : Led) (t : Tok) (hs : ∀ p ∈ im, p ∈ im1) (kp : Kept m1 m0 [(Str.ofString "width", .int (wOf (xs.take i)) t), (Str.ofString "signed", .bool (sOf (xs.take i)))] [Str.ofString "width", Str.ofString "signed", Str.ofString "vec", Str.ofString "is_signed"]) :
    TypeJ mt im xs m0 i m1 mt im1
theorem TypeJ.all {mt im : Led}{xs : List Num}{m0 : Str → Option Value}{i : Nat}{m1 : Str → Option Value} {P : Led → Led → Prop} (k : ∀ (im1 : Led) (t : Tok), (∀ p ∈ im, p ∈ im1) → (Kept m1 m0 [(Str.ofString "width", .int (wOf (xs.take i)) t), (Str.ofString "signed", .bool (sOf (xs.take i)))] [Str.ofString "width", Str.ofString "signed", Str.ofString "vec", Str.ofString "is_signed"]) → P mt im1) : ∀ mt1 im1, TypeJ mt im xs m0 i m1 mt1 im1 → P mt1 im1 :=
  fun _ _ h => h.casesOn k
theorem common_type_ok (w : World) (xs : List Num) : PureOk w 1123 6 200 [] [.list (xs.map cD)] (.tuple [.int (wOf xs), .bool (sOf xs)]) := by
  intro mt im vs hS hD
  obtain ⟨v9, w9, e9, hA91, hA92⟩ := all_cons hD
  subst e9
  have e9 := all_nil hA92
  subst e9
  obtain ⟨q9, vs9, k9, e9, hm9, hA9⟩ := dat_list hA91
  subst e9
  clear hD hA91 hA92
  unfold CallOk; intro prog p loose mean mg mb dp un gd cn cs ca ccd cl outer A₀ base h₀ L m s Q E B F X N T hk hd hu hret
  walk_at "my enter"
  k_steps
  unfold StopHere
  refine list_turns (mt := mt) (im := im) (TypeJ mt im xs) rfl hm9 (by k_asm) (by k_asm) hS (.mk _ _ id_sub (by walk_at "my kept")) ?bT ?bD
  case bT =>
    intro G9 hG9 i9 v9 m9 mt9 im9 h9 tk9 I9 oI9 hi9 hv9 hq1_11
    revert mt9 im9
    refine TypeJ.all fun im9 t9 hs9 k9 => ?_
    obtain ⟨hi8, hd8⟩ := dat_atM (DatAll.mono hs9 hA9) hv9
    clear hv9
    revert v9 hd8
    refine opd_all ?_
    walk_at "my opn"
    refine hG9 ?_
    clear hG9
    intro F9 N9 S9 hI9 hr9
    replace hr9 := hr9 _ (.head _)
    have F8 := k9.fr F9
    clear F9
    k_steps
    all_goals (show TEnd _ _ _ _ _ _ _ _; walk_at "my tend")
    all_goals exact .mk _ _ (by walk_at "my sub") (by rw [take_snoc hi8, wOf_snoc, sOf_snoc]; (first | rw [and_t (by with_reducible assumption)] | rw [and_f (by with_reducible assumption)]); walk_at "my kept")
  case bD =>
    intro G9 hG9 m9 mt9 im9 h9 tk9 hq2_5
    revert mt9 im9
    refine TypeJ.all fun im9 t9 hs9 k9 => ?_
    refine hG9 ?_
    clear hG9
    intro F9 N9 S9
    have F8 := k9.fr F9
    clear F9
    k_steps
    walk_at "my fin"
    rw [show xs.take vs9.length = xs from List.take_of_length_le (by have := hA9.length; rw [List.length_map] at this; omega)] at *
    walk_at "my dat"
theorem rg_p11_7 : True := by
  k_with "call ref" => (k_here; (with_reducible show wpAny _ _ (call (Value.ref 1123) _) _ _ _); k_dflt (refine pure_useOC (by k_asm) (by k_asm) (by k_asm) (by k_asm) (by k_asm) (by first | exact rfl | assumption) (by walk_at "my spl") (by walk_at "my sep") (by exact rfl) (by walk_at "my all") (by walk_at "my room") (by walk_at "my units") (common_type_ok _ _ ) ?_); walk_at "my tail")
  exact trivial
abbrev blkD (nm : Str) : Dat := .tuple [.str (Str.ofString "genblock"), .int 0, .str nm, .tuple []]
theorem block_label_ok (w : World) (nm : Str) (k : Int) : PureOk w 1109 3 100 [] [blkD nm, .int k] (.str nm) := by
  refine pureOk_of fun mt im hS => ?_
  walk_at "my opn"
  unfold CallOk; intro prog p loose mean mg mb dp un gd cn cs ca ccd cl outer A₀ base h₀ L m s Q E B F X N T hk hd hu hret
  walk_at "my enter"
  k_steps
  walk_at "my fin"; walk_at "my dat"
theorem rg_p11_8 : True := by
  k_with "call ref" => (k_here; (with_reducible show wpAny _ _ (call (Value.ref 1109) _) _ _ _); k_dflt (refine pure_useOC (by k_asm) (by k_asm) (by k_asm) (by k_asm) (by k_asm) (by first | exact rfl | assumption) (by walk_at "my spl") (by walk_at "my sep") (by exact rfl) (by walk_at "my all") (by walk_at "my room") (by walk_at "my units") (block_label_ok _ _ _ ) ?_); walk_at "my tail")
  exact trivial
abbrev resD : Option Str → Dat
  | none => .none
  | some nm => blkD nm
abbrev outD : Option Str → Dat
  | none => .list []
  | some nm => .list [.tuple [.str nm, .tuple [], .tuple []]]
theorem branch_rows_none (w : World) (sc : Value) (k : Int) : PureOk w 1116 6 200 [sc] [.none, .int k] (.list []) := by
  refine pureOk_of fun mt im hS => ?_
  walk_at "my opn"
  unfold CallOk; intro prog p loose mean mg mb dp un gd cn cs ca ccd cl outer A₀ base h₀ L m s Q E B F X N T hk hd hu hret
  walk_at "my enter"
  k_steps
  walk_at "my finl"; walk_at "my dat"
theorem branch_rows_blk (w : World) (sc : Value) (nm : Str) (k : Int) : PureOk w 1116 6 200 [sc] [blkD nm, .int k] (outD (some nm)) := by
  refine pureOk_of fun mt im hS => ?_
  walk_at "my opn"
  unfold CallOk; intro prog p loose mean mg mb dp un gd cn cs ca ccd cl outer A₀ base h₀ L m s Q E B F X N T hk hd hu hret
  walk_at "my enter"
  k_steps
  walk_at "my finl"; walk_at "my dat"
theorem branch_rows_ok (w : World) (sc : Value) (r : Option Str) (k : Int) : PureOk w 1116 6 200 [sc] [resD r, .int k] (outD r) := by
  cases r with
  | none => exact branch_rows_none w sc k
  | some nm => exact branch_rows_blk w sc nm k
theorem rg_p11_9 : True := by
  k_with "call ref" => (k_here; (with_reducible show wpAny _ _ (call (Value.ref 1116) _) _ _ _); k_dflt (refine pure_useOC (by k_asm) (by k_asm) (by k_asm) (by k_asm) (by k_asm) (by first | exact rfl | assumption) (by walk_at "my spl") (by walk_at "my sep") (by exact rfl) (by walk_at "my all") (by walk_at "my room") (by walk_at "my units") (branch_rows_ok _ _ _ _ ) ?_); walk_at "my tail")
  exact trivial


abbrev srcN (x : Num) : Dat := srcD x.1 x.2
abbrev labD : Option (List Num) → Dat
  | none => .none
  | some l => .tuple (l.map srcN)
abbrev Row := Option (List Num) × Str
abbrev rowItemD (r : Row) : Dat := .tuple [labD r.1, blkD r.2]
abbrev pD (p : Num × Str) : Dat := .tuple [vecD p.1.1.length (lowOf p.1.1) (highOf p.1.1), blkD p.2]
def pairsOf : List Row → List (Num × Str)
  | [] => []
  | r :: rs => ((r.1.getD []).map fun x => (x, r.2)) ++ pairsOf rs
def dfltOf : List Row → Option Str → Option Str
  | [], d => d
  | r :: rs, d => dfltOf rs (if r.1.isNone then some r.2 else d)
theorem pairsOf_snoc (rs : List Row) (r : Row) : pairsOf (rs ++ [r]) = pairsOf rs ++ (r.1.getD []).map fun x => (x, r.2) := by
  induction rs with
  | nil => simp [pairsOf]
  | cons a rs ih => simp [pairsOf, ih]
theorem dfltOf_snoc (rs : List Row) (r : Row) (d : Option Str) : dfltOf (rs ++ [r]) d = if r.1.isNone then some r.2 else dfltOf rs d := by
  induction rs generalizing d with
  | nil => rfl
  | cons a rs ih => exact ih _
def pickOf (f : Num → Bool) : List (Num × Str) → Option Str → Option Str
  | [], d => d
  | p :: l, d => if f p.1 = true then some p.2 else pickOf f l d
theorem pickOf_hit {f : Num → Bool} : ∀ {l : List (Num × Str)} {d : Option Str} {i : Nat} (hi : i < l.length), (∀ j (hj : j < l.length), j < i → f l[j].1 = false) → f l[i].1 = true → pickOf f l d = some l[i].2
  | p :: l, d, 0, _, _, h => by unfold pickOf; rw [if_pos (by simpa using h)]; rfl
  | p :: l, d, i + 1, hi, h0, h => by
    unfold pickOf
    rw [if_neg (by have := h0 0 (Nat.zero_lt_succ _) (Nat.zero_lt_succ _); simpa using this)]
    have := pickOf_hit (l := l) (d := d) (i := i) (Nat.lt_of_succ_lt_succ hi) (fun j hj hji => by have := h0 (j + 1) (Nat.succ_lt_succ hj) (Nat.succ_lt_succ hji); simpa using this) (by simpa using h)
    rw [this]; simp
theorem pickOf_miss {f : Num → Bool} : ∀ {l : List (Num × Str)} {d : Option Str}, (∀ j (hj : j < l.length), f l[j].1 = false) → pickOf f l d = d
  | [], d, _ => rfl
  | p :: l, d, h0 => by
    unfold pickOf
    rw [if_neg (by have := h0 0 (Nat.zero_lt_succ _); simpa using this)]
    exact pickOf_miss fun j hj => by have := h0 (j + 1) (Nat.succ_lt_succ hj); simpa using this
def hits (W : Int) (sg : Bool) (a b : Num) : Bool := extI a.1.length W (lowOf a.1) sg == extI b.1.length W (lowOf b.1) sg && extI a.1.length W (highOf a.1) sg == extI b.1.length W (highOf b.1) sg
def casePick (subj : Num) (rows : List Row) : Option Str :=
  let ns := subj :: (pairsOf rows).map (·.1)
  pickOf (fun x => hits (wOf ns) (sOf ns) x subj) (pairsOf rows) (dfltOf rows none)
theorem low_bnd : ∀ {bs : List Int}, (∀ b ∈ bs, 0 ≤ b ∧ b < 4) → 0 ≤ lowOf bs ∧ lowOf bs < 2 ^ bs.length
  | [], _ => by simp [lowOf]
  | b :: bs, h => by
    have ih := low_bnd (bs := bs) fun x hx => h x (.tail _ hx)
    have hb := h b (.head _)
    unfold lowOf
    rw [List.length_cons, Int.pow_succ]
    omega
theorem high_bnd : ∀ {bs : List Int}, (∀ b ∈ bs, 0 ≤ b ∧ b < 4) → 0 ≤ highOf bs ∧ highOf bs < 2 ^ bs.length
  | [], _ => by simp [highOf]
  | b :: bs, h => by
    have ih := high_bnd (bs := bs) fun x hx => h x (.tail _ hx)
    have hb := h b (.head _)
    unfold highOf
    rw [List.length_cons, Int.pow_succ]
    omega
structure NumFacts (x : Num) : Prop where
  h1 : 1 ≤ (x.1.length : Int)
  h2 : (x.1.length : Int) ≤ 64
  l0 : 0 ≤ lowOf x.1
  l1 : lowOf x.1 < 2 ^ (x.1.length : Int).toNat
  g0 : 0 ≤ highOf x.1
  g1 : highOf x.1 < 2 ^ (x.1.length : Int).toNat
theorem num_facts {x : Num} (h : NumOk x.1) : NumFacts x := by
  obtain ⟨h1, h2, h3⟩ := h
  exact ⟨by omega, by omega, (low_bnd h3).1, by rw [Int.toNat_natCast]; exact (low_bnd h3).2, (high_bnd h3).1, by rw [Int.toNat_natCast]; exact (high_bnd h3).2⟩
theorem sep_at {a : Addr} {o : Obj} {X mt im : Led} (S : Sep X im) (h : (a, o) ∈ X) (hm : ∀ p ∈ mt, p.1 ≠ a) : ∀ p ∈ mt ++ im, p.1 ≠ a := fun p hp => (List.mem_append.mp hp).elim (hm p) fun h2 => S p h2 _ h
theorem rg_p12_1 : True := by
  k_with "my alln" => first | with_reducible assumption | exact List.forall_mem_nil _ | (refine List.forall_mem_cons.mpr ⟨?_, ?_⟩; (case' refine_1 => k_ne); walk_at "my alln") | exact sep_at (by with_reducible assumption) (by walk_at "my mem0") (by with_reducible assumption)
  exact trivial
theorem rg_p12_2 : True := by
  k_with "exec For Tuple Subscript cons nil" => walk_at "my for"
  exact trivial
theorem rg_p12_3 : True := by
  k_with "exec For Name Name cons nil" => walk_at "my for"
  exact trivial
theorem pairs_len : ∀ {rs : List Row}, (∀ r ∈ rs, ∀ l, r.1 = some l → l.length ≤ 2) → (pairsOf rs).length ≤ 2 * rs.length
  | [], _ => by simp [pairsOf]
  | r :: rs, h => by
    have ih := pairs_len (rs := rs) fun x hx => h x (.tail _ hx)
    have h1 : (r.1.getD []).length ≤ 2 := by
      cases e : r.1 with
      | none => simp
      | some l => exact h r (.head _) l e
    simp only [pairsOf, List.length_append, List.length_map, List.length_cons]
    omega
structure AllM {α : Type} (f : α → Dat) (im : Led) (ca : Array Value) (xs : List α) : Prop where
  all : DatAll im ca.toList (xs.map f)
theorem AllM.length {α : Type} {f : α → Dat} {im : Led} {ca : Array Value} {xs : List α} (h : AllM f im ca xs) : ca.toList.length = xs.length := by rw [h.all.length, List.length_map]
theorem AllM.mono {α : Type} {f : α → Dat} {im im' : Led} {ca : Array Value} {xs : List α} (h : AllM f im ca xs) (hs : ∀ p ∈ im, p ∈ im') : AllM f im' ca xs := ⟨DatAll.mono hs h.all⟩
theorem AllM.eq {α : Type} {f : α → Dat} {im : Led} {ca : Array Value} {xs ys : List α} (h : AllM f im ca xs) (e : xs = ys) : AllM f im ca ys := e ▸ h
theorem AllM.push {α : Type} {f : α → Dat} {im : Led} {ca : Array Value} {v : Value} {xs : List α} {x : α} (h : AllM f im ca xs) (hv : DatIn im v (f x)) : AllM f im (ca.push v) (xs ++ [x]) := ⟨by
  rw [Array.toList_push, List.map_append]
  exact DatAll.append h.all (DatAll.one hv)⟩
theorem AllM.snoc {α : Type} {f : α → Dat} {im : Led} {cv : List Value} {v : Value} {xs : List α} {x : α} (h : AllM f im cv.toArray xs) (hv : DatIn im v (f x)) : AllM f im (cv ++ [v]).toArray (xs ++ [x]) := ⟨by
  rw [List.map_append]
  exact DatAll.append h.all (DatAll.one hv)⟩
theorem sep_all {a : Addr} {o : Obj} {mt mt' im : Led} (h1 : ∀ p ∈ mt, p.1 ≠ a) (h2 : Sep ((a, o) :: mt') im) : ∀ p ∈ mt ++ im, p.1 ≠ a := fun p hp => (List.mem_append.mp hp).elim (h1 p) (h2.head p)
theorem item_last_push {prog : Program} {w : World} {A : Around} {E : Value → Shared → Prop} {s : Shared} {h₀ : Heap} {L l : Addr} {X : Led} {value slice : PySem.Expr} {cv : List Value} {v : Value} {n : Nat} {u : Tok} {Q : Value → Shared → Prop}
    (N : News h₀ L s.heap X) (hm : (l, W.listOf (cv.toArray.push v) n) ∈ X) (h : Q v s)
    (hs : subscripted slice false (.ref l) (.int (-1) u) = operate [.ref l, .int (-1) u] (getItem (.ref l) (.int (-1) u)) := by with_unfolding_all rfl) (hg : ∀ r, letTemporaryGo value (.ref l) r = pure () := by intro _; with_unfolding_all rfl) :
    wpAny (model prog w) A (subscriptTail value slice (.ref l) (.int (-1) u)) Q E s := by
  have e : W.listOf (cv.toArray.push v) n = W.listOf (cv ++ [v]).toArray n := by rw [List.push_toArray]
  rw [e] at hm
  refine kim_back N hm rfl rfl (by decide) (by rw [List.length_append]; simp only [List.length_cons, List.length_nil]; omega) (by decide) ?_ h hs hg
  have : (-1 + ((cv ++ [v]).length : Int)).toNat = cv.length := by rw [List.length_append]; simp only [List.length_cons, List.length_nil]; omega
  rw [this]; simp
theorem rg_p12_4 : True := by
  k_with "subscriptTail Name UnaryOp ref int" => (k_here; (with_reducible show wpAny _ _ (subscriptTail _ _ (Value.ref _) (Value.int (-1) _)) _ _ _); k_dflt (refine item_last_push (by k_asm) (by walk_at "my mem0") ?_ (by with_unfolding_all rfl) (by (intro _; with_unfolding_all rfl))))
  exact trivial
abbrev caseMt (cA rA : Addr) (ca ra : Array Value) (kc kr : Nat) (mt : Led) : Led := (cA, W.listOf ca kc) :: (rA, W.listOf ra kr) :: mt
inductive CaseJ (subj : Num) (cA rA : Addr) (mt im0 : Led) (rows : List Row) (m0 : Str → Option Value) (i : Nat) (m1 : Str → Option Value) : Led → Led → Prop
  | mk (dv : Value) (ca : Array Value) (ra : Array Value) (kc : Nat) (kr : Nat) (im1 : Led) (hs : ∀ p ∈ im0, p ∈ im1) (hC : AllM cD im1 ca (subj :: (pairsOf (rows.take i)).map (·.1))) (hR : AllM pD im1 ra (pairsOf (rows.take i))) (hD : DatIn im1 dv (resD (dfltOf (rows.take i) none))) (kp : Kept m1 m0 [(Str.ofString "default", dv)] [Str.ofString "default", Str.ofString "labels", Str.ofString "branch", Str.ofString "label"]) :
    CaseJ subj cA rA mt im0 rows m0 i m1 (caseMt cA rA ca ra kc kr mt) im1
theorem CaseJ.all {subj : Num}{cA rA : Addr}{mt im0 : Led}{rows : List Row}{m0 : Str → Option Value}{i : Nat}{m1 : Str → Option Value} {P : Led → Led → Prop} (k : ∀ (dv : Value) (ca : Array Value) (ra : Array Value) (kc : Nat) (kr : Nat) (im1 : Led), (∀ p ∈ im0, p ∈ im1) → (AllM cD im1 ca (subj :: (pairsOf (rows.take i)).map (·.1))) → (AllM pD im1 ra (pairsOf (rows.take i))) → (DatIn im1 dv (resD (dfltOf (rows.take i) none))) → (Kept m1 m0 [(Str.ofString "default", dv)] [Str.ofString "default", Str.ofString "labels", Str.ofString "branch", Str.ofString "label"]) → P (caseMt cA rA ca ra kc kr mt) im1) : ∀ mt1 im1, CaseJ subj cA rA mt im0 rows m0 i m1 mt1 im1 → P mt1 im1 :=
  fun _ _ h => h.casesOn k
inductive CaseK (subj : Num) (cA rA : Addr) (mt im0 : Led) (e : Addr × Obj) (P : List (Num × Str)) (l : List Num) (nm : Str) (d : Option Str) (dv : Value) (m0 : Str → Option Value) (j : Nat) (m1 : Str → Option Value) : Led → Led → Prop
  | mk (ca : Array Value) (ra : Array Value) (kc : Nat) (kr : Nat) (im1 : Led) (hs : ∀ p ∈ im0, p ∈ im1) (hC : AllM cD im1 ca (subj :: (P ++ (l.take j).map fun x => (x, nm)).map (·.1))) (hR : AllM pD im1 ra (P ++ (l.take j).map fun x => (x, nm))) (hD : DatIn im1 dv (resD d)) (kp : Kept m1 m0 [] [Str.ofString "label"]) :
    CaseK subj cA rA mt im0 e P l nm d dv m0 j m1 (e :: caseMt cA rA ca ra kc kr mt) im1
theorem CaseK.all {subj : Num}{cA rA : Addr}{mt im0 : Led}{e : Addr × Obj}{P : List (Num × Str)}{l : List Num}{nm : Str}{d : Option Str}{dv : Value}{m0 : Str → Option Value}{j : Nat}{m1 : Str → Option Value} {R : Led → Led → Prop} (k : ∀ (ca : Array Value) (ra : Array Value) (kc : Nat) (kr : Nat) (im1 : Led), (∀ p ∈ im0, p ∈ im1) → (AllM cD im1 ca (subj :: (P ++ (l.take j).map fun x => (x, nm)).map (·.1))) → (AllM pD im1 ra (P ++ (l.take j).map fun x => (x, nm))) → (DatIn im1 dv (resD d)) → (Kept m1 m0 [] [Str.ofString "label"]) → R (e :: caseMt cA rA ca ra kc kr mt) im1) : ∀ mt1 im1, CaseK subj cA rA mt im0 e P l nm d dv m0 j m1 mt1 im1 → R mt1 im1 :=
  fun _ _ h => h.casesOn k
inductive PickJ (mt im0 : Led) (ns : List Num) (ps : List (Num × Str)) (subj : Num) (m0 : Str → Option Value) (i : Nat) (m1 : Str → Option Value) : Led → Led → Prop
  | mk (im1 : Led) (hs : ∀ p ∈ im0, p ∈ im1) (hno : ∀ j (hj : j < ps.length), j < i → hits (wOf ns) (sOf ns) ps[j].1 subj = false) (kp : Kept m1 m0 [] [Str.ofString "vec", Str.ofString "branch"]) :
    PickJ mt im0 ns ps subj m0 i m1 mt im1
theorem PickJ.all {mt im0 : Led}{ns : List Num}{ps : List (Num × Str)}{subj : Num}{m0 : Str → Option Value}{i : Nat}{m1 : Str → Option Value} {P : Led → Led → Prop} (k : ∀ (im1 : Led), (∀ p ∈ im0, p ∈ im1) → (∀ j (hj : j < ps.length), j < i → hits (wOf ns) (sOf ns) ps[j].1 subj = false) → (Kept m1 m0 [] [Str.ofString "vec", Str.ofString "branch"]) → P mt im1) : ∀ mt1 im1, PickJ mt im0 ns ps subj m0 i m1 mt1 im1 → P mt1 im1 :=
  fun _ _ h => h.casesOn k
theorem pairs_ok : ∀ {rs : List Row}, (∀ r ∈ rs, ∀ l, r.1 = some l → l.length ≤ 2 ∧ ∀ x ∈ l, NumOk x.1) → ∀ x ∈ (pairsOf rs).map (·.1), NumOk x.1
  | [], _, x, hx => by simp [pairsOf] at hx
  | r :: rs, h, x, hx => by
    simp only [pairsOf, List.map_append, List.map_map, List.mem_append] at hx
    rcases hx with hx | hx
    · cases e : r.1 with
      | none => rw [e] at hx; simp at hx
      | some l =>
        rw [e] at hx
        have hx : x ∈ l := by simpa using hx
        exact (h r (.head _) l e).2 x hx
    · exact pairs_ok (fun y hy => h y (.tail _ hy)) x hx
theorem wOf_ge : ∀ {l : List Num} {x : Num}, x ∈ l → (x.1.length : Int) ≤ wOf l
  | y :: l, x, h => by
    show _ ≤ max _ (wOf l)
    rcases List.mem_cons.mp h with rfl | h
    · omega
    · have := wOf_ge h; omega
theorem wOf_le : ∀ {l : List Num}, (∀ x ∈ l, (x.1.length : Int) ≤ 64) → wOf l ≤ 64
  | [], _ => by decide
  | y :: l, h => by
    show max _ (wOf l) ≤ 64
    have h1 := h y (.head _)
    have h2 := wOf_le (l := l) fun x hx => h x (.tail _ hx)
    omega
theorem grab2 {h₀ h : Heap} {L : Addr} {X : Led} {a b : Addr} {oa ob : Obj} {P : Prop} (_N : News h₀ L h ((a, oa) :: (b, ob) :: X)) (k : ∀ cA rA, cA = a → rA = b → P) : P := k a b rfl rfl
theorem grabim {mt im : Led} {P : Prop} (_S : Sep mt im) (k : ∀ im5, im5 = im → P) : P := k im rfl
theorem dat_mono {im im' : Led} {vs : List Value} {ds : List Dat} (h : DatAll im vs ds) (hs : ∀ p ∈ im, p ∈ im') : DatAll im' vs ds := DatAll.mono hs h
theorem res_mono {im im' : Led} {v : Value} {d : Dat} (h : DatIn im v d) (hs : ∀ p ∈ im, p ∈ im') : DatIn im' v d := DatIn.mono hs h
theorem pairs_take_none {rows : List Row} {i : Nat} (h : i < rows.length) (e : rows[i].1 = none) : pairsOf (rows.take (i + 1)) = pairsOf (rows.take i) := by
  rw [take_snoc h, pairsOf_snoc, e]; simp
theorem dflt_take_none {rows : List Row} {i : Nat} {d : Option Str} (h : i < rows.length) (e : rows[i].1 = none) : dfltOf (rows.take (i + 1)) d = some rows[i].2 := by
  rw [take_snoc h, dfltOf_snoc, e]; simp
theorem pairs_take_some {rows : List Row} {i : Nat} {l : List Num} (h : i < rows.length) (e : rows[i].1 = some l) : pairsOf (rows.take (i + 1)) = pairsOf (rows.take i) ++ l.map fun x => (x, rows[i].2) := by
  rw [take_snoc h, pairsOf_snoc, e]; simp
theorem dflt_take_some {rows : List Row} {i : Nat} {l : List Num} {d : Option Str} (h : i < rows.length) (e : rows[i].1 = some l) : dfltOf (rows.take (i + 1)) d = dfltOf (rows.take i) d := by
  rw [take_snoc h, dfltOf_snoc, e]; simp
theorem lab_snoc {l : List Num} {j : Nat} {nm : Str} (h : j < l.length) : ((l.take (j + 1)).map fun x => (x, nm)) = ((l.take j).map fun x => (x, nm)) ++ [(l[j], nm)] := by
  rw [take_snoc h, List.map_append]; rfl
theorem sep_case {cA rA : Addr} {ca ra : Array Value} {kc kr : Nat} {mt im : Led} (h1 : ∀ p ∈ im, p.1 ≠ cA) (h2 : ∀ p ∈ im, p.1 ≠ rA) (S : Sep mt im) : Sep (caseMt cA rA ca ra kc kr mt) im := Sep.cons h1 (Sep.cons h2 S)
theorem case_branch_ok (w : World) (sc : Value) (subj : Num) (rows : List Row) (hs : NumOk subj.1) (hr : ∀ r ∈ rows, ∀ l, r.1 = some l → l.length ≤ 2 ∧ ∀ x ∈ l, NumOk x.1) (hn : rows.length ≤ 3) :
    PureOk w 1130 30 900 [sc] [.tuple [.str (Str.ofString "gencase"), .int 0, srcN subj, .tuple (rows.map rowItemD)]] (resD (casePick subj rows)) := by
  refine pureOk_of fun mt im hS => ?_
  walk_at "my opn"
  (with_reducible rename DatAll _ _ (List.map _ _) => hA4)
  obtain ⟨f1, f2, f3, f4, f5, f6⟩ := num_facts hs
  unfold CallOk; intro prog p loose mean mg mb dp un gd cn cs ca ccd cl outer A₀ base h₀ L m s Q E B F X N T hk hd hu hret
  walk_at "my enter"
  k_steps
  unfold StopHere
  (with_reducible rename News _ _ _ (_ :: _ :: _) => N4)
  (with_reducible rename Sep _ _ => S4)
  (with_reducible rename _ ∧ AllLt _ _ => lc4)
  (with_reducible rename ∀ p ∈ _, _ < _ => lr4)
  rename_i rA _ _ _ cA _ _
  have hcr : @LT.lt Nat _ rA cA := lc4.1
  have hcm : ∀ p ∈ mt, p.1 ≠ cA := allLt_ne (allLt_app lc4.2).1
  have hrm : ∀ p ∈ mt, p.1 ≠ rA := fun p hp => Nat.ne_of_lt (lr4 p (List.mem_append.mpr (.inl hp)))
  refine tup_turns (mt := caseMt cA rA _ _ 0 0 mt) (CaseJ subj cA rA mt im9w rows) rfl (by walk_at "my mem") (by k_asm) N4
    (sep_case (allLt_ne (allLt_app lc4.2).2) (fun p hp => Nat.ne_of_lt (lr4 p (List.mem_append.mpr (.inr hp)))) S4) (.mk _ _ _ _ _ _ (by walk_at "my sub") ⟨(by walk_at "my all")⟩ ⟨.nil⟩ .none (by walk_at "my kept")) ?bT ?bD
  case bT =>
    intro G9 hG9 i9 v9 m9 mt9 im9 h9 tk9 I9 oI9 hi9 hv9 hJ9
    revert mt9 im9
    refine CaseJ.all fun dv9 ca9 ra9 kc9 kr9 im9 hs9 hC9 hR9 hD9 k9 => ?_
    obtain ⟨hi8, hd8⟩ := dat_atM (DatAll.mono (up_trans hs9w hs9) hA4) hv9
    clear hv9
    generalize hrow : rows[i9] = row9 at hd8
    obtain ⟨lab9, nm9⟩ := row9
    cases lab9 with
    | none =>
      revert v9 hd8
      refine opd_all ?_
      walk_at "my opn"
      refine hG9 ?_
      clear hG9
      intro F9 N9 S9 hI9 hr9
      replace hr9 := hr9 _ (.head _)
      have F8 := k9.fr F9
      clear F9
      have hI1 : @Ne Nat cA I9 := hI9 _ (.head _)
      have hI2 : @Ne Nat rA I9 := hI9 _ (.tail _ (.head _))
      have hc8 : ∀ p ∈ mt ++ im9, p.1 ≠ cA := sep_all hcm S9.tail
      have hr8 : ∀ p ∈ mt ++ im9, p.1 ≠ rA := sep_all hrm S9.tail.tail
      k_steps
      show TEnd _ _ _ _ _ _ _ _
      walk_at "my tend"
      refine .mk _ _ _ _ _ _ (by walk_at "my sub") (hC9.eq (by rw [pairs_take_none hi8 (by rw [hrow])])) (hR9.eq (by rw [pairs_take_none hi8 (by rw [hrow])])) ?_ (by walk_at "my kept")
      rw [dflt_take_none hi8 (by rw [hrow]), hrow]
      walk_at "my dat"
    | some l9 =>
      have hl9 := hr rows[i9] (List.getElem_mem hi8) l9 (by rw [hrow])
      have hP9 : (pairsOf (rows.take i9)).length ≤ 6 := by
        have h1 := pairs_len (rs := rows.take i9) fun r h l e => (hr r (List.mem_of_mem_take h) l e).1
        rw [List.length_take] at h1
        omega
      revert v9 hd8
      refine opd_all ?_
      walk_at "my opn"
      refine hG9 ?_
      clear hG9
      intro F9 N9 S9 hI9 hr9
      replace hr9 := hr9 _ (.head _)
      have F8 := k9.fr F9
      clear F9
      have hI1 : @Ne Nat cA I9 := hI9 _ (.head _)
      have hI2 : @Ne Nat rA I9 := hI9 _ (.tail _ (.head _))
      have hc8 : ∀ p ∈ mt ++ im9, p.1 ≠ cA := sep_all hcm S9.tail
      have hr8 : ∀ p ∈ mt ++ im9, p.1 ≠ rA := sep_all hrm S9.tail.tail
      k_steps
      unfold StopHere
      (with_reducible rename DatAll _ _ (List.map srcN _) => hL9)
      refine tup_turns (mt := (I9, oI9) :: caseMt cA rA _ _ kc9 kr9 mt) (CaseK subj cA rA mt im9 (I9, oI9) (pairsOf (rows.take i9)) l9 nm9 (dfltOf (rows.take i9) none) dv9) rfl (by with_reducible assumption) (by k_asm) (by k_asm) S9
        (.mk _ _ _ _ _ (by walk_at "my sub") (hC9.eq (by simp)) (hR9.eq (by simp)) hD9 (by walk_at "my kept")) ?iT ?iD
      case iT =>
        intro G8 hG8 j8 v8 m8 mt8 im8 h8 tk8 I8 oI8 hj8 hv8 hJ8
        revert mt8 im8
        refine CaseK.all fun ca8 ra8 kc8 kr8 im8 hs8 hC8 hR8 hD8 k8 => ?_
        obtain ⟨cv8⟩ := ca8
        obtain ⟨rv8⟩ := ra8
        obtain ⟨hj7, hd7⟩ := dat_atM (DatAll.mono hs8 hL9) hv8
        clear hv8
        have hx7 := hl9.2 l9[j8] (List.getElem_mem hj7)
        generalize hx8 : l9[j8] = x7 at hd7 hx7
        obtain ⟨e1, e2, e3, e4, e5, e6⟩ := num_facts hx7
        revert v8 hd7
        refine opd_all ?_
        walk_at "my opn"
        refine hG8 ?_
        clear hG8
        intro F7 N8 S8 hI8 hq7
        replace hq7 := hq7 _ (.head _)
        have F8 := k8.fr F7
        clear F7
        have hI5 : @Ne Nat I9 I8 := hI8 _ (.head _)
        have hI3 : @Ne Nat cA I8 := hI8 _ (.tail _ (.head _))
        have hI4 : @Ne Nat rA I8 := hI8 _ (.tail _ (.tail _ (.head _)))
        have hc7 : ∀ p ∈ mt ++ im8, p.1 ≠ cA := sep_all hcm S8.tail.tail
        have hr7 : ∀ p ∈ mt ++ im8, p.1 ≠ rA := sep_all hrm S8.tail.tail.tail
        have hz7 : cv8.length ≤ 100 := by
          have := hC8.length
          simp only [List.length_cons, List.length_map, List.length_append, List.length_take] at this
          omega
        have hz8 : rv8.length ≤ 100 := by
          have := hR8.length
          simp only [List.length_map, List.length_append, List.length_take] at this
          omega
        have N7 : News _ _ h8 ((I8, oI8) :: (I9, oI9) :: (cA, W.listOf cv8.toArray kc8) :: (rA, W.listOf rv8.toArray kr8) :: (mt ++ im8)) := N8
        have S7 : Sep ((I8, oI8) :: (I9, oI9) :: (cA, W.listOf cv8.toArray kc8) :: (rA, W.listOf rv8.toArray kr8) :: mt) im8 := S8
        have hI6 : ∀ p ∈ (I9, oI9) :: (cA, W.listOf cv8.toArray kc8) :: (rA, W.listOf rv8.toArray kr8) :: mt, p.1 ≠ I8 := hI8
        clear N8 S8 hI8
        k_steps
        show TEnd _ _ _ _ _ _ _ _
        walk_at "my tend"
        dsimp only
        refine .mk _ _ _ _ _ (by walk_at "my sub") ?_ ?_ (res_mono hD8 (by walk_at "my sub")) (by walk_at "my kept")
        · refine AllM.eq (AllM.snoc (x := x7) (AllM.mono hC8 ?_) ?_) (by rw [lab_snoc hj7, hx8, ← List.append_assoc]; simp)
          · walk_at "my sub"
          · walk_at "my dat"
        · refine AllM.eq (AllM.push (x := (x7, nm9)) (AllM.mono hR8 ?_) ?_) (by rw [lab_snoc hj7, hx8, ← List.append_assoc])
          · walk_at "my sub"
          · walk_at "my dat"
      case iD =>
        intro G8 hG8 m8 mt8 im8 h8 tk8 hJ8
        revert mt8 im8
        refine CaseK.all fun ca8 ra8 kc8 kr8 im8 hs8 hC8 hR8 hD8 k8 => ?_
        refine hG8 ?_
        clear hG8
        intro F7 N8 S8
        have F8 := k8.fr F7
        clear F7
        have N7 : News _ _ h8 ((I9, oI9) :: (cA, W.listOf ca8 kc8) :: (rA, W.listOf ra8 kr8) :: (mt ++ im8)) := N8
        have S7 : Sep ((I9, oI9) :: (cA, W.listOf ca8 kc8) :: (rA, W.listOf ra8 kr8) :: mt) im8 := S8
        have hI7 : ∀ p ∈ (cA, W.listOf ca8 kc8) :: (rA, W.listOf ra8 kr8) :: mt, p.1 ≠ I9 := off_addr hI9 rfl
        clear N8 S8 hI9
        k_steps
        show TEnd _ _ _ _ _ _ _ _
        walk_at "my tend"
        have hL8 := hL9.length
        rw [List.length_map] at hL8
        rw [hL8, List.take_length] at hC8 hR8
        exact .mk _ _ _ _ _ _ (by walk_at "my sub") (hC8.eq (by rw [pairs_take_some hi8 (by rw [hrow]), hrow])) (hR8.eq (by rw [pairs_take_some hi8 (by rw [hrow]), hrow])) (by rw [dflt_take_some hi8 (by rw [hrow])]; exact hD8) (by walk_at "my kept")
  case bD =>
    intro G9 hG9 m9 mt9 im9 h9 tk9 hJ9
    revert mt9 im9
    refine CaseJ.all fun dv9 ca9 ra9 kc9 kr9 im9 hs9 hC9 hR9 hD9 k9 => ?_
    obtain ⟨rv9⟩ := ra9
    refine hG9 ?_
    clear hG9
    intro F9 N9 S9
    have F8 := k9.fr F9
    clear F9
    have hV9 := hA4.length
    rw [List.length_map] at hV9
    rw [List.take_of_length_le (Nat.le_of_eq hV9.symm)] at hC9 hR9 hD9
    have N7 : News _ _ h9 (mt ++ ((cA, W.listOf ca9 kc9) :: (rA, W.listOf rv9.toArray kr9) :: im9)) := fun p hp => N9 p (by
      rcases List.mem_append.mp hp with hp | hp
      · exact .tail _ (.tail _ (List.mem_append.mpr (.inl hp)))
      · rcases List.mem_cons.mp hp with rfl | hp
        · exact .head _
        · rcases List.mem_cons.mp hp with rfl | hp
          · exact .tail _ (.head _)
          · exact .tail _ (.tail _ (List.mem_append.mpr (.inr hp))))
    have S7 : Sep mt ((cA, W.listOf ca9 kc9) :: (rA, W.listOf rv9.toArray kr9) :: im9) := Sep.snoc hcm (Sep.snoc hrm (Sep.tail (Sep.tail S9)))
    clear N9 S9
    have hs7 : ∀ p ∈ im9w, p ∈ (cA, W.listOf ca9 kc9) :: (rA, W.listOf rv9.toArray kr9) :: im9 := fun p hp => .tail _ (.tail _ (hs9 p hp))
    have hC7 : DatIn ((cA, W.listOf ca9 kc9) :: (rA, W.listOf rv9.toArray kr9) :: im9) (.ref cA) (.list ((subj :: (pairsOf rows).map (·.1)).map cD)) := .list (.head _) (DatAll.mono (fun p hp => .tail _ (.tail _ hp)) hC9.all)
    have hR7 : DatAll ((cA, W.listOf ca9 kc9) :: (rA, W.listOf rv9.toArray kr9) :: im9) rv9 ((pairsOf rows).map pD) := DatAll.mono (fun p hp => .tail _ (.tail _ hp)) hR9.all
    have hD7 : DatIn ((cA, W.listOf ca9 kc9) :: (rA, W.listOf rv9.toArray kr9) :: im9) dv9 (resD (dfltOf rows none)) := DatIn.mono (fun p hp => .tail _ (.tail _ hp)) hD9
    generalize hims : (cA, W.listOf ca9 kc9) :: (rA, W.listOf rv9.toArray kr9) :: im9 = im7 at N7 S7 hs7 hC7 hR7 hD7
    have hm7 : (rA, W.listOf rv9.toArray kr9) ∈ im7 := hims ▸ .tail _ (.head _)
    clear hims hs9 hC9 hR9 hD9
    have hpo : ∀ x ∈ (pairsOf rows).map (·.1), NumOk x.1 := pairs_ok hr
    have hW1 : (subj.1.length : Int) ≤ wOf (subj :: (pairsOf rows).map (·.1)) := wOf_ge (.head _)
    have hW2 : wOf (subj :: (pairsOf rows).map (·.1)) ≤ 64 := wOf_le fun x hx => by
      rcases List.mem_cons.mp hx with rfl | hx
      · exact f2
      · exact (num_facts (hpo x hx)).h2
    have hW3 : ∀ j (hj : j < (pairsOf rows).length), ((pairsOf rows)[j].1.1.length : Int) ≤ wOf (subj :: (pairsOf rows).map (·.1)) := fun j hj => wOf_ge (.tail _ (List.mem_map_of_mem (List.getElem_mem hj)))
    k_steps
    unfold StopHere
    (with_reducible rename Sep _ _ => S6)
    have hs6 : ∀ p ∈ im7, p ∈ im9w := by walk_at "my sub"
    refine list_turns (mt := mt) (im := im9w) (PickJ mt im9w (subj :: (pairsOf rows).map (·.1)) (pairsOf rows) subj) rfl (hs6 _ hm7) (by k_asm) (by k_asm) S6
      (.mk _ id_sub (fun j _ h => absurd h (Nat.not_lt_zero _)) (by walk_at "my kept")) ?cT ?cD
    case cT =>
      intro G8 hG8 i8 v8 m8 mt8 im8 h8 tk8 I8 oI8 hi8 hv8 hJ8
      revert mt8 im8
      refine PickJ.all fun im8 hs8 hno8 k8 => ?_
      obtain ⟨hj8, hd8⟩ := dat_atM (DatAll.mono (up_trans hs6 hs8) hR7) hv8
      clear hv8
      have hx8 := hpo _ (List.mem_map_of_mem (List.getElem_mem hj8))
      have hw8 := hW3 i8 hj8
      generalize hpx : (pairsOf rows)[i8] = px at hd8 hx8 hw8
      obtain ⟨x8, nm8⟩ := px
      obtain ⟨e1, e2, e3, e4, e5, e6⟩ := num_facts hx8
      dsimp only at hx8 hw8 e1 e2 e3 e4 e5 e6
      revert v8 hd8
      refine opd_all ?_
      walk_at "my opn"
      refine hG8 ?_
      clear hG8
      intro F7 N8 S8 hI8 hq8
      clear hq8
      have F8 := k8.fr F7
      clear F7
      k_steps
      · (rename (_ && _) = true => q8)
        have e8 : casePick subj rows = some nm8 := by
          have := pickOf_hit (f := fun x => hits (wOf (subj :: (pairsOf rows).map (·.1))) (sOf (subj :: (pairsOf rows).map (·.1))) x subj) (d := dfltOf rows none) hj8 (fun j hj hji => hno8 j hj hji) (by rw [hpx]; exact q8)
          rw [hpx] at this
          exact this
        dsimp only [TPost]
        k_steps
        walk_at "my fin"
        rw [e8]
        walk_at "my dat"
      · (rename (_ && _) = false => q8)
        show TEnd _ _ _ _ _ _ _ _
        walk_at "my tend"
        refine .mk _ ?_ (fun j hj hji => ?_) (by walk_at "my kept")
        · walk_at "my sub"
        · rcases Nat.lt_succ_iff_lt_or_eq.mp hji with h | h
          · exact hno8 j hj h
          · subst h
            rw [hpx]; exact q8
    case cD =>
      intro G8 hG8 m8 mt8 im8 h8 tk8 hJ8
      revert mt8 im8
      refine PickJ.all fun im8 hs8 hno8 k8 => ?_
      refine hG8 ?_
      clear hG8
      intro F7 N8 S8
      have F8 := k8.fr F7
      clear F7
      k_steps
      walk_at "my fin"
      have e7 : casePick subj rows = dfltOf rows none := pickOf_miss fun j hj => hno8 j hj (by have := hR7.length; rw [List.length_map] at this; omega)
      rw [e7]
      exact res_mono hD7 (by walk_at "my sub")

theorem rg_p13_1 : True := by
  k_with "call ref" => (k_here; (with_reducible show wpAny _ _ (call (Value.ref 1130) _) _ _ _); k_dflt (refine pure_useOC (by k_asm) (by k_asm) (by k_asm) (by k_asm) (by k_asm) (by first | exact rfl | assumption) (by walk_at "my spl") (by walk_at "my sep") (by exact rfl) (by walk_at "my all") (by walk_at "my room") (by walk_at "my units") (case_branch_ok _ _ _ _ (by with_reducible assumption) (by with_reducible assumption) (by with_reducible assumption)) ?_); walk_at "my tail")
  exact trivial
structure Hold (p : Prop) : Prop where
  it : p
abbrev itemD (subj : Num) (rows : List Row) : Dat := .tuple [.str (Str.ofString "gencase"), .int 0, srcN subj, .tuple (rows.map rowItemD)]
theorem four_open {im : Led} {vs : List Value} {x : Str} {d1 d2 d3 : Dat} (h : DatAll im vs [.str x, d1, d2, d3]) : ∃ t x7 x6 x5, vs = [.str x t, x7, x6, x5] := by
  obtain ⟨v, _, rfl, h1, k1⟩ := all_cons h
  obtain ⟨v7, _, rfl, _, k2⟩ := all_cons k1
  obtain ⟨v6, _, rfl, _, k3⟩ := all_cons k2
  obtain ⟨v5, _, rfl, _, k4⟩ := all_cons k3
  obtain ⟨t, rfl⟩ := dat_str h1
  cases all_nil k4
  exact ⟨t, v7, v6, v5, rfl⟩
theorem generate_choice_ok (w : World) (sc : Value) (subj : Num) (rows : List Row) (k : Int) (hs : NumOk subj.1) (hr : ∀ r ∈ rows, ∀ l, r.1 = some l → l.length ≤ 2 ∧ ∀ x ∈ l, NumOk x.1) (hn : rows.length ≤ 3) :
    PureOk w 1152 40 1200 [sc] [itemD subj rows, .int k] (outD (casePick subj rows)) := by
  intro mt im vs hS hD
  obtain ⟨v9, w9, e9, hI9, hA92⟩ := all_cons hD
  subst e9
  obtain ⟨v8, w8, rfl, hA93, hA94⟩ := all_cons hA92
  cases all_nil hA94
  obtain ⟨t8, rfl⟩ := dat_int hA93
  obtain ⟨p9, u9, k9, e9, hm9, hB9⟩ := dat_tup hI9
  subst e9
  obtain ⟨t9, x7, x6, x5, e9⟩ := four_open hB9
  subst e9
  clear hB9 hA92 hA93 hA94 hD
  unfold CallOk; intro prog p loose mean mg mb dp un gd cn cs ca ccd cl outer A₀ base h₀ L m s Q E B F X N T hk hd hu hret
  walk_at "my enter"
  k_steps
  walk_at "my fin"
  walk_at "my dat"


abbrev bm52 : List Value := [.ref 39, .type "Exception", .type "BaseException", .type "object"]
abbrev FE := PySem.F.excBase_Exception
section
variable {prog : Program} {w : World} {A : Around} {E : Value → Shared → Prop} {h : Heap} {g : Array GenState} {d : Drawn} {t : Nat} {os : OsState}
theorem d52 (X : (K w.params).In h) : ∃ nm q bs sn sub col dd k0 k1 k2 k3 k5, h.get? 52 = some (excClassObj nm q 52 51 bs bm52 true sn sub false col dd k0 k1 k2 k3 k5 "Exception.__new__") := by
  have := X 52 k52 (by kernel_rfl)
  exact ⟨_, _, _, _, _, _, _, _, _, _, _, _, this⟩
theorem design_type_call {rest : List Value} {Q : Fin → Shared → Prop} (X : (K w.params).In h) (hrest : rest.length ≤ sizeLine)
    (hq : ∀ h' e, Heap.MadeExcOf h h' e (.ref 52) rest → wpAny (model prog w) A (call (.ref 36) (.ref e :: rest)) (fun r s' => r = .none ∧ Q (.done (.ret (.ref e))) s') E ⟨h', g, d, t, os⟩) :
    wpAny (model prog w) A (Builtin.«type.__call__» ⟨.ref 52 :: rest, []⟩) Q E ⟨h, g, d, t, os⟩ := by
  obtain ⟨nm, q, bs, sn, sub, col, dd, k0, k1, k2, k3, k5, hC⟩ := d52 X
  repeat (first | with_reducible refine wpAny_loadPart_at hC ?_ | with_reducible refine wpAny_madeBy_exc hC ?_ | wp_step)
  have hcE : (Value.ref 52 :: bm52).contains (.type "Exception") = true := by decide +kernel
  have hcA : (Value.ref 52 :: bm52).contains (.type "AttributeError") = false := by decide +kernel
  have hcN : (Value.ref 52 :: bm52).contains (.type "NameError") = false := by decide +kernel
  have hstar := FE.noStar
  have hends := FE.ends
  refine codeAny_call_builtin_code (Code.quiet_builtin _ FE.quiet) ?_
  simp only [checkBuiltinCall, FE.newKind, FE.newSplit, FE.newRow]
  repeat (first | with_reducible refine wpAny_loadPart_at hC ?_ | (with_reducible refine wpAny_isSubtype_exc hC ?_; rw [hcE]) | with_reducible refine wpAny_staticBase_exc hC ?_ | with_reducible refine wpAny_madeBy_exc hC ?_ | simp only [bne_self_eq_false, Bool.false_eq_true, if_false] | wp_step)
  refine PySem.codeAny_builtinAt FE.entry ?_
  unfold Builtin.«BaseException.__new__»
  refine PySem.wpAt_bind ?_
  show PySem.wpAt _ _ _ (stack >>= _) _ _ _
  refine PySem.wpAt_bind (PySem.wpAt_stack fun p below => PySem.wpAt_of_wpAny ?_)
  wp_walk
  refine PySem.wpAt_of_wpAny ?_
  rw [FE.owner]
  repeat (first | with_reducible refine wpAny_madeHere_exc FE.canon hC ?_ | with_reducible refine wpAny_loadPart_at hC ?_ | (with_reducible refine wpAny_isSubtype_exc hC ?_; first | rw [hcE] | rw [hcA] | rw [hcN]) | wp_step)
  have hp1 : ∀ b o, h.get? b = some o → ((h.push { cls := .type "tuple", data := .seq rest.toArray }).push { cls := .ref 52, data := .fields #[.ref h.objs.size, .none, .none, .none, .bool false, .none] }).get? b = some o :=
    fun b o e => Heap.get?_push_of_some _ (Heap.get?_push_of_some _ e)
  have hC₁ := hp1 _ _ hC
  have X₁ : (K w.params).In _ := X.keeps hp1
  have hget : ((h.push { cls := .type "tuple", data := .seq rest.toArray }).push
      { cls := .ref 52, data := .fields #[.ref h.objs.size, .none, .none, .none, .bool false, .none] }).get? (h.objs.size + 1) = some
      { cls := .ref 52, data := .fields #[.ref h.objs.size, .none, .none, .none, .bool false, .none] } := by heap_get
  have hcC : (Value.ref 52 :: bm52).contains (.ref 52) = true := by decide +kernel
  have hin : findIn (K w.params) (.ref 52) "__init__" = some (some (.ref 36)) := by kernel_rfl
  have hfn : typeIn (K w.params) (.ref 36) = some (.type "function") := by kernel_rfl
  refine wpAny_isSubtype_exc hC₁ ?_
  rw [hcC]
  simp only [Bool.not_true, Bool.false_eq_true, if_false]
  refine wpAny_bind (wpAny_holding ?_)
  unfold callSpecial? specialOf
  rw [Heap.size_push]
  refine wpAny_bind (wpAny_bind (wpAny_typeOf_ref hget ?_))
  refine (looks_findIn X₁ hin).here (wpAny_holding (wpAny_bind ?_))
  refine (bind_fn X₁ _ hfn).here (wpAny_bind (wpAny_mono (hq _ (h.objs.size + 1) ⟨hp1, Heap.get?_none_of_le (Nat.le_succ _), h.objs.size, hget, Heap.get?_none_of_le (Nat.le_refl _), Heap.get?_push_of_some _ (Heap.get?_push_at rfl rfl)⟩) (fun r s' hr => ?_) fun _ _ x => x))
  obtain ⟨rfl, hQ⟩ := hr
  refine wpAny_pure (wpAny_pure ?_)
  exact hQ
theorem design_call {rest : List Value} {Q : Value → Shared → Prop} (X : (K w.params).In h) (hrest : rest.length ≤ sizeLine)
    (hq : ∀ h' e, Heap.MadeExcOf h h' e (.ref 52) rest → wpAny (model prog w) (A.under (.builtin "type.__call__" ⟨.ref 52 :: rest, []⟩)) (call (.ref 36) (.ref e :: rest)) (fun r s' => r = .none ∧ Q (.ref e) s') E ⟨h', g, d, t, os⟩) :
    wpAny (model prog w) A (call (.ref 52) rest) Q E ⟨h, g, d, t, os⟩ := by
  obtain ⟨nm, q, bs, sn, sub, col, dd, k0, k1, k2, k3, k5, hC⟩ := d52 X
  have f1 := tc_lookup
  have f2 := tc_bind (.ref 52)
  have hT : (⟨h, g, d, t, os⟩ : Shared).TypeIs (.ref 52) "type" := ⟨_, hC, rfl⟩
  refine wpAny_call (codeAny_of_tree ?_)
  show wpAny _ _ (callAny (.ref 52) _) _ _ _
  repeat (any_goals (first | assumption | with_reducible refine wpAny_loadPart_at hC ?_ | wp_step))
  refine ⟨rfl, ?_⟩
  refine codeAny_call_builtin_at (Code.quiet_builtin _ (by decide +kernel)) entry_typeCall (wpAny_check_type_call_sub hC (design_type_call X hrest fun h' e hm => ?_))
  exact hq h' e hm
end


/-- an exception on its way up: its object has P (its class, its dict), whatever its fields -/
def TrD (h base : Heap) (e : Addr) (P : Obj → Prop) (fl : Value) : Prop :=
  ∃ oe vs T oT ts, h.get? e = some oe ∧ P oe ∧ oe.data = .fields vs ∧ vs[1]? = some (.ref T) ∧ base.get? T = none ∧ T ≠ e ∧ h.get? T = some oT ∧ oT.data = .fields ts ∧ ts[3]? = some fl
def HeldD (base : Heap) (l : List Env) (e : Addr) (P : Obj → Prop) (fl : Value) (h : Heap) : Prop := base.StaysIn h ∧ base.get? e = none ∧ h.FunFrames base l ∧ TrD h base e P fl
abbrev FlyD (base : Heap) (l : List Env) (e : Addr) (P : Obj → Prop) (h : Heap) : Prop := HeldD base l e P .none h
theorem HeldD.there {base h : Heap} {l : List Env} {e : Addr} {P : Obj → Prop} {fl : Value} (x : HeldD base l e P fl h) : ∃ oe, h.get? e = some oe ∧ P oe := by
  obtain ⟨_, _, _, oe, _, _, _, _, he, hp, _⟩ := x
  exact ⟨oe, he, hp⟩
section
variable {M : Model} {A : Around} {E : Value → Shared → Prop} {s : Shared}
theorem entryD {base : Heap} {env : Env} {outer : List Env} {L e : Addr} {oe : Obj} {vs : Array Value} {head : Value} {hadNext : Bool} {P : Obj → Prop} {Q : Unit → Shared → Prop}
    (hfr : A.frames = some (env :: outer)) (hl : s.heap.FunFrames base (env :: outer)) (hf : env.frame = some L)
    (he : s.heap.get? e = some oe) (hkb : base.StaysIn s.heap) (hen : base.get? e = none) (hd : oe.data = .fields vs) (hsz : 1 < vs.size) (hP : P oe) (hPm : ∀ o f, P o → P (Obj.mapFields f o))
    (h : ∀ h', HeldD base (env :: outer) e P (rawInt L) h' → s.heap.UpToSlots h' → Q () { s with heap := h' }) :
    wpAny M A (do let a ← frameOf env; let pl ← entryPlaceOf L hadNext; let b ← EntryCells.newEntry head a .none (rawInt L) .none pl; setField (.ref e) 1 b) Q E s := by
  have hene : e ∉ (env :: outer).filterMap (·.frame) := fun hm => by
    obtain ⟨_, o, ho, hnf⟩ := hl.mem hm
    rw [he] at ho; injection ho with ho; subst ho; exact hnf vs hd
  refine wpAny_bind (wpAny_frameOf_fun hfr hl hf fun h₁ hs₁ => ?_)
  refine wpAny_bind (wpAny_entryPlaceOf fun pl hpl => ?_)
  unfold EntryCells.newEntry newFields
  refine wpAny_bind (wpAny_newObj_type ?_ (hpl.sizeOk5 _ _ _ _ _))
  have he₁ : h₁.get? e = some oe := (hs₁.2.1 e hene).trans he
  have kb₁ : base.StaysIn h₁ := fun b o hbo => (hs₁.2.1 b fun hm => by rw [(hl.mem hm).1] at hbo; cases hbo).trans (hkb b o hbo)
  generalize hnew : ({ cls := .type "traceback", dict := none, data := .fields ([head, .ref L, .none, rawInt L, .none] ++ (if pl.isEmpty then List.replicate 6 Value.none else pl)).toArray } : Obj) = tb
  have he₂ := Heap.get?_push_of_some (h := h₁) tb he₁
  refine wpAny_setField he₂ hd hsz (h _ ?_ ?_)
  all_goals
    have hTe : h₁.objs.size ≠ e := Nat.ne_of_gt (Heap.lt_size he₁)
    have hd₃ := Obj.data_mapFields hd (·.setIfInBounds 1 (Value.ref h₁.objs.size))
    have he₃ := Heap.get?_update_self (Obj.mapFields (·.setIfInBounds 1 (Value.ref h₁.objs.size))) he₂ (Obj.isFreed_of_fields hd₃)
    have hT₃ := (Heap.get?_update_other (h₁.push tb) (Obj.mapFields (·.setIfInBounds 1 (Value.ref h₁.objs.size))) (Ne.symm hTe)).trans (Heap.get?_push_size h₁ (by rw [← hnew]; rfl))
    have keep : ∀ b o, b ≠ e → h₁.get? b = some o → ((h₁.push tb).update e (Obj.mapFields (·.setIfInBounds 1 (Value.ref h₁.objs.size)))).get? b = some o := fun b o hbe hb => by
      rw [Heap.get?_update_other _ _ (Ne.symm hbe)]
      exact Heap.get?_push_of_some _ hb
    have noRecord : ∀ b o, s.heap.get? b = some o → (∀ vs, o.data ≠ .fields vs) → b ≠ e := fun b o hb hnf q => by
      rw [q, he] at hb; injection hb with hb; subst hb; exact hnf vs hd
  · refine ⟨fun b o hbo => keep b o (fun q => by rw [q, hen] at hbo; cases hbo) (kb₁ b o hbo), hen, hl.of_keeps fun b o hb hnf => ?_, ?_⟩
    · obtain ⟨sl, hs⟩ := hs₁.2.2 b o hb
      exact ⟨_, keep b _ (noRecord b o hb hnf) hs, rfl⟩
    · refine ⟨_, _, h₁.objs.size, _, _, he₃, hPm _ _ hP, hd₃, by simp [hsz], kb₁.fresh, hTe, hT₃, by rw [← hnew], ?_⟩
      first | (simp; done) | (rcases hpl with rfl | ⟨_, _, _, _, _, _, _, rfl⟩ <;> simp)
  · intro b o hb hnf
    obtain ⟨sl, hs⟩ := hs₁.2.2 b o hb
    exact ⟨sl, keep b _ (noRecord b o hb hnf) hs⟩
theorem noteD_first {base : Heap} {env : Env} {outer : List Env} {L e : Addr} {oe : Obj} {vs : Array Value} {P : Obj → Prop} {Q : Unit → Shared → Prop}
    (hfr : A.frames = some (env :: outer)) (hl : s.heap.FunFrames base (env :: outer)) (hf : env.frame = some L)
    (he : s.heap.get? e = some oe) (hkb : base.StaysIn s.heap) (hen : base.get? e = none) (hd : oe.data = .fields vs) (h1 : vs[1]? = some .none) (hP : P oe) (hPm : ∀ o f, P o → P (Obj.mapFields f o))
    (h : ∀ h', HeldD base (env :: outer) e P (rawInt L) h' → s.heap.UpToSlots h' → Q () { s with heap := h' }) : wpAny M A (noteFrame (.ref e) env) Q E s := by
  unfold noteFrame
  simp only [hf]
  refine wpAny_bind (wpAny_field he hd h1 ?_)
  rw [if_neg (by decide)]
  exact entryD hfr hl hf he hkb hen hd (Array.getElem?_eq_some_iff.mp h1).1 hP hPm h
theorem noteD_next {base : Heap} {env : Env} {outer : List Env} {L e : Addr} {P : Obj → Prop} {Q : Unit → Shared → Prop}
    (hfr : A.frames = some (env :: outer)) (hf : env.frame = some L) (hfl : FlyD base (env :: outer) e P s.heap) (hPm : ∀ o f, P o → P (Obj.mapFields f o))
    (h : ∀ h', HeldD base (env :: outer) e P (rawInt L) h' → s.heap.UpToSlots h' → Q () { s with heap := h' }) : wpAny M A (noteFrame (.ref e) env) Q E s := by
  obtain ⟨hkb, hen, hl, oe, vs, T, oT, ts, he, hP, hd, h1, hnT, hTe, hT, hdT, h3⟩ := hfl
  unfold noteFrame
  simp only [hf]
  refine wpAny_bind (wpAny_field he hd h1 ?_)
  rw [if_pos (show (Value.ref T != Value.none) = true from by simp)]
  refine wpAny_bind (wpAny_field hT hdT h3 ?_)
  rw [if_neg (show ¬ ((Value.none == rawInt L) = true) from by simp [rawInt])]
  refine wpAny_bind (wpAny_setField hT hdT (Array.getElem?_eq_some_iff.mp h3).1 ?_)
  have other : ∀ b, b ≠ T → (s.heap.update T (Obj.mapFields (·.setIfInBounds 3 Value.none))).get? b = s.heap.get? b := fun b hb => Heap.get?_update_other _ _ (Ne.symm hb)
  have noRecord : ∀ b o, s.heap.get? b = some o → (∀ vs, o.data ≠ .fields vs) → b ≠ T := fun b o hb hnf q => by
    rw [q, hT] at hb; injection hb with hb; subst hb; exact hnf ts hdT
  refine entryD hfr (hl.of_keeps fun b o hb hnf => ⟨o, (other b (noRecord b o hb hnf)).trans hb, rfl⟩) hf ((other e (Ne.symm hTe)).trans he)
    (fun b o hbo => (other b fun q => by rw [q, hnT] at hbo; cases hbo).trans (hkb b o hbo)) hen hd (Array.getElem?_eq_some_iff.mp h1).1 hP hPm
    fun h' x y => h h' x fun b o hb hnf => y b o ((other b (noRecord b o hb hnf)).trans hb) hnf
theorem noteD_again {base : Heap} {env : Env} {l : List Env} {L e : Addr} {P : Obj → Prop} {Q : Unit → Shared → Prop} (hf : env.frame = some L) (ht : HeldD base l e P (rawInt L) s.heap) (h : Q () s) : wpAny M A (noteFrame (.ref e) env) Q E s := by
  obtain ⟨_, _, _, oe, vs, T, oT, ts, he, hP, hd, h1, hnT, hTe, hT, hdT, h3⟩ := ht
  unfold noteFrame
  simp only [hf]
  refine wpAny_bind (wpAny_field he hd h1 ?_)
  rw [if_pos (show (Value.ref T != Value.none) = true from by simp)]
  refine wpAny_bind (wpAny_field hT hdT h3 ?_)
  rw [if_pos (show (rawInt L == rawInt L) = true from by simp)]
  exact wpAny_pure h
theorem landD {base : Heap} {l : List Env} {e : Addr} {P : Obj → Prop} {fl : Value} {Q : Unit → Shared → Prop} (ht : HeldD base l e P fl s.heap)
    (h : ∀ h', FlyD base l e P h' → s.heap.UpToSlots h' → Q () { s with heap := h' }) : wpAny M A (setFlight (.ref e) none) Q E s := by
  obtain ⟨hkb, hen, hl, oe, vs, T, oT, ts, he, hP, hd, h1, hnT, hTe, hT, hdT, h3⟩ := ht
  have hsz3 : 3 < ts.size := (Array.getElem?_eq_some_iff.mp h3).1
  have other : ∀ b, b ≠ T → (s.heap.update T (Obj.mapFields (·.setIfInBounds 3 ((none : Option Addr).elim Value.none fun f => rawInt f)))).get? b = s.heap.get? b :=
    fun b hb => Heap.get?_update_other _ _ (Ne.symm hb)
  have noRecord : ∀ b o, s.heap.get? b = some o → (∀ vs, o.data ≠ .fields vs) → b ≠ T := fun b o hb hnf q => by
    rw [q, hT] at hb; injection hb with hb; subst hb; exact hnf ts hdT
  unfold setFlight
  refine wpAny_bind (wpAny_field he hd h1 ?_)
  rw [if_pos (show (Value.ref T != Value.none) = true from by simp)]
  refine wpAny_setField hT hdT hsz3 (h _ ⟨fun b o hbo => (other b fun q => by rw [q, hnT] at hbo; cases hbo).trans (hkb b o hbo), hen,
    hl.of_keeps fun b o hb hnf => ⟨o, (other b (noRecord b o hb hnf)).trans hb, rfl⟩, ?_⟩ fun b o hb hnf => ⟨o.slots, (other b (noRecord b o hb hnf)).trans hb⟩)
  exact ⟨oe, vs, T, _, _, (other e (Ne.symm hTe)).trans he, hP, hd, h1, hnT, hTe, Heap.get?_update_self _ hT (Obj.isFreed_of_fields (Obj.data_mapFields hdT _)), Obj.data_mapFields hdT _, by simp [hsz3]⟩
theorem HeldD.less {base h : Heap} {env : Env} {outer : List Env} {e : Addr} {P : Obj → Prop} {fl : Value} (x : HeldD base (env :: outer) e P fl h) : HeldD base outer e P fl h := ⟨x.1, x.2.1, x.2.2.1.2.2, x.2.2.2⟩
theorem leaveD_first {base : Heap} {env : Env} {outer : List Env} {L e : Addr} {oe : Obj} {vs : Array Value} {P : Obj → Prop} {Q : Unit → Shared → Prop}
    (hfr : A.frames = some (env :: outer)) (hl : s.heap.FunFrames base (env :: outer)) (hf : env.frame = some L)
    (he : s.heap.get? e = some oe) (hkb : base.StaysIn s.heap) (hen : base.get? e = none) (hd : oe.data = .fields vs) (h1 : vs[1]? = some .none) (hP : P oe) (hPm : ∀ o f, P o → P (Obj.mapFields f o))
    (h : ∀ h', FlyD base outer e P h' → s.heap.UpToSlots h' → Q () { s with heap := h' }) : wpAny M A (leaving env (.ref e)) Q E s := by
  unfold leaving
  exact wpAny_bind (noteD_first hfr hl hf he hkb hen hd h1 hP hPm fun h₁ x y => landD x fun h₂ x' y' => h h₂ x'.less (y.trans y'))
theorem leaveD_next {base : Heap} {env : Env} {outer : List Env} {L e : Addr} {P : Obj → Prop} {Q : Unit → Shared → Prop}
    (hfr : A.frames = some (env :: outer)) (hf : env.frame = some L) (hfl : FlyD base (env :: outer) e P s.heap) (hPm : ∀ o f, P o → P (Obj.mapFields f o))
    (h : ∀ h', FlyD base outer e P h' → s.heap.UpToSlots h' → Q () { s with heap := h' }) : wpAny M A (leaving env (.ref e)) Q E s := by
  unfold leaving
  exact wpAny_bind (noteD_next hfr hf hfl hPm fun h₁ x y => landD x fun h₂ x' y' => h h₂ x'.less (y.trans y'))
end


theorem refuse52 (self : Value) : refuseLoop self "__setattr__" (.ref 52 :: bm52) = pure () := by
  rw [refuseLoop_ref, refuseLoop_ref]
  exact PySem.F.store_Exception.passes self
section
open PySem.Builtin PySem.Builtin.ObjectAttr
variable {prog : Program} {w : World} {A : Around} {E : Value → Shared → Prop} {h : Heap} {g : Array GenState} {d : Drawn} {t : Nat} {os : OsState} {x : Addr} {mA : Str → Option Value} {name : Str} {v : Value}
theorem cls52 {h : Heap} (X : (K w.params).In h) : ∃ cd sl dd, h.get? 52 = some ⟨.type "type", dd, .cls cd, sl⟩ ∧ cd.mro = .ref 52 :: bm52 ∧ cd.hasDict = true := ⟨_, _, _, X 52 k52 (by kernel_rfl), rfl, rfl⟩
def Inst52 (h : Heap) (x : Addr) (mA : Str → Option Value) : Prop :=
  ∃ o, h.get? x = some o ∧ o.cls = .ref 52 ∧ (∀ c, o.data ≠ .cls c) ∧ ((o.dict = none ∧ ∀ n, mA n = none) ∨ ∃ d, o.dict = some d ∧ d ≠ x ∧ h.Ns1 d mA)
theorem store52 {ns : List Str} {Q : Unit → Shared → Prop} (X : (K w.params).In h) (hn : findIn (K w.params) (.ref 52) name = some none) (I : Inst52 h x mA) (hw : Within mA ns) (hsz : ns.length ≤ 1000)
    (hq : ∀ h' tk', Inst52 h' x (fun y => if y = name then some v else mA y) →
      (∀ b o, b ≠ x → (∀ o₀ dx, h.get? x = some o₀ → o₀.dict = some dx → b ≠ dx) → h.get? b = some o → h'.get? b = some o) →
      (∀ o₀, h.get? x = some o₀ → ∃ o₁ dx, h'.get? x = some o₁ ∧ o₁.cls = o₀.cls ∧ o₁.data = o₀.data ∧ o₁.dict = some dx ∧ ((o₀.dict = some dx ∧ o₁ = o₀) ∨ (o₀.dict = none ∧ h.get? dx = none))) → Q () ⟨h', g, d, tk', os⟩) :
    wpAny (model prog w) A (setAttr (.ref x) name v) Q E ⟨h, g, d, t, os⟩ := by
  obtain ⟨⟨oc, od, oda, osl⟩, hx, hc, hnc, hd⟩ := I
  dsimp only at hc hnc hd
  subst hc
  obtain ⟨cd, sl, dd, hC, hmro, hhd⟩ := cls52 X
  have SF := PySem.F.store_object
  have hset : findIn (K w.params) (.ref 52) "__setattr__" = some (some (.builtin "object.__setattr__")) := by kernel_rfl
  have hty : Looks (model prog w) h (typeOf (.ref x)) (.ref 52) := (Looks.ld hx).andThen .now
  have hm : Looks (model prog w) h (mroOf (.ref 52)) (.ref 52 :: bm52) := by
    rw [← hmro]
    exact ((Looks.ld (part := none) hC).andThen .now).andThen .now
  have hsub : Looks (model prog w) h (isInstance (.ref x) (.type "object")) true := hty.andThen (looks_subIn X (by kernel_rfl))
  have hcd : Looks (model prog w) h (classData 52) cd := (Looks.ld (part := none) hC).andThen .now
  refine wpAny_bind (wpAny_mkText (wpAny_bind (wpAny_bind (wpAny_bind (hty _ _ _ _ (fun _ _ e => e) (looks_findIn X hset _ _ _ _ (fun _ _ e => e) (wpAny_holding ?_)))))))
  rw [SF.slot.bind]
  refine wpAny_bind (wpAny_pure (wpAny_bind (wpAny_call ?_)))
  refine codeAny_call_builtin SF.slot.plain SF.entry (@check_slot (model prog w) _ _ _ "object.__setattr__" "object" "__setattr__" (.ref x) [.str name t, v] [] _ SF.kind SF.split hsub (SF.args (.ref x) (.str name t) v) ?_)
  show wpAny _ _ (Builtin.«object.__setattr__» ⟨[.ref x, .str name t, v], []⟩) _ _ _
  rw [osa_eq, refuse_eq]
  refine wpAny_bind (wpAny_bind (hty.here (wpAny_bind (hm.here ?_))))
  rw [refuse52]
  refine wpAny_pure (wpAny_bind (hty.here (wpAny_bind ((looks_findIn X hn).here (wpAny_bind (wpAny_pure ?_))))))
  dsimp only
  refine wpAny_bind (wpAny_pure (wpAny_bind (wpAny_bind (wpAny_loadPart hx (wpAny_bind (hcd.here ?_))))))
  rw [hhd]
  simp only [Bool.not_true, Bool.false_eq_true, if_false]
  rcases hd with ⟨hdn, hmA⟩ | ⟨dx, hdx, hne, hns⟩
  · subst hdn
    dsimp only
    rw [if_neg (by simp [typeHasDict])]
    · have hx₁ := Heap.get?_push_of_some { cls := .type "dict", data := .dict #[] } hx
      have hxs : x ≠ h.objs.size := Nat.ne_of_lt (Heap.lt_size hx)
      refine wpAny_bind (wpAny_alloc' ?_)
      refine wpAny_bind (wpAny_update' hx₁ ?_)
      refine wpAny_pure ?_
      have hgd : ((h.push { cls := .type "dict", data := .dict #[] }).update x fun o => { cls := o.cls, dict := some h.objs.size, data := o.data, slots := o.slots }).get? h.objs.size = some { cls := .type "dict", data := .dict #[] } :=
        (Heap.get?_update_ne _ _ _ _ hxs.symm).trans (Heap.get?_push_at rfl rfl)
      have hnd : ((h.push { cls := .type "dict", data := .dict #[] }).update x fun o => { cls := o.cls, dict := some h.objs.size, data := o.data, slots := o.slots }).Ns h.objs.size (fun _ => none) :=
        ⟨_, #[], _, hgd, rfl, fun e he => absurd he (by simp), fun _ => rfl⟩
      show wpAny _ _ (storeInDict h.objs.size (.str name t) name v) _ _ _
      unfold storeInDict newKeyGuard
      refine wpAny_bind (wpAny_pure (wpAny_bind (wpAny_nsSet1 (Heap.Ns1.of_empty hnd) fun h' hn' hs => ?_)))
      obtain ⟨oD, esD, epD, hoD, hdD, hcD⟩ := hn'.count (Within.cons name v Within.nil)
      refine wpAny_bind (wpAny_lookBehind hoD (by rw [hdD]; exact pastItsLine_dict (Nat.le_trans hcD (by rw [List.length_cons, List.length_nil, sizeLine_eq]; omega))) ?_)
      have hx' := (hs.2 x hxs).trans (Heap.get?_update_self (fun o => { cls := o.cls, dict := some h.objs.size, data := o.data, slots := o.slots }) hx₁ (by have hfr := (Heap.get?_some_iff.mp hx).2; clear hq hnc hty hm hsub hx₁ hgd hnd hx; cases oda <;> first | rfl | exact hfr))
      refine wpAny_pure (wpAny_pure (wpAny_pure ?_))
      refine hq h' _ ⟨_, hx', rfl, hnc, .inr ⟨h.objs.size, rfl, hxs.symm, ?_⟩⟩ (fun b ob hbx _ hb => ?_)
        (fun o₀ h₀ => by obtain rfl := Option.some.inj (hx.symm.trans h₀); exact ⟨_, h.objs.size, hx', rfl, rfl, rfl, .inr ⟨rfl, Heap.get?_none_of_le (Nat.le_refl _)⟩⟩)
      · obtain ⟨o', es, ep, e1, e2, e3, eu, e4⟩ := hn'
        exact ⟨o', es, ep, e1, e2, e3, eu, fun y => by rw [e4 y]; by_cases hy : y = name <;> simp [hy, hmA]⟩
      · exact (hs.2 b (Nat.ne_of_lt (Heap.lt_size hb))).trans ((Heap.get?_update_ne _ _ _ _ hbx).trans (Heap.get?_push_of_some _ hb))
  · subst hdx
    dsimp only
    refine wpAny_pure ?_
    show wpAny _ _ (storeInDict dx (.str name t) name v) _ _ _
    unfold storeInDict newKeyGuard
    refine wpAny_bind (wpAny_pure (wpAny_bind (wpAny_nsSet1 hns fun h' hn' hs => ?_)))
    obtain ⟨oD, esD, epD, hoD, hdD, hcD⟩ := hn'.count (Within.cons name v hw)
    refine wpAny_bind (wpAny_lookBehind hoD (by rw [hdD]; exact pastItsLine_dict (Nat.le_trans hcD (by rw [List.length_cons, sizeLine_eq]; omega))) ?_)
    have hx' := (hs.2 x hne.symm).trans hx
    refine wpAny_pure (wpAny_pure (wpAny_pure ?_))
    refine hq h' _ ⟨_, hx', rfl, hnc, .inr ⟨dx, rfl, hne, hn'⟩⟩ (fun b ob _ hbd hb => ?_)
      (fun o₀ h₀ => by obtain rfl := Option.some.inj (hx.symm.trans h₀); exact ⟨_, dx, hx', rfl, rfl, rfl, .inl ⟨rfl, rfl⟩⟩)
    exact (hs.2 b (hbd _ dx hx rfl)).trans hb
end


section
open PySem.Builtin PySem.Builtin.ObjectAttr
variable {prog : Program} {w : World} {A : Around} {E : Value → Shared → Prop} {h : Heap} {g : Array GenState} {d : Drawn} {t : Nat} {os : OsState} {x dx : Addr} {mA : Str → Option Value} {name : Str} {v : Value}
theorem get52 {o : Obj} {expr : Bool} {Q : Value → Shared → Prop} (X : (K w.params).In h) (hx : h.get? x = some o) (hc : o.cls = .ref 52) (hnc : ∀ c, o.data ≠ .cls c) (hdx : o.dict = some dx) (hns : h.Ns dx mA) (hv : mA (Str.ofString "kind") = some v)
    (hho : handedOut v = pure v) (hq : Q v ⟨h, g, d, t + 1, os⟩) : wpAny (model prog w) A (getAttr (.ref x) (Str.ofString "kind") expr) Q E ⟨h, g, d, t, os⟩ := by
  obtain ⟨oc, od, oda, osl⟩ := o
  dsimp only at hc hnc hdx
  subst hc hdx
  obtain ⟨cd, sl, dd, hC, hmro, hhd⟩ := cls52 X
  have hty : Looks (model prog w) h (typeOf (.ref x)) (.ref 52) := (Looks.ld hx).andThen .now
  have hcd : Looks (model prog w) h (classData 52) cd := (Looks.ld (part := none) hC).andThen .now
  have f1 := looks_findIn (M := model prog w) (name := "__getattribute__") (t := .ref 52) (r := some (.builtin "BaseException.__getattribute__")) X (by kernel_rfl)
  have f2 := looks_findIn (M := model prog w) (name := "kind") (t := .ref 52) (r := none) X (by kernel_rfl)
  have f3 := looks_findIn (M := model prog w) (name := "__getattr__") (t := .ref 52) (r := none) X (by kernel_rfl)
  have hsub : Looks (model prog w) h (isInstance (.ref x) (.type "BaseException")) true := hty.andThen (looks_subIn X (by kernel_rfl))
  unfold getAttr
  refine wpAny_bind (wpAny_mkText ?_)
  unfold getAttrBy
  have hx0 : (expr && onTheHeap (Value.builtin "BaseException.__getattribute__")) = false := by cases expr <;> rfl
  have hx1 : (onTheHeap (Value.ref 52) && Value.builtin "BaseException.__getattribute__" == Value.builtin "object.__getattribute__") = false := by decide +kernel
  refine wpAny_holding (wpAny_bind (hty.here (wpAny_bind (f1.here ?_))))
  dsimp only
  rw [hx1]
  simp only [Bool.false_eq_true, if_false]
  unfold getAttrByItsOwn
  have fb := PySem.F.attr_Exception.ga.bind (.ref x)
  have hk : builtinKind "BaseException.__getattribute__" = some .slot := by decide +kernel
  have hsplit : splitId "BaseException.__getattribute__" = some ("BaseException", "__getattribute__") := by decide +kernel
  refine wpAny_bind ?_
  unfold hookBefore
  repeat (any_goals (first | assumption | (with_reducible refine f3.here ?_) | wp_step))
  refine codeAny_call_builtin PySem.F.attr_Exception.ga.plain PySem.F.entry_bexc_ga (@check_slot (model prog w) _ _ _ "BaseException.__getattribute__" "BaseException" "__getattribute__" (.ref x) [.str (Str.ofString "kind") t] [] _ hk hsplit hsub (PySem.F.args_bexc_ga (.ref x) (.str (Str.ofString "kind") t)) ?_)
  have hown : ∀ {A : Around} {E : Value → Shared → Prop} {tk : Nat} {Q : Option Value → Shared → Prop}, Q (some v) ⟨h, g, d, tk, os⟩ → wpAny (model prog w) A (inOwnDict (Str.ofString "kind") (.ref x)) Q E ⟨h, g, d, tk, os⟩ := by
    intro A E tk Q hq
    unfold inOwnDict ObjectAttr.ownDict
    refine wpAny_bind (wpAny_bind (wpAny_loadPart hx ?_))
    dsimp only
    split
    · first | (rename_i hcd9; exact absurd hcd9 (hnc _)) | (rename_i q8 q9; exact absurd rfl (hnc _))
    · unfold instanceDict
      refine wpAny_bind (wpAny_loadPart hx (wpAny_bind (hcd.here ?_)))
      rw [hhd]
      simp only [Bool.not_true, Bool.false_eq_true, if_false]
      refine wpAny_pure ?_
      unfold inDict
      refine wpAny_nsGet hns ?_
      rw [hv]; exact hq
  unfold Builtin.«object.__getattribute__» find ownThenClass getOf dataDescriptor?
  repeat (any_goals (first | assumption | (with_reducible refine hty.here ?_) | (with_reducible refine f2.here ?_) | (with_reducible refine hown ?_) | (rw [hho]) | wp_step))
end


def DNs (od : Obj) (mA : Str → Option Value) : Prop := ∀ (h : Heap) (d : Addr), h.get? d = some od → h.Ns1 d mA
theorem dns_of {h : Heap} {d : Addr} {mA : Str → Option Value} (n : h.Ns1 d mA) : ∃ od, h.get? d = some od ∧ DNs od mA := by
  obtain ⟨o, es, ep, e1, r⟩ := n
  exact ⟨o, e1, fun h' d' e => ⟨o, es, ep, e, r⟩⟩
section
variable {prog : Program} {w : World} {A : Around} {E : Value → Shared → Prop} {s : Shared} {g₀ : Heap} {L e dx : Addr} {m mA : Str → Option Value} {name : Str} {v : Value} {oe od : Obj} {R : Led} {vs : Array Value} {ns : List Str}
theorem store_first {Q : Unit → Shared → Prop} (F : Fr g₀ L s.heap m) (X : (K w.params).In g₀) (N : News g₀ L s.heap ((e, oe) :: R)) (hR : ∀ p ∈ R, p.1 ≠ e) (hc : oe.cls = .ref 52) (hd : oe.data = .fields vs) (hn : oe.dict = none) (hname : findIn (K w.params) (.ref 52) name = some none)
    (hq : ∀ h' tk' dx od oe', Fr g₀ L h' m → News g₀ L h' ((e, oe') :: (dx, od) :: R) → oe'.cls = .ref 52 → oe'.data = .fields vs → oe'.dict = some dx → DNs od (fun y => if y = name then some v else none) → @Ne Nat dx e → (∀ p ∈ R, p.1 ≠ dx) → Q () { s with heap := h', toks := tk' }) :
    wpAny (model prog w) A (setAttr (.ref e) name v) Q E s := by
  obtain ⟨h, g, d, t, os⟩ := s
  have he := (N _ (.head _)).1
  have hLe : e ≠ L := (N _ (.head _)).2.1
  have he0 : g₀.get? e = none := (N _ (.head _)).2.2
  refine store52 (ns := []) (X.keeps F.keep) hname ⟨oe, he, hc, (fun c q => by rw [hd] at q; cases q), .inl ⟨hn, fun _ => rfl⟩⟩ Within.nil (by decide) fun h' tk' I K1 K2 => ?_
  obtain ⟨o₁, dx, e1, e2, e3, e4, e5⟩ := K2 oe he
  have hdn : h.get? dx = none := by
    rcases e5 with e5 | e5
    · rw [hn] at e5; cases e5.1
    · exact e5.2
  obtain ⟨o₂, f1, f2, f3, f4⟩ := I
  obtain rfl : o₁ = o₂ := Option.some.inj (e1.symm.trans f1)
  rcases f4 with ⟨q, _⟩ | ⟨d', q1, q2, q3⟩
  · rw [e4] at q; cases q
  · obtain rfl : dx = d' := Option.some.inj (e4.symm.trans q1)
    obtain ⟨od, hod, D⟩ := dns_of q3
    have kp : ∀ b o, b ≠ e → h.get? b = some o → h'.get? b = some o := fun b o hb ho => K1 b o hb (fun o₀ dx' h0 h1 => by
      rw [he] at h0
      rw [← Option.some.inj h0, hn] at h1; cases h1) ho
    have hdL : dx ≠ L := fun q => by rw [q] at hdn; obtain ⟨o, _, _, e0, _⟩ := F.ns; rw [hdn] at e0; cases e0
    have hd0 : g₀.get? dx = none := by
      cases q : g₀.get? dx with
      | none => rfl
      | some o => have := F.keep _ _ q; rw [hdn] at this; cases this
    refine hq h' tk' dx od o₁ ⟨F.ns.at' fun o ho => kp L o (Ne.symm hLe) ho, fun b o ho => kp b o (fun q => by rw [q, he0] at ho; cases ho) (F.keep b o ho), F.above⟩ (fun p hp => ?_) (e2.trans hc) (e3.trans hd) e4 D q2 (fun p hp q => ?_)
    · rcases List.mem_cons.mp hp with rfl | hp
      · exact ⟨e1, hLe, he0⟩
      · rcases List.mem_cons.mp hp with rfl | hp
        · exact ⟨hod, hdL, hd0⟩
        · have z := N p (.tail _ hp)
          exact ⟨kp _ _ (hR p hp) z.1, z.2⟩
    · have z := (N p (.tail _ hp)).1
      rw [q, hdn] at z; cases z
theorem store_next {Q : Unit → Shared → Prop} (F : Fr g₀ L s.heap m) (X : (K w.params).In g₀) (N : News g₀ L s.heap ((e, oe) :: (dx, od) :: R)) (hR : ∀ p ∈ R, p.1 ≠ e) (hR2 : ∀ p ∈ R, p.1 ≠ dx) (hde : @Ne Nat dx e) (hc : oe.cls = .ref 52) (hd : oe.data = .fields vs) (hn : oe.dict = some dx) (hname : findIn (K w.params) (.ref 52) name = some none)
    (D : DNs od mA) (hw : Within mA ns) (hsz : ns.length ≤ 1000)
    (hq : ∀ h' tk' od', Fr g₀ L h' m → News g₀ L h' ((e, oe) :: (dx, od') :: R) → DNs od' (fun y => if y = name then some v else mA y) → Q () { s with heap := h', toks := tk' }) :
    wpAny (model prog w) A (setAttr (.ref e) name v) Q E s := by
  obtain ⟨h, g, d, t, os⟩ := s
  have he := (N _ (.head _)).1
  have hLe : e ≠ L := (N _ (.head _)).2.1
  have he0 : g₀.get? e = none := (N _ (.head _)).2.2
  have hx := (N _ (.tail _ (.head _))).1
  have hLx : dx ≠ L := (N _ (.tail _ (.head _))).2.1
  have hx0 : g₀.get? dx = none := (N _ (.tail _ (.head _))).2.2
  refine store52 (X.keeps F.keep) hname ⟨oe, he, hc, (fun c q => by rw [hd] at q; cases q), .inr ⟨dx, hn, hde, D _ _ hx⟩⟩ hw hsz fun h' tk' I K1 K2 => ?_
  obtain ⟨o₁, dx', e1, e2, e3, e4, e5⟩ := K2 oe he
  have e6 : dx = dx' ∧ o₁ = oe := by
    rcases e5 with e5 | e5
    · exact ⟨Option.some.inj (hn.symm.trans e5.1), e5.2⟩
    · rw [hn] at e5; cases e5.1
  obtain ⟨rfl, hoe⟩ := e6
  obtain ⟨o₂, f1, f2, f3, f4⟩ := I
  obtain rfl : o₁ = o₂ := Option.some.inj (e1.symm.trans f1)
  rcases f4 with ⟨q, _⟩ | ⟨d', q1, q2, q3⟩
  · rw [e4] at q; cases q
  · obtain rfl : dx = d' := Option.some.inj (e4.symm.trans q1)
    obtain ⟨od', hod, D'⟩ := dns_of q3
    have kp : ∀ b o, b ≠ e → b ≠ dx → h.get? b = some o → h'.get? b = some o := fun b o hb hb2 ho => K1 b o hb (fun o₀ dx' h0 h1 => by
      rw [he] at h0
      rw [← Option.some.inj h0, hn] at h1
      rw [← Option.some.inj h1]; exact hb2) ho
    subst hoe
    refine hq h' tk' od' ⟨F.ns.at' fun o ho => kp L o (Ne.symm hLe) (Ne.symm hLx) ho, fun b o ho => kp b o (fun q => by rw [q, he0] at ho; cases ho) (fun q => by rw [q, hx0] at ho; cases ho) (F.keep b o ho), F.above⟩ (fun p hp => ?_) D'
    rcases List.mem_cons.mp hp with rfl | hp
    · exact ⟨e1, hLe, he0⟩
    · rcases List.mem_cons.mp hp with rfl | hp
      · exact ⟨hod, hLx, hx0⟩
      · have z := N p (.tail _ (.tail _ hp))
        exact ⟨kp _ _ (hR p hp) (hR2 p hp) z.1, z.2⟩
end


structure InitMark : Prop where
  mk ::
theorem rg_p25_1 : True := by
  k_with "setAttr ref" => (k_here; (with_reducible rename InitMark => mk9w); refine stop_here ?_)
  exact trivial
abbrev excO (t0 : Addr) : Data := .fields #[.ref t0, .none, .none, .none, .bool false, .none]
theorem init_ok (w : World) {prog : Program} {p : Program} {loose : List Str} {mean : ExcName → Option Value} {mg mb : Str → Option Value} {dp un : Nat} {gd : Option (List Code)} {cn : Str} {cs : PySem.Scope} {ca : Addr} {ccd : Value} {cl : List (Str × Addr)} {outer : List Env} {A₀ : Around} {base h₀ : Heap} {L : Addr} {m : Str → Option Value} {s : Shared} {Q E : Value → Shared → Prop}
    {e t0 : Addr} {kind : Str} {k1 k2 : Tok} {a : Int} {R : Led} (B : Below A₀ base outer h₀) (F : Fr h₀ L s.heap m) (X : (K w.params).In h₀) (N : News h₀ L s.heap ((e, { cls := .ref 52, data := excO t0 }) :: R)) (hR : ∀ p ∈ R, p.1 ≠ e)
    (T : Top p loose mean mg mb h₀) (hk : cs.kind = .function) (hd : dp + 8 < recursionLimit) (hu : un + 200 < cLine)
    (ret : ∀ h' tk' dx od oe' mK, Fr h₀ L h' m → News h₀ L h' ((e, oe') :: (dx, od) :: R) → oe'.cls = .ref 52 → oe'.data = excO t0 → oe'.dict = some dx → DNs od mK → mK (Str.ofString "kind") = some (.str kind k1) → @Ne Nat dx e → (∀ p ∈ R, p.1 ≠ dx) → Q .none { s with heap := h', toks := tk' }) :
    wpAny (model prog w) ((ktrTop dp un gd cn cs L ca ccd cl outer).under (.builtin "type.__call__" ⟨[.ref 52, .str kind k1, .int a k2], []⟩)) (call (.ref 36) [.ref e, .str kind k1, .int a k2]) Q E s := by
  have mk9 : InitMark := ⟨⟩
  refine wpAny_call ?_
  k_dflt (refine' code_def ?k1 ?k2 ?k3 ?k4 ?k5 ?kA ?kF ?kK ?k6 ?k7 ?k8 ?k9 ?kB ?_ ?c2 ?c3 ?c4 ?c5)
  case kA => exact rfl
  case kF => exact rfl
  case kK => assumption
  case k1 => k_asm
  case k2 => k_asm
  case k3 => k_asm
  case k4 => k_asm
  case k5 => k_asm
  case k6 => k_is
  case k7 => k_is
  case k8 => ktr_room
  case k9 => first | exact BindsTo.of_eq rfl | exact binds_K (by k_in) rfl (by k_is) rfl rfl rfl
  case c5 => decide
  case kB => exact locs rfl
  case c2 => exact rfl
  case c3 => exact rfl
  case c4 => exact rfl
  intro g' L' h' FG' F' N' B' X' T'
  try dsimp only
  try k_fold
  k_steps
  unfold StopHere
  refine store_first (by k_asm) (by k_asm) (by k_asm) hR rfl rfl rfl (by kernel_rfl) fun h1 tk1 dx1 od1 oe1 F1 N1 c1 d1 n1 D1 ne1 r1 => ?_
  k_steps
  unfold StopHere
  refine store_next (by k_asm) (by k_asm) (by k_asm) hR r1 ne1 c1 d1 n1 (by kernel_rfl) D1 (Within.cons _ _ Within.nil) (by decide) fun h2 tk2 od2 F2 N2 D2 => ?_
  k_steps
  unfold StopHere
  refine store_next (by k_asm) (by k_asm) (by k_asm) hR r1 ne1 c1 d1 n1 (by kernel_rfl) D2 (Within.cons _ _ (Within.cons _ _ Within.nil)) (by decide) fun h3 tk3 od3 F3 N3 D3 => ?_
  k_steps
  exact ret _ _ dx1 od3 oe1 _ (by k_asm) (by k_asm) c1 d1 n1 D3 rfl ne1 r1

section
variable {w : World} {prog : Program} {p : Program} {loose : List Str} {mean : ExcName → Option Value} {mg mb : Str → Option Value} {dp un : Nat} {gd : Option (List Code)} {cn : Str} {cs : PySem.Scope} {ca : Addr} {ccd : Value} {cl : List (Str × Addr)} {outer : List Env} {A₀ : Around} {base h₀ : Heap} {L : Addr} {m : Str → Option Value} {s : Shared}
/-- DesignError(kind, a) -/
theorem design_use {Q E : Value → Shared → Prop} {kind : Str} {k1 k2 : Tok} {a : Int} {news : Led} (B : Below A₀ base outer h₀) (F : Fr h₀ L s.heap m) (X : (K w.params).In h₀) (N : News h₀ L s.heap news)
    (T : Top p loose mean mg mb h₀) (hk : cs.kind = .function) (hd : dp + 9 < recursionLimit) (hu : un + 220 < cLine)
    (ret : ∀ h' tk' e t0 dx od oe' mK, Fr h₀ L h' m → News h₀ L h' ((e, oe') :: (dx, od) :: news) → oe'.cls = .ref 52 → oe'.data = excO t0 → oe'.dict = some dx → DNs od mK → mK (Str.ofString "kind") = some (.str kind k1) → @Ne Nat dx e → (∀ p ∈ news, p.1 ≠ dx) → (∀ p ∈ news, p.1 ≠ e) → Q (.ref e) { s with heap := h', toks := tk' }) :
    wpAny (model prog w) (ktrTop dp un gd cn cs L ca ccd cl outer) (call (.ref 52) [.str kind k1, .int a k2]) Q E s := by
  obtain ⟨h, g, d, t, os⟩ := s
  refine design_call (X.keeps F.keep) (by show 2 ≤ sizeLine; decide) fun h1 e hm => ?_
  obtain ⟨t0, he, htn, ht⟩ := hm.there
  have F1 : Fr h₀ L h1 m := F.keeps hm.keeps
  have hL : e ≠ L := fun q => by have := hm.new; rw [q] at this; obtain ⟨o, _, _, e0, _⟩ := F.ns; rw [this] at e0; cases e0
  have h0 : h₀.get? e = none := by
    cases q : h₀.get? e with
    | none => rfl
    | some o => have := F.keep _ _ q; rw [hm.new] at this; cases this
  have hne : ∀ p ∈ news, p.1 ≠ e := fun p hp q => by have := (N p hp).1; rw [q, hm.new] at this; cases this
  have N1 : News h₀ L h1 ((e, { cls := .ref 52, data := excO t0 }) :: news) := fun p hp => by
    rcases List.mem_cons.mp hp with rfl | hp
    · exact ⟨he, hL, h0⟩
    · exact ⟨hm.keeps _ _ (N p hp).1, (N p hp).2⟩
  refine init_ok (s := ⟨h1, g, d, t, os⟩) w B F1 X N1 hne T hk (by omega) (by omega) fun h' tk' dx od oe' mK a1 a2 a3 a4 a5 a6 a7 a8 a9 => ⟨rfl, ?_⟩
  exact ret h' tk' e t0 dx od oe' mK a1 a2 a3 a4 a5 a6 a7 a8 a9 hne
end


def RaisedD (base G : Heap) (l : List Env) (e dx : Addr) (od : Obj) (news : Led) (h : Heap) : Prop :=
  ∃ B, base.StaysIn B ∧ (∀ b o, G.get? b = some o → b ∉ l.filterMap (·.frame) → B.get? b = some o) ∧ (∀ q ∈ (dx, od) :: news, B.get? q.1 = some q.2 ∧ G.get? q.1 = none ∧ base.get? q.1 = none) ∧ FlyD B l e (fun o => o.cls = .ref 52 ∧ o.dict = some dx) h
theorem map52 {dx : Addr} : ∀ o f, (o.cls = .ref 52 ∧ o.dict = some dx) → ((Obj.mapFields f o).cls = .ref 52 ∧ (Obj.mapFields f o).dict = some dx) := fun o f h => ⟨(Obj.cls_mapFields _ _).trans h.1, by
  obtain ⟨oc, od, oda, osl⟩ := o
  cases oda <;> exact h.2⟩
theorem frames_mem {env : Env} {outer : List Env} {L b : Addr} (hf : env.frame = some L) (hm : b ∈ (env :: outer).filterMap (·.frame)) : b = L ∨ b ∈ outer.filterMap (·.frame) := by
  obtain ⟨env', he, hf'⟩ := List.mem_filterMap.mp hm
  rcases List.mem_cons.mp he with rfl | he
  · exact .inl (Option.some.inj (hf.symm.trans hf')).symm
  · exact .inr (List.mem_filterMap.mpr ⟨env', he, hf'⟩)
section
variable {M : Model} {A : Around} {E : Value → Shared → Prop} {s' : Shared} {base g g₂ : Heap} {outer : List Env} {L a e dx : Addr} {m : Str → Option Value} {name : Str} {scope : PySem.Scope} {cd : Value} {Q : Unit → Shared → Prop} {news : Led} {oe od : Obj} {t0 : Addr}
theorem leave_raiseD (Bl : Below A base outer g) (F : Fr g L s'.heap m) (N : News g L s'.heap ((e, oe) :: (dx, od) :: news)) (hc : oe.cls = .ref 52) (hd : oe.data = excO t0) (hn : oe.dict = some dx) (hde : @Ne Nat dx e) (hne : ∀ p ∈ news, p.1 ≠ e)
    (hQ : ∀ h', RaisedD base g outer e dx od news h' → g.UpToSlots h' → Q () { s' with heap := h' }) (hk : scope.kind = .function := by rfl) :
    wpAny M (A.deeper (envOf name scope L a cd)) (leaving (envOf name scope L a cd) (.ref e)) Q E s' := by
  have K' := Bl.push (name := name) (a := a) (cd := cd) F hk
  generalize hfs : e :: (envOf name scope L a cd :: outer).filterMap (·.frame) = as
  have hin : ∀ env ∈ (envOf name scope L a cd :: outer), ∀ b, env.frame = some b → b ∈ as := fun env he b hb => hfs ▸ .tail _ (List.mem_filterMap.mpr ⟨env, he, hb⟩)
  have he := (N _ (.head _)).1
  have he0 : g.get? e = none := (N _ (.head _)).2.2
  have st : base.StaysIn (hideAll s'.heap as) := fun b o q => hideAll_get _ (K'.stays b o q) fun hm => by
    rw [← hfs] at hm
    rcases List.mem_cons.mp hm with z | hm
    · have := Bl.stays b o q; rw [z, he0] at this; cases this
    · rw [(K'.frames.mem hm).1] at q; cases q
  have sg : ∀ b o, g.get? b = some o → b ∉ outer.filterMap (·.frame) → (hideAll s'.heap as).get? b = some o := fun b o q nm => hideAll_get _ (F.keep b o q) fun hm => by
    rw [← hfs] at hm
    rcases List.mem_cons.mp hm with z | hm
    · rw [z, he0] at q; cases q
    · rcases kts_mem hm with z | z
      · rw [z, kts_self F] at q; cases q
      · exact nm z
  have hl : ∀ q ∈ (dx, od) :: news, (hideAll s'.heap as).get? q.1 = some q.2 ∧ g.get? q.1 = none ∧ base.get? q.1 = none := fun q hq => by
    have z := N q (.tail _ hq)
    refine ⟨hideAll_get _ z.1 fun hm => ?_, z.2.2, fresh_of_stays Bl.stays z.2.2⟩
    rw [← hfs] at hm
    rcases List.mem_cons.mp hm with y | hm
    · rcases List.mem_cons.mp hq with rfl | hq
      · exact hde y
      · exact hne q hq y
    · rcases kts_mem hm with y | y
      · exact z.2.1 y
      · obtain ⟨_, o, ho, _⟩ := Bl.frames.mem y
        rw [z.2.2] at ho; cases ho
  have hen : (hideAll s'.heap as).get? e = none := hideAll_none _ (hfs ▸ .head _)
  exact leaveD_first K'.stack (funFrames_hide K'.frames hin) rfl he (fun b o q => of_hideAll _ q) hen hd rfl ⟨hc, hn⟩ map52 fun h' x y => hQ h' ⟨_, st, sg, hl, x⟩ ((Heap.UpToSlots.of_keeps F.keep).trans y)
theorem leave_onD {env : Env} (hf : env.frame = some L) (Bl : Below A base outer g) (F : Fr g L g₂ m) (R : RaisedD base g₂ (env :: outer) e dx od news s'.heap) (hsm : g₂.UpToSlots s'.heap)
    (hQ : ∀ h', RaisedD base g outer e dx od news h' → g.UpToSlots h' → Q () { s' with heap := h' }) :
    wpAny M (A.deeper env) (leaving env (.ref e)) Q E s' := by
  obtain ⟨B, hB, hBG, hl, hfl⟩ := R
  exact leaveD_next (Around.frames_deeper Bl.stack) hf hfl map52 fun h' x1 x2 => hQ h' ⟨B, hB, fun b o q nm => hBG b o (F.keep b o q) (fun hm => by
    rcases frames_mem hf hm with z | z
    · rw [z, kts_self F] at q; cases q
    · exact nm z), fun q hq => ⟨(hl q hq).1, kts_none F.keep (hl q hq).2.1, (hl q hq).2.2⟩, x1⟩ ((Heap.UpToSlots.of_keeps F.keep).trans (hsm.trans x2))
end
/-- what `raise` wants of the value: an object of DesignError, no traceback yet -/
def RaisedBy (w : World) (E : Value → Shared → Prop) (v : Value) (s₁ : Shared) : Prop := ∃ a ob vs, v = .ref a ∧ s₁.heap.get? a = some ob ∧ ob.cls = .ref 52 ∧ ob.data = .fields vs ∧ vs[1]? = some .none ∧ (K w.params).In s₁.heap ∧ E (.ref a) s₁
section
variable {prog : Program} {w : World} {A : Around} {E : Value → Shared → Prop} {s : Shared} {env : Env}
theorem Raise_D {ex : PySem.Expr} {pos : Pos} {Q : Flow → Shared → Prop} (hh : A.handled = none)
    (h : wpAny (model prog w) A (eval ex env) (RaisedBy w E) E s) : wpAny (model prog w) A (exec (.Raise (some ex) none pos) env) Q E s := by
  show wpAny (model prog w) A (do standAt pos; raiseStmt env (some (do let v ← eval ex env; standAt pos; pure v)) none) Q E s
  refine wpAny_bind (wpAny_standAt ?_)
  unfold raiseStmt
  dsimp only
  refine wpAny_bind (wpAny_bind (wpAny_mono h (fun v s₁ h₁ => wpAny_bind (wpAny_standAt (wpAny_pure ?_))) fun _ _ x => x))
  obtain ⟨a, ob, vs, rfl, ha, hcls, hd, h1, X, hE⟩ := h₁
  obtain ⟨oc, odd, oda, osl⟩ := ob
  dsimp only at hcls hd
  subst hcls hd
  have hty : Looks (model prog w) s₁.heap (typeOf (.ref a)) (.ref 52) := (Looks.ld ha).andThen .now
  have hsub : Looks (model prog w) s₁.heap (isInstance (.ref a) (.type "BaseException")) true := hty.andThen (looks_subIn X (by kernel_rfl))
  have hmeta : Looks (model prog w) s₁.heap (typeOf (.ref 52)) (.type "type") := looks_typeIn X (by kernel_rfl)
  have hnt : ∀ {Q' : Bool → Shared → Prop}, Q' false s₁ → wpAny (model prog w) A (isType (.ref a)) Q' E s₁ := by
    intro Q' hq
    simp only [isType, loadHead]
    refine wpAny_bind (wpAny_loadPart ha ?_)
    exact wpAny_pure hq
  refine wpAny_bind (wpAny_pure ?_)
  dsimp only
  refine wpAny_bind (wpAny_holding ?_)
  unfold excFromValue isExcClass
  refine wpAny_bind (wpAny_bind (hnt ?_))
  simp only [Bool.false_eq_true, if_false]
  refine wpAny_pure ?_
  simp only [Bool.false_eq_true, if_false]
  refine wpAny_bind (hsub.here ?_)
  simp only [if_true]
  refine wpAny_pure ?_
  refine wpAny_bind (hnt ?_)
  simp only [Bool.false_eq_true, if_false]
  unfold raisedInstance
  refine wpAny_bind (wpAny_bind (hty.here (wpAny_bind (hmeta.here ?_))))
  rw [if_pos (by decide)]
  refine wpAny_pure ?_
  unfold setFlight raiseNew
  refine wpAny_bind (wpAny_bind (wpAny_field ha rfl h1 ?_))
  rw [if_neg (by decide)]
  refine wpAny_pure (wpAny_bind (wpAny_handled ?_))
  rw [hh]
  first
    | exact wpAny_throw hE
    | exact wpAny_bind (wpAny_pure (wpAny_throw hE))
end


def CallRaise (w : World) (f : Addr) (d u : Nat) (vs : List Value) (news : Led) (kind : Str) : Prop :=
  ∀ (prog : Program) (p : Program) (loose : List Str) (mean : ExcName → Option Value) (mg mb : Str → Option Value)
    (dp un : Nat) (gd : Option (List Code)) (cn : Str) (cs : PySem.Scope) (a : Addr) (ccd : Value) (cl : List (Str × Addr)) (outer : List Env) (A₀ : Around) (base h₀ : Heap) (L : Addr) (m : Str → Option Value) (s : Shared)
    (Q E : Value → Shared → Prop),
    Below A₀ base outer h₀ → Fr h₀ L s.heap m → (K w.params).In h₀ → News h₀ L s.heap news → Top p loose mean mg mb h₀ → cs.kind = .function → dp + d < recursionLimit → un + u < cLine →
    (∀ g e dx od mK k1 h' tk', Fr h₀ L g m → RaisedD base g (envX cn cs L a ccd cl :: outer) e dx od news h' → DNs od mK → mK (Str.ofString "kind") = some (.str kind k1) → g.UpToSlots h' → E (.ref e) { s with heap := h', toks := tk' }) →
    wpAny (model prog w) (ktrTop dp un gd cn cs L a ccd cl outer) (call (.ref f) vs) Q E s
theorem rg_p27_1 : True := by
  k_with "exec Raise some none" => (k_here; (with_reducible show wpAny _ _ (exec (Stmt.Raise (some (PySem.Expr.Call (PySem.Expr.Name (Str.ofString "DesignError") _) _ _ _)) none _) _) _ _ _); k_dflt (refine' Raise_D rfl ?_))
  exact trivial
theorem rg_p27_2 : True := by
  k_with "call ref" => (k_here; (with_reducible show wpAny _ _ (call (Value.ref 52) _) _ _ _); k_dflt (refine design_use (by k_asm) (by k_asm) (by k_asm) (by k_asm) (by k_asm) (by first | exact rfl | assumption) (by walk_at "my room") (by walk_at "my units") ?_); intro h'w tk'w e'w t0'w dx'w od'w oe'w mK'w F'w N'w c'w d'w n'w D'w q'w e1'w e2'w e3'w)
  exact trivial
theorem RaisedD.sub {base G : Heap} {l : List Env} {e dx : Addr} {od : Obj} {news news' : Led} {h : Heap} (R : RaisedD base G l e dx od news h) (hs : ∀ p ∈ news', p ∈ news) : RaisedD base G l e dx od news' h := by
  obtain ⟨B, a1, a2, a3, a4⟩ := R
  exact ⟨B, a1, a2, fun q hq => a3 q (by
    rcases List.mem_cons.mp hq with rfl | hq
    · exact .head _
    · exact .tail _ (hs q hq)), a4⟩
theorem raised_by {w : World} {Ek : Value → Shared → Prop} {s₁ : Shared} {g₀ : Heap} {L e dx : Addr} {m : Str → Option Value} {oe od : Obj} {R : Led} {t0 : Addr} (F : Fr g₀ L s₁.heap m) (X : (K w.params).In g₀) (N : News g₀ L s₁.heap ((e, oe) :: (dx, od) :: R)) (hc : oe.cls = .ref 52) (hd : oe.data = excO t0) (h : Ek (.ref e) s₁) : RaisedBy w Ek (.ref e) s₁ :=
  ⟨e, oe, _, rfl, (N _ (.head _)).1, hc, hd, rfl, X.keeps F.keep, h⟩
theorem rg_p27_3 : True := by
  k_with "my raised" => ((with_reducible rename News _ _ _ ((_, _) :: (_, _) :: _) => N9w); (with_reducible rename DNs _ _ => D9w); refine raised_by (by k_asm) (by k_asm) N9w (by with_reducible assumption) (by with_reducible assumption) ?_; (show wpAny _ _ (leaving _ _) _ _ _); refine leave_raiseD (by k_asm) (by k_asm) N9w (by with_reducible assumption) (by with_reducible assumption) (by with_reducible assumption) (by with_reducible assumption) (by with_reducible assumption) fun h9 R9 U9 => ?_)
  exact trivial
theorem opl_all {im : Led} {ds : List Dat} {P : List Value → Prop} (h : OpL im ds P) : ∀ vs, DatAll im vs ds → P vs := fun _ hv => opl_in hv h
theorem rows_raise (w : World) (sc : Value) (l r k : Int) (h1 : -1000 ≤ l) (h2 : l ≤ 1000) (h3 : -1000 ≤ r) (h4 : r ≤ 1000) (h5 : 256 ≤ (l - r).natAbs) (mt im : Led) (vs : List Value) (hS : Sep mt im) (hD : DatAll im vs [.str (Str.ofString "u"), .tuple [smallD l, smallD r], .int k]) :
    CallRaise w 1166 44 900 ([sc] ++ vs) (mt ++ im) (Str.ofString "generate_limit") := by
  revert vs hD
  refine opl_all ?_
  walk_at "my opn"
  unfold CallRaise; intro prog p loose mean mg mb dp un gd cn cs ca ccd cl outer A₀ base h₀ L m s Q E B F X N T hk hd hu hret
  walk_at "my enter"
  k_steps
  walk_at "my raised"
  (with_reducible rename RaisedD _ _ _ _ _ _ _ _ => R9)
  (with_reducible rename DNs _ _ => D9)
  (with_reducible rename Heap.UpToSlots _ _ => U9)
  refine hret _ _ _ _ _ _ _ _ (by k_asm) (R9.sub fun p hp => ?_) D9 (by with_reducible assumption) U9
  exact (List.mem_append.mp hp).elim (fun h => List.mem_append.mpr (.inl h)) fun h => List.mem_append.mpr (.inr (up (by walk_at "my sub") h))


section
variable {prog : Program} {w : World} {A₀ A : Around} {s : Shared} {base h₀ g₀ : Heap} {L a : Addr} {m : Str → Option Value} {env : Env} {news : List (Addr × Obj)} {K : Frag} {p : Program} {loose : List Str} {mean : ExcName → Option Value} {mg mb : Str → Option Value}
    {R : Result → Shared → Prop} {name qual : Str} {params : Arguments} {body : List Stmt} {scope : PySem.Scope} {dV kV doc pm cdv ct oc : Value} {an od : Option Addr} {osl : Array (Option Value)} {f : Addr} {args : Args} {binds : List (Str × Value)}
/-- a def called from the first frame, whatever that frame's cells: behind it that frame's own object may have got slots -/
theorem enterS (B : Below A₀ base [] h₀) (F : Fr h₀ L s.heap m) (X₀ : K.In h₀) (N : News h₀ L s.heap news) (T : Top p loose mean mg mb h₀) (hA : A.frames = some [env]) (hf : env.frame = some L) (hke : env.scope.kind = .function)
    (ho : K.lookup f = some ⟨oc, od, .func (fnOf name qual params body scope dV kV doc pm an cdv ct), osl⟩) (hcd : codeIn K cdv qual = true) (hroom : A.depth < recursionLimit)
    (hbind : BindsTo s (fnOf name qual params body scope dV kV doc pm an cdv ct) args binds) (hloc : ∀ y ∈ binds, scope.names.lookup y.1 = some .local)
    (h : ∀ g L' h₁, Fr h₀ L g m → Fr g L' h₁ (fun y => binds.reverse.lookup y) → News g L' h₁ news → Below A base [env] g → K.In g → Top p loose mean mg mb g → KtsDicts ([env].filterMap (·.frame)) g →
      wpAny (model prog w) (A.deeper (envOf qual scope L' f cdv)) (execs body (envOf qual scope L' f cdv))
        (fun fl s' => LeaveS0 ([env].filterMap (·.frame)) h₀ L m g R (match fl with | .ret v => v | _ => .none) s')
        (fun e s' => wpAny (model prog w) (A.deeper (envOf qual scope L' f cdv)) (leaving (envOf qual scope L' f cdv) e) (fun _ s'' => R (.error e) s'') (fun e' s'' => R (.error e') s'') s')
        { s with heap := h₁, toks := s.toks + binds.length })
    (hco : scope.isCoroutine = false) (hgen : scope.isGenerator = false) (hk : scope.kind = .function)
    (hcell : ∀ x ∈ scope.names, x.2 ≠ .cell) : codeAny (model prog w) A (.call (.ref f) args) R s := by
  have X := X₀.keeps F.keep
  refine codeAny_call_def (fd := fnOf name qual params body scope dV kV doc pm an cdv ct) (body := body) (binds := binds) hroom (X _ _ ho) rfl (T.nolimit.keeps F.keep) (codeRec_of X hcd) rfl hbind hcell hloc (fun h₁ hns hk₁ => ?_) hco hgen hk
  have hfm : [env].filterMap (·.frame) = [L] := by simp [hf]
  have nm : ∀ b o, h₀.get? b = some o → b ∉ news.map (·.1) := fun b o e q => by
    obtain ⟨p, hp, rfl⟩ := List.mem_map.mp q
    rw [(N p hp).2.2] at e; cases e
  have st : h₀.StaysIn (hideAll s.heap (news.map (·.1))) := fun b o e => hideAll_get _ (F.keep b o e) (nm b o e)
  obtain ⟨oL, es, ep, hL, hLd, hLk, hLf⟩ := id F.ns
  have nL : L ∉ news.map (·.1) := fun q => by
    obtain ⟨p, hp, e⟩ := List.mem_map.mp q
    exact (N p hp).2.1 e
  have hLg := hideAll_get (news.map (·.1)) hL nL
  obtain ⟨FG, BG, _, _⟩ := groundX (R := R) B F N hA hf hke
  refine wpAny_mono (h _ s.heap.objs.size h₁ FG ⟨hns, fun b o e => hk₁ b o (of_hideAll _ e), Nat.le_of_eq (hideAll_size _ _)⟩
    (fun p hp => ⟨hk₁ _ _ (N p hp).1, Nat.ne_of_lt (Heap.lt_size (N p hp).1), hideAll_none _ (List.mem_map_of_mem hp)⟩) BG (X₀.keeps st) (T.keeps st) (fun b hb => by
      rw [hfm, List.mem_singleton] at hb
      subst hb
      exact ⟨oL, es, ep, hLg, hLd⟩)) (fun fl s' hl => ?_) fun _ _ y => y
  obtain ⟨g', L', m', news', T', F', N', k⟩ := hl
  have nL₀ : h₀.get? L = none := kts_self F
  obtain ⟨sl, hs⟩ := T'.up hLg
  refine k ⟨⟨_, es, ep, F'.keep _ _ hs, hLd, hLk, hLf⟩, fun b o e => F'.keep b o (T'.other b o (st b o e) (fun q => by
    rw [hfm, List.mem_singleton] at q
    rw [q, nL₀] at e
    cases e)), F.above⟩ fun p hp => ⟨(N' p hp).1, fun q => ?_, ?_⟩
  · have := (N' p hp).2.2; rw [q, hs] at this; cases this
  · cases q : h₀.get? p.1 with
    | none => rfl
    | some o =>
      obtain ⟨sl', hs'⟩ := T'.up (st _ _ q)
      have := (N' p hp).2.2
      rw [hs'] at this
      cases this
end
section
variable {prog : Program} {w : World} {A₀ : Around} {E : Value → Shared → Prop} {s' : Shared} {base g G : Heap} {outer : List Env} {L a e dx : Addr} {m : Str → Option Value} {name : Str} {scope : PySem.Scope} {cd : Value} {od : Obj}
  {n : Str} {b₀ : Stmt} {suite : List Stmt} {pos np : Pos} {rest : List ExceptHandler} {Q : Flow → Shared → Prop} {news : List (Addr × Obj)}
  {p : Program} {loose : List Str} {mean : ExcName → Option Value} {mg mb : Str → Option Value} {x : Str}
theorem caught_D (R : RaisedD base G (envOf name scope L a cd :: outer) e dx od news s'.heap) (F : Fr g L G m) (Bl : Below A₀ base outer g) (hsm : G.UpToSlots s'.heap) (XB : (K w.params).In base) (TB : Top p loose mean mg mb base)
    (D : KtsDicts (outer.filterMap (·.frame)) g) (ex : nsIn (K w.params) mainGlobals x = some (some (.ref 52)))
    (k : ∀ h' g' oe vs tk, KtsTurn (outer.filterMap (·.frame)) g g' → Fr g' L h' (fun y => if y = n then some (.ref e) else m y) → News g' L h' ((e, oe) :: (dx, od) :: news) → oe.cls = .ref 52 → oe.dict = some dx → oe.data = .fields vs → Below A₀ base outer g' → (K w.params).In g' → Top p loose mean mg mb g' → KtsDicts (outer.filterMap (·.frame)) g' →
      wpAny (model prog w) ((A₀.deeper (envOf name scope L a cd)).mark (some (.ref e))) (execs (b₀ :: suite) (envOf name scope L a cd))
        (fun f s₄ => wpAny (model prog w) (A₀.deeper (envOf name scope L a cd)) (do bindName (envOf name scope L a cd) n .none; unbindBehindTheSuite (envOf name scope L a cd) n pos) (fun _ s₅ => Q f s₅) E s₄)
        (AsSuiteRaised (model prog w) ((A₀.deeper (envOf name scope L a cd)).mark (some (.ref e))) (envOf name scope L a cd) n pos (notedBy (model prog w) ((A₀.deeper (envOf name scope L a cd)).mark (some (.ref e))) (envOf name scope L a cd) (cameBackBy (model prog w) (A₀.deeper (envOf name scope L a cd)) (envOf name scope L a cd) E)))
        { s' with heap := h', toks := tk })
    (hk : scope.kind = .function := by rfl) (hlo : (envOf name scope L a cd).kindOf n = some .local := by rfl) (hx : (envOf name scope L a cd).kindOf x = some .globalImplicit := by rfl) (hd : (x == ("__debug__" : Str)) = false := by decide) :
    wpAny (model prog w) (A₀.deeper (envOf name scope L a cd)) (noteFrame (.ref e) (envOf name scope L a cd))
      (fun _ s₂ => wpAny (model prog w) (A₀.deeper (envOf name scope L a cd)) (setFlight (.ref e) none) (fun _ s₃ =>
        wpAny (model prog w) (A₀.deeper (envOf name scope L a cd)) (handleBy (.ref e) (envOf name scope L a cd) (.ExceptHandler (some (.Name x np)) (some n) (b₀ :: suite) pos :: rest)) Q E s₃) E s₂) E s' := by
  obtain ⟨B, hB, hBG, hl, hfl⟩ := R
  have hL : B.get? L = none := by
    obtain ⟨_, ⟨L', _, hf, hn', _⟩, _⟩ := hfl.2.2.1
    obtain rfl : L = L' := Option.some.inj hf
    exact hn'
  refine noteD_next (Around.frames_deeper Bl.stack) rfl hfl map52 fun h₄ hheld₄ hsm₄ => ?_
  refine landD hheld₄ fun h₅ hheld hsm₅' => ?_
  have hsm₅ := hsm₄.trans hsm₅'
  obtain ⟨g₅, T₅, F₅, K₅⟩ := kts_ground Bl F hBG hheld.1 (hsm.trans hsm₅)
  have X₅ : (K w.params).In g₅ := XB.keeps K₅.stays
  have P₅ : TopRead p loose mg mb g₅ := topRead_of (TB.keeps K₅.stays)
  obtain ⟨ob, hob, hobc, _⟩ := hheld.there
  obtain ⟨nm, q, bs, sn, sub, col, dd, k0, k1, k2, k3, k5, hC⟩ := d52 X₅
  have hC₅ := F₅.keep _ _ hC
  refine wpAny_handleBy_cons (codeAny_handlers_test (name_K F₅ X₅ P₅ ex ?_ hk hx hd)) (by intro q; cases q)
  refine wpAny_excMatches_sub_self hC₅ hob hobc (by decide +kernel) (codeAny_handlers_suite_as ?_)
  refine landD hheld fun h₆ hfl₆ hsm₆ => ?_
  obtain ⟨g₆, T₆, F₆, K₆⟩ := kts_ground Bl F hBG hfl₆.1 ((hsm.trans hsm₅).trans hsm₆)
  obtain ⟨_, _, _, oe, ws, _, _, _, hoe, hP, hoed, _⟩ := id hfl₆
  have ne₆ : g₆.get? e = none := T₆.none_ _ (kts_fresh F hBG hfl₆.2.1 fun o ho m => by
    obtain ⟨_, o', ho', hd⟩ := Bl.frames.mem m
    rw [ho] at ho'
    cases ho'
    obtain ⟨sl, hs⟩ := ((hsm.trans hsm₅).trans hsm₆) _ _ (F.keep _ _ ho) hd
    rw [hoe] at hs
    cases hs
    exact hd _ hoed)
  have N₆ := News.more F₆ News.nil hoe (fun es n q => by rw [hoed] at q; cases q) ne₆
  have Nl : News g₆ L h₆ ((dx, od) :: news) := fun q hq => ⟨hfl₆.1 _ _ (hl q hq).1, (fun z => by have := (hl q hq).1; rw [z, hL] at this; cases this), T₆.none_ _ (kts_none F.keep (hl q hq).2.1)⟩
  have X₆ : (K w.params).In g₆ := XB.keeps K₆.stays
  have P₆ : Top p loose mean mg mb g₆ := TB.keeps K₆.stays
  have D₆ : KtsDicts (outer.filterMap (·.frame)) g₆ := D.turn T₆
  refine stN F₆ (news := (e, oe) :: (dx, od) :: news) (fun q hq => by
    rcases List.mem_cons.mp hq with rfl | hq
    · exact N₆ _ (.head _)
    · exact Nl q hq) (fun h₇ F₇ N₇ => ?_) hk hlo
  exact k h₇ g₆ oe ws _ T₆ F₇ N₇ hP.1 hP.2 hoed K₆ X₆ P₆ D₆
end


theorem news_of {h₀ h : Heap} {L : Addr} {X Y : Led} (N : News h₀ L h X) (hs : ∀ p ∈ Y, p ∈ X) : News h₀ L h Y := fun p hp => N p (hs p hp)
theorem get52_led {w : World} {prog : Program} {A : Around} {E : Value → Shared → Prop} {s : Shared} {g₀ : Heap} {L e dx : Addr} {m mK : Str → Option Value} {oe od : Obj} {R : Led} {vs : Array Value} {expr : Bool} {kind : Str} {k1 : Tok} {Q : Value → Shared → Prop} (F : Fr g₀ L s.heap m) (X : (K w.params).In g₀) (N : News g₀ L s.heap ((e, oe) :: (dx, od) :: R))
    (hc : oe.cls = .ref 52) (hdx : oe.dict = some dx) (hd : oe.data = .fields vs) (D : DNs od mK) (hv : mK (Str.ofString "kind") = some (.str kind k1)) (hq : Q (.str kind k1) { s with toks := s.toks + 1 }) :
    wpAny (model prog w) A (getAttr (.ref e) (Str.ofString "kind") expr) Q E s := by
  obtain ⟨h, g, d, t, os⟩ := s
  have n1 := D _ _ (N _ (.tail _ (.head _))).1
  exact get52 (X.keeps F.keep) (N _ (.head _)).1 hc (fun c q => by rw [hd] at q; cases q) hdx (let ⟨o, es, ep, e1, e2, e3, _, e4⟩ := n1; ⟨o, es, ep, e1, e2, e3, e4⟩) hv rfl hq
theorem rg_p29_1 : True := by
  k_with "getAttr ref" => (k_here; (with_reducible rename DNs _ _ => D9w); k_dflt (refine get52_led (by k_asm) (by k_asm) (by k_asm) (by with_reducible assumption) (by with_reducible assumption) (by with_reducible assumption) D9w (by with_reducible assumption) ?_))
  exact trivial
theorem kept_raise (w : World) {prog : Program} {p : Program} {loose : List Str} {mean : ExcName → Option Value} {mg mb : Str → Option Value} {dp un : Nat} {gd : Option (List Code)} {cn : Str} {cs : PySem.Scope} {ca : Addr} {ccd : Value} {cl : List (Str × Addr)} {A₀ : Around} {base h₀ : Heap} {L : Addr} {m : Str → Option Value} {s : Shared} {Q E : Value → Shared → Prop}
    {q : Addr} {d u : Nat} {news : Led} {kind : Str} (C : CallRaise w q d u [] news kind) {oq : Value} {odq : Option Addr} {fdq : FuncData} {slq : Array (Option Value)} (hqm : (q, (⟨oq, odq, .func fdq, slq⟩ : Obj)) ∈ news) (B : Below A₀ base [] h₀) (F : Fr h₀ L s.heap m) (X : (K w.params).In h₀) (XB : (K w.params).In base) (TB : Top p loose mean mg mb base) (N : News h₀ L s.heap news)
    (T : Top p loose mean mg mb h₀) (hk : cs.kind = .function) (hd : dp + d + 4 < recursionLimit) (hu : un + u + 100 < cLine)
    (ret : ∀ h' tk' k1, Fr h₀ L h' m → News h₀ L h' news → Q (.str kind k1) { s with heap := h', toks := tk' }) :
    wpAny (model prog w) (ktrTop dp un gd cn cs L ca ccd cl []) (call (.ref 1367) [.ref q]) Q E s := by
  refine wpAny_call ?_
  k_dflt (refine' enterS ?k1 ?k2 ?k3 ?k4 ?k5 ?kA ?kF ?kK ?k6 ?k7 ?k8 ?k9 ?kB ?_ ?c2 ?c3 ?c4 ?c5)
  case kA => exact rfl
  case kF => exact rfl
  case kK => assumption
  case k1 => k_asm
  case k2 => k_asm
  case k3 => k_asm
  case k4 => k_asm
  case k5 => k_asm
  case k6 => k_is
  case k7 => k_is
  case k8 => ktr_room
  case k9 => first | exact BindsTo.of_eq rfl | exact binds_K (by k_in) rfl (by k_is) rfl rfl rfl
  case c5 => decide
  case kB => exact locs rfl
  case c2 => exact rfl
  case c3 => exact rfl
  case c4 => exact rfl
  intro g' L' h' FG' F' N' B' X' T' D'
  try dsimp only
  try k_fold
  k_steps
  refine callWith_F0 (FnAt.of (by k_asm) hqm) ?_
  dsimp only [List.nil_append]
  k_dflt (refine' C _ _ _ _ _ _ _ _ _ _ _ _ _ _ _ _ _ _ _ _ _ _ _ ?B ?F ?K ?N ?T ?hk ?hd ?hu ?_)
  case B => k_asm
  case F => k_asm
  case K => k_asm
  case N => k_asm
  case T => k_asm
  case hk => rfl
  case hd => walk_at "my room"
  case hu => walk_at "my units"
  intro G e dx od mK k1 h9 tk9 FG9 R9 D9 q9 U9
  k_dflt (refine' caught_D R9 FG9 B' U9 XB TB D' (by kernel_rfl) ?_)
  intro h8 g8 oe vs tk8 T8 F8 N8 c8 d8 n8 B8 X8 P8 D8
  clear R9 U9 FG9
  k_steps
  refine ret _ _ k1 (by k_asm) ?_
  refine news_of (by k_asm) fun p hp => ?_
  exact .tail _ (.tail _ hp)


def RowAt (us : List Value) (N : Nat) : Prop := ∃ ns, IntsAre us ns ∧ (∀ x ∈ ns, 0 ≤ x ∧ x < 1024) ∧ us.length ≤ N
theorem RowAt.nil (N : Nat) : RowAt [] N := ⟨[], .nil, fun _ h => (nomatch h), Nat.zero_le _⟩
theorem fm1024 (x : Int) : 0 ≤ x.fmod 1024 ∧ x.fmod 1024 < 1024 := by
  rw [Int.fmod_eq_emod_of_nonneg _ (by decide)]; omega
theorem RowAt.snoc {us : List Value} {N M : Nat} {x : Int} {t : Tok} (h : RowAt us N) (hx : 0 ≤ x ∧ x < 1024) (hM : N + 1 ≤ M) : RowAt (us ++ [.int x t]) M := by
  obtain ⟨ns, h1, h2, h3⟩ := h
  refine ⟨_, ints_snoc h1 x t, fun y hy => ?_, by simp; omega⟩
  rcases List.mem_append.mp hy with hy | hy
  · exact h2 y hy
  · rw [List.mem_singleton.mp hy]; exact hx
theorem RowAt.mono {us : List Value} {N M : Nat} (h : RowAt us N) (hM : N ≤ M) : RowAt us M := by
  obtain ⟨ns, h1, h2, h3⟩ := h
  exact ⟨ns, h1, h2, by omega⟩
theorem ints_at {us : List Value} {ns : List Int} {i : Nat} {v : Value} (h : IntsAre us ns) (hv : us[i]? = some v) : ∃ n t, v = .int n t := by
  induction h generalizing i with
  | nil => simp at hv
  | cons n t _ ih =>
    cases i with
    | zero => exact ⟨n, t, (Option.some.inj hv).symm⟩
    | succ i => exact ih hv
def RowOk (w : World) : Prop :=
  ∀ (prog : Program) (p : Program) (loose : List Str) (mean : ExcName → Option Value) (mg mb : Str → Option Value)
    (dp un : Nat) (gd : Option (List Code)) (cn : Str) (cs : PySem.Scope) (a : Addr) (ccd : Value) (cl : List (Str × Addr)) (outer : List Env) (A₀ : Around) (base h₀ : Heap) (L : Addr) (m : Str → Option Value) (s : Shared)
    (Q E : Value → Shared → Prop) (q : Addr) (us : List Value) (ns : List Int) (news : Led),
    Below A₀ base outer h₀ → Fr h₀ L s.heap m → (K w.params).In h₀ → News h₀ L s.heap news → Top p loose mean mg mb h₀ → cs.kind = .function → dp + 8 < recursionLimit → un + 400 < cLine →
    base.IsList q us.toArray → IntsAre us ns → ¬ 63 < (ns.length : Int) →
    (∀ h' tk' rw us n, Fr h₀ L h' m → News h₀ L h' ((rw, W.listOf us.toArray n) :: news) → RowIs us → AllLt rw news → Q (.ref rw) { s with heap := h', toks := tk' }) →
    wpAny (model prog w) (ktrTop dp un gd cn cs L a ccd cl outer) (call (.ref 1313) [.ref q]) Q E s
theorem fdiv1024 {x : Int} (h : 0 ≤ x) : 0 ≤ x.fdiv 1024 := by
  rw [Int.fdiv_eq_ediv_of_nonneg _ (by decide)]; omega
theorem grab21 {h₀ h : Heap} {L : Addr} {X : Led} {a b : Addr} {ob : Obj} {ws : List Value} {n : Nat} {P : Prop} (_N : News h₀ L h ((a, W.listOf ws.toArray n) :: (b, ob) :: X)) (k : ∀ cA rA ws5, cA = a → rA = b → ws5 = ws → P) : P := k a b ws rfl rfl rfl
theorem ints_rev {us : List Value} {ns : List Int} (h : IntsAre us ns) : IntsAre us.reverse ns.reverse := by
  induction h with
  | nil => exact .nil
  | cons n t _ ih => rw [List.reverse_cons, List.reverse_cons]; exact ints_snoc ih n t
theorem row_rev {ws : List Value} {rs : List Int} (h : IntsAre ws (List.take 160 rs)) (hb : ∀ x ∈ rs, 0 ≤ x ∧ x < 1024) : RowIs ws.reverse := by
  have hl := h.length
  rw [List.length_take] at hl
  exact ⟨_, ints_rev h, fun x hx => hb x (List.mem_of_mem_take (List.mem_reverse.mp hx)), by rw [List.length_reverse]; omega⟩
theorem news_push {h₀ h : Heap} {L : Addr} {a : Addr × Obj} {b : Addr} {us : List Value} {v : Value} {k : Nat} {X : Led} (N : News h₀ L h (a :: (b, W.listOf (us.toArray.push v) k) :: X)) : News h₀ L h (a :: (b, W.listOf (us ++ [v]).toArray k) :: X) := by
  rw [List.push_toArray] at N; exact N
theorem allLt_mem {d : Addr} {l : Led} (h : AllLt d l) : ∀ p ∈ l, p.1 < d := by
  induction l with
  | nil => intro p hp; exact nomatch hp
  | cons a l ih =>
    intro p hp
    rcases List.mem_cons.mp hp with e | hp
    · rw [e]; exact h.1
    · exact ih h.2 p hp
theorem allLt_of {d : Addr} {l : Led} (h : ∀ p ∈ l, p.1 < d) : AllLt d l := by
  induction l with
  | nil => trivial
  | cons a l ih => exact ⟨h a (.head _), ih fun p hp => h p (.tail _ hp)⟩
theorem allLt_sub {d : Addr} {l l' : Led} (h : AllLt d l) (hs : ∀ p ∈ l', p ∈ l) : AllLt d l' := allLt_of fun p hp => allLt_mem h p (hs p hp)
theorem Spl.nil {im : Led} : Spl im [] im := Spl.base [] im
theorem push_eq {I rA : Addr} {oI : Obj} {us : List Value} {v : Value} {k : Nat} : (I, oI) :: [(rA, W.listOf (us.toArray.push v) k)] = (I, oI) :: [(rA, W.listOf (us ++ [v]).toArray k)] := by rw [List.push_toArray]
def IfP (s : Shared) (P : Value → Prop) (v : Value) (s' : Shared) : Prop := P v ∧ ∃ tk, s' = { s with toks := tk }
/-- two ways of a conditional brought together -/
theorem if_join {M : Model} {A : Around} {E : Value → Shared → Prop} {s : Shared} {e : PySem.Expr} {env : Env} {Q : Value → Shared → Prop} (P : Value → Prop) (h1 : wpAny M A (eval e env) (IfP s P) E s) (h2 : ∀ G : Value → Nat → Prop, (∀ {v tk}, Q v { s with toks := tk } → G v tk) → ∀ v tk, P v → G v tk) : wpAny M A (eval e env) Q E s :=
  wpAny_mono h1 (fun v _ ⟨p, tk, e⟩ => e ▸ h2 (fun v tk => Q v { s with toks := tk }) (fun h => h) v tk p) fun _ _ e => e
/-- a mark: the walk stops at a conditional expression -/
structure MkIf : Prop where
/-- a mark: the ledger's tail stands bare -/
structure MkSp : Prop where
theorem rg_p30m_1 : True := by
  k_with "eval IfExp" => ((with_reducible rename MkIf => mkw); k_here; (fail_if_success (with_reducible show wpAny _ _ _ (IfP _ _) _ _)); refine stop_here ?_)
  exact trivial
theorem rg_p30m_2 : True := by
  k_with "my spl" => ((with_reducible rename MkSp => mkw); first | with_reducible exact Spl.cons (Spl.cons (Spl.cons Spl.nil)) | with_reducible exact Spl.cons (Spl.cons Spl.nil))
  exact trivial
inductive RowJ (rA : Addr) (im0 : Led) (m0 : Str → Option Value) (i : Nat) (m1 : Str → Option Value) : Led → Led → Prop
  | mk (us : List Value) (k : Nat) (im1 : Led) (hR : RowAt us (31 * i)) (hs : ∀ p ∈ im0, p ∈ im1) (kp : Kept m1 m0 [] [Str.ofString "cell", Str.ofString "number", Str.ofString "turn"]) :
    RowJ rA im0 m0 i m1 [(rA, W.listOf us.toArray k)] im1
theorem RowJ.all {rA : Addr}{im0 : Led}{m0 : Str → Option Value}{i : Nat}{m1 : Str → Option Value} {P : Led → Led → Prop} (k : ∀ (us : List Value) (k : Nat) (im1 : Led), (RowAt us (31 * i)) → (∀ p ∈ im0, p ∈ im1) → (Kept m1 m0 [] [Str.ofString "cell", Str.ofString "number", Str.ofString "turn"]) → P [(rA, W.listOf us.toArray k)] im1) : ∀ mt1 im1, RowJ rA im0 m0 i m1 mt1 im1 → P mt1 im1 :=
  fun _ _ h => h.casesOn k
inductive RowK (e : Addr × Obj) (rA : Addr) (im0 : Led) (i : Nat) (m0 : Str → Option Value) (j : Nat) (m1 : Str → Option Value) : Led → Led → Prop
  | mk (us : List Value) (k : Nat) (x : Int) (t : Tok) (im1 : Led) (hR : RowAt us (31 * i + 1 + j)) (hs : ∀ p ∈ im0, p ∈ im1) (kp : Kept m1 m0 [(Str.ofString "number", .int x t)] [Str.ofString "number", Str.ofString "turn"]) (hx : 0 ≤ x) :
    RowK e rA im0 i m0 j m1 (e :: [(rA, W.listOf us.toArray k)]) im1
theorem RowK.all {e : Addr × Obj}{rA : Addr}{im0 : Led}{i : Nat}{m0 : Str → Option Value}{j : Nat}{m1 : Str → Option Value} {P : Led → Led → Prop} (k : ∀ (us : List Value) (k : Nat) (x : Int) (t : Tok) (im1 : Led), (RowAt us (31 * i + 1 + j)) → (∀ p ∈ im0, p ∈ im1) → (Kept m1 m0 [(Str.ofString "number", .int x t)] [Str.ofString "number", Str.ofString "turn"]) → (0 ≤ x) → P (e :: [(rA, W.listOf us.toArray k)]) im1) : ∀ mt1 im1, RowK e rA im0 i m0 j m1 mt1 im1 → P mt1 im1 :=
  fun _ _ h => h.casesOn k
theorem ints_lt {vs : List Value} {ns : List Int} {i : Nat} {v : Value} (h : IntsAre vs ns) (hv : vs[i]? = some v) : i < ns.length := by
  rw [← h.length]
  exact (List.getElem?_eq_some_iff.mp hv).1
theorem RowAt.len {us : List Value} {N : Nat} (h : RowAt us N) : us.length ≤ N := by
  obtain ⟨_, _, _, q⟩ := h
  exact q
theorem row_len {n i : Nat} (h : n ≤ 31 * i) (hi : i ≤ 40) : n ≤ 2000 := by omega
theorem row_len2 {n i j : Nat} (h : n ≤ 31 * i + 1 + j) (hi : i < 40) (hj : j < 30) : n ≤ 2000 := by omega
theorem RowK.push {e : Addr × Obj} {rA : Addr} {im0 im1 : Led} {i j k : Nat} {m0 m1 : Str → Option Value} {us : List Value} {x y : Int} {t u : Tok} (hR : RowAt us (31 * i + 1 + j)) (hs : ∀ p ∈ im0, p ∈ im1) (kp : Kept m1 m0 [(Str.ofString "number", .int x t)] [Str.ofString "number", Str.ofString "turn"]) (hx : 0 ≤ x) :
    RowK e rA im0 i m0 (j + 1) m1 (e :: [(rA, W.listOf (us.toArray.push (.int (y.fmod 1024) u)) k)]) im1 := by
  rw [List.push_toArray]
  exact .mk _ _ _ _ _ (hR.snoc (fm1024 _) (Nat.le_refl _)) hs kp hx
theorem take40 {n m : Nat} (h : n = min 40 m) : n ≤ 40 := by omega
section
theorem row_ok (w : World) : RowOk w := by
  unfold RowOk; intro prog p loose mean mg mb dp un gd cn cs ca ccd cl outer A₀ base h₀ L m s Q E q us ns news B F X N T hk hd hu hq hI hn hret
  walk_at "my enter"
  have mk1 : MkIf := ⟨⟩
  have mk2 : MkSp := ⟨⟩
  (with_reducible rename Below _ _ (_ :: _) _ => B9)
  k_lift B9
  k_with "exec For Name Subscript cons nil" => walk_at "my for"
  k_with "exec For Name Call cons nil" => walk_at "my for"
  k_steps
  unfold StopHere
  (with_reducible rename News _ _ _ (_ :: _ :: _) => N4)
  (with_reducible rename _ ∧ AllLt _ _ => lc4)
  (with_reducible rename ∀ p ∈ _, _ < _ => lr4)
  (with_reducible rename IntsAre _ (List.take _ _) => hI4)
  refine grab21 N4 fun cA rA ws5 hca hra hws => ?_
  subst hca hra hws
  have N5 : News _ _ _ ([(rA, W.listOf #[] 0)] ++ ((cA, W.listOf ws5.toArray 0) :: news)) := (fun p hp => N4 p (by
    rcases List.mem_cons.mp hp with rfl | hp
    · exact .tail _ (.head _)
    · rcases List.mem_cons.mp hp with rfl | hp
      · exact .head _
      · exact .tail _ (.tail _ hp)))
  have S5 : Sep [(rA, W.listOf #[] 0)] ((cA, W.listOf ws5.toArray 0) :: news) := Sep.cons (by
    intro p hp
    rcases List.mem_cons.mp hp with rfl | hp
    · exact Nat.ne_of_gt lc4.1
    · exact Nat.ne_of_lt (lr4 p hp)) Sep.nil
  clear N4
  refine list_turns (mt := [(rA, W.listOf #[] 0)]) (im := (cA, W.listOf ws5.toArray 0) :: news) (RowJ rA ((cA, W.listOf ws5.toArray 0) :: news)) rfl (List.Mem.head _) (by k_asm) N5 S5 (.mk [] _ _ (RowAt.nil _) id_sub (by walk_at "my kept")) ?bT ?bD
  case bT =>
    intro G9 hG9 i9 v9 m9 mt9 im9 h9 tk9 I9 oI9 hi9 hv9 hq1_11
    revert mt9 im9
    refine RowJ.all fun us9 k9 im9 hR9 hs9 k9' => ?_
    have hi7 := ints_lt hI4 hv9
    obtain ⟨c9, t9, rfl⟩ := ints_at hI4 hv9
    clear hv9
    have hi8 : i9 < 40 := Nat.lt_of_lt_of_le hi7 (by rw [List.length_take]; exact Nat.min_le_left _ _)
    clear hi7
    have hz7 : us9.length ≤ 2000 := row_len hR9.len (Nat.le_of_lt hi8)
    refine hG9 ?_
    clear hG9
    intro F9 N9 S9 hI9 hr9
    have F8 := k9'.fr F9
    clear F9
    have hI1 : @Ne Nat rA I9 := hI9 _ (.head _)
    have hr7 : ∀ p ∈ im9, p.1 ≠ rA := S9.tail.head
    have N7 : News _ _ h9 ((I9, oI9) :: (rA, W.listOf us9.toArray k9) :: im9) := N9
    have S7 : Sep ((I9, oI9) :: [(rA, W.listOf us9.toArray k9)]) im9 := S9
    have hI6 : ∀ p ∈ [(rA, W.listOf us9.toArray k9)], p.1 ≠ I9 := hI9
    clear N9 S9 hI9
    k_steps
    unfold StopHere
    refine if_join (fun v => ∃ x t, v = Value.int x t ∧ 0 ≤ x) ?ja ?jb
    case ja =>
      k_steps
      all_goals exact ⟨⟨_, _, rfl, by omega⟩, _, rfl⟩
    case jb =>
      intro G9 hG9 v8 tk8 hv8
      obtain ⟨x9, t9, rfl, hx9⟩ := hv8
      refine hG9 ?_
      clear hG9
      k_steps
      all_goals unfold StopHere
      all_goals (with_reducible rename IsRange _ _ _ _ _ _ _ _ => rg9)
      all_goals (with_reducible rename News _ _ _ ((_, _) :: (_, W.listOf (Array.push _ _) _) :: _) => N3)
      all_goals (have N7 := news_push N3; clear N3)
      all_goals (
        refine range_turns (mt := (I9, oI9) :: [(rA, _)]) (im := im9) (RowK (I9, oI9) rA im9 i9) rfl rg9 (turns_small (by decide) (by decide)) (turns_size (by decide)) (by k_asm) N7 (sep_addr S7 rfl) (.mk _ _ _ _ _ (hR9.snoc (fm1024 _) (Nat.le_refl _)) id_sub (by walk_at "my kept") (fdiv1024 (by omega))) ?_ ?_
        · intro G9 hG9 j8 v8 m8 mt8 im8 h8 tk8 I8 oI8 hj8 hq2_10 hq2_11
          revert v8 hq2_10
          refine int_all fun tv8 => ?_
          revert mt8 im8
          refine RowK.all fun us8 k8 x8 t8 im8 hR8 hs8 k8' hx8 => ?_
          have hz8 : us8.length ≤ 2000 := row_len2 hR8.len hi8 hj8
          refine hG9 ?_
          clear hG9
          intro F7 N8 S8 hI8 hq8
          have F8 := k8'.fr F7
          clear F7
          have hI5 : @Ne Nat I9 I8 := hI8 _ (.head _)
          have hI3 : @Ne Nat rA I8 := hI8 _ (.tail _ (.head _))
          have hr6 : ∀ p ∈ im8, p.1 ≠ rA := S8.tail.tail.head
          have hi6 : ∀ p ∈ im8, p.1 ≠ I9 := S8.tail.head
          have hi5 : ∀ p ∈ im8, p.1 ≠ I8 := S8.head
          have N5 : News _ _ h8 ((I8, oI8) :: (I9, oI9) :: (rA, W.listOf us8.toArray k8) :: im8) := N8
          have S5 : Sep ((I8, oI8) :: (I9, oI9) :: [(rA, W.listOf us8.toArray k8)]) im8 := S8
          have hI4 : ∀ p ∈ (I9, oI9) :: [(rA, W.listOf us8.toArray k8)], p.1 ≠ I8 := hI8
          clear N8 S8 hI8
          k_steps
          all_goals (show TEnd _ _ _ _ _ _ _ _; walk_at "my tend")
          all_goals first
            | exact RowK.push hR8 (by walk_at "my sub") (by walk_at "my kept") (fdiv1024 (by omega))
            | exact .mk _ _ _ _ _ (hR8.mono (Nat.le_succ _)) (by walk_at "my sub") (by walk_at "my kept") hx8
        · intro G9 hG9 m8 mt8 im8 h8 tk8 hq3_5
          revert mt8 im8
          refine RowK.all fun us8 k8 x8 t8 im8 hR8 hs8 k8' hx8 => ?_
          have hI7 : ∀ p ∈ [(rA, W.listOf us8.toArray k8)], p.1 ≠ I9 := off_addr hI6 rfl
          refine hG9 ?_
          clear hG9
          intro F7 N8 S8
          have F8 := k8'.fr F7
          clear F7
          have N5 : News _ _ h8 ((I9, oI9) :: (rA, W.listOf us8.toArray k8) :: im8) := N8
          have S5 : Sep ((I9, oI9) :: [(rA, W.listOf us8.toArray k8)]) im8 := S8
          clear N8 S8 hI6
          k_steps
          show TEnd _ _ _ _ _ _ _ _
          walk_at "my tend"
          exact .mk us8 k8 _ (hR8.mono (Nat.le_refl (31 * i9 + 31))) (by walk_at "my sub") (by walk_at "my kept"))
  case bD =>
    intro G9 hG9 m9 mt9 im9 h9 tk9 hq4_5
    revert mt9 im9
    refine RowJ.all fun us9 k9 im9 hR9 hs9 k9' => ?_
    have hi8 : ws5.length ≤ 40 := by rw [hI4.length, List.length_take]; exact Nat.min_le_left _ _
    obtain ⟨rs9, hJ9, hb9, hl9⟩ := hR9
    have hz7 : us9.length ≤ 2000 := row_len hl9 hi8
    refine hG9 ?_
    clear hG9
    intro F9 N9 S9
    have F8 := k9'.fr F9
    clear F9
    have hr7 : ∀ p ∈ im9, p.1 ≠ rA := S9.head
    have N7 : News _ _ h9 ((rA, W.listOf us9.toArray k9) :: im9) := N9
    clear N9
    k_with "call builtin:list.reverse" => (refine stop_here ?_)
    k_steps
    unfold StopHere
    (with_reducible rename IntsAre _ (List.take 160 _) => hI8)
    (with_reducible rename _ ∧ AllLt _ im9 => l8)
    k_dflt (refine' kl_reverse ?rF ?rN ?re (Upd.head ?ru) ?rz ?_)
    case re => exact rfl
    case rF => k_asm
    case rN => k_asm
    case ru => exact List.forall_mem_cons.mpr ⟨Nat.ne_of_lt l8.1, allLt_ne l8.2⟩
    case rz =>
      have q := hI8.length
      rw [List.length_take] at q
      rw [sizeLine_eq]
      simp only []
      omega
    intro h7 F7 N6
    k_steps
    refine hret _ _ _ _ 0 (by k_asm) (news_of (X := (_, W.listOf _ _) :: (rA, W.listOf us9.toArray k9) :: im9) (by k_asm) fun p hp => ?_) (row_rev hI8 hb9) (allLt_sub l8.2 fun p hp => hs9 p (.tail _ hp))
    rcases List.mem_cons.mp hp with rfl | hp
    · exact .head _
    · exact .tail _ (.tail _ (hs9 p (.tail _ hp)))
end
theorem row_use {w : World} {prog : Program} {p : Program} {loose : List Str} {mean : ExcName → Option Value} {mg mb : Str → Option Value}
    {dp un : Nat} {gd : Option (List Code)} {cn : Str} {cs : PySem.Scope} {a : Addr} {ccd : Value} {cl : List (Str × Addr)} {outer : List Env} {A₀ : Around} {base h₀ : Heap} {L : Addr} {m : Str → Option Value} {s : Shared}
    {Q E : Value → Shared → Prop} {q : Addr} {us : List Value} {ns : List Int} {news : Led}
    (B : Below A₀ base outer h₀) (F : Fr h₀ L s.heap m) (X : (K w.params).In h₀) (N : News h₀ L s.heap news) (T : Top p loose mean mg mb h₀) (hk : cs.kind = .function) (hd : dp + 8 < recursionLimit) (hu : un + 400 < cLine)
    (hq : base.IsList q us.toArray) (hI : IntsAre us ns) (hn : ¬ 63 < (ns.length : Int))
    (ret : ∀ h' tk' rw us n, Fr h₀ L h' m → News h₀ L h' ((rw, W.listOf us.toArray n) :: news) → RowIs us → AllLt rw news → Q (.ref rw) { s with heap := h', toks := tk' }) :
    wpAny (model prog w) (ktrTop dp un gd cn cs L a ccd cl outer) (call (.ref 1313) [.ref q]) Q E s :=
  row_ok w prog p loose mean mg mb dp un gd cn cs a ccd cl outer A₀ base h₀ L m s Q E q us ns news B F X N T hk hd hu hq hI hn ret
theorem rg_p30_1 : True := by
  k_with "call ref" => (k_here; (with_reducible show wpAny _ _ (call (Value.ref 1313) _) _ _ _); k_dflt (refine row_use (by k_asm) (by k_asm) (by k_asm) (by k_asm) (by k_asm) (by first | exact rfl | assumption) (by walk_at "my room") (by walk_at "my units") (by with_reducible assumption) (by with_reducible assumption) (by omega) ?_); intro h'w tk'w rw'w us'w n'w F'w N'w R'w l1w; (try k_lt l1w); (try dsimp only [AllLt] at l1w); (try k_sweep))
  exact trivial


def gOf (g : Int → Int) : List Int → Int
  | [] => 0
  | b :: bs => g b + 2 * gOf g bs
theorem low_g : ∀ bs, lowOf bs = gOf (fun b => b % 2) bs
  | [] => rfl
  | b :: bs => by show _ = _ + 2 * gOf _ bs; rw [← low_g bs]; rfl
theorem high_g : ∀ bs, highOf bs = gOf (fun b => b / 2) bs
  | [] => rfl
  | b :: bs => by show _ = _ + 2 * gOf _ bs; rw [← high_g bs]; rfl
theorem gOf_app (g : Int → Int) (c : List Int) : ∀ a : List Int, gOf g (a ++ c) = gOf g a + 2 ^ a.length * gOf g c
  | [] => by simp [gOf]
  | b :: a => by
    simp only [List.cons_append, gOf, List.length_cons, Int.pow_succ]
    rw [gOf_app g c a, Int.mul_add, Int.mul_comm (2 ^ a.length) 2, Int.mul_assoc, Int.add_assoc]
theorem gOf_rep (g : Int → Int) (x : Int) : ∀ k : Nat, gOf g (List.replicate k x) = g x * (2 ^ k - 1)
  | 0 => by simp [gOf]
  | k + 1 => by
    rw [List.replicate_succ]
    simp only [gOf]
    rw [gOf_rep g x k, Int.pow_succ, Int.mul_sub (g x) (2 ^ k), Int.mul_sub (g x) (2 ^ k * 2), Int.mul_one, ← Int.mul_assoc (g x)]
    omega
theorem gOf_bnd (g : Int → Int) : ∀ {bs : List Int}, (∀ b ∈ bs, 0 ≤ g b ∧ g b ≤ 1) → 0 ≤ gOf g bs ∧ gOf g bs < 2 ^ bs.length
  | [], _ => by simp [gOf]
  | b :: bs, h => by
    have ih := gOf_bnd g (bs := bs) fun x hx => h x (.tail _ hx)
    have hb := h b (.head _)
    unfold gOf
    rw [List.length_cons, Int.pow_succ]
    omega
theorem wide_eq {bs : List Int} {W : Int} {sg : Bool} (hW : (bs.length : Int) ≤ W) : wideOf bs W sg = bs ++ List.replicate (W.toNat - bs.length) (if sg = true then bs.getLastD 0 else 0) := by
  unfold wideOf
  rw [List.take_append, List.take_of_length_le (by omega), List.take_replicate]
  congr 2
  omega
theorem gOf_top (g : Int → Int) {bs : List Int} (hne : bs ≠ []) (hb : ∀ b ∈ bs, 0 ≤ g b ∧ g b ≤ 1) : gOf g bs / 2 ^ (bs.length - 1) % 2 = g (bs.getLastD 0) := by
  have e2 : bs.getLastD 0 = bs.getLast hne := by rw [List.getLastD_eq_getLast?, List.getLast?_eq_some_getLast hne]; rfl
  have e : bs = bs.dropLast ++ [bs.getLast hne] := (List.dropLast_concat_getLast hne).symm
  have hl := hb _ (List.getLast_mem hne)
  have hd := gOf_bnd g (bs := bs.dropLast) fun b h => hb b (List.dropLast_subset _ h)
  have e3 : gOf g bs = gOf g bs.dropLast + 2 ^ (bs.length - 1) * g (bs.getLast hne) := by
    have : gOf g bs = gOf g (bs.dropLast ++ [bs.getLast hne]) := congrArg _ e
    rw [this, gOf_app, List.length_dropLast]
    simp [gOf]
  rw [List.length_dropLast] at hd
  rw [e2, e3]
  have hp : (0 : Int) < 2 ^ (bs.length - 1) := by omega
  rw [Int.add_mul_ediv_left _ _ (Int.ne_of_gt hp), Int.ediv_eq_zero_of_lt hd.1 hd.2]
  omega
theorem gOf_wide (g : Int → Int) {bs : List Int} {W : Int} {sg : Bool} (hne : bs ≠ []) (hb : ∀ b ∈ bs, 0 ≤ g b ∧ g b ≤ 1) (h0 : g 0 = 0) (hW : (bs.length : Int) ≤ W) : gOf g (wideOf bs W sg) = extI bs.length W (gOf g bs) sg := by
  rw [wide_eq hW, gOf_app, gOf_rep]
  have ht := gOf_top g hne hb
  have hp : 0 < bs.length := List.length_pos_iff.mpr hne
  have e1 : ((bs.length : Int) - 1).toNat = bs.length - 1 := by omega
  have e2 : (2 : Int) ^ bs.length * 2 ^ (W.toNat - bs.length) = 2 ^ W.toNat := by rw [← Int.pow_add]; congr 1; omega
  have hl := hb (bs.getLastD 0) (by
    rw [List.getLastD_eq_getLast?, List.getLast?_eq_some_getLast hne]; exact List.getLast_mem hne)
  unfold extI
  rw [e1, ht, Int.toNat_natCast]
  cases sg with
  | false => simp [h0]
  | true =>
    simp only [if_true, true_and]
    by_cases h1 : g (bs.getLastD 0) = 1
    · rw [if_pos h1, h1, Int.one_mul, Int.mul_sub, e2, Int.mul_one]; omega
    · rw [if_neg h1, show g (bs.getLastD 0) = 0 by omega]; simp
theorem digits_inj : ∀ {a b : List Int}, a.length = b.length → (∀ x ∈ a, 0 ≤ x ∧ x < 4) → (∀ x ∈ b, 0 ≤ x ∧ x < 4) → lowOf a = lowOf b → highOf a = highOf b → a = b
  | [], [], _, _, _, _, _ => rfl
  | [], _ :: _, h, _, _, _, _ => by simp at h
  | _ :: _, [], h, _, _, _, _ => by simp at h
  | x :: a, y :: b, h, ha, hb, hl, hh => by
    have hx := ha x (.head _)
    have hy := hb y (.head _)
    simp only [lowOf, highOf] at hl hh
    have e1 : x = y := by omega
    subst e1
    rw [digits_inj (a := a) (b := b) (by simpa using h) (fun z hz => ha z (.tail _ hz)) (fun z hz => hb z (.tail _ hz)) (by omega) (by omega)]
theorem wide_len {bs : List Int} {W : Int} {sg : Bool} (hW : (bs.length : Int) ≤ W) : (wideOf bs W sg).length = W.toNat := by
  rw [wide_eq hW, List.length_append, List.length_replicate]; omega
theorem wide_mem {bs : List Int} {W : Int} {sg : Bool} (hne : bs ≠ []) (hb : ∀ b ∈ bs, 0 ≤ b ∧ b < 4) (hW : (bs.length : Int) ≤ W) : ∀ b ∈ wideOf bs W sg, 0 ≤ b ∧ b < 4 := by
  rw [wide_eq hW]
  intro b h
  rcases List.mem_append.mp h with h | h
  · exact hb b h
  · rw [List.eq_of_mem_replicate h]
    split
    · rw [List.getLastD_eq_getLast?, List.getLast?_eq_some_getLast hne]; exact hb _ (List.getLast_mem hne)
    · omega
theorem hits_wide {a b : Num} {W : Int} {sg : Bool} (ha : NumOk a.1) (hb : NumOk b.1) (h1 : (a.1.length : Int) ≤ W) (h2 : (b.1.length : Int) ≤ W) : hits W sg a b = decide (wideOf a.1 W sg = wideOf b.1 W sg) := by
  obtain ⟨a1, a2, a3⟩ := ha
  obtain ⟨b1, b2, b3⟩ := hb
  have an : a.1 ≠ [] := List.length_pos_iff.mp a1
  have bn : b.1 ≠ [] := List.length_pos_iff.mp b1
  have L (x : List Int) (hx : ∀ z ∈ x, 0 ≤ z ∧ z < 4) : ∀ z ∈ x, 0 ≤ (fun z => z % 2) z ∧ (fun z => z % 2) z ≤ (1 : Int) := fun z _ => by show 0 ≤ z % 2 ∧ z % 2 ≤ 1; omega
  have H (x : List Int) (hx : ∀ z ∈ x, 0 ≤ z ∧ z < 4) : ∀ z ∈ x, 0 ≤ (fun z => z / 2) z ∧ (fun z => z / 2) z ≤ (1 : Int) := fun z hz => by have := hx z hz; show 0 ≤ z / 2 ∧ z / 2 ≤ 1; omega
  have el (x : List Int) (xn : x ≠ []) (hx : ∀ z ∈ x, 0 ≤ z ∧ z < 4) (hW : (x.length : Int) ≤ W) : extI x.length W (lowOf x) sg = lowOf (wideOf x W sg) := by
    rw [low_g, low_g]; exact (gOf_wide _ xn (L x hx) rfl hW).symm
  have eh (x : List Int) (xn : x ≠ []) (hx : ∀ z ∈ x, 0 ≤ z ∧ z < 4) (hW : (x.length : Int) ≤ W) : extI x.length W (highOf x) sg = highOf (wideOf x W sg) := by
    rw [high_g, high_g]; exact (gOf_wide _ xn (H x hx) rfl hW).symm
  unfold hits
  rw [el _ an a3 h1, el _ bn b3 h2, eh _ an a3 h1, eh _ bn b3 h2]
  by_cases e : wideOf a.1 W sg = wideOf b.1 W sg
  · rw [e]; simp
  · rw [decide_eq_false e]
    rw [Bool.eq_false_iff]
    intro q
    rw [Bool.and_eq_true, beq_iff_eq, beq_iff_eq] at q
    exact e (digits_inj (by rw [wide_len h1, wide_len h2]) (wide_mem an a3 h1) (wide_mem bn b3 h2) q.1 q.2)


theorem strOk_of (x : String) : PyData.strOk (Str.ofString x) = true := by
  unfold PyData.strOk
  rw [Str.ofString_eq_toList, Array.all_eq_true']
  intro n hn
  rw [List.mem_toArray, List.mem_map] at hn
  obtain ⟨c, _, rfl⟩ := hn
  have h : c.toNat < 0x110000 := by
    rcases c.valid with h | ⟨_, h⟩
    · exact Nat.lt_trans h (by decide)
    · exact h
  exact decide_eq_true h
theorem strOk_app {a b : Str} (ha : PyData.strOk a = true) (hb : PyData.strOk b = true) : PyData.strOk (a ++ b) = true := by
  show (Array.all (a.cps ++ b.cps) _) = true
  unfold PyData.strOk at ha hb
  rw [Array.all_append, ha, hb]; rfl
section
open PyProof.V
mutual
def dpP : Dat → PyData
  | .none => .none
  | .bool b => .bool b
  | .int i => .int i
  | .str x => .str x
  | .bytes _ => .none
  | .tuple ds => .tuple (dpPs ds)
  | .list ds => .list (dpPs ds)
def dpPs : List Dat → List PyData
  | [] => []
  | d :: ds => dpP d :: dpPs ds
end
def dOk : Nat → Dat → Bool
  | _, .none => true
  | _, .bool _ => true
  | _, .int _ => true
  | _, .str x => PyData.strOk x
  | n + 1, .tuple ds => ds.all (dOk n)
  | n + 1, .list ds => ds.all (dOk n)
  | _, _ => false
section
variable {h₀ h : Heap} {L : Addr} {news : List (Addr × Obj)}
theorem ok_tup {n : Nat} {ds : List Dat} (h : dOk n (.tuple ds) = true) : ∃ m, n = m + 1 ∧ ∀ d ∈ ds, dOk m d = true := by
  cases n with
  | zero => simp [dOk] at h
  | succ m => exact ⟨m, rfl, by simpa [dOk] using h⟩
theorem ok_list {n : Nat} {ds : List Dat} (h : dOk n (.list ds) = true) : ∃ m, n = m + 1 ∧ ∀ d ∈ ds, dOk m d = true := by
  cases n with
  | zero => simp [dOk] at h
  | succ m => exact ⟨m, rfl, by simpa [dOk] using h⟩
theorem dp_in (N : News h₀ L h news) {v : Value} {d : Dat} (n : Nat) (hd : DatIn news v d) (hk : dOk n d = true) : ∃ as, Reads h v (dpP d) as :=
  DatIn.rec (motive_1 := fun v d _ => ∀ n, dOk n d = true → ∃ as, Reads h v (dpP d) as) (motive_2 := fun vs ds _ => ∀ n, (∀ d ∈ ds, dOk n d = true) → ∃ as, ReadsAll h vs (dpPs ds) as)
    (fun _ _ => ⟨_, Reads.none⟩) (fun b _ _ => ⟨_, Reads.bool b⟩) (fun i t _ _ => ⟨_, Reads.int i t⟩) (fun x t _ _ => ⟨_, Reads.str x t⟩) (fun _ _ n hk => by cases n <;> simp [dOk] at hk)
    (fun hm _ ih n hk => by
      obtain ⟨m, _, h2⟩ := ok_tup hk
      obtain ⟨as, q⟩ := ih m h2
      exact ⟨as, reads_tuple_at (N.get hm) rfl rfl (by simpa using q)⟩)
    (fun hm _ ih n hk => by
      obtain ⟨m, _, h2⟩ := ok_list hk
      obtain ⟨as, q⟩ := ih m h2
      exact ⟨_, reads_list_at (N.get hm) rfl rfl (by simpa [W.listOf] using q)⟩)
    (fun _ _ => ⟨_, ReadsAll.nil⟩)
    (fun _ _ ih1 ih2 n hk => by
      obtain ⟨as, q⟩ := ih1 n (hk _ (.head _))
      obtain ⟨bs, p⟩ := ih2 n fun d hm => hk d (.tail _ hm)
      exact ⟨_, ReadsAll.cons q p⟩) hd n hk
end
theorem dp_lay : ∀ (n : Nat) (d : Dat), dOk n d = true → (dpP d).canLay0 = true ∧ (dpP d).depth ≤ n := by
  have all : ∀ (n : Nat), (∀ d, dOk n d = true → (dpP d).canLay0 = true ∧ (dpP d).depth ≤ n) → ∀ ds : List Dat, (∀ d ∈ ds, dOk n d = true) → PyData.canLayAll0 (dpPs ds) = true ∧ PyData.depthAll (dpPs ds) ≤ n := by
    intro n ih ds
    induction ds with
    | nil => intro _; simp [dpPs, PyData.canLayAll0, PyData.depthAll]
    | cons d ds hi =>
      intro h
      have h1 := ih d (h d (.head _))
      have h2 := hi fun e he => h e (.tail _ he)
      simp only [dpPs, PyData.canLayAll0, PyData.depthAll, h1.1, h2.1, Bool.and_self, true_and]
      have a1 := h1.2
      have a2 := h2.2
      omega
  intro n
  induction n with
  | zero =>
    intro d h
    cases d <;> simp_all [dOk, dpP, PyData.canLay0, PyData.depth]
  | succ n ih =>
    intro d h
    cases d with
    | none => simp [dpP, PyData.canLay0, PyData.depth]
    | bool b => simp [dpP, PyData.canLay0, PyData.depth]
    | int i => simp [dpP, PyData.canLay0, PyData.depth]
    | str x => simp [dOk] at h; simp [dpP, PyData.canLay0, PyData.depth, h]
    | bytes b => simp [dOk] at h
    | tuple ds =>
      have q := all n ih ds (by simpa [dOk] using h)
      have q2 := q.2
      simp only [dpP, PyData.canLay0, PyData.depth, q.1, true_and]
      omega
    | list ds =>
      have q := all n ih ds (by simpa [dOk] using h)
      have q2 := q.2
      simp only [dpP, PyData.canLay0, PyData.depth, q.1, true_and]
      omega
section
variable {prog : Program} {w : World} {A : Around} {E : Value → Shared → Prop} {s : Shared} {h₀ : Heap} {L : Addr} {X im : Led} {a b : Value} {d : Dat} {Q : Value → Shared → Prop}
theorem dp_shaped (h : dOk 8 d = true) : SeqAt.shaped (dpP d) = true := by
  have l := dp_lay 8 d h
  unfold SeqAt.shaped
  rw [l.1, Bool.true_and]
  exact decide_eq_true (Nat.le_trans l.2 (by decide))
theorem same_eq (N : News h₀ L s.heap X) (hs : ∀ p ∈ im, p ∈ X) (ha : DatIn im a d) (hb : DatIn im b d) (hd : dOk 8 d = true) (hu : A.units + 64 < cLine) (h : Q (.bool true) s) : wpAny (model prog w) A (compareOp .Eq a b) Q E s := by
  obtain ⟨as, ra⟩ := dp_in N 8 (ha.mono hs) hd
  obtain ⟨bs, rb⟩ := dp_in N 8 (hb.mono hs) hd
  exact eq_dataH ra rb (dp_shaped hd) (dp_shaped hd) hu (by rw [SeqAt.eqv_refl _ (dp_lay 8 d hd).1]; exact h)
theorem same_ne (N : News h₀ L s.heap X) (hs : ∀ p ∈ im, p ∈ X) (ha : DatIn im a d) (hb : DatIn im b d) (hd : dOk 8 d = true) (hu : A.units + 64 < cLine) (h : Q (.bool false) s) : wpAny (model prog w) A (compareOp .NotEq a b) Q E s := by
  obtain ⟨as, ra⟩ := dp_in N 8 (ha.mono hs) hd
  obtain ⟨bs, rb⟩ := dp_in N 8 (hb.mono hs) hd
  exact ne_dataH ra rb (dp_shaped hd) (dp_shaped hd) hu (by rw [SeqAt.eqv_refl _ (dp_lay 8 d hd).1]; exact h)
end
end


theorem execs_cat {env : Env} : ∀ (xs ys : List Stmt), execs (xs ++ ys) env = (do match ← execs xs env with | .next => execs ys env | f => pure f)
  | [], ys => by
    rw [List.nil_append, execs_nil, pure_bind]
  | x :: xs, ys => by
    rw [List.cons_append, execs_cons, execs_cons, bind_assoc]
    congr 1
    funext f
    cases f with
    | next => exact execs_cat xs ys
    | _ => simp only [pure_bind]
theorem execs_app {M : Model} {A : Around} {E : Value → Shared → Prop} {s : Shared} {env : Env} {Q : Flow → Shared → Prop} {xs ys : List Stmt}
    (h : wpAny M A (execs xs env) (fun f s' => match f with | .next => wpAny M A (execs ys env) Q E s' | f => Q f s') E s) : wpAny M A (execs (xs ++ ys) env) Q E s := by
  rw [execs_cat]
  refine wpAny_bind (wpAny_mono h (fun f s' p => ?_) fun _ _ e => e)
  cases f with
  | next => exact p
  | _ => exact wpAny_pure p
theorem execs_at {M : Model} {A : Around} {E : Value → Shared → Prop} {s : Shared} {env : Env} {Q : Flow → Shared → Prop} {l : List Stmt} (i j : Nat)
    (h : wpAny M A (execs ((l.drop i).take j) env) (fun f s' => match f with | .next => wpAny M A (execs (l.drop (i + j)) env) Q E s' | f => Q f s') E s) : wpAny M A (execs (l.drop i) env) Q E s := by
  rw [← List.take_append_drop j (l.drop i), List.drop_drop]
  exact execs_app h
theorem sep_ne {a : Addr} {o : Obj} {X im : Led} (S : Sep X im) (h : (a, o) ∈ X) : ∀ p ∈ im, p.1 ≠ a := fun p hp => S p hp _ h
theorem cat_ne {a : Addr} {mt im : Led} (h1 : ∀ p ∈ mt, p.1 ≠ a) (h2 : ∀ p ∈ im, p.1 ≠ a) : ∀ p ∈ mt ++ im, p.1 ≠ a := fun p hp => (List.mem_append.mp hp).elim (h1 p) (h2 p)
/-- a mark: where it stands among the hypotheses, the walk stops at == of two objects -/
structure MkEq : Prop where
/-- as MkEq, at != of two objects -/
structure MkNe : Prop where
/-- as MkEq, at an index or a slice -/
structure MkSb : Prop where
theorem rg_p51m_1 : True := by
  k_with "compareOp Eq ref ref" => ((with_reducible rename MkEq => mkw); k_here; refine stop_here ?_)
  exact trivial
theorem rg_p51m_2 : True := by
  k_with "compareOp NotEq ref ref" => ((with_reducible rename MkNe => mkw); k_here; refine stop_here ?_)
  exact trivial
theorem rg_p51m_3 : True := by
  k_with "subscriptTail Name Name ref int" => ((with_reducible rename MkSb => mkw); k_here; refine stop_here ?_)
  exact trivial
theorem rg_p51m_4 : True := by
  k_with "subscriptTail Name UnaryOp ref int" => ((with_reducible rename MkSb => mkw); k_here; refine stop_here ?_)
  exact trivial
theorem rg_p51m_5 : True := by
  k_with "subscriptTail List BinOp ref int" => ((with_reducible rename MkSb => mkw); k_here; refine stop_here ?_)
  exact trivial
theorem rg_p51m_6 : True := by
  k_with "subscriptTail Name Slice ref ref" => ((with_reducible rename MkSb => mkw); k_here; refine stop_here ?_)
  exact trivial
theorem rg_p51_1 : True := by
  k_with "my im" => first | with_reducible assumption | exact sep_ne (by with_reducible assumption) (by walk_at "my mem0")
  exact trivial
theorem rg_p51_2 : True := by
  k_with "my lt" => first | assumption | exact And.right (by assumption) | exact And.right (And.right (by assumption)) | walk_at "my im"
  exact trivial
theorem rg_p51_3 : True := by
  k_with "my all2" => first | with_reducible assumption | exact List.forall_mem_nil _ | (refine List.forall_mem_cons.mpr ⟨?_, ?_⟩; (case' refine_1 => k_ne); walk_at "my all2") | (refine cat_ne ?_ ?_; (case' refine_1 => with_reducible assumption); walk_at "my im") | walk_at "my im"
  exact trivial
theorem rg_p51k_1 : True := by
  k_with "my kupd" => first | (exact Upd.head (by walk_at "my all2")) | (exact Upd.tail (by k_ne) (by k_upd))
  exact trivial
theorem rg_p51k_2 : True := by
  k_with "my kupdF" => first | (exact UpdF.head (by walk_at "my all2")) | (exact UpdF.tail (by k_ne) (by k_updF))
  exact trivial
theorem rg_p51_4 : True := by
  k_with "my sep" => first | assumption | exact Sep.nil | exact Sep.tail (by with_reducible assumption) | exact Sep.tail (Sep.tail (by with_reducible assumption)) | exact Sep.tail (Sep.tail (Sep.tail (by with_reducible assumption))) | (exact sep_addr (by with_reducible assumption) (by exact rfl)) | (refine Sep.cons ?_ ?_; (case' refine_1 => walk_at "my lt"); walk_at "my sep")
  exact trivial
section
variable {prog : Program} {w : World} {p : Program} {loose : List Str} {mean : ExcName → Option Value} {mg mb : Str → Option Value}
  {dp un : Nat} {gd : Option (List Code)} {cn : Str} {cs : PySem.Scope} {a : Addr} {ccd : Value} {cl : List (Str × Addr)} {outer : List Env} {A₀ : Around} {base h₀ : Heap} {L : Addr} {m : Str → Option Value} {s : Shared}
  {Q E : Value → Shared → Prop} {X Y mt im : Led} {us : List Value} {n : Nat} {rw : Addr}
theorem number_use (hR : RowIs us) (B : Below A₀ base outer h₀) (F : Fr h₀ L s.heap m) (KX : (K w.params).In h₀) (N : News h₀ L s.heap X) (T : Top p loose mean mg mb h₀) (hk : cs.kind = .function)
    (hX : Front X (rw, W.listOf us.toArray n) Y) (hY : Spl Y mt im) (hS : Sep mt im) (hne : ∀ p ∈ Y, p.1 ≠ rw) (hd : dp + 18 < recursionLimit) (hu : un + 700 < cLine)
    (ret : ∀ r us' n' im' bs sg h' tk', Fr h₀ L h' m → News h₀ L h' ((rw, W.listOf us'.toArray n') :: (mt ++ im')) → (∀ p ∈ im, p ∈ im') → Sep mt im' → (∀ p ∈ im', p.1 ≠ rw) → DatIn im' r (numberD bs sg) → NumOk bs → RowIs us' → Q r { s with heap := h', toks := tk' }) :
    wpAny (model prog w) (ktrTop dp un gd cn cs L a ccd cl outer) (call (.ref 1346) [.ref rw]) Q E s := by
  have e := hY.eq
  subst e
  refine number_ok w rw us n mt im hR hS hne prog p loose mean mg mb dp un gd cn cs a ccd cl outer A₀ base h₀ L m s Q E B F KX (fun q hq => N q (hX.mem q hq)) T hk hd hu ?_
  rintro r h' tk' nw F' N' ⟨us', n', im', bs, sg, h1, rfl, h2, h3, h4, h5, h6⟩
  exact ret r us' n' im' bs sg h' tk' F' N' h2 h3 (fun p hp => h4 p (List.mem_append.mpr (.inr hp))) h5 h6 h1
end
theorem rg_p51_5 : True := by
  k_with "call ref" => (k_here; (with_reducible show wpAny _ _ (call (Value.ref 1346) _) _ _ _); k_dflt (refine number_use (by with_reducible assumption) (by k_asm) (by k_asm) (by k_asm) (by k_asm) (by k_asm) (by first | exact rfl | assumption) (by walk_at "my front") (by walk_at "my spl") (by walk_at "my sep") (by walk_at "my all2") (by walk_at "my room") (by walk_at "my units") ?_); intro r'w us'w n'w im'w bs'w sg'w h'w tk'w F'w N'w hs'w hS'w hq'w hD'w hb'w hR'w; (try k_sweep))
  exact trivial
theorem rg_p51_6 : True := by
  k_with "call ref" => (k_here; (with_reducible show wpAny _ _ (call (Value.ref 1320) _) _ _ _); k_dflt (refine next_use (by with_reducible assumption) (by k_asm) (by k_asm) (by k_asm) (by k_asm) (by k_asm) (by first | exact rfl | assumption) (by walk_at "my front") (by walk_at "my all2") (by walk_at "my room") (by walk_at "my units") ?_); intro x'w t'w us'w n'w h'w tk'w F'w N'w hx0w hx1w hR'w; (try k_sweep))
  exact trivial
abbrev lawCl (c1 c2 c3 c4 c5 c6 c7 : Addr) : List (Str × Addr) := [(Str.ofString "value", c7), (Str.ofString "scope", c6), (Str.ofString "right", c5), (Str.ofString "names", c4), (Str.ofString "left", c3), (Str.ofString "subject", c2), (Str.ofString "row", c1)]
theorem grab1 {h₀ h : Heap} {L : Addr} {X : Led} {a : Addr} {oa : Obj} {P : Prop} (_N : News h₀ L h ((a, oa) :: X)) (k : ∀ cA, cA = a → P) : P := k a rfl
abbrev lawE (M : Model) (A : Around) (env : Env) (R : Value → Shared → Prop) : Value → Shared → Prop := fun e s' => wpAny M A (leaving env e) (fun _ s'' => R e s'') (fun e' s'' => R e' s'') s'


section
variable (w : World) {prog : Program} {p : Program} {loose : List Str} {mean : ExcName → Option Value} {mg mb : Str → Option Value} {dp un : Nat} {gd : Option (List Code)} {cn : Str} {ca : Addr} {ccd : Value} {A₀ : Around} {base h₀ : Heap} {L : Addr} {m : Str → Option Value} {s : Shared} {E : Value → Shared → Prop} {Qf : Flow → Shared → Prop}
  {c1 c2 c3 c4 c5 c6 c7 : Addr}
theorem blkD1 {rw : Addr} {us : List Value} {n : Nat} {oR oU : Obj} {v0 : Option Value} {mt im : Led}
    (B : Below A₀ base [] h₀) (F : Fr h₀ L s.heap m) (X : (K w.params).In h₀) (T : Top p loose mean mg mb h₀) (hd : dp + 60 < recursionLimit) (hu : un + 2000 < cLine)
    (N : News h₀ L s.heap ((rw, W.listOf us.toArray n) :: (c2, oU) :: (mt ++ im))) (hR : RowIs us) (dU : oU.data = .cell v0) (mR : (c1, oR) ∈ im) (dR : oR.data = .cell (some (.ref rw)))
    (S : Sep ((rw, W.listOf us.toArray n) :: (c2, oU) :: mt) im) (n1 : @Ne Nat rw c2) (q1 : ∀ p ∈ mt, p.1 ≠ rw) (q2 : ∀ p ∈ mt, p.1 ≠ c2)
    (ret : ∀ h' tk' us' n' oU' nl rl im' bs sg rs x t, Fr h₀ L h' (fun y => if y = Str.ofString "usual" then some (.int x t) else if y = Str.ofString "rows" then some (.ref rl) else if y = Str.ofString "numbers" then some (.ref nl) else m y) →
      News h₀ L h' ((rw, W.listOf us'.toArray n') :: (rl, W.listOf #[] 0) :: (nl, W.listOf #[rs] 0) :: (c2, oU') :: (mt ++ im')) → RowIs us' → oU'.data = .cell (some rs) → DatIn im' rs (numberD bs sg) → NumOk bs → (∀ p ∈ im, p ∈ im') →
      (@LT.lt Nat _ rw nl ∧ @LT.lt Nat _ c2 nl ∧ AllLt nl (mt ++ im')) → (@LT.lt Nat _ nl rl ∧ @LT.lt Nat _ rw rl ∧ @LT.lt Nat _ c2 rl ∧ AllLt rl (mt ++ im')) → Sep ((c2, oU) :: mt) im' → (∀ p ∈ im', p.1 ≠ rw) → Qf .next { s with heap := h', toks := tk' }) :
    wpAny (model prog w) (ktrTop dp un gd cn dLaw.scope L ca ccd (lawCl c1 c2 c3 c4 c5 c6 c7) []) (execs ((dLaw.body.drop 12).take 4) (envX cn dLaw.scope L ca ccd (lawCl c1 c2 c3 c4 c5 c6 c7))) Qf E s := by
  unfold dLaw
  dsimp only [List.drop, List.take]
  k_steps
  (with_reducible rename News _ _ _ _ => N9)
  exact ret _ _ _ _ _ _ _ _ _ _ _ _ _ (by k_asm) N9 (by with_reducible assumption) (by with_reducible assumption) (by with_reducible assumption) (by with_reducible assumption) (by with_reducible assumption) (by assumption) (by assumption) (by with_reducible assumption) (by with_reducible assumption)
end


section
variable {prog : Program} {w : World} {A : Around} {E : Value → Shared → Prop} {s : Shared} {h₀ h : Heap} {L D b : Addr} {m : Str → Option Value} {news news' : Led} {its its2 : Array Value} {n n2 : Nat} {l : List Value}
theorem fills_list_iadd : fillsInplaceSlot (.type "list") "add" (Operator.Add == .Add) = pure false := by
  unfold fillsInplaceSlot
  show (typeLookup (.type "list") (dunderI "add") >>= fun fi => pure (fi.isSome && !isSeqSlot fi)) = pure false
  rw [PySem.F.slot_list_iadd.lookup, pure_bind]
  exact congrArg pure (by decide +kernel)
theorem seq_list_iadd : seqSlot? (.type "list") (dunderI "add") = pure (some (.builtin "list.__iadd__")) := PySem.seqSlot_of PySem.F.slot_list_iadd.lookup (by decide +kernel)
/-- `a += b` of two lists -/
theorem kl_iadd {Q : Value → Shared → Prop} (F : Fr h₀ L s.heap m) (N : News h₀ L s.heap news) (hb : (b, W.listOf its2 n2) ∈ news) (e : its.toList ++ its2.toList = l) (hne : its2.toList.length ≠ 0)
    (U : Upd D (W.listOf its n) (W.listOf l.toArray (n + 1)) news news') (hd : ¬(!its.isEmpty && Builtin.List.listTooLong (its.size + its2.size)) = true) (hz : its.toList.length ≤ sizeLine) (hz2 : its.size + its2.size ≤ sizeLine + 1)
    (h : ∀ h', Fr h₀ L h' m → News h₀ L h' news' → Q (.ref D) { s with heap := h' }) : wpAny (model prog w) A (inplaceOp .Add (.ref D) (.ref b)) Q E s := by
  obtain ⟨pre, post, rfl, rfl, a, c⟩ := U.split
  have z := N (D, W.listOf its n) (List.mem_append.mpr (.inr (.head _)))
  have ha : s.TypeIs (.ref D) "list" := ⟨_, z.1, rfl⟩
  have hb2 : s.TypeIs (.ref b) "list" := ⟨_, (N _ hb).1, rfl⟩
  unfold inplaceOp
  refine wpAny_holding ?_
  refine wpAny_bind (wpAny_typeOf ha (wpAny_bind (wpAny_of_eq fills_list_iadd ?_)))
  show wpAny _ A (if false = true then _ else _) Q E s
  rw [if_neg Bool.false_ne_true]
  refine wpAny_bind (wpAny_binaryOp1_none (nm := "add") ha hb2 noFill_list_add ?_)
  refine wpAny_bind (wpAny_of_eq seq_list_iadd ?_)
  refine wpAny_bind (wpAny_rule ?_)
  refine call_meets PySem.F.slot_list_iadd ⟨_, z.1, rfl⟩ PySem.F.entry_list_iadd (PySem.F.args_list_iadd_2 _ _) (PySem.AutoSeq1.list___iadd___list_list_0 D its n b its2 n2 hd (by simpa using hz) hz2) ⟨z.1, (N _ hb).1, h _ (F.change (Heap.SameBut.update ..) z.2.1 z.2.2) (kl_turn _ N a c ?_ ?_)⟩
  · subst e
    apply Array.toList_inj.mp
    simp
  · subst e
    simp at hne ⊢
    exact hne
end


section
variable {prog : Program} {w : World} {A : Around} {s : Shared} {h₀ : Heap} {L : Addr} {m : Str → Option Value} {env : Env} {elt : PySem.Expr} {x : Str} {scope : PySem.Scope} {cl : List (Str × Addr)}
/-- a comprehension's turns by an invariant over the values made and the ledger -/
theorem comp_turns {S : Led → Prop} {P : Nat → Value → Prop} {Fin : List Value → Led → Prop} {n : Nat} {news : Led} (J : Nat → List Value → Led → Prop) (h0 : J 0 [] news)
    (turn : ∀ G : Nat → List Value → Led → Value → Addr → Obj → Addr → Obj → Addr → (Str → Option Value) → Heap → Nat → (Value → Shared → Prop) → Prop, (∀ {i ys news v I oI C oC D m₂ h tk} {E' : Value → Shared → Prop}, (LCg.NsObj oC m₂ → m₂ x = some v → Fr h₀ L h m → News h₀ L h ((I, oI) :: (C, oC) :: (D, LCg.lst ys) :: news) → LCg.Off3 I C D news → ((@Ne Nat I C) ∧ (@Ne Nat I D) ∧ (@Ne Nat C D)) →
      wpAny (model prog w) A (eval elt (compEnvC scope cl C env)) (LCg.CompEnd h₀ L m { s with heap := h, toks := tk } I oI C oC D (LCg.lst ys) S (fun y news' => J (i + 1) (ys ++ [y]) news')) E' { s with heap := h, toks := tk }) → G i ys news v I oI C oC D m₂ h tk E') → ∀ i ys news v I oI C oC D m₂ h tk E', i < n → ys.length = i → P i v → J i ys news → G i ys news v I oI C oC D m₂ h tk E')
    (fin : ∀ G : List Value → Led → Prop, (∀ {ys news}, Fin ys news → G ys news) → ∀ ys news, ys.length = n → J n ys news → G ys news) : LCg.CompRest prog w A h₀ L m env elt x scope cl s S P Fin n 0 [] news := by
  suffices H : ∀ k i ys news, i + k = n → ys.length = i → J i ys news → LCg.CompRest prog w A h₀ L m env elt x scope cl s S P Fin k i ys news from H n 0 [] news (by omega) rfl h0
  intro k
  induction k with
  | zero =>
    intro i ys news hi hl hj
    have : i = n := by omega
    subst this
    exact fin Fin (fun h => h) ys news hl hj
  | succ k ih =>
    intro i ys news hi hl hj v I oI C oC D m₂ h tk E' hP hC hx F N off ne
    refine wpAny_mono (turn (fun i ys news v I oI C oC D m₂ h tk E' => LCg.NsObj oC m₂ → m₂ x = some v → Fr h₀ L h m → News h₀ L h ((I, oI) :: (C, oC) :: (D, LCg.lst ys) :: news) → LCg.Off3 I C D news → ((@Ne Nat I C) ∧ (@Ne Nat I D) ∧ (@Ne Nat C D)) → wpAny (model prog w) A (eval elt (compEnvC scope cl C env)) (LCg.CompEnd h₀ L m { s with heap := h, toks := tk } I oI C oC D (LCg.lst ys) S (fun y news' => J (i + 1) (ys ++ [y]) news')) E' { s with heap := h, toks := tk }) (fun h => h) i ys news v I oI C oC D m₂ h tk E' (by omega) hl hP hj hC hx F N off ne) (fun y s' h' => ?_) fun _ _ e => e
    obtain ⟨h1, tk1, nw, e, F1, N1, o1, S1, R1⟩ := h'
    exact ⟨h1, tk1, nw, e, F1, N1, o1, S1, ih (i + 1) (ys ++ [y]) nw (by omega) (by simp [hl]) R1⟩
theorem off3_app {I C D : Addr} {a b : Led} (h1 : LCg.Off3 I C D a) (h2 : ∀ p ∈ b, p.1 ≠ I) (h3 : ∀ p ∈ b, p.1 ≠ C) (h4 : ∀ p ∈ b, p.1 ≠ D) : LCg.Off3 I C D (a ++ b) :=
  LCg.Off3.of fun p hp => (List.mem_append.mp hp).elim (fun h => LCg.Off3.mem h1 p h) fun h => ⟨h2 p h, h3 p h, h4 p h⟩
theorem off3_left {I C D : Addr} {a b : Led} (h : LCg.Off3 I C D (a ++ b)) : LCg.Off3 I C D a := LCg.Off3.of fun p hp => LCg.Off3.mem h p (List.mem_append.mpr (.inl hp))
theorem off3_sep {I C D : Addr} {oI oC oD : Obj} {mt im : Led} (h : LCg.Off3 I C D (mt ++ im)) (S : Sep mt im) : Sep ((I, oI) :: (C, oC) :: (D, oD) :: mt) im :=
  Sep.cons (fun p hp => (LCg.Off3.mem h p (List.mem_append.mpr (.inr hp))).1) (Sep.cons (fun p hp => (LCg.Off3.mem h p (List.mem_append.mpr (.inr hp))).2.1) (Sep.cons (fun p hp => (LCg.Off3.mem h p (List.mem_append.mpr (.inr hp))).2.2) S))
/-- a turn's end: the mutable part, the immutable one, the comprehension's three objects apart -/
theorem cend {I C D : Addr} {oI oC oD : Obj} {S : Led → Prop} {rest : Value → Led → Prop} {y : Value} {h' : Heap} {tk : Nat} {X mt im : Led} (F : Fr h₀ L h' m) (N : News h₀ L h' X) (hX : ∀ p ∈ (I, oI) :: (C, oC) :: (D, oD) :: (mt ++ im), p ∈ X)
    (off : LCg.Off3 I C D mt) (S3 : Sep ((I, oI) :: (C, oC) :: (D, oD) :: mt) im) (hS : S (mt ++ im)) (r : rest y (mt ++ im)) :
    LCg.CompEnd h₀ L m s I oI C oC D oD S rest y { s with heap := h', toks := tk } :=
  ⟨h', tk, mt ++ im, rfl, F, fun p hp => N p (hX p hp), off3_app off S3.head S3.tail.head S3.tail.tail.head, hS, r⟩
theorem fr_see {h : Heap} {v : Value} {y : Str} (F : Fr h₀ L h m) (e : m y = some v) : Fr h₀ L h (fun z => if z = y then some v else m z) := by
  have : (fun z => if z = y then some v else m z) = m := by
    funext z
    by_cases q : z = y
    · rw [if_pos q, q, e]
    · rw [if_neg q]
  rw [this]; exact F
theorem fr_map {h : Heap} {m' : Str → Option Value} (F : Fr h₀ L h m) (e : ∀ z, m' z = m z) : Fr h₀ L h m' := (funext e : m' = m) ▸ F
theorem see_if {y z : Str} {v : Value} {m m' : Str → Option Value} (e : m y = some v) (h : m' z = m z) : (if z = y then some v else m' z) = m z := by
  by_cases q : z = y
  · rw [if_pos q, q, e]
  · rw [if_neg q, h]
theorem fr_see3 {h : Heap} {y1 y2 y3 : Str} {v1 v2 v3 : Value} (F : Fr h₀ L h m) (e1 : m y1 = some v1) (e2 : m y2 = some v2) (e3 : m y3 = some v3) : Fr h₀ L h (fun z => if z = y1 then some v1 else if z = y2 then some v2 else if z = y3 then some v3 else m z) :=
  fr_map F fun z => see_if (m' := fun z => if z = y2 then some v2 else if z = y3 then some v3 else m z) e1 (see_if (m' := fun z => if z = y3 then some v3 else m z) e2 (see_if (m' := m) e3 rfl))
theorem grabrow {h : Heap} {X : Led} {a : Addr} {ws : List Value} {n : Nat} {P : Prop} (_N : News h₀ L h ((a, W.listOf ws.toArray n) :: X)) (k : ∀ ws5 n5, ws5 = ws → n5 = n → P) : P := k ws n rfl rfl
theorem grabpush {h : Heap} {e1 e2 : Addr × Obj} {X : Led} {r : Addr} {A : Array Value} {v : Addr} {k : Nat} {P : Prop} (_N : News h₀ L h (e1 :: e2 :: (r, W.listOf (A.push (.ref v)) k) :: X)) (kk : ∀ v5, v5 = v → P) : P := kk v rfl
theorem off_of {D : Addr} {l : Led} (h : ∀ p ∈ l, p.1 ≠ D) : LCg.Off1 D l := by
  induction l with
  | nil => trivial
  | cons a l ih => exact ⟨h a (.head _), ih fun p hp => h p (.tail _ hp)⟩
end
theorem rg_p56_1 : True := by
  k_with "my new" => (intro D'w im'w h'w F'w N'w hs'w hS'w hm'w; (try simp only [List.cons_append, List.nil_append, List.append_eq] at N'w); (try simp only [List.cons_append, List.nil_append, List.drop_succ_cons, List.drop_zero] at hm'w); (try k_sweep))
  exact trivial
theorem rg_p56_2 : True := by
  k_with "newTuple" => (k_here; k_dflt (refine tup_new (by k_asm) (by k_asm) (by walk_at "my spl") (by walk_at "my sep") ?_ (by kmk_size)); walk_at "my new")
  exact trivial
theorem rg_p56_3 : True := by
  k_with "my fina" => (unfold LCg.FinA; intro D'w h'w tk'w F'w N'w o1'w; (try simp only [List.cons_append, List.nil_append, List.append_eq, LCg.Off1, and_true] at o1'w); (try simp only [List.cons_append, List.nil_append, List.append_eq] at N'w); (try dsimp only at F'w); (try dsimp only))
  exact trivial
theorem cons_all {e : Addr × Obj} {b Y : Led} (h1 : e ∈ Y) (h2 : ∀ p ∈ b, p ∈ Y) : ∀ p ∈ e :: b, p ∈ Y := fun p hp => by
  rcases List.mem_cons.mp hp with rfl | hp
  · exact h1
  · exact h2 p hp
theorem cat_all {a b Y : Led} (h1 : ∀ p ∈ a, p ∈ Y) (h2 : ∀ p ∈ b, p ∈ Y) : ∀ p ∈ a ++ b, p ∈ Y := fun p hp => (List.mem_append.mp hp).elim (h1 p) (h2 p)
theorem app_l {a b c : Led} (h : ∀ p ∈ a, p ∈ b) : ∀ p ∈ a, p ∈ b ++ c := fun p hp => List.mem_append.mpr (.inl (h p hp))
theorem app_r {a b c : Led} (h : ∀ p ∈ a, p ∈ c) : ∀ p ∈ a, p ∈ b ++ c := fun p hp => List.mem_append.mpr (.inr (h p hp))
theorem rg_p56_4 : True := by
  k_with "my perm1" => first | with_reducible exact id_sub | with_reducible assumption | (with_reducible refine cons_sub ?_; walk_at "my perm1") | (with_reducible refine app_l ?_; with_reducible exact id_sub) | (with_reducible refine app_r ?_; walk_at "my sub")
  exact trivial
theorem rg_p56_5 : True := by
  k_with "my perm" => first | with_reducible exact id_sub | (with_reducible refine cons_all ?_ ?_; (case' refine_1 => walk_at "my mem0"); walk_at "my perm") | (with_reducible refine cat_all ?_ ?_; (case' refine_1 => first | walk_at "my perm1" | walk_at "my perm"); walk_at "my perm") | walk_at "my perm1"
  exact trivial
theorem off3_addr {I C D : Addr} {a b : Led} (h : LCg.Off3 I C D a) (e : b.map (·.1) = a.map (·.1)) : LCg.Off3 I C D b := LCg.Off3.of fun p hp => by
  have h1 : p.1 ∈ a.map (·.1) := e ▸ List.mem_map_of_mem hp
  obtain ⟨q, h2, h3⟩ := List.mem_map.mp h1
  rw [← h3]
  exact LCg.Off3.mem h q h2
theorem sep_by {mt mt' im : Led} (S : Sep mt im) (e : ∀ p ∈ mt', p.1 ∈ mt.map (·.1)) : Sep mt' im := fun p hp q hq => by
  obtain ⟨q', h2, h3⟩ := List.mem_map.mp (e q hq)
  rw [← h3]
  exact S p hp q' h2
theorem sep_in {a : Addr} {o : Obj} {mt mt' im : Led} (S : Sep mt im) (h : ∀ p ∈ im, p.1 ≠ a) (e : ∀ p ∈ mt', p.1 = a ∨ p ∈ mt) : Sep mt' im := fun p hp q hq => by
  rcases e q hq with h2 | h2
  · rw [h2]; exact h p hp
  · exact S p hp q h2
theorem rg_p56_6 : True := by
  k_with "my memx" => first | with_reducible assumption | with_reducible_and_instances exact List.Mem.head _ | (with_reducible_and_instances refine List.Mem.tail _ ?_; walk_at "my memx") | (with_reducible refine mem_r ?_; walk_at "my mem")
  exact trivial
theorem rg_p56k_1 : True := by
  k_with "my kmem" => walk_at "my memx"
  exact trivial
section
variable {M : Model} {A : Around} {E : Value → Shared → Prop} {s : Shared} {h₀ : Heap} {L a : Addr} {m : Str → Option Value} {cn : Str} {cs : PySem.Scope} {ccd : Value} {cl : List (Str × Addr)} {x : Str} {v : Value} {news : Led}
theorem ldnX {Q : Value → Shared → Prop} (F : Fr h₀ L s.heap m) (hv : m x = some v) (h : Q v s) (hk : cs.kind = .function) (hl : (envX cn cs L a ccd cl).kindOf x = some .local) :
    wpAny M A (loadName (envX cn cs L a ccd cl) x) Q E s := wpAny_loadName_local hk hl F.ns hv h
theorem stNX {Q : Unit → Shared → Prop} (F : Fr h₀ L s.heap m) (N : News h₀ L s.heap news)
    (h : ∀ h', Fr h₀ L h' (fun y => if y = x then some v else m y) → News h₀ L h' news → Q () { s with heap := h', toks := s.toks + 1 })
    (hk : cs.kind = .function) (hl : (envX cn cs L a ccd cl).kindOf x = some .local) :
    wpAny M A (storeName (envX cn cs L a ccd cl) x v) Q E s :=
  wpAny_storeName_local hl F.ns (fun h' hn hs => h h' (F.set hn hs) (N.set hs))
    (by show (cs.kind == .class || (cs.kind == .module && L != mainGlobals)) = false; rw [hk]; rfl)
end
theorem rg_p56_cw : True := by
  k_with "callWith ref" => (k_here; k_dflt (refine callWith_K (by k_asm) (by k_is) ?_; k_whole))
  exact trivial
theorem rg_p56_8 : True := by
  k_with "loadName" => (k_here; k_dflt (refine ldnX (by k_asm) (by rfl) ?_ (by rfl) (by rfl)))
  exact trivial
theorem rg_p56_9 : True := by
  k_with "storeName" => (k_here; k_dflt (refine stNX (by k_asm) (by k_asm) ?_ (by rfl) (by rfl)); intro h'w F'w N'w; (try k_sweep))
  exact trivial
/-- a comprehension's element that changes nothing: a datum -/
def PElt (h₀ : Heap) (L : Addr) (m : Str → Option Value) (s : Shared) (mtx im1 : Led) (d : Dat) (y : Value) (s' : Shared) : Prop :=
  ∃ h' tk im2, s' = { s with heap := h', toks := tk } ∧ Fr h₀ L h' m ∧ News h₀ L h' (mtx ++ im2) ∧ (∀ p ∈ im1, p ∈ im2) ∧ Sep mtx im2 ∧ DatIn im2 y d
section
variable {prog : Program} {w : World} {A : Around} {s : Shared} {h₀ : Heap} {L : Addr} {m : Str → Option Value} {env : Env} {elt : PySem.Expr} {x : Str} {scope : PySem.Scope} {cl : List (Str × Addr)}
theorem comp_pure {S : Led → Prop} {P : Nat → Value → Prop} {Fin : List Value → Led → Prop} {n : Nat} {mt im : Led} (ds : List Dat) (hn : n = ds.length) (S0 : Sep mt im) (hS : ∀ im2, (∀ p ∈ im, p ∈ im2) → S (mt ++ im2))
    (turn : ∀ i v im1 I oI C oC D ys m₂ h tk (E' : Value → Shared → Prop) (hi : i < ds.length), P i v → (∀ p ∈ im, p ∈ im1) → LCg.NsObj oC m₂ → m₂ x = some v → Fr h₀ L h m → News h₀ L h ((I, oI) :: (C, oC) :: (D, LCg.lst ys) :: (mt ++ im1)) →
      Sep ((I, oI) :: (C, oC) :: (D, LCg.lst ys) :: mt) im1 → LCg.Off3 I C D mt → ((@Ne Nat I C) ∧ (@Ne Nat I D) ∧ (@Ne Nat C D)) →
      wpAny (model prog w) A (eval elt (compEnvC scope cl C env)) (PElt h₀ L m { s with heap := h, toks := tk } ((I, oI) :: (C, oC) :: (D, LCg.lst ys) :: mt) im1 ds[i]) E' { s with heap := h, toks := tk })
    (fin : ∀ ys im1, (∀ p ∈ im, p ∈ im1) → Sep mt im1 → DatAll im1 ys ds → Fin ys (mt ++ im1)) : LCg.CompRest prog w A h₀ L m env elt x scope cl s S P Fin n 0 [] (mt ++ im) := by
  refine comp_turns (fun i ys news => ∃ im1, news = mt ++ im1 ∧ (∀ p ∈ im, p ∈ im1) ∧ Sep mt im1 ∧ DatAll im1 ys (ds.take i)) ⟨im, rfl, id_sub, S0, .nil⟩ ?_ ?_
  · rintro G9 hG9 i ys _ v I oI C oC D m₂ h tk E' hi hl hP hq1_16
    obtain ⟨im1, rfl, hs, S1, hA⟩ := hq1_16
    refine hG9 ?_
    clear hG9
    intro hC hx F N off ne
    refine wpAny_mono (turn i v im1 I oI C oC D ys m₂ h tk E' (hn ▸ hi) hP hs hC hx F N (off3_sep off S1) (off3_left off) ne) (fun y s' h' => ?_) fun _ _ e => e
    obtain ⟨h2, tk2, im2, rfl, F2, N2, hs2, S2, hD⟩ := h'
    refine ⟨h2, tk2, mt ++ im2, rfl, F2, N2, off3_app (off3_left off) S2.head S2.tail.head S2.tail.tail.head, hS im2 (fun p hp => hs2 p (hs p hp)), im2, rfl, fun p hp => hs2 p (hs p hp), S2.tail.tail.tail, ?_⟩
    rw [take_snoc (hn ▸ hi)]
    exact DatAll.append (hA.mono hs2) (.one hD)
  · rintro G9 hG9 ys _ hl ⟨im1, rfl, hs, S1, hA⟩
    refine hG9 (fin ys im1 hs S1 ?_)
    rw [hn, List.take_length] at hA
    exact hA
theorem src_at {ax : Addr} {its : Array Value} {k : Nat} {mt im : Led} (h : (ax, W.listOf its k) ∈ im) : ∀ im2, (∀ p ∈ im, p ∈ im2) → LCg.SrcAt h₀ ax its (mt ++ im2) := fun im2 hs => .inr ⟨_, List.mem_append.mpr (.inr (hs _ h)), rfl, _, rfl⟩
end
theorem rg_p56_10 : True := by
  k_with "my pelt" => ((with_reducible rename News _ _ _ _ => N3w); refine ⟨_, _, _, rfl, by k_asm, N3w, ?_, ?_, ?_⟩)
  exact trivial
theorem rg_p56_11 : True := by
  k_with "my fine" => (unfold LCg.FinE; intro D'w h'w tk'w F'w N'w o1'w; (try simp only [List.cons_append, List.nil_append, List.append_eq, LCg.Off1, and_true] at o1'w); (try simp only [List.cons_append, List.nil_append, List.append_eq] at N'w); (try dsimp only at F'w); (try dsimp only))
  exact trivial
theorem tup_of {prog : Program} {w : World} {A : Around} {E : Value → Shared → Prop} {s : Shared} {h₀ : Heap} {L l : Addr} {m : Str → Option Value} {X mt im : Led} {vs : List Value} {k : Nat} {Q : Value → Shared → Prop} (F : Fr h₀ L s.heap m) (N : News h₀ L s.heap X) (hX : Spl X mt im) (hS : Sep mt im) (hl : (l, W.listOf vs.toArray k) ∈ X) (hz : vs.length ≤ 16384)
    (h : NewIm h₀ L m mt im s (tupO vs 0) Q) : wpAny (model prog w) A (call (.type "tuple") [.ref l]) Q E s :=
  kde_tupleOf F N (News.isList N hl) (by simpa using hz) rfl fun D h' F' N' l =>
    h D _ h' F' (frz N' hX hS l).1 (fun p hp => .tail _ hp) (frz N' hX hS l).2 (.head _)
theorem rg_p56_12 : True := by
  k_with "call type:tuple" => (k_here; (with_reducible show wpAny _ _ (call (Value.type _) [Value.ref _]) _ _ _); k_dflt (refine tup_of (by k_asm) (by k_asm) (by walk_at "my spl") (by walk_at "my sep") (by first | exact List.Mem.head _ | k_mem) (by with_reducible assumption) ?_); walk_at "my new")
  exact trivial


theorem up_small {l r : Int} (hl : -9 ≤ l ∧ l ≤ 10) (hr : -300 ≤ r ∧ r ≤ 300) : Builtin.Range.small l (r + 1) 1 = true := small_one (by omega) (by omega) (by omega) (by omega)
theorem dn_small {l r : Int} (hl : -9 ≤ l ∧ l ≤ 10) (hr : -300 ≤ r ∧ r ≤ 300) : Builtin.Range.small l (r + -1) (-1) = true := small_down (by omega) (by omega) (by omega) (by omega)
theorem up_size {l r : Int} (h : l ≤ r) : Builtin.Range.rangeSize l (r + 1) 1 = ((cnt l r).toNat : Int) := by
  rw [rangeSize_one, if_pos (by omega)]; unfold cnt; omega
theorem dn_size {l r : Int} (h : ¬ l ≤ r) : Builtin.Range.rangeSize l (r + -1) (-1) = ((cnt l r).toNat : Int) := by
  rw [rangeSize_down, if_pos (by omega)]; unfold cnt; omega
theorem rowD_up {l r : Int} {n : Nat} (h : l ≤ r) : Dat.tuple [.str (Str.ofString "u[" ++ Str.ofString (toString (l + (n : Int) * 1)) ++ Str.ofString "]"), .int n, .int ((if l - r < 0 then -(l - r) else l - r) + 1)] = rowD l r n := by
  rw [Int.mul_comm]; exact rowD_pos (by omega)
theorem rowD_dn {l r : Int} {n : Nat} (h : ¬ l ≤ r) : Dat.tuple [.str (Str.ofString "u[" ++ Str.ofString (toString (l + (n : Int) * -1)) ++ Str.ofString "]"), .int n, .int ((if l - r < 0 then -(l - r) else l - r) + 1)] = rowD l r n := by
  rw [Int.mul_comm]; exact rowD_neg (by omega)
theorem rangeKs_succ (n : Nat) : rangeKs 0 (n + 1) = rangeKs 0 n ++ [(n : Int)] := by
  unfold rangeKs
  rw [List.range_succ, List.map_append]; simp
theorem due_snoc {im im' : Led} {vs : List Value} {t : Value} {l r : Int} {i : Nat} {d : Dat} (h : DatAll im vs ((rangeKs 0 i).map (rowD l r))) (hs : ∀ p ∈ im, p ∈ im') (hd : DatIn im' t d) (e : d = rowD l r i) : DatAll im' (vs ++ [t]) ((rangeKs 0 (i + 1)).map (rowD l r)) := by
  rw [rangeKs_succ, List.map_append]
  exact DatAll.append (h.mono hs) (.one (e ▸ hd))
theorem due_push {im im' : Led} {vs : List Value} {t : Value} {l r : Int} {i : Nat} {d : Dat} (h : DatAll im vs ((rangeKs 0 i).map (rowD l r))) (hs : ∀ p ∈ im, p ∈ im') (hd : DatIn im' t d) (e : d = rowD l r i) : DatAll im' (vs.toArray.push t).toList ((rangeKs 0 (i + 1)).map (rowD l r)) := by
  have e2 : (vs.toArray.push t).toList = vs ++ [t] := by simp
  rw [e2]
  exact due_snoc h hs hd e
theorem push_eq1 {D : Addr} {us : List Value} {v : Value} {k : Nat} {mt : Led} : (D, W.listOf (us.toArray.push v) k) :: mt = (D, W.listOf (us ++ [v]).toArray k) :: mt := by rw [List.push_toArray]
inductive DueJ (D : Addr) (mt im0 : Led) (l r : Int) (m0 : Str → Option Value) (i : Nat) (m1 : Str → Option Value) : Led → Led → Prop
  | mk (vs : List Value) (k : Nat) (im1 : Led) (hs : ∀ p ∈ im0, p ∈ im1) (hA : DatAll im1 vs ((rangeKs 0 i).map (rowD l r))) (kp : Kept m1 m0 [] [Str.ofString "index"]) :
    DueJ D mt im0 l r m0 i m1 ((D, W.listOf vs.toArray k) :: mt) im1
theorem DueJ.all {D : Addr}{mt im0 : Led}{l r : Int}{m0 : Str → Option Value}{i : Nat}{m1 : Str → Option Value} {P : Led → Led → Prop} (k : ∀ (vs : List Value) (k : Nat) (im1 : Led), (∀ p ∈ im0, p ∈ im1) → (DatAll im1 vs ((rangeKs 0 i).map (rowD l r))) → (Kept m1 m0 [] [Str.ofString "index"]) → P ((D, W.listOf vs.toArray k) :: mt) im1) : ∀ mt1 im1, DueJ D mt im0 l r m0 i m1 mt1 im1 → P mt1 im1 :=
  fun _ _ h => h.casesOn k
theorem DueJ.push {D : Addr} {mt im0 im im1 : Led} {l r : Int} {m0 m1 : Str → Option Value} {i k : Nat} {vs : List Value} {t : Value} {d : Dat} (h : DatAll im vs ((rangeKs 0 i).map (rowD l r))) (hs0 : ∀ p ∈ im0, p ∈ im1) (hs : ∀ p ∈ im, p ∈ im1) (hd : DatIn im1 t d) (e : d = rowD l r i) (kp : Kept m1 m0 [] [Str.ofString "index"]) :
    DueJ D mt im0 l r m0 (i + 1) m1 ((D, W.listOf (vs.toArray.push t) k) :: mt) im1 := by
  rw [List.push_toArray]
  exact .mk _ _ _ hs0 (due_snoc h hs hd e) kp
theorem due_pm {l c : Int} {P : Prop} {i n : Nat} (h : P ∧ c = 1 ∨ ¬ P ∧ c = -1) (hl : -9 ≤ l ∧ l ≤ 10) (hi : i < n) (hn : n ≤ 320) : -400 ≤ l + (i : Int) * c ∧ l + (i : Int) * c ≤ 400 := by
  rcases h with ⟨_, rfl⟩ | ⟨_, rfl⟩ <;> omega
theorem rowD_pm {l r c : Int} {i : Nat} (h : l ≤ r ∧ c = 1 ∨ ¬ l ≤ r ∧ c = -1) : Dat.tuple [.str (Str.ofString "u[" ++ Str.ofString (toString (l + (i : Int) * c)) ++ Str.ofString "]"), .int i, .int ((if l - r < 0 then -(l - r) else l - r) + 1)] = rowD l r i := by
  rcases h with ⟨q, rfl⟩ | ⟨q, rfl⟩
  · exact rowD_up q
  · exact rowD_dn q
theorem cnt320 {l r : Int} (hl : -9 ≤ l ∧ l ≤ 10) (hr : -300 ≤ r ∧ r ≤ 300) : (cnt l r).toNat ≤ 320 := by unfold cnt; omega
section
variable (w : World) {prog : Program} {p : Program} {loose : List Str} {mean : ExcName → Option Value} {mg mb : Str → Option Value} {dp un : Nat} {gd : Option (List Code)} {cn : Str} {ca : Addr} {ccd : Value} {A₀ : Around} {base h₀ : Heap} {L : Addr} {m : Str → Option Value} {s : Shared} {R : Value → Shared → Prop} {Qf : Flow → Shared → Prop}
  {c1 c2 c3 c4 c5 c6 c7 : Addr}
abbrev dueD (l r : Int) : Dat := .list ((rangeKs 0 (cnt l r).toNat).map (rowD l r))
theorem blkB1 {oL oR : Obj} {l r : Int} {tl tr : Tok} {mt im : Led}
    (B : Below A₀ base [] h₀) (F : Fr h₀ L s.heap m) (X : (K w.params).In h₀) (T : Top p loose mean mg mb h₀) (hd : dp + 60 < recursionLimit) (hu : un + 2000 < cLine)
    (N : News h₀ L s.heap (mt ++ im)) (S : Sep mt im) (mL : (c3, oL) ∈ im) (dL : oL.data = .cell (some (.int l tl))) (mR : (c5, oR) ∈ im) (dR : oR.data = .cell (some (.int r tr)))
    (hl : -9 ≤ l ∧ l ≤ 10) (hr : -300 ≤ r ∧ r ≤ 300)
    (ret : ∀ h' tk' m' im' v, Fr h₀ L h' m' → News h₀ L h' (mt ++ im') → (∀ p ∈ im, p ∈ im') → Sep mt im' → m' (Str.ofString "due") = some v → ((l - r).natAbs < 200 ∧ DatIn im' v (dueD l r) ∨ 200 ≤ (l - r).natAbs ∧ ∃ t, v = .int (cnt l r) t) → Qf .next { s with heap := h', toks := tk' }) :
    wpAny (model prog w) (ktrTop dp un gd cn dLaw.scope L ca ccd (lawCl c1 c2 c3 c4 c5 c6 c7) []) (execs ((dLaw.body.drop 4).take 1) (envX cn dLaw.scope L ca ccd (lawCl c1 c2 c3 c4 c5 c6 c7))) Qf (lawE (model prog w) (ktrTop dp un gd cn dLaw.scope L ca ccd (lawCl c1 c2 c3 c4 c5 c6 c7) []) (envX cn dLaw.scope L ca ccd (lawCl c1 c2 c3 c4 c5 c6 c7)) R) s := by
  unfold dLaw lawE
  dsimp only [List.drop, List.take]
  have mk1 : MkIf := ⟨⟩
  k_with "exec For Name Call cons nil" => walk_at "my for"
  k_steps
  rotate_left 1
  · refine ret _ _ _ _ _ (by k_asm) (by with_reducible assumption) id_sub S rfl (.inr ⟨by split at * <;> omega, _, congrArg (fun z => Value.int z _) (cnt_eq l r)⟩)
  · unfold StopHere
    refine if_join (fun v => ∃ c t, v = Value.int c t ∧ (l ≤ r ∧ c = 1 ∨ ¬ l ≤ r ∧ c = -1)) ?ja ?jb
    case ja =>
      k_steps
      · exact ⟨⟨_, _, rfl, .inl ⟨by with_reducible assumption, rfl⟩⟩, _, rfl⟩
      · exact ⟨⟨_, _, rfl, .inr ⟨by with_reducible assumption, rfl⟩⟩, _, rfl⟩
    case' jb => intro G9 hG9 v0 tk0 hv0
    obtain ⟨c0, t0, rfl, hc0⟩ := hv0
    refine hG9 ?_
    clear hG9
    k_steps
    (try unfold StopHere)
    (with_reducible rename IsRange _ _ _ _ _ _ _ _ => rg9)
    (with_reducible rename ∀ p ∈ _, _ < _ => lr4)
    (with_reducible rename News _ _ _ ((_, _) :: _) => N4)
    rename_i D _ _ _ _ _ _ _ _ _ _ _
    have hc9 : (cnt l r).toNat ≤ 320 := cnt320 hl hr
    have hDm : ∀ p ∈ mt, p.1 ≠ D := fun p hp => Nat.ne_of_lt (lr4 p (List.mem_append.mpr (.inl hp)))
    refine range_turns (mt := (D, W.listOf #[] 0) :: mt) (im := im) (DueJ D mt im l r) rfl rg9 (by rcases hc0 with ⟨q, rfl⟩ | ⟨q, rfl⟩; exact up_small hl hr; exact dn_small hl hr) (by rcases hc0 with ⟨q, rfl⟩ | ⟨q, rfl⟩; exact up_size q; exact dn_size q) (by k_asm) N4 (Sep.cons (fun p hp => Nat.ne_of_lt (lr4 p (List.mem_append.mpr (.inr hp)))) S) (.mk [] _ _ id_sub .nil (by walk_at "my kept")) ?_ ?_
    · intro G9 hG9 i9 v9 m9 mt9 im9 h9 tk9 I9 oI9 hi9 hq1_10 hq1_11
      revert v9 hq1_10
      refine int_all fun tv9 => ?_
      have hx8 := due_pm hc0 hl hi9 hc9
      have hx7 := rowD_pm (i := i9) hc0
      generalize l + (i9 : Int) * c0 = x9 at hx8 hx7 ⊢
      obtain ⟨hx1, hx2⟩ := hx8
      revert mt9 im9
      refine DueJ.all fun vs9 k9 im9 hs9 hA9 k9' => ?_
      have hz9 : vs9.length = i9 := by rw [hA9.length, List.length_map, rangeKs_length]
      subst hz9
      refine hG9 ?_
      clear hG9
      intro F9 N9 S9 hI9 hr9
      have F8 := k9'.fr F9
      clear F9
      have hI1 : @Ne Nat D I9 := hI9 _ (.head _)
      have hI2 : ∀ p ∈ mt, p.1 ≠ I9 := fun p hp => hI9 p (.tail _ hp)
      have N7 : News _ _ h9 ((I9, oI9) :: (D, W.listOf vs9.toArray k9) :: (mt ++ im9)) := N9
      have S7 : Sep ((I9, oI9) :: (D, W.listOf vs9.toArray k9) :: mt) im9 := S9
      have hI6 : ∀ p ∈ (D, W.listOf vs9.toArray k9) :: mt, p.1 ≠ I9 := hI9
      have mL9 := hs9 _ mL
      have mR9 := hs9 _ mR
      clear N9 S9 hI9 N4 hr9 rg9
      k_steps
      (show TEnd _ _ _ _ _ _ _ _; walk_at "my tend")
      refine' DueJ.push hA9 ?q1 ?q2 ?q3 hx7 ?q5
      case q1 => walk_at "my sub"
      case q2 => walk_at "my sub"
      case q3 => walk_at "my dat"
      case q5 => walk_at "my kept"
    · intro G9 hG9 m9 mt9 im9 h9 tk9 hq2_5
      revert mt9 im9
      refine DueJ.all fun vs9 k9 im9 hs9 hA9 k9' => ?_
      refine hG9 ?_
      clear hG9
      intro F9 N9 S9
      have F8 := k9'.fr F9
      have N7 : News _ _ h9 ((D, W.listOf vs9.toArray k9) :: (mt ++ im9)) := N9
      clear F9 N4 N9
      k_steps
      refine ret _ _ _ ((D, W.listOf vs9.toArray k9) :: im9) (.ref D) (by k_asm) (news_of N7 fun p hp => ?_) (fun p hp => .tail _ (hs9 p hp)) (Sep.snoc hDm S9.tail) rfl (.inl ⟨by (with_reducible rename _ < (200 : Int) => a9); split at a9 <;> omega, .list (.head _) (hA9.mono fun p hp => .tail _ hp)⟩)
      rcases List.mem_append.mp hp with hp | hp
      · exact .tail _ (List.mem_append.mpr (.inl hp))
      · rcases List.mem_cons.mp hp with rfl | hp
        · exact .head _
        · exact .tail _ (List.mem_append.mpr (.inr hp))
end


theorem kept_ok (w : World) {prog : Program} {p : Program} {loose : List Str} {mean : ExcName → Option Value} {mg mb : Str → Option Value} {dp un : Nat} {gd : Option (List Code)} {cn : Str} {cs : PySem.Scope} {ca : Addr} {ccd : Value} {cl : List (Str × Addr)} {outer : List Env} {A₀ : Around} {base h₀ : Heap} {L : Addr} {m : Str → Option Value} {s : Shared} {Q E : Value → Shared → Prop}
    {q : Addr} {d u : Nat} {news : Led} {Post : Value → Led → Prop} (C : CallOk w q d u [] news Post) {oq : Value} {odq : Option Addr} {fdq : FuncData} {slq : Array (Option Value)} (hqm : (q, (⟨oq, odq, .func fdq, slq⟩ : Obj)) ∈ news) (B : Below A₀ base outer h₀) (F : Fr h₀ L s.heap m) (X : (K w.params).In h₀) (N : News h₀ L s.heap news)
    (T : Top p loose mean mg mb h₀) (hk : cs.kind = .function) (hd : dp + d + 4 < recursionLimit) (hu : un + u + 100 < cLine)
    (ret : ∀ r h' tk' news', Fr h₀ L h' m → News h₀ L h' news' → Post r news' → Q r { s with heap := h', toks := tk' }) :
    wpAny (model prog w) (ktrTop dp un gd cn cs L ca ccd cl outer) (call (.ref 1367) [.ref q]) Q E s := by
  walk_at "my enter"
  k_steps
  refine callWith_F0 (FnAt.of (by k_asm) hqm) ?_
  dsimp only [List.nil_append]
  k_dflt (refine' C _ _ _ _ _ _ _ _ _ _ _ _ _ _ _ _ _ _ _ _ _ _ _ ?B ?F ?K ?N ?T ?hk ?hd ?hu ?_)
  case B => k_asm
  case F => k_asm
  case K => k_asm
  case N => k_asm
  case T => k_asm
  case hk => rfl
  case hd => walk_at "my room"
  case hu => walk_at "my units"
  intro r9 h9 tk9 nw9 F9 N9 P9
  k_steps
  exact ret _ _ _ _ (by k_asm) (by with_reducible assumption) P9
theorem kept_pd (w : World) {prog : Program} {p : Program} {loose : List Str} {mean : ExcName → Option Value} {mg mb : Str → Option Value} {dp un : Nat} {gd : Option (List Code)} {cn : Str} {cs : PySem.Scope} {ca : Addr} {ccd : Value} {cl : List (Str × Addr)} {outer : List Env} {A₀ : Around} {base h₀ : Heap} {L : Addr} {m : Str → Option Value} {s : Shared} {Q E : Value → Shared → Prop}
    {q : Addr} {d u : Nat} {news mt0 im0 : Led} {D : Dat} (C : CallOk w q d u [] news (PD mt0 im0 D)) {oq : Value} {odq : Option Addr} {fdq : FuncData} {slq : Array (Option Value)} (hqm : (q, (⟨oq, odq, .func fdq, slq⟩ : Obj)) ∈ news) (B : Below A₀ base outer h₀) (F : Fr h₀ L s.heap m) (X : (K w.params).In h₀) (N : News h₀ L s.heap news)
    (T : Top p loose mean mg mb h₀) (hk : cs.kind = .function) (hd : dp + d + 4 < recursionLimit) (hu : un + u + 100 < cLine)
    (ret : ∀ r h' tk' im', Fr h₀ L h' m → News h₀ L h' (mt0 ++ im') → (∀ p ∈ im0, p ∈ im') → Sep mt0 im' → DatIn im' r D → Q r { s with heap := h', toks := tk' }) :
    wpAny (model prog w) (ktrTop dp un gd cn cs L ca ccd cl outer) (call (.ref 1367) [.ref q]) Q E s :=
  kept_ok w C hqm B F X N T hk hd hu fun r h' tk' nw F N ⟨im', e, h1, h2, h3⟩ => by
    subst e
    exact ret r h' tk' im' F N h1 h2 h3
theorem reord {h₀ h : Heap} {L : Addr} {a b c : Addr × Obj} {mt im : Led} (N : News h₀ L h (a :: b :: c :: (mt ++ im))) : News h₀ L h (c :: (mt ++ (a :: b :: im))) := news_of N (by walk_at "my perm")
theorem sep_reord {h₀ h : Heap} {L : Addr} {a b c : Addr × Obj} {o : Obj} {mt im : Led} (_N : News h₀ L h (c :: (mt ++ (a :: b :: im)))) (S : Sep ((c.1, o) :: mt) im) (h1 : c.1 < b.1 ∧ AllLt b.1 (mt ++ im)) (h2 : b.1 < a.1) : Sep (c :: mt) (a :: b :: im) := by
  have q : ∀ p ∈ c :: mt, p.1 < b.1 := fun p hp => by
    rcases List.mem_cons.mp hp with rfl | hp
    · exact h1.1
    · exact allLt_mem h1.2 p (List.mem_append.mpr (.inl hp))
  exact Sep.snoc (fun p hp => Nat.ne_of_lt (Nat.lt_trans (q p hp) h2)) (Sep.snoc (fun p hp => Nat.ne_of_lt (q p hp)) (sep_addr S rfl))
theorem noTup_tab {ps : Array Value} {mt : Led} (h : NoTup mt) : NoTup ((1369, tabObj ps) :: mt) := fun q hq => by
  rcases List.mem_cons.mp hq with rfl | hq
  · exact fun _ _ e => nomatch e
  · exact h q hq
theorem grabtail {h₀ h : Heap} {L : Addr} {c : Addr × Obj} {mt X : Led} {P : Prop} (_N : News h₀ L h (c :: (mt ++ X))) (k : ∀ X5, X5 = X → P) : P := k X rfl
abbrev dueD2 (l r : Int) : Dat := .list ((rangeKs 0 (cnt l r).toNat).map (rowD l r))
theorem rg_p58_1 : True := by
  k_with "my enterL" => (refine wpAny_call ?_; k_dflt (refine kla_code (by k_asm) (by k_asm) (by k_asm) (by k_asm) (by k_asm) (by exact rfl) (by exact rfl) (by assumption) (by k_mem) (by exact codeRec_news (by k_asm) (by k_mem) (by assumption) (by assumption)) (by walk_at "my room") (by exact rfl) (by exact locs rfl) ?_ (by exact rfl) (by exact rfl) (by exact rfl) (by decide); k_whole); intro g'w L'w h'w FG'w F'w N'w B'w X'w T'w; (try dsimp only); (try k_fold))
  exact trivial
section
variable (w : World) {prog : Program} {p : Program} {loose : List Str} {mean : ExcName → Option Value} {mg mb : Str → Option Value} {dp un : Nat} {gd : Option (List Code)} {cn : Str} {ca : Addr} {A₀ : Around} {base h₀ : Heap} {L : Addr} {m : Str → Option Value} {s : Shared} {E : Value → Shared → Prop} {Qf : Flow → Shared → Prop}
  {c1 c2 c3 c4 c5 c6 c7 : Addr}
theorem blkT1 {oL oR oS : Obj} {l r : Int} {tl tr : Tok} {sc : Value} {mt im : Led}
    (B : Below A₀ base [] h₀) (F : Fr h₀ L s.heap m) (X : (K w.params).In h₀) (T : Top p loose mean mg mb h₀) (XB : (K w.params).In base) (TB : Top p loose mean mg mb base) (C : CodeHd h₀ 1371 1369) (hd : dp + 100 < recursionLimit) (hu : un + 3000 < cLine)
    (N : News h₀ L s.heap ((1369, tabObj #[]) :: (mt ++ im))) (S : Sep ((1369, tabObj #[]) :: mt) im) (nT : NoTup mt) (q9 : ∀ p ∈ mt, p.1 ≠ 1369) (mL : (c3, oL) ∈ im) (dL : oL.data = .cell (some (.int l tl))) (mR : (c5, oR) ∈ im) (dR : oR.data = .cell (some (.int r tr))) (mS : (c6, oS) ∈ im) (dS : oS.data = .cell (some sc))
    (hl : -9 ≤ l ∧ l ≤ 10) (hr : -300 ≤ r ∧ r ≤ 300)
    (ret : ∀ h' tk' im' v (c' : Addr), Fr h₀ L h' (fun y => if y = Str.ofString "told" then some v else m y) → News h₀ L h' ((1369, tabObj (#[] ++ #[rawInt ((1421 : Nat) : Int), rawInt ((21 : Nat) : Int), Value.ref c'])) :: (mt ++ im')) → (∀ p ∈ im, p ∈ im') → Sep ((1369, tabObj #[]) :: mt) im' →
      ((l - r).natAbs < 256 ∧ DatIn im' v (dueD2 l r) ∨ 256 ≤ (l - r).natAbs ∧ ∃ t, v = .str (Str.ofString "generate_limit") t) → Qf .next { s with heap := h', toks := tk' }) :
    wpAny (model prog w) (ktrTop dp un gd cn dLaw.scope L ca (.ref 1371) (lawCl c1 c2 c3 c4 c5 c6 c7) []) (execs ((dLaw.body.drop 5).take 1) (envX cn dLaw.scope L ca (.ref 1371) (lawCl c1 c2 c3 c4 c5 c6 c7))) Qf E s := by
  unfold dLaw
  dsimp only [List.drop, List.take]
  k_with "call ref" => ((with_reducible show wpAny _ _ (call (Value.ref 1367) _) _ _ _); refine stop_here ?_)
  k_steps
  unfold StopHere
  (with_reducible rename News _ _ _ _ => N4)
  (with_reducible rename _ ∧ AllLt _ _ => l4)
  (with_reducible rename _ < _ => l5)
  rename_i fA cA _ _ _ _ _ _ _ _ _
  have N5 := reord N4
  have S5 := sep_reord N5 S l4 l5
  have nT5 := noTup_tab (ps := #[] ++ #[rawInt ((1421 : Nat) : Int), rawInt ((21 : Nat) : Int), Value.ref cA]) nT
  clear N4 S
  by_cases hc : 256 ≤ (l - r).natAbs
  · refine kept_raise w (d := 60) (u := 1500) (kind := Str.ofString "generate_limit") ?C (List.Mem.tail _ (List.mem_append.mpr (.inr (.head _)))) (by k_asm) (by k_asm) (by k_asm) XB TB N5 (by k_asm) rfl (by walk_at "my room") (by walk_at "my units") ?_
    case C =>
      unfold CallRaise; intro prog p loose mean mg mb dp un gd cn cs ca ccd cl outer A₀ base h₀ L m s Q E B F X N T hk hd hu hret
      walk_at "my enterL"
      k_steps
      (with_reducible rename Sep _ _ => S6)
      k_dflt (refine' rows_raise _ _ l r _ (by omega) (by omega) (by omega) (by omega) hc ((1369, tabObj (#[] ++ #[rawInt ((1421 : Nat) : Int), rawInt ((21 : Nat) : Int), Value.ref cA])) :: mt) im'w _ S6 ?rD _ _ _ _ _ _ _ _ _ _ _ _ _ _ _ _ _ _ _ _ _ _ _ ?B ?F ?K ?N ?T ?hk ?hd ?hu ?_)
      case N => k_asm
      case rD => walk_at "my all"
      case B => k_asm
      case F => k_asm
      case K => k_asm
      case T => k_asm
      case hk => rfl
      case hd => walk_at "my room"
      case hu => walk_at "my units"
      intro g9 e9 dx9 od9 mK9 k9 h9 tk9 F9 R9 D9 q9 U9
      (show wpAny _ _ (leaving _ _) _ _ _)
      (with_reducible rename ∀ p ∈ _, p ∈ im'w => hs6)
      refine' leave_onD rfl ?lB F9 R9 U9 ?lQ
      case lB => k_asm
      case lQ =>
        intro h6 R6 U6
        have R6 : RaisedD _ _ _ _ _ _ ((1369, tabObj (#[] ++ #[rawInt ((1421 : Nat) : Int), rawInt ((21 : Nat) : Int), Value.ref cA])) :: (mt ++ im'w)) _ := R6
        exact hret _ _ _ _ _ _ _ _ (by k_asm) (R6.sub (by walk_at "my perm")) D9 q9 U6
    · intro h8 tk8 k8 F8 N8
      k_steps
      exact ret _ _ _ _ cA (by k_asm) (by with_reducible assumption) (by walk_at "my sub") (sep_addr S5 rfl) (.inr ⟨hc, _, rfl⟩)
  · refine kept_pd w (d := 60) (u := 1500) (mt0 := (1369, tabObj (#[] ++ #[rawInt ((1421 : Nat) : Int), rawInt ((21 : Nat) : Int), Value.ref cA])) :: mt) (im0 := im) (D := dueD2 l r) ?C (List.Mem.tail _ (List.mem_append.mpr (.inr (.head _)))) (by k_asm) (by k_asm) (by k_asm) N5 (by k_asm) rfl (by walk_at "my room") (by walk_at "my units") ?_
    case C =>
      unfold CallOk; intro prog p loose mean mg mb dp un gd cn cs ca ccd cl outer A₀ base h₀ L m s Q E B F X N T hk hd hu hret
      walk_at "my enterL"
      k_steps
      (with_reducible rename Sep _ _ => S6)
      (with_reducible rename ∀ p ∈ _, p ∈ im'w => hs6)
      k_dflt (refine' pureT_use (rows_ok _ _ l r _ (by omega) (by omega) (by omega) (by omega) (by omega)) ?B ?F ?K ?N ?T ?hk (Spl.cons (Spl.base mt im'w)) S6 nT5 ?hv ?hD ?hd ?hu ?_)
      case hv => exact rfl
      case B => k_asm
      case F => k_asm
      case K => k_asm
      case N => k_asm
      case T => k_asm
      case hk => rfl
      case hD => walk_at "my all"
      case hd => walk_at "my room"
      case hu => walk_at "my units"
      intro r7 h7 tk7 im7 F7 N7 hs7 S7 D7
      k_steps
      refine hret _ _ _ _ (by k_asm) (by assumption) ⟨im7, rfl, (by walk_at "my sub"), S7, D7⟩
    · intro r8 h8 tk8 im8 F8 N8 hs8 S8 hD8
      k_steps
      exact ret _ _ _ _ cA (by k_asm) (by assumption) (by walk_at "my sub") (sep_addr S8 rfl) (.inl ⟨by omega, hD8⟩)
end


theorem env_law (L a : Addr) (cd : Value) : envOfC dLaw.name dLaw.scope L a cd = envX (Str.ofString "law") dLaw.scope L a cd (lawCl (L + 1) (L + 1 + 1) (L + 1 + 1 + 1) (L + 1 + 1 + 1 + 1) (L + 1 + 1 + 1 + 1 + 1) (L + 1 + 1 + 1 + 1 + 1 + 1) (L + 1 + 1 + 1 + 1 + 1 + 1 + 1)) := by
  kernel_rfl
section
open PyProof.V
variable {prog : Program} {w : World} {A : Around} {E : Value → Shared → Prop} {s : Shared} {h₀ : Heap} {L : Addr} {X im : Led} {a b : Value} {d d' : Dat} {Q : Value → Shared → Prop}
theorem eq_dat {r : Bool} (N : News h₀ L s.heap X) (hs : ∀ p ∈ im, p ∈ X) (ha : DatIn im a d) (hb : DatIn im b d') (hd : dOk 8 d = true) (hd' : dOk 8 d' = true) (hu : A.units + 64 < cLine) (he : PyData.eqv (dpP d) (dpP d') = r) (h : Q (.bool r) s) : wpAny (model prog w) A (compareOp .Eq a b) Q E s := by
  subst he
  obtain ⟨as, ra⟩ := dp_in N 8 (ha.mono hs) hd
  obtain ⟨bs, rb⟩ := dp_in N 8 (hb.mono hs) hd'
  exact eq_dataH ra rb (dp_shaped hd) (dp_shaped hd') hu h
end
abbrev scDict (w : World) (xd de : Addr) (k1 k2 k3 k4 k5 k6 k7 k8 k9 v2 v4 v5 v6 v9 : Tok) : Obj :=
  dictOf [{ hash := PyData.keyHash w.params (Str.ofString "design"), key := Value.str (Str.ofString "design") k1, val := .ref xd }, { hash := PyData.keyHash w.params (Str.ofString "name"), key := Value.str (Str.ofString "name") k2, val := .str (Str.ofString "top") v2 }, { hash := PyData.keyHash w.params (Str.ofString "parent"), key := Value.str (Str.ofString "parent") k3, val := .none }, { hash := PyData.keyHash w.params (Str.ofString "kind"), key := Value.str (Str.ofString "kind") k4, val := .str (Str.ofString "module") v4 }, { hash := PyData.keyHash w.params (Str.ofString "path"), key := Value.str (Str.ofString "path") k5, val := .str (Str.ofString "top") v5 }, { hash := PyData.keyHash w.params (Str.ofString "nettype"), key := Value.str (Str.ofString "nettype") k6, val := .str (Str.ofString "wire") v6 }, { hash := PyData.keyHash w.params (Str.ofString "module_name"), key := Value.str (Str.ofString "module_name") k7, val := .none }, { hash := PyData.keyHash w.params (Str.ofString "entries"), key := Value.str (Str.ofString "entries") k8, val := .ref de }, { hash := PyData.keyHash w.params (Str.ofString "number"), key := Value.str (Str.ofString "number") k9, val := .int (1 - 1) v9 }] 9


section
open PySem.Builtin
variable {prog : Program} {w : World} {A : Around} {E : Value → Shared → Prop} {s : Shared} {h₀ : Heap} {L : Addr} {m : Str → Option Value} {news : Led}
theorem adjust_to (a n : Nat) (ha : a ≤ n) : Builtin.Slice.sliceAdjust none (some (a : Int)) 1 (n : Int) = (0, (a : Int)) := by
  unfold Builtin.Slice.sliceAdjust
  have h1 : ¬ ((1 : Int) < 0) := by omega
  have h2 : ¬ ((a : Int) < 0) := by omega
  simp only [h1, h2, if_false]
  congr 1
  omega
theorem places_to (a : Nat) : Builtin.Slice.slicePlaces 0 (a : Int) 1 = a := by
  unfold Builtin.Slice.slicePlaces
  have h1 : (1 : Int) > 0 := by omega
  simp only [h1, if_true, Int.ediv_one]
  split <;> omega
theorem sliceApplied_to {sl : Addr} {a n : Nat} {u : Tok} {Q : Int × Int × Nat → Shared → Prop} (hs : s.heap.IsSliceOf sl .none (.int a u) .none) (ha : a ≤ n) (h : Q (0, 1, a) s) :
    wpAny (model prog w) A (Builtin.Slice.sliceApplied (.ref sl) (pure (n : Int))) Q E s := by
  obtain ⟨os, hos, hcs, hds⟩ := id hs
  unfold Builtin.Slice.sliceApplied Builtin.Slice.sliceFields
  refine wpAny_bind (wpAny_bind (wpAny_field hos hds (x := .none) rfl (wpAny_bind (wpAny_field hos hds (x := .int a u) rfl (wpAny_bind (wpAny_field hos hds (x := .none) rfl (wpAny_pure ?_)))))))
  refine wpAny_bind (slicePart_none ?_)
  show wpAny _ _ (if ((1 : Int) == 0) = true then _ else _) _ _ s
  rw [if_neg (by decide)]
  refine wpAny_bind (slicePart_none (wpAny_bind (slicePart_int (wpAny_bind (wpAny_pure ?_)))))
  show wpAny _ _ (match Builtin.Slice.sliceAdjust none (some (a : Int)) 1 (n : Int) with | (lo, hi) => pure (lo, (1 : Int), Builtin.Slice.slicePlaces lo hi 1)) _ _ s
  rw [adjust_to a n ha]
  show wpAny _ _ (pure ((0 : Int), (1 : Int), Builtin.Slice.slicePlaces 0 (a : Int) 1)) _ _ s
  rw [places_to a]
  exact wpAny_pure h
theorem pick_to (xs : Array Value) (a : Nat) : ((List.range a).filterMap fun (k : Nat) => xs[((0 : Int) + (k : Int) * 1).toNat]?).toArray = (xs.toList.take a).toArray := by
  have e : (fun (k : Nat) => xs[((0 : Int) + (k : Int) * 1).toNat]?) = fun k => xs[0 + k]? := by
    funext k
    have : ((0 : Int) + (k : Int) * 1).toNat = 0 + k := by omega
    rw [this]
  rw [e]
  have := pick_run xs 0 a
  rw [List.filterMap_map] at this
  have e2 : ((fun x => xs[x]?) ∘ fun x => 0 + x) = fun k => xs[0 + k]? := rfl
  rw [e2] at this
  rw [this, List.drop_zero]
theorem getItem_tuple_to {t sl : Addr} {items : Array Value} {a : Nat} {u : Tok} {Q : Value → Shared → Prop} (ht : IsTup s.heap t items) (hs : s.heap.IsSliceOf sl .none (.int a u) .none) (ha : a < items.size)
    (h : Q (.ref s.heap.objs.size) { s with heap := s.heap.push { cls := .type "tuple", data := .seq (items.toList.take a).toArray } })
    (hsz : items.size ≤ sizeLine) : wpAny (model prog w) A (getItem (.ref t) (.ref sl)) Q E s := by
  have hdrop : sizeOk (.seq (items.toList.take a).toArray) := by
    show (items.toList.take a).toArray.size ≤ sizeLine
    rw [List.size_toArray, List.length_take, Array.length_toList]
    omega
  obtain ⟨os, hos, hcs, hds⟩ := id hs
  have hTs : s.TypeIs (.ref sl) "slice" := ⟨os, hos, hcs⟩
  unfold getItem
  try with_reducible refine wpAny_holding ?_
  first | refine wpAny_bind (wpAny_pure ?_) | skip
  refine wpAny_bind (wpAny_sequenceKey ht.typeIs (by decide) ?_)
  refine wpAny_bind (wpAny_callSpecial?_slot (name := Str.ofString "__getitem__") ht.typeIs slot_tuple_getitem
    (wpAny_call_entry slot_tuple_getitem ht.typeIs entry_tuple_getitem ?_ (args_tuple_getitem _ _)))
  show wpAny _ _ (Builtin.Tuple.tupleItemsOf (.ref t) >>= _) _ _ s
  refine wpAny_bind (tupleItemsOf_ ht ?_)
  refine wpAny_bind (wpAny_typeOf hTs ?_)
  rw [if_pos (by decide)]
  refine wpAny_bind (sliceApplied_to hs (Nat.le_of_lt ha) ?_)
  have hno : ¬ (((0 : Int) == 0 && (1 : Int) == 1 && a == items.size) = true) := by
    have : (a == items.size) = false := by rw [beq_eq_false_iff_ne]; omega
    rw [this]; simp
  show wpAny _ _ (if ((0 : Int) == 0 && (1 : Int) == 1 && a == items.size) = true then _ else _) _ _ s
  rw [if_neg hno, pick_to items a]
  first
    | exact wpAny_bind (m := Builtin.Tuple.tupleExact _) (wpAny_newObj_type (wpAny_pure ⟨_, rfl, wpAny_pure h⟩) hdrop)
    | exact wpAny_bind (m := Builtin.Tuple.tupleExact _) (wpAny_newObj_type (wpAny_bind (wpAny_pure (wpAny_pure ⟨_, rfl, wpAny_pure h⟩))) hdrop)
    | exact wpAny_bind (wpAny_bind (m := Builtin.Tuple.tupleExact _) (wpAny_newObj_type (wpAny_pure (wpAny_pure ⟨_, rfl, wpAny_pure h⟩)) hdrop))
    | exact wpAny_bind (wpAny_bind (m := Builtin.Tuple.tupleExact _) (wpAny_newObj_type (wpAny_pure ⟨_, rfl, wpAny_pure h⟩) hdrop))
theorem getItem_tuple_all {t sl : Addr} {items : Array Value} {a : Nat} {u : Tok} {Q : Value → Shared → Prop} (ht : IsTup s.heap t items) (hs : s.heap.IsSliceOf sl .none (.int a u) .none) (ha : a = items.size)
    (h : Q (.ref t) s) : wpAny (model prog w) A (getItem (.ref t) (.ref sl)) Q E s := by
  obtain ⟨os, hos, hcs, hds⟩ := id hs
  have hTs : s.TypeIs (.ref sl) "slice" := ⟨os, hos, hcs⟩
  unfold getItem
  try with_reducible refine wpAny_holding ?_
  first | refine wpAny_bind (wpAny_pure ?_) | skip
  refine wpAny_bind (wpAny_sequenceKey ht.typeIs (by decide) ?_)
  refine wpAny_bind (wpAny_callSpecial?_slot (name := Str.ofString "__getitem__") ht.typeIs slot_tuple_getitem
    (wpAny_call_entry slot_tuple_getitem ht.typeIs entry_tuple_getitem ?_ (args_tuple_getitem _ _)))
  show wpAny _ _ (Builtin.Tuple.tupleItemsOf (.ref t) >>= _) _ _ s
  refine wpAny_bind (tupleItemsOf_ ht ?_)
  refine wpAny_bind (wpAny_typeOf hTs ?_)
  rw [if_pos (by decide)]
  refine wpAny_bind (sliceApplied_to hs (Nat.le_of_eq ha) ?_)
  have hyes : (((0 : Int) == 0 && (1 : Int) == 1 && a == items.size) = true) := by rw [ha]; simp
  show wpAny _ _ (if ((0 : Int) == 0 && (1 : Int) == 1 && a == items.size) = true then _ else _) _ _ s
  rw [if_pos hyes]
  unfold Builtin.Tuple.tupleIsExact
  refine wpAny_bind (wpAny_bind (wpAny_typeOf ht.typeIs (wpAny_pure ?_)))
  rw [if_pos (by decide)]
  first
    | exact wpAny_bind (wpAny_rule (wpAny_bind (wpAny_pure (wpAny_pure ⟨_, rfl, wpAny_pure h⟩))))
    | exact wpAny_bind (wpAny_rule (wpAny_pure ⟨_, rfl, wpAny_pure h⟩))
    | exact wpAny_bind (wpAny_rule (wpAny_bind (wpAny_pure ⟨_, rfl, wpAny_pure h⟩)))
theorem tup_to {value slice : PySem.Expr} {t : Addr} {X mt im : Led} {vs : List Value} {k a : Nat} {u : Tok} {Q : Value → Shared → Prop} (F : Fr h₀ L s.heap m) (N : News h₀ L s.heap X) (hX : Spl X mt im) (hS : Sep mt im) (ht : (t, tupO vs k) ∈ im) (ha : a ≤ vs.length)
    (h : ∀ r im' h', Fr h₀ L h' m → News h₀ L h' (mt ++ im') → (∀ p ∈ im, p ∈ im') → Sep mt im' → (∃ t' k', r = .ref t' ∧ (t', tupO (vs.take a) k') ∈ im') → Q r { s with heap := h' })
    (hs : subscripted slice false (.ref t) (.ref s.heap.objs.size) = operate [.ref s.heap.objs.size, .ref t] (getItem (.ref t) (.ref s.heap.objs.size)))
    (hg : ∀ r, letTemporaryGo value (.ref t) r = pure ()) (hsz : vs.length ≤ 16384) :
    wpAny (model prog w) A (subscriptTail value slice (.ref t) (.ref s.heap.objs.size)) Q E { s with heap := s.heap.push { cls := .type "slice", data := .fields #[.none, .int (a : Int) u, .none] } } := by
  have e := hX.eq
  subst e
  have htup : IsTup s.heap t vs.toArray := News.isTup N (List.mem_append.mpr (.inr ht))
  have ht' : IsTup (s.heap.push { cls := .type "slice", data := .fields #[.none, .int (a : Int) u, .none] }) t vs.toArray := htup.keeps fun _ _ e => Heap.get?_push_of_some _ e
  have N0 : News h₀ L (s.heap.push { cls := .type "slice", data := .fields #[.none, .int (a : Int) u, .none] }) (mt ++ im) := N.grown fun _ _ e => Heap.get?_push_of_some _ e
  have F0 := F.push ({ cls := .type "slice", data := .fields #[.none, .int (a : Int) u, .none] } : Obj)
  by_cases q : a < vs.length
  · refine subscriptTail_ops (s := { s with heap := s.heap.push { cls := .type "slice", data := .fields #[.none, .int (a : Int) u, .none] } }) ht'.typeIs slot_tuple_getitem.lookup
      (getItem_tuple_to ht' (Heap.IsSliceOf.new ..) (by simpa using q) ?_ (by rw [sizeLine_eq, List.size_toArray]; omega)) hs hg
    have N1 := News.push F0 N0 ({ cls := .type "tuple", data := .seq (vs.toArray.toList.take a).toArray } : Obj)
    have l : ∀ p ∈ mt ++ im, p.1 < (s.heap.push { cls := .type "slice", data := .fields #[.none, .int (a : Int) u, .none] }).objs.size := fun p hp => Heap.lt_size (N0 p hp).1
    have z := frz (mt := mt) (im := im) N1 (Spl.base mt im) hS l
    exact h _ _ _ (F0.push _) z.1 (fun p hp => .tail _ hp) z.2 ⟨_, 0, rfl, .head _⟩
  · refine subscriptTail_ops (s := { s with heap := s.heap.push { cls := .type "slice", data := .fields #[.none, .int (a : Int) u, .none] } }) ht'.typeIs slot_tuple_getitem.lookup
      (getItem_tuple_all ht' (Heap.IsSliceOf.new ..) (by simp; omega) ?_) hs hg
    exact h _ _ _ F0 N0 id_sub hS ⟨t, k, rfl, by rw [List.take_of_length_le (by omega)]; exact ht⟩
end


abbrev numD1 (x : Num) : Dat := numberD x.1 x.2
def nmOf (i : Nat) : Str := Str.ofString "l" ++ Str.ofString (toString (i : Int))
structure RowsOk (rows : List Row) (xu : Int) : Prop where
  len : rows.length ≤ 3
  lab : ∀ r ∈ rows, ∀ l, r.1 = some l → l.length ≤ 2 ∧ ∀ x ∈ l, NumOk x.1
  nm : ∀ i (h : i < rows.length), rows[i].2 = nmOf i
  no : ∀ i (h : i < rows.length), rows[i].1 = none → (i : Int) = xu
theorem lt3 {n : Nat} {x : Int} (h : n < (x.fmod 4).toNat) : n < 3 := by have := fm4 x; omega
theorem fm2 (x : Int) : 0 ≤ x.fmod 2 ∧ x.fmod 2 < 2 := by rw [Int.fmod_eq_emod_of_nonneg _ (by decide)]; omega
theorem lab_rng (x : Int) : 0 ≤ 1 + x.fmod 2 ∧ 1 + x.fmod 2 ≤ 2 := by rw [Int.fmod_eq_emod_of_nonneg _ (by decide)]; omega
theorem lab_len {n : Nat} {x : Int} (h : n = (1 + x.fmod 2).toNat) : n ≠ 0 ∧ n ≤ 2 := by
  have q := fm2 x
  exact ⟨by omega, by omega⟩
theorem short_ok {a b : Array Value} (h : a.size + b.size ≤ 1000) : ¬(!a.isEmpty && Builtin.List.listTooLong (a.size + b.size)) = true := by
  intro q
  rw [Bool.and_eq_true] at q
  have := q.2
  simp [Builtin.List.listTooLong] at this
  rw [sizeLine_eq] at this
  omega
structure TabJ (subj : Num) (xu : Int) (im : Led) (rv nv : Array Value) (rows : List Row) : Prop where
  rw : AllM rowItemD im rv rows
  nm : AllM numD1 im nv (subj :: (pairsOf rows).map (·.1))
  ok : RowsOk rows xu
theorem getElem_snoc {α : Type} {l : List α} {x : α} {i : Nat} (h : i < (l ++ [x]).length) : (∃ h' : i < l.length, (l ++ [x])[i] = l[i]) ∨ i = l.length ∧ (l ++ [x])[i] = x := by
  rw [List.length_append, List.length_singleton] at h
  by_cases q : i < l.length
  · exact .inl ⟨q, List.getElem_append_left q⟩
  · have e : i = l.length := by omega
    subst e
    exact .inr ⟨rfl, by simp⟩
theorem RowsOk.snoc {rows : List Row} {xu : Int} {lab : Option (List Num)} (h : RowsOk rows xu) (hl : rows.length < 3) (h1 : ∀ l, lab = some l → l.length ≤ 2 ∧ ∀ x ∈ l, NumOk x.1) (h2 : lab = none → (rows.length : Int) = xu) : RowsOk (rows ++ [(lab, nmOf rows.length)]) xu where
  len := by rw [List.length_append, List.length_singleton]; omega
  lab := fun r hr l e => by
    rcases List.mem_append.mp hr with hr | hr
    · exact h.lab r hr l e
    · rw [List.mem_singleton.mp hr] at e; exact h1 l e
  nm := fun i hi => by
    rcases getElem_snoc hi with ⟨q, e⟩ | ⟨q, e⟩
    · rw [e]; exact h.nm i q
    · rw [e, q]
  no := fun i hi e0 => by
    rcases getElem_snoc hi with ⟨q, e⟩ | ⟨q, e⟩
    · rw [e] at e0; exact h.no i q e0
    · rw [e] at e0; rw [q]; exact h2 e0
theorem TabJ.none {subj : Num} {xu : Int} {im im' : Led} {rv : List Value} {nv : Array Value} {rows : List Row} {v : Value} (h : TabJ subj xu im rv.toArray nv rows) (hs : ∀ p ∈ im, p ∈ im') (hv : DatIn im' v (rowItemD (Option.none, nmOf rows.length))) (hl : rows.length < 3) (e : (rows.length : Int) = xu) :
    TabJ subj xu im' (rv.toArray.push v) nv (rows ++ [(Option.none, nmOf rows.length)]) where
  rw := AllM.push (h.rw.mono hs) hv
  nm := (h.nm.mono hs).eq (by rw [pairsOf_snoc]; simp)
  ok := h.ok.snoc hl (fun _ e => nomatch e) fun _ => e
theorem TabJ.some {subj : Num} {xu : Int} {im im' : Led} {rv nv ys : List Value} {rows : List Row} {l : List Num} {v : Value} (h : TabJ subj xu im rv.toArray nv.toArray rows) (hs : ∀ p ∈ im, p ∈ im') (hy : DatAll im' ys (l.map numD1)) (hv : DatIn im' v (rowItemD (Option.some l, nmOf rows.length))) (hl : rows.length < 3) (h1 : l.length ≤ 2 ∧ ∀ x ∈ l, NumOk x.1) :
    TabJ subj xu im' (rv.toArray.push v) (nv ++ ys).toArray (rows ++ [(Option.some l, nmOf rows.length)]) where
  rw := AllM.push (h.rw.mono hs) hv
  nm := by
    have a := (h.nm.mono hs).all
    refine ⟨?_⟩
    rw [pairsOf_snoc]
    simp only [List.map_append, List.map_cons, List.map_map, Option.getD_some, List.toList_toArray]
    simp only [List.map_cons, List.map_map, List.toList_toArray] at a
    exact DatAll.append a hy
  ok := h.ok.snoc hl (fun l' e => by cases e; exact h1) fun e => nomatch e
theorem TabJ.mono {subj : Num} {xu : Int} {im im' : Led} {rv nv : Array Value} {rows : List Row} (h : TabJ subj xu im rv nv rows) (hs : ∀ p ∈ im, p ∈ im') : TabJ subj xu im' rv nv rows := ⟨h.rw.mono hs, h.nm.mono hs, h.ok⟩
inductive TabS (subj : Num) (xu : Int) (rw rl nl : Addr) (mt im0 : Led) (m0 : Str → Option Value) (i : Nat) (m1 : Str → Option Value) : Led → Led → Prop
  | mk (us : List Value) (k : Nat) (rv : Array Value) (kr : Nat) (nv : Array Value) (kn : Nat) (rows : List Row) (im1 : Led) (hR : RowIs us) (hs : ∀ p ∈ im0, p ∈ im1) (hJ : TabJ subj xu im1 rv nv rows) (hl : rows.length = i) (kp : Kept m1 m0 [(Str.ofString "numbers", .ref nl)] [Str.ofString "turn", Str.ofString "block", Str.ofString "labels", Str.ofString "numbers"]) :
    TabS subj xu rw rl nl mt im0 m0 i m1 ((rw, W.listOf us.toArray k) :: (rl, W.listOf rv kr) :: (nl, W.listOf nv kn) :: mt) im1
theorem TabS.all {subj : Num}{xu : Int}{rw rl nl : Addr}{mt im0 : Led}{m0 : Str → Option Value}{i : Nat}{m1 : Str → Option Value} {P : Led → Led → Prop} (k : ∀ (us : List Value) (k : Nat) (rv : Array Value) (kr : Nat) (nv : Array Value) (kn : Nat) (rows : List Row) (im1 : Led), (RowIs us) → (∀ p ∈ im0, p ∈ im1) → (TabJ subj xu im1 rv nv rows) → (rows.length = i) → (Kept m1 m0 [(Str.ofString "numbers", .ref nl)] [Str.ofString "turn", Str.ofString "block", Str.ofString "labels", Str.ofString "numbers"]) → P ((rw, W.listOf us.toArray k) :: (rl, W.listOf rv kr) :: (nl, W.listOf nv kn) :: mt) im1) : ∀ mt1 im1, TabS subj xu rw rl nl mt im0 m0 i m1 mt1 im1 → P mt1 im1 :=
  fun _ _ h => h.casesOn k
inductive LabJ (rw : Addr) (e2 e3 e4 : Addr × Obj) (mt im0 : Led) (i : Nat) (ys : List Value) : Led → Prop
  | mk (us : List Value) (k : Nat) (im1 : Led) (l : List Num) (hR : RowIs us) (hs : ∀ p ∈ im0, p ∈ im1) (hS : Sep ((rw, W.listOf us.toArray k) :: e2 :: e3 :: e4 :: mt) im1) (hA : DatAll im1 ys (l.map numD1)) (hO : ∀ x ∈ l, NumOk x.1) :
    LabJ rw e2 e3 e4 mt im0 i ys ((rw, W.listOf us.toArray k) :: e2 :: e3 :: e4 :: (mt ++ im1))
theorem LabJ.all {rw : Addr} {e2 e3 e4 : Addr × Obj} {mt im0 : Led} {i : Nat} {ys : List Value} {P : Led → Prop} (k : ∀ (us : List Value) (k : Nat) (im1 : Led) (l : List Num), RowIs us → (∀ p ∈ im0, p ∈ im1) → Sep ((rw, W.listOf us.toArray k) :: e2 :: e3 :: e4 :: mt) im1 → DatAll im1 ys (l.map numD1) → (∀ x ∈ l, NumOk x.1) → P ((rw, W.listOf us.toArray k) :: e2 :: e3 :: e4 :: (mt ++ im1))) : ∀ news, LabJ rw e2 e3 e4 mt im0 i ys news → P news :=
  fun _ h => h.casesOn k
theorem nm_eq {n : Nat} : Str.ofString "l" ++ Str.ofString (toString (0 + (n : Int) * 1)) = nmOf n := by unfold nmOf; rw [Int.zero_add, Int.mul_one]
theorem rg_p61_1 : True := by
  k_with "exec Assign cons ListComp" => (k_here; k_dflt (refine LCg.Assign_ListComp_U (F₀ := by k_asm) (by rfl) (by with_unfolding_all rfl) (by with_unfolding_all rfl) (by decide) (by rfl) (by decide) (by rfl) (by rfl) (by rfl) ?_))
  exact trivial
theorem rg_p61_2 : True := by
  k_with "CompSrc" => (k_here; refine stop_here ?_)
  exact trivial
theorem rg_p61_3 : True := by
  k_with "inplaceOp Add ref ref" => (k_here; refine stop_here ?_)
  exact trivial
theorem rg_p61_4 : True := by
  k_with "CompEnd" => (refine stop_here ?_)
  exact trivial
section
variable (w : World) {prog : Program} {p : Program} {loose : List Str} {mean : ExcName → Option Value} {mg mb : Str → Option Value} {dp un : Nat} {gd : Option (List Code)} {cn : Str} {ca : Addr} {ccd : Value} {A₀ : Around} {base h₀ : Heap} {L : Addr} {m : Str → Option Value} {s : Shared} {R : Value → Shared → Prop} {Qf : Flow → Shared → Prop}
  {c1 c2 c3 c4 c5 c6 c7 : Addr}
theorem blkD2 {rw rl nl : Addr} {us : List Value} {n : Nat} {oR oU : Obj} {rs : Value} {subj : Num} {xu : Int} {tu : Tok} {mt im : Led}
    (B : Below A₀ base [] h₀) (F : Fr h₀ L s.heap m) (X : (K w.params).In h₀) (T : Top p loose mean mg mb h₀) (hd : dp + 60 < recursionLimit) (hu : un + 2000 < cLine)
    (N : News h₀ L s.heap ((rw, W.listOf us.toArray n) :: (rl, W.listOf #[] 0) :: (nl, W.listOf #[rs] 0) :: (mt ++ im))) (hR : RowIs us) (mR : (c1, oR) ∈ im) (dR : oR.data = .cell (some (.ref rw))) (mU : (c2, oU) ∈ im) (dU : oU.data = .cell (some rs)) (hs : DatIn im rs (numD1 subj)) (hs2 : NumOk subj.1)
    (S : Sep ((rw, W.listOf us.toArray n) :: (rl, W.listOf #[] 0) :: (nl, W.listOf #[rs] 0) :: mt) im) (n1 : @Ne Nat rw rl) (n2 : @Ne Nat rw nl) (n3 : @Ne Nat rl nl) (q1 : ∀ p ∈ mt, p.1 ≠ rw) (q2 : ∀ p ∈ mt, p.1 ≠ rl) (q3 : ∀ p ∈ mt, p.1 ≠ nl)
    (e1 : m (Str.ofString "usual") = some (.int xu tu)) (e2 : m (Str.ofString "rows") = some (.ref rl)) (e3 : m (Str.ofString "numbers") = some (.ref nl))
    (ret : ∀ h' tk' m' us' n' rv kr nv kn im' rows, Fr h₀ L h' m' → m' (Str.ofString "rows") = some (.ref rl) → m' (Str.ofString "numbers") = some (.ref nl) →
      News h₀ L h' ((rw, W.listOf us' n') :: (rl, W.listOf rv kr) :: (nl, W.listOf nv kn) :: (mt ++ im')) → (∀ p ∈ im, p ∈ im') → Sep ((rw, W.listOf us' n') :: (rl, W.listOf rv kr) :: (nl, W.listOf nv kn) :: mt) im' →
      AllM rowItemD im' rv rows → AllM numD1 im' nv (subj :: (pairsOf rows).map (·.1)) → RowsOk rows xu → Qf .next { s with heap := h', toks := tk' }) :
    wpAny (model prog w) (ktrTop dp un gd cn dLaw.scope L ca ccd (lawCl c1 c2 c3 c4 c5 c6 c7) []) (execs ((dLaw.body.drop 16).take 1) (envX cn dLaw.scope L ca ccd (lawCl c1 c2 c3 c4 c5 c6 c7))) Qf (lawE (model prog w) (ktrTop dp un gd cn dLaw.scope L ca ccd (lawCl c1 c2 c3 c4 c5 c6 c7) []) (envX cn dLaw.scope L ca ccd (lawCl c1 c2 c3 c4 c5 c6 c7)) R) s := by
  unfold dLaw lawE
  dsimp only [List.drop, List.take]
  replace F := fr_see3 F e1 e2 e3
  k_with "exec For Name Call cons nil" => walk_at "my for"
  k_steps
  (try unfold StopHere)
  (with_reducible rename IsRange _ _ _ _ _ _ _ _ => rg9)
  (with_reducible rename News _ _ _ _ => N4)
  (with_reducible rename RowIs _ => hR4)
  refine range_turns (mt := (rw, W.listOf _ _) :: (rl, W.listOf #[] 0) :: (nl, W.listOf #[rs] 0) :: mt) (im := im) (TabS subj xu rw rl nl mt im) rfl rg9 (turns_small (fm4 _).1 (Int.le_of_lt (Int.lt_trans (fm4 _).2 (by decide)))) (turns_size (fm4 _).1) (by k_asm) N4 (sep_addr S rfl) (.mk _ _ _ _ _ _ [] _ hR4 id_sub ⟨⟨.nil⟩, ⟨.cons hs .nil⟩, ⟨by decide, (fun _ h => nomatch h), (fun _ h => nomatch h), (fun _ h => nomatch h)⟩⟩ rfl (by walk_at "my kept")) ?_ ?_
  · intro G9 hG9 i9 v9 m9 mt9 im9 h9 tk9 I9 oI9 hi9 hq1_10 hq1_11
    revert v9 hq1_10
    refine int_all fun tv9 => ?_
    revert mt9 im9
    refine TabS.all fun us9 k9 ra9 kr9 na9 kn9 rows9 im9 hR9 hs9 hJ9 hl9 k9' => ?_
    obtain ⟨rv9⟩ := ra9
    obtain ⟨nv9⟩ := na9
    subst hl9
    have hR8 : RowIs us9 := hR9
    have hlr9 : rv9.length = rows9.length := by simpa using hJ9.rw.length
    have hln9 : nv9.length = (subj :: (pairsOf rows9).map (·.1)).length := by simpa using hJ9.nm.length
    refine hG9 ?_
    clear hG9
    intro F9 N9 S9 hI9 hr9
    have F8 := k9'.fr F9
    clear F9
    have hl3 := lt3 hi9
    have hz8 : rv9.length ≤ 100 := by have := hJ9.ok.len; omega
    have hz7 : nv9.length ≤ 100 := by
      have h1 := pairs_len (rs := rows9) fun r h l e => (hJ9.ok.lab r h l e).1
      have h2 := hJ9.ok.len
      simp only [List.length_cons, List.length_map] at hln9
      omega
    have hI1 : @Ne Nat rw I9 := hI9 _ (.head _)
    have hI2 : @Ne Nat rl I9 := hI9 _ (.tail _ (.head _))
    have hI3 : @Ne Nat nl I9 := hI9 _ (.tail _ (.tail _ (.head _)))
    have hI4 : ∀ p ∈ mt, p.1 ≠ I9 := fun p hp => hI9 p (.tail _ (.tail _ (.tail _ hp)))
    have N7 : News _ _ h9 ((I9, oI9) :: (rw, W.listOf us9.toArray k9) :: (rl, W.listOf rv9.toArray kr9) :: (nl, W.listOf nv9.toArray kn9) :: (mt ++ im9)) := N9
    have S7 : Sep ((I9, oI9) :: (rw, W.listOf us9.toArray k9) :: (rl, W.listOf rv9.toArray kr9) :: (nl, W.listOf nv9.toArray kn9) :: mt) im9 := S9
    have hI6 : ∀ p ∈ (rw, W.listOf us9.toArray k9) :: (rl, W.listOf rv9.toArray kr9) :: (nl, W.listOf nv9.toArray kn9) :: mt, p.1 ≠ I9 := hI9
    have mR9 := hs9 _ mR
    have mU9 := hs9 _ mU
    have hu9 := hs.mono hs9
    clear hR9 N9 S9 hI9 N4 hr9 rg9 S hR hR4
    k_steps
    · (show TEnd _ _ _ _ _ _ _ _; walk_at "my tend")
      exact .mk _ _ _ _ _ _ _ _ hR8 (by walk_at "my sub") (hJ9.none (by walk_at "my sub") (by rw [nm_eq] at *; walk_at "my dat") hl3 (by omega)) (by simp) (by walk_at "my kept")
    · unfold StopHere
      (with_reducible rename IsRange _ _ _ _ _ _ _ _ => rg8)
      (with_reducible rename News _ _ _ _ => N6)
      (with_reducible rename RowIs _ => hR6)
      (with_reducible rename Sep _ _ => S6)
      have S5 : ∀ o : Obj, Sep ((rw, o) :: (I9, oI9) :: (rl, W.listOf rv9.toArray kr9) :: (nl, W.listOf nv9.toArray kn9) :: mt) im'w := fun o => Sep.cons S6.tail.head (Sep.cons S6.head S6.tail.tail)
      refine LCg.CompSrc.range rfl (by k_asm) N6 rg8 (turns_small (lab_rng _).1 (Int.le_trans (lab_rng _).2 (by decide))) (turns_size (lab_rng _).1) ?sz fun g8 => comp_turns (LabJ rw (I9, oI9) (rl, W.listOf rv9.toArray kr9) (nl, W.listOf nv9.toArray kn9) mt im'w) (.mk _ _ im'w [] hR6 id_sub (S5 _) .nil (fun _ h => nomatch h)) ?tn ?fn
      case sz =>
        have q9 := lab_rng
        rw [sizeLine_eq]
        have := q9 (by with_reducible assumption)
        omega
      case tn =>
        intro G9 hG9 i8 ys8 news8 v8 I8 oI8 C8 oC8 D8 m8 h8 tk8 E8 hi8 hl8 hP8 hJ8
        revert v8 hP8
        refine int_all fun t8 => ?_
        revert news8
        refine LabJ.all fun us8 k8 im8 l8 hR7 hs8 S8 hA8 hO8 => ?_
        have hR5 : RowIs us8 := hR7
        refine hG9 ?_
        clear hG9
        intro hC8 hx8 F8' N8 off8 ne8
        have N5 : News _ _ h8 ((I8, oI8) :: (C8, oC8) :: (D8, LCg.lst ys8) :: (rw, W.listOf us8.toArray k8) :: (I9, oI9) :: (rl, W.listOf rv9.toArray kr9) :: (nl, W.listOf nv9.toArray kn9) :: (mt ++ im8)) := N8
        have S7 : Sep ((I8, oI8) :: (C8, oC8) :: (D8, LCg.lst ys8) :: (rw, W.listOf us8.toArray k8) :: (I9, oI9) :: (rl, W.listOf rv9.toArray kr9) :: (nl, W.listOf nv9.toArray kn9) :: mt) im8 := off3_sep (mt := (rw, W.listOf us8.toArray k8) :: (I9, oI9) :: (rl, W.listOf rv9.toArray kr9) :: (nl, W.listOf nv9.toArray kn9) :: mt) off8 S8
        have o8 := off3_left (a := (rw, W.listOf us8.toArray k8) :: (I9, oI9) :: (rl, W.listOf rv9.toArray kr9) :: (nl, W.listOf nv9.toArray kn9) :: mt) off8
        have mR8 := hs8 _ (up (by walk_at "my sub") mR9)
        have mU8 := hs8 _ (up (by walk_at "my sub") mU9)
        have hu8 : DatIn im8 rs (numD1 subj) := hu9.mono (by walk_at "my sub")
        clear N8 N6 N7 S8 S6 S5 hR7 hR6 hR8
        have ne1 := off8.1.1
        have ne2 := off8.1.2.1
        have ne3 := off8.1.2.2
        have ne4 := off8.2.1.1
        have ne5 := off8.2.1.2.1
        have ne6 := off8.2.1.2.2
        have ne7 := off8.2.2.1.1
        have ne10 := off8.2.2.1.2.1
        have ne11 := off8.2.2.1.2.2
        have ne12 := off8.2.2.2.1.1
        have ne13 := off8.2.2.2.1.2.1
        have ne14 := off8.2.2.2.1.2.2
        have off7 := off8.2.2.2.2
        have ne15 := ne8.1
        have ne16 := ne8.2.1
        have ne17 := ne8.2.2
        clear off8 ne8
        have S3 : Sep ((I8, oI8) :: (C8, oC8) :: (D8, LCg.lst ys8) :: (I9, oI9) :: (rl, W.listOf rv9.toArray kr9) :: (nl, W.listOf nv9.toArray kn9) :: mt) im8 := S7.sub (by walk_at "my perm") fun _ h => h
        have hr8 : ∀ p ∈ im8, p.1 ≠ rw := S7.tail.tail.tail.head
        k_steps
        all_goals unfold StopHere
        all_goals (with_reducible rename News _ _ _ _ => N3)
        all_goals (with_reducible rename RowIs _ => hR3)
        · refine cend (mt := (rw, W.listOf us'w.toArray n'w) :: (I9, oI9) :: (rl, W.listOf rv9.toArray kr9) :: (nl, W.listOf nv9.toArray kn9) :: mt) (im := im8) (by k_asm) N3 (by walk_at "my perm") (off3_addr o8 rfl) (sep_addr S7 rfl) trivial (.mk us'w n'w im8 (l8 ++ [subj]) hR3 hs8 (Sep.cons hr8 S3.tail.tail.tail) (by rw [List.map_append]; exact DatAll.append hA8 (.one hu8)) fun x hx => ?_)
          rcases List.mem_append.mp hx with hx | hx
          · exact hO8 x hx
          · rw [List.mem_singleton.mp hx]; exact hs2
        · (with_reducible rename DatIn _ _ (numberD _ _) => hD3)
          (with_reducible rename ∀ p ∈ im8, p ∈ _ => hs3)
          (with_reducible rename Sep _ _ => S4)
          (with_reducible rename ∀ p ∈ (_ : Led), p.1 ≠ rw => hq3)
          (with_reducible rename NumOk _ => hb3)
          (try simp only [List.cons_append, List.nil_append, List.append_eq] at N3)
          refine cend (im := im'w) (mt := (rw, W.listOf us'w.toArray n'w) :: (I9, oI9) :: (rl, W.listOf rv9.toArray kr9) :: (nl, W.listOf nv9.toArray kn9) :: mt) (by k_asm) N3 (by walk_at "my perm") (off3_addr o8 rfl) (Sep.cons S4.head (Sep.cons S4.tail.head (Sep.cons S4.tail.tail.head (Sep.cons hq3 S4.tail.tail.tail)))) trivial (.mk us'w n'w _ (l8 ++ [(_, _)]) hR3 (fun p hp => hs3 p (hs8 p hp)) (Sep.cons hq3 S4.tail.tail.tail) (by rw [List.map_append]; exact DatAll.append (hA8.mono hs3) (.one hD3)) fun x hx => ?_)
          rcases List.mem_append.mp hx with hx | hx
          · exact hO8 x hx
          · rw [List.mem_singleton.mp hx]; exact hb3
      case fn =>
        intro G9 hG9 ys8 news8 hl8 hJ8
        revert news8
        refine LabJ.all fun us8 k8 im8 l8 hR7 hs8 S8 hA8 hO8 => ?_
        have hR5 : RowIs us8 := hR7
        refine hG9 ?_
        clear hG9
        clear N6 N7 S6 S5 hR7 hR6 hR8
        have hy8 := lab_len hl8
        have hy7 : l8.length ≤ 2 := by have := hA8.length; rw [List.length_map] at this; omega
        walk_at "my fina"
        k_steps
        unfold StopHere
        (with_reducible rename News _ _ _ _ => N3)
        (with_reducible rename _ ∧ _ ∧ _ ∧ _ ∧ LCg.Off1 _ _ => o1)
        have no1 := o1.1
        have no2 := o1.2.1
        have no3 := o1.2.2.1
        have no4 := o1.2.2.2.1
        have no5 := o1.2.2.2.2
        refine' kl_iadd (its := nv9.toArray) (n := kn9) (its2 := ys8.toArray) (b := D'w) (l := nv9 ++ ys8) (by k_asm) N3 (List.Mem.head _) rfl hy8.1 ?U ?d ?z ?y ?_
        case U => k_upd
        case d => exact short_ok (by rw [List.size_toArray, List.size_toArray]; omega)
        case z => rw [sizeLine_eq]; show nv9.length ≤ _; omega
        case y => rw [sizeLine_eq, List.size_toArray, List.size_toArray]; omega
        intro h7 F7 N7
        have N6 : News _ _ _ ((rw, W.listOf us8.toArray k8) :: (I9, oI9) :: (rl, W.listOf rv9.toArray kr9) :: (nl, W.listOf (nv9 ++ ys8).toArray (kn9 + 1)) :: (mt ++ ((D'w, W.listOf ys8.toArray ys8.length) :: im8))) := news_of N7 (by walk_at "my perm")
        clear N7
        have S6 : Sep ((rw, W.listOf us8.toArray k8) :: (I9, oI9) :: (rl, W.listOf rv9.toArray kr9) :: (nl, W.listOf (nv9 ++ ys8).toArray (kn9 + 1)) :: mt) ((D'w, W.listOf ys8.toArray ys8.length) :: im8) := Sep.snoc (List.forall_mem_cons.mpr ⟨no1, List.forall_mem_cons.mpr ⟨no2, List.forall_mem_cons.mpr ⟨no3, List.forall_mem_cons.mpr ⟨no4, fun p hp => off1_ne no5 p (List.mem_append.mpr (.inl hp))⟩⟩⟩⟩) (sep_addr S8 rfl)
        k_steps
        unfold StopHere
        (with_reducible rename News _ _ _ _ => N4)
        refine LCg.CompSrc.ledger (ax := D'w) (its := ys8.toArray) (k := ys8.length) (news := ((rw, W.listOf us8.toArray k8) :: (I9, oI9) :: (rl, W.listOf rv9.toArray kr9) :: (nl, W.listOf (nv9 ++ ys8).toArray (kn9 + 1)) :: mt) ++ ((D'w, W.listOf ys8.toArray ys8.length) :: im8)) rfl (by k_asm) N4 (List.mem_append.mpr (.inr (.head _))) (by rw [sizeLine_eq, List.size_toArray]; omega) fun g5 => comp_pure (mt := ((rw, W.listOf us8.toArray k8) :: (I9, oI9) :: (rl, W.listOf rv9.toArray kr9) :: (nl, W.listOf (nv9 ++ ys8).toArray (kn9 + 1)) :: mt)) (im := (D'w, W.listOf ys8.toArray ys8.length) :: im8) (l8.map srcN) (by have := hA8.length; rw [List.length_map] at this; rw [List.size_toArray, List.length_map, this]) S6 (src_at (.head _)) ?tn2 ?fn2
        case tn2 =>
          intro i5 v5 im4 I5 oI5 C5 oC5 D5 y5 m5 h5 tk5 E5 hi5 hP5 hs5 hC5 hx5 F5 N5 S5 off5 ne5
          rw [List.getElem?_toArray] at hP5
          obtain ⟨hj5, hd5⟩ := dat_atM (f := numD1) (hA8.mono fun p hp => hs5 p (.tail _ hp)) hP5
          have hx6 := hO8 _ (List.getElem_mem hj5)
          rw [List.getElem_map]
          generalize l8[i5] = x6 at hd5 hx6
          obtain ⟨bs6, sg6⟩ := x6
          clear N4
          k_steps
          show PElt _ _ _ _ _ _ _ _ _
          walk_at "my pelt"
          · walk_at "my sub"
          · walk_at "my sep"
          · walk_at "my dat"
        case fn2 =>
          intro ys5 im4 hs5 S5 hA5
          clear N4
          walk_at "my fine"
          (with_reducible rename _ ∧ _ ∧ _ ∧ _ ∧ LCg.Off1 _ _ => o2)
          have no6 := o2.1
          have no7 := o2.2.1
          have no8 := o2.2.2.1
          have no9 := o2.2.2.2.1
          have no10 := o2.2.2.2.2
          have hz5 : ys5.length ≤ 16384 := by have := hA5.length; rw [List.length_map] at this; omega
          (with_reducible rename News _ _ _ _ => N4)
          have N6 : News _ _ _ ((rw, W.listOf us8.toArray k8) :: (I9, oI9) :: (rl, W.listOf rv9.toArray kr9) :: (nl, W.listOf (nv9 ++ ys8).toArray (kn9 + 1)) :: (mt ++ ((D'w, W.listOf ys5.toArray ys5.length) :: im4))) := news_of N4 (by walk_at "my perm")
          clear N4
          have S7 : Sep ((rw, W.listOf us8.toArray k8) :: (I9, oI9) :: (rl, W.listOf rv9.toArray kr9) :: (nl, W.listOf (nv9 ++ ys8).toArray (kn9 + 1)) :: mt) ((D'w, W.listOf ys5.toArray ys5.length) :: im4) := Sep.snoc (List.forall_mem_cons.mpr ⟨no6, List.forall_mem_cons.mpr ⟨no7, List.forall_mem_cons.mpr ⟨no8, List.forall_mem_cons.mpr ⟨no9, fun p hp => off1_ne no10 p (List.mem_append.mpr (.inl hp))⟩⟩⟩⟩) S5
          k_steps
          show TEnd _ _ _ _ _ _ _ _
          (with_reducible rename News _ _ _ _ => N3)
          (with_reducible rename Sep _ _ => S3)
          refine ⟨_, _, _, (rw, W.listOf us8.toArray k8) :: (rl, W.listOf (rv9.toArray.push (.ref D'w)) (kr9 + 1)) :: (nl, W.listOf (nv9 ++ ys8).toArray (kn9 + 1)) :: mt, im'w, rfl, by k_asm, news_of N3 (by walk_at "my perm"), sep_addr (Sep.cons S3.tail.head (Sep.cons S3.head S3.tail.tail)) rfl, off_addr hI6 rfl, List.forall_mem_nil _, .mk us8 _ _ _ _ _ _ _ hR5 (by walk_at "my sub") (hJ9.some (by walk_at "my sub") (hA8.mono ?s1) ?s2 hl3 ⟨hy7, hO8⟩) ?s8 ?s9⟩
          case s8 => simp
          case s9 => walk_at "my kept"
          case s1 => exact fun p hp => up (by walk_at "my sub") (hs5 p (.tail _ hp))
          case s2 =>
            rw [nm_eq] at *
            refine' DatIn.tuple ?m1 (.cons (DatIn.tuple ?m2 (hA5.mono ?s3)) (.cons ?bk .nil))
            case m1 => walk_at "my mem"
            case m2 => walk_at "my mem"
            case s3 => walk_at "my sub"
            case bk => walk_at "my dat"
  · intro G9 hG9 m9 mt9 im9 h9 tk9 hq2_5
    revert mt9 im9
    refine TabS.all fun us9 k9 rv9 kr9 nv9 kn9 rows9 im9 hR9 hs9 hJ9 hl9 k9' => ?_
    refine hG9 ?_
    clear hG9
    intro F9 N9 S9
    have F8 := k9'.fr F9
    clear F9
    k_steps
    exact ret _ _ _ _ _ _ _ _ _ _ _ (by k_asm) rfl rfl N9 hs9 S9 hJ9.rw hJ9.nm hJ9.ok
end


theorem rg_p62_1 : True := by
  k_with "my enterC" => (k_dflt (refine code_def (by k_asm) (by k_asm) (by k_asm) (by k_asm) (by k_asm) rfl rfl (by first | exact rfl | assumption) (by k_is) (by k_is) (by walk_at "my room") (by first | exact BindsTo.of_eq rfl | exact binds_K (by k_in) rfl (by k_is) rfl rfl rfl) (by exact locs rfl) ?_ (by exact rfl) (by exact rfl) (by exact rfl) (by decide); k_whole); intro g'w L'w h'w FG'w F'w N'w B'w X'w T'w; (try dsimp only); (try k_fold))
  exact trivial
theorem rg_p62_2 : True := by
  k_with "my cls" => (k_dflt (refine call_cls (by k_asm) (by k_asm) (by k_asm) (by k_is) (by k_is) (by k_is) ?_; k_whole; intro x'w d'w h'w F'w N'w l1w l2w; (try k_lt l1w); (try k_lt2 l2w); (try k_sweep)); walk_at "my enterC")
  exact trivial
theorem rg_p62_3 : True := by
  k_with "call ref" => (k_here; (with_reducible show wpAny _ _ (call (Value.ref 1302) _) _ _ _); walk_at "my cls")
  exact trivial
theorem rg_p62_4 : True := by
  k_with "call ref nil" => (k_here; (with_reducible show wpAny _ _ (call (Value.ref 1225) _) _ _ _); walk_at "my cls")
  exact trivial
theorem rg_p62_5 : True := by
  k_with "call ref" => (k_here; (with_reducible show wpAny _ _ (call (Value.ref 1225) _) _ _ _); walk_at "my cls")
  exact trivial

theorem rg_p62_6 : True := by
  k_with "call ref" => (k_here; (with_reducible show wpAny _ _ (call (Value.ref 1194) _) _ _ _); refine wpAny_call ?_; walk_at "my enterC")
  exact trivial
abbrev dEnt (w : World) (x : Str) (k : Tok) (v : Value) : DictEntry := { hash := PyData.keyHash w.params x, key := Value.str x k, val := v }
abbrev dsDict (w : World) (k1 k2 k3 k4 k5 k6 k7 k8 k9 k10 k11 : Tok) (a1 a2 a3 a4 a5 a6 a7 a8 a9 lb : Addr) : Obj := dictOf [dEnt w (Str.ofString "signals") k1 (.ref a1), dEnt w (Str.ofString "assigns") k2 (.ref a2), dEnt w (Str.ofString "gates") k3 (.ref a3), dEnt w (Str.ofString "udps") k4 (.ref a4), dEnt w (Str.ofString "processes") k5 (.ref a5), dEnt w (Str.ofString "routines") k6 (.ref a6), dEnt w (Str.ofString "scopes") k7 (.ref a7), dEnt w (Str.ofString "tops") k8 (.ref a8), dEnt w (Str.ofString "ports") k9 (.ref a9), dEnt w (Str.ofString "maker") k10 .none, dEnt w (Str.ofString "by_path") k11 (.ref lb)] 11
section
variable {w : World} {prog : Program} {p : Program} {loose : List Str} {mean : ExcName → Option Value} {mg mb : Str → Option Value} {dp un : Nat} {gd : Option (List Code)} {cn : Str} {cs : PySem.Scope} {a : Addr} {ccd : Value} {cl : List (Str × Addr)} {outer : List Env} {A₀ : Around} {base h₀ : Heap} {L : Addr} {m : Str → Option Value} {s : Shared} {Q E : Value → Shared → Prop}
theorem design_made {news : Led} (B : Below A₀ base outer h₀) (F : Fr h₀ L s.heap m) (X : (K w.params).In h₀) (N : News h₀ L s.heap news) (T : Top p loose mean mg mb h₀) (hk : cs.kind = .function) (hd : dp + 10 < recursionLimit) (hu : un + 400 < cLine)
    (ret : ∀ h' tk' x dx k1 k2 k3 k4 k5 k6 k7 k8 k9 k10 k11 a1 a2 a3 a4 a5 a6 a7 a8 a9 lb, Fr h₀ L h' m → News h₀ L h' ((x, instObj 1225 dx) :: (dx, dsDict w k1 k2 k3 k4 k5 k6 k7 k8 k9 k10 k11 a1 a2 a3 a4 a5 a6 a7 a8 a9 lb) :: (a7, W.listOf #[] 0) :: news) → (∀ p ∈ news, p.1 < dx) → @LT.lt Nat _ dx x → (@LT.lt Nat _ x a7 ∧ @LT.lt Nat _ dx a7 ∧ AllLt a7 news) → Q (.ref x) { s with heap := h', toks := tk' }) :
    wpAny (model prog w) (ktrTop dp un gd cn cs L a ccd cl outer) (call (.ref 1225) []) Q E s := by
  walk_at "my cls"
  k_steps
  (with_reducible rename News _ _ _ (_ :: _) => N7)
  refine ret _ _ _ _ _ _ _ _ _ _ _ _ _ _ _ _ _ _ _ _ _ _ _ _ _ (by k_asm) (news_of N7 (by walk_at "my perm")) l1w l2w ?_
  exact And.right (And.right (And.right (And.right (And.right (And.right (by assumption))))))
theorem scope_made {news : Led} {xd dx a1 a2 a3 a4 a5 a6 a7 a8 a9 lb : Addr} {k1 k2 k3 k4 k5 k6 k7 k8 k9 k10 k11 t1 t2 : Tok} (B : Below A₀ base outer h₀) (F : Fr h₀ L s.heap m) (X : (K w.params).In h₀) (N : News h₀ L s.heap ((xd, instObj 1225 dx) :: (dx, dsDict w k1 k2 k3 k4 k5 k6 k7 k8 k9 k10 k11 a1 a2 a3 a4 a5 a6 a7 a8 a9 lb) :: (a7, W.listOf #[] 0) :: news)) (T : Top p loose mean mg mb h₀) (hk : cs.kind = .function) (hd : dp + 10 < recursionLimit) (hu : un + 400 < cLine)
    (q1 : ∀ p ∈ news, p.1 < dx) (q2 : @LT.lt Nat _ dx xd) (q3 : @LT.lt Nat _ xd a7 ∧ @LT.lt Nat _ dx a7 ∧ AllLt a7 news)
    (ret : ∀ h' tk' x d de k1 k2 k3 k4 k5 k6 k7 k8 k9 v2 v4 v5 v6 v9, Fr h₀ L h' m → News h₀ L h' ((x, instObj 1302 d) :: (d, scDict w xd de k1 k2 k3 k4 k5 k6 k7 k8 k9 v2 v4 v5 v6 v9) :: news) → (∀ p ∈ news, p.1 < d) → @LT.lt Nat _ d x → Q (.ref x) { s with heap := h', toks := tk' }) :
    wpAny (model prog w) (ktrTop dp un gd cn cs L a ccd cl outer) (call (.ref 1302) [.ref xd, .str (Str.ofString "top") t1, .none, .str (Str.ofString "module") t2]) Q E s := by
  walk_at "my cls"
  k_steps
  (with_reducible rename News _ _ _ (_ :: _) => N7)
  exact ret _ _ _ _ _ _ _ _ _ _ _ _ _ _ _ _ _ _ _ (by k_asm) (news_of N7 (by walk_at "my perm")) (fun p hp => allLt_mem l1w.2.2.2 p hp) l2w
end
theorem rg_p62_8 : True := by
  k_with "call ref nil" => (k_here; (with_reducible show wpAny _ _ (call (Value.ref 1225) _) _ _ _); k_dflt (refine design_made (by k_asm) (by k_asm) (by k_asm) (by k_asm) (by k_asm) (by first | exact rfl | assumption) (by walk_at "my room") (by walk_at "my units") ?_); intro h'w tk'w x'w dx'w k1w k2w k3w k4w k5w k6w k7w k8w k9w k10w k11w a1w a2w a3w a4w a5w a6w a7w a8w a9w lbw F'w N'w q1w q2w q3w; (try k_sweep))
  exact trivial
theorem rg_p62_9 : True := by
  k_with "call ref" => (k_here; (with_reducible show wpAny _ _ (call (Value.ref 1302) _) _ _ _); k_dflt (refine scope_made (by k_asm) (by k_asm) (by k_asm) (by k_asm) (by k_asm) (by first | exact rfl | assumption) (by walk_at "my room") (by walk_at "my units") (by with_reducible assumption) (by with_reducible assumption) (by with_reducible assumption) ?_); intro h'w tk'w x'w d'w de'w k1w k2w k3w k4w k5w k6w k7w k8w k9w v2w v4w v5w v6w v9w F'w N'w l1w l2w; (try k_lt l1w); (try k_lt2 l2w); (try k_sweep))
  exact trivial
section
variable (w : World) {prog : Program} {p : Program} {loose : List Str} {mean : ExcName → Option Value} {mg mb : Str → Option Value} {dp un : Nat} {gd : Option (List Code)} {cn : Str} {ca : Addr} {ccd : Value} {A₀ : Around} {base h₀ : Heap} {L : Addr} {m : Str → Option Value} {s : Shared} {E : Value → Shared → Prop} {Qf : Flow → Shared → Prop}
  {c1 c2 c3 c4 c5 c6 c7 : Addr}
theorem blkA1 {q : Addr} {us : List Value} {ns : List Int} {o1 o2 o3 o4 o5 o6 o7 : Obj}
    (B : Below A₀ base [] h₀) (F : Fr h₀ L s.heap m) (X : (K w.params).In h₀) (T : Top p loose mean mg mb h₀) (hd : dp + 60 < recursionLimit) (hu : un + 2000 < cLine)
    (N : News h₀ L s.heap [(c7, o7), (c6, o6), (c5, o5), (c4, o4), (c3, o3), (c2, o2), (c1, o1), (1369, tabObj #[])]) (d1 : o1.data = .cell none) (d3 : o3.data = .cell none) (d5 : o5.data = .cell none) (d6 : o6.data = .cell none)
    (n0 : @LT.lt Nat _ 1369 c1) (n1 : @LT.lt Nat _ c1 c2) (n2 : @LT.lt Nat _ c2 c3) (n3 : @LT.lt Nat _ c3 c4) (n4 : @LT.lt Nat _ c4 c5) (n5 : @LT.lt Nat _ c5 c6) (n6 : @LT.lt Nat _ c6 c7)
    (hq : base.IsList q us.toArray) (hI : IntsAre us ns) (hn : ¬ 63 < (ns.length : Int)) (e0 : m (Str.ofString "script") = some (.ref q))
    (ret : ∀ h' tk' m' rw us n o1' o6' x d xd de k1 k2 k3 k4 k5 k6 k7 k8 k9 v2 v4 v5 v6 v9, Fr h₀ L h' m' → News h₀ L h' [(rw, W.listOf us n), (c7, o7), (c6, o6'), (c5, o5), (c4, o4), (c3, o3), (c2, o2), (c1, o1'), (1369, tabObj #[]), (x, instObj 1302 d), (d, scDict w xd de k1 k2 k3 k4 k5 k6 k7 k8 k9 v2 v4 v5 v6 v9)] →
      RowIs us.toList → o1'.data = .cell (some (.ref rw)) → o6'.data = .cell (some (.ref x)) → @LT.lt Nat _ c7 rw → @LT.lt Nat _ rw d → @LT.lt Nat _ d x → Qf .next { s with heap := h', toks := tk' }) :
    wpAny (model prog w) (ktrTop dp un gd cn dLaw.scope L ca ccd (lawCl c1 c2 c3 c4 c5 c6 c7) []) (execs (dLaw.body.take 2) (envX cn dLaw.scope L ca ccd (lawCl c1 c2 c3 c4 c5 c6 c7))) Qf E s := by
  replace F := fr_see F e0
  unfold dLaw
  dsimp only [List.drop, List.take]
  k_steps
  (with_reducible rename News _ _ _ _ => N7)
  (with_reducible rename RowIs _ => hR9)
  exact ret _ _ _ _ _ _ _ _ _ _ _ _ _ _ _ _ _ _ _ _ _ _ _ _ _ _ (by k_asm) (news_of N7 (by walk_at "my perm")) hR9 (by with_reducible assumption) (by with_reducible assumption) (And.left (by assumption)) l1w.1 l2w
end


def isBoolF : Value → Bool
  | .bool b => !b
  | _ => false
theorem eqg_bool (a b : Bool) : MeetsSeq.EqGives (.bool a) (.bool b) (a == b) := fun prog w A E s Q hq => PySem.SeqAt.EqAt.bool_bool a b prog w E Q hq
theorem eq_isBool {news : Led} : ∀ {bs : List Bool} {vs : List Value}, DatAll news vs (bs.map .bool) → ∀ y, y ∈ vs → MeetsSeq.EqGives y (.bool false) (isBoolF y) := by
  intro bs
  induction bs with
  | nil =>
    intro vs h y hy
    rw [all_nil h] at hy
    exact absurd hy List.not_mem_nil
  | cons b bs ih =>
    intro vs h y hy
    obtain ⟨v, ws, e, h1, h2⟩ := all_cons h
    rw [e] at hy
    rcases List.mem_cons.mp hy with e2 | hy
    · rw [e2, dat_bool h1]
      have := eqg_bool b false
      cases b <;> exact this
    · exact ih h2 y hy
theorem any_isBool {news : Led} : ∀ {bs : List Bool} {vs : List Value}, DatAll news vs (bs.map .bool) → vs.any isBoolF = bs.any (!·) := by
  intro bs
  induction bs with
  | nil =>
    intro vs h
    rw [all_nil h]
    rfl
  | cons b bs ih =>
    intro vs h
    obtain ⟨v, ws, e, h1, h2⟩ := all_cons h
    rw [e, dat_bool h1, List.any_cons, List.any_cons, ih h2]
    rfl
theorem notin_bools {prog : Program} {w : World} {A : Around} {E : Value → Shared → Prop} {s : Shared} {h₀ : Heap} {L l : Addr} {X news : Led} {vs : List Value} {k : Nat} {bs : List Bool} {Q : Value → Shared → Prop} (N : News h₀ L s.heap X) (hl : (l, W.listOf vs.toArray k) ∈ X) (hA : DatAll news vs (bs.map .bool))
    (h : Q (.bool (bs.all id)) s) : wpAny (model prog w) A (compareOp .NotIn (.bool false) (.ref l)) Q E s := by
  refine SeqInW.notIn_listW isBoolF (fun y hy => eq_isBool hA y (by simpa using hy)) (News.isList N hl) ?_
  have e : (vs.toArray.any isBoolF) = vs.any isBoolF := by simp
  rw [e, any_isBool hA]
  have e2 : (!bs.any (!·)) = bs.all id := by
    induction bs with
    | nil => rfl
    | cons b bs _ => simp [List.any_cons, List.all_cons, List.all_eq_not_any_not]
  rw [e2]; exact h
theorem rg_p63_1 : True := by
  k_with "compareOp NotIn bool ref" => (k_here; k_dflt (refine notin_bools (by k_asm) (by exact List.Mem.head _) (by with_reducible assumption) ?_))
  exact trivial
theorem sOf_all : ∀ l : List Num, (l.map (·.2)).all id = sOf l
  | [] => rfl
  | x :: l => by simp only [List.map_cons, List.all_cons, sOf, sOf_all l, id]
theorem wOf_max {l : List Num} {M : Int} (h1 : M ∈ l.map fun x => (x.1.length : Int)) (h2 : ∀ a ∈ l.map (fun x => (x.1.length : Int)), a ≤ M) (h3 : ∀ x ∈ l, 1 ≤ x.1.length) : wOf l = M := by
  have lo : ∀ l : List Num, (∀ x ∈ l, (x.1.length : Int) ≤ M) → 1 ≤ M → wOf l ≤ M := by
    intro l
    induction l with
    | nil => intro _ h; exact h
    | cons x l ih =>
      intro h hM
      have a := h x (.head _)
      have b := ih (fun y hy => h y (.tail _ hy)) hM
      show max _ (wOf l) ≤ M
      omega
  obtain ⟨x, hx, rfl⟩ := List.mem_map.mp h1
  have g := wOf_ge hx
  have q := lo l (fun y hy => h2 _ (List.mem_map.mpr ⟨y, hy, rfl⟩)) (by have := h3 x hx; omega)
  omega
section
variable (w : World) {prog : Program} {p : Program} {loose : List Str} {mean : ExcName → Option Value} {mg mb : Str → Option Value} {dp un : Nat} {gd : Option (List Code)} {cn : Str} {ca : Addr} {ccd : Value} {A₀ : Around} {base h₀ : Heap} {L : Addr} {m : Str → Option Value} {s : Shared} {R : Value → Shared → Prop} {Qf : Flow → Shared → Prop}
  {c1 c2 c3 c4 c5 c6 c7 : Addr}
theorem blkD3 {rl nl : Addr} {nv : Array Value} {kn : Nat} {nums : List Num} {mt im : Led}
    (B : Below A₀ base [] h₀) (F : Fr h₀ L s.heap m) (X : (K w.params).In h₀) (T : Top p loose mean mg mb h₀) (hd : dp + 60 < recursionLimit) (hu : un + 2000 < cLine)
    (N : News h₀ L s.heap (mt ++ im)) (S : Sep mt im) (hn : (nl, W.listOf nv kn) ∈ im) (hA : AllM numD1 im nv nums) (hO : ∀ x ∈ nums, NumOk x.1) (hz1 : 1 ≤ nums.length) (hz : nums.length ≤ 100)
    (e2 : m (Str.ofString "rows") = some (.ref rl)) (e3 : m (Str.ofString "numbers") = some (.ref nl))
    (ret : ∀ h' tk' m' im' tw t1 dl, Fr h₀ L h' m' → m' (Str.ofString "rows") = some (.ref rl) → m' (Str.ofString "numbers") = some (.ref nl) → m' (Str.ofString "wide") = some (.int (wOf nums) tw) → m' (Str.ofString "signed") = some (.bool (sOf nums)) →
      m' (Str.ofString "due") = some dl → DatIn im' dl (.list []) → m' (Str.ofString "spot") = some (.int 1 t1) →
      News h₀ L h' (mt ++ im') → (∀ p ∈ im, p ∈ im') → Sep mt im' → Qf .next { s with heap := h', toks := tk' }) :
    wpAny (model prog w) (ktrTop dp un gd cn dLaw.scope L ca ccd (lawCl c1 c2 c3 c4 c5 c6 c7) []) (execs ((dLaw.body.drop 17).take 4) (envX cn dLaw.scope L ca ccd (lawCl c1 c2 c3 c4 c5 c6 c7))) Qf (lawE (model prog w) (ktrTop dp un gd cn dLaw.scope L ca ccd (lawCl c1 c2 c3 c4 c5 c6 c7) []) (envX cn dLaw.scope L ca ccd (lawCl c1 c2 c3 c4 c5 c6 c7)) R) s := by
  unfold dLaw lawE
  dsimp only [List.drop, List.take]
  replace F := fr_see3 F e2 e3 e3
  k_steps
  unfold StopHere
  refine LCg.CompSrc.ledger (ax := nl) (its := nv) (k := kn) (news := mt ++ im) rfl (by k_asm) N (List.mem_append.mpr (.inr hn)) (by rw [sizeLine_eq]; have := hA.length; simp at this; omega) fun g5 => comp_pure (mt := mt) (im := im) ((nums.map fun x => (x.1.length : Int)).map .int) (by have := hA.length; simp at this; simp [this]) S (src_at hn) ?tn ?fn
  case tn =>
    intro i5 v5 im4 I5 oI5 C5 oC5 D5 y5 m5 h5 tk5 E5 hi5 hP5 hs5 hC5 hx5 F5 N5 S5 off5 ne5
    rw [← Array.getElem?_toList] at hP5
    obtain ⟨hj5, hd5⟩ := dat_atM (f := numD1) (hA.all.mono hs5) hP5
    have hx6 := hO _ (List.getElem_mem hj5)
    rw [List.getElem_map, List.getElem_map]
    generalize nums[i5] = x6 at hd5 hx6
    obtain ⟨bs6, sg6⟩ := x6
    clear N F
    refine hold fun G9 hG9 => ?_
    walk_at "my open"
    (with_reducible rename DatIn _ _ (Dat.list _) => hL9); obtain ⟨p9, v9, k9, e9, hm9, hA91⟩ := dat_list hL9; subst e9; clear hL9
    have hl9 := hA91.length
    rw [List.length_map] at hl9
    have hl8 : v9.length ≤ 12 := by have := hx6.2.1; simp only at this hl9; omega
    refine hG9 ?_
    clear hG9
    k_steps
    show PElt _ _ _ _ _ _ _ _ _
    walk_at "my pelt"
    · walk_at "my sub"
    · walk_at "my sep"
    · rw [hl9]; walk_at "my dat"
  case fn =>
    intro ys5 im4 hs5 S5 hA5
    have hI5 := ints_of_dat hA5
    walk_at "my fine"
    k_steps
    unfold StopHere
    (with_reducible rename News _ _ _ _ => N4)
    have N5 : News _ _ _ (mt ++ im4) := news_tail N4
    clear N4
    refine LCg.CompSrc.ledger (ax := nl) (its := nv) (k := kn) (news := mt ++ im4) rfl (by k_asm) N5 (List.mem_append.mpr (.inr (hs5 _ hn))) (by rw [sizeLine_eq]; have := hA.length; simp at this; omega) fun g6 => comp_pure (mt := mt) (im := im4) ((nums.map (·.2)).map Dat.bool) (by have := hA.length; simp at this; simp [this]) S5 (src_at (hs5 _ hn)) ?tn2 ?fn2
    case tn2 =>
      intro i5 v5 im3 I5 oI5 C5 oC5 D5 y5 m5 h5 tk5 E5 hi5 hP5 hs6 hC5 hx5 F5 N5 S5 off5 ne5
      rw [← Array.getElem?_toList] at hP5
      obtain ⟨hj5, hd5⟩ := dat_atM (f := numD1) (hA.all.mono fun p hp => hs6 p (hs5 p hp)) hP5
      rw [List.getElem_map, List.getElem_map]
      generalize nums[i5] = x6 at hd5
      obtain ⟨bs6, sg6⟩ := x6
      refine hold fun G9 hG9 => ?_
      walk_at "my open"
      refine hG9 ?_
      clear hG9
      k_steps
      show PElt _ _ _ _ _ _ _ _ _
      walk_at "my pelt"
      · walk_at "my sub"
      · walk_at "my sep"
      · walk_at "my dat"
    case fn2 =>
      intro ys6 im3 hs6 S6 hA6
      walk_at "my fine"
      k_steps
      (with_reducible rename _ ∈ List.map _ _ => hM1)
      (with_reducible rename ∀ a ∈ List.map _ _, a ≤ _ => hM2)
      have hw := wOf_max hM1 hM2 fun x hx => (hO x hx).1
      (with_reducible rename News _ _ _ _ => N7)
      (with_reducible rename _ ∧ AllLt _ (mt ++ im3) => l7)
      refine ret _ _ _ ((_, W.listOf #[] 0) :: im3) _ _ (.ref _) (by k_asm) rfl rfl (congrArg (fun z => some (Value.int z _)) hw.symm) (congrArg (fun z => some (Value.bool z)) (sOf_all nums)) rfl (.list (.head _) .nil) rfl (news_of N7 (by walk_at "my perm")) (fun p hp => .tail _ (hs6 p (hs5 p hp))) (Sep.snoc (allLt_ne (allLt_app l7.2).1) S6)
end


theorem pick_snoc (f : Num → Bool) (x : Num × Str) : ∀ l : List (Num × Str), pickOf f (l ++ [x]) none = match pickOf f l none with | some y => some y | none => if f x.1 = true then some x.2 else none
  | [] => by simp [pickOf]
  | y :: l => by
    simp only [List.cons_append, pickOf]
    by_cases h : f y.1 = true
    · simp [h]
    · simp only [h, if_false]
      exact pick_snoc f x l
theorem pairs_app : ∀ a b : List Row, pairsOf (a ++ b) = pairsOf a ++ pairsOf b
  | [], b => rfl
  | x :: a, b => by simp only [List.cons_append, pairsOf, pairs_app a b, List.append_assoc]
theorem nums_at {subj : Num} {rows : List Row} {i j : Nat} {l : List Num} (hi : i < rows.length) (e : rows[i].1 = some l) (hj : j < l.length) :
    (subj :: (pairsOf rows).map (·.1))[(1 + ((pairsOf (rows.take i)).length : Int) + (j : Int)).toNat]? = some l[j] := by
  have e1 : rows = rows.take i ++ rows[i] :: rows.drop (i + 1) := by rw [List.getElem_cons_drop, List.take_append_drop]
  have e2 : (1 + ((pairsOf (rows.take i)).length : Int) + (j : Int)).toNat = ((pairsOf (rows.take i)).length + j) + 1 := by omega
  have e3 : pairsOf rows = pairsOf (rows.take i) ++ ((l.map fun x => (x, rows[i].2)) ++ pairsOf (rows.drop (i + 1))) := by
    have : pairsOf rows = pairsOf (rows.take i ++ rows[i] :: rows.drop (i + 1)) := congrArg _ e1
    rw [this, pairs_app]
    simp only [pairsOf, e, Option.getD_some]
  rw [e2, List.getElem?_cons_succ, e3, List.map_append, List.getElem?_append_right (by simp), List.length_map, Nat.add_sub_cancel_left, List.map_append, List.getElem?_append_left (by simpa using hj)]
  simp [hj]
theorem item_dat {prog : Program} {w : World} {A : Around} {E : Value → Shared → Prop} {s : Shared} {h₀ : Heap} {L l : Addr} {X im : Led} {value slice : PySem.Expr} {vs : List Value} {f : Num → Dat} {xs : List Num} {x : Num} {k : Int} {n : Nat} {u : Tok} {Q : Value → Shared → Prop}
    (N : News h₀ L s.heap X) (hm : (l, W.listOf vs.toArray n) ∈ X) (hA : DatAll im vs (xs.map f)) (hx : xs[k.toNat]? = some x) (h0 : 0 ≤ k) (hfit : k < 2 ^ 63) (h : ∀ v, DatIn im v (f x) → Q v s)
    (hs : subscripted slice false (.ref l) (.int k u) = operate [.ref l, .int k u] (getItem (.ref l) (.int k u))) (hg : ∀ r, letTemporaryGo value (.ref l) r = pure ()) :
    wpAny (model prog w) A (subscriptTail value slice (.ref l) (.int k u)) Q E s := by
  obtain ⟨hi, e⟩ := List.getElem?_eq_some_iff.mp hx
  have hl := hA.length
  rw [List.length_map] at hl
  have hv : vs[k.toNat]? = some (vs[k.toNat]'(by omega)) := List.getElem?_eq_getElem (by omega)
  obtain ⟨_, hd⟩ := dat_atM hA hv
  rw [e] at hd
  exact kim_list N hm rfl rfl h0 hfit hv (h _ hd) hs hg
theorem pick_name {f : Num → Bool} {nm : Str} : ∀ {l : List (Num × Str)}, pickOf f l none = some nm → ∃ p ∈ l, p.2 = nm
  | [], h => nomatch h
  | x :: l, h => by
    unfold pickOf at h
    by_cases q : f x.1 = true
    · rw [if_pos q] at h; exact ⟨x, .head _, Option.some.inj h⟩
    · rw [if_neg q] at h
      obtain ⟨p, hp, e⟩ := pick_name h
      exact ⟨p, .tail _ hp, e⟩
theorem pairs_name : ∀ {rows : List Row} {p : Num × Str}, p ∈ pairsOf rows → ∃ r ∈ rows, r.2 = p.2
  | r :: rows, p, h => by
    simp only [pairsOf, List.mem_append, List.mem_map] at h
    rcases h with ⟨x, _, rfl⟩ | h
    · exact ⟨r, .head _, rfl⟩
    · obtain ⟨r', hr, e⟩ := pairs_name h
      exact ⟨r', .tail _ hr, e⟩
theorem RowsOk.names {rows : List Row} {xu : Int} (h : RowsOk rows xu) : ∀ r ∈ rows, PyData.strOk r.2 = true := fun r hr => by
  obtain ⟨i, hi, rfl⟩ := List.mem_iff_getElem.mp hr
  rw [h.nm i hi]
  exact strOk_app (strOk_of "l") (strOk_of _)
theorem out_ok {nm : Str} (h : PyData.strOk nm = true) : dOk 8 (.list [.tuple [.str nm, .tuple [], .tuple []]]) = true := by simp [dOk, h]
theorem eqv_nil : PyData.eqv (dpP (.list [])) (dpP (.list [])) = true := rfl
theorem eqv_one (nm : Str) : PyData.eqv (dpP (.list [.tuple [.str nm, .tuple [], .tuple []]])) (dpP (.list [])) = false := by simp [dpP, dpPs, PyData.eqv, PyData.eqvAll]
theorem outD_ref {im : Led} {v : Value} {o : Option Str} (h : DatIn im v (outD o)) : ∃ p, v = .ref p := by
  cases o with
  | none => obtain ⟨p, _, _, e, _⟩ := dat_list h; exact ⟨p, e⟩
  | some nm => obtain ⟨p, _, _, e, _⟩ := dat_list h; exact ⟨p, e⟩
theorem eq_bits {prog : Program} {w : World} {A : Around} {E : Value → Shared → Prop} {s : Shared} {h₀ : Heap} {L : Addr} {X im : Led} {a b : Value} {xs ys : List Int} {r : Bool} {Q : Value → Shared → Prop} (N : News h₀ L s.heap X) (hs : ∀ p ∈ im, p ∈ X) (h1 : DatIn im a (bitD xs)) (h2 : DatIn im b (bitD ys)) (hu : A.units + 64 < cLine)
    (he : decide (xs = ys) = r) (h : Q (.bool r) s) : wpAny (model prog w) A (compareOp .Eq a b) Q E s := by
  subst he
  obtain ⟨pa, va, ka, ea, hma, hAa⟩ := dat_list h1
  obtain ⟨pb, vb, kb, eb, hmb, hAb⟩ := dat_list h2
  subst ea eb
  exact eq_intsK (News.isList N (hs _ hma)) (ints_of_dat hAa) (News.isList N (hs _ hmb)) (ints_of_dat hAb) hu h
theorem all_cons1 {im : Led} {v : Value} {d : Dat} (h : DatAll im [v] [d]) : DatIn im v d := by cases h with | cons h _ => exact h
theorem spot_eq {n j : Nat} : 1 + (n : Int) + ((j + 1 : Nat) : Int) = 1 + (n : Int) + (j : Int) + 1 := by omega
theorem spot_eq2 {a b : Nat} : 1 + ((a + b : Nat) : Int) = 1 + (a : Int) + (b : Int) := by omega
theorem tend2 {h₀ h' : Heap} {L I b l : Addr} {oI oJ o : Obj} {src mt im : Led} {Jn : (Str → Option Value) → Led → Led → Prop} {s₁ : Shared} {m' : Str → Option Value} {tk : Nat} (F : Fr h₀ L h' m') (N : News h₀ L h' ((l, o) :: (I, oI) :: (b, oJ) :: (mt ++ im))) (S : Sep ((I, oI) :: (b, oJ) :: mt) im)
    (hl : @LT.lt Nat _ I l ∧ @LT.lt Nat _ b l ∧ AllLt l (mt ++ im)) (hI : ∀ p ∈ (b, oJ) :: mt, p.1 ≠ I) (hs : ∀ p ∈ src, p ∈ im) (j : Jn m' ((b, oJ) :: mt) ((l, o) :: im)) : TEnd h₀ L I oI src Jn s₁ { s₁ with heap := h', toks := tk } :=
  ⟨h', tk, m', (b, oJ) :: mt, (l, o) :: im, rfl, F, news_of N (by walk_at "my perm"), Sep.snoc (List.forall_mem_cons.mpr ⟨Nat.ne_of_lt hl.1, List.forall_mem_cons.mpr ⟨Nat.ne_of_lt hl.2.1, allLt_ne (allLt_app hl.2.2).1⟩⟩) S, hI, fun p hp => .tail _ (hs p hp), j⟩
inductive DueS (mt im0 : Led) (F : Num → Bool) (rows : List Row) (m0 : Str → Option Value) (i : Nat) (m1 : Str → Option Value) : Led → Led → Prop
  | mk (dv : Value) (t : Tok) (im1 : Led) (hs : ∀ p ∈ im0, p ∈ im1) (hD : DatIn im1 dv (outD (pickOf F (pairsOf (rows.take i)) none))) (kp : Kept m1 m0 [(Str.ofString "due", dv), (Str.ofString "spot", .int (1 + ((pairsOf (rows.take i)).length : Int)) t)] [Str.ofString "due", Str.ofString "spot", Str.ofString "labels", Str.ofString "block", Str.ofString "label"]) :
    DueS mt im0 F rows m0 i m1 mt im1
theorem DueS.all {mt im0 : Led}{F : Num → Bool}{rows : List Row}{m0 : Str → Option Value}{i : Nat}{m1 : Str → Option Value} {P : Led → Led → Prop} (k : ∀ (dv : Value) (t : Tok) (im1 : Led), (∀ p ∈ im0, p ∈ im1) → (DatIn im1 dv (outD (pickOf F (pairsOf (rows.take i)) none))) → (Kept m1 m0 [(Str.ofString "due", dv), (Str.ofString "spot", .int (1 + ((pairsOf (rows.take i)).length : Int)) t)] [Str.ofString "due", Str.ofString "spot", Str.ofString "labels", Str.ofString "block", Str.ofString "label"]) → P mt im1) : ∀ mt1 im1, DueS mt im0 F rows m0 i m1 mt1 im1 → P mt1 im1 :=
  fun _ _ h => h.casesOn k
inductive DueT (e : Addr × Obj) (mt im0 : Led) (F : Num → Bool) (ps : List (Num × Str)) (l : List Num) (nm : Str) (m0 : Str → Option Value) (j : Nat) (m1 : Str → Option Value) : Led → Led → Prop
  | mk (dv : Value) (t : Tok) (im1 : Led) (hs : ∀ p ∈ im0, p ∈ im1) (hD : DatIn im1 dv (outD (pickOf F (ps ++ (l.take j).map fun x => (x, nm)) none))) (kp : Kept m1 m0 [(Str.ofString "due", dv), (Str.ofString "spot", .int (1 + (ps.length : Int) + (j : Int)) t)] [Str.ofString "due", Str.ofString "spot", Str.ofString "label"]) :
    DueT e mt im0 F ps l nm m0 j m1 (e :: mt) im1
theorem DueT.all {e : Addr × Obj}{mt im0 : Led}{F : Num → Bool}{ps : List (Num × Str)}{l : List Num}{nm : Str}{m0 : Str → Option Value}{j : Nat}{m1 : Str → Option Value} {P : Led → Led → Prop} (k : ∀ (dv : Value) (t : Tok) (im1 : Led), (∀ p ∈ im0, p ∈ im1) → (DatIn im1 dv (outD (pickOf F (ps ++ (l.take j).map fun x => (x, nm)) none))) → (Kept m1 m0 [(Str.ofString "due", dv), (Str.ofString "spot", .int (1 + (ps.length : Int) + (j : Int)) t)] [Str.ofString "due", Str.ofString "spot", Str.ofString "label"]) → P (e :: mt) im1) : ∀ mt1 im1, DueT e mt im0 F ps l nm m0 j m1 mt1 im1 → P mt1 im1 :=
  fun _ _ h => h.casesOn k
theorem DueT.snoc {e : Addr × Obj} {mt im0 im1 : Led} {F : Num → Bool} {ps : List (Num × Str)} {l : List Num} {nm : Str} {m0 m1 : Str → Option Value} {j : Nat} {dv : Value} {t : Tok} {x : Num} {q : Option Str} (hj : j < l.length) (hx : l[j] = x) (hP : pickOf F (ps ++ (l.take j).map fun x => (x, nm)) none = q) (hs : ∀ p ∈ im0, p ∈ im1) (hD : DatIn im1 dv (outD (pickOf F ((ps ++ (l.take j).map fun x => (x, nm)) ++ [(x, nm)]) none)))
    (kp : Kept m1 m0 [(Str.ofString "due", dv), (Str.ofString "spot", .int (1 + (ps.length : Int) + (j : Int) + 1) t)] [Str.ofString "due", Str.ofString "spot", Str.ofString "label"]) : DueT e mt im0 F ps l nm m0 (j + 1) m1 (e :: mt) im1 :=
  .mk dv t im1 hs (by rw [lab_snoc hj, hx, ← List.append_assoc]; exact hD) (by rw [spot_eq]; exact kp)
theorem DueS.next {mt im0 im1 : Led} {F : Num → Bool} {rows : List Row} {m0 m1 : Str → Option Value} {i : Nat} {dv : Value} {t : Tok} {n : Int} {ps : List (Num × Str)} (e : pairsOf (rows.take (i + 1)) = ps) (hs : ∀ p ∈ im0, p ∈ im1) (hD : DatIn im1 dv (outD (pickOf F ps none))) (hn : 1 + (ps.length : Int) = n)
    (kp : Kept m1 m0 [(Str.ofString "due", dv), (Str.ofString "spot", .int n t)] [Str.ofString "due", Str.ofString "spot", Str.ofString "labels", Str.ofString "block", Str.ofString "label"]) : DueS mt im0 F rows m0 (i + 1) m1 mt im1 :=
  .mk dv t im1 hs (by rw [e]; exact hD) (by rw [e, hn]; exact kp)
theorem fr_see6 {h₀ h : Heap} {L : Addr} {m : Str → Option Value} {y1 y2 y3 y4 y5 y6 : Str} {v1 v2 v3 v4 v5 v6 : Value} (F : Fr h₀ L h m) (e1 : m y1 = some v1) (e2 : m y2 = some v2) (e3 : m y3 = some v3) (e4 : m y4 = some v4) (e5 : m y5 = some v5) (e6 : m y6 = some v6) :
    Fr h₀ L h (fun z => if z = y1 then some v1 else if z = y2 then some v2 else if z = y3 then some v3 else if z = y4 then some v4 else if z = y5 then some v5 else if z = y6 then some v6 else m z) :=
  fr_map F fun z => see_if (m' := fun z => if z = y2 then some v2 else if z = y3 then some v3 else if z = y4 then some v4 else if z = y5 then some v5 else if z = y6 then some v6 else m z) e1
    (see_if (m' := fun z => if z = y3 then some v3 else if z = y4 then some v4 else if z = y5 then some v5 else if z = y6 then some v6 else m z) e2
      (see_if (m' := fun z => if z = y4 then some v4 else if z = y5 then some v5 else if z = y6 then some v6 else m z) e3
        (see_if (m' := fun z => if z = y5 then some v5 else if z = y6 then some v6 else m z) e4 (see_if (m' := fun z => if z = y6 then some v6 else m z) e5 (see_if (m' := m) e6 rfl)))))
section
variable (w : World) {prog : Program} {p : Program} {loose : List Str} {mean : ExcName → Option Value} {mg mb : Str → Option Value} {dp un : Nat} {gd : Option (List Code)} {cn : Str} {ca : Addr} {ccd : Value} {A₀ : Around} {base h₀ : Heap} {L : Addr} {m : Str → Option Value} {s : Shared} {R : Value → Shared → Prop} {Qf : Flow → Shared → Prop}
  {c1 c2 c3 c4 c5 c6 c7 : Addr}
theorem blkD4 {rl nl : Addr} {rv nv : Array Value} {kr kn : Nat} {rows : List Row} {subj : Num} {xu Wd : Int} {sg : Bool} {oU : Obj} {rs dl : Value} {tw t1 : Tok} {mt im : Led}
    (B : Below A₀ base [] h₀) (F : Fr h₀ L s.heap m) (X : (K w.params).In h₀) (T : Top p loose mean mg mb h₀) (hd : dp + 60 < recursionLimit) (hu : un + 2000 < cLine)
    (N : News h₀ L s.heap (mt ++ im)) (S : Sep mt im) (hn : (nl, W.listOf nv kn) ∈ im) (hA : AllM numD1 im nv (subj :: (pairsOf rows).map (·.1))) (hr : (rl, W.listOf rv kr) ∈ im) (hB : AllM rowItemD im rv rows) (hO : RowsOk rows xu) (hs : NumOk subj.1)
    (mU : (c2, oU) ∈ im) (dU : oU.data = .cell (some rs)) (hS : AllM numD1 im #[rs] [subj]) (hW1 : 1 ≤ Wd) (hW2 : Wd ≤ 12)
    (e1 : m (Str.ofString "rows") = some (.ref rl)) (e2 : m (Str.ofString "numbers") = some (.ref nl)) (e3 : m (Str.ofString "wide") = some (.int Wd tw)) (e4 : m (Str.ofString "signed") = some (.bool sg)) (e5 : m (Str.ofString "due") = some dl) (hdl : DatIn im dl (.list [])) (e6 : m (Str.ofString "spot") = some (.int 1 t1))
    (ret : ∀ h' tk' m' im' dl', Fr h₀ L h' m' → m' (Str.ofString "rows") = some (.ref rl) → m' (Str.ofString "due") = some dl' → DatIn im' dl' (outD (pickOf (fun x => decide (wideOf x.1 Wd sg = wideOf subj.1 Wd sg)) (pairsOf rows) none)) →
      News h₀ L h' (mt ++ im') → (∀ p ∈ im, p ∈ im') → Sep mt im' → Qf .next { s with heap := h', toks := tk' }) :
    wpAny (model prog w) (ktrTop dp un gd cn dLaw.scope L ca ccd (lawCl c1 c2 c3 c4 c5 c6 c7) []) (execs ((dLaw.body.drop 21).take 1) (envX cn dLaw.scope L ca ccd (lawCl c1 c2 c3 c4 c5 c6 c7))) Qf (lawE (model prog w) (ktrTop dp un gd cn dLaw.scope L ca ccd (lawCl c1 c2 c3 c4 c5 c6 c7) []) (envX cn dLaw.scope L ca ccd (lawCl c1 c2 c3 c4 c5 c6 c7)) R) s := by
  unfold dLaw lawE
  dsimp only [List.drop, List.take]
  have mk1 : MkEq := ⟨⟩
  have mk2 : MkSb := ⟨⟩
  replace F := fr_see6 F e1 e2 e3 e4 e5 e6
  k_with "exec For Tuple Name cons nil" => walk_at "my for"
  k_steps
  unfold StopHere
  (try simp only [])
  refine list_turns (mt := mt) (im := im) (DueS mt im (fun x => decide (wideOf x.1 Wd sg = wideOf subj.1 Wd sg)) rows) rfl (k := kr) (vs := rv.toList) (by rw [Array.toArray_toList]; exact hr) (by k_asm) N S (.mk dl _ _ id_sub hdl (by walk_at "my kept")) ?bT ?bD
  case bT =>
    intro G9 hG9 i9 v9 m9 mt9 im9 h9 tk9 I9 oI9 hi9 hv9 hq1_11
    revert mt9 im9
    refine DueS.all fun dv9 t9 im9 hs9 hD9 k9 => ?_
    obtain ⟨hi8, hd8⟩ := dat_atM (hB.all.mono hs9) hv9
    clear hv9 N
    generalize hrow : rows[i9] = row9 at hd8
    obtain ⟨lab9, nm9⟩ := row9
    cases lab9 with
    | none =>
      revert v9 hd8
      refine opd_all ?_
      walk_at "my opn"
      refine hG9 ?_
      clear hG9
      intro F9 N9 S9 hI9 hr9
      have F8 := k9.fr F9
      clear F9
      k_steps
      show TEnd _ _ _ _ _ _ _ _
      walk_at "my tend"
      exact DueS.next (pairs_take_none hi8 (by rw [hrow])) (by walk_at "my sub") (res_mono hD9 (by walk_at "my sub")) rfl (by walk_at "my kept")
    | some l9 =>
      have hl9 := hO.lab rows[i9] (List.getElem_mem hi8) l9 (by rw [hrow])
      revert v9 hd8
      refine opd_all ?_
      walk_at "my opn"
      refine hG9 ?_
      clear hG9
      intro F9 N9 S9 hI9 hr9
      have F8 := k9.fr F9
      clear F9
      k_steps
      unfold StopHere
      (with_reducible rename DatAll _ _ (List.map srcN _) => hL9)
      have hL8 := hL9.length
      rw [List.length_map] at hL8
      refine tup_turns (mt := (I9, oI9) :: mt) (im := im9) (DueT (I9, oI9) mt im9 (fun x => decide (wideOf x.1 Wd sg = wideOf subj.1 Wd sg)) (pairsOf (rows.take i9)) l9 nm9) rfl (by with_reducible assumption) (by k_asm) (by k_asm) S9
        (.mk dv9 t9 _ id_sub (by simpa using hD9) ?kk) ?iT ?iD
      case kk => (rw [show 1 + ((pairsOf (rows.take i9)).length : Int) + ((0 : Nat) : Int) = 1 + ((pairsOf (rows.take i9)).length : Int) by omega]; walk_at "my kept")
      case iT =>
        intro G9 hG9 j8 v8 m8 mt8 im8 h8 tk8 I8 oI8 hj8 hv8 hq2_11
        revert mt8 im8
        refine DueT.all fun dv8 t8 im8 hs8 hD8 k8 => ?_
        obtain ⟨p8, rfl⟩ := outD_ref hD8
        clear hv8
        rw [hL8] at hj8
        have hP9 : (pairsOf (rows.take i9)).length ≤ 6 := by
          have h1 := pairs_len (rs := rows.take i9) fun r h l e => (hO.lab r (List.mem_of_mem_take h) l e).1
          have h2 := hO.len
          rw [List.length_take] at h1
          omega
        have hnx := nums_at (subj := subj) hi8 (by rw [hrow]) hj8
        have hx7 := hl9.2 l9[j8] (List.getElem_mem hj8)
        generalize hP : pickOf (fun x => decide (wideOf x.1 Wd sg = wideOf subj.1 Wd sg)) (pairsOf (rows.take i9) ++ (l9.take j8).map fun x => (x, nm9)) none = P8 at hD8
        have hn8 := hs8 _ (up hs9 hn)
        have mU8 := hs8 _ (up hs9 mU)
        have hS8 := (hS.mono (fun p hp => hs8 p (hs9 p hp))).all
        cases P8 with
        | none =>
          refine hG9 ?_
          clear hG9
          intro F7 N8 S8 hI8 hq7
          have F8 := k8.fr F7
          clear F7 hq7
          k_steps
          unfold StopHere
          (with_reducible rename News _ _ _ _ => N5)
          refine eq_dat (im := (_, W.listOf #[] 0) :: im8) (d := .list []) (d' := .list []) N5 (by walk_at "my perm") (hD8.mono fun p hp => .tail _ hp) (.list (.head _) .nil) rfl rfl (by walk_at "my units") eqv_nil ?_
          have N6 := news_tail N5
          clear N5
          k_steps
          unfold StopHere
          refine item_dat (x := l9[j8]) (im := im8) (by k_asm) (by k_mem) (hA.all.mono (by walk_at "my sub")) hnx (by omega) (by omega) ?_ (by with_unfolding_all rfl) (by intro _; with_unfolding_all rfl)
          intro vx hvx
          generalize hx6 : l9[j8] = x6 at hvx hx7
          obtain ⟨bs6, sg6⟩ := x6
          k_steps
          have hS6 : DatIn im8 rs (numberD subj.1 subj.2) := (all_cons1 hS8)
          (with_reducible rename DatIn _ _ (bitD (wideOf _ _ _)) => hR1)
          k_steps
          (with_reducible rename DatIn _ _ (bitD (wideOf _ _ _)) => hR2)
          (with_reducible rename News _ _ _ _ => N7)
          (try simp only [List.cons_append, List.nil_append, List.append_eq] at N7)
          by_cases hh : wideOf bs6 Wd sg = wideOf subj.1 Wd sg
          · refine eq_bits (im := im9w) N7 (cons_sub (cons_sub (app_r id_sub))) (hR1.mono (by walk_at "my sub")) (hR2.mono (by walk_at "my sub")) (by walk_at "my units") (decide_eq_true hh) ?_
            k_steps
            show TEnd _ _ _ _ _ _ _ _
            (with_reducible rename News _ _ _ _ => N3)
            (with_reducible rename Sep _ _ => S3)
            (with_reducible rename _ ∧ _ => l7)
            refine' tend2 (by k_asm) N3 S3 l7 hI8 ?src (DueT.snoc (dv := .ref _) hj8 hx6 hP ?z1 (by rw [pick_snoc, hP]; simp only [hh, decide_true, if_true]; exact DatIn.list (.head _) (.cons (DatIn.mono (fun p hp => .tail _ hp) (by walk_at "my dat")) .nil)) (by walk_at "my kept"))
            case src => (refine src1 ?_; walk_at "my mem")
            case z1 => walk_at "my sub"
          · refine eq_bits (im := im9w) N7 (cons_sub (cons_sub (app_r id_sub))) (hR1.mono (by walk_at "my sub")) (hR2.mono (by walk_at "my sub")) (by walk_at "my units") (decide_eq_false hh) ?_
            k_steps
            show TEnd _ _ _ _ _ _ _ _
            walk_at "my tend"
            exact DueT.snoc (dv := .ref p8) hj8 hx6 hP (by walk_at "my sub") (by rw [pick_snoc, hP]; simp only [hh, decide_false, Bool.false_eq_true, if_false]; exact hD8.mono (by walk_at "my sub")) (by walk_at "my kept")
        | some nm =>
          have hnm : PyData.strOk nm = true := by
            obtain ⟨q, hq, rfl⟩ := pick_name hP
            rcases List.mem_append.mp hq with hq | hq
            · obtain ⟨r, hr, e⟩ := pairs_name hq
              rw [← e]; exact hO.names r (List.mem_of_mem_take hr)
            · obtain ⟨x, _, rfl⟩ := List.mem_map.mp hq
              have := hO.names rows[i9] (List.getElem_mem hi8)
              rw [hrow] at this; exact this
          refine hG9 ?_
          clear hG9
          intro F7 N8 S8 hI8 hq7
          have F8 := k8.fr F7
          clear F7 hq7
          k_steps
          unfold StopHere
          (with_reducible rename News _ _ _ _ => N5)
          refine eq_dat (im := (_, W.listOf #[] 0) :: im8) (d := .list [.tuple [.str nm, .tuple [], .tuple []]]) (d' := .list []) N5 (by walk_at "my perm") (hD8.mono fun p hp => .tail _ hp) (.list (.head _) .nil) (out_ok hnm) rfl (by walk_at "my units") (eqv_one nm) ?_
          have N6 := news_tail N5
          clear N5
          k_steps
          show TEnd _ _ _ _ _ _ _ _
          walk_at "my tend"
          exact DueT.snoc (dv := .ref p8) hj8 rfl hP (by walk_at "my sub") (by rw [pick_snoc, hP]; exact hD8) (by walk_at "my kept")
      case iD =>
        intro G9 hG9 m8 mt8 im8 h8 tk8 hq3_5
        revert mt8 im8
        refine DueT.all fun dv8 t8 im8 hs8 hD8 k8 => ?_
        refine hG9 ?_
        clear hG9
        intro F7 N8 S8
        have F8 := k8.fr F7
        clear F7
        k_steps
        show TEnd _ _ _ _ _ _ _ _
        walk_at "my tend"
        rw [hL8, List.take_length] at hD8
        exact DueS.next (by rw [pairs_take_some hi8 (by rw [hrow]), hrow]) (by walk_at "my sub") hD8 (by rw [List.length_append, List.length_map, ← hL8, spot_eq2]) (by walk_at "my kept")
  case bD =>
    intro G9 hG9 m9 mt9 im9 h9 tk9 hq4_5
    revert mt9 im9
    refine DueS.all fun dv9 t9 im9 hs9 hD9 k9 => ?_
    refine hG9 ?_
    clear hG9
    intro F9 N9 S9
    have F8 := k9.fr F9
    clear F9 N
    k_steps
    have hV9 := hB.length
    rw [hV9, List.take_length] at hD9
    exact ret _ _ _ _ _ (by k_asm) rfl rfl hD9 N9 hs9 S9
end


theorem dat_ok_rows {l r : Int} : ∀ (ks : List Int), (∀ d ∈ ks.map (rowD l r), dOk 7 d = true) := by
  intro ks d hd
  obtain ⟨k, _, rfl⟩ := List.mem_map.mp hd
  have h : PyData.strOk (txt (l + stp l r * k)) = true := strOk_app (strOk_app (strOk_app (strOk_of "u") (strOk_of "[")) (strOk_of _)) (strOk_of "]")
  simp [rowD, dOk, h]
theorem due_ok (l r : Int) : dOk 8 (dueD l r) = true := by
  simp only [dueD, dOk, List.all_eq_true]
  exact dat_ok_rows _
theorem last_eq {l r : Int} : Dat.tuple [.str ((Str.ofString "u[" ++ Str.ofString (toString r)) ++ Str.ofString "]"), .int (cnt l r - 1), .int (cnt l r)] = rowD l r (cnt l r - 1) := by
  by_cases h : l ≤ r
  · have e := rowD_up (n := (r - l).toNat) h
    have e1 : l + ((r - l).toNat : Int) * 1 = r := by omega
    have e2 : ((r - l).toNat : Int) = cnt l r - 1 := by unfold cnt; omega
    rw [e1, cnt_eq, e2] at e
    exact e
  · have e := rowD_dn (n := (l - r).toNat) h
    have e1 : l + ((l - r).toNat : Int) * -1 = r := by omega
    have e2 : ((l - r).toNat : Int) = cnt l r - 1 := by unfold cnt; omega
    rw [e1, cnt_eq, e2] at e
    exact e
theorem dat_last {im : Led} {vs : List Value} {l r : Int} (h : DatAll im vs ((rangeKs 0 (cnt l r).toNat).map (rowD l r))) (hp : 0 < vs.length) : ∃ v, vs[(-1 + (vs.length : Int)).toNat]? = some v ∧ DatIn im v (rowD l r (cnt l r - 1)) := by
  have hl := h.length
  rw [List.length_map, rangeKs_length] at hl
  have hi : (-1 + (vs.length : Int)).toNat < vs.length := by omega
  refine ⟨vs[(-1 + (vs.length : Int)).toNat], List.getElem?_eq_getElem hi, ?_⟩
  obtain ⟨hj, hd⟩ := dat_at h (List.getElem?_eq_getElem hi)
  rw [List.getElem_map] at hd
  have e : (rangeKs 0 (cnt l r).toNat)[(-1 + (vs.length : Int)).toNat]'(by rw [rangeKs_length]; omega) = cnt l r - 1 := by
    unfold rangeKs
    simp
    omega
  rw [e] at hd
  exact hd
theorem row_ok1 (l r k : Int) : dOk 8 (rowD l r k) = true := by
  have h : PyData.strOk (txt (l + stp l r * k)) = true := strOk_app (strOk_app (strOk_app (strOk_of "u") (strOk_of "[")) (strOk_of _)) (strOk_of "]")
  simp [rowD, dOk, h]
section
variable (w : World) {prog : Program} {p : Program} {loose : List Str} {mean : ExcName → Option Value} {mg mb : Str → Option Value} {dp un : Nat} {gd : Option (List Code)} {cn : Str} {ca : Addr} {ccd : Value} {A₀ : Around} {base h₀ : Heap} {L : Addr} {m : Str → Option Value} {s : Shared} {E : Value → Shared → Prop} {Qf : Flow → Shared → Prop}
  {c1 c2 c3 c4 c5 c6 c7 : Addr}
theorem blkT2 {oR oS : Obj} {l r : Int} {tr : Tok} {sc vd vt : Value} {mt im : Led}
    (B : Below A₀ base [] h₀) (F : Fr h₀ L s.heap m) (X : (K w.params).In h₀) (T : Top p loose mean mg mb h₀) (hd : dp + 100 < recursionLimit) (hu : un + 3000 < cLine)
    (N : News h₀ L s.heap (mt ++ im)) (S : Sep mt im) (mR : (c5, oR) ∈ im) (dR : oR.data = .cell (some (.int r tr))) (mS : (c6, oS) ∈ im) (dS : oS.data = .cell (some sc))
    (hl : -9 ≤ l ∧ l ≤ 10) (hr : -300 ≤ r ∧ r ≤ 300)
    (e1 : m (Str.ofString "due") = some vd) (e2 : m (Str.ofString "told") = some vt)
    (hD : (l - r).natAbs < 200 ∧ DatIn im vd (dueD l r) ∨ 200 ≤ (l - r).natAbs ∧ ∃ t, vd = .int (cnt l r) t)
    (hT : (l - r).natAbs < 256 ∧ DatIn im vt (dueD l r) ∨ 256 ≤ (l - r).natAbs ∧ ∃ t, vt = .str (Str.ofString "generate_limit") t)
    (ret : ∀ h' tk' m' im', Fr h₀ L h' m' → News h₀ L h' (mt ++ im') → (∀ p ∈ im, p ∈ im') → Sep mt im' → Qf .next { s with heap := h', toks := tk' }) :
    wpAny (model prog w) (ktrTop dp un gd cn dLaw.scope L ca ccd (lawCl c1 c2 c3 c4 c5 c6 c7) []) (execs ((dLaw.body.drop 6).take 1) (envX cn dLaw.scope L ca ccd (lawCl c1 c2 c3 c4 c5 c6 c7))) Qf E s := by
  unfold dLaw
  dsimp only [List.drop, List.take]
  have mk1 : MkNe := ⟨⟩
  have mk2 : MkSb := ⟨⟩
  replace F := fr_see3 F e1 e2 e2
  rcases hD with ⟨hD1, hD2⟩ | ⟨hD1, t9, rfl⟩
  · rcases hT with ⟨hT1, hT2⟩ | ⟨hT1, _⟩
    · obtain ⟨p8, u8, n8, rfl, hm8, hu8⟩ := dat_list hD2
      obtain ⟨p7, u7, n7, rfl, hm7, hu7⟩ := dat_list hT2
      k_steps
      unfold StopHere
      refine same_ne (by k_asm) (im := im) (app_r id_sub) hT2 hD2 (due_ok l r) (by walk_at "my units") ?_
      k_steps
      exact ret _ _ _ im (by k_asm) N id_sub S
    · omega
  · rcases hT with ⟨hT1, hT2⟩ | ⟨hT1, t8, rfl⟩
    · obtain ⟨p7, u7, n7, rfl, hm7, hu7⟩ := dat_list hT2
      have hc1 : cnt l r ≤ 256 := by unfold cnt; omega
      have hc2 : 201 ≤ cnt l r := by unfold cnt; omega
      have hc3 : (u7.length : Int) = cnt l r := by
        have := hu7.length
        rw [List.length_map, rangeKs_length] at this
        omega
      k_steps
      · exact absurd hc3 (by with_reducible assumption)
      unfold StopHere
      obtain ⟨v5, hv5, hd5⟩ := dat_last hu7 (by omega)
      refine kim_back (by k_asm) (List.mem_append.mpr (.inr hm7)) rfl rfl (by decide) (by omega) (by decide) hv5 ?_ (by with_unfolding_all rfl) (by intro _; with_unfolding_all rfl)
      k_steps
      (with_reducible rename Sep _ _ => S9)
      (with_reducible rename ∀ p ∈ im, p ∈ im'w => hs9)
      refine same_ne (by k_asm) (im := im'w) (app_r id_sub) (hd5.mono hs9) (dat_eq ?q1 last_eq) (row_ok1 _ _ _) (by walk_at "my units") ?q2
      case q1 => walk_at "my dat"
      case q2 =>
        k_steps
        exact ret _ _ _ im'w (by k_asm) (by with_reducible assumption) hs9 S9
    · have hc2 : 257 ≤ cnt l r := by unfold cnt; omega
      k_steps
      exact ret _ _ _ im (by k_asm) N id_sub S
theorem blkT3 {oS : Obj} {sc : Value} {mt im : Led}
    (B : Below A₀ base [] h₀) (F : Fr h₀ L s.heap m) (X : (K w.params).In h₀) (T : Top p loose mean mg mb h₀) (hd : dp + 100 < recursionLimit) (hu : un + 3000 < cLine)
    (N : News h₀ L s.heap (mt ++ im)) (S : Sep mt im) (mS : (c6, oS) ∈ im) (dS : oS.data = .cell (some sc))
    (ret : ∀ h' tk' im', Fr h₀ L h' m → News h₀ L h' (mt ++ im') → (∀ p ∈ im, p ∈ im') → Sep mt im' → Qf .next { s with heap := h', toks := tk' }) :
    wpAny (model prog w) (ktrTop dp un gd cn dLaw.scope L ca ccd (lawCl c1 c2 c3 c4 c5 c6 c7) []) (execs ((dLaw.body.drop 7).take 1) (envX cn dLaw.scope L ca ccd (lawCl c1 c2 c3 c4 c5 c6 c7))) Qf E s := by
  unfold dLaw
  dsimp only [List.drop, List.take]
  have mk1 : MkNe := ⟨⟩
  have mk2 : MkSb := ⟨⟩
  k_steps
  k_dflt (refine' pure_use (rows_none_ok _ _ _ _) ?B ?F ?K ?N ?T ?hk ?hX ?hS ?hv ?hD ?hd ?hu ?_; walk_at "my args")
  intro r9 h9 tk9 im9 F9 N9 hs9 S9 hD9
  k_steps
  (with_reducible rename Sep _ _ => S6)
  (with_reducible rename ∀ p ∈ im9, p ∈ im'w => hs6)
  (with_reducible rename News _ _ _ _ => N6)
  refine same_ne (d := .list [.tuple [.str (Str.ofString "u"), .int 0, .int 1]]) N6 (im := (_, W.listOf #[_] 0) :: im'w) (by walk_at "my perm") (hD9.mono fun p hp => .tail _ (hs6 p hp)) (DatIn.list (.head _) (.cons (DatIn.mono (fun p hp => .tail _ hp) (by walk_at "my dat")) .nil)) (by simp [dOk, strOk_of]) (by walk_at "my units") ?_
  k_steps
  exact ret _ _ im'w (by k_asm) (news_tail N6) (fun p hp => hs6 p (hs9 p hp)) S6
end


abbrev defpD (nms : List Dat) (bs : List Int) (sg : Bool) : Dat := .tuple [.str (Str.ofString "defparam"), .int 4, .tuple nms, srcD bs sg]
theorem defparam_raise (w : World) (sc : Value) (nms : List Dat) (bs : List Int) (sg : Bool) (hn : nms = [.str (Str.ofString "u")] ∨ nms = [.str (Str.ofString "u"), .str (Str.ofString "n"), .str (Str.ofString "k")]) (mt im : Led) (vs : List Value) (hS : Sep mt im) (hD : DatAll im vs [defpD nms bs sg]) :
    CallRaise w 1159 44 900 ([sc] ++ vs) (mt ++ im) (Str.ofString "defparam_path") := by
  rcases hn with rfl | rfl
  all_goals (
    revert vs hD
    refine opl_all ?_
    walk_at "my opn"
    unfold CallRaise; intro prog p loose mean mg mb dp un gd cn cs ca ccd cl outer A₀ base h₀ L m s Q E B F X N T hk hd hu hret
    walk_at "my enter"
    k_steps
    walk_at "my raised"
    (with_reducible rename RaisedD _ _ _ _ _ _ _ _ => R9)
    (with_reducible rename DNs _ _ => D9)
    (with_reducible rename Heap.UpToSlots _ _ => U9)
    refine hret _ _ _ _ _ _ _ _ (by k_asm) (R9.sub fun p hp => ?_) D9 (by with_reducible assumption) U9
    exact (List.mem_append.mp hp).elim (fun h => List.mem_append.mpr (.inl h)) fun h => List.mem_append.mpr (.inr h))
abbrev topuD : Dat := .str ((Str.ofString "top" ++ Str.ofString ".") ++ Str.ofString "u")
theorem defparam_ok (w : World) (x d xd de : Addr) (k1 k2 k3 k4 k5 k6 k7 k8 k9 v2 v4 v5 v6 v9 : Tok) (bs : List Int) (sg : Bool) (hb : NumOk bs) (mt im : Led) (v : Value) (hS : Sep mt im) (hx : (x, instObj 1302 d) ∈ im) (hd' : (d, scDict w xd de k1 k2 k3 k4 k5 k6 k7 k8 k9 v2 v4 v5 v6 v9) ∈ im)
    (hD : DatIn im v (defpD [.str (Str.ofString "u"), .str (Str.ofString "n")] bs sg)) :
    CallOk w 1159 44 900 [.ref x, v] (mt ++ im) (PD mt im (.tuple [topuD, .str (Str.ofString "n"), .tuple [vecD bs.length (lowOf bs) (highOf bs), .bool sg]])) := by
  obtain ⟨f1, f2, f3, f4, f5, f6⟩ := num_facts (x := (bs, sg)) hb
  revert v hD
  refine opd_all ?_
  walk_at "my opn"
  unfold CallOk; intro prog p loose mean mg mb dp un gd cn cs ca ccd cl outer A₀ base h₀ L m s Q E B F X N T hk hd hu hret
  walk_at "my enter"
  k_steps
  walk_at "my fin"; walk_at "my dat"


theorem a2_pick {h₀ h : Heap} {L : Addr} {e1 e2 e3 e4 : Addr × Obj} {X : Led} (N : News h₀ L h (e1 :: e2 :: e3 :: e4 :: X)) : News h₀ L h (e1 :: e3 :: e4 :: X) := news_of N (by walk_at "my perm")
theorem left_bnd (x : Int) : -9 ≤ x.fmod 20 - 9 ∧ x.fmod 20 - 9 ≤ 10 := by rw [Int.fmod_eq_emod_of_nonneg _ (by decide)]; omega
theorem getD_bnd : ∀ (l : List Int) (i : Nat), (∀ y ∈ l, -256 ≤ y ∧ y ≤ 256) → -256 ≤ l.getD i 0 ∧ l.getD i 0 ≤ 256
  | [], i, _ => by simp
  | y :: l, 0, h => h y (.head _)
  | y :: l, i + 1, h => getD_bnd l i fun z hz => h z (.tail _ hz)
theorem right_bnd (x : Int) (i : Nat) : -300 ≤ x.fmod 20 - 9 + [0, 1, -1, 5, -7, 11, 255, -255, 256, -256].getD i 0 ∧ x.fmod 20 - 9 + [0, 1, -1, 5, -7, 11, 255, -255, 256, -256].getD i 0 ≤ 300 := by
  have h1 := left_bnd x
  have h2 := getD_bnd [0, 1, -1, 5, -7, 11, 255, -255, 256, -256] i (by decide)
  omega
section
variable (w : World) {prog : Program} {p : Program} {loose : List Str} {mean : ExcName → Option Value} {mg mb : Str → Option Value} {dp un : Nat} {gd : Option (List Code)} {cn : Str} {ca : Addr} {ccd : Value} {A₀ : Around} {base h₀ : Heap} {L : Addr} {m : Str → Option Value} {s : Shared} {E : Value → Shared → Prop} {Qf : Flow → Shared → Prop}
  {c1 c2 c3 c4 c5 c6 c7 : Addr}
theorem blkA2 {rw : Addr} {us : List Value} {n : Nat} {oR o3 o5 : Obj} {mt im : Led}
    (B : Below A₀ base [] h₀) (F : Fr h₀ L s.heap m) (X : (K w.params).In h₀) (T : Top p loose mean mg mb h₀) (hd : dp + 60 < recursionLimit) (hu : un + 2000 < cLine)
    (N : News h₀ L s.heap ((rw, W.listOf us.toArray n) :: (c3, o3) :: (c5, o5) :: (mt ++ im))) (hR : RowIs us) (mR : (c1, oR) ∈ im) (dR : oR.data = .cell (some (.ref rw))) (d3 : o3.data = .cell none) (d5 : o5.data = .cell none)
    (S : Sep ((rw, W.listOf us.toArray n) :: (c3, o3) :: (c5, o5) :: mt) im) (n1 : @Ne Nat rw c3) (n2 : @Ne Nat rw c5) (n3 : @Ne Nat c3 c5) (q1 : ∀ p ∈ mt, p.1 ≠ rw) (q3 : ∀ p ∈ mt, p.1 ≠ c3) (q5 : ∀ p ∈ mt, p.1 ≠ c5)
    (ret : ∀ h' tk' us' n' o3' o5' l r tl tr im', Fr h₀ L h' m → News h₀ L h' ((rw, W.listOf us' n') :: (c3, o3') :: (c5, o5') :: (mt ++ im')) → RowIs us'.toList → o3'.data = .cell (some (.int l tl)) → o5'.data = .cell (some (.int r tr)) → -9 ≤ l ∧ l ≤ 10 → -300 ≤ r ∧ r ≤ 300 → (∀ p ∈ im, p ∈ im') → Sep ((rw, W.listOf us.toArray n) :: (c3, o3) :: (c5, o5) :: mt) im' → Qf .next { s with heap := h', toks := tk' }) :
    wpAny (model prog w) (ktrTop dp un gd cn dLaw.scope L ca ccd (lawCl c1 c2 c3 c4 c5 c6 c7) []) (execs ((dLaw.body.drop 2).take 2) (envX cn dLaw.scope L ca ccd (lawCl c1 c2 c3 c4 c5 c6 c7))) Qf E s := by
  unfold dLaw
  dsimp only [List.drop, List.take]
  have mk1 : MkSb := ⟨⟩
  k_steps
  (with_reducible rename News _ _ _ _ => N7)
  (with_reducible rename RowIs _ => hR9)
  exact ret _ _ _ _ _ _ _ _ _ _ im (by k_asm) (a2_pick N7) hR9 (by with_reducible assumption) (by with_reducible assumption) (left_bnd _) (right_bnd _ _) id_sub S
end


theorem nat_of3 {x : Int} (_h : x < 1024) : ∃ a : Nat, 1 + x.fmod 3 = (a : Int) ∧ (a = 1 ∨ a = 2 ∨ a = 3) := by
  have h : 0 ≤ x.fmod 3 ∧ x.fmod 3 < 3 := by rw [Int.fmod_eq_emod_of_nonneg _ (by decide)]; omega
  exact ⟨(1 + x.fmod 3).toNat, by omega, by omega⟩
theorem nms_of {im : Led} {t6 : Addr} {k6 a : Nat} {t1 t2 t3 : Tok} (h : (t6, tupO (List.take a [Value.str (Str.ofString "u") t1, Value.str (Str.ofString "n") t2, Value.str (Str.ofString "k") t3]) k6) ∈ im) (ha : a = 1 ∨ a = 2 ∨ a = 3) :
    ∃ nms, DatIn im (.ref t6) (.tuple nms) ∧ (nms = [.str (Str.ofString "u")] ∨ nms = [.str (Str.ofString "u"), .str (Str.ofString "n")] ∨ nms = [.str (Str.ofString "u"), .str (Str.ofString "n"), .str (Str.ofString "k")]) := by
  rcases ha with rfl | rfl | rfl
  · exact ⟨_, .tuple h (.cons (.str _ _) .nil), .inl rfl⟩
  · exact ⟨_, .tuple h (.cons (.str _ _) (.cons (.str _ _) .nil)), .inr (.inl rfl)⟩
  · exact ⟨_, .tuple h (.cons (.str _ _) (.cons (.str _ _) (.cons (.str _ _) .nil))), .inr (.inr rfl)⟩
section
variable (w : World) {prog : Program} {p : Program} {loose : List Str} {mean : ExcName → Option Value} {mg mb : Str → Option Value} {dp un : Nat} {gd : Option (List Code)} {cn : Str} {ca : Addr} {ccd : Value} {A₀ : Around} {base h₀ : Heap} {L : Addr} {m : Str → Option Value} {s : Shared} {E : Value → Shared → Prop} {Qf : Flow → Shared → Prop}
  {c1 c2 c3 c4 c5 c6 c7 : Addr}
theorem blkC1 {rw : Addr} {us : List Value} {n : Nat} {oR o4 o7 : Obj} {mt im : Led}
    (B : Below A₀ base [] h₀) (F : Fr h₀ L s.heap m) (X : (K w.params).In h₀) (T : Top p loose mean mg mb h₀) (hd : dp + 60 < recursionLimit) (hu : un + 2000 < cLine)
    (N : News h₀ L s.heap ((rw, W.listOf us.toArray n) :: (c4, o4) :: (c7, o7) :: (mt ++ im))) (hR : RowIs us) (mR : (c1, oR) ∈ im) (dR : oR.data = .cell (some (.ref rw))) (d4 : o4.data = .cell none) (d7 : o7.data = .cell none)
    (S : Sep ((rw, W.listOf us.toArray n) :: (c4, o4) :: (c7, o7) :: mt) im) (n1 : @Ne Nat rw c4) (n2 : @Ne Nat rw c7) (n3 : @Ne Nat c4 c7) (q1 : ∀ p ∈ mt, p.1 ≠ rw) (q4 : ∀ p ∈ mt, p.1 ≠ c4) (q7 : ∀ p ∈ mt, p.1 ≠ c7)
    (ret : ∀ h' tk' us' n' o4' o7' vn vv nms bs sg im', Fr h₀ L h' m → News h₀ L h' ((rw, W.listOf us' n') :: (c4, o4') :: (c7, o7') :: (mt ++ im')) → RowIs us'.toList → o4'.data = .cell (some vn) → o7'.data = .cell (some vv) → DatIn im' vv (numberD bs sg) → NumOk bs → DatIn im' vn (.tuple nms) →
      (nms = [.str (Str.ofString "u")] ∨ nms = [.str (Str.ofString "u"), .str (Str.ofString "n")] ∨ nms = [.str (Str.ofString "u"), .str (Str.ofString "n"), .str (Str.ofString "k")]) → (∀ p ∈ im, p ∈ im') → Sep ((rw, W.listOf us.toArray n) :: (c4, o4) :: (c7, o7) :: mt) im' → Qf .next { s with heap := h', toks := tk' }) :
    wpAny (model prog w) (ktrTop dp un gd cn dLaw.scope L ca ccd (lawCl c1 c2 c3 c4 c5 c6 c7) []) (execs ((dLaw.body.drop 8).take 2) (envX cn dLaw.scope L ca ccd (lawCl c1 c2 c3 c4 c5 c6 c7))) Qf E s := by
  unfold dLaw
  dsimp only [List.drop, List.take]
  have mk1 : MkSb := ⟨⟩
  k_steps
  unfold StopHere
  (with_reducible rename (_ : Int) < 1024 => hx5)
  obtain ⟨a5, ea5, ha5⟩ := nat_of3 hx5
  rw [ea5]
  (with_reducible rename (_, tupO [Value.str _ _, Value.str _ _, Value.str _ _] 0) ∈ _ => hm5)
  k_dflt (refine' tup_to ?F ?N ?X ?S hm5 ?ha ?_ ?s ?t ?z)
  case F => k_asm
  case N => k_asm
  case X => walk_at "my spl"
  case S => walk_at "my sep"
  case ha => (show a5 ≤ 3; omega)
  case s => with_unfolding_all rfl
  case t => (intro _; with_unfolding_all rfl)
  case z => (show 3 ≤ 16384; omega)
  intro r6 im6 h6 F6 N6 hs6 S6 hr6
  obtain ⟨t6, k6, rfl, hm6⟩ := hr6
  (try simp only [List.cons_append, List.nil_append, List.append_eq] at N6)
  obtain ⟨nms, hn6, hn7⟩ := nms_of hm6 ha5
  k_steps
  (with_reducible rename News _ _ _ _ => N7)
  (with_reducible rename RowIs _ => hR9)
  (with_reducible rename DatIn _ _ (numberD _ _) => hV9)
  (with_reducible rename NumOk _ => hb9)
  exact ret _ _ _ _ _ _ _ _ nms _ _ im6 (by k_asm) N7 hR9 (by with_reducible assumption) (by with_reducible assumption) (hV9.mono (by walk_at "my sub")) hb9 hn6 hn7 (by walk_at "my sub") (sep_addr S6 rfl)
end


section
variable (w : World) {prog : Program} {p : Program} {loose : List Str} {mean : ExcName → Option Value} {mg mb : Str → Option Value} {dp un : Nat} {gd : Option (List Code)} {cn : Str} {ca : Addr} {A₀ : Around} {base h₀ : Heap} {L : Addr} {m : Str → Option Value} {s : Shared} {E : Value → Shared → Prop} {Qf : Flow → Shared → Prop}
  {c1 c2 c3 c4 c5 c6 c7 : Addr}
theorem blkC2 {o4 o7 oS : Obj} {x d xd de a1 : Addr} {k1 k2 k3 k4 k5 k6 k7 k8 k9 v2 v4 v5 v6 v9 : Tok} {vn vv : Value} {nms : List Dat} {bs : List Int} {sg : Bool} {mt im : Led}
    (B : Below A₀ base [] h₀) (F : Fr h₀ L s.heap m) (X : (K w.params).In h₀) (T : Top p loose mean mg mb h₀) (XB : (K w.params).In base) (TB : Top p loose mean mg mb base) (C : CodeHd h₀ 1371 1369) (hd : dp + 100 < recursionLimit) (hu : un + 3000 < cLine)
    (N : News h₀ L s.heap ((1369, tabObj #[rawInt 1421, rawInt 21, Value.ref a1]) :: (mt ++ im))) (S : Sep ((1369, tabObj #[rawInt 1421, rawInt 21, Value.ref a1]) :: mt) im) (nT : NoTup mt) (q9 : ∀ p ∈ mt, p.1 ≠ 1369) (m4 : (c4, o4) ∈ im) (d4 : o4.data = .cell (some vn)) (m7 : (c7, o7) ∈ im) (d7 : o7.data = .cell (some vv)) (mS : (c6, oS) ∈ im) (dS : oS.data = .cell (some (.ref x)))
    (hx : (x, instObj 1302 d) ∈ im) (hdd : (d, scDict w xd de k1 k2 k3 k4 k5 k6 k7 k8 k9 v2 v4 v5 v6 v9) ∈ im) (hV : AllM numD1 im #[vv] [(bs, sg)]) (hb : NumOk bs) (hN : AllM Dat.tuple im #[vn] [nms])
    (hn7 : nms = [.str (Str.ofString "u")] ∨ nms = [.str (Str.ofString "u"), .str (Str.ofString "n")] ∨ nms = [.str (Str.ofString "u"), .str (Str.ofString "n"), .str (Str.ofString "k")])
    (ret : ∀ h' tk' im' v ps, Fr h₀ L h' (fun y => if y = Str.ofString "told" then some v else m y) → News h₀ L h' ((1369, tabObj ps) :: (mt ++ im')) → (∀ p ∈ im, p ∈ im') → Sep ((1369, tabObj #[rawInt 1421, rawInt 21, Value.ref a1]) :: mt) im' →
      (nms = [.str (Str.ofString "u"), .str (Str.ofString "n")] ∧ DatIn im' v (.tuple [topuD, .str (Str.ofString "n"), .tuple [vecD bs.length (lowOf bs) (highOf bs), .bool sg]]) ∨ (nms = [.str (Str.ofString "u")] ∨ nms = [.str (Str.ofString "u"), .str (Str.ofString "n"), .str (Str.ofString "k")]) ∧ ∃ t, v = .str (Str.ofString "defparam_path") t) → Qf .next { s with heap := h', toks := tk' }) :
    wpAny (model prog w) (ktrTop dp un gd cn dLaw.scope L ca (.ref 1371) (lawCl c1 c2 c3 c4 c5 c6 c7) []) (execs ((dLaw.body.drop 10).take 1) (envX cn dLaw.scope L ca (.ref 1371) (lawCl c1 c2 c3 c4 c5 c6 c7))) Qf E s := by
  unfold dLaw
  dsimp only [List.drop, List.take]
  k_with "call ref" => ((with_reducible show wpAny _ _ (call (Value.ref 1367) _) _ _ _); refine stop_here ?_)
  k_steps
  unfold StopHere
  (with_reducible rename News _ _ _ _ => N4)
  (with_reducible rename _ ∧ AllLt _ _ => l4)
  (with_reducible rename _ < _ => l5)
  rename_i fA cA _ _ _ _ _ _ _ _ _
  have N5 := reord N4
  have S5 := sep_reord N5 S l4 l5
  clear N4 S
  have hV1 : DatIn im vv (numberD bs sg) := all_cons1 hV.all
  have hN1 : DatIn im vn (.tuple nms) := all_cons1 hN.all
  clear hV hN
  have hn8 : nms = [.str (Str.ofString "u"), .str (Str.ofString "n")] ∨ (nms = [.str (Str.ofString "u")] ∨ nms = [.str (Str.ofString "u"), .str (Str.ofString "n"), .str (Str.ofString "k")]) := by
    rcases hn7 with h | h | h
    · exact .inr (.inl h)
    · exact .inl h
    · exact .inr (.inr h)
  rcases hn8 with rfl | h13
  · refine kept_pd w (d := 60) (u := 1500) (mt0 := ((1369, tabObj (#[rawInt 1421, rawInt 21, Value.ref a1] ++ #[rawInt ((1433 : Nat) : Int), rawInt ((21 : Nat) : Int), Value.ref cA])) :: mt)) (im0 := im) (D := (.tuple [topuD, .str (Str.ofString "n"), .tuple [vecD bs.length (lowOf bs) (highOf bs), .bool sg]])) ?C (List.Mem.tail _ (List.mem_append.mpr (.inr (.head _)))) (by k_asm) (by k_asm) (by k_asm) N5 (by k_asm) rfl (by walk_at "my room") (by walk_at "my units") ?_
    case C =>
      unfold CallOk; intro prog p loose mean mg mb dp un gd cn cs ca ccd cl outer A₀ base h₀ L m s Q E B F X N T hk hd hu hret
      walk_at "my enterL"
      k_steps
      (with_reducible rename Sep _ _ => S6)
      (with_reducible rename ∀ p ∈ _, p ∈ im'w => hs6)
      k_dflt (refine' defparam_ok w x d xd de _ _ _ _ _ _ _ _ _ _ _ _ _ _ bs sg hb ((1369, tabObj (#[rawInt 1421, rawInt 21, Value.ref a1] ++ #[rawInt ((1433 : Nat) : Int), rawInt ((21 : Nat) : Int), Value.ref cA])) :: mt) im'w _ S6 ?hx ?hd9 ?hD _ _ _ _ _ _ _ _ _ _ _ _ _ _ _ _ _ _ _ _ _ _ _ ?B ?F ?K ?N ?T ?hk ?hd ?hu ?_)
      case hx => walk_at "my mem"
      case hd9 => walk_at "my mem"
      case hD => walk_at "my dat"
      case B => k_asm
      case F => k_asm
      case K => k_asm
      case N => k_asm
      case T => k_asm
      case hk => rfl
      case hd => walk_at "my room"
      case hu => walk_at "my units"
      rintro r7 h7 tk7 nw7 F7 N7 ⟨im7, rfl, hs7, S7, D7⟩
      k_steps
      refine hret _ _ _ _ (by k_asm) (by assumption) ⟨im7, rfl, (by walk_at "my sub"), S7, D7⟩
    · intro r8 h8 tk8 im8 F8 N8 hs8 S8 hD8
      k_steps
      exact ret _ _ _ _ _ (by k_asm) (by assumption) (by walk_at "my sub") (sep_addr S8 rfl) (.inl ⟨rfl, hD8⟩)
  · refine kept_raise w (d := 60) (u := 1500) (kind := Str.ofString "defparam_path") ?C (List.Mem.tail _ (List.mem_append.mpr (.inr (.head _)))) (by k_asm) (by k_asm) (by k_asm) XB TB N5 (by k_asm) rfl (by walk_at "my room") (by walk_at "my units") ?_
    case C =>
      unfold CallRaise; intro prog p loose mean mg mb dp un gd cn cs ca ccd cl outer A₀ base h₀ L m s Q E B F X N T hk hd hu hret
      walk_at "my enterL"
      k_steps
      (with_reducible rename Sep _ _ => S6)
      k_dflt (refine' defparam_raise _ _ nms bs sg h13 ((1369, tabObj (#[rawInt 1421, rawInt 21, Value.ref a1] ++ #[rawInt ((1433 : Nat) : Int), rawInt ((21 : Nat) : Int), Value.ref cA])) :: mt) im'w _ S6 ?rD _ _ _ _ _ _ _ _ _ _ _ _ _ _ _ _ _ _ _ _ _ _ _ ?B ?F ?K ?N ?T ?hk ?hd ?hu ?_)
      case N => k_asm
      case rD => walk_at "my all"
      case B => k_asm
      case F => k_asm
      case K => k_asm
      case T => k_asm
      case hk => rfl
      case hd => walk_at "my room"
      case hu => walk_at "my units"
      intro g9 e9 dx9 od9 mK9 k9 h9 tk9 F9 R9 D9 q9 U9
      (show wpAny _ _ (leaving _ _) _ _ _)
      (with_reducible rename ∀ p ∈ _, p ∈ im'w => hs6)
      refine' leave_onD rfl ?lB F9 R9 U9 ?lQ
      case lB => k_asm
      case lQ =>
        intro h6 R6 U6
        have R6 : RaisedD _ _ _ _ _ _ ((1369, tabObj (#[rawInt 1421, rawInt 21, Value.ref a1] ++ #[rawInt ((1433 : Nat) : Int), rawInt ((21 : Nat) : Int), Value.ref cA])) :: (mt ++ im'w)) _ := R6
        exact hret _ _ _ _ _ _ _ _ (by k_asm) (R6.sub (by walk_at "my perm")) D9 q9 U6
    · intro h8 tk8 k8 F8 N8
      k_steps
      exact ret _ _ _ _ _ (by k_asm) (by assumption) (by walk_at "my sub") (sep_addr S5 rfl) (.inr ⟨h13, _, rfl⟩)
end


section
open PyProof.Rows.LCg
variable {prog : Program} {w : World} {A : Around} {E : Value → Shared → Prop} {s : Shared} {h₀ : Heap} {L : Addr} {m : Str → Option Value} {env : Env}
theorem news_cons {h : Heap} {a : Addr} {o : Obj} {X : Led} (h1 : h.get? a = some o ∧ a ≠ L ∧ h₀.get? a = none) (h2 : News h₀ L h X) : News h₀ L h ((a, o) :: X) := List.forall_mem_cons.mpr ⟨h1, h2⟩
/-- one turn of a list comprehension over pairs with one test -/
def PtTurn (prog : Program) (w : World) (A : Around) (h₀ : Heap) (L : Addr) (m : Str → Option Value) (env : Env) (c elt : PySem.Expr) (x x₂ : Str) (scope : PySem.Scope) (cl : List (Str × Addr)) (s : Shared) (S : Led → Prop) (P : Nat → Value → Prop) (J : Nat → List Value → Led → Prop) (n : Nat) : Prop :=
  ∀ i ys news v, i < n → P i v → J i ys news → ∃ (t : Addr) (ot : Obj) (v₁ v₂ : Value) (nt : Nat), v = .ref t ∧ (t, ot) ∈ news ∧ ot.cls = .type "tuple" ∧ ot.data = .seq #[v₁, v₂] nt ∧
    ∀ I oI C oC D m₂ h tk (E' : Value → Shared → Prop), NsObj oC m₂ → m₂ x = some v₁ → m₂ x₂ = some v₂ → Fr h₀ L h m → News h₀ L h ((I, oI) :: (C, oC) :: (D, lst ys) :: news) → Off3 I C D news → ((@Ne Nat I C) ∧ (@Ne Nat I D) ∧ (@Ne Nat C D)) →
      wpAny (model prog w) A (isTrue c (compEnvC scope cl C env) (eval c (compEnvC scope cl C env))) (fun okb s₃ => if okb = true then
        wpAny (model prog w) A (eval elt (compEnvC scope cl C env)) (CompEnd h₀ L m { s with heap := h, toks := tk } I oI C oC D (lst ys) S (fun y news' => J (i + 1) (ys ++ [y]) news')) E' s₃
        else CompEnd h₀ L m { s with heap := h, toks := tk } I oI C oC D (lst ys) S (fun _ news' => J (i + 1) ys news') .none s₃) E' { s with heap := h, toks := tk }
theorem pt_block {elt iter c : PySem.Expr} {x x₂ : Str} {px px₂ tp : Pos} {kk} {scope : PySem.Scope} {cl : List (Str × Addr)} {pos : Pos} {s₂ : Shared} {I : Addr} {fp : List Addr} {n : Nat} {P : Nat → Value → Prop} {St : Nat → Heap → Prop} {S : Led → Prop} {news : Led} {J : Nat → List Value → Led → Prop}
    {RR : Value → Addr → Result → Shared → Prop}
    (W : Walks prog w A I fp [I] n P St) (hsz : n ≤ sizeLine) (hIo : ∀ i h, St i h → ∃ o, h.get? I = some o)
    (hSt : ∀ i h h' o nw, St i h → h.get? I = some o → h'.get? I = some o → (∀ b o, h₀.get? b = some o → h'.get? b = some o) → News h₀ L h' nw → S nw → St i h')
    (hcell : ∀ y ∈ scope.names, y.2 ≠ .cell) (hkind : scope.kind = .function) (hx : scope.names.lookup x = some .local) (hx₂ : scope.names.lookup x₂ = some .local) (hxx : x ≠ x₂) (hh : A.handled = none) (hLI : ∀ i h, St i h → ∃ l j, h.IsListIter I l j) (hst : St 0 s₂.heap) (hfp : ∀ b ∈ fp, b < s₂.heap.objs.size)
    (F : Fr h₀ L s₂.heap m) (N : News h₀ L s₂.heap news) (hIL : L ≠ I) (hI₀ : h₀.get? I = none) (off : ∀ p ∈ news, p.1 ≠ I) (hS : S news)
    (R : PtTurn prog w A h₀ L m env c elt x x₂ scope cl s₂ S P J n) (hJ : J 0 [] news)
    (hRR : ∀ D C h tk m' ys news', Fr h₀ L h m → News h₀ L h ((D, lst ys) :: news') → Off1 D news' → h.Ns C m' → h₀.get? C = none → h₀.get? D = none → C ≠ L → D ≠ L → C ≠ D → (∀ p ∈ news', p.1 ≠ C) → J n ys news' → RR (.ref D) C (.ok .next) { s₂ with heap := h, toks := tk }) :
    wpAny (model prog w) A (newList []) (fun acc s₃ => wpAny (model prog w) A (newFunctionEnv scope env.globals cl [] env.qual none .none (some env)) (fun cenv s₄ =>
      codeAny (model prog w) A (.compStart (.ListComp elt [⟨.Tuple [.Name x px, .Name x₂ px₂] kk tp, iter, [c], 0⟩] scope pos) 0 (.ref I) acc { cenv with scope := relabel scope env }) (RR acc cenv.locals) s₄) E s₃) E s₂ := by
  refine wpAny_newObj_type (wpAny_newFunctionEnv hcell (by intro y hy; simp at hy) (fun h₁ hns₁ hsb₁ => ?_) hkind)
  dsimp only at hns₁ hsb₁ ⊢
  generalize hH2 : s₂.heap.push { cls := .type "list", dict := none, data := .seq ([] : List Value).toArray } = H2 at hns₁ hsb₁ ⊢
  have hC : H2.objs.size = s₂.heap.objs.size + 1 := by rw [← hH2, Heap.size_push]
  have hDC : s₂.heap.objs.size ≠ H2.objs.size := by rw [hC]; exact Nat.ne_of_lt (Nat.lt_succ_self _)
  have below : ∀ b, b < s₂.heap.objs.size → b ≠ H2.objs.size ∧ b ≠ s₂.heap.objs.size := fun b hb => ⟨by rw [hC]; exact Nat.ne_of_lt (Nat.lt_succ_of_lt hb), Nat.ne_of_lt hb⟩
  have hDf : s₂.heap.objs.size ∉ fp := fun hm => Nat.lt_irrefl _ (hfp _ hm)
  have hCf : H2.objs.size ∉ fp := fun hm => by have := hfp _ hm; rw [hC] at this; exact Nat.lt_irrefl _ (Nat.lt_of_succ_lt this)
  have hIf : I ∈ fp := W.sub I (List.mem_singleton.mpr rfl)
  have hIlt : I < s₂.heap.objs.size := hfp I hIf
  have old : ∀ b o, s₂.heap.get? b = some o → h₁.get? b = some o := fun b o e => hsb₁.extBut b o (below b (Heap.lt_size e)).1 (Heap.get?_push_of_some _ (hH2 ▸ Heap.get?_push_of_some _ e))
  have hacc : h₁.get? s₂.heap.objs.size = some (lst []) := hsb₁.extBut _ _ hDC (Heap.get?_push_of_some _ (hH2 ▸ Heap.get?_push_size _ rfl))
  have hst₁ : St 0 h₁ := W.frame _ _ _ hst fun b _ o e => old b o e
  have fresh : ∀ a, s₂.heap.objs.size ≤ a → s₂.heap.get? a = none := fun a ha => by
    cases e : s₂.heap.get? a with
    | none => rfl
    | some o' => exact absurd (Heap.lt_size e) (Nat.not_lt.mpr ha)
  have fresh₀ : ∀ a, s₂.heap.objs.size ≤ a → h₀.get? a = none := fun a ha => by
    cases e : h₀.get? a with
    | none => rfl
    | some o' => have := F.keep a o' e; rw [fresh a ha] at this; cases this
  have hD₀ : h₀.get? s₂.heap.objs.size = none := fresh₀ _ (Nat.le_refl _)
  have hC₀ : h₀.get? H2.objs.size = none := fresh₀ _ (by rw [hC]; exact Nat.le_succ _)
  have hLlt : L < s₂.heap.objs.size := F.ns.lt
  have hDL : s₂.heap.objs.size ≠ L := Ne.symm (below L hLlt).2
  have hCL : H2.objs.size ≠ L := Ne.symm (below L hLlt).1
  have hCI : I ≠ H2.objs.size := (below I hIlt).1
  have hDI : I ≠ s₂.heap.objs.size := (below I hIlt).2
  have off₀ : Off3 I H2.objs.size s₂.heap.objs.size news := Off3.of fun p hp => ⟨off p hp, (below _ (Heap.lt_size (N p hp).1)).1, (below _ (Heap.lt_size (N p hp).1)).2⟩
  have loop : ∀ s₃ : Shared, s₃ = { s₂ with heap := h₁, toks := s₂.toks + ([] : List (Str × Value)).length } →
      codeAny (model prog w) A (.compLoop (.ListComp elt [⟨.Tuple [.Name x px, .Name x₂ px₂] kk tp, iter, [c], 0⟩] scope pos) 0 (.ref I) (.ref s₂.heap.objs.size) (compEnvC scope cl H2.objs.size env))
        (RR (.ref s₂.heap.objs.size) H2.objs.size) s₃ := by
    rintro s₃ rfl
    refine kct_loop
      (fun k s' => ∃ h' tk i ys m' news', s' = { s₂ with heap := h', toks := tk } ∧ i ≤ n ∧ k = n + 1 - i ∧ ys.length ≤ i ∧ St i h' ∧ Fr h₀ L h' m ∧ h'.Ns H2.objs.size m' ∧ News h₀ L h' ((s₂.heap.objs.size, lst ys) :: news') ∧
        Off3 I H2.objs.size s₂.heap.objs.size news' ∧ S news' ∧ J i ys news') ?_ (n + 1)
      ⟨h₁, _, 0, [], _, news, rfl, Nat.zero_le _, rfl, Nat.le_refl _, hst₁, F.keeps old, hns₁, news_cons ⟨hacc, hDL, hD₀⟩ fun p hp => ⟨old _ _ (N p hp).1, (N p hp).2⟩, off₀, hS, hJ⟩
    · intro k s' hq9
      refine hold fun G9 hG9 => ?_
      obtain ⟨h', tk, i, ys, m', news', rfl, hi, rfl, hyl, hst', F', hn', N', off', hS', R'⟩ := hq9
      refine hG9 ?_
      clear hG9
      by_cases hlt : i < n
      · refine W.item i _ _ _ hlt hst' fun v h₂ tk₂ hPv hst₂ hk₂ => ?_
        refine hold fun G9 hG9 => ?_
        obtain ⟨t, ot, v₁, v₂, nt, rfl, hmt, hct, hdt, R''⟩ := R i ys news' v hlt hPv R'
        refine hG9 ?_
        clear hG9
        have off3 := off'.mem
        have N₂ : News h₀ L h₂ ((s₂.heap.objs.size, lst ys) :: news') := news_but N' hk₂ (List.forall_mem_cons.mpr ⟨Ne.symm hDI, fun p hp => (off3 p hp).1⟩)
        have ht : IsTup h₂ t #[v₁, v₂] := ⟨ot, (N₂ _ (List.mem_cons_of_mem _ hmt)).1, hct, nt, hdt⟩
        refine hold fun G9 hG9 => ?_
        obtain ⟨lI, jI, hLi⟩ := hLI _ _ hst₂
        refine hG9 ?_
        clear hG9
        refine wpAny_letOwnedTupleGo_listiter hLi ?_
        refine assign_Tuple_tuple hh ht rfl rfl fun h₅ he => ?_
        have he' : ∀ b o, h₂.get? b = some o → h₅.get? b = some o := fun b o e => he b o (Nat.ne_of_lt (Heap.lt_size e)) e
        refine assignInOrder_cons (wpAny_assign_Name (wpAny_storeName_local (lookup_relabel_local hx) ((hn'.at' fun o e => hk₂ _ o (by simpa using Ne.symm hCI) e).at' fun o e => he' _ o e) (fun h₆ hn₆ hs₆ => ?_) (by simp [compEnvC, relabel, hkind])))
        refine assignInOrder_cons (wpAny_assign_Name (wpAny_storeName_local (lookup_relabel_local hx₂) hn₆ (fun h₃ hn₃ hs₃ => ?_) (by simp [compEnvC, relabel, hkind])))
        refine assignInOrder_nil ?_
        have old3 : ∀ b o, b ≠ H2.objs.size → h₂.get? b = some o → h₃.get? b = some o := fun b o hb e => hs₃.extBut b o hb (hs₆.extBut b o hb (he' b o e))
        have hst₃ : St (i + 1) h₃ := W.frame _ _ _ hst₂ fun b hb o e => old3 b o (fun q => hCf (by rw [← q]; exact hb)) e
        refine hold fun G9 hG9 => ?_
        obtain ⟨oI, heI⟩ := hIo _ _ hst₃
        obtain ⟨oC, heC, hoC⟩ := ns_obj hn₃
        refine hG9 ?_
        clear hG9
        have F₃ : Fr h₀ L h₃ m := (((fr_but F' hk₂ hIL hI₀).keeps he').change hs₆ hCL hC₀).change hs₃ hCL hC₀
        have N₃ : News h₀ L h₃ ((I, oI) :: (H2.objs.size, oC) :: (s₂.heap.objs.size, lst ys) :: news') :=
          news_cons ⟨heI, Ne.symm hIL, hI₀⟩ (news_cons ⟨heC, hCL, hC₀⟩ fun p hp => ⟨old3 _ _ (List.forall_mem_cons (p := fun p : Addr × Obj => p.1 ≠ H2.objs.size).mpr ⟨hDC, fun p hp => (off3 p hp).2.1⟩ p hp) (N₂ p hp).1, (N₂ p hp).2⟩)
        have fin : ∀ (ys' : List Value) (h₅ : Heap) (tk₅ : Nat) (news₅ : Led), ys'.length ≤ i + 1 → St (i + 1) h₅ → Fr h₀ L h₅ m → (∃ m', h₅.Ns H2.objs.size m') → News h₀ L h₅ ((s₂.heap.objs.size, lst ys') :: news₅) → Off3 I H2.objs.size s₂.heap.objs.size news₅ → S news₅ → J (i + 1) ys' news₅ →
            ∃ q', q' < n + 1 - i ∧ (∃ h' tk i ys m' news', ({ s₂ with heap := h₅, toks := tk₅ } : Shared) = { s₂ with heap := h', toks := tk } ∧ i ≤ n ∧ q' = n + 1 - i ∧ ys.length ≤ i ∧ St i h' ∧ Fr h₀ L h' m ∧ h'.Ns H2.objs.size m' ∧ News h₀ L h' ((s₂.heap.objs.size, lst ys) :: news') ∧
        Off3 I H2.objs.size s₂.heap.objs.size news' ∧ S news' ∧ J i ys news') := by
          rintro ys' h₅ tk₅ news₅ hl hst₅ F₅ ⟨m₅, hn₅⟩ N₅ off₅ hS₅ J₅
          exact ⟨n + 1 - (i + 1), by omega, h₅, tk₅, i + 1, ys', m₅, news₅, rfl, hlt, rfl, hl, hst₅, F₅, hn₅, N₅, off₅, hS₅, J₅⟩
        refine wpAny_mono (R'' I oI H2.objs.size oC s₂.heap.objs.size _ h₃ _ _ hoC (by simp [hxx]) (by simp) F₃ N₃ off' ⟨hCI, hDI, Ne.symm hDC⟩) (fun okb s₅ h₅ => ?_) fun _ _ e => e
        cases okb with
        | false =>
          simp only [Bool.false_eq_true, if_false] at h₅ ⊢
          refine hold fun G9 hG9 => ?_
          obtain ⟨h₅, tk₅, news₅, rfl, F₅, N₅, off₅, hS₅, R₅⟩ := h₅
          refine hG9 ?_
          clear hG9
          have zI := (N₅ (I, oI) List.mem_cons_self).1
          have zC := (N₅ (H2.objs.size, oC) (List.mem_cons_of_mem _ List.mem_cons_self)).1
          have N₅' : News h₀ L h₅ news₅ := fun p hp => N₅ p (List.mem_cons_of_mem _ (List.mem_cons_of_mem _ (List.mem_cons_of_mem _ hp)))
          exact fin ys h₅ tk₅ news₅ (Nat.le_succ_of_le hyl) (hSt _ _ _ _ _ hst₃ heI zI F₅.keep N₅' hS₅) F₅ ⟨_, hoC.ns zC⟩ (fun p hp => N₅ p (List.mem_cons_of_mem _ (List.mem_cons_of_mem _ hp))) off₅ hS₅ R₅
        | true =>
          simp only [if_true] at h₅ ⊢
          refine wpAny_mono h₅ (fun y s₄ h₄ => ?_) fun _ _ e => e
          refine hold fun G9 hG9 => ?_
          obtain ⟨h₄, tk₄, news₄, rfl, F₄, N₄, off₄, hS₄, R₄⟩ := h₄
          refine hG9 ?_
          clear hG9
          have zI := (N₄ (I, oI) List.mem_cons_self).1
          have zC := (N₄ (H2.objs.size, oC) (List.mem_cons_of_mem _ List.mem_cons_self)).1
          have zD := (N₄ (s₂.heap.objs.size, lst ys) (List.mem_cons_of_mem _ (List.mem_cons_of_mem _ List.mem_cons_self))).1
          have N₄' : News h₀ L h₄ news₄ := fun p hp => N₄ p (List.mem_cons_of_mem _ (List.mem_cons_of_mem _ (List.mem_cons_of_mem _ hp)))
          have hst₄ : St (i + 1) h₄ := hSt _ _ _ _ _ hst₃ heI zI F₄.keep N₄' hS₄
          refine append_at (hsz := by show ys.toArray.size ≤ sizeLine; rw [List.size_toArray]; exact Nat.le_trans hyl (Nat.le_trans hi hsz)) zD fun h₅ hs₅ hD₅ => ?_
          have off4 := off₄.mem
          refine fin (ys ++ [y]) h₅ _ news₄ (by rw [List.length_append, List.length_singleton]; exact Nat.succ_le_succ hyl) (W.frame _ _ _ hst₄ fun b hb o e => hs₅.extBut b o (fun q => hDf (q ▸ hb)) e) (F₄.change hs₅ hDL hD₀) ⟨_, (hoC.ns zC).sameBut hs₅ (Ne.symm hDC)⟩ (news_cons ⟨hD₅.trans (congrArg some (lst_snoc ys y)), hDL, hD₀⟩ fun p hp => ⟨hs₅.extBut _ _ (off4 p hp).2.2 (N₄' p hp).1, (N₄' p hp).2⟩) off₄ hS₄ R₄
      · obtain rfl : i = n := Nat.le_antisymm hi (Nat.not_lt.mp hlt)
        refine W.done _ _ _ hst' fun h₂ tk₂ hk₂ => ?_
        have off3 := off'.mem
        exact hRR _ _ h₂ tk₂ _ ys news' (fr_but F' hk₂ hIL hI₀) (news_but N' hk₂ (List.forall_mem_cons.mpr ⟨Ne.symm hDI, fun p hp => (off3 p hp).1⟩)) off'.one (hn'.at' fun o e => hk₂ _ o (by simpa using Ne.symm hCI) e) hC₀ hD₀ hCL hDL (Ne.symm hDC) (fun p hp => (off3 p hp).2.1) R'
  exact codeAny_compStart_list (loop _ rfl) (W.self 0 _ _ _ hst₁ (loop _ rfl))
/-- the source: a list of the ledger -/
def PtSrc (prog : Program) (w : World) (A : Around) (h₀ : Heap) (L : Addr) (m : Str → Option Value) (env : Env) (c elt : PySem.Expr) (x x₂ : Str) (scope : PySem.Scope) (cl : List (Str × Addr)) (Fin : Shared → List Value → Led → Prop) (xv : Value) (s₁ : Shared) : Prop :=
  ∃ ax its news J, xv = .ref ax ∧ A.handled = none ∧ Fr h₀ L s₁.heap m ∧ News h₀ L s₁.heap news ∧ SrcAt h₀ ax its news ∧ its.size ≤ sizeLine ∧ J 0 [] news ∧
    ∀ s₂ : Shared, (∃ h, s₂ = { s₁ with heap := h }) → PtTurn prog w A h₀ L m env c elt x x₂ scope cl s₂ (SrcAt h₀ ax its) (fun i v => its[i]? = some v) J its.size ∧ ∀ ys news, J its.size ys news → Fin s₂ ys news
theorem PtSrc.ledger {elt c : PySem.Expr} {x x₂ : Str} {scope : PySem.Scope} {cl : List (Str × Addr)} {Fin : Shared → List Value → Led → Prop} {ax : Addr} {its : Array Value} {k : Nat} {news : Led} {s₁ : Shared} (J : Nat → List Value → Led → Prop)
    (hh : A.handled = none) (F : Fr h₀ L s₁.heap m) (N : News h₀ L s₁.heap news) (hm : (ax, ({ cls := .type "list", data := .seq its k } : Obj)) ∈ news) (hsz : its.size ≤ sizeLine) (hJ : J 0 [] news)
    (h : ∀ g, PtTurn prog w A h₀ L m env c elt x x₂ scope cl { s₁ with heap := g } (SrcAt h₀ ax its) (fun i v => its[i]? = some v) J its.size)
    (fin : ∀ g ys news, J its.size ys news → Fin { s₁ with heap := g } ys news) :
    PtSrc prog w A h₀ L m env c elt x x₂ scope cl Fin (.ref ax) s₁ := ⟨ax, its, news, J, rfl, hh, F, N, .inr ⟨_, hm, rfl, _, rfl⟩, hsz, hJ, fun _ ⟨g, e⟩ => e ▸ ⟨h g, fin g⟩⟩
theorem pt_assign {elt iter c : PySem.Expr} {x x₂ y : Str} {px px₂ tp py : Pos} {kk} {scope : PySem.Scope} {cl : List (Str × Addr)} {pos spos : Pos} {Q : Flow → Shared → Prop} (F₀ : Fr h₀ L s.heap m) (hLe : env.locals = L)
    (hsw : swapsWith (.ListComp elt [⟨.Tuple [.Name x px, .Name x₂ px₂] kk tp, iter, [c], 0⟩] scope pos) (some (.Name y py)) spos.line env = pure true)
    (hclos : closureFor scope env = pure cl) (hcell : ∀ z ∈ scope.names, z.2 ≠ .cell) (hkind : scope.kind = .function)
    (hnames : ∀ z ∈ scope.names, z.2 = .local → scope.names.lookup z.1 = some .local) (hx : scope.names.lookup x = some .local) (hx₂ : scope.names.lookup x₂ = some .local) (hxx : x ≠ x₂)
    (hy : env.kindOf y = some .local) (hp : (env.scope.kind == .class || (env.scope.kind == .module && env.locals != env.globals)) = false)
    (h : wpAny (model prog w) A (eval iter env) (PtSrc prog w A h₀ L m env c elt x x₂ scope cl (fun s₂ => FinA h₀ L m s₂ y Q)) E s)
    (hs : ∀ x, foldedSetIterable iter env x = pure x := by intro _; rfl) :
    wpAny (model prog w) A (exec (.Assign [.Name y py] (.ListComp elt [⟨.Tuple [.Name x px, .Name x₂ px₂] kk tp, iter, [c], 0⟩] scope pos) spos) env) Q E s := by
  subst hLe
  rw [exec_Assign_Name_used _ _ _ _ hsw]
  refine wpAny_bind (wpAny_standAt (wpAny_bind ?_))
  show wpAny _ A (do let _ ← comprehension (.ListComp elt [⟨.Tuple [.Name x px, .Name x₂ px₂] kk tp, iter, [c], 0⟩] scope pos) scope env _ (newList []) false (eval iter env) (some (assign (.Name y py) env))) _ _ s
  refine wpAny_bind (wpAny_mono (wpAny_comprehension_free (use := some (assign (.Name y py) env)) (Q := fun _ s' => Q .next s') rfl hs hclos hkind hnames
    (wpAny_mono h (fun xv s₁ h₁ => ?_) fun _ _ e => e)) (fun _ s' hq => wpAny_pure (wpAny_pure hq)) fun _ _ e => e)
  refine hold fun G9 hG9 => ?_
  obtain ⟨ax, its, news, J, rfl, hh, F, N, S, hsz, hJ, R⟩ := h₁
  refine hG9 ?_
  clear hG9
  have hl := S.list F.keep N
  have hlt : ax < s₁.heap.objs.size := by obtain ⟨_, e, _⟩ := hl; exact Heap.lt_size e
  refine wpAny_pyIter_list hl ?_
  have up : ∀ b o, s₁.heap.get? b = some o → (s₁.heap.push { cls := .type "list_iterator", data := .fields #[.ref ax, .int 0 0] }).get? b = some o := fun b o e => Heap.get?_push_of_some _ e
  obtain ⟨R1, R2⟩ := R { s₁ with heap := s₁.heap.push { cls := .type "list_iterator", data := .fields #[.ref ax, .int 0 0] } } ⟨_, rfl⟩
  refine pt_block (Walks.list hh s₁.heap.objs.size ax (Nat.ne_of_lt hlt) its) hsz (fun i h st => by obtain ⟨o, e, _⟩ := st.1; exact ⟨o, e⟩) list_st hcell hkind hx hx₂ hxx hh (fun i h st => ⟨_, _, st.1⟩) ⟨⟨_, Heap.get?_push_size _ rfl, rfl, rfl⟩, hl.push _⟩ (fun b hb => ?_)
    (F.keeps up) (N.grown up) (Nat.ne_of_lt F.ns.lt) (next_is_new F) (fun p hp => Nat.ne_of_lt (Heap.lt_size (N p hp).1)) S R1 hJ ?_
  · show b < (s₁.heap.push _).objs.size
    rw [Heap.size_push]
    rcases List.mem_cons.mp hb with rfl | hb
    · exact Nat.lt_succ_self _
    · rw [List.mem_singleton.mp hb]; exact Nat.lt_succ_of_lt hlt
  · intro D C h' tk m' ys news' F' N' o1 hn hC₀ hD₀ hCL hDL hCD offC fin
    show wpAny _ A (assign (.Name y py) env (.ref D)) _ _ _
    refine wpAny_assign_Name (wpAny_storeName_local hy F'.ns (fun h₂ hn₂ hs₂ => ?_) hp)
    have hL₀ : h₀.get? env.locals = none := Heap.get?_none_of_le F'.above
    have F₂ : Fr h₀ env.locals h₂ (fun z => if z = y then some (.ref D) else m z) := ⟨hn₂, fun b o e => hs₂.extBut b o (fun q => by rw [q, hL₀] at e; cases e) (F'.keep b o e), F'.above⟩
    refine ⟨m', hn.sameBut hs₂ hCL, fun h'' hs'' => R2 _ _ fin D h'' _ (F₂.change hs'' hCL hC₀) (fun p hp => ?_) o1⟩
    have z : h₂.get? p.1 = some p.2 := hs₂.extBut _ _ (N' p hp).2.1 (N' p hp).1
    refine ⟨hs''.extBut _ _ ?_ z, (N' p hp).2⟩
    rcases List.mem_cons.mp hp with rfl | hp
    · exact Ne.symm hCD
    · exact offC p hp
end


theorem top_u : ((Str.ofString "top" ++ Str.ofString ".") ++ Str.ofString "u") = Str.ofString "top.u" := by decide +kernel
section
variable (w : World) {prog : Program} {p : Program} {loose : List Str} {mean : ExcName → Option Value} {mg mb : Str → Option Value} {dp un : Nat} {gd : Option (List Code)} {cn : Str} {ca : Addr} {ccd : Value} {A₀ : Around} {base h₀ : Heap} {L : Addr} {m : Str → Option Value} {s : Shared} {E : Value → Shared → Prop} {Qf : Flow → Shared → Prop}
  {c1 c2 c3 c4 c5 c6 c7 : Addr}
theorem blkC3 {o4 o7 : Obj} {vn vv vt : Value} {nms : List Dat} {bs : List Int} {sg : Bool} {mt im : Led}
    (B : Below A₀ base [] h₀) (F : Fr h₀ L s.heap m) (X : (K w.params).In h₀) (T : Top p loose mean mg mb h₀) (hd : dp + 100 < recursionLimit) (hu : un + 3000 < cLine)
    (N : News h₀ L s.heap (mt ++ im)) (S : Sep mt im) (m4 : (c4, o4) ∈ im) (d4 : o4.data = .cell (some vn)) (m7 : (c7, o7) ∈ im) (d7 : o7.data = .cell (some vv))
    (hV : AllM numD1 im #[vv] [(bs, sg)]) (hb : NumOk bs) (hN : AllM Dat.tuple im #[vn] [nms]) (e2 : m (Str.ofString "told") = some vt)
    (hT : nms = [.str (Str.ofString "u"), .str (Str.ofString "n")] ∧ DatIn im vt (.tuple [topuD, .str (Str.ofString "n"), .tuple [vecD bs.length (lowOf bs) (highOf bs), .bool sg]]) ∨ (nms = [.str (Str.ofString "u")] ∨ nms = [.str (Str.ofString "u"), .str (Str.ofString "n"), .str (Str.ofString "k")]) ∧ ∃ t, vt = .str (Str.ofString "defparam_path") t)
    (ret : ∀ h' tk' m' im', Fr h₀ L h' m' → News h₀ L h' (mt ++ im') → (∀ p ∈ im, p ∈ im') → Sep mt im' → Qf .next { s with heap := h', toks := tk' }) :
    wpAny (model prog w) (ktrTop dp un gd cn dLaw.scope L ca ccd (lawCl c1 c2 c3 c4 c5 c6 c7) []) (execs ((dLaw.body.drop 11).take 1) (envX cn dLaw.scope L ca ccd (lawCl c1 c2 c3 c4 c5 c6 c7))) Qf E s := by
  unfold dLaw
  dsimp only [List.drop, List.take]
  have mk1 : MkNe := ⟨⟩
  replace F := fr_see F e2
  have hV1 : DatIn im vv (numberD bs sg) := all_cons1 hV.all
  have hN1 : DatIn im vn (.tuple nms) := all_cons1 hN.all
  clear hV hN
  rcases hT with ⟨rfl, hT⟩ | ⟨hn, t8, rfl⟩
  · have hT9 : ∃ p7, vt = .ref p7 := by
      obtain ⟨p7, u7, n7, e7, hm7, hu7⟩ := dat_tup hT
      exact ⟨p7, e7⟩
    obtain ⟨p7, rfl⟩ := hT9
    rw [show topuD = Dat.str (Str.ofString "top.u") from congrArg Dat.str top_u] at hT
    have hT8 : Hold (DatIn im (.ref p7) (.tuple [.str (Str.ofString "top.u"), .str (Str.ofString "n"), .tuple [vecD bs.length (lowOf bs) (highOf bs), .bool sg]])) := ⟨hT⟩
    clear hT
    obtain ⟨f1, f2, f3, f4, f5, f6⟩ := num_facts (x := (bs, sg)) hb
    walk_at "my open"
    k_steps
    unfold StopHere
    (with_reducible rename Sep _ _ => S9)
    refine same_ne (by k_asm) (im := im'w) (app_r id_sub) (d := .tuple [.str (Str.ofString "top.u"), .str (Str.ofString "n"), .tuple [vecD bs.length (lowOf bs) (highOf bs), .bool sg]]) (hT8.it.mono ?q0) ?q1 (by simp [dOk, strOk_of]) (by walk_at "my units") ?q2
    case q0 => walk_at "my sub"
    case q1 => walk_at "my dat"
    case q2 =>
      k_steps
      exact ret _ _ _ im'w (by k_asm) (by with_reducible assumption) (by walk_at "my sub") S9
  · rcases hn with rfl | rfl
    all_goals (
      walk_at "my open"
      k_steps
      exact ret _ _ _ im (by k_asm) (by k_asm) id_sub S)
end


theorem pick_dflt (f : Num → Bool) (d : Option Str) : ∀ l : List (Num × Str), pickOf f l d = match pickOf f l none with | some y => some y | none => d
  | [] => rfl
  | x :: l => by
    unfold pickOf
    by_cases h : f x.1 = true
    · simp [h]
    · simp only [h, if_false]; exact pick_dflt f d l
theorem pick_congr {f g : Num → Bool} {d : Option Str} : ∀ {l : List (Num × Str)}, (∀ p ∈ l, f p.1 = g p.1) → pickOf f l d = pickOf g l d
  | [], _ => rfl
  | x :: l, h => by
    unfold pickOf
    rw [h x (.head _), pick_congr fun p hp => h p (.tail _ hp)]
theorem case_pick_eq {subj : Num} {rows : List Row} {xu : Int} (hs : NumOk subj.1) (hO : RowsOk rows xu) : casePick subj rows = pickOf (fun x => decide (wideOf x.1 (wOf (subj :: (pairsOf rows).map (·.1))) (sOf (subj :: (pairsOf rows).map (·.1))) = wideOf subj.1 (wOf (subj :: (pairsOf rows).map (·.1))) (sOf (subj :: (pairsOf rows).map (·.1))))) (pairsOf rows) (dfltOf rows none) := by
  have hpo := pairs_ok hO.lab
  unfold casePick
  exact pick_congr fun p hp => hits_wide (hpo _ (List.mem_map_of_mem hp)) hs (wOf_ge (.tail _ (List.mem_map_of_mem hp))) (wOf_ge (.head _))
theorem dflt_first {rows : List Row} {xu : Int} {i : Nat} (h : RowsOk rows xu) (hi : i < rows.length) (e : rows[i].1 = none) : ∀ k, k ≤ i → dfltOf (rows.take k) none = none
  | 0, _ => rfl
  | k + 1, hk => by
    have hk2 : k < rows.length := by omega
    cases q : rows[k].1 with
    | none =>
      have a := h.no i hi e
      have b := h.no k hk2 q
      omega
    | some l => rw [dflt_take_some hk2 q]; exact dflt_first h hi e k (by omega)
abbrev outs : Option Str → List Dat
  | none => []
  | some nm => [.tuple [.str nm, .tuple [], .tuple []]]
theorem outs_out (o : Option Str) : Dat.list (outs o) = outD o := by cases o <;> rfl
theorem outs_len (o : Option Str) : (outs o).length ≤ 1 := by cases o <;> simp
theorem rg_p72_1 : True := by
  k_with "exec Assign cons ListComp" => (k_here; k_dflt (refine pt_assign (F₀ := by k_asm) (by rfl) (by with_unfolding_all rfl) (by with_unfolding_all rfl) (by decide) (by rfl) (by decide) (by rfl) (by rfl) (by decide) (by rfl) (by rfl) ?_))
  exact trivial
theorem rg_p72_2 : True := by
  k_with "PtSrc" => (k_here; refine stop_here ?_)
  exact trivial
section
variable (w : World) {prog : Program} {p : Program} {loose : List Str} {mean : ExcName → Option Value} {mg mb : Str → Option Value} {dp un : Nat} {gd : Option (List Code)} {cn : Str} {ca : Addr} {ccd : Value} {A₀ : Around} {base h₀ : Heap} {L : Addr} {m : Str → Option Value} {s : Shared} {R : Value → Shared → Prop} {Qf : Flow → Shared → Prop}
  {c1 c2 c3 c4 c5 c6 c7 : Addr}
theorem blkD5 {rl : Addr} {rv : Array Value} {kr : Nat} {rows : List Row} {xu : Int} {f : Num → Bool} {dl : Value} {mt im : Led}
    (B : Below A₀ base [] h₀) (F : Fr h₀ L s.heap m) (X : (K w.params).In h₀) (T : Top p loose mean mg mb h₀) (hd : dp + 100 < recursionLimit) (hu : un + 3000 < cLine)
    (N : News h₀ L s.heap (mt ++ im)) (S : Sep mt im) (hr : (rl, W.listOf rv kr) ∈ im) (hB : AllM rowItemD im rv rows) (hO : RowsOk rows xu)
    (e1 : m (Str.ofString "rows") = some (.ref rl)) (e5 : m (Str.ofString "due") = some dl) (hdl : DatIn im dl (outD (pickOf f (pairsOf rows) none)))
    (ret : ∀ h' tk' m' im' dl', Fr h₀ L h' m' → m' (Str.ofString "rows") = some (.ref rl) → m' (Str.ofString "due") = some dl' → DatIn im' dl' (outD (pickOf f (pairsOf rows) (dfltOf rows none))) →
      News h₀ L h' (mt ++ im') → (∀ p ∈ im, p ∈ im') → Sep mt im' → Qf .next { s with heap := h', toks := tk' }) :
    wpAny (model prog w) (ktrTop dp un gd cn dLaw.scope L ca ccd (lawCl c1 c2 c3 c4 c5 c6 c7) []) (execs ((dLaw.body.drop 22).take 1) (envX cn dLaw.scope L ca ccd (lawCl c1 c2 c3 c4 c5 c6 c7))) Qf (lawE (model prog w) (ktrTop dp un gd cn dLaw.scope L ca ccd (lawCl c1 c2 c3 c4 c5 c6 c7) []) (envX cn dLaw.scope L ca ccd (lawCl c1 c2 c3 c4 c5 c6 c7)) R) s := by
  unfold dLaw lawE
  dsimp only [List.drop, List.take]
  have mk1 : MkEq := ⟨⟩
  obtain ⟨p8, rfl⟩ := outD_ref hdl
  replace F := fr_see3 F e1 e5 e5
  generalize hP : pickOf f (pairsOf rows) none = P at hdl
  have hlen : rv.size = rows.length := by simpa using hB.length
  cases P with
  | some nm =>
    have hnm : PyData.strOk nm = true := by
      obtain ⟨q, hq, rfl⟩ := pick_name hP
      obtain ⟨r, hr, e⟩ := pairs_name hq
      rw [← e]; exact hO.names r hr
    k_steps
    unfold StopHere
    (with_reducible rename News _ _ _ _ => N5)
    refine eq_dat (im := (_, W.listOf #[] 0) :: im) (d := .list [.tuple [.str nm, .tuple [], .tuple []]]) (d' := .list []) N5 (by walk_at "my perm") (hdl.mono fun p hp => .tail _ hp) (.list (.head _) .nil) (out_ok hnm) rfl (by walk_at "my units") (eqv_one nm) ?_
    have N6 := news_tail N5
    clear N5
    k_steps
    exact ret _ _ _ im _ (by k_asm) rfl rfl (by rw [pick_dflt, hP]; exact hdl) (by k_asm) id_sub S
  | none =>
    k_steps
    unfold StopHere
    (with_reducible rename News _ _ _ _ => N5)
    refine eq_dat (im := (_, W.listOf #[] 0) :: im) (d := .list []) (d' := .list []) N5 (by walk_at "my perm") (hdl.mono fun p hp => .tail _ hp) (.list (.head _) .nil) rfl rfl (by walk_at "my units") eqv_nil ?_
    have N6 := news_tail N5
    clear N5
    k_steps
    unfold StopHere
    refine PtSrc.ledger (ax := rl) (its := rv) (k := kr) (news := mt ++ im) (fun i ys news => ∃ im1, news = mt ++ im1 ∧ (∀ p ∈ im, p ∈ im1) ∧ Sep mt im1 ∧ DatAll im1 ys (outs (dfltOf (rows.take i) none))) rfl (by k_asm) N6 (List.mem_append.mpr (.inr hr)) (by rw [sizeLine_eq]; have := hO.len; omega) ⟨im, rfl, id_sub, S, .nil⟩ ?tn ?fn
    case tn =>
      intro g5 i5 ys5 news5 v5 hi5 hP5 hJ5
      refine hold fun G9 hG9 => ?_
      obtain ⟨im5, rfl, hs5, S5, hA5⟩ := hJ5
      rw [← Array.getElem?_toList] at hP5
      obtain ⟨hj5, hd5⟩ := dat_atM (hB.all.mono hs5) hP5
      generalize hrow : rows[i5] = row5 at hd5
      obtain ⟨lab5, nm5⟩ := row5
      obtain ⟨p6, u6, k6, rfl, hm6, hu6⟩ := dat_tup hd5
      clear hd5 hP5
      cases lab5 with
      | none =>
        walk_at "my open"
        have hy5 : ys5 = [] := by
          rw [dflt_first hO hj5 (by rw [hrow]) i5 (Nat.le_refl _)] at hA5
          exact all_nil hA5
        subst hy5
        refine hG9 ⟨_, _, _, _, _, rfl, List.mem_append.mpr (.inr hm6), rfl, rfl, ?_⟩
        clear hG9
        intro I5 oI5 C5 oC5 D5 m5 h5 tk5 E5 hC5 hx5 hy5 F5 N7 off5 ne5
        have S7 : Sep ((I5, oI5) :: (C5, oC5) :: (D5, LCg.lst []) :: mt) im5 := off3_sep off5 S5
        k_steps
        (with_reducible rename News _ _ _ _ => N3)
        (with_reducible rename Sep _ _ => S4)
        refine cend (mt := mt) (im := im'w) (by k_asm) N3 (by walk_at "my perm") (off3_left off5) S4 (src_at hr _ (by walk_at "my sub")) ⟨im'w, rfl, (by walk_at "my sub"), S4.tail.tail.tail, ?_⟩
        rw [dflt_take_none hj5 (by rw [hrow]), hrow]
        exact .one (by walk_at "my dat")
      | some l5 =>
        walk_at "my open"
        refine hG9 ⟨_, _, _, _, _, rfl, List.mem_append.mpr (.inr hm6), rfl, rfl, ?_⟩
        clear hG9
        intro I5 oI5 C5 oC5 D5 m5 h5 tk5 E5 hC5 hx5 hy5 F5 N7 off5 ne5
        have S7 : Sep ((I5, oI5) :: (C5, oC5) :: (D5, LCg.lst ys5) :: mt) im5 := off3_sep off5 S5
        k_steps
        refine cend (mt := mt) (im := im5) (by k_asm) N7 (by walk_at "my perm") (off3_left off5) S7 (src_at hr _ hs5) ⟨im5, rfl, hs5, S5, ?_⟩
        rw [dflt_take_some hj5 (by rw [hrow])]
        exact hA5
    case fn =>
      rintro g5 ys5 _ ⟨im5, rfl, hs5, S5, hA5⟩
      rw [hlen, List.take_length] at hA5
      walk_at "my fina"
      k_steps
      (with_reducible rename News _ _ _ _ => N3)
      (with_reducible rename LCg.Off1 _ _ => o3)
      refine ret _ _ _ ((_, LCg.lst ys5) :: im5) (.ref _) (by k_asm) rfl rfl ?_ (news_of N3 (by walk_at "my perm")) (fun p hp => .tail _ (hs5 p hp)) (Sep.snoc (fun p hp => off1_ne o3 p (List.mem_append.mpr (.inl hp))) S5)
      rw [pick_dflt, hP, ← outs_out]
      exact DatIn.list (.head _) (hA5.mono fun p hp => .tail _ hp)
end


theorem rg_p73_1 : True := by
  k_with "call ref" => (k_here; (with_reducible show wpAny _ _ (call (Value.ref 1152) _) _ _ _); refine stop_here ?_)
  exact trivial
section
variable (w : World) {prog : Program} {p : Program} {loose : List Str} {mean : ExcName → Option Value} {mg mb : Str → Option Value} {dp un : Nat} {gd : Option (List Code)} {cn : Str} {ca : Addr} {ccd : Value} {A₀ : Around} {base h₀ : Heap} {L : Addr} {m : Str → Option Value} {s : Shared} {E : Value → Shared → Prop} {Qf : Flow → Shared → Prop}
  {c1 c2 c3 c4 c5 c6 c7 : Addr}
theorem outD_ok {rows : List Row} {xu : Int} (hO : RowsOk rows xu) {o : Option Str} (h : ∀ nm, o = some nm → ∃ r ∈ rows, r.2 = nm) : dOk 8 (outD o) = true := by
  cases o with
  | none => rfl
  | some nm =>
    obtain ⟨r, hr, e⟩ := h nm rfl
    exact out_ok (e ▸ hO.names r hr)
theorem dflt_name : ∀ {rows : List Row} {d : Option Str} {nm : Str}, dfltOf rows d = some nm → d = some nm ∨ ∃ r ∈ rows, r.2 = nm
  | [], d, nm, h => .inl h
  | r :: rs, d, nm, h => by
    unfold dfltOf at h
    rcases dflt_name h with q | ⟨r', hr, e⟩
    · by_cases c : r.1.isNone = true
      · rw [if_pos c] at q; exact .inr ⟨r, .head _, Option.some.inj q⟩
      · rw [if_neg c] at q; exact .inl q
    · exact .inr ⟨r', .tail _ hr, e⟩
theorem pick_name2 {f : Num → Bool} {rows : List Row} {nm : Str} (h : pickOf f (pairsOf rows) (dfltOf rows none) = some nm) : ∃ r ∈ rows, r.2 = nm := by
  rw [pick_dflt] at h
  cases q : pickOf f (pairsOf rows) none with
  | none =>
    rw [q] at h
    rcases dflt_name h with e | e
    · cases e
    · exact e
  | some y =>
    rw [q] at h
    obtain ⟨p, hp, e⟩ := pick_name q
    obtain ⟨r, hr, e2⟩ := pairs_name hp
    exact ⟨r, hr, by rw [e2, e]; exact Option.some.inj h⟩
theorem blkD6 {rl : Addr} {rv : List Value} {kr : Nat} {rows : List Row} {subj : Num} {xu : Int} {oU oS : Obj} {rs sc dl : Value} {mt im : Led}
    (B : Below A₀ base [] h₀) (F : Fr h₀ L s.heap m) (X : (K w.params).In h₀) (T : Top p loose mean mg mb h₀) (hd : dp + 100 < recursionLimit) (hu : un + 3000 < cLine)
    (N : News h₀ L s.heap (mt ++ im)) (S : Sep mt im) (hr : (rl, W.listOf rv.toArray kr) ∈ im) (hB : AllM rowItemD im rv.toArray rows) (hO : RowsOk rows xu) (hs : NumOk subj.1)
    (mU : (c2, oU) ∈ im) (dU : oU.data = .cell (some rs)) (hS : AllM numD1 im #[rs] [subj]) (mS : (c6, oS) ∈ im) (dS : oS.data = .cell (some sc))
    (e1 : m (Str.ofString "rows") = some (.ref rl)) (e5 : m (Str.ofString "due") = some dl)
    (hdl : DatIn im dl (outD (pickOf (fun x => decide (wideOf x.1 (wOf (subj :: (pairsOf rows).map (·.1))) (sOf (subj :: (pairsOf rows).map (·.1))) = wideOf subj.1 (wOf (subj :: (pairsOf rows).map (·.1))) (sOf (subj :: (pairsOf rows).map (·.1))))) (pairsOf rows) (dfltOf rows none))))
    (ret : ∀ h' tk' m' im', Fr h₀ L h' m' → News h₀ L h' (mt ++ im') → Qf (.ret (.bool true)) { s with heap := h', toks := tk' }) :
    wpAny (model prog w) (ktrTop dp un gd cn dLaw.scope L ca ccd (lawCl c1 c2 c3 c4 c5 c6 c7) []) (execs (dLaw.body.drop 23) (envX cn dLaw.scope L ca ccd (lawCl c1 c2 c3 c4 c5 c6 c7))) Qf E s := by
  unfold dLaw
  dsimp only [List.drop, List.take]
  have mk1 : MkEq := ⟨⟩
  obtain ⟨p8, rfl⟩ := outD_ref hdl
  replace F := fr_see3 F e1 e5 e5
  rw [← case_pick_eq hs hO] at hdl
  have hok : dOk 8 (outD (casePick subj rows)) = true := by
    rw [case_pick_eq hs hO]
    exact outD_ok hO fun nm e => pick_name2 e
  have hl := hB.length
  have hz : rv.length ≤ 16384 := by have := hO.len; simp at hl; omega
  have hsd : DatIn im rs (numberD subj.1 subj.2) := all_cons1 hS.all
  have hrd := hB.all
  obtain ⟨bs, sg⟩ := subj
  k_steps
  unfold StopHere
  k_dflt (refine' pure_use (generate_choice_ok w sc (bs, sg) rows 3 hs hO.lab hO.len) ?B ?F ?K ?N ?T ?hk ?hX ?hS ?hv ?hD ?hd ?hu ?_)
  case hv => exact rfl
  case B => k_asm
  case F => k_asm
  case K => k_asm
  case N => k_asm
  case T => k_asm
  case hk => exact rfl
  case hX => walk_at "my spl"
  case hS => walk_at "my sep"
  case hd => walk_at "my room"
  case hu => walk_at "my units"
  case hD =>
    refine' DatAll.cons (DatIn.tuple ?m1 (.cons (.str _ _) (.cons (.int _ _) (.cons ?src (.cons (DatIn.tuple ?m2 (hrd.mono ?s3)) .nil))))) (.cons (.int _ _) .nil)
    case m1 => walk_at "my mem"
    case src => walk_at "my dat"
    case m2 => walk_at "my mem"
    case s3 => walk_at "my sub"
  intro r9 h9 tk9 im9 F9 N9 hs9 hS9 hD9
  k_steps
  (try unfold StopHere)
  refine same_eq N9 (im := im9) (app_r id_sub) hD9 (hdl.mono ?q0) hok (by walk_at "my units") ?q2
  case q0 => walk_at "my sub"
  case q2 =>
    k_steps
    exact ret _ _ _ im9 (by k_asm) (by with_reducible assumption)
end


theorem arr_ex (a : Array Value) : ∃ l : List Value, a = l.toArray := ⟨a.toList, by simp⟩
theorem noTup_nil : NoTup [] := fun _ h => nomatch h
theorem noTup_cell {a : Addr} {o : Obj} {v : Option Value} {mt : Led} (d : o.data = .cell v) (h : NoTup mt) : NoTup ((a, o) :: mt) := fun q hq => by
  rcases List.mem_cons.mp hq with rfl | hq
  · intro vs k e
    replace e : o = tupO vs k := e
    rw [e] at d
    cases d
  · exact h q hq
theorem noTup_list {a : Addr} {us : Array Value} {n : Nat} {mt : Led} (h : NoTup mt) : NoTup ((a, W.listOf us n) :: mt) := fun q hq => by
  rcases List.mem_cons.mp hq with rfl | hq
  · intro vs k e
    have h2 : Value.type "list" = Value.type "tuple" := congrArg Obj.cls e
    exact absurd (Value.type.inj h2) (by decide)
  · exact h q hq
theorem wOf_le12 : ∀ {l : List Num}, (∀ x ∈ l, (x.1.length : Int) ≤ 12) → wOf l ≤ 12
  | [], _ => by decide
  | y :: l, h => by
    show max _ (wOf l) ≤ 12
    have h1 := h y (.head _)
    have h2 := wOf_le12 (l := l) fun x hx => h x (.tail _ hx)
    omega
theorem rg_p80_0 : True := by
  k_with "my memd" => first | exact List.Mem.head _ | (refine List.Mem.tail _ ?_; walk_at "my memd")
  exact trivial
theorem rg_p80_9 : True := by
  k_with "my addrs" => first | exact List.forall_mem_nil _ | (refine List.forall_mem_cons.mpr ⟨?_, ?_⟩; (case' refine_1 => walk_at "my memd"); walk_at "my addrs")
  exact trivial
theorem rg_p80_1 : True := by
  k_with "my perml" => first | exact List.forall_mem_nil _ | with_reducible exact id_sub | (refine List.forall_mem_cons.mpr ⟨?_, ?_⟩; (case' refine_1 => walk_at "my mem0"); walk_at "my perml") | walk_at "my perm1"
  exact trivial
theorem rg_p80_2 : True := by
  k_with "my neqs" => first | exact List.forall_mem_nil _ | (refine List.forall_mem_cons.mpr ⟨?_, ?_⟩; (case' refine_1 => (first | exact Nat.ne_of_lt (by assumption) | exact Nat.ne_of_gt (by assumption))); walk_at "my neqs")
  exact trivial
theorem rg_p80_3 : True := by
  k_with "my seplit" => first | exact Sep.nil | (refine Sep.cons ?_ ?_; (case' refine_1 => walk_at "my neqs"); walk_at "my seplit")
  exact trivial
section
variable (w : World) {prog : Program} {p : Program} {loose : List Str} {mean : ExcName → Option Value} {mg mb : Str → Option Value} {dp un : Nat} {gd : Option (List Code)} {cn : Str} {ca : Addr} {A₀ : Around} {base h₀ : Heap} {L : Addr} {m : Str → Option Value} {s : Shared} {R : Value → Shared → Prop} {Qf : Flow → Shared → Prop}
  {c1 c2 c3 c4 c5 c6 c7 : Addr}
theorem law_body {q : Addr} {us : List Value} {ns : List Int} {o1 o2 o3 o4 o5 o6 o7 : Obj}
    (B : Below A₀ base [] h₀) (F : Fr h₀ L s.heap m) (X : (K w.params).In h₀) (T : Top p loose mean mg mb h₀) (XB : (K w.params).In base) (TB : Top p loose mean mg mb base) (C : CodeHd h₀ 1371 1369) (hd : dp + 200 < recursionLimit) (hu : un + 5000 < cLine)
    (N : News h₀ L s.heap [(c7, o7), (c6, o6), (c5, o5), (c4, o4), (c3, o3), (c2, o2), (c1, o1), (1369, tabObj #[])])
    (d1 : o1.data = .cell none) (d2 : o2.data = .cell none) (d3 : o3.data = .cell none) (d4 : o4.data = .cell none) (d5 : o5.data = .cell none) (d6 : o6.data = .cell none) (d7 : o7.data = .cell none)
    (n0 : @LT.lt Nat _ 1369 c1) (n1 : @LT.lt Nat _ c1 c2) (n2 : @LT.lt Nat _ c2 c3) (n3 : @LT.lt Nat _ c3 c4) (n4 : @LT.lt Nat _ c4 c5) (n5 : @LT.lt Nat _ c5 c6) (n6 : @LT.lt Nat _ c6 c7)
    (hq : base.IsList q us.toArray) (hI : IntsAre us ns) (hn : ¬ 63 < (ns.length : Int)) (e0 : m (Str.ofString "script") = some (.ref q))
    (ret : ∀ h' tk' m' ps nw, Fr h₀ L h' m' → News h₀ L h' ((1369, tabObj ps) :: nw) → Qf (.ret (.bool true)) { s with heap := h', toks := tk' }) :
    wpAny (model prog w) (ktrTop dp un gd cn dLaw.scope L ca (.ref 1371) (lawCl c1 c2 c3 c4 c5 c6 c7) []) (execs (dLaw.body.drop 0) (envX cn dLaw.scope L ca (.ref 1371) (lawCl c1 c2 c3 c4 c5 c6 c7))) Qf (lawE (model prog w) (ktrTop dp un gd cn dLaw.scope L ca (.ref 1371) (lawCl c1 c2 c3 c4 c5 c6 c7) []) (envX cn dLaw.scope L ca (.ref 1371) (lawCl c1 c2 c3 c4 c5 c6 c7)) R) s := by
  have hd60 : dp + 60 < recursionLimit := by omega
  have hd100 : dp + 100 < recursionLimit := by omega
  have hu2 : un + 2000 < cLine := by omega
  have hu3 : un + 3000 < cLine := by omega
  have t_z_c2 : @LT.lt Nat _ 1369 c2 := Nat.lt_trans n0 n1
  have t_c1_c3 : @LT.lt Nat _ c1 c3 := Nat.lt_trans n1 n2
  have t_c2_c4 : @LT.lt Nat _ c2 c4 := Nat.lt_trans n2 n3
  have t_c3_c5 : @LT.lt Nat _ c3 c5 := Nat.lt_trans n3 n4
  have t_c4_c6 : @LT.lt Nat _ c4 c6 := Nat.lt_trans n4 n5
  have t_c5_c7 : @LT.lt Nat _ c5 c7 := Nat.lt_trans n5 n6
  have t_z_c3 : @LT.lt Nat _ 1369 c3 := Nat.lt_trans t_z_c2 n2
  have t_c1_c4 : @LT.lt Nat _ c1 c4 := Nat.lt_trans t_c1_c3 n3
  have t_c2_c5 : @LT.lt Nat _ c2 c5 := Nat.lt_trans t_c2_c4 n4
  have t_c3_c6 : @LT.lt Nat _ c3 c6 := Nat.lt_trans t_c3_c5 n5
  have t_c4_c7 : @LT.lt Nat _ c4 c7 := Nat.lt_trans t_c4_c6 n6
  have t_z_c4 : @LT.lt Nat _ 1369 c4 := Nat.lt_trans t_z_c3 n3
  have t_c1_c5 : @LT.lt Nat _ c1 c5 := Nat.lt_trans t_c1_c4 n4
  have t_c2_c6 : @LT.lt Nat _ c2 c6 := Nat.lt_trans t_c2_c5 n5
  have t_c3_c7 : @LT.lt Nat _ c3 c7 := Nat.lt_trans t_c3_c6 n6
  have t_z_c5 : @LT.lt Nat _ 1369 c5 := Nat.lt_trans t_z_c4 n4
  have t_c1_c6 : @LT.lt Nat _ c1 c6 := Nat.lt_trans t_c1_c5 n5
  have t_c2_c7 : @LT.lt Nat _ c2 c7 := Nat.lt_trans t_c2_c6 n6
  have t_z_c6 : @LT.lt Nat _ 1369 c6 := Nat.lt_trans t_z_c5 n5
  have t_c1_c7 : @LT.lt Nat _ c1 c7 := Nat.lt_trans t_c1_c6 n6
  have t_z_c7 : @LT.lt Nat _ 1369 c7 := Nat.lt_trans t_z_c6 n6
  refine execs_at 0 2 ?_
  refine blkA1 w B F X T hd60 hu2 N d1 d3 d5 d6 n0 n1 n2 n3 n4 n5 n6 hq hI hn e0 ?_
  clear F N e0
  rintro h1 tk1 m1 rw us1 u1 o1' o6' x d xd de k1 k2 k3 k4 k5 k6 k7 k8 k9 v2 v4 v5 v6 v9 F N hR d1' d6' l1 l2 l3
  obtain ⟨us1, rfl⟩ := arr_ex us1
  replace hR : RowIs us1 := hR
  clear d1 d6
  have t_c6_rw : @LT.lt Nat _ c6 rw := Nat.lt_trans n6 l1
  have t_c7_d : @LT.lt Nat _ c7 d := Nat.lt_trans l1 l2
  have t_rw_x : @LT.lt Nat _ rw x := Nat.lt_trans l2 l3
  have t_c5_rw : @LT.lt Nat _ c5 rw := Nat.lt_trans t_c5_c7 l1
  have t_c6_d : @LT.lt Nat _ c6 d := Nat.lt_trans t_c6_rw l2
  have t_c7_x : @LT.lt Nat _ c7 x := Nat.lt_trans t_c7_d l3
  have t_c4_rw : @LT.lt Nat _ c4 rw := Nat.lt_trans t_c4_c7 l1
  have t_c5_d : @LT.lt Nat _ c5 d := Nat.lt_trans t_c5_rw l2
  have t_c6_x : @LT.lt Nat _ c6 x := Nat.lt_trans t_c6_d l3
  have t_c3_rw : @LT.lt Nat _ c3 rw := Nat.lt_trans t_c3_c7 l1
  have t_c4_d : @LT.lt Nat _ c4 d := Nat.lt_trans t_c4_rw l2
  have t_c5_x : @LT.lt Nat _ c5 x := Nat.lt_trans t_c5_d l3
  have t_c2_rw : @LT.lt Nat _ c2 rw := Nat.lt_trans t_c2_c7 l1
  have t_c3_d : @LT.lt Nat _ c3 d := Nat.lt_trans t_c3_rw l2
  have t_c4_x : @LT.lt Nat _ c4 x := Nat.lt_trans t_c4_d l3
  have t_c1_rw : @LT.lt Nat _ c1 rw := Nat.lt_trans t_c1_c7 l1
  have t_c2_d : @LT.lt Nat _ c2 d := Nat.lt_trans t_c2_rw l2
  have t_c3_x : @LT.lt Nat _ c3 x := Nat.lt_trans t_c3_d l3
  have t_z_rw : @LT.lt Nat _ 1369 rw := Nat.lt_trans t_z_c7 l1
  have t_c1_d : @LT.lt Nat _ c1 d := Nat.lt_trans t_c1_rw l2
  have t_c2_x : @LT.lt Nat _ c2 x := Nat.lt_trans t_c2_d l3
  have t_z_d : @LT.lt Nat _ 1369 d := Nat.lt_trans t_z_rw l2
  have t_c1_x : @LT.lt Nat _ c1 x := Nat.lt_trans t_c1_d l3
  have t_z_x : @LT.lt Nat _ 1369 x := Nat.lt_trans t_z_d l3
  have S : Sep [(rw, W.listOf us1.toArray u1), (c3, o3), (c5, o5), (c7, o7), (c4, o4), (c2, o2), (1369, tabObj #[])] [(c6, o6'), (c1, o1'), (x, instObj 1302 d), (d, scDict w xd de k1 k2 k3 k4 k5 k6 k7 k8 k9 v2 v4 v5 v6 v9)] := by walk_at "my seplit"
  have N2 : News h₀ L h1 ((rw, W.listOf us1.toArray u1) :: (c3, o3) :: (c5, o5) :: (c7, o7) :: (c4, o4) :: (c2, o2) :: (1369, tabObj #[]) :: (c6, o6') :: (c1, o1') :: (x, instObj 1302 d) :: (d, scDict w xd de k1 k2 k3 k4 k5 k6 k7 k8 k9 v2 v4 v5 v6 v9) :: []) := news_of N (by walk_at "my perml")
  clear N
  refine execs_at 2 2 ?_
  refine blkA2 w (mt := [(c7, o7), (c4, o4), (c2, o2), (1369, tabObj #[])]) B F X T hd60 hu2 N2 hR (.tail _ (.head _)) d1' d3 d5 S (Nat.ne_of_gt t_c3_rw) (Nat.ne_of_gt t_c5_rw) (Nat.ne_of_lt t_c3_c5) (by walk_at "my neqs") (by walk_at "my neqs") (by walk_at "my neqs") ?_
  clear F N2 hR d3 d5
  rintro h2 tk2 us2 u2 o3' o5' l r tl tr im2 F N hR d3' d5' hl hr hs2 S2
  obtain ⟨us2, rfl⟩ := arr_ex us2
  replace hR : RowIs us2 := hR
  have m1o := hs2 _ (.tail _ (.head _))
  have m6o := hs2 _ (.head _)
  have mxo := hs2 _ (.tail _ (.tail _ (.head _)))
  have mdo := hs2 _ (.tail _ (.tail _ (.tail _ (.head _))))
  have S3 : Sep [(rw, W.listOf us2.toArray u2), (c7, o7), (c4, o4), (c2, o2), (1369, tabObj #[])] ((c3, o3') :: (c5, o5') :: im2) := Sep.snoc (by walk_at "my neqs") (Sep.snoc (by walk_at "my neqs") (sep_by S2 (by walk_at "my addrs")))
  simp only [List.cons_append, List.nil_append] at N
  have N3 : News h₀ L h2 ((rw, W.listOf us2.toArray u2) :: (c7, o7) :: (c4, o4) :: (c2, o2) :: (1369, tabObj #[]) :: (c3, o3') :: (c5, o5') :: im2) := news_of N (by walk_at "my perml")
  clear N S2 S hs2
  refine execs_at 4 1 ?_
  refine blkB1 w (mt := [(rw, W.listOf us2.toArray u2), (c7, o7), (c4, o4), (c2, o2), (1369, tabObj #[])]) B F X T hd60 hu2 N3 S3 (.head _) d3' (.tail _ (.head _)) d5' hl hr ?_
  clear F N3
  rintro h3 tk3 m3 im3 vd F N hs3 S3 ed hD
  have m3o := hs3 _ (.head _)
  have m5o := hs3 _ (.tail _ (.head _))
  replace m1o := hs3 _ (.tail _ (.tail _ m1o))
  replace m6o := hs3 _ (.tail _ (.tail _ m6o))
  replace mxo := hs3 _ (.tail _ (.tail _ mxo))
  replace mdo := hs3 _ (.tail _ (.tail _ mdo))
  clear hs3
  have S4 : Sep [(1369, tabObj #[]), (rw, W.listOf us2.toArray u2), (c7, o7), (c4, o4), (c2, o2)] im3 := sep_by S3 (by walk_at "my addrs")
  simp only [List.cons_append, List.nil_append] at N
  have N4 : News h₀ L h3 ((1369, tabObj #[]) :: (rw, W.listOf us2.toArray u2) :: (c7, o7) :: (c4, o4) :: (c2, o2) :: im3) := news_of N (by walk_at "my perml")
  clear N S3
  refine execs_at 5 1 ?_
  refine blkT1 w (mt := [(rw, W.listOf us2.toArray u2), (c7, o7), (c4, o4), (c2, o2)]) B F X T XB TB C hd100 hu3 N4 S4 (noTup_list (noTup_cell d7 (noTup_cell d4 (noTup_cell d2 noTup_nil)))) (by walk_at "my neqs") m3o d3' m5o d5' m6o d6' hl hr ?_
  clear F N4
  rintro h4 tk4 im4 vt a4 F N hs4 S4 hT
  replace m1o := hs4 _ m1o
  replace m5o := hs4 _ m5o
  replace m6o := hs4 _ m6o
  replace mxo := hs4 _ mxo
  replace mdo := hs4 _ mdo
  replace hD := hD.imp (And.imp_right fun h => DatIn.mono hs4 h) id
  clear m3o hs4
  have N : News h₀ L h4 ([(1369, tabObj #[rawInt 1421, rawInt 21, Value.ref a4]), (rw, W.listOf us2.toArray u2), (c7, o7), (c4, o4), (c2, o2)] ++ im4) := N
  have S5 : Sep [(1369, tabObj #[rawInt 1421, rawInt 21, Value.ref a4]), (rw, W.listOf us2.toArray u2), (c7, o7), (c4, o4), (c2, o2)] im4 := sep_by S4 (by walk_at "my addrs")
  clear S4
  refine execs_at 6 1 ?_
  refine blkT2 w B F X T hd100 hu3 N S5 m5o d5' m6o d6' hl hr ((if_neg (by decide)).trans ed) (if_pos rfl) hD hT ?_
  clear F N m5o hD hT ed
  rintro h5 tk5 m5 im5 F N hs5 S5
  refine execs_at 7 1 ?_
  refine blkT3 w B F X T hd100 hu3 N S5 (hs5 _ m6o) d6' ?_
  clear F N S5
  rintro h6 tk6 im6 F N hs6 S6
  replace hs6 : ∀ p ∈ im4, p ∈ im6 := fun p hp => hs6 p (hs5 p hp)
  clear hs5
  replace m1o := hs6 _ m1o
  replace m6o := hs6 _ m6o
  replace mxo := hs6 _ mxo
  replace mdo := hs6 _ mdo
  clear hs6
  have S7 : Sep [(rw, W.listOf us2.toArray u2), (c4, o4), (c7, o7), (1369, tabObj #[rawInt 1421, rawInt 21, Value.ref a4]), (c2, o2)] im6 := sep_by S6 (by walk_at "my addrs")
  simp only [List.cons_append, List.nil_append] at N
  have N7 : News h₀ L h6 ((rw, W.listOf us2.toArray u2) :: (c4, o4) :: (c7, o7) :: (1369, tabObj #[rawInt 1421, rawInt 21, Value.ref a4]) :: (c2, o2) :: im6) := news_of N (by walk_at "my perml")
  clear N S6
  refine execs_at 8 2 ?_
  refine blkC1 w (mt := [(1369, tabObj #[rawInt 1421, rawInt 21, Value.ref a4]), (c2, o2)]) B F X T hd60 hu2 N7 hR m1o d1' d4 d7 S7 (Nat.ne_of_gt t_c4_rw) (Nat.ne_of_gt l1) (Nat.ne_of_lt t_c4_c7) (by walk_at "my neqs") (by walk_at "my neqs") (by walk_at "my neqs") ?_
  clear F N7 hR d4 d7
  rintro h7 tk7 us3 u3 o4' o7' vn vv nms bs sg im7 F N hR d4' d7' hV hb hNm hn7 hs7 S7
  obtain ⟨us3, rfl⟩ := arr_ex us3
  replace hR : RowIs us3 := hR
  replace m1o := hs7 _ m1o
  replace m6o := hs7 _ m6o
  replace mxo := hs7 _ mxo
  replace mdo := hs7 _ mdo
  clear hs7
  have S8 : Sep [(1369, tabObj #[rawInt 1421, rawInt 21, Value.ref a4]), (rw, W.listOf us3.toArray u3), (c2, o2)] ((c4, o4') :: (c7, o7') :: im7) := Sep.snoc (by walk_at "my neqs") (Sep.snoc (by walk_at "my neqs") (sep_by S7 (by walk_at "my addrs")))
  simp only [List.cons_append, List.nil_append] at N
  have N8 : News h₀ L h7 ((1369, tabObj #[rawInt 1421, rawInt 21, Value.ref a4]) :: (rw, W.listOf us3.toArray u3) :: (c2, o2) :: (c4, o4') :: (c7, o7') :: im7) := news_of N (by walk_at "my perml")
  clear N S7
  have hV8 : AllM numD1 ((c4, o4') :: (c7, o7') :: im7) #[vv] [(bs, sg)] := ⟨.one (hV.mono (cons_sub (cons_sub id_sub)))⟩
  have hN8 : AllM Dat.tuple ((c4, o4') :: (c7, o7') :: im7) #[vn] [nms] := ⟨.one (hNm.mono (cons_sub (cons_sub id_sub)))⟩
  clear hV hNm
  refine execs_at 10 1 ?_
  refine blkC2 w (mt := [(rw, W.listOf us3.toArray u3), (c2, o2)]) B F X T XB TB C hd100 hu3 N8 S8 (noTup_list (noTup_cell d2 noTup_nil)) (by walk_at "my neqs") (.head _) d4' (.tail _ (.head _)) d7' (.tail _ (.tail _ m6o)) d6' (.tail _ (.tail _ mxo)) (.tail _ (.tail _ mdo)) hV8 hb hN8 hn7 ?_
  clear F N8
  rintro h8 tk8 im8 v8 ps F N hs8 S8 hT
  have S9 : Sep [(1369, tabObj ps), (rw, W.listOf us3.toArray u3), (c2, o2)] im8 := sep_by S8 (by walk_at "my addrs")
  refine execs_at 11 1 ?_
  refine blkC3 w (mt := [(1369, tabObj ps), (rw, W.listOf us3.toArray u3), (c2, o2)]) B F X T hd100 hu3 N S9 (hs8 _ (.head _)) d4' (hs8 _ (.tail _ (.head _))) d7' (hV8.mono hs8) hb (hN8.mono hs8) (if_pos rfl) hT ?_
  clear F N S8 S9 hV8 hN8 hT
  rintro h9 tk9 m9 im9 F N hs9 S9
  replace m1o := hs9 _ (hs8 _ (.tail _ (.tail _ m1o)))
  replace m6o := hs9 _ (hs8 _ (.tail _ (.tail _ m6o)))
  clear mxo mdo hs8 hs9
  have S10 : Sep [(rw, W.listOf us3.toArray u3), (c2, o2), (1369, tabObj ps)] im9 := sep_by S9 (by walk_at "my addrs")
  simp only [List.cons_append, List.nil_append] at N
  have N10 : News h₀ L h9 ((rw, W.listOf us3.toArray u3) :: (c2, o2) :: (1369, tabObj ps) :: im9) := news_of N (by walk_at "my perml")
  clear N S9
  refine execs_at 12 4 ?_
  refine blkD1 w (mt := [(1369, tabObj ps)]) B F X T hd60 hu2 N10 hR d2 m1o d1' S10 (Nat.ne_of_gt t_c2_rw) (by walk_at "my neqs") (by walk_at "my neqs") ?_
  clear F N10 hR S10
  rintro h10 tk10 us4 u4 o2' nl rl im10 bs4 sg4 rs xu tu F N hR d2' hs hb4 hs10 ln lr S10 q10
  replace m1o := hs10 _ m1o
  replace m6o := hs10 _ m6o
  clear hs10
  obtain ⟨ln1, ln2, ln3, ln4⟩ := ln
  obtain ⟨lr1, lr2, lr3, lr4, lr5⟩ := lr
  replace ln3 : @LT.lt Nat _ 1369 nl := ln3
  replace lr4 : @LT.lt Nat _ 1369 rl := lr4
  have S11 : Sep [(rw, W.listOf us4.toArray u4), (rl, W.listOf #[] 0), (nl, W.listOf #[rs] 0), (1369, tabObj ps)] ((c2, o2') :: im10) := Sep.snoc (by walk_at "my neqs") (Sep.cons q10 (Sep.cons (allLt_ne lr5) (Sep.cons (allLt_ne ln4) S10.tail)))
  simp only [List.cons_append, List.nil_append] at N
  have N11 : News h₀ L h10 ((rw, W.listOf us4.toArray u4) :: (rl, W.listOf #[] 0) :: (nl, W.listOf #[rs] 0) :: (1369, tabObj ps) :: (c2, o2') :: im10) := news_of N (by walk_at "my perml")
  clear N S10
  refine execs_at 16 1 ?_
  refine blkD2 w (subj := (bs4, sg4)) (mt := [(1369, tabObj ps)]) B F X T hd60 hu2 N11 hR (.tail _ m1o) d1' (.head _) d2' (hs.mono (cons_sub id_sub)) hb4 S11 (Nat.ne_of_lt lr2) (Nat.ne_of_lt ln1) (Nat.ne_of_gt lr1) (by walk_at "my neqs") (by walk_at "my neqs") (by walk_at "my neqs") (if_pos rfl) ((if_neg (by decide)).trans (if_pos rfl)) ((if_neg (by decide)).trans ((if_neg (by decide)).trans (if_pos rfl))) ?_
  clear F N11 hR S11 m1o
  rintro h11 tk11 m11 us5 u5 rv kr nv kn im11 rows F er en N hs11 S11 hB hA hO
  obtain ⟨rv, rfl⟩ := arr_ex rv
  have m2o := hs11 _ (.head _)
  replace m6o := hs11 _ (.tail _ m6o)
  replace hs := hs.mono fun p hp => hs11 p (.tail _ hp)
  clear hs11
  have S12 : Sep [(rw, W.listOf us5 u5), (1369, tabObj ps)] ((rl, W.listOf rv.toArray kr) :: (nl, W.listOf nv kn) :: im11) := Sep.snoc (by walk_at "my neqs") (Sep.snoc (by walk_at "my neqs") (sep_by S11 (by walk_at "my addrs")))
  simp only [List.cons_append, List.nil_append] at N
  have N12 : News h₀ L h11 ((rw, W.listOf us5 u5) :: (1369, tabObj ps) :: (rl, W.listOf rv.toArray kr) :: (nl, W.listOf nv kn) :: im11) := news_of N (by walk_at "my perml")
  clear N S11
  have hB12 : AllM rowItemD ((rl, W.listOf rv.toArray kr) :: (nl, W.listOf nv kn) :: im11) rv.toArray rows := hB.mono (cons_sub (cons_sub id_sub))
  have hA12 : AllM numD1 ((rl, W.listOf rv.toArray kr) :: (nl, W.listOf nv kn) :: im11) nv ((bs4, sg4) :: (pairsOf rows).map (·.1)) := hA.mono (cons_sub (cons_sub id_sub))
  have hS12 : AllM numD1 ((rl, W.listOf rv.toArray kr) :: (nl, W.listOf nv kn) :: im11) #[rs] [(bs4, sg4)] := ⟨.one (hs.mono (cons_sub (cons_sub id_sub)))⟩
  clear hA hB hs
  have hpo := pairs_ok hO.lab
  have hno : ∀ x ∈ (bs4, sg4) :: (pairsOf rows).map (·.1), NumOk x.1 := fun x hx => by
    rcases List.mem_cons.mp hx with rfl | hx
    · exact hb4
    · exact hpo x hx
  have hpl := pairs_len (rs := rows) fun r h l e => (hO.lab r h l e).1
  have hrl := hO.len
  refine execs_at 17 4 ?_
  refine blkD3 w (mt := [(rw, W.listOf us5 u5), (1369, tabObj ps)]) B F X T hd60 hu2 N12 S12 (.tail _ (.head _)) hA12 hno (by simp) (by simp only [List.length_cons, List.length_map]; omega) er en ?_
  clear F N12 S12
  rintro h12 tk12 m12 im12 tw t1 dl F er en ew eg ed hdl es N hs12 S12
  replace hA12 := hA12.mono hs12
  replace hB12 := hB12.mono hs12
  replace hS12 := hS12.mono hs12
  have mno := hs12 _ (.tail _ (.head _))
  have mro := hs12 _ (.head _)
  replace m2o := hs12 _ (.tail _ (.tail _ m2o))
  replace m6o := hs12 _ (.tail _ (.tail _ m6o))
  clear hs12
  have hW1 : 1 ≤ wOf ((bs4, sg4) :: (pairsOf rows).map (·.1)) := Int.le_trans (by have := hb4.1; simp only; omega) (wOf_ge (.head _))
  have hW2 : wOf ((bs4, sg4) :: (pairsOf rows).map (·.1)) ≤ 12 := wOf_le12 fun x hx => by have := (hno x hx).2.1; omega
  refine execs_at 21 1 ?_
  refine blkD4 w (mt := [(rw, W.listOf us5 u5), (1369, tabObj ps)]) B F X T hd60 hu2 N S12 mno hA12 mro hB12 hO hb4 m2o d2' hS12 hW1 hW2 er en ew eg ed hdl es ?_
  clear F N S12 er en ew eg ed es hdl
  rintro h13 tk13 m13 im13 dl F er ed hdl N hs13 S13
  refine execs_at 22 1 ?_
  refine blkD5 w (mt := [(rw, W.listOf us5 u5), (1369, tabObj ps)]) B F X T hd100 hu3 N S13 (hs13 _ mro) (hB12.mono hs13) hO er ed hdl ?_
  clear F N S13 er ed hdl
  rintro h14 tk14 m14 im14 dl F er ed hdl N hs14 S14
  replace hs14 : ∀ p ∈ im12, p ∈ im14 := fun p hp => hs14 p (hs13 p hp)
  refine blkD6 w (mt := [(rw, W.listOf us5 u5), (1369, tabObj ps)]) B F X T hd100 hu3 N S14 (hs14 _ mro) (hB12.mono hs14) hO hb4 (hs14 _ m2o) d2' (hS12.mono hs14) (hs14 _ m6o) d6' er ed hdl ?_
  rintro h15 tk15 m15 im15 F N
  simp only [List.cons_append, List.nil_append] at N
  exact ret h15 tk15 m15 ps ((rw, W.listOf us5 u5) :: im15) F (news_of N (by walk_at "my perml"))
end

theorem cells1 {cm : Str → Option Value} {n : Str} {c : Addr} {o : Obj} {l : List (Str × Addr)} {l' : Led} (x : CellsAre cm ((n, c) :: l) ((c, o) :: l')) : o.data = .cell (cm n) ∧ CellsAre cm l l' := by
  cases x with | cons h x => exact ⟨h, x⟩
theorem cells7 {cm : Str → Option Value} {n1 n2 n3 n4 n5 n6 n7 : Str} {c1 c2 c3 c4 c5 c6 c7 : Addr} {o1 o2 o3 o4 o5 o6 o7 : Obj} (x : CellsAre cm [(n7, c7), (n6, c6), (n5, c5), (n4, c4), (n3, c3), (n2, c2), (n1, c1)] [(c7, o7), (c6, o6), (c5, o5), (c4, o4), (c3, o3), (c2, o2), (c1, o1)]) :
    o7.data = .cell (cm n7) ∧ o6.data = .cell (cm n6) ∧ o5.data = .cell (cm n5) ∧ o4.data = .cell (cm n4) ∧ o3.data = .cell (cm n3) ∧ o2.data = .cell (cm n2) ∧ o1.data = .cell (cm n1) := by
  have h7 := cells1 x
  have h6 := cells1 h7.2
  have h5 := cells1 h6.2
  have h4 := cells1 h5.2
  have h3 := cells1 h4.2
  have h2 := cells1 h3.2
  exact ⟨h7.1, h6.1, h5.1, h4.1, h3.1, h2.1, (cells1 h2.2).1⟩
theorem law_name : dLaw.name = Str.ofString "law" := rfl
theorem env_law2 (L a : Addr) (cd : Value) : envOfC (Str.ofString "law") dLaw.scope L a cd = envX (Str.ofString "law") dLaw.scope L a cd (lawCl (L + 1) (L + 1 + 1) (L + 1 + 1 + 1) (L + 1 + 1 + 1 + 1) (L + 1 + 1 + 1 + 1 + 1) (L + 1 + 1 + 1 + 1 + 1 + 1) (L + 1 + 1 + 1 + 1 + 1 + 1 + 1)) := env_law L a cd
open PyLaw.G in
theorem top : PySem.Challenge.rw_nn0349_01.Holds := by
  refine hd ?_
  unfold WalkO
  simp only [law_name]
  k_go0
  all_goals (try k_fold)
  (with_reducible rename News _ _ _ _ => N0)
  (with_reducible rename Fr _ _ _ _ => F0)
  (with_reducible rename CellsAre _ _ _ => C0)
  (with_reducible rename Below _ _ _ _ => B0)
  (with_reducible rename Top _ _ _ _ _ (ghostOf _ _) => T0)
  (with_reducible rename CodeHd _ _ _ => H0)
  (with_reducible rename Heap.IsList (ghostOf _ _) _ _ => L0)
  (with_reducible rename IntsAre _ _ => I0)
  (with_reducible rename ¬ _ < (_ : Int) => n0)
  (with_reducible rename (1369 : Nat) < _ => l0)
  obtain ⟨d7, d6, d5, d4, d3, d2, d1⟩ := cells7 C0
  (try rw [law_name])
  rw [env_law2]
  refine law_body (q := _) (us := _) (ns := _) _ B0 F0 (by assumption) T0 (by assumption) T0 H0 ?hd ?hu N0 ?d1 ?d2 ?d3 ?d4 ?d5 ?d6 ?d7 ?n0 ?n1 ?n2 ?n3 ?n4 ?n5 ?n6 L0 I0 n0 ?e0 ?ret
  case hd => decide
  case hu => decide
  case d1 => (refine d1.trans ?_; kernel_rfl)
  case d2 => (refine d2.trans ?_; kernel_rfl)
  case d3 => (refine d3.trans ?_; kernel_rfl)
  case d4 => (refine d4.trans ?_; kernel_rfl)
  case d5 => (refine d5.trans ?_; kernel_rfl)
  case d6 => (refine d6.trans ?_; kernel_rfl)
  case d7 => (refine d7.trans ?_; kernel_rfl)
  case n0 => exact Nat.lt_succ_of_lt l0
  case n1 => exact Nat.lt_succ_self _
  case n2 => exact Nat.lt_succ_self _
  case n3 => exact Nat.lt_succ_self _
  case n4 => exact Nat.lt_succ_self _
  case n5 => exact Nat.lt_succ_self _
  case n6 => exact Nat.lt_succ_self _
  case e0 => kernel_rfl
  case ret =>
    intro h' tk' m' ps nw F N
    clear F0 N0 d1 d2 d3 d4 d5 d6 d7 C0
    dsimp only
    k_steps

end PyLaw
theorem PySem.Challenge.cw_nn0349_01_holds : PySem.Challenge.rw_nn0349_01.Holds :=
  PyLaw.top
