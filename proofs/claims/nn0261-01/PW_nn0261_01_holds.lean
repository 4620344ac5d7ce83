import PyProof.Rows.All
import Wide.All
import OpenK.AllK
import Wide.FinOn
import PySem.Challenge.RW_nn0261_01
set_option Elab.async false
set_option linter.unusedVariables false
namespace Mine
section
open PySem PySem.W PyProof.Rows
set_option maxRecDepth 100000
set_option maxHeartbeats 8000000
noncomputable def view0 : Program := view PySem.Challenge.pw_nn0261_01 [1,3,5,6,7,8,9,10,11,12,13,14,16,17,18,19,20,21,22,23,25,26,27,28,30,31,32,33,35,36,37,38,39,40,41,42,43]
namespace Hp
noncomputable def vn : Value := .none
noncomputable def vb (b : Bool) : Value := .bool b
noncomputable def vi (i : Int) (t : Nat) : Value := .int i t
noncomputable def vs (x : String) (t : Nat) : Value := .str (Str.ofString x) t
noncomputable def vt (x : String) : Value := .type x
noncomputable def vu (x : String) : Value := .builtin x
noncomputable def vr (a : Nat) : Value := .ref a
noncomputable def de (P : Params) (k : String) (t : Nat) (v : Value) : DictEntry := ⟨PyData.keyHash P (Str.ofString k), .str (Str.ofString k) t, v⟩
noncomputable def st (i : Nat) : Stmt := (PySem.Challenge.pw_nn0261_01.main.body[i]?).getD default
noncomputable def cst (i j : Nat) : Stmt := match st i with
  | .ClassDef _ _ _ b _ _ _ _ _ _ _ => (b[j]?).getD default
  | _ => default
noncomputable def fu (s : Stmt) (name qual : String) (g : Nat) (cl : List (Str × Addr)) (d kd doc m : Value) (an : Option Addr) (cd ct : Value) (b : Nat) : Data := match s with
  | .FunctionDef _ ps bd _ _ _ sc _ _ _ => .func { name := Str.ofString name, qualname := Str.ofString qual, params := ps, body := .stmts bd, scope := sc, globals := g, closure := cl, defaults := d, kwdefaults := kd, doc := doc, pyModule := m, annotations := an, code := cd, closureTuple := ct, builtins := b }
  | _ => .plain
noncomputable def alt : List Obj → List Obj × List Obj
  | [] => ([], [])
  | x :: t => (x :: (alt t).2, (alt t).1)
noncomputable def tr : Nat → List Obj → BT
  | 0, _ => .nil
  | _ + 1, [] => .nil
  | n + 1, x :: t => .node x (tr n (alt t).1) (tr n (alt t).2)
noncomputable def glob (P : Params) : List DictEntry := [
  de P "__doc__" 166 vn,
  de P "__package__" 167 vn,
  de P "__loader__" 168 (vu "__main__.__loader__#opaque"),
  de P "__spec__" 169 vn,
  de P "__annotations__" 170 (vr 6),
  de P "__builtins__" 171 (vr 4),
  de P "__file__" 173 (vs "/claim/cut.py" 172),
  de P "__cached__" 174 vn,
  de P "CasFail" 219 (vr 31),
  de P "gcd" 229 (vr 41),
  de P "R0" 234 (vr 42),
  de P "R1" 237 (vr 43),
  de P "rat" 246 (vr 50),
  de P "radd" 254 (vr 57),
  de P "rsub" 262 (vr 64),
  de P "rmul" 270 (vr 71),
  de P "rdiv" 278 (vr 78),
  de P "rneg" 285 (vr 85),
  de P "rinv" 292 (vr 92),
  de P "rcompare" 301 (vr 99),
  de P "qtrim" 311 (vr 106),
  de P "qadd" 317 (vr 111),
  de P "qneg" 323 (vr 116),
  de P "qsub" 331 (vr 123),
  de P "qscale" 337 (vr 128),
  de P "qraise" 345 (vr 135),
  de P "qmul" 358 (vr 142),
  de P "qdivmod" 371 (vr 149),
  de P "cut" 381 (vr 156),
  de P "mixed" 392 (vr 163),
  de P "smul" 398 (vr 168),
  de P "sinverse" 409 (vr 175),
  de P "first_within" 425 (vr 182),
  de P "pade" 436 (vr 189),
  de P "fraction_series" 445 (vr 196),
  de P "fits_series" 454 (vr 203),
  de P "_law_take" 464 (vr 210),
  de P "_law_box" 470 (vr 215),
  de P "_law_low" 480 (vr 222),
  de P "_law_plus" 486 (vr 227),
  de P "_law_times" 500 (vr 234),
  de P "_law_cut" 508 (vr 241),
  de P "_law_divided" 523 (vr 248),
  de P "_law_is_solvable" 529 (vr 253),
  de P "law" 535 (vr 258)]
noncomputable def codes : List Value := [
  (vi 2 0), (vi 0 0), (vr 20), (vi 9 0), (vi 0 0), (vr 40), (vi 17 0), (vi 0 0), (vr 49), (vi 22 0), (vi 0 0), (vr 56), (vi 24 0), (vi 0 0), (vr 63), (vi 26 0), (vi 0 0), (vr 70), (vi 28 0), (vi 0 0), (vr 77), (vi 30 0), (vi 0 0), (vr 84), (vi 32 0), (vi 0 0), (vr 91), (vi 34 0), (vi 0 0), (vr 98), (vi 38 0), (vi 0 0), (vr 105), (vi 43 0), (vi 0 0), (vr 110), (vi 46 0), (vi 0 0), (vr 115), (vi 48 0), (vi 0 0), (vr 122), (vi 50 0), (vi 0 0), (vr 127), (vi 52 0), (vi 0 0), (vr 134), (vi 54 0), (vi 0 0), (vr 141), (vi 62 0), (vi 0 0), (vr 148), (vi 73 0), (vi 0 0), (vr 155), (vi 75 0), (vi 0 0), (vr 162), (vi 81 0), (vi 0 0), (vr 167), (vi 83 0), (vi 0 0), (vr 174), (vi 94 0), (vi 0 0), (vr 181), (vi 102 0), (vi 0 0), (vr 188), (vi 107 0), (vi 0 0), (vr 195), (vi 109 0), (vi 0 0), (vr 202), (vi 112 0), (vi 0 0), (vr 209), (vi 117 0), (vi 0 0), (vr 214), (vi 120 0), (vi 0 0), (vr 221), (vi 125 0), (vi 0 0), (vr 226), (vi 127 0), (vi 0 0), (vr 233), (vi 136 0), (vi 0 0), (vr 240), (vi 138 0), (vi 0 0), (vr 247), (vi 147 0), (vi 0 0), (vr 252), (vi 166 0), (vi 0 0), (vr 257)]
noncomputable def oG (P : Params) (nm : Value) (n e : Nat) : Obj := ⟨vt "dict", none, .dict (List.toArray (de P "__name__" 165 nm :: (glob P).take n)) e, #[]⟩
noncomputable def oC (n : Nat) : Obj := ⟨vn, none, .fields (List.toArray (codes.take n)), #[]⟩
noncomputable def o2a : Obj := ⟨vn, none, (.dict #[] 0), #[]⟩
noncomputable def o2b (P : Params) : Obj := ⟨vn, none, (.dict #[de P "type.__subclasses__.Exception.0" 216 (vi 31 0), de P "type.__subclasses__.Exception.n" 217 (vi 1 0)] 2), #[]⟩
noncomputable def ob0 (P : Params) : List Obj := [
  ⟨(vt "code"), none, (.fields #[(vs "<module>" 182), (vs "<module>" 183), (vs "/claim/cut.py" 184), (vi 1 0), (vi 0 0), (vi 0 0), (vi 0 0), (vi 0 0), (vr 11), (vb false), (vi 181 0), (vr 12), vn, vn, vn, vn, (vi 185 0), (vi 1 0), (vs "/claim/cut.py" 186)]), #[]⟩,
  ⟨(vt "frame"), none, .plain, #[(some (vr 13)), (some (vr 3)), (some (vr 3)), none, (some (vs "__main__" 164)), none, (some (vr 0))]⟩]
noncomputable def ob1 (P : Params) : List Obj := [
  ⟨(vt "tuple"), none, (.seq #[(vt "Exception")] 0), #[]⟩,
  ⟨(vt "builtin_function_or_method"), none, (.fields #[(vu "type.__prepare__"), (vt "type")]), #[]⟩,
  ⟨(vt "dict"), none, (.dict #[de P "__module__" 196 (vs "cas.errors" 187), de P "__qualname__" 198 (vs "CasFail" 197), de P "__firstlineno__" 200 (vi 2 199), de P "__init__" 209 (vr 28), de P "__static_attributes__" 212 (vr 29)] 5), #[]⟩,
  ⟨(vt "tuple"), none, (.seq #[] 0), #[]⟩,
  ⟨vn, none, (.fields #[(vi 4 0), (vi 4 0), (vr 27)]), #[]⟩,
  ⟨(vt "code"), none, (.fields #[(vs "CasFail" 191), (vs "CasFail" 192), (vs "/claim/cut.py" 193), (vi 2 0), (vi 0 0), (vi 0 0), (vi 0 0), (vi 0 0), (vr 18), (vb false), (vi 181 0), (vr 19), vn, vn, vn, vn, (vi 194 0), (vi 2 0), (vs "/claim/cut.py" 195)]), #[]⟩,
  ⟨(vt "frame"), none, .plain, #[(some (vr 20)), (some (vr 3)), (some (vr 17)), none, (some (vs "cas.errors" 187)), none, (some (vr 0))]⟩,
  ⟨(vt "tuple"), none, (.seq #[] 0), #[]⟩,
  ⟨vn, none, (.fields #[]), #[]⟩,
  ⟨(vt "tuple"), none, (.seq #[(vs "self" 204), (vs "kind" 205), (vs "text" 206)] 0), #[]⟩,
  ⟨(vt "tuple"), none, (.seq #[] 0), #[]⟩,
  ⟨vn, none, (fu (cst 1 0) "__init__" "CasFail.__init__" 0 [] vn vn vn vn none vn vn 0), #[]⟩,
  ⟨(vt "code"), none, (.fields #[(vs "__init__" 201), (vs "CasFail.__init__" 202), (vs "/claim/cut.py" 203), (vi 4 0), (vi 3 0), (vi 0 0), (vi 0 0), (vi 3 0), (vr 22), (vb true), (vi 181 0), (vr 23), vn, (vr 24), (vr 25), (vr 26), (vi 207 0), (vi 4 0), (vs "/claim/cut.py" 208)]), #[]⟩,
  ⟨(vt "function"), none, (fu (cst 1 0) "__init__" "CasFail.__init__" 3 [] vn vn vn (vs "cas.errors" 187) none (vr 27) vn 0), #[]⟩,
  ⟨(vt "tuple"), none, (.seq #[(vs "kind" 210), (vs "text" 211)] 0), #[]⟩,
  ⟨(vt "dict"), none, (.dict #[de P "__module__" 196 (vs "cas.errors" 187), de P "__firstlineno__" 200 (vi 2 199), de P "__init__" 209 (vr 28), de P "__static_attributes__" 212 (vr 29), de P "__weakref__" 214 (vr 32), de P "__doc__" 215 vn] 3), #[]⟩,
  ⟨(vt "type"), none, (.cls { name := "CasFail", bases := [(vt "Exception")], mro := [(vr 31), (vt "Exception"), (vt "BaseException"), (vt "object")], ns := 30, qualname := "CasFail", hasDict := true, slotNames := [], subclasses := [], abstract := false, collection := none, hasDel := false }), #[(some (vr 15)), none, (some (vs "CasFail" 189)), (some (vs "CasFail" 197)), (some (vu "Exception.__new__")), (some (vb true))]⟩,
  ⟨(vt "getset_descriptor"), none, (.fields #[(vs "__weakref__" 213), (vr 31), (vu "ExceptionGroup.__weakref__"), vn]), #[]⟩,
  ⟨(vt "super"), none, (.fields #[(vr 31), (vr 31), (vr 31)]), #[]⟩,
  ⟨(vt "builtin_function_or_method"), none, (.fields #[(vu "object.__init_subclass__"), (vr 31)]), #[]⟩,
  ⟨(vt "tuple"), none, (.seq #[] 0), #[]⟩,
  ⟨vn, none, (.fields #[]), #[]⟩,
  ⟨(vt "tuple"), none, (.seq #[(vs "a" 225), (vs "b" 226)] 0), #[]⟩,
  ⟨(vt "tuple"), none, (.seq #[] 0), #[]⟩,
  ⟨vn, none, (fu (st 3) "gcd" "gcd" 0 [] vn vn vn vn none vn vn 0), #[]⟩,
  ⟨(vt "code"), none, (.fields #[(vs "gcd" 222), (vs "gcd" 223), (vs "/claim/cut.py" 224), (vi 9 0), (vi 2 0), (vi 0 0), (vi 0 0), (vi 3 0), (vr 35), (vb true), (vi 181 0), (vr 36), vn, (vr 37), (vr 38), (vr 39), (vi 227 0), (vi 9 0), (vs "/claim/cut.py" 228)]), #[]⟩,
  ⟨(vt "function"), none, (fu (st 3) "gcd" "gcd" 3 [] vn vn vn (vs "cas.ints" 220) none (vr 40) vn 0), #[]⟩,
  ⟨(vt "tuple"), none, (.seq #[(vi 0 232), (vi 1 233)] 0), #[]⟩,
  ⟨(vt "tuple"), none, (.seq #[(vi 1 235), (vi 1 236)] 0), #[]⟩,
  ⟨(vt "tuple"), none, (.seq #[] 0), #[]⟩,
  ⟨vn, none, (.fields #[]), #[]⟩,
  ⟨(vt "tuple"), none, (.seq #[(vs "top" 241), (vs "bottom" 242), (vs "g" 243)] 0), #[]⟩,
  ⟨(vt "tuple"), none, (.seq #[] 0), #[]⟩,
  ⟨vn, none, (fu (st 7) "rat" "rat" 0 [] vn vn vn vn none vn vn 0), #[]⟩,
  ⟨(vt "code"), none, (.fields #[(vs "rat" 238), (vs "rat" 239), (vs "/claim/cut.py" 240), (vi 17 0), (vi 2 0), (vi 0 0), (vi 0 0), (vi 3 0), (vr 44), (vb true), (vi 181 0), (vr 45), vn, (vr 46), (vr 47), (vr 48), (vi 244 0), (vi 17 0), (vs "/claim/cut.py" 245)]), #[]⟩,
  ⟨(vt "function"), none, (fu (st 7) "rat" "rat" 3 [] vn vn vn (vs "cas.rats" 230) none (vr 49) vn 0), #[]⟩]
noncomputable def ob2 (P : Params) : List Obj := [
  ⟨(vt "tuple"), none, (.seq #[] 0), #[]⟩,
  ⟨vn, none, (.fields #[]), #[]⟩,
  ⟨(vt "tuple"), none, (.seq #[(vs "a" 250), (vs "b" 251)] 0), #[]⟩,
  ⟨(vt "tuple"), none, (.seq #[] 0), #[]⟩,
  ⟨vn, none, (fu (st 8) "radd" "radd" 0 [] vn vn vn vn none vn vn 0), #[]⟩,
  ⟨(vt "code"), none, (.fields #[(vs "radd" 247), (vs "radd" 248), (vs "/claim/cut.py" 249), (vi 22 0), (vi 2 0), (vi 0 0), (vi 0 0), (vi 3 0), (vr 51), (vb true), (vi 181 0), (vr 52), vn, (vr 53), (vr 54), (vr 55), (vi 252 0), (vi 22 0), (vs "/claim/cut.py" 253)]), #[]⟩,
  ⟨(vt "function"), none, (fu (st 8) "radd" "radd" 3 [] vn vn vn (vs "cas.rats" 230) none (vr 56) vn 0), #[]⟩,
  ⟨(vt "tuple"), none, (.seq #[] 0), #[]⟩,
  ⟨vn, none, (.fields #[]), #[]⟩,
  ⟨(vt "tuple"), none, (.seq #[(vs "a" 258), (vs "b" 259)] 0), #[]⟩,
  ⟨(vt "tuple"), none, (.seq #[] 0), #[]⟩,
  ⟨vn, none, (fu (st 9) "rsub" "rsub" 0 [] vn vn vn vn none vn vn 0), #[]⟩,
  ⟨(vt "code"), none, (.fields #[(vs "rsub" 255), (vs "rsub" 256), (vs "/claim/cut.py" 257), (vi 24 0), (vi 2 0), (vi 0 0), (vi 0 0), (vi 3 0), (vr 58), (vb true), (vi 181 0), (vr 59), vn, (vr 60), (vr 61), (vr 62), (vi 260 0), (vi 24 0), (vs "/claim/cut.py" 261)]), #[]⟩,
  ⟨(vt "function"), none, (fu (st 9) "rsub" "rsub" 3 [] vn vn vn (vs "cas.rats" 230) none (vr 63) vn 0), #[]⟩,
  ⟨(vt "tuple"), none, (.seq #[] 0), #[]⟩,
  ⟨vn, none, (.fields #[]), #[]⟩,
  ⟨(vt "tuple"), none, (.seq #[(vs "a" 266), (vs "b" 267)] 0), #[]⟩,
  ⟨(vt "tuple"), none, (.seq #[] 0), #[]⟩,
  ⟨vn, none, (fu (st 10) "rmul" "rmul" 0 [] vn vn vn vn none vn vn 0), #[]⟩,
  ⟨(vt "code"), none, (.fields #[(vs "rmul" 263), (vs "rmul" 264), (vs "/claim/cut.py" 265), (vi 26 0), (vi 2 0), (vi 0 0), (vi 0 0), (vi 3 0), (vr 65), (vb true), (vi 181 0), (vr 66), vn, (vr 67), (vr 68), (vr 69), (vi 268 0), (vi 26 0), (vs "/claim/cut.py" 269)]), #[]⟩,
  ⟨(vt "function"), none, (fu (st 10) "rmul" "rmul" 3 [] vn vn vn (vs "cas.rats" 230) none (vr 70) vn 0), #[]⟩,
  ⟨(vt "tuple"), none, (.seq #[] 0), #[]⟩,
  ⟨vn, none, (.fields #[]), #[]⟩,
  ⟨(vt "tuple"), none, (.seq #[(vs "a" 274), (vs "b" 275)] 0), #[]⟩,
  ⟨(vt "tuple"), none, (.seq #[] 0), #[]⟩,
  ⟨vn, none, (fu (st 11) "rdiv" "rdiv" 0 [] vn vn vn vn none vn vn 0), #[]⟩,
  ⟨(vt "code"), none, (.fields #[(vs "rdiv" 271), (vs "rdiv" 272), (vs "/claim/cut.py" 273), (vi 28 0), (vi 2 0), (vi 0 0), (vi 0 0), (vi 3 0), (vr 72), (vb true), (vi 181 0), (vr 73), vn, (vr 74), (vr 75), (vr 76), (vi 276 0), (vi 28 0), (vs "/claim/cut.py" 277)]), #[]⟩,
  ⟨(vt "function"), none, (fu (st 11) "rdiv" "rdiv" 3 [] vn vn vn (vs "cas.rats" 230) none (vr 77) vn 0), #[]⟩,
  ⟨(vt "tuple"), none, (.seq #[] 0), #[]⟩,
  ⟨vn, none, (.fields #[]), #[]⟩,
  ⟨(vt "tuple"), none, (.seq #[(vs "a" 282)] 0), #[]⟩,
  ⟨(vt "tuple"), none, (.seq #[] 0), #[]⟩,
  ⟨vn, none, (fu (st 12) "rneg" "rneg" 0 [] vn vn vn vn none vn vn 0), #[]⟩,
  ⟨(vt "code"), none, (.fields #[(vs "rneg" 279), (vs "rneg" 280), (vs "/claim/cut.py" 281), (vi 30 0), (vi 1 0), (vi 0 0), (vi 0 0), (vi 3 0), (vr 79), (vb true), (vi 181 0), (vr 80), vn, (vr 81), (vr 82), (vr 83), (vi 283 0), (vi 30 0), (vs "/claim/cut.py" 284)]), #[]⟩,
  ⟨(vt "function"), none, (fu (st 12) "rneg" "rneg" 3 [] vn vn vn (vs "cas.rats" 230) none (vr 84) vn 0), #[]⟩,
  ⟨(vt "tuple"), none, (.seq #[] 0), #[]⟩,
  ⟨vn, none, (.fields #[]), #[]⟩,
  ⟨(vt "tuple"), none, (.seq #[(vs "a" 289)] 0), #[]⟩,
  ⟨(vt "tuple"), none, (.seq #[] 0), #[]⟩,
  ⟨vn, none, (fu (st 13) "rinv" "rinv" 0 [] vn vn vn vn none vn vn 0), #[]⟩,
  ⟨(vt "code"), none, (.fields #[(vs "rinv" 286), (vs "rinv" 287), (vs "/claim/cut.py" 288), (vi 32 0), (vi 1 0), (vi 0 0), (vi 0 0), (vi 3 0), (vr 86), (vb true), (vi 181 0), (vr 87), vn, (vr 88), (vr 89), (vr 90), (vi 290 0), (vi 32 0), (vs "/claim/cut.py" 291)]), #[]⟩,
  ⟨(vt "function"), none, (fu (st 13) "rinv" "rinv" 3 [] vn vn vn (vs "cas.rats" 230) none (vr 91) vn 0), #[]⟩,
  ⟨(vt "tuple"), none, (.seq #[] 0), #[]⟩,
  ⟨vn, none, (.fields #[]), #[]⟩,
  ⟨(vt "tuple"), none, (.seq #[(vs "a" 296), (vs "b" 297), (vs "off" 298)] 0), #[]⟩,
  ⟨(vt "tuple"), none, (.seq #[] 0), #[]⟩,
  ⟨vn, none, (fu (st 14) "rcompare" "rcompare" 0 [] vn vn vn vn none vn vn 0), #[]⟩,
  ⟨(vt "code"), none, (.fields #[(vs "rcompare" 293), (vs "rcompare" 294), (vs "/claim/cut.py" 295), (vi 34 0), (vi 2 0), (vi 0 0), (vi 0 0), (vi 3 0), (vr 93), (vb true), (vi 181 0), (vr 94), vn, (vr 95), (vr 96), (vr 97), (vi 299 0), (vi 34 0), (vs "/claim/cut.py" 300)]), #[]⟩,
  ⟨(vt "function"), none, (fu (st 14) "rcompare" "rcompare" 3 [] vn vn vn (vs "cas.rats" 230) none (vr 98) vn 0), #[]⟩,
  ⟨(vt "tuple"), none, (.seq #[] 0), #[]⟩,
  ⟨vn, none, (.fields #[]), #[]⟩,
  ⟨(vt "tuple"), none, (.seq #[(vs "row" 307), (vs "size" 308)] 0), #[]⟩,
  ⟨(vt "tuple"), none, (.seq #[] 0), #[]⟩,
  ⟨vn, none, (fu (st 16) "qtrim" "qtrim" 0 [] vn vn vn vn none vn vn 0), #[]⟩,
  ⟨(vt "code"), none, (.fields #[(vs "qtrim" 304), (vs "qtrim" 305), (vs "/claim/cut.py" 306), (vi 38 0), (vi 1 0), (vi 0 0), (vi 0 0), (vi 3 0), (vr 100), (vb true), (vi 181 0), (vr 101), vn, (vr 102), (vr 103), (vr 104), (vi 309 0), (vi 38 0), (vs "/claim/cut.py" 310)]), #[]⟩,
  ⟨(vt "function"), none, (fu (st 16) "qtrim" "qtrim" 3 [] vn vn vn (vs "cas.qpoly" 302) none (vr 105) vn 0), #[]⟩,
  ⟨(vt "tuple"), none, (.seq #[] 0), #[]⟩,
  ⟨vn, none, (.fields #[]), #[]⟩,
  ⟨vn, none, (fu (st 17) "qadd" "qadd" 0 [] vn vn vn vn none vn vn 0), #[]⟩,
  ⟨(vt "code"), none, (.fields #[(vs "qadd" 312), (vs "qadd" 313), (vs "/claim/cut.py" 314), (vi 43 0), (vi 2 0), (vi 0 0), (vi 0 0), (vi 3 0), (vr 107), (vb true), (vi 181 0), (vr 108), vn, vn, vn, (vr 109), (vi 315 0), (vi 43 0), (vs "/claim/cut.py" 316)]), #[]⟩,
  ⟨(vt "function"), none, (fu (st 17) "qadd" "qadd" 3 [] vn vn vn (vs "cas.qpoly" 302) none (vr 110) vn 0), #[]⟩,
  ⟨(vt "tuple"), none, (.seq #[] 0), #[]⟩,
  ⟨vn, none, (.fields #[]), #[]⟩,
  ⟨vn, none, (fu (st 18) "qneg" "qneg" 0 [] vn vn vn vn none vn vn 0), #[]⟩,
  ⟨(vt "code"), none, (.fields #[(vs "qneg" 318), (vs "qneg" 319), (vs "/claim/cut.py" 320), (vi 46 0), (vi 1 0), (vi 0 0), (vi 0 0), (vi 3 0), (vr 112), (vb true), (vi 181 0), (vr 113), vn, vn, vn, (vr 114), (vi 321 0), (vi 46 0), (vs "/claim/cut.py" 322)]), #[]⟩,
  ⟨(vt "function"), none, (fu (st 18) "qneg" "qneg" 3 [] vn vn vn (vs "cas.qpoly" 302) none (vr 115) vn 0), #[]⟩,
  ⟨(vt "tuple"), none, (.seq #[] 0), #[]⟩,
  ⟨vn, none, (.fields #[]), #[]⟩,
  ⟨(vt "tuple"), none, (.seq #[(vs "a" 327), (vs "b" 328)] 0), #[]⟩,
  ⟨(vt "tuple"), none, (.seq #[] 0), #[]⟩,
  ⟨vn, none, (fu (st 19) "qsub" "qsub" 0 [] vn vn vn vn none vn vn 0), #[]⟩,
  ⟨(vt "code"), none, (.fields #[(vs "qsub" 324), (vs "qsub" 325), (vs "/claim/cut.py" 326), (vi 48 0), (vi 2 0), (vi 0 0), (vi 0 0), (vi 3 0), (vr 117), (vb true), (vi 181 0), (vr 118), vn, (vr 119), (vr 120), (vr 121), (vi 329 0), (vi 48 0), (vs "/claim/cut.py" 330)]), #[]⟩,
  ⟨(vt "function"), none, (fu (st 19) "qsub" "qsub" 3 [] vn vn vn (vs "cas.qpoly" 302) none (vr 122) vn 0), #[]⟩]
noncomputable def ob3 (P : Params) : List Obj := [
  ⟨(vt "tuple"), none, (.seq #[] 0), #[]⟩,
  ⟨vn, none, (.fields #[]), #[]⟩,
  ⟨vn, none, (fu (st 20) "qscale" "qscale" 0 [] vn vn vn vn none vn vn 0), #[]⟩,
  ⟨(vt "code"), none, (.fields #[(vs "qscale" 332), (vs "qscale" 333), (vs "/claim/cut.py" 334), (vi 50 0), (vi 2 0), (vi 0 0), (vi 0 0), (vi 3 0), (vr 124), (vb true), (vi 181 0), (vr 125), vn, vn, vn, (vr 126), (vi 335 0), (vi 50 0), (vs "/claim/cut.py" 336)]), #[]⟩,
  ⟨(vt "function"), none, (fu (st 20) "qscale" "qscale" 3 [] vn vn vn (vs "cas.qpoly" 302) none (vr 127) vn 0), #[]⟩,
  ⟨(vt "tuple"), none, (.seq #[] 0), #[]⟩,
  ⟨vn, none, (.fields #[]), #[]⟩,
  ⟨(vt "tuple"), none, (.seq #[(vs "p" 341), (vs "many" 342)] 0), #[]⟩,
  ⟨(vt "tuple"), none, (.seq #[] 0), #[]⟩,
  ⟨vn, none, (fu (st 21) "qraise" "qraise" 0 [] vn vn vn vn none vn vn 0), #[]⟩,
  ⟨(vt "code"), none, (.fields #[(vs "qraise" 338), (vs "qraise" 339), (vs "/claim/cut.py" 340), (vi 52 0), (vi 2 0), (vi 0 0), (vi 0 0), (vi 3 0), (vr 129), (vb true), (vi 181 0), (vr 130), vn, (vr 131), (vr 132), (vr 133), (vi 343 0), (vi 52 0), (vs "/claim/cut.py" 344)]), #[]⟩,
  ⟨(vt "function"), none, (fu (st 21) "qraise" "qraise" 3 [] vn vn vn (vs "cas.qpoly" 302) none (vr 134) vn 0), #[]⟩,
  ⟨(vt "tuple"), none, (.seq #[] 0), #[]⟩,
  ⟨vn, none, (.fields #[]), #[]⟩,
  ⟨(vt "tuple"), none, (.seq #[(vs "a" 349), (vs "b" 350), (vs "found" 351), (vs "one" 352), (vs "left" 353), (vs "other" 354), (vs "right" 355)] 0), #[]⟩,
  ⟨(vt "tuple"), none, (.seq #[] 0), #[]⟩,
  ⟨vn, none, (fu (st 22) "qmul" "qmul" 0 [] vn vn vn vn none vn vn 0), #[]⟩,
  ⟨(vt "code"), none, (.fields #[(vs "qmul" 346), (vs "qmul" 347), (vs "/claim/cut.py" 348), (vi 54 0), (vi 2 0), (vi 0 0), (vi 0 0), (vi 3 0), (vr 136), (vb true), (vi 181 0), (vr 137), vn, (vr 138), (vr 139), (vr 140), (vi 356 0), (vi 54 0), (vs "/claim/cut.py" 357)]), #[]⟩,
  ⟨(vt "function"), none, (fu (st 22) "qmul" "qmul" 3 [] vn vn vn (vs "cas.qpoly" 302) none (vr 141) vn 0), #[]⟩,
  ⟨(vt "tuple"), none, (.seq #[] 0), #[]⟩,
  ⟨vn, none, (.fields #[]), #[]⟩,
  ⟨(vt "tuple"), none, (.seq #[(vs "a" 362), (vs "b" 363), (vs "rest" 364), (vs "found" 365), (vs "number" 366), (vs "power" 367), (vs "lower" 368)] 0), #[]⟩,
  ⟨(vt "tuple"), none, (.seq #[] 0), #[]⟩,
  ⟨vn, none, (fu (st 23) "qdivmod" "qdivmod" 0 [] vn vn vn vn none vn vn 0), #[]⟩,
  ⟨(vt "code"), none, (.fields #[(vs "qdivmod" 359), (vs "qdivmod" 360), (vs "/claim/cut.py" 361), (vi 62 0), (vi 2 0), (vi 0 0), (vi 0 0), (vi 3 0), (vr 143), (vb true), (vi 181 0), (vr 144), vn, (vr 145), (vr 146), (vr 147), (vi 369 0), (vi 62 0), (vs "/claim/cut.py" 370)]), #[]⟩,
  ⟨(vt "function"), none, (fu (st 23) "qdivmod" "qdivmod" 3 [] vn vn vn (vs "cas.qpoly" 302) none (vr 148) vn 0), #[]⟩,
  ⟨(vt "tuple"), none, (.seq #[] 0), #[]⟩,
  ⟨vn, none, (.fields #[]), #[]⟩,
  ⟨(vt "tuple"), none, (.seq #[(vs "a" 377), (vs "order" 378)] 0), #[]⟩,
  ⟨(vt "tuple"), none, (.seq #[] 0), #[]⟩,
  ⟨vn, none, (fu (st 25) "cut" "cut" 0 [] vn vn vn vn none vn vn 0), #[]⟩,
  ⟨(vt "code"), none, (.fields #[(vs "cut" 374), (vs "cut" 375), (vs "/claim/cut.py" 376), (vi 73 0), (vi 2 0), (vi 0 0), (vi 0 0), (vi 3 0), (vr 150), (vb true), (vi 181 0), (vr 151), vn, (vr 152), (vr 153), (vr 154), (vi 379 0), (vi 73 0), (vs "/claim/cut.py" 380)]), #[]⟩,
  ⟨(vt "function"), none, (fu (st 25) "cut" "cut" 3 [] vn vn vn (vs "cas.series" 372) none (vr 155) vn 0), #[]⟩,
  ⟨(vt "tuple"), none, (.seq #[] 0), #[]⟩,
  ⟨vn, none, (.fields #[]), #[]⟩,
  ⟨(vt "tuple"), none, (.seq #[(vs "a" 385), (vs "b" 386), (vs "at" 387), (vs "found" 388), (vs "spot" 389)] 0), #[]⟩,
  ⟨(vt "tuple"), none, (.seq #[] 0), #[]⟩,
  ⟨vn, none, (fu (st 26) "mixed" "mixed" 0 [] vn vn vn vn none vn vn 0), #[]⟩,
  ⟨(vt "code"), none, (.fields #[(vs "mixed" 382), (vs "mixed" 383), (vs "/claim/cut.py" 384), (vi 75 0), (vi 3 0), (vi 0 0), (vi 0 0), (vi 3 0), (vr 157), (vb true), (vi 181 0), (vr 158), vn, (vr 159), (vr 160), (vr 161), (vi 390 0), (vi 75 0), (vs "/claim/cut.py" 391)]), #[]⟩,
  ⟨(vt "function"), none, (fu (st 26) "mixed" "mixed" 3 [] vn vn vn (vs "cas.series" 372) none (vr 162) vn 0), #[]⟩,
  ⟨(vt "tuple"), none, (.seq #[] 0), #[]⟩,
  ⟨vn, none, (.fields #[]), #[]⟩,
  ⟨vn, none, (fu (st 27) "smul" "smul" 0 [] vn vn vn vn none vn vn 0), #[]⟩,
  ⟨(vt "code"), none, (.fields #[(vs "smul" 393), (vs "smul" 394), (vs "/claim/cut.py" 395), (vi 81 0), (vi 2 0), (vi 0 0), (vi 0 0), (vi 3 0), (vr 164), (vb true), (vi 181 0), (vr 165), vn, vn, vn, (vr 166), (vi 396 0), (vi 81 0), (vs "/claim/cut.py" 397)]), #[]⟩,
  ⟨(vt "function"), none, (fu (st 27) "smul" "smul" 3 [] vn vn vn (vs "cas.series" 372) none (vr 167) vn 0), #[]⟩,
  ⟨(vt "tuple"), none, (.seq #[] 0), #[]⟩,
  ⟨vn, none, (.fields #[]), #[]⟩,
  ⟨(vt "tuple"), none, (.seq #[(vs "a" 402), (vs "found" 403), (vs "at" 404), (vs "total" 405), (vs "spot" 406)] 0), #[]⟩,
  ⟨(vt "tuple"), none, (.seq #[] 0), #[]⟩,
  ⟨vn, none, (fu (st 28) "sinverse" "sinverse" 0 [] vn vn vn vn none vn vn 0), #[]⟩,
  ⟨(vt "code"), none, (.fields #[(vs "sinverse" 399), (vs "sinverse" 400), (vs "/claim/cut.py" 401), (vi 83 0), (vi 1 0), (vi 0 0), (vi 0 0), (vi 3 0), (vr 169), (vb true), (vi 181 0), (vr 170), vn, (vr 171), (vr 172), (vr 173), (vi 407 0), (vi 83 0), (vs "/claim/cut.py" 408)]), #[]⟩,
  ⟨(vt "function"), none, (fu (st 28) "sinverse" "sinverse" 3 [] vn vn vn (vs "cas.series" 372) none (vr 174) vn 0), #[]⟩,
  ⟨(vt "tuple"), none, (.seq #[] 0), #[]⟩,
  ⟨vn, none, (.fields #[]), #[]⟩,
  ⟨(vt "tuple"), none, (.seq #[(vs "a" 415), (vs "most" 416), (vs "front" 417), (vs "rest" 418), (vs "one" 419), (vs "other" 420), (vs "times" 421), (vs "left" 422)] 0), #[]⟩,
  ⟨(vt "tuple"), none, (.seq #[] 0), #[]⟩,
  ⟨vn, none, (fu (st 30) "first_within" "first_within" 0 [] vn vn vn vn none vn vn 0), #[]⟩,
  ⟨(vt "code"), none, (.fields #[(vs "first_within" 412), (vs "first_within" 413), (vs "/claim/cut.py" 414), (vi 94 0), (vi 2 0), (vi 0 0), (vi 0 0), (vi 3 0), (vr 176), (vb true), (vi 181 0), (vr 177), vn, (vr 178), (vr 179), (vr 180), (vi 423 0), (vi 94 0), (vs "/claim/cut.py" 424)]), #[]⟩,
  ⟨(vt "function"), none, (fu (st 30) "first_within" "first_within" 3 [] vn vn vn (vs "cas.pade" 410) none (vr 181) vn 0), #[]⟩,
  ⟨(vt "tuple"), none, (.seq #[] 0), #[]⟩,
  ⟨vn, none, (.fields #[]), #[]⟩,
  ⟨(vt "tuple"), none, (.seq #[(vs "a" 429), (vs "above" 430), (vs "below" 431), (vs "top" 432), (vs "bottom" 433)] 0), #[]⟩,
  ⟨(vt "tuple"), none, (.seq #[] 0), #[]⟩,
  ⟨vn, none, (fu (st 31) "pade" "pade" 0 [] vn vn vn vn none vn vn 0), #[]⟩,
  ⟨(vt "code"), none, (.fields #[(vs "pade" 426), (vs "pade" 427), (vs "/claim/cut.py" 428), (vi 102 0), (vi 3 0), (vi 0 0), (vi 0 0), (vi 3 0), (vr 183), (vb true), (vi 181 0), (vr 184), vn, (vr 185), (vr 186), (vr 187), (vi 434 0), (vi 102 0), (vs "/claim/cut.py" 435)]), #[]⟩,
  ⟨(vt "function"), none, (fu (st 31) "pade" "pade" 3 [] vn vn vn (vs "cas.pade" 410) none (vr 188) vn 0), #[]⟩]
noncomputable def ob4 (P : Params) : List Obj := [
  ⟨(vt "tuple"), none, (.seq #[] 0), #[]⟩,
  ⟨vn, none, (.fields #[]), #[]⟩,
  ⟨(vt "tuple"), none, (.seq #[(vs "top" 440), (vs "bottom" 441), (vs "order" 442)] 0), #[]⟩,
  ⟨(vt "tuple"), none, (.seq #[] 0), #[]⟩,
  ⟨vn, none, (fu (st 32) "fraction_series" "fraction_series" 0 [] vn vn vn vn none vn vn 0), #[]⟩,
  ⟨(vt "code"), none, (.fields #[(vs "fraction_series" 437), (vs "fraction_series" 438), (vs "/claim/cut.py" 439), (vi 107 0), (vi 3 0), (vi 0 0), (vi 0 0), (vi 3 0), (vr 190), (vb true), (vi 181 0), (vr 191), vn, (vr 192), (vr 193), (vr 194), (vi 443 0), (vi 107 0), (vs "/claim/cut.py" 444)]), #[]⟩,
  ⟨(vt "function"), none, (fu (st 32) "fraction_series" "fraction_series" 3 [] vn vn vn (vs "cas.pade" 410) none (vr 195) vn 0), #[]⟩,
  ⟨(vt "tuple"), none, (.seq #[] 0), #[]⟩,
  ⟨vn, none, (.fields #[]), #[]⟩,
  ⟨(vt "tuple"), none, (.seq #[(vs "a" 449), (vs "top" 450), (vs "bottom" 451)] 0), #[]⟩,
  ⟨(vt "tuple"), none, (.seq #[] 0), #[]⟩,
  ⟨vn, none, (fu (st 33) "fits_series" "fits_series" 0 [] vn vn vn vn none vn vn 0), #[]⟩,
  ⟨(vt "code"), none, (.fields #[(vs "fits_series" 446), (vs "fits_series" 447), (vs "/claim/cut.py" 448), (vi 109 0), (vi 3 0), (vi 0 0), (vi 0 0), (vi 3 0), (vr 197), (vb true), (vi 181 0), (vr 198), vn, (vr 199), (vr 200), (vr 201), (vi 452 0), (vi 109 0), (vs "/claim/cut.py" 453)]), #[]⟩,
  ⟨(vt "function"), none, (fu (st 33) "fits_series" "fits_series" 3 [] vn vn vn (vs "cas.pade" 410) none (vr 202) vn 0), #[]⟩,
  ⟨(vt "tuple"), none, (.seq #[] 0), #[]⟩,
  ⟨vn, none, (.fields #[]), #[]⟩,
  ⟨(vt "tuple"), none, (.seq #[(vs "box" 460), (vs "many" 461)] 0), #[]⟩,
  ⟨(vt "tuple"), none, (.seq #[] 0), #[]⟩,
  ⟨vn, none, (fu (st 35) "_law_take" "_law_take" 0 [] vn vn vn vn none vn vn 0), #[]⟩,
  ⟨(vt "code"), none, (.fields #[(vs "_law_take" 457), (vs "_law_take" 458), (vs "/claim/cut.py" 459), (vi 112 0), (vi 2 0), (vi 0 0), (vi 0 0), (vi 3 0), (vr 204), (vb true), (vi 181 0), (vr 205), vn, (vr 206), (vr 207), (vr 208), (vi 462 0), (vi 112 0), (vs "/claim/cut.py" 463)]), #[]⟩,
  ⟨(vt "function"), none, (fu (st 35) "_law_take" "_law_take" 3 [] vn vn vn (vs "law_nn0261_01" 455) none (vr 209) vn 0), #[]⟩,
  ⟨(vt "tuple"), none, (.seq #[] 0), #[]⟩,
  ⟨vn, none, (.fields #[]), #[]⟩,
  ⟨vn, none, (fu (st 36) "_law_box" "_law_box" 0 [] vn vn vn vn none vn vn 0), #[]⟩,
  ⟨(vt "code"), none, (.fields #[(vs "_law_box" 465), (vs "_law_box" 466), (vs "/claim/cut.py" 467), (vi 117 0), (vi 1 0), (vi 0 0), (vi 0 0), (vi 3 0), (vr 211), (vb true), (vi 181 0), (vr 212), vn, vn, vn, (vr 213), (vi 468 0), (vi 117 0), (vs "/claim/cut.py" 469)]), #[]⟩,
  ⟨(vt "function"), none, (fu (st 36) "_law_box" "_law_box" 3 [] vn vn vn (vs "law_nn0261_01" 455) none (vr 214) vn 0), #[]⟩,
  ⟨(vt "tuple"), none, (.seq #[] 0), #[]⟩,
  ⟨vn, none, (.fields #[]), #[]⟩,
  ⟨(vt "tuple"), none, (.seq #[(vs "top" 474), (vs "bottom" 475), (vs "one" 476), (vs "other" 477)] 0), #[]⟩,
  ⟨(vt "tuple"), none, (.seq #[] 0), #[]⟩,
  ⟨vn, none, (fu (st 37) "_law_low" "_law_low" 0 [] vn vn vn vn none vn vn 0), #[]⟩,
  ⟨(vt "code"), none, (.fields #[(vs "_law_low" 471), (vs "_law_low" 472), (vs "/claim/cut.py" 473), (vi 120 0), (vi 2 0), (vi 0 0), (vi 0 0), (vi 3 0), (vr 216), (vb true), (vi 181 0), (vr 217), vn, (vr 218), (vr 219), (vr 220), (vi 478 0), (vi 120 0), (vs "/claim/cut.py" 479)]), #[]⟩,
  ⟨(vt "function"), none, (fu (st 37) "_law_low" "_law_low" 3 [] vn vn vn (vs "law_nn0261_01" 455) none (vr 221) vn 0), #[]⟩,
  ⟨(vt "tuple"), none, (.seq #[] 0), #[]⟩,
  ⟨vn, none, (.fields #[]), #[]⟩,
  ⟨vn, none, (fu (st 38) "_law_plus" "_law_plus" 0 [] vn vn vn vn none vn vn 0), #[]⟩,
  ⟨(vt "code"), none, (.fields #[(vs "_law_plus" 481), (vs "_law_plus" 482), (vs "/claim/cut.py" 483), (vi 125 0), (vi 2 0), (vi 0 0), (vi 0 0), (vi 3 0), (vr 223), (vb true), (vi 181 0), (vr 224), vn, vn, vn, (vr 225), (vi 484 0), (vi 125 0), (vs "/claim/cut.py" 485)]), #[]⟩,
  ⟨(vt "function"), none, (fu (st 38) "_law_plus" "_law_plus" 3 [] vn vn vn (vs "law_nn0261_01" 455) none (vr 226) vn 0), #[]⟩,
  ⟨(vt "tuple"), none, (.seq #[] 0), #[]⟩,
  ⟨vn, none, (.fields #[]), #[]⟩,
  ⟨(vt "tuple"), none, (.seq #[(vs "one" 490), (vs "other" 491), (vs "found" 492), (vs "at" 493), (vs "total" 494), (vs "spot" 495), (vs "a" 496), (vs "b" 497)] 0), #[]⟩,
  ⟨(vt "tuple"), none, (.seq #[] 0), #[]⟩,
  ⟨vn, none, (fu (st 39) "_law_times" "_law_times" 0 [] vn vn vn vn none vn vn 0), #[]⟩,
  ⟨(vt "code"), none, (.fields #[(vs "_law_times" 487), (vs "_law_times" 488), (vs "/claim/cut.py" 489), (vi 127 0), (vi 2 0), (vi 0 0), (vi 0 0), (vi 3 0), (vr 228), (vb true), (vi 181 0), (vr 229), vn, (vr 230), (vr 231), (vr 232), (vi 498 0), (vi 127 0), (vs "/claim/cut.py" 499)]), #[]⟩,
  ⟨(vt "function"), none, (fu (st 39) "_law_times" "_law_times" 3 [] vn vn vn (vs "law_nn0261_01" 455) none (vr 233) vn 0), #[]⟩,
  ⟨(vt "tuple"), none, (.seq #[] 0), #[]⟩,
  ⟨vn, none, (.fields #[]), #[]⟩,
  ⟨(vt "tuple"), none, (.seq #[(vs "told" 504), (vs "size" 505)] 0), #[]⟩,
  ⟨(vt "tuple"), none, (.seq #[] 0), #[]⟩,
  ⟨vn, none, (fu (st 40) "_law_cut" "_law_cut" 0 [] vn vn vn vn none vn vn 0), #[]⟩,
  ⟨(vt "code"), none, (.fields #[(vs "_law_cut" 501), (vs "_law_cut" 502), (vs "/claim/cut.py" 503), (vi 136 0), (vi 2 0), (vi 0 0), (vi 0 0), (vi 3 0), (vr 235), (vb true), (vi 181 0), (vr 236), vn, (vr 237), (vr 238), (vr 239), (vi 506 0), (vi 136 0), (vs "/claim/cut.py" 507)]), #[]⟩,
  ⟨(vt "function"), none, (fu (st 40) "_law_cut" "_law_cut" 3 [] vn vn vn (vs "law_nn0261_01" 455) none (vr 240) vn 0), #[]⟩,
  ⟨(vt "tuple"), none, (.seq #[] 0), #[]⟩,
  ⟨vn, none, (.fields #[]), #[]⟩,
  ⟨(vt "tuple"), none, (.seq #[(vs "top" 512), (vs "bottom" 513), (vs "size" 514), (vs "found" 515), (vs "at" 516), (vs "total" 517), (vs "spot" 518), (vs "a" 519), (vs "b" 520)] 0), #[]⟩,
  ⟨(vt "tuple"), none, (.seq #[] 0), #[]⟩,
  ⟨vn, none, (fu (st 41) "_law_divided" "_law_divided" 0 [] vn vn vn vn none vn vn 0), #[]⟩,
  ⟨(vt "code"), none, (.fields #[(vs "_law_divided" 509), (vs "_law_divided" 510), (vs "/claim/cut.py" 511), (vi 138 0), (vi 3 0), (vi 0 0), (vi 0 0), (vi 3 0), (vr 242), (vb true), (vi 181 0), (vr 243), vn, (vr 244), (vr 245), (vr 246), (vi 521 0), (vi 138 0), (vs "/claim/cut.py" 522)]), #[]⟩,
  ⟨(vt "function"), none, (fu (st 41) "_law_divided" "_law_divided" 3 [] vn vn vn (vs "law_nn0261_01" 455) none (vr 247) vn 0), #[]⟩,
  ⟨(vt "tuple"), none, (.seq #[] 0), #[]⟩,
  ⟨vn, none, (.fields #[]), #[]⟩,
  ⟨vn, none, (fu (st 42) "_law_is_solvable" "_law_is_solvable" 0 [] vn vn vn vn none vn vn 0), #[]⟩,
  ⟨(vt "code"), none, (.fields #[(vs "_law_is_solvable" 524), (vs "_law_is_solvable" 525), (vs "/claim/cut.py" 526), (vi 147 0), (vi 3 0), (vi 0 0), (vi 0 0), (vi 3 0), (vr 249), (vb true), (vi 181 0), (vr 250), vn, vn, vn, (vr 251), (vi 527 0), (vi 147 0), (vs "/claim/cut.py" 528)]), #[]⟩,
  ⟨(vt "function"), none, (fu (st 42) "_law_is_solvable" "_law_is_solvable" 3 [] vn vn vn (vs "law_nn0261_01" 455) none (vr 252) vn 0), #[]⟩,
  ⟨(vt "tuple"), none, (.seq #[] 0), #[]⟩,
  ⟨vn, none, (.fields #[]), #[]⟩,
  ⟨vn, none, (fu (st 43) "law" "law" 0 [] vn vn vn vn none vn vn 0), #[]⟩,
  ⟨(vt "code"), none, (.fields #[(vs "law" 530), (vs "law" 531), (vs "/claim/cut.py" 532), (vi 166 0), (vi 1 0), (vi 0 0), (vi 0 0), (vi 3 0), (vr 254), (vb true), (vi 181 0), (vr 255), vn, vn, vn, (vr 256), (vi 533 0), (vi 166 0), (vs "/claim/cut.py" 534)]), #[]⟩,
  ⟨(vt "function"), none, (fu (st 43) "law" "law" 3 [] vn vn vn (vs "law_nn0261_01" 455) none (vr 257) vn 0), #[]⟩]
noncomputable def hp (P : Params) (o2 o3 o12 : Obj) (r : List Obj) : List Obj := boot_o_0 P :: boot_o_1 P :: o2 :: o3 :: boot_o_4 P :: boot_o_5 P :: boot_o_6 P :: boot_o_7 P :: boot_o_8 P :: boot_o_9 P :: boot_o_10 P :: ⟨(vt "tuple"), none, (.seq #[] 0), #[]⟩ :: o12 :: r
noncomputable def hs0 (P : Params) : List Obj := hp P o2a (oG P (vs "__main__" 164) 8 9) (oC 0) (ob0 P)
noncomputable def S0 (w : World) (os : OsState) : SharedT := ⟨tr 10 (hs0 w.params), 15, (boot_heap w.params).life, #[], boot_drawn, 187, os⟩
noncomputable def hs1 (P : Params) : List Obj := hp P (o2b P) (oG P (vs "cas.rats" 230) 13 14) (oC 9) (ob0 P ++ (ob1 P))
noncomputable def S1 (w : World) (os : OsState) : SharedT := ⟨tr 10 (hs1 w.params), 51, (boot_heap w.params).life, #[], boot_drawn, 247, os⟩
noncomputable def hs2 (P : Params) : List Obj := hp P (o2b P) (oG P (vs "cas.qpoly" 302) 24 25) (oC 42) (ob0 P ++ (ob1 P ++ (ob2 P)))
noncomputable def S2 (w : World) (os : OsState) : SharedT := ⟨tr 10 (hs2 w.params), 124, (boot_heap w.params).life, #[], boot_drawn, 332, os⟩
noncomputable def hs3 (P : Params) : List Obj := hp P (o2b P) (oG P (vs "cas.pade" 410) 34 35) (oC 72) (ob0 P ++ (ob1 P ++ (ob2 P ++ (ob3 P))))
noncomputable def S3 (w : World) (os : OsState) : SharedT := ⟨tr 10 (hs3 w.params), 190, (boot_heap w.params).life, #[], boot_drawn, 437, os⟩
noncomputable def hs4 (P : Params) : List Obj := hp P (o2b P) (oG P (vs "law_nn0261_01" 455) 45 46) (oC 105) (ob0 P ++ (ob1 P ++ (ob2 P ++ (ob3 P ++ (ob4 P)))))
noncomputable def S4 (w : World) (os : OsState) : SharedT := ⟨tr 10 (hs4 w.params), 259, (boot_heap w.params).life, #[], boot_drawn, 536, os⟩
noncomputable def H1 (P : Params) : Heap := ⟨(hs4 P).toArray, (boot_heap P).life⟩
noncomputable def SF (w : World) (os : OsState) : Shared := ⟨H1 w.params, #[], boot_drawn, 536, os⟩
noncomputable def envT : Env := { scope := PySem.Challenge.pw_nn0261_01.main.scope, locals := mainNs, globals := mainNs, cells := [], code := .ref 13, frame := some 14 }
noncomputable def bd : List Stmt := behindTheImports PySem.Challenge.pw_nn0261_01
noncomputable def cE : Code := .body bd envT
def p0 : Pos := ⟨0, 0, 0, 0⟩
def p1 : Pos := ⟨17, 0, 21, 34⟩
def p2 : Pos := ⟨48, 0, 49, 27⟩
def p3 : Pos := ⟨102, 0, 106, 74⟩
def p4 : Pos := ⟨166, 0, 191, 15⟩
theorem pre (w : World) (os : OsState) : topGo treeTable PySem.Challenge.pw_nn0261_01 w 11 (some (.ref 6)) 12 ⟨boot_heap w.params, #[], boot_drawn, boot_toks, os⟩ (topStub PySem.Challenge.pw_nn0261_01) = some ((S0 w os).abs, ⟨denote treeTable cE, cE, p0, [topFrame p0]⟩) := by kernel_rfl
theorem block (w : World) (os : OsState) : segRun treeTable PySem.Challenge.pw_nn0261_01 w 11 (some (.ref 6)) 1 1 (S0 w os).abs (blockOf bd envT cE p0 [topFrame p0]) = some (.next, (S0 w os).abs, cE, p0) := by kernel_rfl
theorem g1 (w : World) (os : OsState) : segRunT treeTable PySem.Challenge.pw_nn0261_01 w 11 (some (.ref 6)) 1 343 (S0 w os) (piecesOf ((bd).take 8) envT cE p0 [topFrame p0]) = some (.next, S1 w os, cE, p1) := by kernel_rfl
theorem g2 (w : World) (os : OsState) : segRunT treeTable PySem.Challenge.pw_nn0261_01 w 11 (some (.ref 6)) 1 331 (S1 w os) (piecesOf (((bd).drop 8).take 12) envT cE p1 [topFrame p0]) = some (.next, S2 w os, cE, p2) := by kernel_rfl
theorem g3 (w : World) (os : OsState) : segRunT treeTable PySem.Challenge.pw_nn0261_01 w 11 (some (.ref 6)) 1 336 (S2 w os) (piecesOf ((((bd).drop 8).drop 12).take 12) envT cE p2 [topFrame p0]) = some (.next, S3 w os, cE, p3) := by kernel_rfl
theorem g4 (w : World) (os : OsState) : segRunT treeTable PySem.Challenge.pw_nn0261_01 w 11 (some (.ref 6)) 1 341 (S3 w os) (piecesOf (((((bd).drop 8).drop 12).drop 12).take 12) envT cE p3 [topFrame p0]) = some (.next, S4 w os, cE, p4) := by kernel_rfl
theorem fin (w : World) (os : OsState) : topRun treeTable PySem.Challenge.pw_nn0261_01 w 11 (some (.ref 6)) 2 (S4 w os).abs ⟨doneF .next, cE, p4, [topFrame p0]⟩ = some (SF w os) := by kernel_rfl
theorem papp {w : World} {n N k : Nat} {s s' : SharedT} {r : Shared} {l : List Stmt} {pos p' : Pos} (h : segRunT treeTable PySem.Challenge.pw_nn0261_01 w 11 (some (.ref 6)) 1 n s (piecesOf (l.take k) envT cE pos [topFrame p0]) = some (.next, s', cE, p'))
    (h' : topRun treeTable PySem.Challenge.pw_nn0261_01 w 11 (some (.ref 6)) N s'.abs (restOf (l.drop k) envT cE p' [topFrame p0]) = some r) : topRun treeTable PySem.Challenge.pw_nn0261_01 w 11 (some (.ref 6)) (n + N) s.abs (restOf l envT cE pos [topFrame p0]) = some r := by
  have := piece_app (segRun_of h) h'
  rwa [List.take_append_drop] at this
theorem nil4 : ((((bd).drop 8).drop 12).drop 12).drop 12 = [] := by kernel_rfl
theorem run (w : World) (os : OsState) : topRun treeTable PySem.Challenge.pw_nn0261_01 w 11 (some (.ref 6)) (12 + (1 + (343 + (331 + (336 + (341 + 2)))))) ⟨boot_heap w.params, #[], boot_drawn, boot_toks, os⟩ (topStub PySem.Challenge.pw_nn0261_01) = some (SF w os) := by
  refine go_top (pre w os) (piece_block (block w os) (papp (g1 w os) (papp (g2 w os) (papp (g3 w os) (papp (g4 w os) ?_)))))
  rw [nil4]
  exact piece_nil (fin w os)
noncomputable abbrev Xt : Shared → Bool := fun s => xlAt view0 [] s && recOk (RowW.records (OpenRow.toRowW (OpenLaw.row PySem.Challenge.rw_nn0261_01))) s
noncomputable abbrev mods : List Str := importedModules PySem.Challenge.pw_nn0261_01.main.body
theorem seen_ (w : World) (os : OsState) : openSeen view0 [] mods Xt true (SF w os) = openGood view0 [] := by kernel_rfl
theorem d0 (w : World) : staticsOk mods (boot_heap w.params) (H1 w.params) = true := by kernel_rfl
theorem d1 (w : World) : namesBound PySem.Challenge.pw_nn0261_01 (H1 w.params) = true := by kernel_rfl
theorem d2 (w : World) (os : OsState) : gensDone (SF w os) = true := by kernel_rfl
theorem d3 (w : World) : laidKept (boot_heap w.params) (H1 w.params) = true := by kernel_rfl
theorem left {α : Type} {Yf : Shared → α} {Ya : World → α} (hY : ∀ w os, Yf (SF w os) = Ya w) : LeftO PySem.Challenge.pw_nn0261_01 view0 [] Xt Yf Ya 2820 :=
  LeftO.of_pieces (H₀ := boot_heap) (H₁ := H1) (boot_open (by kernel_rfl) (by kernel_rfl) (fun s => by kernel_rfl)) (fun w => by kernel_rfl) run (by kernel_rfl)
    fun w => funext fun os => looks_pair (look_both (look_both (look_both (d0 w) (d1 w)) (d2 w os)) (d3 w)) (looks_pair (seen_ w os) (hY w os))
theorem lw0 : looksOpen PySem.Challenge.rw_nn0261_01.row.prog = true := by
  unfold looksOpen
  refine look_both (look_both (look_both (look_both (look_both ?_ ?_) ?_) ?_) ?_) ?_ <;> decide +kernel
theorem lw1 : PySem.Challenge.rw_nn0261_01.row.wellSaid = true := by
  unfold OpenRow.wellSaid OpenRow.partSaid
  refine look_both (look_both ?_ (by decide +kernel)) (by decide +kernel)
  repeat' (first | with_reducible exact lw0 | with_reducible refine look_both ?_ ?_)
  all_goals decide +kernel
theorem lw : PySem.Challenge.rw_nn0261_01.wellSaid = true := by
  unfold OpenLaw.wellSaid
  repeat' (first | with_reducible exact lw1 | with_reducible refine look_both ?_ ?_)
  all_goals decide +kernel
end Hp
section
local macro_rules | `(tactic| o_law) => `(tactic| refine holds_law Hp.lw fun said => ?_)
set_option hygiene false in
local macro_rules | `(tactic| o_head $H) => `(tactic| (
  refine holds_open (q := view0) (loose := []) (Xt := Hp.Xt) (XP := XL view0 []) (Yf := Hook.obs $H) (Ya := Hook.val $H) (YP := Hook.says $H) (N := 2820) ?hl (Hook.of $H) (Hook.keeps $H) (fun s e => xl_of s (Bool.and_eq_true_iff.mp e).1) XL.keeps (by rfl) (by rfl) (by rfl) (fun s e => recFacts_of (Bool.and_eq_true_iff.mp e).2) (by rfl) (by first | assumption | decide +kernel) (by decide +kernel) ⟨rfl, rfl, rfl, rfl, rfl, by decide +kernel⟩ ?hw ?hc
  (case hl => exact Hp.left fun w os => by kernel_rfl)))
open_top hd for PySem.Challenge.rw_nn0261_01
end
end
section
open PySem PySem.W PyProof.Rows PySem.Calls PySem.Spec
set_option maxRecDepth 100000
noncomputable abbrev prg : Program := PySem.Challenge.pw_nn0261_01
noncomputable abbrev KF (w : World) : Frag := hd.heap_1 w.params
noncomputable abbrev VW : Program := view0
noncomputable abbrev LW : List Str := looseW view0 []

/-! ## what a value bears -/
mutual
inductive Rd (h : Heap) : Value → PyData → List Addr → Prop
  | none : Rd h .none .none []
  | bool (b) : Rd h (.bool b) (.bool b) []
  | int (i t) : Rd h (.int i t) (.int i) []
  | str (x t) : Rd h (.str x t) (.str x) []
  | list {a o vs n xs as} : h.get? a = some o → o.cls = .type "list" → o.data = .seq vs n → RdAll h vs.toList xs as → Rd h (.ref a) (.list xs) (a :: as)
  | tuple {a o vs n xs as} : h.get? a = some o → o.cls = .type "tuple" → o.data = .seq vs n → RdAll h vs.toList xs as → Rd h (.ref a) (.tuple xs) as
inductive RdAll (h : Heap) : List Value → List PyData → List Addr → Prop
  | nil : RdAll h [] [] []
  | cons {v vs d ds as bs} : Rd h v d as → RdAll h vs ds bs → RdAll h (v :: vs) (d :: ds) (as ++ bs)
end

mutual
theorem Rd.reads {h : Heap} : ∀ {v : Value} {d : PyData} {as : List Addr}, Rd h v d as → Reads h v d as
  | _, _, _, .none => .none
  | _, _, _, .bool b => .bool b
  | _, _, _, .int i t => .int i t
  | _, _, _, .str x t => .str x t
  | _, _, _, .list h1 h2 h3 h4 => .list h1 h2 h3 (RdAll.reads h4)
  | _, _, _, .tuple h1 h2 h3 h4 => .tuple h1 h2 h3 (RdAll.reads h4)
theorem RdAll.reads {h : Heap} : ∀ {vs : List Value} {ds : List PyData} {as : List Addr}, RdAll h vs ds as → ReadsAll h vs ds as
  | _, _, _, .nil => .nil
  | _, _, _, .cons h1 h2 => .cons (Rd.reads h1) (RdAll.reads h2)
end

/-- all objects stay but those of two lists -/
def Keep (W F : List Addr) (h h' : Heap) : Prop := ∀ b o, h.get? b = some o → b ∉ W → b ∉ F → h'.get? b = some o
theorem Keep.refl {W F : List Addr} {h : Heap} : Keep W F h h := fun _ _ e _ _ => e
theorem Keep.trans {W F : List Addr} {h h' h'' : Heap} (x : Keep W F h h') (y : Keep W F h' h'') : Keep W F h h'' := fun b o e a c => y b o (x b o e a c) a c
theorem Keep.of {W F : List Addr} {h h' : Heap} (x : ∀ b o, h.get? b = some o → h'.get? b = some o) : Keep W F h h' := fun b o e _ _ => x b o e
theorem Keep.sub {W F F' : List Addr} {h h' : Heap} (x : Keep W F h h') (s : ∀ a ∈ F, a ∈ F') : Keep W F' h h' := fun b o e a c => x b o e a fun m => c (s b m)

/-- the writable objects bear no items -/
def NoSeq (W : List Addr) (h : Heap) : Prop := ∀ b ∈ W, ∀ o, h.get? b = some o → ∀ xs n, o.data ≠ .seq xs n
/-- the owned objects are lists -/
def Lists (F : List Addr) (h : Heap) : Prop := ∀ b ∈ F, ∃ o xs n, h.get? b = some o ∧ o.cls = .type "list" ∧ o.data = .seq xs n

mutual
theorem Rd.keep {W F : List Addr} {h h' : Heap} (k : Keep W F h h') (nw : NoSeq W h) (ls : Lists F h) :
    ∀ {v : Value} {d : PyData} {as : List Addr}, Rd h v d as → (∀ a ∈ as, a ∉ F) → Rd h' v d as
  | _, _, _, .none, _ => .none
  | _, _, _, .bool b, _ => .bool b
  | _, _, _, .int i t, _ => .int i t
  | _, _, _, .str x t, _ => .str x t
  | _, _, _, .list (a := a) h1 h2 h3 h4, hf => .list (k _ _ h1 (fun hm => nw _ hm _ h1 _ _ h3) (hf a (.head _))) h2 h3 (RdAll.keep k nw ls h4 fun a ha => hf a (.tail _ ha))
  | _, _, _, .tuple (a := a) h1 h2 h3 h4, hf => .tuple (k _ _ h1 (fun hm => nw _ hm _ h1 _ _ h3) (fun hm => by
      obtain ⟨o, xs, n, e, c, _⟩ := ls _ hm
      rw [h1] at e; cases e; rw [h2] at c; exact absurd c (by decide))) h2 h3 (RdAll.keep k nw ls h4 hf)
theorem RdAll.keep {W F : List Addr} {h h' : Heap} (k : Keep W F h h') (nw : NoSeq W h) (ls : Lists F h) :
    ∀ {vs : List Value} {ds : List PyData} {as : List Addr}, RdAll h vs ds as → (∀ a ∈ as, a ∉ F) → RdAll h' vs ds as
  | _, _, _, .nil, _ => .nil
  | _, _, _, .cons h1 h2, hf => .cons (Rd.keep k nw ls h1 fun a ha => hf a (List.mem_append_left _ ha)) (RdAll.keep k nw ls h2 fun a ha => hf a (List.mem_append_right _ ha))
end
theorem Rd.grow {h h' : Heap} (k : ∀ b o, h.get? b = some o → h'.get? b = some o) {v : Value} {d : PyData} {as : List Addr} (r : Rd h v d as) : Rd h' v d as :=
  Rd.keep (W := []) (F := []) (Keep.of k) (fun _ hm => nomatch hm) (fun _ hm => nomatch hm) r (fun _ _ hm => nomatch hm)
theorem RdAll.grow {h h' : Heap} (k : ∀ b o, h.get? b = some o → h'.get? b = some o) {vs : List Value} {ds : List PyData} {as : List Addr} (r : RdAll h vs ds as) : RdAll h' vs ds as :=
  RdAll.keep (W := []) (F := []) (Keep.of k) (fun _ hm => nomatch hm) (fun _ hm => nomatch hm) r (fun _ _ hm => nomatch hm)

mutual
theorem Rd.there {h : Heap} : ∀ {v : Value} {d : PyData} {as : List Addr}, Rd h v d as → ∀ a ∈ as, ∃ o, h.get? a = some o
  | _, _, _, .none, _, hm => nomatch hm
  | _, _, _, .bool b, _, hm => nomatch hm
  | _, _, _, .int i t, _, hm => nomatch hm
  | _, _, _, .str x t, _, hm => nomatch hm
  | _, _, _, .list h1 h2 h3 h4, a, hm => by
    rcases List.mem_cons.mp hm with rfl | hm
    · exact ⟨_, h1⟩
    · exact RdAll.there h4 a hm
  | _, _, _, .tuple h1 h2 h3 h4, a, hm => RdAll.there h4 a hm
theorem RdAll.there {h : Heap} : ∀ {vs : List Value} {ds : List PyData} {as : List Addr}, RdAll h vs ds as → ∀ a ∈ as, ∃ o, h.get? a = some o
  | _, _, _, .nil, _, hm => nomatch hm
  | _, _, _, .cons h1 h2, a, hm => (List.mem_append.mp hm).elim (Rd.there h1 a) (RdAll.there h2 a)
end

/-- no list within -/
def flat : PyData → Bool
  | .list _ => false
  | .tuple xs => flats xs
  | .dict _ => false
  | _ => true
where flats : List PyData → Bool
  | [] => true
  | x :: r => flat x && flats r
mutual
theorem Rd.flat {h : Heap} : ∀ {v : Value} {d : PyData} {as : List Addr}, Rd h v d as → flat d = true → as = []
  | _, _, _, .none, _ => rfl
  | _, _, _, .bool b, _ => rfl
  | _, _, _, .int i t, _ => rfl
  | _, _, _, .str x t, _ => rfl
  | _, _, _, .list h1 h2 h3 h4, e => by simp [Mine.flat] at e
  | _, _, _, .tuple h1 h2 h3 h4, e => RdAll.flat h4 (by rw [Mine.flat] at e; exact e)
theorem RdAll.flat {h : Heap} : ∀ {vs : List Value} {ds : List PyData} {as : List Addr}, RdAll h vs ds as → flat.flats ds = true → as = []
  | _, _, _, .nil, _ => rfl
  | _, _, _, .cons h1 h2, e => by
    rw [Mine.flat.flats, Bool.and_eq_true] at e
    rw [Rd.flat h1 e.1, RdAll.flat h2 e.2]; rfl
end

theorem RdAll.length {h : Heap} : ∀ {vs : List Value} {ds : List PyData} {as : List Addr}, RdAll h vs ds as → vs.length = ds.length
  | _, _, _, .nil => rfl
  | _, _, _, .cons _ h2 => by rw [List.length_cons, List.length_cons, RdAll.length h2]
theorem RdAll.get {h : Heap} : ∀ {vs : List Value} {ds : List PyData} {as : List Addr}, RdAll h vs ds as → ∀ (i : Nat) (d : PyData), ds[i]? = some d → ∃ v bs, vs[i]? = some v ∧ Rd h v d bs ∧ ∀ a ∈ bs, a ∈ as
  | _, _, _, .nil, i, d, e => by simp at e
  | _, _, _, .cons (v := v) h1 h2, 0, d, e => by
    simp at e; subst e
    exact ⟨v, _, rfl, h1, fun a ha => List.mem_append_left _ ha⟩
  | _, _, _, .cons h1 h2, i + 1, d, e => by
    obtain ⟨v, bs, e1, r, hs⟩ := RdAll.get h2 i d (by simpa using e)
    exact ⟨v, bs, by simpa using e1, r, fun a ha => List.mem_append_right _ (hs a ha)⟩
theorem RdAll.append {h : Heap} : ∀ {vs : List Value} {ds : List PyData} {as : List Addr} {ws : List Value} {es : List PyData} {bs : List Addr}, RdAll h vs ds as → RdAll h ws es bs → RdAll h (vs ++ ws) (ds ++ es) (as ++ bs)
  | _, _, _, _, _, _, .nil, y => y
  | _, _, _, _, _, _, .cons h1 h2, y => by
    rw [List.append_assoc]
    exact .cons h1 (RdAll.append h2 y)
theorem RdAll.take {h : Heap} : ∀ {vs : List Value} {ds : List PyData} {as : List Addr}, RdAll h vs ds as → ∀ n, ∃ bs, RdAll h (vs.take n) (ds.take n) bs ∧ ∀ a ∈ bs, a ∈ as
  | _, _, _, .nil, n => ⟨[], by simp; exact .nil, fun _ ha => nomatch ha⟩
  | _, _, _, .cons h1 h2, 0 => ⟨[], by simp; exact .nil, fun _ ha => nomatch ha⟩
  | _, _, _, .cons h1 h2, n + 1 => by
    obtain ⟨bs, r, hs⟩ := RdAll.take h2 n
    refine ⟨_, .cons h1 r, fun a ha => ?_⟩
    rcases List.mem_append.mp ha with ha | ha
    · exact List.mem_append_left _ ha
    · exact List.mem_append_right _ (hs a ha)
theorem RdAll.drop {h : Heap} : ∀ {vs : List Value} {ds : List PyData} {as : List Addr}, RdAll h vs ds as → ∀ n, ∃ bs, RdAll h (vs.drop n) (ds.drop n) bs ∧ ∀ a ∈ bs, a ∈ as
  | _, _, _, .nil, n => ⟨[], by simp; exact .nil, fun _ ha => nomatch ha⟩
  | _, _, _, .cons h1 h2, 0 => ⟨_, .cons h1 h2, fun _ ha => ha⟩
  | _, _, _, .cons h1 h2, n + 1 => by
    obtain ⟨bs, r, hs⟩ := RdAll.drop h2 n
    exact ⟨bs, by simpa using r, fun a ha => List.mem_append_right _ (hs a ha)⟩
theorem RdAll.set {h : Heap} : ∀ {vs : List Value} {ds : List PyData} {as : List Addr}, RdAll h vs ds as → ∀ (n : Nat) {v : Value} {d : PyData} {cs : List Addr}, Rd h v d cs → ∃ bs, RdAll h (vs.set n v) (ds.set n d) bs ∧ ∀ a ∈ bs, a ∈ as ∨ a ∈ cs
  | _, _, _, .nil, n, _, _, _, _ => ⟨[], by simp; exact .nil, fun _ ha => nomatch ha⟩
  | _, _, _, .cons h1 h2, 0, _, _, _, r => ⟨_, .cons r h2, fun a ha => (List.mem_append.mp ha).elim .inr fun h => .inl (List.mem_append_right _ h)⟩
  | _, _, _, .cons h1 h2, n + 1, _, _, _, r => by
    obtain ⟨bs, r', hs⟩ := RdAll.set h2 n r
    refine ⟨_, .cons h1 r', fun a ha => ?_⟩
    rcases List.mem_append.mp ha with ha | ha
    · exact .inl (List.mem_append_left _ ha)
    · exact (hs a ha).imp (List.mem_append_right _) id
theorem RdAll.replicate {h : Heap} {v : Value} {d : PyData} (r : Rd h v d []) : ∀ n : Nat, RdAll h (List.replicate n v) (List.replicate n d) []
  | 0 => .nil
  | n + 1 => .cons r (RdAll.replicate r n)

/-! ## where the names are -/
inductive VarAt (env : Env) (h : Heap) (x : Str) (v : Value) : Prop
  | loc (m) : env.kindOf x = some .local → h.Ns env.locals m → m x = some v → VarAt env h x v
  | cel (c) : (env.kindOf x = some .cell ∨ env.kindOf x = some .free) → env.cells.lookup x = some c → h.IsCell c (some v) → VarAt env h x v

/-- the surroundings of a call -/
structure Cx (w : World) (n : Nat) (A : Around) (h₀ : Heap) (L : Addr) : Prop where
  ex : ∃ A₀ base outer env mean mg mb, Below A₀ base outer h₀ ∧ A.frames = some (env :: outer) ∧ env.frame = some L ∧ env.scope.kind = .function ∧ (KF w).In h₀ ∧ Top VW LW mean mg mb h₀
  handled : A.handled = none
  depth : A.depth + n < recursionLimit
  units : A.units + 8 * n + 64 < cLine
theorem Cx.le {w n A h₀ L k} (x : Cx w n A h₀ L) (h : k ≤ n) : Cx w k A h₀ L := ⟨x.ex, x.handled, by have := x.depth; omega, by have := x.units; omega⟩

structure Con where
  w : World
  n : Nat
  A : Around
  h₀ : Heap
  L : Addr
  env : Env
  W : List Addr
  S : List Addr

/-- names and what they bear; the one owned list -/
structure Sg where
  ρ : List (Str × PyData)
  own : Option (Str × Addr × List PyData) := none
  av : List Addr := []
  pl : Bool := true
def Sg.fp (σ : Sg) : List Addr := match σ.own with
  | none => []
  | some (_, D, _) => [D]
/-- the lists that no value may bear -/
def Sg.off (σ : Sg) : List Addr := σ.fp ++ σ.av
def Sg.fx (σ : Sg) : List Addr × List Addr := (σ.fp, σ.av)
theorem Sg.fp_of {σ σ' : Sg} (e : σ'.fx = σ.fx) : σ'.fp = σ.fp := congrArg Prod.fst e
theorem Sg.av_of {σ σ' : Sg} (e : σ'.fx = σ.fx) : σ'.av = σ.av := congrArg Prod.snd e
theorem Sg.off_of {σ σ' : Sg} (e : σ'.fx = σ.fx) : σ'.off = σ.off := by unfold Sg.off; rw [Sg.fp_of e, Sg.av_of e]
theorem Sg.not_fp {σ : Sg} {a : Addr} (h : a ∉ σ.off) : a ∉ σ.fp := fun m => h (List.mem_append_left _ m)

/-- where lists come from: made in this call, or handed in -/
def Src (c : Con) (as : List Addr) : Prop := ∀ a ∈ as, c.h₀.get? a = none ∨ a ∈ c.S

structure VarOk (c : Con) (F : List Addr) (h : Heap) (x : Str) (d : PyData) : Prop where
  ex : ∃ v as, VarAt c.env h x v ∧ Rd h v d as ∧ (∀ a ∈ as, a ∉ F) ∧ Src c as

def OwnOk (c : Con) (h : Heap) (ρ : List (Str × PyData)) (av : List Addr) (pl : Bool) : Option (Str × Addr × List PyData) → Prop
  | none => True
  | some (x, D, ds) => VarAt c.env h x (.ref D) ∧ (∃ as, Rd h (.ref D) (.list ds) (D :: as) ∧ (∀ a ∈ as, a ∉ D :: av) ∧ Src c (D :: as)) ∧ (pl = true → ∃ o, h.get? D = some o ∧ o.dict = none) ∧ c.h₀.get? D = none ∧ D ∉ c.W ∧ ρ.lookup x = none

structure St (c : Con) (σ : Sg) (h : Heap) : Prop where
  cx : Cx c.w c.n c.A c.h₀ c.L
  fr : ∃ m, Fr c.h₀ c.L h m
  wnew : ∀ b ∈ c.W, c.h₀.get? b = none
  kind : c.env.scope.kind = .function
  globals : c.env.globals = mainGlobals
  builtins : c.env.builtins = builtinsNs
  nsl : ∃ m, h.Ns c.env.locals m
  nscell : ∀ x a, c.env.cells.lookup x = some a → ∃ v, h.IsCell a v
  inj : ∀ x y a, c.env.cells.lookup x = some a → c.env.cells.lookup y = some a → x = y
  wdata : ∀ b ∈ c.W, ∃ o, h.get? b = some o ∧ ∀ xs n, o.data ≠ .seq xs n
  vars : ∀ x d, σ.ρ.lookup x = some d → VarOk c σ.off h x d
  avs : Lists σ.av h
  own : OwnOk c h σ.ρ σ.av σ.pl σ.own

theorem VarAt.grow {env : Env} {h h' : Heap} {x : Str} {v : Value} (k : ∀ b o, h.get? b = some o → h'.get? b = some o) : VarAt env h x v → VarAt env h' x v
  | .loc m a b c => .loc m a (b.keeps k) c
  | .cel d a b c => .cel d a b (c.keeps k)
theorem St.grow {c : Con} {σ : Sg} {h h' : Heap} (x : St c σ h) (k : ∀ b o, h.get? b = some o → h'.get? b = some o) : St c σ h' where
  cx := x.cx
  fr := let ⟨m, F⟩ := x.fr; ⟨m, F.keeps k⟩
  wnew := x.wnew
  kind := x.kind
  globals := x.globals
  builtins := x.builtins
  nsl := let ⟨m, a⟩ := x.nsl; ⟨m, a.keeps k⟩
  nscell := fun y a e => let ⟨v, q⟩ := x.nscell y a e; ⟨v, q.keeps k⟩
  inj := x.inj
  wdata := fun b hb => let ⟨o, e, q⟩ := x.wdata b hb; ⟨o, k _ _ e, q⟩
  vars := fun y d e => let ⟨v, as, a, r, f, q⟩ := (x.vars y d e).ex; ⟨v, as, a.grow k, r.grow k, f, q⟩
  avs := fun b hb => let ⟨o, xs, n, e, q⟩ := x.avs b hb; ⟨o, xs, n, k _ _ e, q⟩
  own := by
    obtain ⟨ρ, own, av, pl⟩ := σ
    cases own with
    | none => trivial
    | some p =>
      obtain ⟨y, D, ds⟩ := p
      obtain ⟨a, ⟨as, r, q1, q2⟩, q3, b⟩ := x.own
      exact ⟨a.grow k, ⟨as, r.grow k, q1, q2⟩, (fun z => let ⟨o, e1, e2⟩ := q3 z; ⟨o, k _ _ e1, e2⟩), b⟩
theorem St.noseq {c : Con} {σ : Sg} {h : Heap} (x : St c σ h) : NoSeq c.W h := fun b hb o e xs n hd => by
  obtain ⟨o', e', q⟩ := x.wdata b hb
  rw [e] at e'; cases e'
  exact q xs n hd
theorem St.lists {c : Con} {σ : Sg} {h : Heap} (x : St c σ h) : Lists σ.fp h := by
  obtain ⟨ρ, own, av, pl⟩ := σ
  cases own with
  | none => exact fun b hb => nomatch hb
  | some p =>
    obtain ⟨y, D, ds⟩ := p
    obtain ⟨a, ⟨as, r, q1, q2⟩, b⟩ := x.own
    intro b hb
    have hb : b = D := List.mem_singleton.mp hb
    subst hb
    cases r with
    | list h1 h2 h3 h4 => exact ⟨_, _, _, h1, h2, h3⟩
theorem St.old {c : Con} {σ : Sg} {h : Heap} (x : St c σ h) {b : Addr} {o : Obj} (e : c.h₀.get? b = some o) : h.get? b = some o := let ⟨_, F⟩ := x.fr; F.keep b o e
theorem St.new {c : Con} {σ : Sg} {h : Heap} (x : St c σ h) {b : Addr} (e : h.get? b = none) : c.h₀.get? b = none := by
  cases q : c.h₀.get? b with
  | none => rfl
  | some o => rw [x.old q] at e; cases e
theorem St.offp {c : Con} {σ : Sg} {h : Heap} (x : St c σ h) {b : Addr} (e : h.get? b = none) : b ∉ σ.off := fun hb => by
  rcases List.mem_append.mp hb with hb | hb
  · obtain ⟨o, xs, n, e', _⟩ := x.lists b hb
    rw [e] at e'; cases e'
  · obtain ⟨o, xs, n, e', _⟩ := x.avs b hb
    rw [e] at e'; cases e'
theorem St.keep {c : Con} {σ : Sg} {h h' : Heap} (x : St c σ h) (k : Keep c.W σ.fp h h') {v : Value} {d : PyData} {as : List Addr} (r : Rd h v d as) (f : ∀ a ∈ as, a ∉ σ.off) : Rd h' v d as := Rd.keep k x.noseq x.lists r fun a ha => Sg.not_fp (f a ha)
theorem St.keepAll {c : Con} {σ : Sg} {h h' : Heap} (x : St c σ h) (k : Keep c.W σ.fp h h') {v : List Value} {d : List PyData} {as : List Addr} (r : RdAll h v d as) (f : ∀ a ∈ as, a ∉ σ.off) : RdAll h' v d as := RdAll.keep k x.noseq x.lists r fun a ha => Sg.not_fp (f a ha)

/-! ## judgements -/
def Kp (c : Con) (σ : Sg) (s s' : Shared) : Prop := ∃ h' tk, s' = { s with heap := h', toks := tk } ∧ Keep c.W σ.fp s.heap h'
theorem Kp.refl {c : Con} {σ : Sg} {s : Shared} : Kp c σ s s := ⟨s.heap, s.toks, rfl, Keep.refl⟩
theorem Kp.trans {c : Con} {σ σ' : Sg} {s s' s'' : Shared} (e : σ'.fx = σ.fx) (x : Kp c σ s s') (y : Kp c σ' s' s'') : Kp c σ s s'' := by
  obtain ⟨h', tk, rfl, k⟩ := x
  obtain ⟨h'', tk', rfl, k'⟩ := y
  exact ⟨h'', tk', rfl, k.trans (Sg.fp_of e ▸ k')⟩
theorem Kp.grow {c : Con} {σ : Sg} {s : Shared} {h' : Heap} {tk : Nat} (k : ∀ b o, s.heap.get? b = some o → h'.get? b = some o) : Kp c σ s { s with heap := h', toks := tk } := ⟨h', tk, rfl, Keep.of k⟩
theorem Kp.keep {c : Con} {σ : Sg} {s s' : Shared} (x : Kp c σ s s') : Keep c.W σ.fp s.heap s'.heap := by
  obtain ⟨h', tk, rfl, k⟩ := x; exact k

abbrev Wp {α : Type} (c : Con) (t : Sem α) (Q : α → Shared → Prop) (s : Shared) : Prop := wpAny (model prg c.w) c.A t Q (fun _ _ => False) s

structure Bears (c : Con) (σ : Sg) (h : Heap) (v : Value) (d : PyData) (as : List Addr) : Prop where
  rd : Rd h v d as
  off : ∀ a ∈ as, a ∉ σ.off
  src : Src c as
structure BearsAll (c : Con) (σ : Sg) (h : Heap) (vs : List Value) (ds : List PyData) (as : List Addr) : Prop where
  rd : RdAll h vs ds as
  off : ∀ a ∈ as, a ∉ σ.off
  src : Src c as
theorem Bears.kp {c : Con} {σ σ' : Sg} {s s' : Shared} {v d as} (b : Bears c σ s.heap v d as) (x : St c σ s.heap) (k : Kp c σ s s') (e : σ'.fx = σ.fx) : Bears c σ' s'.heap v d as := ⟨x.keep k.keep b.rd b.off, Sg.off_of e ▸ b.off, b.src⟩

/-- an expression's value -/
structure Ev (c : Con) (σ : Sg) (e : Expr) (σ' : Sg) (d : PyData) : Prop where
  fst : σ'.fx = σ.fx
  snd : ∀ s (Q : Value → Shared → Prop), St c σ s.heap → (∀ v as s', St c σ' s'.heap → Kp c σ s s' → Bears c σ' s'.heap v d as → Q v s') → Wp c (eval e c.env) Q s
structure EvL (c : Con) (σ : Sg) (es : List Expr) (σ' : Sg) (ds : List PyData) : Prop where
  fst : σ'.fx = σ.fx
  snd : ∀ pos s (Q : List Value → Shared → Prop), St c σ s.heap → (∀ vs as s', St c σ' s'.heap → Kp c σ s s' → BearsAll c σ' s'.heap vs ds as → Q vs s') → Wp c (spliced (backTo pos (starEach es c.env))) Q s
/-- a test -/
structure Ts (c : Con) (σ : Sg) (e : Expr) (σ' : Sg) (b : Bool) : Prop where
  fst : σ'.fx = σ.fx
  snd : ∀ s (Q : Bool → Shared → Prop), St c σ s.heap → (∀ s', St c σ' s'.heap → Kp c σ s s' → Q b s') → Wp c (isTrue e c.env (eval e c.env)) Q s

/-- an operation that changes nothing that stood -/
def Op (w : World) (k : Nat) (t : List Value → Sem Value) (ds : List PyData) (d : PyData) : Prop :=
  ∀ A h₀ L s vs as (Q : Value → Shared → Prop), Cx w k A h₀ L → (∃ m, Fr h₀ L s.heap m) → RdAll s.heap vs ds as →
    (∀ v bs h' tk, (∀ b o, s.heap.get? b = some o → h'.get? b = some o) → Rd h' v d bs → (∀ a ∈ bs, s.heap.get? a = none ∨ a ∈ as) → Q v { s with heap := h', toks := tk }) →
    wpAny (model prg w) A (t vs) Q (fun _ _ => False) s

theorem op_use {c : Con} {σ : Sg} {k : Nat} {t : List Value → Sem Value} {ds : List PyData} {d : PyData} (o : Op c.w k t ds d) (hk : k ≤ c.n) {s : Shared} {vs as} {Q : Value → Shared → Prop}
    (x : St c σ s.heap) (b : BearsAll c σ s.heap vs ds as) (h : ∀ v as s', St c σ s'.heap → Kp c σ s s' → Bears c σ s'.heap v d as → Q v s') : Wp c (t vs) Q s := by
  refine o c.A c.h₀ c.L s vs as Q (x.cx.le hk) x.fr b.rd fun v bs h' tk g r hf => ?_
  refine h v bs _ (x.grow g) (Kp.grow g) ⟨r, fun a ha => ?_, fun a ha => ?_⟩
  · rcases hf a ha with q | q
    · exact x.offp q
    · exact b.off a q
  · rcases hf a ha with q | q
    · exact .inl (x.new q)
    · exact b.src a q

theorem evl_nil {c : Con} {σ : Sg} : EvL c σ [] σ [] := ⟨rfl, fun _ _ _ x h => spliced_none (h [] [] _ x Kp.refl ⟨.nil, (fun _ ha => nomatch ha), (fun _ ha => nomatch ha)⟩)⟩
theorem evl_cons {c : Con} {σ σ₁ σ₂ : Sg} {e : Expr} {es : List Expr} {d : PyData} {ds : List PyData} (h1 : Ev c σ e σ₁ d) (h2 : EvL c σ₁ es σ₂ ds)
    (he : starEach (e :: es) c.env = (false, eval e c.env) :: starEach es c.env := by rfl) : EvL c σ (e :: es) σ₂ (d :: ds) := by
  obtain ⟨f1, h1⟩ := h1
  obtain ⟨f2, h2⟩ := h2
  refine ⟨f2.trans f1, fun pos s Q x h => spliced_more (h1 s _ x fun v as s₁ x₁ k₁ b₁ => h2 pos s₁ _ x₁ fun vs bs s₂ x₂ k₂ b₂ => ?_) he⟩
  have b₁' := b₁.kp x₁ k₂ f2
  refine h _ (as ++ bs) _ x₂ (k₁.trans f1 k₂) ⟨.cons b₁'.rd b₂.rd, fun a ha => ?_, fun a ha => ?_⟩
  · exact (List.mem_append.mp ha).elim (b₁'.off a) (b₂.off a)
  · exact (List.mem_append.mp ha).elim (b₁'.src a) (b₂.src a)

theorem ev_name {c : Con} {σ : Sg} {x : Str} {p : Pos} {d : PyData} (hl : σ.ρ.lookup x = some d) (hd : (x == ("__debug__" : Str)) = false := by decide) (hn : (x == ("__classdict__" : Str)) = false := by decide) : Ev c σ (.Name x p) σ d := by
  refine ⟨rfl, fun s Q X h => ?_⟩
  obtain ⟨v, as, a, r, f, q⟩ := (X.vars x d hl).ex
  have fin := h v as s X Kp.refl ⟨r, f, q⟩
  refine wpAny_Name ?_ hd
  cases a with
  | loc m e1 e2 e3 => exact wpAny_loadName_local X.kind e1 e2 e3 fin
  | cel a e1 e2 e3 =>
    rcases e1 with e1 | e1
    · exact wpAny_loadName_cell X.kind e1 e2 e3 fin
    · exact wpAny_loadName_free X.kind e1 e2 e3 fin hn
end
section
open PySem PySem.W PyProof.Rows PySem.Calls PySem.Spec
set_option maxRecDepth 100000
section
variable {c : Con} {σ σ' σ₁ σ₂ σ₃ : Sg} {e e₁ e₂ : Expr} {d d₁ d₂ : PyData} {p pos : Pos} {k : Nat}

theorem Bears.plain {v : Value} {h : Heap} (r : Rd h v d []) : Bears c σ h v d [] := ⟨r, (fun _ ha => nomatch ha), (fun _ ha => nomatch ha)⟩
theorem int_of {h : Heap} {v : Value} {i : Int} {as : List Addr} (r : Rd h v (.int i) as) : ∃ t, v = .int i t ∧ as = [] := by cases r; exact ⟨_, rfl, rfl⟩
theorem bool_of {h : Heap} {v : Value} {i : Bool} {as : List Addr} (r : Rd h v (.bool i) as) : v = .bool i ∧ as = [] := by cases r; exact ⟨rfl, rfl⟩
theorem none_of {h : Heap} {v : Value} {as : List Addr} (r : Rd h v .none as) : v = .none ∧ as = [] := by cases r; exact ⟨rfl, rfl⟩
theorem list_of {h : Heap} {v : Value} {ds : List PyData} {as : List Addr} (r : Rd h v (.list ds) as) : ∃ a vs bs, v = .ref a ∧ as = a :: bs ∧ h.IsList a (List.toArray vs) ∧ RdAll h vs ds bs := by
  cases r with
  | list h1 h2 h3 h4 => exact ⟨_, _, _, rfl, rfl, ⟨_, h1, h2, _, by simpa using h3⟩, h4⟩
theorem tuple_of {h : Heap} {v : Value} {ds : List PyData} {as : List Addr} (r : Rd h v (.tuple ds) as) : ∃ a vs, v = .ref a ∧ IsTup h a (List.toArray vs) ∧ RdAll h vs ds as := by
  cases r with
  | tuple h1 h2 h3 h4 => exact ⟨_, _, rfl, ⟨_, h1, h2, _, by simpa using h3⟩, h4⟩
theorem rd_list {h : Heap} {a : Addr} {vs : List Value} {ds : List PyData} {as : List Addr} (x : h.IsList a (List.toArray vs)) (r : RdAll h vs ds as) : Rd h (.ref a) (.list ds) (a :: as) := by
  obtain ⟨o, h1, h2, n, h3⟩ := x
  exact .list h1 h2 h3 (by simpa using r)
theorem rd_tuple {h : Heap} {a : Addr} {vs : List Value} {ds : List PyData} {as : List Addr} (x : IsTup h a (List.toArray vs)) (r : RdAll h vs ds as) : Rd h (.ref a) (.tuple ds) as := by
  obtain ⟨o, h1, h2, n, h3⟩ := x
  exact .tuple h1 h2 h3 (by simpa using r)

theorem ev_int {i : Int} {u : Nat} : Ev c σ (.Constant (.int i) u pos) σ (.int i) :=
  ⟨rfl, fun s _ x h => wpAny_Constant_int (h _ [] _ x (Kp.grow (s := s) fun _ _ e => e) (Bears.plain (.int _ _)))⟩
theorem ev_bool {i : Bool} {u : Nat} : Ev c σ (.Constant (.bool i) u pos) σ (.bool i) :=
  ⟨rfl, fun s _ x h => Constant_bool (h _ [] _ x Kp.refl (Bears.plain (.bool _)))⟩
theorem ev_none {u : Nat} : Ev c σ (.Constant .none u pos) σ .none :=
  ⟨rfl, fun s _ x h => Constant_none (h _ [] _ x Kp.refl (Bears.plain .none))⟩
theorem ev_str {i : Str} {u : Nat} : Ev c σ (.Constant (.str i) u pos) σ (.str i) :=
  ⟨rfl, fun s _ x h => Constant_str (h _ [] _ x (Kp.grow (s := s) fun _ _ e => e) (Bears.plain (.str _ _)))⟩

/-- two operands -/
theorem two {t : Value → Value → Sem Value} (h1 : Ev c σ e₁ σ₁ d₁) (h2 : Ev c σ₁ e₂ σ₂ d₂) (o : Op c.w k (fun vs => match vs with | [a, b] => t a b | _ => .unsupported "") [d₁, d₂] d) (hk : k ≤ c.n) {s : Shared} {Q : Value → Shared → Prop}
    (x : St c σ s.heap) (h : ∀ v as s', St c σ₂ s'.heap → Kp c σ s s' → Bears c σ₂ s'.heap v d as → Q v s') :
    Wp c (eval e₁ c.env) (fun a s₁ => Wp c (eval e₂ c.env) (fun b s₂ => Wp c (t a b) Q s₂) s₁) s := by
  obtain ⟨f1, h1⟩ := h1
  obtain ⟨f2, h2⟩ := h2
  refine h1 s _ x fun v as s₁ x₁ k₁ b₁ => h2 s₁ _ x₁ fun u bs s₂ x₂ k₂ b₂ => ?_
  have b₁' := b₁.kp x₁ k₂ f2
  refine op_use (vs := [v, u]) o hk x₂ (as := as ++ (bs ++ [])) ⟨.cons b₁'.rd (.cons b₂.rd .nil), fun a ha => ?_, fun a ha => ?_⟩ fun v as s' x' k' b' => h v as s' x' ((k₁.trans f1 k₂).trans (f2.trans f1) k') b'
  · rw [List.append_nil] at ha; exact (List.mem_append.mp ha).elim (b₁'.off a) (b₂.off a)
  · rw [List.append_nil] at ha; exact (List.mem_append.mp ha).elim (b₁'.src a) (b₂.src a)
theorem ev_binop {op : Operator} (h1 : Ev c σ e₁ σ₁ d₁) (h2 : Ev c σ₁ e₂ σ₂ d₂) (o : Op c.w k (fun vs => match vs with | [a, b] => binaryOp op a b | _ => .unsupported "") [d₁, d₂] d) (hk : k ≤ c.n) : Ev c σ (.BinOp e₁ op e₂ pos) σ₂ d :=
  ⟨h2.1.trans h1.1, fun s Q x h => wpAny_BinOp (two (t := binaryOp op) h1 h2 o hk x h)⟩
theorem ev_cmp {op : CmpOp} (h1 : Ev c σ e₁ σ₁ d₁) (h2 : Ev c σ₁ e₂ σ₂ d₂) (o : Op c.w k (fun vs => match vs with | [a, b] => compareOp op a b | _ => .unsupported "") [d₁, d₂] d) (hk : k ≤ c.n) (hm : behindInMarks op e₂ = false := by with_unfolding_all rfl) :
    Ev c σ (.Compare e₁ [op] [e₂] pos) σ₂ d :=
  ⟨h2.1.trans h1.1, fun s Q x h => wpAny_Compare1 (two (t := compareOp op) h1 h2 o hk x h) hm⟩

theorem op_int2 {t : Value → Value → Sem Value} {i j r : Int} {w : World} (h : ∀ {A s t₁ t₂} {Q : Value → Shared → Prop}, Q (.int r s.toks) { s with toks := s.toks + 1 } → wpAny (model prg w) A (t (.int i t₁) (.int j t₂)) Q (fun _ _ => False) s) :
    Op w 0 (fun vs => match vs with | [a, b] => t a b | _ => .unsupported "") [.int i, .int j] (.int r) := by
  intro A h₀ L s vs as Q cx fr rd hq
  cases rd with
  | cons r1 rd =>
    cases rd with
    | cons r2 rd =>
      cases rd
      obtain ⟨t1, rfl, rfl⟩ := int_of r1
      obtain ⟨t2, rfl, rfl⟩ := int_of r2
      exact h (hq _ [] _ _ (fun _ _ e => e) (.int _ _) (fun _ ha => nomatch ha))
theorem op_cmp2 {t : Value → Value → Sem Value} {i j : Int} {r : Bool} {w : World} (h : ∀ {A s t₁ t₂} {Q : Value → Shared → Prop}, Q (.bool r) s → wpAny (model prg w) A (t (.int i t₁) (.int j t₂)) Q (fun _ _ => False) s) :
    Op w 0 (fun vs => match vs with | [a, b] => t a b | _ => .unsupported "") [.int i, .int j] (.bool r) := by
  intro A h₀ L s vs as Q cx fr rd hq
  cases rd with
  | cons r1 rd =>
    cases rd with
    | cons r2 rd =>
      cases rd
      obtain ⟨t1, rfl, rfl⟩ := int_of r1
      obtain ⟨t2, rfl, rfl⟩ := int_of r2
      exact h (hq _ [] s.heap s.toks (fun _ _ e => e) (.bool _) (fun _ ha => nomatch ha))

theorem ev_add {i j : Int} (h1 : Ev c σ e₁ σ₁ (.int i)) (h2 : Ev c σ₁ e₂ σ₂ (.int j)) : Ev c σ (.BinOp e₁ .Add e₂ pos) σ₂ (.int (i + j)) :=
  ev_binop h1 h2 (op_int2 (t := binaryOp .Add) fun h => P.add_int h) (Nat.zero_le _)
theorem ev_sub {i j : Int} (h1 : Ev c σ e₁ σ₁ (.int i)) (h2 : Ev c σ₁ e₂ σ₂ (.int j)) : Ev c σ (.BinOp e₁ .Sub e₂ pos) σ₂ (.int (i - j)) :=
  ev_binop h1 h2 (op_int2 (t := binaryOp .Sub) fun h => P.sub_int h) (Nat.zero_le _)
theorem ev_mul {i j : Int} (h1 : Ev c σ e₁ σ₁ (.int i)) (h2 : Ev c σ₁ e₂ σ₂ (.int j)) (hm : IntMulOk i j) : Ev c σ (.BinOp e₁ .Mult e₂ pos) σ₂ (.int (i * j)) :=
  ev_binop h1 h2 (op_int2 (t := binaryOp .Mult) fun h => P.mul_int h hm) (Nat.zero_le _)
theorem ev_eqi {i j : Int} (h1 : Ev c σ e₁ σ₁ (.int i)) (h2 : Ev c σ₁ e₂ σ₂ (.int j)) (hm : behindInMarks .Eq e₂ = false := by with_unfolding_all rfl) : Ev c σ (.Compare e₁ [.Eq] [e₂] pos) σ₂ (.bool (i == j)) :=
  ev_cmp h1 h2 (op_cmp2 (t := compareOp .Eq) fun h => P.eq_int h) (Nat.zero_le _) hm
theorem ev_nei {i j : Int} (h1 : Ev c σ e₁ σ₁ (.int i)) (h2 : Ev c σ₁ e₂ σ₂ (.int j)) (hm : behindInMarks .NotEq e₂ = false := by with_unfolding_all rfl) : Ev c σ (.Compare e₁ [.NotEq] [e₂] pos) σ₂ (.bool (i != j)) :=
  ev_cmp h1 h2 (op_cmp2 (t := compareOp .NotEq) fun h => P.ne_int h) (Nat.zero_le _) hm
theorem ev_lt {i j : Int} (h1 : Ev c σ e₁ σ₁ (.int i)) (h2 : Ev c σ₁ e₂ σ₂ (.int j)) (hm : behindInMarks .Lt e₂ = false := by with_unfolding_all rfl) : Ev c σ (.Compare e₁ [.Lt] [e₂] pos) σ₂ (.bool (decide (i < j))) :=
  ev_cmp h1 h2 (op_cmp2 (t := compareOp .Lt) fun h => P.lt_int h) (Nat.zero_le _) hm
theorem ev_le {i j : Int} (h1 : Ev c σ e₁ σ₁ (.int i)) (h2 : Ev c σ₁ e₂ σ₂ (.int j)) (hm : behindInMarks .LtE e₂ = false := by with_unfolding_all rfl) : Ev c σ (.Compare e₁ [.LtE] [e₂] pos) σ₂ (.bool (decide (i ≤ j))) :=
  ev_cmp h1 h2 (op_cmp2 (t := compareOp .LtE) fun h => P.le_int h) (Nat.zero_le _) hm
theorem ev_gt {i j : Int} (h1 : Ev c σ e₁ σ₁ (.int i)) (h2 : Ev c σ₁ e₂ σ₂ (.int j)) (hm : behindInMarks .Gt e₂ = false := by with_unfolding_all rfl) : Ev c σ (.Compare e₁ [.Gt] [e₂] pos) σ₂ (.bool (decide (i > j))) :=
  ev_cmp h1 h2 (op_cmp2 (t := compareOp .Gt) fun h => P.gt_int h) (Nat.zero_le _) hm
theorem ev_ge {i j : Int} (h1 : Ev c σ e₁ σ₁ (.int i)) (h2 : Ev c σ₁ e₂ σ₂ (.int j)) (hm : behindInMarks .GtE e₂ = false := by with_unfolding_all rfl) : Ev c σ (.Compare e₁ [.GtE] [e₂] pos) σ₂ (.bool (decide (i ≥ j))) :=
  ev_cmp h1 h2 (op_cmp2 (t := compareOp .GtE) fun h => P.ge_int h) (Nat.zero_le _) hm

/-! tests -/
theorem ts_cmp {op : CmpOp} {r : PyData} {b : Bool} (h1 : Ev c σ (.Compare e₁ [op] [e₂] pos) σ₁ (.bool b)) (he : ∀ s (Q : Value → Shared → Prop), Wp c (eval (.Compare e₁ [op] [e₂] pos) c.env) Q s → True := fun _ _ _ => trivial) : True := trivial

/-- one operand, then its truth -/
theorem ts_plain {b : Bool} (h1 : Ev c σ e σ₁ d) (ht : ∀ s v as (Q : Bool → Shared → Prop), Rd s.heap v d as → Q b s → Wp c (truthy v) Q s)
    (he : ∀ whole, isTrue e c.env whole = (do let v ← whole; standAt e.pos; holding [v] (truthy v)) := by intro _; rfl) : Ts c σ e σ₁ b := by
  refine ⟨h1.1, fun s Q x h => isTrue_plain (h1.2 s _ x fun v as s₁ x₁ k₁ b₁ => ht s₁ v as _ b₁.rd (h s₁ x₁ k₁)) (he _)⟩
theorem truthy_b {b : Bool} : ∀ s v as (Q : Bool → Shared → Prop), Rd s.heap v (.bool b) as → Q b s → Wp c (truthy v) Q s := by
  intro s v as Q r h
  obtain ⟨rfl, rfl⟩ := bool_of r
  exact wpAny_truthy_bool h
/-- the test of a comparison -/
theorem ts_two {op : CmpOp} {b : Bool} (h1 : Ev c σ e₁ σ₁ d₁) (h2 : Ev c σ₁ e₂ σ₂ d₂) (o : Op c.w k (fun vs => match vs with | [a, b] => compareOp op a b | _ => .unsupported "") [d₁, d₂] (.bool b)) (hk : k ≤ c.n)
    (hm : behindInMarks op e₂ = false := by with_unfolding_all rfl) : Ts c σ (.Compare e₁ [op] [e₂] pos) σ₂ b := by
  refine ⟨h2.1.trans h1.1, fun s Q x h => wpAny_isTrue_Compare1 (two (t := compareOp op) h1 h2 o hk x fun v as s' x' k' b' => ?_) hm⟩
  obtain ⟨rfl, rfl⟩ := bool_of b'.rd
  exact wpAny_truthy_bool (h s' x' k')
theorem ts_lt {i j : Int} (h1 : Ev c σ e₁ σ₁ (.int i)) (h2 : Ev c σ₁ e₂ σ₂ (.int j)) (hm : behindInMarks .Lt e₂ = false := by with_unfolding_all rfl) : Ts c σ (.Compare e₁ [.Lt] [e₂] pos) σ₂ (decide (i < j)) :=
  ts_two h1 h2 (op_cmp2 (t := compareOp .Lt) fun h => P.lt_int h) (Nat.zero_le _) hm
theorem ts_le {i j : Int} (h1 : Ev c σ e₁ σ₁ (.int i)) (h2 : Ev c σ₁ e₂ σ₂ (.int j)) (hm : behindInMarks .LtE e₂ = false := by with_unfolding_all rfl) : Ts c σ (.Compare e₁ [.LtE] [e₂] pos) σ₂ (decide (i ≤ j)) :=
  ts_two h1 h2 (op_cmp2 (t := compareOp .LtE) fun h => P.le_int h) (Nat.zero_le _) hm
theorem ts_gt {i j : Int} (h1 : Ev c σ e₁ σ₁ (.int i)) (h2 : Ev c σ₁ e₂ σ₂ (.int j)) (hm : behindInMarks .Gt e₂ = false := by with_unfolding_all rfl) : Ts c σ (.Compare e₁ [.Gt] [e₂] pos) σ₂ (decide (i > j)) :=
  ts_two h1 h2 (op_cmp2 (t := compareOp .Gt) fun h => P.gt_int h) (Nat.zero_le _) hm
theorem ts_ge {i j : Int} (h1 : Ev c σ e₁ σ₁ (.int i)) (h2 : Ev c σ₁ e₂ σ₂ (.int j)) (hm : behindInMarks .GtE e₂ = false := by with_unfolding_all rfl) : Ts c σ (.Compare e₁ [.GtE] [e₂] pos) σ₂ (decide (i ≥ j)) :=
  ts_two h1 h2 (op_cmp2 (t := compareOp .GtE) fun h => P.ge_int h) (Nat.zero_le _) hm
theorem ts_eqi {i j : Int} (h1 : Ev c σ e₁ σ₁ (.int i)) (h2 : Ev c σ₁ e₂ σ₂ (.int j)) (hm : behindInMarks .Eq e₂ = false := by with_unfolding_all rfl) : Ts c σ (.Compare e₁ [.Eq] [e₂] pos) σ₂ (i == j) :=
  ts_two h1 h2 (op_cmp2 (t := compareOp .Eq) fun h => P.eq_int h) (Nat.zero_le _) hm
theorem ts_nei {i j : Int} (h1 : Ev c σ e₁ σ₁ (.int i)) (h2 : Ev c σ₁ e₂ σ₂ (.int j)) (hm : behindInMarks .NotEq e₂ = false := by with_unfolding_all rfl) : Ts c σ (.Compare e₁ [.NotEq] [e₂] pos) σ₂ (i != j) :=
  ts_two h1 h2 (op_cmp2 (t := compareOp .NotEq) fun h => P.ne_int h) (Nat.zero_le _) hm
theorem ts_not {b : Bool} (h1 : Ts c σ e σ₁ b) : Ts c σ (.UnaryOp .Not e pos) σ₁ (!b) :=
  ⟨h1.1, fun s Q x h => isTrue_not (h1.2 s _ x h)⟩
theorem ts_and_nil : Ts c σ (.BoolOp .And [] pos) σ true := ⟨rfl, fun s Q x h => isTrue_and_nil (h s x Kp.refl)⟩
theorem ts_or_nil : Ts c σ (.BoolOp .Or [] pos) σ false := ⟨rfl, fun s Q x h => isTrue_or_nil (h s x Kp.refl)⟩
theorem ts_and_f {rest : List Expr} (h1 : Ts c σ e σ₁ false) : Ts c σ (.BoolOp .And (e :: rest) pos) σ₁ false :=
  ⟨h1.1, fun s Q x h => isTrue_and (h1.2 s _ x fun s' x' k' => by simpa using h s' x' k')⟩
theorem ts_and_t {rest : List Expr} {b : Bool} (h1 : Ts c σ e σ₁ true) (h2 : Ts c σ₁ (.BoolOp .And rest pos) σ₂ b) : Ts c σ (.BoolOp .And (e :: rest) pos) σ₂ b :=
  ⟨h2.1.trans h1.1, fun s Q x h => isTrue_and (h1.2 s _ x fun s' x' k' => by
    simp only [if_true]; exact h2.2 s' Q x' fun s'' x'' k'' => h s'' x'' (k'.trans h1.1 k''))⟩
theorem ts_or_t {rest : List Expr} (h1 : Ts c σ e σ₁ true) : Ts c σ (.BoolOp .Or (e :: rest) pos) σ₁ true :=
  ⟨h1.1, fun s Q x h => isTrue_or (h1.2 s _ x fun s' x' k' => by simpa using h s' x' k')⟩
theorem ts_or_f {rest : List Expr} {b : Bool} (h1 : Ts c σ e σ₁ false) (h2 : Ts c σ₁ (.BoolOp .Or rest pos) σ₂ b) : Ts c σ (.BoolOp .Or (e :: rest) pos) σ₂ b :=
  ⟨h2.1.trans h1.1, fun s Q x h => isTrue_or (h1.2 s _ x fun s' x' k' => by
    simp only [Bool.false_eq_true, if_false]; exact h2.2 s' Q x' fun s'' x'' k'' => h s'' x'' (k'.trans h1.1 k''))⟩
theorem ev_if_t {t e₁ e₂ : Expr} (h1 : Ts c σ t σ₁ true) (h2 : Ev c σ₁ e₁ σ₂ d) : Ev c σ (.IfExp t e₁ e₂ pos) σ₂ d :=
  ⟨h2.1.trans h1.1, fun s Q x h => IfExp_ (h1.2 s _ x fun s' x' k' => by
    simp only [if_true]; exact h2.2 s' Q x' fun v as s'' x'' k'' b => h v as s'' x'' (k'.trans h1.1 k'') b)⟩
theorem ev_if_f {t e₁ e₂ : Expr} (h1 : Ts c σ t σ₁ false) (h2 : Ev c σ₁ e₂ σ₂ d) : Ev c σ (.IfExp t e₁ e₂ pos) σ₂ d :=
  ⟨h2.1.trans h1.1, fun s Q x h => IfExp_ (h1.2 s _ x fun s' x' k' => by
    simp only [Bool.false_eq_true, if_false]; exact h2.2 s' Q x' fun v as s'' x'' k'' b => h v as s'' x'' (k'.trans h1.1 k'') b)⟩

/-! displays -/
theorem op_list {w : World} {ds : List PyData} (hz : ds.length ≤ sizeLine) : Op w 0 newList ds (.list ds) := by
  intro A h₀ L s vs as Q cx fr rd hq
  refine wpAny_newObj_type (hq _ (s.heap.objs.size :: as) _ s.toks (fun _ _ e => Heap.get?_push_of_some _ e) ?_ fun a ha => ?_) (by show vs.toArray.size ≤ sizeLine; rw [List.size_toArray, rd.length]; exact hz)
  · exact rd_list ⟨_, Heap.get?_push_size _ rfl, rfl, _, rfl⟩ (rd.grow fun _ _ e => Heap.get?_push_of_some _ e)
  · rcases List.mem_cons.mp ha with rfl | ha
    · left
      cases q : s.heap.get? s.heap.objs.size with
      | none => rfl
      | some o => exact absurd (Heap.lt_size q) (Nat.lt_irrefl _)
    · exact .inr ha
theorem op_tuple {w : World} {ds : List PyData} (hz : ds.length ≤ sizeLine) : Op w 0 newTuple ds (.tuple ds) := by
  intro A h₀ L s vs as Q cx fr rd hq
  refine wpAny_newObj_type (hq _ as _ s.toks (fun _ _ e => Heap.get?_push_of_some _ e) ?_ fun a ha => .inr ha) (by show vs.toArray.size ≤ sizeLine; rw [List.size_toArray, rd.length]; exact hz)
  exact rd_tuple ⟨_, Heap.get?_push_size _ rfl, rfl, _, rfl⟩ (rd.grow fun _ _ e => Heap.get?_push_of_some _ e)
theorem ev_list {es : List Expr} {ds : List PyData} (h : EvL c σ es σ' ds) (hz : ds.length ≤ sizeLine) : Ev c σ (.List es pos) σ' (.list ds) :=
  ⟨h.1, fun s Q x hq => List_ (h.2 pos s _ x fun vs as s₁ x₁ k₁ b₁ => op_use (op_list hz) (Nat.zero_le _) x₁ b₁ fun v bs s₂ x₂ k₂ b₂ => hq v bs s₂ x₂ (k₁.trans h.1 k₂) b₂)⟩
theorem ev_tuple {es : List Expr} {ds : List PyData} {u : Nat} (h : EvL c σ es σ' ds) (hz : ds.length ≤ sizeLine) : Ev c σ (.Tuple es u pos) σ' (.tuple ds) :=
  ⟨h.1, fun s Q x hq => Tuple_ (h.2 pos s _ x fun vs as s₁ x₁ k₁ b₁ => op_use (op_tuple hz) (Nat.zero_le _) x₁ b₁ fun v bs s₂ x₂ k₂ b₂ => hq v bs s₂ x₂ (k₁.trans h.1 k₂) b₂)⟩
end
end
section
open PySem PySem.W PyProof.Rows PySem.Calls PySem.Spec
set_option maxRecDepth 100000
theorem ns_unique {h : Heap} {a : Addr} {m m' : Str → Option Value} (x : h.Ns a m) (y : h.Ns a m') : m = m' := by
  obtain ⟨o, es, ep, e, d, k, f⟩ := x
  obtain ⟨o', es', ep', e', d', k', f'⟩ := y
  rw [e] at e'; cases e'
  rw [d] at d'; cases d'
  funext n
  rw [← f n, ← f' n]
theorem ns_data {h : Heap} {a : Addr} {m : Str → Option Value} (x : h.Ns a m) : ∃ o, h.get? a = some o ∧ ∀ xs n, o.data ≠ .seq xs n := by
  obtain ⟨o, es, ep, e, d, _⟩ := x
  exact ⟨o, e, fun xs n q => by rw [d] at q; cases q⟩
theorem cell_data {h : Heap} {a : Addr} {v : Option Value} (x : h.IsCell a v) : ∃ o, h.get? a = some o ∧ ∀ xs n, o.data ≠ .seq xs n := by
  obtain ⟨o, e, d⟩ := x
  exact ⟨o, e, fun xs n q => by rw [d] at q; cases q⟩
theorem ns_not_cell {h : Heap} {a b : Addr} {m : Str → Option Value} {v : Option Value} (x : h.Ns a m) (y : h.IsCell b v) : a ≠ b := by
  rintro rfl
  obtain ⟨o, es, ep, e, d, _⟩ := x
  obtain ⟨o', e', d'⟩ := y
  rw [e] at e'; cases e'
  rw [d] at d'; cases d'
theorem VarAt.fn {env : Env} {h : Heap} {x : Str} {v u : Value} (a : VarAt env h x v) (b : VarAt env h x u) : v = u := by
  cases a with
  | loc m e1 e2 e3 =>
    cases b with
    | loc m' f1 f2 f3 => rw [ns_unique e2 f2] at e3; rw [e3] at f3; exact Option.some.inj f3
    | cel a f1 f2 f3 => rw [e1] at f1; rcases f1 with f | f <;> cases f
  | cel a e1 e2 e3 =>
    cases b with
    | loc m' f1 f2 f3 => rw [f1] at e1; rcases e1 with f | f <;> cases f
    | cel a' f1 f2 f3 =>
      rw [e2] at f2; cases f2
      obtain ⟨o, q, r⟩ := e3
      obtain ⟨o', q', r'⟩ := f3
      rw [q] at q'; cases q'
      rw [r] at r'; cases r'
      rfl

/-- the place of a name that may be stored into -/
inductive Place (c : Con) (x : Str) : Prop
  | loc : c.env.kindOf x = some .local → c.env.locals ∈ c.W → Place c x
  | cel (a) : c.env.kindOf x = some .cell → c.env.cells.lookup x = some a → a ∈ c.W → Place c x

def Sg.set (σ : Sg) (x : Str) (d : PyData) : Sg := ⟨(x, d) :: σ.ρ, σ.own, σ.av, σ.pl⟩
theorem Sg.set_fx (σ : Sg) (x : Str) (d : PyData) : (σ.set x d).fx = σ.fx := rfl
def Sg.notOwn (σ : Sg) (x : Str) : Prop := match σ.own with
  | none => True
  | some (y, _, _) => (y == x) = false

section
variable {c : Con} {σ σ' σ₁ σ₂ σ₃ : Sg} {e e₁ e₂ : Expr} {d d₁ d₂ : PyData} {p pos : Pos} {k : Nat} {x : Str}

def Sg.del (σ : Sg) (x : Str) : Sg := ⟨σ.ρ.filter fun p => !(p.1 == x), σ.own, σ.av, σ.pl⟩
theorem lookup_del {ρ : List (Str × PyData)} {x y : Str} {d : PyData} (h : (ρ.filter fun p => !(p.1 == x)).lookup y = some d) : y ≠ x ∧ ρ.lookup y = some d := by
  induction ρ with
  | nil => cases h
  | cons p r ih =>
    obtain ⟨z, e⟩ := p
    rw [List.filter_cons] at h
    by_cases hz : z = x
    · subst hz
      simp at h
      obtain ⟨h1, h2⟩ := ih (by simpa using h)
      refine ⟨h1, ?_⟩
      rw [List.lookup_cons, show (y == z) = false by simpa using h1]
      exact h2
    · have hz' : (z == x) = false := by simpa using hz
      simp only [hz', Bool.not_false, if_true] at h
      rw [List.lookup_cons] at h ⊢
      by_cases hy : y = z
      · subst hy
        simp at h ⊢
        exact ⟨hz, h⟩
      · have hy' : (y == z) = false := by simpa using hy
        rw [hy'] at h ⊢
        exact ih h
theorem lookup_del_none {ρ : List (Str × PyData)} {x y : Str} (h : ρ.lookup y = none) : (ρ.filter fun p => !(p.1 == x)).lookup y = none := by
  cases q : (ρ.filter fun p => !(p.1 == x)).lookup y with
  | none => rfl
  | some d => rw [(lookup_del q).2] at h; cases h
theorem lookup_del_of {ρ : List (Str × PyData)} {x y : Str} {d : PyData} (hy : y ≠ x) (h : ρ.lookup y = some d) : (ρ.filter fun p => !(p.1 == x)).lookup y = some d := by
  induction ρ with
  | nil => cases h
  | cons p r ih =>
    obtain ⟨z, e⟩ := p
    rw [List.lookup_cons] at h
    rw [List.filter_cons]
    by_cases hz : y = z
    · subst hz
      simp at h
      have : (y == x) = false := by simpa using hy
      simp only [this, Bool.not_false, if_true, List.lookup_cons, beq_self_eq_true]
      rw [h]
    · have hz' : (y == z) = false := by simpa using hz
      rw [hz'] at h
      split
      · rw [List.lookup_cons, hz']; exact ih h
      · exact ih h

/-- what a store leaves: the object at b has turned, the name x is at v -/
theorem store_fin {h h' : Heap} {b : Addr} (X : St c σ h) (hno : σ.notOwn x) (hb : b ∈ c.W) (hs : Heap.SameBut b h h')
    (hfr : ∃ m, Fr c.h₀ c.L h' m) (hnsl : ∃ m, h'.Ns c.env.locals m) (hcell : ∀ y a, c.env.cells.lookup y = some a → ∃ v, h'.IsCell a v) (hbd : ∃ o, h'.get? b = some o ∧ ∀ xs n, o.data ≠ .seq xs n)
    (hold : ∀ y u, y ≠ x → VarAt c.env h y u → VarAt c.env h' y u) : St c (σ.del x) h' ∧ Keep c.W [] h h' := by
  have kp : Keep c.W [] h h' := fun a o e hw _ => (hs.2 a fun q => hw (q ▸ hb)).trans e
  have kp' : Keep c.W σ.fp h h' := kp.sub fun _ hm => nomatch hm
  refine ⟨⟨X.cx, hfr, X.wnew, X.kind, X.globals, X.builtins, hnsl, hcell, X.inj, fun a ha => ?_, fun y dy hl => ?_, fun a ha => ?_, ?_⟩, kp⟩
  · by_cases q : a = b
    · subst q; exact hbd
    · obtain ⟨o, e, r⟩ := X.wdata a ha
      exact ⟨o, (hs.2 a q).trans e, r⟩
  · obtain ⟨q, hl'⟩ := lookup_del hl
    obtain ⟨u, bs, a, r, f, sr⟩ := (X.vars y dy hl').ex
    exact ⟨u, bs, hold y u q a, X.keep kp' r f, f, sr⟩
  · obtain ⟨o, xs, n, e, c1, c2⟩ := X.avs a ha
    exact ⟨o, xs, n, kp a o e (fun hw => X.noseq a hw o e _ _ c2) (fun hm => nomatch hm), c1, c2⟩
  · obtain ⟨ρ, own, av, pl⟩ := σ
    cases own with
    | none => trivial
    | some t =>
      obtain ⟨y, D, ds⟩ := t
      obtain ⟨a, ⟨bs, r, q1, q2⟩, qd, q3, q4, q6⟩ := X.own
      have hyx : (y == x) = false := hno
      have hyx' : y ≠ x := by simpa using hyx
      refine ⟨hold y _ hyx' a, ⟨bs, ?_, q1, q2⟩, (fun z => let ⟨o, e1, e2⟩ := qd z; ⟨o, kp D o e1 q4 (fun hm => nomatch hm), e2⟩), q3, q4, lookup_del_none q6⟩
      exact Rd.keep kp X.noseq (fun _ hm => nomatch hm) r (fun _ _ hm => nomatch hm)
theorem fr_same {h₀ h h' : Heap} {L b : Addr} {W : List Addr} (hw : ∀ a ∈ W, h₀.get? a = none) (hb : b ∈ W) (hs : Heap.SameBut b h h') (f : ∃ m, Fr h₀ L h m) (hL : L = b → ∃ m, h'.Ns b m) : ∃ m, Fr h₀ L h' m := by
  obtain ⟨m, F⟩ := f
  have keep : ∀ a o, h₀.get? a = some o → h'.get? a = some o := fun a o e => (hs.2 a fun q => by rw [q, hw b hb] at e; cases e).trans (F.keep a o e)
  by_cases q : L = b
  · obtain ⟨m', n⟩ := hL q
    exact ⟨m', q ▸ n, keep, F.above⟩
  · exact ⟨m, F.ns.sameBut hs q, keep, F.above⟩

/-- a store of any value: what stands without the name, and where the name is -/
theorem store_gen {s : Shared} {v : Value} {Q : Unit → Shared → Prop} (P : Place c x) (hno : σ.notOwn x) (X : St c σ s.heap)
    (h : ∀ s', St c (σ.del x) s'.heap → (∃ h' tk, s' = { s with heap := h', toks := tk } ∧ Keep c.W [] s.heap h') → VarAt c.env s'.heap x v → Q () s') : Wp c (storeName c.env x v) Q s := by
  cases P with
  | loc hl hw =>
    obtain ⟨m, n⟩ := X.nsl
    refine wpAny_storeName_local hl n (fun h' hn hs => ?_) (by rw [X.kind]; rfl)
    have hn' : h'.Ns c.env.locals (fun y => if y = x then some v else m y) := hn
    obtain ⟨st, kp⟩ := store_fin X hno hw hs (fr_same X.wnew hw hs X.fr fun _ => ⟨_, hn⟩) ⟨_, hn⟩ (fun y a e => by
        obtain ⟨u, q⟩ := X.nscell y a e
        exact ⟨u, q.sameBut hs (Ne.symm (ns_not_cell n q))⟩) (ns_data hn') (fun y u hy a => by
        cases a with
        | loc m' e1 e2 e3 => exact .loc _ e1 hn (by rw [ns_unique e2 n] at e3; simpa [hy] using e3)
        | cel a e1 e2 e3 => exact .cel a e1 e2 (e3.sameBut hs (Ne.symm (ns_not_cell n e3))))
    exact h { s with heap := h', toks := s.toks + 1 } st ⟨h', _, rfl, kp⟩ (.loc _ hl hn (by simp))
  | cel a hl hc hw =>
    obtain ⟨v₀, q⟩ := X.nscell x a hc
    refine wpAny_storeName_cell X.kind hl hc q fun h' hv hs => ?_
    obtain ⟨m, n⟩ := X.nsl
    obtain ⟨st, kp⟩ := store_fin X hno hw hs (fr_same X.wnew hw hs X.fr fun e => by
        obtain ⟨mL, F⟩ := X.fr
        exact absurd e (ns_not_cell F.ns q)) ⟨m, n.sameBut hs (ns_not_cell n q)⟩ (fun y b e => by
        by_cases hyb : b = a
        · subst hyb; exact ⟨_, hv⟩
        · obtain ⟨u, r⟩ := X.nscell y b e
          exact ⟨u, r.sameBut hs hyb⟩) (cell_data hv) (fun y u hy z => by
        cases z with
        | loc m' e1 e2 e3 => exact .loc m' e1 (e2.sameBut hs (ns_not_cell e2 q)) e3
        | cel b e1 e2 e3 => exact .cel b e1 e2 (e3.sameBut hs fun r => hy (X.inj y x a (r ▸ e2) hc)))
    exact h { s with heap := h' } st ⟨h', s.toks, rfl, kp⟩ (.cel a (.inl hl) hc hv)
theorem St.sub {h : Heap} (X : St c σ h) (ho : σ'.own = σ.own) (ha : σ'.av = σ.av) (hp : σ'.pl = σ.pl) (hs : ∀ y d, σ'.ρ.lookup y = some d → σ.ρ.lookup y = some d) : St c σ' h := by
  obtain ⟨ρ, own, av, pl⟩ := σ
  obtain ⟨ρ', own', av', pl'⟩ := σ'
  simp only at ho ha hp hs
  subst ho ha hp
  refine ⟨X.cx, X.fr, X.wnew, X.kind, X.globals, X.builtins, X.nsl, X.nscell, X.inj, X.wdata, fun y d e => X.vars y d (hs y d e), X.avs, ?_⟩
  cases own' with
  | none => trivial
  | some t =>
    obtain ⟨y, D, ds⟩ := t
    obtain ⟨q1, q2, q3, q4, q5, q6⟩ := X.own
    refine ⟨q1, q2, q3, q4, q5, ?_⟩
    cases q : ρ'.lookup y with
    | none => rfl
    | some d => rw [hs y d q] at q6; cases q6
theorem St.add {h : Heap} {v : Value} {as : List Addr} (X : St c (σ.del x) h) (hv : VarAt c.env h x v) (B : Bears c σ h v d as) (hno : σ.notOwn x) : St c (σ.set x d) h := by
  refine ⟨X.cx, X.fr, X.wnew, X.kind, X.globals, X.builtins, X.nsl, X.nscell, X.inj, X.wdata, fun y dy hl => ?_, X.avs, ?_⟩
  · by_cases q : y = x
    · subst q
      have hl' : some d = some dy := by
        have : ((y, d) :: σ.ρ).lookup y = some dy := hl
        rw [List.lookup_cons, beq_self_eq_true] at this
        exact this
      cases hl'
      exact ⟨v, as, hv, B.rd, B.off, B.src⟩
    · have hl' : σ.ρ.lookup y = some dy := by
        have : ((x, d) :: σ.ρ).lookup y = some dy := hl
        have q' : (y == x) = false := by simpa using q
        rw [List.lookup_cons, q'] at this
        exact this
      exact X.vars y dy (lookup_del_of q hl')
  · obtain ⟨ρ, own, av, pl⟩ := σ
    cases own with
    | none => trivial
    | some t =>
      obtain ⟨y, D, ds⟩ := t
      obtain ⟨q1, q2, q3, q4, q5, q6⟩ := X.own
      have hyx : (y == x) = false := hno
      refine ⟨q1, q2, q3, q4, q5, ?_⟩
      show ((x, d) :: ρ).lookup y = none
      rw [List.lookup_cons, hyx]
      cases q : ρ.lookup y with
      | none => rfl
      | some d => have q7 : (ρ.filter fun p => !(p.1 == x)).lookup y = none := q6; have := lookup_del_of (by simpa using hyx) q; rw [q7] at this; cases this
theorem store_ok {s : Shared} {v : Value} {as : List Addr} {Q : Unit → Shared → Prop} (P : Place c x) (hno : σ.notOwn x) (X : St c σ s.heap) (B : Bears c σ s.heap v d as)
    (h : ∀ s', St c (σ.set x d) s'.heap → Kp c σ s s' → Q () s') : Wp c (storeName c.env x v) Q s :=
  store_gen P hno X fun s' X' ⟨h', tk, e, k⟩ hv => by
    subst e
    have k' : Keep c.W σ.fp s.heap h' := k.sub fun _ hm => nomatch hm
    exact h _ (X'.add hv ⟨X.keep k' B.rd B.off, B.off, B.src⟩ hno) ⟨h', tk, rfl, k'⟩

/-- a new list gets its name, and is owned by it -/
theorem store_own {s : Shared} {D : Addr} {bs : List Addr} {ds : List PyData} {ρ : List (Str × PyData)} {Q : Unit → Shared → Prop} (P : Place c x) (X : St c σ s.heap) (ho : σ.own = none) (hD : D ∈ σ.av)
    (r : Rd s.heap (.ref D) (.list ds) (D :: bs)) (hb : ∀ a ∈ bs, a ∉ σ.av) (src : Src c bs) (hn : c.h₀.get? D = none) (hW : D ∉ c.W) (hd : ∃ o, s.heap.get? D = some o ∧ o.dict = none) (hρ : ∀ y d, ρ.lookup y = some d → y ≠ x ∧ σ.ρ.lookup y = some d)
    (h : ∀ s', St c ⟨ρ, some (x, D, ds), σ.av, true⟩ s'.heap → Kp c σ s s' → Q () s') : Wp c (storeName c.env x (.ref D)) Q s := by
  obtain ⟨ρ₀, own, av, pl⟩ := σ
  simp only at ho hD hρ hb
  subst ho
  refine store_gen (σ := ⟨ρ₀, none, av, pl⟩) P trivial X fun s' X' ⟨h', tk, e, k⟩ hv => ?_
  subst e
  refine h _ ⟨X'.cx, X'.fr, X'.wnew, X'.kind, X'.globals, X'.builtins, X'.nsl, X'.nscell, X'.inj, X'.wdata, fun y d e => ?_, X'.avs, ⟨hv, ⟨bs, Rd.keep k X.noseq (fun _ hm => nomatch hm) r (fun _ _ hm => nomatch hm), fun a ha hm => ?_, fun a ha => ?_⟩, fun _ => ?_, hn, hW, ?_⟩⟩ ⟨h', tk, rfl, k⟩
  · obtain ⟨q1, q2⟩ := hρ y d e
    obtain ⟨v, as, a1, a2, a3, a4⟩ := (X'.vars y d (lookup_del_of q1 q2)).ex
    refine ⟨v, as, a1, a2, fun a ha hm => a3 a ha ?_, a4⟩
    rcases List.mem_cons.mp hm with rfl | hm
    · exact hD
    · exact hm
  · rcases List.mem_cons.mp hm with rfl | hm
    · exact hb _ ha hD
    · exact hb _ ha hm
  · rcases List.mem_cons.mp ha with rfl | ha
    · exact .inl hn
    · exact src a ha
  · obtain ⟨o, e1, e2⟩ := hd
    exact ⟨o, k _ _ e1 hW (fun hm => nomatch hm), e2⟩
  · cases q : ρ.lookup x with
    | none => rfl
    | some d => exact absurd rfl (hρ x d q).1

/-! ## targets -/
structure As (c : Con) (σ : Sg) (t : Expr) (d : PyData) (σ' : Sg) : Prop where
  fst : σ'.fx = σ.fx
  snd : ∀ s v as (Q : Unit → Shared → Prop), St c σ s.heap → Bears c σ s.heap v d as → (∀ s', St c σ' s'.heap → Kp c σ s s' → Q () s') → Wp c (assign t c.env v) Q s
theorem as_name (P : Place c x) (hno : σ.notOwn x) : As c σ (.Name x p) d (σ.set x d) :=
  ⟨rfl, fun s v as Q X B h => wpAny_assign_Name (store_ok P hno X B h)⟩
/-- several targets, several values, in order -/
structure AsL (c : Con) (σ : Sg) (ts : List Expr) (ds : List PyData) (σ' : Sg) : Prop where
  fst : σ'.fx = σ.fx
  snd : ts.length = ds.length ∧ (assignEach ts c.env).length = ts.length ∧ (assignEach ts c.env).findIdx? (·.1) = none ∧
    ∀ s vs as (Q : Unit → Shared → Prop), St c σ s.heap → BearsAll c σ s.heap vs ds as → (∀ s', St c σ' s'.heap → Kp c σ s s' → Q () s') → Wp c (assignInOrder ((assignEach ts c.env).map (·.2)) vs) Q s
theorem asl_nil : AsL c σ [] [] σ := ⟨rfl, rfl, rfl, rfl, fun s vs as Q X B h => by
  cases B.rd
  exact wpAny_pure (h s X Kp.refl)⟩
theorem BearsAll.cons_inv {h : Heap} {v : Value} {vs : List Value} {ds : List PyData} {as : List Addr} (B : BearsAll c σ h (v :: vs) (d :: ds) as) : ∃ as₁ as₂, Bears c σ h v d as₁ ∧ BearsAll c σ h vs ds as₂ := by
  obtain ⟨rd, off, src⟩ := B
  cases rd with
  | cons r1 r2 => exact ⟨_, _, ⟨r1, fun a ha => off a (List.mem_append_left _ ha), fun a ha => src a (List.mem_append_left _ ha)⟩, ⟨r2, fun a ha => off a (List.mem_append_right _ ha), fun a ha => src a (List.mem_append_right _ ha)⟩⟩
theorem BearsAll.kp {s s' : Shared} {vs ds as} (b : BearsAll c σ s.heap vs ds as) (x : St c σ s.heap) (k : Kp c σ s s') (e : σ'.fx = σ.fx) : BearsAll c σ' s'.heap vs ds as := ⟨x.keepAll k.keep b.rd b.off, Sg.off_of e ▸ b.off, b.src⟩
theorem asl_cons {t : Expr} {ts : List Expr} {ds : List PyData} (h1 : As c σ t d σ₁) (h2 : AsL c σ₁ ts ds σ₂) (he : assignEach (t :: ts) c.env = (false, assign t c.env) :: assignEach ts c.env := by rfl) : AsL c σ (t :: ts) (d :: ds) σ₂ := by
  obtain ⟨f1, h1⟩ := h1
  obtain ⟨f2, l2, e2, i2, h2⟩ := h2
  refine ⟨f2.trans f1, by simp [l2], by rw [he]; simp [e2], by rw [he]; simp [List.findIdx?_cons, i2], fun s vs as Q X B h => ?_⟩
  rw [he]
  have hne : vs ≠ [] := by rintro rfl; have := B.rd.length; simp at this
  obtain ⟨v, vs, rfl⟩ := List.exists_cons_of_ne_nil hne
  obtain ⟨as₁, as₂, B1, B2⟩ := B.cons_inv
  show Wp c (do holding vs (assign t c.env v); assignInOrder ((assignEach ts c.env).map (·.2)) vs) Q s
  refine wpAny_bind (wpAny_holding (h1 s v as₁ _ X B1 fun s₁ X₁ K₁ => ?_))
  exact h2 s₁ vs as₂ _ X₁ (B2.kp X K₁ f1) fun s₂ X₂ K₂ => h s₂ X₂ (K₁.trans f1 K₂)
theorem as_tuple {ts : List Expr} {ds : List PyData} {u : Nat} (h1 : AsL c σ ts ds σ') : As c σ (.Tuple ts u p) (.tuple ds) σ' := by
  obtain ⟨f, l, e, i, h1⟩ := h1
  refine ⟨f, fun s v as Q X B h => ?_⟩
  obtain ⟨a, vs, rfl, ht, r⟩ := tuple_of B.rd
  refine wpAny_assign_Tuple X.cx.handled ht (by rw [e, l, List.size_toArray, r.length]) i fun h' hx => ?_
  have kp : ∀ b o, s.heap.get? b = some o → h'.get? b = some o := fun b o q => hx b o (Nat.ne_of_lt (Heap.lt_size q)) q
  exact h1 { s with heap := h' } vs as _ (X.grow kp) ⟨r.grow kp, B.off, B.src⟩ fun s₂ X₂ K₂ => h s₂ X₂ ((Kp.grow (tk := s.toks) kp).trans rfl K₂)
end
end
section
open PySem PySem.W PyProof.Rows PySem.Calls PySem.Spec
set_option maxRecDepth 100000
def Fn (w : World) (x : Str) (k : Nat) (ds : List PyData) (d : PyData) : Prop :=
  ∃ fa oc od fd sl, nsIn (KF w) mainGlobals x = some (some (.ref fa)) ∧ (KF w).lookup fa = some ⟨oc, od, .func fd, sl⟩ ∧ Op w k (fun vs => call (.ref fa) vs) ds d

/-- a new list -/
def OpF (w : World) (k : Nat) (t : List Value → Sem Value) (ds es : List PyData) : Prop :=
  ∀ A h₀ L s vs as (Q : Value → Shared → Prop), Cx w k A h₀ L → (∃ m, Fr h₀ L s.heap m) → RdAll s.heap vs ds as →
    (∀ D bs h' tk, (∀ b o, s.heap.get? b = some o → h'.get? b = some o) → s.heap.get? D = none → Rd h' (.ref D) (.list es) (D :: bs) → (∀ a ∈ bs, a ∈ as) → (∃ o, h'.get? D = some o ∧ o.dict = none) → Q (.ref D) { s with heap := h', toks := tk }) →
    wpAny (model prg w) A (t vs) Q (fun _ _ => False) s
theorem OpF.op {w k t ds es} (o : OpF w k t ds es) : Op w k t ds (.list es) := fun A h₀ L s vs as Q cx fr rd h =>
  o A h₀ L s vs as Q cx fr rd fun D bs h' tk g n r f _ => h (.ref D) (D :: bs) h' tk g r fun a ha => by
    rcases List.mem_cons.mp ha with rfl | ha
    · exact .inl n
    · exact .inr (f a ha)
theorem fresh_size (h : Heap) : h.get? h.objs.size = none := by
  cases q : h.get? h.objs.size with
  | none => rfl
  | some o => exact absurd (Heap.lt_size q) (Nat.lt_irrefl _)

section
variable {c : Con} {σ σ' σ₁ σ₂ σ₃ : Sg} {e e₁ e₂ : Expr} {d d₁ d₂ : PyData} {p pos : Pos} {k : Nat} {x : Str} {w : World}

theorem glob_of (X : St c σ h) : ∃ mg mb, h.Ns mainGlobals mg ∧ h.Ns builtinsNs mb ∧ (∀ x v, nsIn (KF c.w) mainGlobals x = some (some v) → mg x = some v) ∧ (∀ x, nsIn (KF c.w) mainGlobals x = some none → mg x = none) ∧
    (∀ x : Str, x ≠ "__name__" → mb x = bootBuiltins x) ∧ (KF c.w).In h := by
  obtain ⟨A₀, base, outer, env, mean, mg, mb, B, hA, hf, hk, K, T⟩ := X.cx.ex
  obtain ⟨m, F⟩ := X.fr
  exact ⟨mg, mb, T.g.keeps F.keep, T.b.keeps F.keep, fun x v e => mg_of K T.g e, fun x e => mg_none_of K T.g e, T.builtins, fun a o e => F.keep a o (K a o e)⟩

theorem name_fn {Q : Value → Shared → Prop} {s : Shared} {v : Value} (X : St c σ s.heap) (hk : c.env.kindOf x = some .globalImplicit) (hn : nsIn (KF c.w) mainGlobals x = some (some v)) (h : Q v s)
    (hd : (x == ("__debug__" : Str)) = false := by decide) : Wp c (eval (.Name x p) c.env) Q s := by
  obtain ⟨mg, mb, g, b, h1, h2, h3, K⟩ := glob_of X
  exact Name_function_global X.kind hk (loadGlobal_global (by rw [X.globals]; exact g) (h1 x v hn) h) hd
theorem name_bi {Q : Value → Shared → Prop} {s : Shared} {v : Value} (X : St c σ s.heap) (hk : c.env.kindOf x = some .globalImplicit) (hn : nsIn (KF c.w) mainGlobals x = some none) (hb : bootBuiltins x = some v) (h : Q v s)
    (hd : (x == ("__debug__" : Str)) = false := by decide) (hm : x ≠ ("__name__" : Str) := by decide) : Wp c (eval (.Name x p) c.env) Q s := by
  obtain ⟨mg, mb, g, b, h1, h2, h3, K⟩ := glob_of X
  exact Name_function_global X.kind hk (loadGlobal_builtin (by rw [X.globals]; exact g) (h2 x hn) (by rw [X.builtins]; exact b) ((h3 x hm).trans hb) h) hd

/-- a tuple of ints that stands at the top -/
theorem ev_const2 {a : Addr} {i j : Int} {t u : Tok} {n : Nat} {dd : Option Addr} {sl : Array (Option Value)} (hk : c.env.kindOf x = some .globalImplicit) (hn : nsIn (KF c.w) mainGlobals x = some (some (.ref a)))
    (ho : (KF c.w).lookup a = some ⟨.type "tuple", dd, .seq #[.int i t, .int j u] n, sl⟩) (hd : (x == ("__debug__" : Str)) = false := by decide) : Ev c σ (.Name x p) σ (.tuple [.int i, .int j]) := by
  refine ⟨rfl, fun s Q X h => name_fn X hk hn ?_ hd⟩
  obtain ⟨mg, mb, g, b, h1, h2, h3, K⟩ := glob_of X
  exact h _ [] s X Kp.refl (Bears.plain (.tuple (K _ _ ho) rfl rfl (.cons (.int _ _) (.cons (.int _ _) .nil))))

theorem starred_none {es : List Expr} (h : (starEach es c.env).all (fun q => !q.1) = true) : (backTo pos (starEach es c.env)).any (·.1) = false := by
  unfold backTo
  rw [List.any_map]
  rw [Bool.eq_false_iff]
  intro q
  obtain ⟨z, hz, e⟩ := List.any_eq_true.mp q
  have := List.all_eq_true.mp h z hz
  simp at e this
  rw [e] at this; cases this

theorem ev_call {e : Expr} {es : List Expr} {ds : List PyData} (hk : c.env.kindOf x = some .globalImplicit) (f : Fn c.w x k ds d) (hn : k ≤ c.n) (ha : EvL c σ (e :: es) σ' ds)
    (he : starEach (e :: es) c.env = (false, eval e c.env) :: starEach es c.env := by rfl) (hd : (x == ("__debug__" : Str)) = false := by decide) : Ev c σ (.Call (.Name x p) (e :: es) [] pos) σ' d := by
  obtain ⟨fa, oc, od, fd, sl, n1, n2, op⟩ := f
  refine ⟨ha.1, fun s Q X h => wpAny_Call_NameR (name_fn X hk n1 (callWith_function (o := ⟨oc, od, .func fd, sl⟩) (fd := fd) ?_) hd)⟩
  have q := ha.2 pos s (fun vs s' => (s'.heap.get? fa = some ⟨oc, od, .func fd, sl⟩ ∧ (⟨oc, od, .func fd, sl⟩ : Obj).data = .func fd) ∧ Wp c (call (.ref fa) vs []) Q s') X fun vs as s₁ x₁ k₁ b₁ => by
    obtain ⟨mg, mb, g, b, h1, h2, h3, K⟩ := glob_of x₁
    exact ⟨⟨K _ _ n2, rfl⟩, op_use op hn x₁ b₁ fun v bs s₂ x₂ k₂ b₂ => h v bs s₂ x₂ (k₁.trans ha.1 k₂) b₂⟩
  rw [he] at q ⊢
  exact evalArgs_plain q
theorem callWith_ty {T : String} {args : List (Bool × Sem Value)} {Q : Value → Shared → Prop} {s : Shared} (hplain : args.any (·.1) = false)
    (h : Wp c (evalArgs (.type T) true args []) (fun a s₁ => Wp c (call (.type T) a.pos a.kw) Q s₁) s) : Wp c (callWith pos (.type T) [] args []) Q s := callWith_excType hplain h
theorem ev_bi {id : String} {e : Expr} {es : List Expr} {ds : List PyData} (hk : c.env.kindOf x = some .globalImplicit) (hn : nsIn (KF c.w) mainGlobals x = some none) (hb : bootBuiltins x = some (.builtin id))
    (op : Op c.w k (fun vs => call (.builtin id) vs) ds d) (hc : k ≤ c.n) (ha : EvL c σ (e :: es) σ' ds)
    (he : starEach (e :: es) c.env = (false, eval e c.env) :: starEach es c.env := by rfl) (hst : (starEach (e :: es) c.env).all (fun q => !q.1) = true := by rfl) (hd : (x == ("__debug__" : Str)) = false := by decide) (hm : x ≠ ("__name__" : Str) := by decide) :
    Ev c σ (.Call (.Name x p) (e :: es) [] pos) σ' d := by
  refine ⟨ha.1, fun s Q X h => wpAny_Call_NameR (name_bi X hk hn hb (callWith_builtin (starred_none hst) ?_) hd hm)⟩
  have q := ha.2 pos s (fun vs s' => Wp c (call (.builtin id) vs []) Q s') X fun vs as s₁ x₁ k₁ b₁ => op_use op hc x₁ b₁ fun v bs s₂ x₂ k₂ b₂ => h v bs s₂ x₂ (k₁.trans ha.1 k₂) b₂
  rw [he] at q ⊢
  exact evalArgs_plain q
theorem ev_ty {T : String} {e : Expr} {es : List Expr} {ds : List PyData} (hk : c.env.kindOf x = some .globalImplicit) (hn : nsIn (KF c.w) mainGlobals x = some none) (hb : bootBuiltins x = some (.type T))
    (op : Op c.w k (fun vs => call (.type T) vs) ds d) (hc : k ≤ c.n) (ha : EvL c σ (e :: es) σ' ds)
    (he : starEach (e :: es) c.env = (false, eval e c.env) :: starEach es c.env := by rfl) (hst : (starEach (e :: es) c.env).all (fun q => !q.1) = true := by rfl) (hd : (x == ("__debug__" : Str)) = false := by decide) (hm : x ≠ ("__name__" : Str) := by decide) :
    Ev c σ (.Call (.Name x p) (e :: es) [] pos) σ' d := by
  refine ⟨ha.1, fun s Q X h => wpAny_Call_NameR (name_bi X hk hn hb (callWith_ty (starred_none hst) ?_) hd hm)⟩
  have q := ha.2 pos s (fun vs s' => Wp c (call (.type T) vs []) Q s') X fun vs as s₁ x₁ k₁ b₁ => op_use op hc x₁ b₁ fun v bs s₂ x₂ k₂ b₂ => h v bs s₂ x₂ (k₁.trans ha.1 k₂) b₂
  rw [he] at q ⊢
  exact evalArgs_plain q

/-! built-in operations -/
theorem one_inv {h : Heap} {vs : List Value} {d : PyData} {as : List Addr} (r : RdAll h vs [d] as) : ∃ v, vs = [v] ∧ Rd h v d as := by
  cases r with
  | cons r1 r2 => cases r2; exact ⟨_, rfl, by simpa using r1⟩
theorem two_inv {h : Heap} {vs : List Value} {d₁ d₂ : PyData} {as : List Addr} (r : RdAll h vs [d₁, d₂] as) : ∃ v u as₁ as₂, vs = [v, u] ∧ as = as₁ ++ as₂ ∧ Rd h v d₁ as₁ ∧ Rd h u d₂ as₂ := by
  cases r with
  | cons r1 r2 =>
    obtain ⟨u, rfl, r3⟩ := one_inv r2
    exact ⟨_, _, _, _, rfl, rfl, r1, r3⟩
theorem op_len {ds : List PyData} (hz : (ds.length : Int) < 2 ^ 63) : Op w 0 (fun vs => call (.builtin "len") vs) [.list ds] (.int ds.length) := by
  intro A h₀ L s vs as Q cx fr rd h
  obtain ⟨v, rfl, r⟩ := one_inv rd
  obtain ⟨a, vs, bs, rfl, rfl, hl, ra⟩ := list_of r
  refine len_list hl (by rw [List.size_toArray, ra.length]; exact hz) ?_
  rw [List.size_toArray, ra.length]
  exact h _ [] s.heap _ (fun _ _ e => e) (.int _ _) (fun _ ha => nomatch ha)
theorem op_abs {i : Int} : Op w 0 (fun vs => call (.builtin "abs") vs) [.int i] (.int i.natAbs) := by
  intro A h₀ L s vs as Q cx fr rd h
  obtain ⟨v, rfl, r⟩ := one_inv rd
  obtain ⟨t, rfl, rfl⟩ := int_of r
  refine call_abs_int fun u tk => ?_
  rw [show (if i < 0 then -i else i) = (i.natAbs : Int) by split <;> omega]
  exact h _ [] s.heap _ (fun _ _ e => e) (.int _ _) (fun _ ha => nomatch ha)
theorem op_max {i j : Int} : Op w 0 (fun vs => call (.builtin "max") vs) [.int i, .int j] (.int (max i j)) := by
  intro A h₀ L s vs as Q cx fr rd h
  obtain ⟨v, u, as₁, as₂, rfl, rfl, r₁, r₂⟩ := two_inv rd
  obtain ⟨t, rfl, rfl⟩ := int_of r₁
  obtain ⟨t', rfl, rfl⟩ := int_of r₂
  refine max_two_ints cx.handled fun h' tk g => ?_
  have e : (if j > i then Value.int j t' else Value.int i t) = .int (max i j) (if j > i then t' else t) := by
    split
    · rw [Int.max_eq_right (by omega)]
    · rw [Int.max_eq_left (by omega)]
  rw [e]
  exact h _ [] h' _ g (.int _ _) (fun _ ha => nomatch ha)
theorem op_min {i j : Int} : Op w 0 (fun vs => call (.builtin "min") vs) [.int i, .int j] (.int (min i j)) := by
  intro A h₀ L s vs as Q cx fr rd h
  obtain ⟨v, u, as₁, as₂, rfl, rfl, r₁, r₂⟩ := two_inv rd
  obtain ⟨t, rfl, rfl⟩ := int_of r₁
  obtain ⟨t', rfl, rfl⟩ := int_of r₂
  refine min_two_ints cx.handled fun h' tk g => ?_
  have e : (if j < i then Value.int j t' else Value.int i t) = .int (min i j) (if j < i then t' else t) := by
    split
    · rw [Int.min_eq_right (by omega)]
    · rw [Int.min_eq_left (by omega)]
  rw [e]
  exact h _ [] h' _ g (.int _ _) (fun _ ha => nomatch ha)
theorem op_listc {ds : List PyData} (hz : ds.length ≤ sizeLine) : OpF w 0 (fun vs => call (.type "list") vs) [.list ds] ds := by
  intro A h₀ L s vs as Q cx fr rd h
  obtain ⟨v, rfl, r⟩ := one_inv rd
  obtain ⟨a, vs, bs, rfl, rfl, ⟨o, h1, h2, n, h3⟩, ra⟩ := list_of r
  refine call_list_seq a (.inl rfl) h1 h2 h3 (fun h' c' g hn => ?_) (by rw [List.size_toArray, ra.length]; exact hz)
  exact h _ bs h' s.toks g (fresh_size _) (rd_list ⟨_, hn, rfl, _, rfl⟩ (ra.grow g)) (fun a ha => .tail _ ha) ⟨_, hn, rfl⟩
theorem op_reprb {b : Bool} : Op w 0 (fun vs => call (.builtin "repr") vs) [.bool b] (.str (if b then "True" else "False")) := by
  intro A h₀ L s vs as Q cx fr rd h
  obtain ⟨v, rfl, r⟩ := one_inv rd
  obtain ⟨rfl, rfl⟩ := bool_of r
  exact P.repr_of_bool (h _ [] s.heap _ (fun _ _ e => e) (.str _ _) (fun _ ha => nomatch ha))
theorem op_cat {ds es : List PyData} (hz : ds.length + es.length ≤ sizeLine) : OpF w 0 (fun vs => match vs with | [a, b] => binaryOp .Add a b | _ => .unsupported "") [.list ds, .list es] (ds ++ es) := by
  intro A h₀ L s vs as Q cx fr rd h
  obtain ⟨v, u, as₁, as₂, rfl, rfl, r₁, r₂⟩ := two_inv rd
  obtain ⟨a, vs, bs₁, rfl, rfl, ⟨⟨cls, dd, data, sl⟩, ho, hc, n, hd⟩, ra⟩ := list_of r₁
  obtain ⟨b, us, bs₂, rfl, rfl, ⟨⟨cls2, dd2, data2, sl2⟩, ho2, hc2, n2, hd2⟩, rb⟩ := list_of r₂
  simp only at hc hd hc2 hd2
  subst hc hd hc2 hd2
  refine concat_meets ⟨_, ho, rfl⟩ ⟨_, ho2, rfl⟩ noFill_list_add seq_list_add PySem.F.slot_list_add PySem.F.entry_list_add (PySem.F.args_list_add_2 _ _)
    (list_addW a b vs.toArray us.toArray n n2 dd dd2 sl sl2 (by simpa [ra.length, rb.length] using hz)) ⟨ho, ho2, ?_⟩
  refine h _ (bs₁ ++ bs₂) _ s.toks (fun _ _ e => Heap.get?_push_of_some _ e) (fresh_size _) (rd_list (vs := vs ++ us) ⟨_, Heap.get?_push_size _ rfl, rfl, _, by simp; rfl⟩ ((ra.append rb).grow fun _ _ e => Heap.get?_push_of_some _ e)) (fun a ha => ?_) ⟨_, Heap.get?_push_size _ rfl, rfl⟩
  rcases List.mem_append.mp ha with ha | ha
  · exact List.mem_append_left _ (.tail _ ha)
  · exact List.mem_append_right _ (.tail _ ha)
theorem op_rep {d : PyData} {n : Int} (hf : flat d = true) (hz : n.toNat ≤ 2 ^ 20) (hlo : -(2 ^ 63 : Int) ≤ n) : OpF w 0 (fun vs => match vs with | [a, b] => binaryOp .Mult a b | _ => .unsupported "") [.list [d], .int n] (List.replicate n.toNat d) := by
  intro A h₀ L s vs as Q cx fr rd h
  obtain ⟨v, u, as₁, as₂, rfl, rfl, r₁, r₂⟩ := two_inv rd
  obtain ⟨l, vs, bs₁, rfl, rfl, ⟨⟨cls, dd, data, sl⟩, ho, hc, k, hd⟩, ra⟩ := list_of r₁
  obtain ⟨t, rfl, rfl⟩ := int_of r₂
  simp only at hc hd
  subst hc hd
  obtain ⟨v, rfl, rv⟩ := one_inv ra
  have hbs : bs₁ = [] := rv.flat hf
  subst hbs
  refine wpAny_binaryOp_repeat_ref (T := "list") (U := "int") (by decide) ⟨_, ho, rfl⟩ (fun s' => typeIs_int s' n t) noFill_list_mul F.fills_int_mul F.slot_int_rmul repeat_list F.slot_int_index.lookup
    (call_meets F.slot_int_rmul (typeIs_int s n t) F.entry_int_rmul (F.args_int_rmul_2 _ _) (lm_int_rmul_list_any n t l [v].toArray k dd sl)
      ⟨ho, rfl, ⟨_, ho, rfl⟩, call_meets F.slot_list_mul ⟨_, ho, rfl⟩ F.entry_list_mul (F.args_list_mul_2 _ _)
        (lm_list_mul_any l [v].toArray k dd sl n t (by simp [Builtin.List.listFitsIndex]; omega) (by simp; omega) (by simp [Builtin.List.listTooLong, sizeLine]; omega))
        ⟨ho, ?_⟩⟩)
  rw [listMul_foldl_if]
  have e : (List.replicate n.toNat [v]).flatten = List.replicate n.toNat v := by
    induction n.toNat with
    | zero => rfl
    | succ m ih => rw [List.replicate_succ, List.flatten_cons, ih, List.replicate_succ]; rfl
  have e' : (List.replicate n.toNat #[v].toList).flatten.toArray = (List.replicate n.toNat v).toArray := congrArg List.toArray e
  rw [e']
  show Q (Value.ref s.heap.objs.size) _
  exact h _ [] _ s.toks (fun _ _ e => Heap.get?_push_of_some _ e) (fresh_size _) (rd_list (vs := List.replicate n.toNat v) ⟨_, Heap.get?_push_size _ rfl, rfl, 0, rfl⟩ (RdAll.replicate (rv.grow fun _ _ e => Heap.get?_push_of_some _ e) _)) (fun _ ha => nomatch ha) ⟨_, Heap.get?_push_size _ rfl, rfl⟩
theorem op_eq {d₁ d₂ : PyData} (h1 : PySem.SeqAt.shaped d₁ = true) (h2 : PySem.SeqAt.shaped d₂ = true) : Op w 0 (fun vs => match vs with | [a, b] => compareOp .Eq a b | _ => .unsupported "") [d₁, d₂] (.bool (PyData.eqv d₁ d₂)) := by
  intro A h₀ L s vs as Q cx fr rd h
  obtain ⟨v, u, as₁, as₂, rfl, rfl, r₁, r₂⟩ := two_inv rd
  exact eq_dataH r₁.reads r₂.reads h1 h2 (by have := cx.units; omega) (h _ [] s.heap s.toks (fun _ _ e => e) (.bool _) (fun _ ha => nomatch ha))
theorem op_ne {d₁ d₂ : PyData} (h1 : PySem.SeqAt.shaped d₁ = true) (h2 : PySem.SeqAt.shaped d₂ = true) : Op w 0 (fun vs => match vs with | [a, b] => compareOp .NotEq a b | _ => .unsupported "") [d₁, d₂] (.bool (!PyData.eqv d₁ d₂)) := by
  intro A h₀ L s vs as Q cx fr rd h
  obtain ⟨v, u, as₁, as₂, rfl, rfl, r₁, r₂⟩ := two_inv rd
  exact ne_dataH r₁.reads r₂.reads h1 h2 (by have := cx.units; omega) (h _ [] s.heap s.toks (fun _ _ e => e) (.bool _) (fun _ ha => nomatch ha))
end
end
section
open PySem PySem.W PyProof.Rows PySem.Calls PySem.Spec
set_option maxRecDepth 100000
def nth {α : Type} (ds : List α) (i : Int) : Option α := if 0 ≤ i then ds[i.toNat]? else if -(ds.length : Int) ≤ i then ds[(i + ds.length).toNat]? else none
def pickLo (v : Option Int) (n : Nat) : Nat := match v with
  | none => 0
  | some x => if x < 0 then n - (-x).toNat else min x.toNat n
def pickHi (v : Option Int) (n : Nat) : Nat := match v with
  | none => n
  | some y => if y < 0 then n - (-y).toNat else min y.toNat n
def pick {α : Type} (l : List α) (lo hi : Option Int) : List α := (l.drop (pickLo lo l.length)).take (pickHi hi l.length - pickLo lo l.length)

section
variable {c : Con} {σ σ' σ₁ σ₂ σ₃ : Sg} {e e₁ e₂ : Expr} {d d₁ d₂ : PyData} {p pos : Pos} {k : Nat} {x : Str} {w : World}

theorem ev_neg {i : Int} (h : Ev c σ e σ₁ (.int i)) : Ev c σ (.UnaryOp .USub e pos) σ₁ (.int (-i)) :=
  ⟨h.1, fun s Q X hq => UnaryOp_ (h.2 s _ X fun v as s₁ x₁ k₁ b₁ => by
    obtain ⟨t, rfl, rfl⟩ := int_of b₁.rd
    exact P.neg_int (hq _ [] { s₁ with toks := s₁.toks + 1 } x₁ (k₁.trans h.1 (Kp.grow (s := s₁) fun _ _ e => e)) (Bears.plain (.int _ _))))⟩
theorem ev_notb {b : Bool} (h : Ev c σ e σ₁ (.bool b)) : Ev c σ (.UnaryOp .Not e pos) σ₁ (.bool (!b)) :=
  ⟨h.1, fun s Q X hq => UnaryOp_ (h.2 s _ X fun v as s₁ x₁ k₁ b₁ => by
    obtain ⟨rfl, rfl⟩ := bool_of b₁.rd
    exact not_of (wpAny_truthy_bool (hq _ [] s₁ x₁ k₁ (Bears.plain (.bool _)))))⟩
theorem ev_and_f {rest : List Expr} (h : Ev c σ e₁ σ₁ (.bool false)) : Ev c σ (.BoolOp .And (e₁ :: e₂ :: rest) pos) σ₁ (.bool false) :=
  ⟨h.1, fun s Q X hq => BoolOp_and (h.2 s _ X fun v as s₁ x₁ k₁ b₁ => by
    obtain ⟨rfl, rfl⟩ := bool_of b₁.rd
    exact wpAny_truthy_bool (by simpa using hq _ [] s₁ x₁ k₁ (Bears.plain (.bool _))))⟩
theorem ev_and_t {rest : List Expr} (h : Ev c σ e₁ σ₁ (.bool true)) (h2 : Ev c σ₁ (.BoolOp .And (e₂ :: rest) pos) σ₂ d) : Ev c σ (.BoolOp .And (e₁ :: e₂ :: rest) pos) σ₂ d :=
  ⟨h2.1.trans h.1, fun s Q X hq => BoolOp_and (h.2 s _ X fun v as s₁ x₁ k₁ b₁ => by
    obtain ⟨rfl, rfl⟩ := bool_of b₁.rd
    refine wpAny_truthy_bool ?_
    simp only [if_true]
    exact h2.2 s₁ _ x₁ fun v as s₂ x₂ k₂ b₂ => hq v as s₂ x₂ (k₁.trans h.1 k₂) b₂)⟩
theorem ev_bool1 {op : BoolOp} (h : Ev c σ e σ₁ d) : Ev c σ (.BoolOp op [e] pos) σ₁ d := ⟨h.1, fun s Q X hq => BoolOp_one (h.2 s Q X hq)⟩

/-- an item read; the base may be a passing value -/
theorem subTail {value slice : Expr} {o i : Value} {T id : String} {ops : List Value} {Q : Value → Shared → Prop} {s : Shared} (hT : s.TypeIs o T)
    (hl : typeLookup (.type T) "__getitem__" = pure (some (.builtin id))) (h : Wp c (getItem o i) Q s) (hs : subscripted slice false o i = operate ops (getItem o i)) : Wp c (subscriptTail value slice o i) Q s := by
  unfold subscriptTail
  refine wpAny_bind ?_
  rw [getitemInPython_of_ne hT.not_modules]
  refine wpAny_bind (wpAny_specialOf hT hl ?_)
  have fin : Wp c (subscripted slice false o i) (fun r s₃ => Wp c (letTemporaryGo value o r >>= fun _ => pure r) Q s₃) s := by
    rw [hs]
    exact wpAny_operating (wpAny_mono h (fun r s₃ h₃ => wpAny_bind (wpAny_letTemporaryGo (wpAny_pure h₃))) fun _ _ x => x)
  first
    | exact wpAny_pure (wpAny_bind fin)
    | exact wpAny_bind (wpAny_pure (wpAny_bind fin))
    | exact wpAny_bind fin
def plainIdx (slice : Expr) : Bool := match slice with
  | .Slice .. => false
  | _ => true
theorem plain_sub {slice : Expr} {o i : Value} (h : plainIdx slice = true) : subscripted slice false o i = operate [o, i] (getItem o i) := by
  unfold subscripted
  split
  · cases h
  · rename_i q; cases q
  · rfl
theorem nth_item {h : Heap} {vs : List Value} {ds : List PyData} {as : List Addr} (r : RdAll h vs ds as) {i : Int} (e : nth ds i = some d) : ∃ v bs, nth vs i = some v ∧ Rd h v d bs ∧ ∀ a ∈ bs, a ∈ as := by
  unfold nth at e ⊢
  rw [r.length]
  split at e
  · rw [if_pos (by assumption)]; exact r.get _ _ e
  · rw [if_neg (by assumption)]
    split at e
    · rw [if_pos (by assumption)]; exact r.get _ _ e
    · cases e
theorem get_nth {l : Addr} {vs : List Value} {i : Int} {t : Tok} {v : Value} {Q : Value → Shared → Prop} {s : Shared} (hl : s.heap.IsList l vs.toArray) (e : nth vs i = some v) (h0 : -(2 ^ 63) ≤ i) (h1 : i < 2 ^ 63) (h : Q v s) : Wp c (getItem (.ref l) (.int i t)) Q s := by
  unfold nth at e
  split at e
  · exact wpAny_getItem_list hl (by assumption) h1 (by simpa using e) h
  · split at e
    · exact wpAny_getItem_list_neg hl (by omega) (by rw [List.size_toArray]; assumption) h0 (by simpa using e) h
    · cases e

theorem ev_item {ds : List PyData} {i : Int} (h1 : Ev c σ e₁ σ₁ (.list ds)) (h2 : Ev c σ₁ e₂ σ₂ (.int i)) (e : nth ds i = some d) (lo : -(2 ^ 63) ≤ i) (hi : i < 2 ^ 63) (hp : plainIdx e₂ = true := by rfl) : Ev c σ (.Subscript e₁ e₂ pos) σ₂ d := by
  refine ⟨h2.1.trans h1.1, fun s Q X h => Subscript_ (h1.2 s _ X fun v as s₁ x₁ k₁ b₁ => h2.2 s₁ _ x₁ fun u bs s₂ x₂ k₂ b₂ => ?_)⟩
  have b₁' := b₁.kp x₁ k₂ h2.1
  obtain ⟨l, vs, cs, rfl, rfl, hl, ra⟩ := list_of b₁'.rd
  obtain ⟨t, rfl, rfl⟩ := int_of b₂.rd
  obtain ⟨v, ds', en, rv, sub⟩ := nth_item ra e
  refine subTail hl.typeIs slot_list_getitem.lookup (get_nth hl en lo hi (h v ds' s₂ x₂ (k₁.trans h1.1 k₂) ⟨rv, fun a ha => b₁'.off a (.tail _ (sub a ha)), fun a ha => b₁'.src a (.tail _ (sub a ha))⟩)) (plain_sub hp)
theorem ev_itemt {ds : List PyData} {i : Int} {j : Nat} (h1 : Ev c σ e₁ σ₁ (.tuple ds)) (h2 : Ev c σ₁ e₂ σ₂ (.int i)) (hj : seqIndex? i ds.length = some j) (e : ds[j]? = some d) (lo : -(2 ^ 63) ≤ i := by decide) (hi : i < 2 ^ 63 := by decide) (hp : plainIdx e₂ = true := by rfl) :
    Ev c σ (.Subscript e₁ e₂ pos) σ₂ d := by
  refine ⟨h2.1.trans h1.1, fun s Q X h => Subscript_ (h1.2 s _ X fun v as s₁ x₁ k₁ b₁ => h2.2 s₁ _ x₁ fun u bs s₂ x₂ k₂ b₂ => ?_)⟩
  have b₁' := b₁.kp x₁ k₂ h2.1
  obtain ⟨l, vs, rfl, hl, ra⟩ := tuple_of b₁'.rd
  obtain ⟨t, rfl, rfl⟩ := int_of b₂.rd
  obtain ⟨v, ds', en, rv, sub⟩ := ra.get j d e
  refine subTail hl.typeIs slot_tuple_getitem.lookup (getItem_tuple hl lo hi (by rw [List.size_toArray, ra.length]; exact hj) (by simpa using en) (h v ds' s₂ x₂ (k₁.trans h1.1 k₂) ⟨rv, fun a ha => b₁'.off a (sub a ha), fun a ha => b₁'.src a (sub a ha)⟩)) (plain_sub hp)

/-- the owned list's address -/
theorem own_name {s : Shared} {D : Addr} {ds : List PyData} {Q : Value → Shared → Prop} (X : St c σ s.heap) (ho : σ.own = some (x, D, ds)) (h : Q (.ref D) s)
    (hd : (x == ("__debug__" : Str)) = false := by decide) (hn : (x == ("__classdict__" : Str)) = false := by decide) : Wp c (eval (.Name x p) c.env) Q s := by
  have q := X.own
  rw [ho] at q
  obtain ⟨a, _⟩ := q
  refine wpAny_Name ?_ hd
  cases a with
  | loc m e1 e2 e3 => exact wpAny_loadName_local X.kind e1 e2 e3 h
  | cel a e1 e2 e3 =>
    rcases e1 with e1 | e1
    · exact wpAny_loadName_cell X.kind e1 e2 e3 h
    · exact wpAny_loadName_free X.kind e1 e2 e3 h hn
theorem own_list {h : Heap} {D : Addr} {ds : List PyData} (X : St c σ h) (ho : σ.own = some (x, D, ds)) : ∃ vs bs, h.IsList D (List.toArray vs) ∧ RdAll h vs ds bs ∧ (∀ a ∈ bs, a ∉ σ.off) ∧ Src c bs := by
  have q := X.own
  rw [ho] at q
  obtain ⟨a, ⟨as, r, q1, q2⟩, q3⟩ := q
  obtain ⟨l, vs, bs, e1, e2, hl, ra⟩ := list_of r
  cases e1; cases e2
  refine ⟨vs, _, hl, ra, fun a ha hm => q1 a ha ?_, fun a ha => q2 a (.tail _ ha)⟩
  unfold Sg.off Sg.fp at hm
  rw [ho] at hm
  exact hm
theorem ev_itemo {D : Addr} {ds₀ ds : List PyData} {i : Int} (ho : σ.own = some (x, D, ds₀)) (h2 : Ev c σ e₂ σ₂ (.int i)) (ho2 : σ₂.own = some (x, D, ds)) (e : nth ds i = some d) (lo : -(2 ^ 63) ≤ i) (hi : i < 2 ^ 63) (hp : plainIdx e₂ = true := by rfl)
    (hd : (x == ("__debug__" : Str)) = false := by decide) (hn : (x == ("__classdict__" : Str)) = false := by decide) : Ev c σ (.Subscript (.Name x p) e₂ pos) σ₂ d := by
  refine ⟨h2.1, fun s Q X h => Subscript_ (own_name X ho (h2.2 s _ X fun u bs s₂ x₂ k₂ b₂ => ?_) hd hn)⟩
  obtain ⟨vs, cs, hl, ra, off, src⟩ := own_list x₂ ho2
  obtain ⟨t, rfl, rfl⟩ := int_of b₂.rd
  obtain ⟨v, ds', en, rv, sub⟩ := nth_item ra e
  exact subTail hl.typeIs slot_list_getitem.lookup (get_nth hl en lo hi (h v ds' s₂ x₂ k₂ ⟨rv, fun a ha => off a (sub a ha), fun a ha => src a (sub a ha)⟩)) (plain_sub hp)

/-! slices -/
theorem rd_pick {h : Heap} {vs : List Value} {ds : List PyData} {as : List Addr} (r : RdAll h vs ds as) (lo hi : Option Int) : ∃ bs, RdAll h (kms_pick vs lo hi) (pick ds lo hi) bs ∧ ∀ a ∈ bs, a ∈ as := by
  have e1 : kms_lo lo vs.length = pickLo lo ds.length := by rw [r.length]; rfl
  have e2 : kms_hi hi vs.length = pickHi hi ds.length := by rw [r.length]; rfl
  unfold kms_pick pick
  rw [e1, e2]
  obtain ⟨bs, r1, s1⟩ := r.drop (pickLo lo ds.length)
  obtain ⟨cs, r2, s2⟩ := r1.take (pickHi hi ds.length - pickLo lo ds.length)
  exact ⟨cs, r2, fun a ha => s1 a (s2 a ha)⟩
/-- a part of a slice -/
def Part (c : Con) (σ : Sg) (o : Option Expr) (σ' : Sg) (i : Option Int) : Prop := match o with
  | none => σ' = σ ∧ i = none
  | some e => ∃ j, i = some j ∧ Ev c σ e σ' (.int j)
theorem part_run {o : Option Expr} {i : Option Int} (h : Part c σ o σ' i) : σ'.fx = σ.fx ∧ ∀ s (Q : Value → Shared → Prop), St c σ s.heap → (∀ v s', St c σ' s'.heap → Kp c σ s s' → IsPart v i → Q v s') → Wp c (evalPart o c.env) Q s := by
  cases o with
  | none =>
    obtain ⟨rfl, rfl⟩ := h
    exact ⟨rfl, fun s Q X hq => wpAny_pure (hq _ s X Kp.refl .none)⟩
  | some e =>
    obtain ⟨j, rfl, h⟩ := h
    refine ⟨h.1, fun s Q X hq => ?_⟩
    rw [evalPart_some]
    exact h.2 s Q X fun v as s' X' K B => by
      obtain ⟨t, rfl, rfl⟩ := int_of B.rd
      exact hq _ s' X' K (.int _ _)
/-- fresh lists -/
structure EvF (c : Con) (σ : Sg) (e : Expr) (σ' : Sg) (ds : List PyData) : Prop where
  fst : σ'.fx = σ.fx
  snd : ∀ s (Q : Value → Shared → Prop), St c σ s.heap → (∀ D bs s₁ h' tk, St c σ' s₁.heap → Kp c σ s s₁ → (∀ b o, s₁.heap.get? b = some o → h'.get? b = some o) → s₁.heap.get? D = none →
    Rd h' (.ref D) (.list ds) (D :: bs) → (∀ a ∈ bs, (∃ o, s₁.heap.get? a = some o) ∧ a ∉ σ'.off) → Src c bs → (∃ o, h'.get? D = some o ∧ o.dict = none) → Q (.ref D) { s₁ with heap := h', toks := tk }) → Wp c (eval e c.env) Q s
theorem EvF.ev {ds : List PyData} (h : EvF c σ e σ' ds) : Ev c σ e σ' (.list ds) :=
  ⟨h.1, fun s Q X hq => h.2 s Q X fun D bs s₁ h' tk X₁ K₁ g n r f sr _ => hq _ (D :: bs) { s₁ with heap := h', toks := tk } (X₁.grow g) (K₁.trans h.1 (Kp.grow g)) ⟨r, fun a ha => by
    rcases List.mem_cons.mp ha with rfl | ha
    · exact X₁.offp n
    · exact (f a ha).2, fun a ha => by
    rcases List.mem_cons.mp ha with rfl | ha
    · exact .inl (X₁.new n)
    · exact sr a ha⟩⟩
theorem opf_use {t : List Value → Sem Value} {ds es : List PyData} (o : OpF c.w k t ds es) (hk : k ≤ c.n) {s : Shared} {vs as} {Q : Value → Shared → Prop} (x : St c σ s.heap) (b : BearsAll c σ s.heap vs ds as)
    (h : ∀ D bs h' tk, (∀ b o, s.heap.get? b = some o → h'.get? b = some o) → s.heap.get? D = none → Rd h' (.ref D) (.list es) (D :: bs) → (∀ a ∈ bs, (∃ o, s.heap.get? a = some o) ∧ a ∉ σ.off) → Src c bs → (∃ o, h'.get? D = some o ∧ o.dict = none) → Q (.ref D) { s with heap := h', toks := tk }) : Wp c (t vs) Q s :=
  o c.A c.h₀ c.L s vs as Q (x.cx.le hk) x.fr b.rd fun D bs h' tk g n r f dn => h D bs h' tk g n r (fun a ha => ⟨b.rd.there a (f a ha), b.off a (f a ha)⟩) (fun a ha => b.src a (f a ha)) dn
theorem evf_slice {ds : List PyData} {lo hi : Option Expr} {i j : Option Int} {pp : Pos} (h1 : Ev c σ e σ₁ (.list ds)) (hl : Part c σ₁ lo σ₂ i) (hh : Part c σ₂ hi σ₃ j) (hz : ds.length ≤ sizeLine) : EvF c σ (.Subscript e (.Slice lo hi none pp) pos) σ₃ (pick ds i j) := by
  obtain ⟨f2, h2⟩ := part_run hl
  obtain ⟨f3, h3⟩ := part_run hh
  refine ⟨(f3.trans f2).trans h1.1, fun s Q X h => Subscript_ (h1.2 s _ X fun v as s₁ x₁ k₁ b₁ => wpAny_Slice (h2 s₁ _ x₁ fun vl s₂ x₂ k₂ pl => h3 s₂ _ x₂ fun vu s₃ x₃ k₃ pu => wpAny_pure ?_))⟩
  have kk := k₂.trans f2 k₃
  have b₃ := b₁.kp x₁ kk (f3.trans f2)
  obtain ⟨l, vs, cs, rfl, rfl, hls, ra⟩ := list_of b₃.rd
  have hp : (s₃.heap.push { cls := .type "slice", data := .fields #[vl, vu, .none] }).IsList l vs.toArray := hls.push _
  refine subTail (s := { s₃ with heap := s₃.heap.push { cls := .type "slice", data := .fields #[vl, vu, .none] } }) (Heap.IsList.typeIs (s := { s₃ with heap := s₃.heap.push { cls := .type "slice", data := .fields #[vl, vu, .none] } }) hp) slot_list_getitem.lookup
    (ops := [.ref s₃.heap.objs.size, .ref l]) (wpAny_getItem_list_slice hp (Heap.IsSliceOf.new ..) pl pu .none (by simp) ?_ (by rw [List.size_toArray, ra.length]; exact hz)) rfl
  rw [kms_pick_eq]
  obtain ⟨bs, rb, sub⟩ := rd_pick ra i j
  have g1 : ∀ b o, s₃.heap.get? b = some o → (s₃.heap.push { cls := .type "slice", data := .fields #[vl, vu, .none] }).get? b = some o := fun _ _ e => Heap.get?_push_of_some _ e
  have x4 : St c σ₃ (s₃.heap.push { cls := .type "slice", data := .fields #[vl, vu, .none] }) := x₃.grow g1
  refine h _ bs { s₃ with heap := s₃.heap.push { cls := .type "slice", data := .fields #[vl, vu, .none] } } _ s₃.toks x4 ((k₁.trans h1.1 kk).trans ((f3.trans f2).trans h1.1) (Kp.grow (s := s₃) (tk := s₃.toks) g1)) (fun _ _ e => Heap.get?_push_of_some _ e) (fresh_size _)
    (rd_list ⟨_, Heap.get?_push_size _ rfl, rfl, 0, rfl⟩ ((rb.grow g1).grow fun _ _ e => Heap.get?_push_of_some _ e)) (fun a ha => ?_) (fun a ha => b₃.src a (.tail _ (sub a ha))) ⟨_, Heap.get?_push_size _ rfl, rfl⟩
  obtain ⟨o, eo⟩ := ra.there a (sub a ha)
  exact ⟨⟨o, g1 _ _ eo⟩, b₃.off a (.tail _ (sub a ha))⟩
theorem evf_list {es : List Expr} {ds : List PyData} (h : EvL c σ es σ' ds) (hz : ds.length ≤ sizeLine) : EvF c σ (.List es pos) σ' ds :=
  ⟨h.1, fun s Q X hq => List_ (h.2 pos s _ X fun vs as s₁ x₁ k₁ b₁ => wpAny_newObj_type (hq _ as s₁ _ s₁.toks x₁ k₁ (fun _ _ e => Heap.get?_push_of_some _ e) (fresh_size _)
    (rd_list ⟨_, Heap.get?_push_size _ rfl, rfl, _, rfl⟩ (b₁.rd.grow fun _ _ e => Heap.get?_push_of_some _ e)) (fun a ha => ⟨b₁.rd.there a ha, b₁.off a ha⟩) b₁.src ⟨_, Heap.get?_push_size _ rfl, rfl⟩) (by show vs.toArray.size ≤ sizeLine; rw [List.size_toArray, b₁.rd.length]; exact hz))⟩
theorem evf_binop {op : Operator} {ds : List PyData} (h1 : Ev c σ e₁ σ₁ d₁) (h2 : Ev c σ₁ e₂ σ₂ d₂) (o : OpF c.w k (fun vs => match vs with | [a, b] => binaryOp op a b | _ => .unsupported "") [d₁, d₂] ds) (hk : k ≤ c.n) : EvF c σ (.BinOp e₁ op e₂ pos) σ₂ ds := by
  refine ⟨h2.1.trans h1.1, fun s Q X h => wpAny_BinOp (h1.2 s _ X fun v as s₁ x₁ k₁ b₁ => h2.2 s₁ _ x₁ fun u bs s₂ x₂ k₂ b₂ => ?_)⟩
  have b₁' := b₁.kp x₁ k₂ h2.1
  refine opf_use (vs := [v, u]) o hk x₂ (as := as ++ (bs ++ [])) ⟨.cons b₁'.rd (.cons b₂.rd .nil), fun a ha => ?_, fun a ha => ?_⟩ fun D cs h' tk g n r f sr dn => h D cs s₂ h' tk x₂ (k₁.trans h1.1 k₂) g n r f sr dn
  · rw [List.append_nil] at ha; exact (List.mem_append.mp ha).elim (b₁'.off a) (b₂.off a)
  · rw [List.append_nil] at ha; exact (List.mem_append.mp ha).elim (b₁'.src a) (b₂.src a)
theorem evf_cat {ds es : List PyData} (h1 : Ev c σ e₁ σ₁ (.list ds)) (h2 : Ev c σ₁ e₂ σ₂ (.list es)) (hz : ds.length + es.length ≤ sizeLine) : EvF c σ (.BinOp e₁ .Add e₂ pos) σ₂ (ds ++ es) := evf_binop h1 h2 (op_cat hz) (Nat.zero_le _)
theorem evf_rep {n : Int} (h1 : Ev c σ e₁ σ₁ (.list [d])) (h2 : Ev c σ₁ e₂ σ₂ (.int n)) (hf : flat d = true) (hz : n.toNat ≤ 2 ^ 20) (lo : -(2 ^ 63 : Int) ≤ n) : EvF c σ (.BinOp e₁ .Mult e₂ pos) σ₂ (List.replicate n.toNat d) := evf_binop h1 h2 (op_rep hf hz lo) (Nat.zero_le _)
theorem evf_listc {ds : List PyData} {u : Pos} (hk : c.env.kindOf "list" = some .globalImplicit) (hn : nsIn (KF c.w) mainGlobals "list" = some none) (ha : Ev c σ e σ' (.list ds)) (hz : ds.length ≤ sizeLine)
    (he : starEach [e] c.env = [(false, eval e c.env)] := by rfl) : EvF c σ (.Call (.Name "list" p) [e] [] pos) σ' ds := by
  refine ⟨ha.1, fun s Q X h => wpAny_Call_NameR (name_bi X hk hn (by decide +kernel : bootBuiltins "list" = some (.type "list")) (callWith_ty (starred_none (by rw [he]; rfl)) ?_))⟩
  have hl := evl_cons ha evl_nil he
  have q := hl.2 pos s (fun vs s' => Wp c (call (.type "list") vs []) Q s') X fun vs as s₁ x₁ k₁ b₁ => opf_use (op_listc hz) (Nat.zero_le _) x₁ b₁ fun D bs h' tk g n r f sr dn => h D bs s₁ h' tk x₁ k₁ g n r f sr dn
  rw [he] at q ⊢
  exact evalArgs_plain q
end
end
section
open PySem PySem.W PyProof.Rows PySem.Calls PySem.Spec
set_option maxRecDepth 100000
inductive Out
  | next (σ : Sg)
  | ret (d : PyData)
def Fin (c : Con) (o : Out) (f : Flow) (s' : Shared) : Prop := match o with
  | .next σ' => f = .next ∧ St c σ' s'.heap
  | .ret d => ∃ v as, f = .ret v ∧ (∃ m, Fr c.h₀ c.L s'.heap m) ∧ Rd s'.heap v d as ∧ Src c as
def Within (σ : Sg) (o : Out) : Prop := match o with
  | .next σ' => ∀ a ∈ σ'.fp, a ∈ σ.fp
  | .ret _ => True
structure Sx (c : Con) (σ : Sg) (st : Stmt) (o : Out) : Prop where
  fst : Within σ o
  snd : ∀ s (Q : Flow → Shared → Prop), St c σ s.heap → (∀ f s', Kp c σ s s' → Fin c o f s' → Q f s') → Wp c (exec st c.env) Q s
structure Ex (c : Con) (σ : Sg) (ss : List Stmt) (o : Out) : Prop where
  fst : Within σ o
  snd : ∀ s (Q : Flow → Shared → Prop), St c σ s.heap → (∀ f s', Kp c σ s s' → Fin c o f s' → Q f s') → Wp c (execs ss c.env) Q s

section
variable {c : Con} {σ σ' σ₁ σ₂ σ₃ : Sg} {e e₁ e₂ : Expr} {d d₁ d₂ d₃ : PyData} {p pos : Pos} {k : Nat} {x y z : Str} {w : World} {o : Out} {st : Stmt} {ss rest : List Stmt}

theorem Kp.sub {s s' s'' : Shared} (f : ∀ a ∈ σ'.fp, a ∈ σ.fp) (a : Kp c σ s s') (b : Kp c σ' s' s'') : Kp c σ s s'' := by
  obtain ⟨h', tk, rfl, k⟩ := a
  obtain ⟨h'', tk', rfl, k'⟩ := b
  exact ⟨h'', tk', rfl, k.trans (k'.sub f)⟩
theorem fp_fx {σ σ' : Sg} (e : σ'.fx = σ.fx) : ∀ a ∈ σ'.fp, a ∈ σ.fp := fun a ha => Sg.fp_of e ▸ ha

theorem ex_nil : Ex c σ [] (.next σ) := ⟨fun _ h => h, fun s Q X h => wpAny_execs_nil (h _ s Kp.refl ⟨rfl, X⟩)⟩
theorem ex_cons (h1 : Sx c σ st (.next σ₁)) (h2 : Ex c σ₁ rest o) : Ex c σ (st :: rest) o := by
  refine ⟨?_, fun s Q X h => wpAny_execs_cons (h1.2 s _ X fun f s₁ k₁ ⟨e, X₁⟩ => ?_)⟩
  · cases o with
    | next σ₂ => exact fun a ha => h1.1 a (h2.1 a ha)
    | ret d => trivial
  · subst e
    exact h2.2 s₁ Q X₁ fun f s₂ k₂ q => h f s₂ (k₁.sub h1.1 k₂) q
theorem ex_ret (h1 : Sx c σ st (.ret d)) : Ex c σ (st :: rest) (.ret d) := by
  refine ⟨trivial, fun s Q X h => wpAny_execs_cons (h1.2 s _ X fun f s₁ k₁ q => ?_)⟩
  obtain ⟨v, as, rfl, q1, q2, q3⟩ := q
  exact h _ s₁ k₁ ⟨v, as, rfl, q1, q2, q3⟩
theorem ex_sub (h : Ex c σ' ss o) (ho : σ'.own = σ.own) (ha : σ'.av = σ.av) (hp : σ'.pl = σ.pl) (hs : ∀ y d, σ'.ρ.lookup y = some d → σ.ρ.lookup y = some d) : Ex c σ ss o := by
  have e : σ'.fp = σ.fp := by unfold Sg.fp; rw [ho]
  refine ⟨?_, fun s Q X hq => h.2 s Q (X.sub ho ha hp hs) fun f s' ⟨h', tk, e', k⟩ q => hq f s' ⟨h', tk, e', e ▸ k⟩ q⟩
  cases o with
  | next σ₂ => exact fun a ha => e ▸ h.1 a ha
  | ret d => trivial
theorem sx_return (h : Ev c σ e σ₁ d) : Sx c σ (.Return (some e) pos) (.ret d) :=
  ⟨trivial, fun s Q X hq => wpAny_Return_some (h.2 s _ X fun v as s₁ x₁ k₁ b₁ => hq _ s₁ k₁ ⟨v, as, rfl, x₁.fr, b₁.rd, b₁.src⟩)⟩
theorem sx_assign (h : Ev c σ e σ₁ d) (P : Place c x) (hno : σ₁.notOwn x) (hs : swapsWith e (some (.Name x p)) pos.line c.env = pure false := by rfl) : Sx c σ (.Assign [.Name x p] e pos) (.next (σ₁.set x d)) :=
  ⟨fp_fx h.1, fun s Q X hq => wpAny_Assign_Name (h.2 s _ X fun v as s₁ x₁ k₁ b₁ => store_ok P hno x₁ b₁ fun s₂ x₂ k₂ => hq _ s₂ (k₁.trans h.1 k₂) ⟨rfl, x₂⟩) hs⟩
theorem sx_if {t : Expr} {b : Bool} {body orelse : List Stmt} (h : Ts c σ t σ₁ b) (h1 : b = true → Ex c σ₁ body o) (h2 : b = false → Ex c σ₁ orelse o) : Sx c σ (.If t body orelse pos) o := by
  refine ⟨?_, fun s Q X hq => wpAny_If (h.2 s _ X fun s₁ x₁ k₁ => ?_)⟩
  · cases b with
    | true => cases o with
      | next σ₂ => exact fun a ha => fp_fx h.1 a ((h1 rfl).1 a ha)
      | ret d => trivial
    | false => cases o with
      | next σ₂ => exact fun a ha => fp_fx h.1 a ((h2 rfl).1 a ha)
      | ret d => trivial
  · cases b with
    | true => exact (h1 rfl).2 s₁ Q x₁ fun f s₂ k₂ q => hq f s₂ (k₁.trans h.1 k₂) q
    | false => exact (h2 rfl).2 s₁ Q x₁ fun f s₂ k₂ q => hq f s₂ (k₁.trans h.1 k₂) q
theorem sx_if_t {t : Expr} {body orelse : List Stmt} (h : Ts c σ t σ₁ true) (h1 : Ex c σ₁ body o) : Sx c σ (.If t body orelse pos) o := sx_if h (fun _ => h1) (fun e => nomatch e)
theorem sx_if_f {t : Expr} {body orelse : List Stmt} (h : Ts c σ t σ₁ false) (h1 : Ex c σ₁ orelse o) : Sx c σ (.If t body orelse pos) o := sx_if h (fun e => nomatch e) (fun _ => h1)

theorem sx_assign_t {ts : List Expr} {u : Nat} {tp : Pos} (h : Ev c σ e σ₁ d) (ha : As c σ₁ (.Tuple ts u tp) d σ₂) (hs : swapsWithSole [.Tuple ts u tp] e pos.line c.env = pure false := by rfl)
    (hw : swappedStores [.Tuple ts u tp] e c.env = pure none := by rfl) : Sx c σ (.Assign [.Tuple ts u tp] e pos) (.next σ₂) :=
  ⟨fun a q => fp_fx h.1 a (fp_fx ha.1 a q), fun s Q X hq => Assign_Tuple (h.2 s _ X fun v as s₁ x₁ k₁ b₁ => ha.2 s₁ v as _ x₁ b₁ fun s₂ x₂ k₂ => hq _ s₂ (k₁.trans h.1 k₂) ⟨rfl, x₂⟩) hs hw⟩
theorem unpack_t {ds : List PyData} {v : Value} {as : List Addr} {n : Nat} {s : Shared} {Q : List Value → Shared → Prop} (X : St c σ s.heap) (B : Bears c σ s.heap v (.tuple ds) as) (hn : n = ds.length)
    (h : ∀ vs s', St c σ s'.heap → Kp c σ s s' → BearsAll c σ s'.heap vs ds as → Q vs s') : Wp c (unpackItems v n none) Q s := by
  obtain ⟨t, vs, rfl, ht, ra⟩ := tuple_of B.rd
  have e : n = vs.toArray.size := by rw [List.size_toArray, ra.length, hn]
  subst e
  refine wpAny_unpackItems_tuple X.cx.handled ht fun h' hx => ?_
  have g : ∀ b o, s.heap.get? b = some o → h'.get? b = some o := fun b o q => hx b o (Nat.ne_of_lt (Heap.lt_size q)) q
  exact h vs { s with heap := h' } (X.grow g) (Kp.grow (tk := s.toks) g) ⟨ra.grow g, B.off, B.src⟩
theorem sx_swap2 {ts : List Expr} {u : Nat} {tp : Pos} (h : Ev c σ e σ₁ (.tuple [d₁, d₂])) (Px : Place c x) (Py : Place c y) (nx : σ₁.notOwn x) (ny : σ₁.notOwn y) (hs : swapsWithSole [.Tuple ts u tp] e pos.line c.env = pure false := by rfl)
    (hw : swappedStores [.Tuple ts u tp] e c.env = pure (some [x, y]) := by rfl) : Sx c σ (.Assign [.Tuple ts u tp] e pos) (.next ((σ₁.set y d₂).set x d₁)) := by
  refine ⟨fp_fx h.1, fun s Q X hq => Assign_Tuple_swapped (h.2 s _ X fun v as s₁ x₁ k₁ b₁ => unpack_t x₁ b₁ rfl fun vs s₂ x₂ k₂ b₂ => ?_) hs hw⟩
  obtain ⟨v1, v2, as₁, as₂, rfl, rfl, r1, r2⟩ := two_inv b₂.rd
  have B1 : Bears c σ₁ s₂.heap v1 d₁ as₁ := ⟨r1, fun a ha => b₂.off a (List.mem_append_left _ ha), fun a ha => b₂.src a (List.mem_append_left _ ha)⟩
  have B2 : Bears c σ₁ s₂.heap v2 d₂ as₂ := ⟨r2, fun a ha => b₂.off a (List.mem_append_right _ ha), fun a ha => b₂.src a (List.mem_append_right _ ha)⟩
  show Wp c (do holding [v1] (bindName c.env y v2); assignInOrder [bindName c.env x] [v1]) _ s₂
  refine wpAny_bind (wpAny_holding (wpAny_bindName (store_ok Py ny x₂ B2 fun s₃ x₃ k₃ => ?_)))
  show Wp c (do holding [] (bindName c.env x v1); pure ()) _ s₃
  refine wpAny_bind (wpAny_holding (wpAny_bindName (store_ok (σ := σ₁.set y d₂) Px nx x₃ (B1.kp x₂ k₃ rfl) fun s₄ x₄ k₄ => ?_)))
  exact wpAny_pure (hq _ s₄ (k₁.trans h.1 ((k₂.trans rfl k₃).trans rfl k₄)) ⟨rfl, x₄⟩)
theorem three_inv {h : Heap} {vs : List Value} {d₁ d₂ d₃ : PyData} {as : List Addr} (r : RdAll h vs [d₁, d₂, d₃] as) : ∃ v u t as₁ as₂ as₃, vs = [v, u, t] ∧ as = as₁ ++ (as₂ ++ as₃) ∧ Rd h v d₁ as₁ ∧ Rd h u d₂ as₂ ∧ Rd h t d₃ as₃ := by
  cases r with
  | cons r1 r2 =>
    obtain ⟨u, t, as₂, as₃, rfl, rfl, r3, r4⟩ := two_inv r2
    exact ⟨_, _, _, _, _, _, rfl, rfl, r1, r3, r4⟩

/-! ## the owned list -/
/-- a new list joins the lists to be avoided -/
theorem St.avoid {h h' : Heap} {D : Addr} {vs : List Value} (X : St c σ h) (g : ∀ b o, h.get? b = some o → h'.get? b = some o) (hD : h.get? D = none) (hl : h'.IsList D (List.toArray vs)) (ho : σ.own = none) : St c ⟨σ.ρ, none, D :: σ.av, σ.pl⟩ h' := by
  have Y := X.grow g
  obtain ⟨ρ, own, av, pl⟩ := σ
  simp only at ho
  subst ho
  refine ⟨Y.cx, Y.fr, Y.wnew, Y.kind, Y.globals, Y.builtins, Y.nsl, Y.nscell, Y.inj, Y.wdata, fun y d e => ?_, fun b hb => ?_, trivial⟩
  · obtain ⟨v, as, a1, a2, a3, a4⟩ := (X.vars y d e).ex
    refine ⟨v, as, a1.grow g, a2.grow g, fun a ha hm => ?_, a4⟩
    rcases List.mem_cons.mp hm with rfl | hm
    · obtain ⟨o, q⟩ := a2.there a ha
      rw [hD] at q; cases q
    · exact a3 a ha hm
  · rcases List.mem_cons.mp hb with rfl | hb
    · obtain ⟨o, h1, h2, n, h3⟩ := hl
      exact ⟨o, _, n, h1, h2, h3⟩
    · exact Y.avs b hb
theorem St.wnot {h : Heap} {D : Addr} (X : St c σ h) (hD : h.get? D = none) : D ∉ c.W := fun hm => by
  obtain ⟨o, e, _⟩ := X.wdata D hm
  rw [hD] at e; cases e

theorem ex_own {ds : List PyData} {ρ : List (Str × PyData)} (h : EvF c σ e σ₁ ds) (P : Place c x) (ho : σ.own = none) (ho1 : σ₁.own = none) (hρ : ∀ y d, ρ.lookup y = some d → y ≠ x ∧ σ₁.ρ.lookup y = some d) (hw : ∀ D, Within ⟨σ.ρ, some (x, D, ds), σ.av, true⟩ o → Within σ o)
    (hr : ∀ D, Ex c ⟨ρ, some (x, D, ds), D :: σ₁.av, true⟩ rest o) (hs : swapsWith e (some (.Name x p)) pos.line c.env = pure false := by rfl) : Ex c σ (.Assign [.Name x p] e pos :: rest) o := by
  have hW : Within σ o := hw 0 (by
    have q := (hr 0).1
    cases o with
    | next σ₂ => exact q
    | ret d => trivial)
  refine ⟨hW, fun s Q X hq => wpAny_execs_cons (wpAny_Assign_Name (h.2 s _ X fun D bs s₁ h' tk X₁ k₁ g n r f sr dn => ?_) hs)⟩
  obtain ⟨l, vs, cs, e1, e2, hl, ra⟩ := list_of r
  cases e1; cases e2
  have X₂ := X₁.avoid g n hl ho1
  refine store_own (s := { s₁ with heap := h', toks := tk }) (σ := ⟨σ₁.ρ, none, D :: σ₁.av, σ₁.pl⟩) P X₂ rfl (List.mem_cons_self ..) r (fun a ha hm => ?_) sr (X₁.new n) (X₁.wnot n) dn hρ fun s₃ X₃ k₃ => ?_
  · obtain ⟨⟨o, eo⟩, fa⟩ := f a ha
    rcases List.mem_cons.mp hm with rfl | hm
    · rw [n] at eo; cases eo
    · exact fa (List.mem_append_right _ hm)
  · refine (hr D).2 s₃ Q X₃ fun fl s₄ k₄ q => hq fl s₄ ?_ q
    obtain ⟨a1, t1, rfl, K1⟩ := k₁
    obtain ⟨a3, t3, rfl, K3⟩ := k₃
    obtain ⟨a4, t4, rfl, K4⟩ := k₄
    have f0 : σ.fp = [] := by unfold Sg.fp; rw [ho]
    refine ⟨a4, t4, rfl, fun b ob eb hb hf => ?_⟩
    have q1 := K1 b ob eb hb hf
    have q2 := g b ob q1
    have q3 := K3 b ob q2 hb (fun hm => nomatch hm)
    refine K4 b ob q3 hb fun hm => ?_
    have : b = D := List.mem_singleton.mp hm
    subst this
    exact nomatch q1.symm.trans n

theorem mutate {h h' : Heap} {D : Addr} {ds ds' : List PyData} {vs' : List Value} {bs' : List Addr} {pl' : Bool} (X : St c σ h) (ho : σ.own = some (x, D, ds)) (hs : Heap.SameBut D h h') (hl : h'.IsList D vs'.toArray) (r : RdAll h vs' ds' bs') (hb : ∀ a ∈ bs', a ∉ σ.off)
    (src : Src c bs') (hd : pl' = true → ∃ o, h'.get? D = some o ∧ o.dict = none) : St c ⟨σ.ρ, some (x, D, ds'), σ.av, pl'⟩ h' ∧ Keep c.W σ.fp h h' := by
  obtain ⟨ρ, own, av, pl⟩ := σ
  simp only at ho
  subst ho
  obtain ⟨q1, ⟨as, q2, q2a, q2b⟩, q3, q4, q5, q6⟩ := X.own
  obtain ⟨ob, xs, n, eo, ec, ed⟩ := X.lists D (List.mem_singleton.mpr rfl)
  have kp : Keep c.W [D] h h' := fun b o e _ hf => (hs.2 b fun q => hf (List.mem_singleton.mpr q)).trans e
  have nsD : ∀ {a m}, h.Ns a m → a ≠ D := fun {a m} hn q => by
    subst q
    obtain ⟨o', e', z⟩ := ns_data hn
    rw [eo] at e'; cases e'
    exact z _ _ ed
  have ceD : ∀ {a v}, h.IsCell a v → a ≠ D := fun {a v} hn q => by
    subst q
    obtain ⟨o', e', z⟩ := cell_data hn
    rw [eo] at e'; cases e'
    exact z _ _ ed
  have va : ∀ {y v}, VarAt c.env h y v → VarAt c.env h' y v := fun a => by
    cases a with
    | loc m e1 e2 e3 => exact .loc m e1 (e2.sameBut hs (nsD e2)) e3
    | cel a e1 e2 e3 => exact .cel a e1 e2 (e3.sameBut hs (ceD e3))
  have r' : RdAll h' vs' ds' bs' := X.keepAll kp r hb
  refine ⟨⟨X.cx, ?_, X.wnew, X.kind, X.globals, X.builtins, ?_, fun y a e => ?_, X.inj, fun b hb' => ?_, fun y d e => ?_, fun b hb' => ?_, ⟨va q1, ⟨bs', rd_list hl r', fun a ha hm => hb a ha ?_, fun a ha => ?_⟩, hd, q4, q5, q6⟩⟩, kp⟩
  · obtain ⟨m, F⟩ := X.fr
    exact ⟨m, F.ns.sameBut hs (nsD F.ns), fun b o e => (hs.2 b fun q => by rw [q, q4] at e; cases e).trans (F.keep b o e), F.above⟩
  · obtain ⟨m, z⟩ := X.nsl; exact ⟨m, z.sameBut hs (nsD z)⟩
  · obtain ⟨v, z⟩ := X.nscell y a e; exact ⟨v, z.sameBut hs (ceD z)⟩
  · obtain ⟨o, e, z⟩ := X.wdata b hb'
    exact ⟨o, (hs.2 b fun q => q5 (q ▸ hb')).trans e, z⟩
  · obtain ⟨v, as', a1, a2, a3, a4⟩ := (X.vars y d e).ex
    exact ⟨v, as', va a1, X.keep kp a2 a3, a3, a4⟩
  · by_cases q : b = D
    · subst q
      obtain ⟨o, h1, h2, n, h3⟩ := hl
      exact ⟨o, _, n, h1, h2, h3⟩
    · obtain ⟨o, ys, n, e, z⟩ := X.avs b hb'
      exact ⟨o, ys, n, (hs.2 b q).trans e, z⟩
  · rcases List.mem_cons.mp hm with rfl | hm
    · exact List.mem_append_left _ (List.mem_singleton.mpr rfl)
    · exact List.mem_append_right _ hm
  · rcases List.mem_cons.mp ha with rfl | ha
    · exact .inl q4
    · exact src a ha

theorem sx_setitem {D : Addr} {ds₀ ds : List PyData} {i : Int} {tp : Pos} (h1 : Ev c σ e₁ σ₁ d) (ho1 : σ₁.own = some (x, D, ds₀)) (h2 : Ev c σ₁ e₂ σ₂ (.int i)) (ho2 : σ₂.own = some (x, D, ds)) (lo : 0 ≤ i) (hi : i < ds.length) (hz : ds.length ≤ 2 ^ 24)
    (hs : swapsWith e₁ (some (.Subscript (.Name x p) e₂ tp)) pos.line c.env = pure false := by rfl) (hd : (x == ("__debug__" : Str)) = false := by decide) (hn : (x == ("__classdict__" : Str)) = false := by decide) :
    Sx c σ (.Assign [.Subscript (.Name x p) e₂ tp] e₁ pos) (.next ⟨σ₂.ρ, some (x, D, ds.set i.toNat d), σ₂.av, false⟩) := by
  have ffp : σ₂.fp = [D] := by unfold Sg.fp; rw [ho2]
  refine ⟨fun a ha => fp_fx h1.1 a (fp_fx h2.1 a (by rw [ffp]; exact ha)), fun s Q X hq => wpAny_Assign_Subscript (h1.2 s _ X fun v as s₁ X₁ k₁ b₁ => own_name X₁ ho1 (h2.2 s₁ _ X₁ fun u cs s₂ X₂ k₂ b₂ => ?_) hd hn) hs⟩
  obtain ⟨t, rfl, rfl⟩ := int_of b₂.rd
  have b₁' := b₁.kp X₁ k₂ h2.1
  obtain ⟨vs, bs, hl, ra, off, src⟩ := own_list X₂ ho2
  refine wpAny_setItem_list hl lo (by omega) (by rw [List.size_toArray, ra.length]; exact hi) fun h' hl' hs' => ?_
  obtain ⟨cs', rs, sub⟩ := ra.set i.toNat b₁'.rd
  obtain ⟨X₃, K₃⟩ := mutate (vs' := vs.set i.toNat v) (pl' := false) X₂ ho2 hs' (by simpa using hl') rs (fun a ha => (sub a ha).elim (off a) (b₁'.off a)) (fun a ha => (sub a ha).elim (src a) (b₁'.src a)) (fun q => nomatch q)
  exact hq _ { s₂ with heap := h' } (k₁.trans h1.1 (k₂.trans h2.1 ⟨h', s₂.toks, rfl, K₃⟩)) ⟨rfl, X₃⟩
theorem sx_append {D : Addr} {ds₀ ds : List PyData} {ap cp : Pos} (ho : σ.own = some (x, D, ds₀)) (hpl : σ.pl = true) (h1 : Ev c σ e σ₁ d) (ho1 : σ₁.own = some (x, D, ds)) (hpl1 : σ₁.pl = true) (hz : ds.length < 2 ^ 24)
    (hfew : ((backTo cp (starEach [e] c.env)).all (fun x => !x.1) && (backToKw cp (keywordEach [] c.env)).all (fun x => x.1.isSome) && decide (([e] : List Expr).length + ([] : List Keyword).length + (if ([] : List Keyword).isEmpty then 0 else 1) < 30)) = true := by rfl)
    (hline : (ap.endLine == cp.line) = true := by rfl) (htrees : backTo cp (starEach [e] c.env) = [(false, eval e c.env)] := by rfl) (hb : attributeBase (.Name x p) "append" c.env (eval (.Name x p) c.env) = eval (.Name x p) c.env := by rfl)
    (hi : interactive c.env = false := by rfl) (hs : swapsWith (.Call (.Attribute (.Name x p) "append" ap) [e] [] cp) none pos.line c.env = pure false := by rfl)
    (hd : (x == ("__debug__" : Str)) = false := by decide) (hn : (x == ("__classdict__" : Str)) = false := by decide) :
    Sx c σ (.Expr (.Call (.Attribute (.Name x p) "append" ap) [e] [] cp) pos) (.next ⟨σ₁.ρ, some (x, D, ds ++ [d]), σ₁.av, true⟩) := by
  have ffp : σ₁.fp = [D] := by unfold Sg.fp; rw [ho1]
  refine ⟨fun a ha => fp_fx h1.1 a (by rw [ffp]; exact ha), fun s Q X hq => wpAny_Expr (wpAny_Call_append hb hfew hline htrees (own_name X ho ?_ hd hn)) hi hs⟩
  obtain ⟨vs, bs, hl, ra, off, src⟩ := own_list X ho
  have q := X.own
  rw [ho] at q
  obtain ⟨ob, eo, ed⟩ := q.2.2.1 hpl
  obtain ⟨ob', eo', ec, n, edd⟩ := hl
  rw [eo] at eo'; cases eo'
  refine ⟨D, vs.toArray, rfl, ⟨ob, n, eo, ec, ed, edd⟩, h1.2 s _ X fun v as s₁ X₁ k₁ b₁ => ?_⟩
  obtain ⟨vs₁, bs₁, hl₁, ra₁, off₁, src₁⟩ := own_list X₁ ho1
  have q := X₁.own
  rw [ho1] at q
  obtain ⟨ob₁, eo₁, ed₁⟩ := q.2.2.1 hpl1
  obtain ⟨ob', eo', ec₁, n₁, edd₁⟩ := id hl₁
  rw [eo₁] at eo'; cases eo'
  refine list_append_plainL ⟨ob₁, n₁, eo₁, ec₁, ed₁, edd₁⟩ (fun h' hp hs' => ?_) (by rw [List.size_toArray, ra₁.length]; show ds.length ≤ 2 ^ 24; omega)
  obtain ⟨X₃, K₃⟩ := mutate (vs' := vs₁ ++ [v]) (pl' := true) X₁ ho1 hs' (by simpa using hp.isList) (ra₁.append (.cons b₁.rd .nil)) (fun a ha => (List.mem_append.mp ha).elim (off₁ a) fun z => b₁.off a (by simpa using z)) (fun a ha => (List.mem_append.mp ha).elim (src₁ a) fun z => b₁.src a (by simpa using z)) (fun _ => by
    obtain ⟨o', n', e1, e2, e3, e4⟩ := hp
    exact ⟨o', e1, e3⟩)
  exact hq _ { s₁ with heap := h' } (k₁.trans h1.1 ⟨h', s₁.toks, rfl, K₃⟩) ⟨rfl, X₃⟩

/-- the owned list becomes a name's list like another -/
theorem ex_drop {D : Addr} {ds : List PyData} {ρ : List (Str × PyData)} {av : List Addr} {pl : Bool} (h : Ex c ⟨(x, .list ds) :: ρ, none, av, true⟩ ss o) (hw : Within ⟨ρ, some (x, D, ds), D :: av, pl⟩ o := by trivial) (hx : D ∉ av := by intro h; cases h) : Ex c ⟨ρ, some (x, D, ds), D :: av, pl⟩ ss o := by
  refine ⟨hw, fun s Q X hq => h.2 s Q ?_ fun f s' ⟨h', tk, e, k⟩ q => hq f s' ⟨h', tk, e, k.sub fun _ hm => nomatch hm⟩ q⟩
  obtain ⟨q1, ⟨as, q2, q2a, q2b⟩, q3, q4, q5, q6⟩ := X.own
  refine ⟨X.cx, X.fr, X.wnew, X.kind, X.globals, X.builtins, X.nsl, X.nscell, X.inj, X.wdata, fun y d e => ?_, fun b hb => X.avs b (.tail _ hb), trivial⟩
  by_cases q : y = x
  · subst q
    have e' : some (PyData.list ds) = some d := by
      have : ((y, PyData.list ds) :: ρ).lookup y = some d := e
      rw [List.lookup_cons, beq_self_eq_true] at this
      exact this
    cases e'
    refine ⟨.ref D, D :: as, q1, q2, fun a ha hm => ?_, q2b⟩
    have hm : a ∈ av := hm
    rcases List.mem_cons.mp ha with rfl | ha
    · exact hx hm
    · exact q2a a ha (.tail _ (.tail _ hm))
  · have e' : ρ.lookup y = some d := by
      have : ((x, PyData.list ds) :: ρ).lookup y = some d := e
      have q' : (y == x) = false := by simpa using q
      rw [List.lookup_cons, q'] at this
      exact this
    obtain ⟨v, bs, a1, a2, a3, a4⟩ := (X.vars y d e').ex
    exact ⟨v, bs, a1, a2, fun a ha hm => a3 a ha (List.mem_append_right _ (.tail _ hm)), a4⟩
end
end
section
open PySem PySem.W PyProof.Rows PySem.Calls PySem.Spec
set_option maxRecDepth 100000
/-! ## while -/
section
variable {c : Con} {σ σ' σ₁ σ₂ σ₃ : Sg} {e e₁ e₂ : Expr} {d d₁ d₂ d₃ : PyData} {p pos : Pos} {k : Nat} {x y z : Str} {w : World} {o : Out} {st : Stmt} {ss rest body : List Stmt} {t : Expr}

inductive Wh (c : Con) (t : Expr) (body : List Stmt) : Nat → Sg → Sg → Prop
  | done {σ σ' : Sg} : Ts c σ t σ' false → Wh c t body 0 σ σ'
  | turn {n : Nat} {σ σ₁ σ₂ σ₃ : Sg} : Ts c σ t σ₁ true → Ex c σ₁ body (.next σ₂) → Wh c t body n σ₂ σ₃ → Wh c t body (n + 1) σ σ₃
theorem Wh.within {n : Nat} (h : Wh c t body n σ σ') : ∀ a ∈ σ'.fp, a ∈ σ.fp := by
  induction h with
  | done h => exact fp_fx h.1
  | turn h1 h2 _ ih => exact fun a ha => fp_fx h1.1 a (h2.1 a (ih a ha))
theorem sx_while {n : Nat} (h : Wh c t body n σ σ') : Sx c σ (.While t body [] pos) (.next σ') := by
  refine ⟨h.within, fun s Q X hq => wpAny_While (codeAny_whileLoop (fun n s' => ∃ σi, Wh c t body n σi σ' ∧ St c σi s'.heap ∧ Kp c σ s s' ∧ ∀ a ∈ σi.fp, a ∈ σ.fp) ?_ n ⟨σ, h, X, Kp.refl, fun _ h => h⟩)⟩
  rintro n s' ⟨σi, hw, Xi, Ki, fi⟩
  cases hw with
  | done h1 =>
    refine wpAny_mono (h1.2 s' (fun b s₂ => b = false ∧ Q .next s₂) Xi fun s₂ x₂ k₂ => ⟨rfl, hq _ s₂ (Ki.sub fi k₂) ⟨rfl, x₂⟩⟩) (fun b s₂ q => ?_) (fun _ _ q => q.elim)
    obtain ⟨rfl, q⟩ := q
    simp only [Bool.false_eq_true, if_false]
    exact wpAny_execs_nil q
  | turn h1 h2 h3 =>
    rename_i m σ₁ σ₂
    refine wpAny_mono (h1.2 s' (fun b s₂ => b = true ∧ Wp c (execs body c.env) (fun f s₃ => f = .next ∧ St c σ₂ s₃.heap ∧ Kp c σ s s₃) s₂) Xi fun s₂ x₂ k₂ => ⟨rfl, h2.2 s₂ _ x₂ fun f s₃ k₃ q => ?_⟩) (fun b s₂ q => ?_) (fun _ _ q => q.elim)
    · obtain ⟨rfl, x₃⟩ := q
      exact ⟨rfl, x₃, (Ki.sub fi k₂).sub (fun a ha => fi a (fp_fx h1.1 a ha)) k₃⟩
    · obtain ⟨rfl, q⟩ := q
      simp only [if_true]
      refine wpAny_mono q (fun f s₃ r => ?_) (fun _ _ q => q.elim)
      obtain ⟨rfl, x₃, k₃⟩ := r
      exact ⟨m, Nat.lt_succ_self _, σ₂, h3, x₃, k₃, fun a ha => fi a (fp_fx h1.1 a (h2.1 a ha))⟩

/-! ## for -/
/-- what bears no fields stays -/
def Kd (h h' : Heap) : Prop := ∀ b o, h.get? b = some o → (∀ vs, o.data ≠ .fields vs) → h'.get? b = some o
mutual
theorem Rd.kd {h h' : Heap} (k : Kd h h') : ∀ {v : Value} {d : PyData} {as : List Addr}, Rd h v d as → Rd h' v d as
  | _, _, _, .none => .none
  | _, _, _, .bool b => .bool b
  | _, _, _, .int i t => .int i t
  | _, _, _, .str x t => .str x t
  | _, _, _, .list h1 h2 h3 h4 => .list (k _ _ h1 fun vs q => by rw [h3] at q; cases q) h2 h3 (RdAll.kd k h4)
  | _, _, _, .tuple h1 h2 h3 h4 => .tuple (k _ _ h1 fun vs q => by rw [h3] at q; cases q) h2 h3 (RdAll.kd k h4)
theorem RdAll.kd {h h' : Heap} (k : Kd h h') : ∀ {vs : List Value} {ds : List PyData} {as : List Addr}, RdAll h vs ds as → RdAll h' vs ds as
  | _, _, _, .nil => .nil
  | _, _, _, .cons h1 h2 => .cons (Rd.kd k h1) (RdAll.kd k h2)
end
theorem ns_kd {h h' : Heap} {a : Addr} {m : Str → Option Value} (k : Kd h h') (n : h.Ns a m) : h'.Ns a m := by
  obtain ⟨o, es, ep, e, q, r⟩ := n
  exact ⟨o, es, ep, k _ _ e (fun vs z => by rw [q] at z; cases z), q, r⟩
theorem cell_kd {h h' : Heap} {a : Addr} {v : Option Value} (k : Kd h h') (n : h.IsCell a v) : h'.IsCell a v := by
  obtain ⟨o, e, q⟩ := n
  exact ⟨o, k _ _ e (fun vs z => by rw [q] at z; cases z), q⟩
theorem VarAt.kd {env : Env} {h h' : Heap} {x : Str} {v : Value} (k : Kd h h') : VarAt env h x v → VarAt env h' x v
  | .loc m a b c => .loc m a (ns_kd k b) c
  | .cel d a b c => .cel d a b (cell_kd k c)
theorem St.kd {h h' : Heap} (X : St c σ h) (k : Kd h h') (k0 : ∀ b o, c.h₀.get? b = some o → h'.get? b = some o) (kW : ∀ b ∈ c.W, ∀ o, h.get? b = some o → h'.get? b = some o) : St c σ h' where
  cx := X.cx
  fr := let ⟨m, F⟩ := X.fr; ⟨m, ns_kd k F.ns, k0, F.above⟩
  wnew := X.wnew
  kind := X.kind
  globals := X.globals
  builtins := X.builtins
  nsl := let ⟨m, a⟩ := X.nsl; ⟨m, ns_kd k a⟩
  nscell := fun y a e => let ⟨v, q⟩ := X.nscell y a e; ⟨v, cell_kd k q⟩
  inj := X.inj
  wdata := fun b hb => let ⟨o, e, q⟩ := X.wdata b hb; ⟨o, kW b hb _ e, q⟩
  vars := fun y d e => let ⟨v, as, a, r, f, q⟩ := (X.vars y d e).ex; ⟨v, as, a.kd k, r.kd k, f, q⟩
  avs := fun b hb => let ⟨o, xs, n, e, q⟩ := X.avs b hb; ⟨o, xs, n, k _ _ e (fun vs z => by rw [q.2] at z; cases z), q⟩
  own := by
    obtain ⟨ρ, own, av, pl⟩ := σ
    cases own with
    | none => trivial
    | some p =>
      obtain ⟨y, D, ds⟩ := p
      obtain ⟨a, ⟨as, r, q1, q2⟩, q3, b⟩ := X.own
      refine ⟨a.kd k, ⟨as, r.kd k, q1, q2⟩, fun z => ?_, b⟩
      obtain ⟨o, e1, e2⟩ := q3 z
      cases r with
      | list h1 h2 h3 h4 =>
        rw [h1] at e1; cases e1
        exact ⟨_, k _ _ h1 (fun vs z => by rw [h3] at z; cases z), e2⟩

/-- all but the iterator's own objects stay, and those bear fields -/
structure Stepped (c : Con) (wr : List Addr) (h h' : Heap) : Prop where
  keep : ∀ b o, b ∉ wr → h.get? b = some o → h'.get? b = some o
  flds : ∀ b ∈ wr, ∀ o, h.get? b = some o → ∃ vs, o.data = .fields vs
theorem Stepped.kd {wr : List Addr} {h h' : Heap} (x : Stepped c wr h h') : Kd h h' := fun b o e n => x.keep b o (fun hm => by
  obtain ⟨vs, q⟩ := x.flds b hm o e
  exact n vs q) e

structure Iter (c : Con) (F off : List Addr) (target : Expr) (ds : List PyData) (wr : List Addr) (it : Value) (h : Heap) : Prop where
  flds : ∀ b ∈ wr, ∃ o vs, h.get? b = some o ∧ o.data = .fields vs
  ex : ∃ (I : Addr) (Inv : Nat → Heap → Prop), it = .ref I ∧ Inv 0 h ∧
    (∀ i h₁ h₂ W' F', Inv i h₁ → Keep W' F' h₁ h₂ → NoSeq W' h₁ → Lists F' h₁ → (∀ b ∈ wr, b ∉ W') → (∀ a ∈ F', a ∈ F ∨ h.get? a = none) → Inv i h₂) ∧
    (∀ s (Q : Value → Shared → Prop), Inv 0 s.heap → Q it s → Wp c (pyIter it) Q s) ∧
    (∀ i s d (Q : Value → Shared → Prop), ds[i]? = some d → Inv i s.heap → (∀ v as h' tk, Stepped c wr s.heap h' → Inv (i + 1) h' → Rd h' v d as → (∀ a ∈ as, a ∉ off ∧ ∃ o, h.get? a = some o) → Src c as → Q v { s with heap := h', toks := tk }) →
      Wp c (pyNext it) (fun r s₁ => ∃ v, r = some v ∧ Wp c (letOwnedTupleGo target it v) (fun _ s₂ => Q v s₂) s₁) s) ∧
    (∀ s (Q : Shared → Prop), Inv ds.length s.heap → (∀ h' tk, Stepped c wr s.heap h' → Q { s with heap := h', toks := tk }) → Wp c (pyNext it) (fun r s₁ => r = none ∧ Q s₁) s)

/-- the source of a loop -/
structure It (c : Con) (σ : Sg) (iter : Expr) (σ₁ : Sg) (ds : List PyData) (target : Expr) : Prop where
  fst : σ₁.fx = σ.fx
  snd : ∀ s (Q : Value → Shared → Prop), St c σ s.heap → (∀ it wr s', St c σ₁ s'.heap → Kp c σ s s' → (∀ b ∈ wr, s.heap.get? b = none) → Iter c σ₁.fp σ₁.off target ds wr it s'.heap → Q it s') →
    Wp c (eval iter c.env) (fun v s₁ => Wp c (pyIter v) Q s₁) s

inductive Fo (c : Con) (target : Expr) (body : List Stmt) : List PyData → Sg → Sg → Prop
  | nil {σ : Sg} : Fo c target body [] σ σ
  | cons {σ σ₁ σ₂ σ₃ : Sg} {d : PyData} {ds : List PyData} : As c σ target d σ₁ → Ex c σ₁ body (.next σ₂) → σ₂.fx = σ.fx → Fo c target body ds σ₂ σ₃ → Fo c target body (d :: ds) σ σ₃
theorem Fo.fx {target : Expr} {ds : List PyData} (h : Fo c target body ds σ σ') : σ'.fx = σ.fx := by
  induction h with
  | nil => rfl
  | cons _ _ e _ ih => exact ih.trans e

theorem sx_for {iter target : Expr} {ds : List PyData} (hi : It c σ iter σ₁ ds target) (hf : Fo c target body ds σ₁ σ₂) (hs : ∀ x, foldedSetIterable iter c.env x = pure x := by intro _; rfl) : Sx c σ (.For target iter body [] pos) (.next σ₂) := by
  refine ⟨fun a ha => fp_fx hi.1 a (fp_fx hf.fx a ha), fun s Q X hq => wpAny_For (hi.2 s _ X fun it wr s₁ X₁ K₁ hwr hit => ?_) hs⟩
  obtain ⟨I, Inv, rfl, inv0, ikeep, iself, inext, idone⟩ := hit.ex
  have hw0 : ∀ b ∈ wr, c.h₀.get? b = none := fun b hb => X.new (hwr b hb)
  have hwW : ∀ b ∈ wr, b ∉ c.W := fun b hb hm => by
    obtain ⟨o, e, _⟩ := X.wdata b hm
    rw [hwr b hb] at e; cases e
  refine codeAny_forLoop_any (fun n s' => ∃ i σi, n = ds.length + 1 - i ∧ i ≤ ds.length ∧ Fo c target body (ds.drop i) σi σ₂ ∧ σi.fx = σ₁.fx ∧ St c σi s'.heap ∧ Kp c σ s s' ∧ Inv i s'.heap) ?_ (ds.length + 1)
    ⟨0, σ₁, rfl, Nat.zero_le _, by simpa using hf, rfl, X₁, K₁, inv0⟩
  rintro n s' ⟨i, σi, rfl, hle, hfo, hfx, Xi, Ki, hInv⟩
  have stp : ∀ {h' : Heap} {σ' : Sg}, St c σ' s'.heap → Stepped c wr s'.heap h' → St c σ' h' := fun {h' σ'} Y z =>
    Y.kd z.kd (fun b o e => z.keep b o (fun hm => by rw [hw0 b hm] at e; cases e) (Y.old e)) fun b hb o e => z.keep b o (fun hm => hwW b hm hb) e
  have kst : ∀ {h' : Heap} {tk : Nat}, Stepped c wr s'.heap h' → Kp c σ s { s' with heap := h', toks := tk } := fun {h' tk} z => by
    obtain ⟨h1, t1, e1, k1⟩ := Ki
    subst e1
    exact ⟨h', tk, rfl, fun b o e hb hF => z.keep b o (fun hm => by rw [hwr b hm] at e; cases e) (k1 b o e hb hF)⟩
  by_cases hlt : i < ds.length
  · have hd : ds[i]? = some ds[i] := List.getElem?_eq_getElem hlt
    rw [List.drop_eq_getElem_cons hlt] at hfo
    generalize hx : ds[i] = d at hd hfo
    cases hfo with
    | cons h1 h2 h3 h4 =>
      rename_i σa σb
      refine wpAny_mono (inext i s' d (fun v s₂ => Wp c (assign target c.env v) (fun _ s₃ => Wp c (execs body c.env) (fun f s₄ => f = .next ∧ ∃ m, m < ds.length + 1 - i ∧ ∃ j σj, m = ds.length + 1 - j ∧ j ≤ ds.length ∧ Fo c target body (ds.drop j) σj σ₂ ∧ σj.fx = σ₁.fx ∧ St c σj s₄.heap ∧ Kp c σ s s₄ ∧ Inv j s₄.heap) s₃) s₂) hd hInv
        fun v as h' tk stp' inv' r off src => ?_) (fun r s₂ q => ?_) (fun _ _ q => q.elim)
      · have Y : St c σi h' := stp Xi stp'
        refine h1.2 { s' with heap := h', toks := tk } v as _ Y ⟨r, fun a ha => ?_, src⟩ fun s₃ X₃ K₃ => h2.2 s₃ _ X₃ fun f s₄ K₄ q => ?_
        · rw [Sg.off_of hfx]; exact (off a ha).1
        · obtain ⟨rfl, X₄⟩ := q
          refine ⟨rfl, ds.length + 1 - (i + 1), by omega, i + 1, σb, rfl, hlt, h4, h3.trans hfx, X₄, ?_, ?_⟩
          · have kk := kst (tk := tk) stp'
            have e1 : ∀ a ∈ σi.fp, a ∈ σ.fp := fun a ha => fp_fx hi.1 a (fp_fx hfx a ha)
            exact (kk.sub e1 K₃).sub (fun a ha => e1 a (fp_fx h1.1 a ha)) K₄
          · have i3 := ikeep (i + 1) _ s₃.heap c.W σ₁.fp inv' (Sg.fp_of hfx ▸ K₃.keep) Y.noseq (Sg.fp_of hfx ▸ Y.lists) hwW (fun _ h => .inl h)
            have ea : σa.fp = σ₁.fp := (Sg.fp_of h1.1).trans (Sg.fp_of hfx)
            exact ikeep (i + 1) _ _ c.W σ₁.fp i3 (ea ▸ K₄.keep) X₃.noseq (ea ▸ X₃.lists) hwW (fun _ h => .inl h)
      · obtain ⟨v, rfl, q⟩ := q
        refine wpAny_mono q (fun _ s₃ q => wpAny_mono q (fun _ s₄ q => wpAny_mono q (fun f s₅ q => ?_) (fun _ _ q => q.elim)) (fun _ _ q => q.elim)) (fun _ _ q => q.elim)
        obtain ⟨rfl, q⟩ := q
        exact q
  · obtain rfl : i = ds.length := Nat.le_antisymm hle (Nat.not_lt.mp hlt)
    rw [List.drop_length] at hfo
    cases hfo
    refine wpAny_mono (idone s' (fun s₂ => Q .next s₂) hInv fun h' tk stp' => hq _ _ (kst stp') ⟨rfl, stp Xi stp'⟩) (fun r s₂ q => ?_) (fun _ _ q => q.elim)
    obtain ⟨rfl, q⟩ := q
    exact wpAny_execs_nil q
end
end
section
open PySem PySem.W PyProof.Rows PySem.Calls PySem.Spec
set_option maxRecDepth 100000
def GoOk (c : Con) (target : Expr) (ds : List PyData) : Prop :=
  ∀ (s : Shared) (I l : Addr) (i : Nat) (v : Value) (d : PyData) (as : List Addr) (Q : Unit → Shared → Prop), d ∈ ds → s.heap.IsListIter I l i → Rd s.heap v d as → Q () s → Wp c (letOwnedTupleGo target (.ref I) v) Q s
theorem go_name {c : Con} {x : Str} {p : Pos} {ds : List PyData} : GoOk c (.Name x p) ds := fun s I l i v d as Q _ _ _ h => wpAny_pure h
theorem go_tuple {c : Con} {ts : List Expr} {u : Nat} {p : Pos} {ds : List PyData} (hd : ∀ d ∈ ds, ∃ xs, d = .tuple xs) : GoOk c (.Tuple ts u p) ds := fun s I l i v d as Q hm hi r h => by
  obtain ⟨xs, rfl⟩ := hd d hm
  obtain ⟨T, vs, rfl, _⟩ := tuple_of r
  exact wpAny_letOwnedTupleGo_listiter hi h

section
variable {c : Con} {σ σ' σ₁ σ₂ σ₃ : Sg} {e e₁ e₂ : Expr} {d d₁ d₂ d₃ : PyData} {p pos : Pos} {k : Nat} {x y z : Str} {w : World} {target : Expr}

theorem iter_list {ds : List PyData} {s : Shared} {v : Value} {as : List Addr} {Q : Value → Shared → Prop} (X : St c σ s.heap) (B : Bears c σ s.heap v (.list ds) as) (hg : GoOk c target ds)
    (h : ∀ it wr s', St c σ s'.heap → Kp c σ s s' → (∀ b ∈ wr, s.heap.get? b = none) → Iter c σ.fp σ.off target ds wr it s'.heap → Q it s') : Wp c (pyIter v) Q s := by
  obtain ⟨l, vs, bs, rfl, rfl, hl, ra⟩ := list_of B.rd
  refine wpAny_pyIter_list hl ?_
  have g : ∀ b o, s.heap.get? b = some o → (s.heap.push { cls := .type "list_iterator", data := .fields #[.ref l, .int 0 0] }).get? b = some o := fun _ _ e => Heap.get?_push_of_some _ e
  have hn : s.heap.get? s.heap.objs.size = none := fresh_size _
  have hlF : l ∉ σ.fp := Sg.not_fp (B.off l (.head _))
  refine h _ [s.heap.objs.size] { s with heap := s.heap.push { cls := .type "list_iterator", data := .fields #[.ref l, .int 0 0] } } (X.grow g) (Kp.grow (tk := s.toks) g) (fun b hb => by rw [List.mem_singleton.mp hb]; exact hn)
    ⟨fun b hb => by rw [List.mem_singleton.mp hb]; exact ⟨_, _, Heap.get?_push_size _ rfl, rfl⟩, s.heap.objs.size, fun i h => h.IsListIter s.heap.objs.size l i ∧ h.IsList l vs.toArray ∧ RdAll h vs ds bs, rfl, ⟨⟨_, Heap.get?_push_size _ rfl, rfl, rfl⟩, hl.push _, ra.grow g⟩, ?_, fun s' Q' q hQ' => wpAny_pyIter_listiter q.1 hQ', ?_, ?_⟩
  · rintro i h1 h2 W' F' ⟨⟨oI, e1, c1, d1⟩, ⟨ol, e2, c2, n, d2⟩, r⟩ kp ns ls hw' hF'
    have nF : ∀ a, a ∉ σ.fp → (∃ o, (s.heap.push { cls := .type "list_iterator", data := .fields #[.ref l, .int 0 0] }).get? a = some o) → a ∉ F' := fun a h1 ⟨o, h2⟩ hm => (hF' a hm).elim h1 fun q => by
      have q' : (s.heap.push { cls := .type "list_iterator", data := .fields #[.ref l, .int 0 0] }).get? a = none := q
      rw [q'] at h2; cases h2
    refine ⟨⟨oI, kp _ _ e1 (hw' _ (List.mem_singleton.mpr rfl)) fun hm => ?_, c1, d1⟩, ⟨ol, kp _ _ e2 (fun hm => ns l hm ol e2 _ _ d2) (nF l hlF (let ⟨o, e, _⟩ := hl; ⟨o, g _ _ e⟩)), c2, n, d2⟩, r.keep kp ns ls fun a ha => nF a (Sg.not_fp (B.off a (.tail _ ha))) ((ra.grow g).there a ha)⟩
    obtain ⟨o', xs, n', e', c', _⟩ := ls _ hm
    rw [e1] at e'; cases e'
    rw [c1] at c'; exact absurd c' (by decide)
  · rintro i s₁ d Q' hd ⟨hit, hls, r⟩ hQ
    obtain ⟨v, cs, ev, rv, sub⟩ := r.get i d hd
    have hne : l ≠ s.heap.objs.size := by
      obtain ⟨o, e, _⟩ := hl
      exact Nat.ne_of_lt (Heap.lt_size e)
    refine wpAny_pyNext_list_item hit hls (by simpa using ev) fun h' hit' hs => ⟨v, rfl, ?_⟩
    have kd : Stepped c [s.heap.objs.size] s₁.heap h' := ⟨fun b o hb e => hs.extBut b o (fun q => hb (by rw [q]; exact List.mem_singleton.mpr rfl)) e, fun b hb o e => by
      rw [List.mem_singleton.mp hb] at e
      obtain ⟨oI, e1, c1, d1⟩ := hit
      rw [e1] at e; cases e
      exact ⟨_, d1⟩⟩
    refine hg { s₁ with heap := h' } _ l (i + 1) v d cs _ (List.mem_of_getElem? hd) hit' (rv.kd kd.kd) ?_
    exact hQ v cs h' s₁.toks kd ⟨hit', hls.extBut hs.extBut hne, r.kd kd.kd⟩ (rv.kd kd.kd) (fun a ha => ⟨B.off a (.tail _ (sub a ha)), (ra.grow g).there a (sub a ha)⟩) fun a ha => B.src a (.tail _ (sub a ha))
  · rintro s₁ Q' ⟨hit, hls, r⟩ hQ
    refine wpAny_pyNext_list_end X.cx.handled hit hls (by simp [r.length]) fun h' hx => ⟨rfl, hQ h' s₁.toks ⟨fun b o hb e => hx b o (fun q => hb (by rw [q]; exact List.mem_singleton.mpr rfl)) e, fun b hb o e => ?_⟩⟩
    rw [List.mem_singleton.mp hb] at e
    obtain ⟨oI, e1, c1, d1⟩ := hit
    rw [e1] at e; cases e
    exact ⟨_, d1⟩
theorem it_list {ds : List PyData} (h : Ev c σ e σ₁ (.list ds)) (hg : GoOk c target ds) : It c σ e σ₁ ds target :=
  ⟨h.1, fun s Q X hq => h.2 s _ X fun v as s₁ x₁ k₁ b₁ => iter_list x₁ b₁ hg fun it wr s₂ x₂ k₂ hw hi => hq it wr s₂ x₂ (k₁.trans h.1 k₂) (fun b hb => by
    have q := hw b hb
    obtain ⟨h', tk, rfl, K⟩ := k₁
    cases e : s.heap.get? b with
    | none => rfl
    | some o =>
      by_cases hW : b ∈ c.W
      · obtain ⟨o', e', _⟩ := x₁.wdata b hW
        rw [q] at e'; cases e'
      · by_cases hF : b ∈ σ.fp
        · obtain ⟨o', xs, n, e', _⟩ := x₁.lists b (Sg.fp_of h.1 ▸ hF)
          rw [q] at e'; cases e'
        · have := K b o e hW hF
          rw [q] at this; cases this) hi⟩

/-! ranges -/
def rng (a : Int) (n : Nat) : List PyData := (List.range n).map fun i : Nat => .int (a + (i : Int))
theorem iter_range {s : Shared} {r : Addr} {a b : Int} {t u v : Tok} {n : Nat} {Q : Value → Shared → Prop} (X : St c σ s.heap) (hr : IsRange s.heap r a b 1 t u v) (hsm : Builtin.Range.small a b 1 = true) (hn : Builtin.Range.rangeSize a b 1 = (n : Int))
    (hg : ∀ it v, letOwnedTupleGo target it v = pure ())
    (h : ∀ it wr s', St c σ s'.heap → Kp c σ s s' → (∀ b ∈ wr, s.heap.get? b = none) → Iter c σ.fp σ.off target (rng a n) wr it s'.heap → Q it s') : Wp c (pyIter (.ref r)) Q s := by
  refine wpAny_pyIter_range hr hsm ?_
  have g : ∀ b' o, s.heap.get? b' = some o → (s.heap.push { cls := .type "range_iterator", data := .fields #[rawInt a, rawInt (Builtin.Range.rangeSize a b 1), rawInt 1] }).get? b' = some o := fun _ _ e => Heap.get?_push_of_some _ e
  have hnn : s.heap.get? s.heap.objs.size = none := fresh_size _
  have flds : ∀ {h : Heap} {x l st : Int}, IsRangeIter h s.heap.objs.size x l st → ∀ b ∈ [s.heap.objs.size], ∀ o, h.get? b = some o → ∃ vs, o.data = .fields vs := fun {h x l st} q b hb o e => by
    rw [List.mem_singleton.mp hb] at e
    have q' : h.get? s.heap.objs.size = some _ := q
    rw [q'] at e; cases e
    exact ⟨_, rfl⟩
  refine h _ [s.heap.objs.size] { s with heap := s.heap.push { cls := .type "range_iterator", data := .fields #[rawInt a, rawInt (Builtin.Range.rangeSize a b 1), rawInt 1] } } (X.grow g) (Kp.grow (tk := s.toks) g) (fun b hb => by rw [List.mem_singleton.mp hb]; exact hnn)
    ⟨fun b hb => by rw [List.mem_singleton.mp hb]; exact ⟨_, _, Heap.get?_push_size _ rfl, rfl⟩, s.heap.objs.size, fun i h => IsRangeIter h s.heap.objs.size (a + (i : Int)) ((n : Int) - (i : Int)) 1, rfl, by rw [hn]; simpa using Heap.get?_push_size _ rfl, ?_, fun s' Q' q hQ' => wpAny_pyIter_rangeiter q hQ', ?_, ?_⟩
  · intro i h1 h2 W' F' st kp ns ls hw' _
    have st' : h1.get? s.heap.objs.size = some _ := st
    refine kp _ _ st' (hw' _ (List.mem_singleton.mpr rfl)) fun hm => ?_
    obtain ⟨o', xs, n', e', c', d'⟩ := ls _ hm
    rw [st'] at e'; cases e'
    cases d'
  · intro i s₁ d Q' hd st hQ
    have hi : i < n := by
      have := (List.getElem?_eq_some_iff.mp hd).1
      simpa [rng] using this
    have hd' : d = .int (a + (i : Int)) := by
      have := hd
      simp [rng, hi] at this
      exact this.symm
    subst hd'
    refine wpAny_pyNext_range_item st (by omega) fun h' hit' hs' => ⟨_, rfl, wpAny_of_eq (hg _ _) ?_⟩
    exact hQ _ [] h' _ ⟨fun b o hb e => hs'.extBut b o (fun q => hb (by rw [q]; exact List.mem_singleton.mpr rfl)) e, flds st⟩ (by
      have e1 : a + (i : Int) + 1 = a + ((i + 1 : Nat) : Int) := by omega
      have e2 : (n : Int) - (i : Int) - 1 = (n : Int) - ((i + 1 : Nat) : Int) := by omega
      show IsRangeIter h' _ _ _ _
      rw [← e1, ← e2]; exact hit') (.int _ _) (fun _ ha => nomatch ha) (fun _ ha => nomatch ha)
  · intro s₁ Q' st hQ
    have hl : (rng a n).length = n := by simp [rng]
    rw [hl] at st
    exact wpAny_pyNext_range_end X.cx.handled st (by omega) fun h' hx => ⟨rfl, hQ h' s₁.toks ⟨fun b o hb e => hx b o (fun q => hb (by rw [q]; exact List.mem_singleton.mpr rfl)) e, flds st⟩⟩
theorem mono_none {s s' : Shared} (X : St c σ' s'.heap) (K : Kp c σ s s') (ef : σ'.fx = σ.fx) {b : Addr} (q : s'.heap.get? b = none) : s.heap.get? b = none := by
  obtain ⟨h', tk, rfl, K⟩ := K
  cases e : s.heap.get? b with
  | none => rfl
  | some o =>
    by_cases hW : b ∈ c.W
    · obtain ⟨o', e', _⟩ := X.wdata b hW
      rw [q] at e'; cases e'
    · by_cases hF : b ∈ σ.fp
      · obtain ⟨o', xs, n, e', _⟩ := X.lists b (Sg.fp_of ef ▸ hF)
        rw [q] at e'; cases e'
      · have := K b o e hW hF
        rw [q] at this; cases this
theorem small_ok {a b : Int} (h0 : -(2 ^ 62) ≤ a) (h1 : a < 2 ^ 62) (h2 : -(2 ^ 62) ≤ b) (h3 : b < 2 ^ 62) : Builtin.Range.small a b 1 = true := by
  have e : Builtin.Range.rangeSize a b 1 = if a < b then b - a else 0 := by
    unfold Builtin.Range.rangeSize
    simp
  have hs : -(2 ^ 63) ≤ Builtin.Range.rangeSize a b 1 ∧ Builtin.Range.rangeSize a b 1 < 2 ^ 63 := by
    rw [e]; split <;> omega
  unfold Builtin.Range.small Builtin.Range.rangeFitsLong
  simp only [Bool.and_eq_true, Bool.or_eq_true, decide_eq_true_eq]
  simp
  omega
theorem size1 (a b : Int) : Builtin.Range.rangeSize a b 1 = ((b - a).toNat : Int) := by
  unfold Builtin.Range.rangeSize
  simp
  split <;> omega
theorem it_range1 {i : Int} (hk : c.env.kindOf "range" = some .globalImplicit) (hn : nsIn (KF c.w) mainGlobals "range" = some none) (h : Ev c σ e σ₁ (.int i)) (h2 : -(2 ^ 62) ≤ i) (h3 : i < 2 ^ 62) (hg : ∀ it v, letOwnedTupleGo target it v = pure () := by intro _ _; rfl)
    (he : starEach [e] c.env = [(false, eval e c.env)] := by rfl) : It c σ (.Call (.Name "range" p) [e] [] pos) σ₁ (rng 0 i.toNat) target := by
  refine ⟨h.1, fun s Q X hq => wpAny_Call_NameR (name_bi X hk hn (by decide +kernel : bootBuiltins "range" = some (.type "range")) (callWith_ty (starred_none (by rw [he]; rfl)) ?_))⟩
  rw [he]
  refine evalArgs_plain (spliced_cons (h.2 s _ X fun v as s₁ x₁ k₁ b₁ => spliced_nil ?_))
  obtain ⟨t, rfl, rfl⟩ := int_of b₁.rd
  have g : ∀ b' o, s₁.heap.get? b' = some o → (s₁.heap.push { cls := .type "range", data := .fields #[.int 0 s₁.toks, .int i t, .int 1 (s₁.toks + 1)] }).get? b' = some o := fun _ _ e => Heap.get?_push_of_some _ e
  refine call_range_1 ?_
  have kk := Kp.grow (c := c) (σ := σ) (s := s₁) (tk := s₁.toks + 1 + 1) g
  refine iter_range (s := { s₁ with heap := s₁.heap.push { cls := .type "range", data := .fields #[.int 0 s₁.toks, .int i t, .int 1 (s₁.toks + 1)] }, toks := s₁.toks + 1 + 1 }) (x₁.grow g) (IsRange.new _ 0 i 1 _ _ _) (small_ok (by decide) (by decide) h2 h3) (n := i.toNat) (by rw [size1, Int.sub_zero]) hg fun it wr s' x' k' hw hi => ?_
  refine hq it wr s' x' ((k₁.trans rfl kk).trans h.1 k') (fun b hb => mono_none (x₁.grow g) (k₁.trans rfl kk) h.1 (hw b hb)) hi
theorem it_range2 {i j : Int} (hk : c.env.kindOf "range" = some .globalImplicit) (hn : nsIn (KF c.w) mainGlobals "range" = some none) (h : Ev c σ e₁ σ₁ (.int i)) (h' : Ev c σ₁ e₂ σ₂ (.int j)) (h0 : -(2 ^ 62) ≤ i) (h1 : i < 2 ^ 62) (h2 : -(2 ^ 62) ≤ j) (h3 : j < 2 ^ 62)
    (hg : ∀ it v, letOwnedTupleGo target it v = pure () := by intro _ _; rfl) (he : starEach [e₁, e₂] c.env = [(false, eval e₁ c.env), (false, eval e₂ c.env)] := by rfl) : It c σ (.Call (.Name "range" p) [e₁, e₂] [] pos) σ₂ (rng i (j - i).toNat) target := by
  refine ⟨h'.1.trans h.1, fun s Q X hq => wpAny_Call_NameR (name_bi X hk hn (by decide +kernel : bootBuiltins "range" = some (.type "range")) (callWith_ty (starred_none (by rw [he]; rfl)) ?_))⟩
  rw [he]
  refine evalArgs_plain (spliced_cons (h.2 s _ X fun v as s₁ x₁ k₁ b₁ => spliced_cons (h'.2 s₁ _ x₁ fun v' as' s₂ x₂ k₂ b₂ => spliced_nil ?_)))
  obtain ⟨t, rfl, rfl⟩ := int_of b₁.rd
  obtain ⟨u, rfl, rfl⟩ := int_of b₂.rd
  have g : ∀ b' o, s₂.heap.get? b' = some o → (s₂.heap.push { cls := .type "range", data := .fields #[.int i t, .int j u, .int 1 s₂.toks] }).get? b' = some o := fun _ _ e => Heap.get?_push_of_some _ e
  refine call_range_2 ?_
  have k₁₂ := k₁.trans h.1 k₂
  have kk := Kp.grow (c := c) (σ := σ) (s := s₂) (tk := s₂.toks + 1) g
  refine iter_range (s := { s₂ with heap := s₂.heap.push { cls := .type "range", data := .fields #[.int i t, .int j u, .int 1 s₂.toks] }, toks := s₂.toks + 1 }) (x₂.grow g) (IsRange.new _ i j 1 _ _ _) (small_ok h0 h1 h2 h3) (size1 i j) hg fun it wr s' x' k' hw hi => ?_
  exact hq it wr s' x' ((k₁₂.trans rfl kk).trans (h'.1.trans h.1) k') (fun b hb => mono_none (x₂.grow g) (k₁₂.trans rfl kk) (h'.1.trans h.1) (hw b hb)) hi

/-! enumerate -/
def enumd (ds : List PyData) : List PyData := ds.mapIdx fun i d => .tuple [.int (i : Int), d]
theorem it_enum {ds : List PyData} {ts : List Expr} {u : Nat} {tp : Pos} (hk : c.env.kindOf "enumerate" = some .globalImplicit) (hn : nsIn (KF c.w) mainGlobals "enumerate" = some none) (h : Ev c σ e σ₁ (.list ds))
    (he : starEach [e] c.env = [(false, eval e c.env)] := by rfl) : It c σ (.Call (.Name "enumerate" p) [e] [] pos) σ₁ (enumd ds) (.Tuple ts u tp) := by
  refine ⟨h.1, fun s Q X hq => wpAny_Call_NameR (name_bi X hk hn (by decide +kernel : bootBuiltins "enumerate" = some (.type "enumerate")) (callWith_ty (starred_none (by rw [he]; rfl)) ?_))⟩
  rw [he]
  refine evalArgs_plain (spliced_cons (h.2 s _ X fun v as s₁ x₁ k₁ b₁ => spliced_nil ?_))
  obtain ⟨l, vs, bs, rfl, rfl, hl, ra⟩ := list_of b₁.rd
  refine call_enumerate_list hl fun h' hE hI hsz g => ?_
  have hll : l < s₁.heap.objs.size := by obtain ⟨o, e, _⟩ := hl; exact Heap.lt_size e
  have hlF : l ∉ σ₁.fp := Sg.not_fp (b₁.off l (.head _))
  generalize hit : s₁.heap.objs.size = I at hE hI hsz hll
  have hni : ∀ {b : Addr}, I ≤ b → s₁.heap.get? b = none := fun {b} hb => by
    cases q : s₁.heap.get? b with
    | none => rfl
    | some o => exact absurd (Heap.lt_size q) (by rw [hit]; exact Nat.not_lt.mpr hb)
  have x₂ : St c σ₁ h' := x₁.grow g
  have k₂ : Kp c σ s { s₁ with heap := h' } := k₁.trans rfl (Kp.grow (tk := s₁.toks) g)
  have hne1 : (I + 1 : Nat) ≠ I := Nat.succ_ne_self I
  refine wpAny_pyIter_enum hE (hq _ [I + 1, I] { s₁ with heap := h' } x₂ k₂ (fun b hb => mono_none x₁ k₁ h.1 (hni (by
    rcases List.mem_cons.mp hb with rfl | hb
    · exact Nat.le_succ _
    · rw [List.mem_singleton.mp hb]; exact Nat.le_refl _)))
    ⟨fun b hb => by
      rcases List.mem_cons.mp hb with rfl | hb
      · exact ⟨_, _, hE, rfl⟩
      · rw [List.mem_singleton.mp hb]
        obtain ⟨o, e, _, q⟩ := hI
        exact ⟨o, _, e, q⟩, I + 1, fun i h => (∃ old, IsEnum h (I + 1) I i old) ∧ h.IsListIter I l i ∧ h.IsList l vs.toArray ∧ RdAll h vs ds bs, rfl, ⟨⟨_, hE⟩, hI, (let ⟨o, e, q⟩ := hl; ⟨o, g _ _ e, q⟩), ra.grow g⟩, ?_, (fun s' Q' q hQ' => by obtain ⟨⟨old, hE⟩, _⟩ := q; exact wpAny_pyIter_enum hE hQ'), ?_, ?_⟩)
  · rintro i h1 h2 W' F' ⟨⟨old, hE⟩, ⟨oI, e1, c1, d1⟩, ⟨ol, e2, c2, n, d2⟩, r⟩ kp ns ls hw' hF'
    have nF : ∀ a, a ∉ σ₁.fp → (∃ o, h'.get? a = some o) → a ∉ F' := fun a h1 ⟨o, h2⟩ hm => (hF' a hm).elim h1 fun q => by
      have q' : h'.get? a = none := q
      rw [q'] at h2; cases h2
    have hE' : h1.get? (I + 1) = some _ := hE
    refine ⟨⟨old, kp _ _ hE' (hw' _ (List.mem_cons_self ..)) fun hm => ?_⟩, ⟨oI, kp _ _ e1 (hw' _ (List.mem_cons_of_mem _ (List.mem_singleton.mpr rfl))) fun hm => ?_, c1, d1⟩, ⟨ol, kp _ _ e2 (fun hm => ns l hm ol e2 _ _ d2) (nF l hlF (let ⟨o, e, _⟩ := hl; ⟨o, g _ _ e⟩)), c2, n, d2⟩, r.keep kp ns ls fun a ha => nF a (Sg.not_fp (b₁.off a (.tail _ ha))) ((ra.grow g).there a ha)⟩
    · obtain ⟨o', xs, n', e', c', d'⟩ := ls _ hm
      rw [hE'] at e'; cases e'
      cases d'
    · obtain ⟨o', xs, n', e', c', _⟩ := ls _ hm
      rw [e1] at e'; cases e'
      rw [c1] at c'; exact absurd c' (by decide)
  · rintro i s₂ d Q' hd ⟨⟨old, hE⟩, hit', hls, r⟩ hQ
    have hi : i < ds.length := by
      have := (List.getElem?_eq_some_iff.mp hd).1
      simpa [enumd] using this
    have hd' : d = .tuple [.int (i : Int), ds[i]] := by
      have q := hd
      rw [enumd, List.getElem?_mapIdx, List.getElem?_eq_getElem hi] at q
      exact (Option.some.inj q).symm
    subst hd'
    obtain ⟨v, cs, ev, rv, sub⟩ := r.get i _ (List.getElem?_eq_getElem hi)
    refine wpAny_pyNext_enum_item hE hit' hls (by simpa using ev) hne1 fun h₁ heo hit₁ hT hz hk => ⟨_, rfl, ?_⟩
    have fl : ∀ b ∈ [I + 1, I], ∀ o, s₂.heap.get? b = some o → ∃ vs, o.data = .fields vs := fun b hb o e => by
      rcases List.mem_cons.mp hb with rfl | hb
      · have q : s₂.heap.get? (I + 1) = some _ := hE
        rw [q] at e; cases e; exact ⟨_, rfl⟩
      · rw [List.mem_singleton.mp hb] at e
        obtain ⟨oI, e1, c1, d1⟩ := hit'
        rw [e1] at e; cases e; exact ⟨_, d1⟩
    refine wpAny_letOwnedTupleGo_enum heo fun h₂ he₂ hs₂ => ?_
    have hs2 : ∀ b, b ≠ I + 1 → h₂.get? b = h₁.get? b := fun b hb => hs₂.2 b hb
    have st : Stepped c [I + 1, I] s₂.heap h₂ := ⟨fun b o hb e => by
      have n1 : b ≠ I + 1 := fun q => hb (by rw [q]; exact List.mem_cons_self ..)
      have n2 : b ≠ I := fun q => hb (by rw [q]; exact List.mem_cons_of_mem _ (List.mem_singleton.mpr rfl))
      rw [hs2 b n1]
      exact hk b o n1 n2 e, fl⟩
    have hI1 : I + 1 < s₂.heap.objs.size := Heap.lt_size hE
    have hTT : h₂.get? s₂.heap.objs.size = some { cls := .type "tuple", data := .seq #[.int i s₂.toks, v] } := by
      rw [hs2 _ (Nat.ne_of_gt hI1)]; exact hT
    refine hQ _ cs h₂ _ st ⟨⟨_, by simpa using he₂⟩, ?_, ?_, r.kd st.kd⟩ (.tuple hTT rfl rfl (.cons (as := []) (.int _ _) (by simpa using RdAll.cons (rv.kd st.kd) .nil))) (fun a ha => ⟨b₁.off a (.tail _ (sub a ha)), (ra.grow g).there a (sub a ha)⟩) fun a ha => b₁.src a (.tail _ (sub a ha))
    · obtain ⟨o, e, q⟩ := hit₁
      exact ⟨o, (hs2 I (Ne.symm hne1)).trans e, q⟩
    · obtain ⟨o, e, q1, n, q2⟩ := hls
      exact ⟨o, st.kd _ _ e (fun vs z => by rw [q2] at z; cases z), q1, n, q2⟩
  · rintro s₂ Q' ⟨⟨old, hE⟩, hit', hls, r⟩ hQ
    have hlen : (enumd ds).length = ds.length := by simp [enumd]
    rw [hlen] at hE hit'
    refine wpAny_pyNext_enum_end x₁.cx.handled hE hit' hls (by simp [r.length]) fun h₁ hx => ⟨rfl, hQ h₁ s₂.toks ⟨fun b o hb e => hx b o (fun q => hb (by rw [q]; exact List.mem_cons_of_mem _ (List.mem_singleton.mpr rfl))) e, fun b hb o e => ?_⟩⟩
    rcases List.mem_cons.mp hb with rfl | hb
    · have q : s₂.heap.get? (I + 1) = some _ := hE
      rw [q] at e; cases e; exact ⟨_, rfl⟩
    · rw [List.mem_singleton.mp hb] at e
      obtain ⟨oI, e1, c1, d1⟩ := hit'
      rw [e1] at e; cases e; exact ⟨_, d1⟩
end
end
section
open PySem PySem.W PyProof.Rows PySem.Calls PySem.Spec
set_option maxRecDepth 100000
/-- the surroundings of a comprehension's turns -/
def Con.comp (c : Con) (scope : Scope) (cl : List (Str × Addr)) (C : Addr) : Con := { c with env := compEnvC scope cl C c.env, W := [C] }

inductive Co (c : Con) (target elt : Expr) : List PyData → List PyData → Sg → Sg → Prop
  | nil {σ : Sg} : Co c target elt [] [] σ σ
  | cons {σ σ₁ σ₂ σ₂' σ₃ : Sg} {d e : PyData} {ds es : List PyData} : As c σ target d σ₁ → Ev c σ₁ elt σ₂ e → σ₂'.own = σ₂.own → σ₂'.av = σ₂.av → σ₂'.pl = σ₂.pl → (∀ y d, σ₂'.ρ.lookup y = some d → σ₂.ρ.lookup y = some d) →
      Co c target elt ds es σ₂' σ₃ → Co c target elt (d :: ds) (e :: es) σ σ₃
theorem Co.length {c : Con} {target elt : Expr} {ds es : List PyData} {σ σ' : Sg} (h : Co c target elt ds es σ σ') : ds.length = es.length := by
  induction h with
  | nil => rfl
  | cons _ _ _ _ _ _ _ ih => simp [ih]
theorem Co.fx {c : Con} {target elt : Expr} {ds es : List PyData} {σ σ' : Sg} (h : Co c target elt ds es σ σ') : σ'.fx = σ.fx := by
  induction h with
  | nil => rfl
  | cons h1 h2 ho ha _ _ _ ih =>
    rename_i σ₂' _ _ _ _ _ _
    refine ih.trans (Eq.trans ?_ (h2.1.trans h1.1))
    unfold Sg.fx Sg.fp
    rw [ho, ha]

theorem compLoop_go {c : Con} {elt target iter : Expr} {scope : Scope} {pos : Pos} {it acc : Value} {env : Env} {R : Result → Shared → Prop} (I : Nat → Shared → Prop)
    (turn : ∀ n s, I n s → Wp c (pyNext it) (fun r s₁ => match r with
      | none => R (.ok .next) s₁
      | some v => Wp c (letOwnedTupleGo target it v) (fun _ s₁' => Wp c (assign target env v) (fun _ s₂ => Wp c (eval elt env) (fun x s₃ =>
          Wp c (call (.builtin "list.append") [acc, x]) (fun _ s₄ => ∃ m, m < n ∧ I m s₄) s₃) s₂) s₁') s₁) s)
    (n : Nat) (s : Shared) (h : I n s) : codeAny (model prg c.w) c.A (.compLoop (.ListComp elt [⟨target, iter, [], 0⟩] scope pos) 0 it acc env) R s := by
  refine codeAny_loop rfl I (fun n s hI => ?_) n h
  show wpAny _ _ ((compTurn (.ListComp elt [⟨target, iter, [], 0⟩] scope pos) 0 it acc env).onRaise (fun x => do noteFrame x env; theTreesLotGoes x)) _ _ s
  refine wpAny_noted ?_
  rw [compTurn_list1]
  refine wpAny_bind (wpAny_standAt (wpAny_bind (wpAny_mono (turn n s hI) (fun r s₁ h₁ => ?_) fun _ _ h' => h'.elim)))
  cases r with
  | none => exact wpAny_pure h₁
  | some v =>
    exact wpAny_bind (wpAny_mono h₁ (fun _ s₁' h₁' => wpAny_bind (wpAny_mono h₁' (fun _ s₂ h₂ => wpAny_bind (wpAny_bind (wpAny_mono h₂ (fun x s₃ h₃ => wpAny_bind (wpAny_mono h₃
      (fun _ s₄ h₄ => wpAny_pure (wpAny_pure ⟨rfl, h₄⟩)) fun _ _ h' => h'.elim)) fun _ _ h' => h'.elim))) fun _ _ h' => h'.elim)) fun _ _ h' => h'.elim)

/-- a name that the turns reach through its cell -/
def FreeIn (env env' : Env) (y : Str) : Prop := (env.kindOf y = some .cell ∨ env.kindOf y = some .free) ∧ (env'.kindOf y = some .cell ∨ env'.kindOf y = some .free) ∧ env'.cells.lookup y = env.cells.lookup y
theorem VarAt.free {env env' : Env} {h : Heap} {y : Str} {v : Value} (a : VarAt env h y v) (f : FreeIn env env' y) : VarAt env' h y v := by
  cases a with
  | loc m e1 e2 e3 =>
    obtain ⟨f1, f2, f3⟩ := f
    rw [e1] at f1; rcases f1 with q | q <;> cases q
  | cel a e1 e2 e3 => exact .cel a f.2.1 (f.2.2.trans e2) e3

structure CompOk (c : Con) (σ : Sg) (scope : Scope) (cl : List (Str × Addr)) (ρ : List (Str × PyData)) : Prop where
  clos : closureFor scope c.env = pure cl
  cells : ∀ y a, cl.lookup y = some a → c.env.cells.lookup y = some a
  cell : ∀ y ∈ scope.names, y.2 ≠ .cell
  kind : scope.kind = .function
  names : ∀ y ∈ scope.names, y.2 = .local → scope.names.lookup y.1 = some .local
  free : ∀ y d, ρ.lookup y = some d → σ.ρ.lookup y = some d ∧ ∀ C, FreeIn c.env (compEnvC scope cl C c.env) y
  own : match σ.own with
    | none => True
    | some (x, _, _) => ∀ C, FreeIn c.env (compEnvC scope cl C c.env) x

section
variable {c : Con} {σ σ' σ₁ σ₂ σ₃ : Sg} {e e₁ e₂ : Expr} {d d₁ d₂ d₃ : PyData} {p pos : Pos} {k : Nat} {x y z : Str} {w : World} {target elt iter : Expr} {scope : Scope} {cl : List (Str × Addr)} {ρ : List (Str × PyData)} {ds es : List PyData}

/-- what an owned list has become -/
def SameOwn : Option (Str × Addr × List PyData) → Option (Str × Addr × List PyData) → Prop
  | none, none => True
  | some (x, D, _), some (y, D', _) => x = y ∧ D = D'
  | _, _ => False

/-- what stands behind the turns -/
structure CompDone (c : Con) (σ : Sg) (es : List PyData) (own' : Option (Str × Addr × List PyData)) (pl' : Bool) (wr : List Addr) (h h' : Heap) (D C : Addr) : Prop where
  st : St c ⟨σ.ρ, own', σ.av, pl'⟩ h'
  keep : ∀ b o, h.get? b = some o → b ∉ wr → b ∉ σ.fp → h'.get? b = some o
  freshD : h.get? D = none
  freshC : h.get? C = none
  ne : D ≠ C
  ns : ∃ m, h'.Ns C m
  rd : ∃ bs, Rd h' (.ref D) (.list es) (D :: bs) ∧ (∀ a ∈ bs, a ∉ σ.off ∧ a ≠ D) ∧ Src c bs
  pls : ∃ n its, h'.get? D = some { cls := .type "list", data := .seq its n }

theorem off_mk {ρ : List (Str × PyData)} {own : Option (Str × Addr × List PyData)} {av : List Addr} {pl : Bool} {D a : Addr} (h : a ∉ (⟨ρ, own, D :: av, pl⟩ : Sg).off) : a ∉ (⟨ρ, own, av, pl⟩ : Sg).off ∧ a ≠ D := by
  refine ⟨fun q => h ?_, fun q => h ?_⟩
  · rcases List.mem_append.mp q with q | q
    · exact List.mem_append_left _ q
    · exact List.mem_append_right _ (.tail _ q)
  · subst q; exact List.mem_append_right _ (.head _)

set_option maxHeartbeats 1000000 in
theorem comp_core {own' : Option (Str × Addr × List PyData)} {pl' : Bool} {ρ' : Addr → Addr → List (Str × PyData)} {wr : List Addr} {it : Value} {s₂ : Shared} {RR : Value → Addr → Result → Shared → Prop} (X : St c σ s₂.heap) (K : CompOk c σ scope cl ρ) (hz : ds.length ≤ 2 ^ 20)
    (hit : Iter c σ.fp σ.off target ds wr it s₂.heap) (hw0 : ∀ b ∈ wr, c.h₀.get? b = none ∧ b ∉ c.W ∧ ∃ o vs, s₂.heap.get? b = some o ∧ o.data = .fields vs)
    (hso : SameOwn σ.own own') (hco : ∀ C D, Co (c.comp scope cl C) target elt ds es ⟨ρ, σ.own, D :: σ.av, σ.pl⟩ ⟨ρ' C D, own', D :: σ.av, pl'⟩)
    (hRR : ∀ D C h' tk, CompDone c σ es own' pl' wr s₂.heap h' D C → RR (.ref D) C (.ok .next) { s₂ with heap := h', toks := tk }) :
    Wp c (newList []) (fun acc s₃ => Wp c (newFunctionEnv scope c.env.globals cl [] c.env.qual none .none (some c.env)) (fun cenv s₄ =>
      codeAny (model prg c.w) c.A (.compStart (.ListComp elt [⟨target, iter, [], 0⟩] scope pos) 0 it acc { cenv with scope := relabel scope c.env }) (RR acc cenv.locals) s₄) s₃) s₂ := by
  refine wpAny_newObj_type (wpAny_newFunctionEnv K.cell (by intro y hy; simp at hy) (fun h₁ hns₁ hsb₁ => ?_) K.kind)
  dsimp only at hns₁ hsb₁ ⊢
  generalize hH2 : s₂.heap.push { cls := .type "list", dict := none, data := .seq ([] : List Value).toArray } = H2 at hns₁ hsb₁ ⊢
  generalize hDD : s₂.heap.objs.size = D at *
  generalize hCC : H2.objs.size = C at *
  have hCD : C = D + 1 := by rw [← hCC, ← hH2, Heap.size_push, hDD]
  have hDC : D ≠ C := by rw [hCD]; exact Nat.ne_of_lt (Nat.lt_succ_self _)
  have fresh : ∀ a, D ≤ a → s₂.heap.get? a = none := fun a ha => by
    cases e : s₂.heap.get? a with
    | none => rfl
    | some o' => exact absurd (Heap.lt_size e) (by rw [hDD]; exact Nat.not_lt.mpr ha)
  have hD2 : s₂.heap.get? D = none := fresh D (Nat.le_refl _)
  have hC2 : s₂.heap.get? C = none := fresh C (by rw [hCD]; exact Nat.le_succ _)
  have old : ∀ b o, s₂.heap.get? b = some o → h₁.get? b = some o := fun b o e => hsb₁.extBut b o (fun q => by rw [q, hC2] at e; cases e) (Heap.get?_push_of_some _ (hH2 ▸ Heap.get?_push_of_some _ e))
  have hacc : h₁.get? D = some { cls := .type "list", data := .seq ([] : List Value).toArray } := hsb₁.extBut _ _ hDC (Heap.get?_push_of_some _ (hH2 ▸ hDD ▸ Heap.get?_push_size _ rfl))
  obtain ⟨I, Inv, rfl, inv0, ikeep, iself, inext, idone⟩ := hit.ex
  have hCw : C ∉ wr := fun hm => by
    obtain ⟨_, _, o, vs, e, _⟩ := hw0 C hm
    rw [hC2] at e; cases e
  have hDw : D ∉ wr := fun hm => by
    obtain ⟨_, _, o, vs, e, _⟩ := hw0 D hm
    rw [hD2] at e; cases e
  have inv1 : Inv 0 h₁ := ikeep 0 _ _ [] [] inv0 (Keep.of old) (fun b hb => nomatch hb) (fun b hb => nomatch hb) (fun _ _ h => nomatch h) (fun _ h => nomatch h)
  -- the state of the turns, from the state around
  have hcW : ∀ b ∈ c.W, b ≠ C ∧ b ≠ D := fun b hb => by
    obtain ⟨o, e, _⟩ := X.wdata b hb
    exact ⟨(fun q => by rw [q, hC2] at e; cases e), (fun q => by rw [q, hD2] at e; cases e)⟩
  have X₁ := X.grow old
  have st0 : St (c.comp scope cl C) ⟨ρ, σ.own, D :: σ.av, σ.pl⟩ h₁ := by
    refine ⟨X₁.cx, X₁.fr, fun b hb => ?_, K.kind, X₁.globals, X₁.builtins, ⟨_, hns₁⟩, fun y a e => X₁.nscell y a (K.cells y a e), fun y z a e1 e2 => X₁.inj y z a (K.cells y a e1) (K.cells z a e2), fun b hb => ?_, fun y d e => ?_, fun b hb => ?_, ?_⟩
    · rw [List.mem_singleton.mp hb]; exact X.new hC2
    · rw [List.mem_singleton.mp hb]; exact ns_data hns₁
    · obtain ⟨q1, q2⟩ := K.free y d e
      obtain ⟨v, as, a1, a2, a3, a4⟩ := (X.vars y d q1).ex
      refine ⟨v, as, (a1.grow old).free (q2 C), a2.grow old, fun a ha hm => ?_, a4⟩
      rcases List.mem_append.mp hm with hm | hm
      · exact a3 a ha (List.mem_append_left _ hm)
      · rcases List.mem_cons.mp hm with rfl | hm
        · obtain ⟨o, q⟩ := a2.there a ha
          rw [hD2] at q; cases q
        · exact a3 a ha (List.mem_append_right _ hm)
    · rcases List.mem_cons.mp hb with rfl | hb
      · exact ⟨_, _, _, hacc, rfl, rfl⟩
      · exact X₁.avs b hb
    · have ko := K.own
      obtain ⟨ρσ, own, av, pl⟩ := σ
      cases own with
      | none => trivial
      | some t =>
        obtain ⟨y, D0, ds0⟩ := t
        obtain ⟨q1, ⟨as, q2, q2a, q2b⟩, q3, q4, q5, q6⟩ := X₁.own
        obtain ⟨_, ⟨as', q2', _⟩, _⟩ := X.own
        refine ⟨q1.free (ko C), ⟨as, q2, fun a ha hm => ?_, q2b⟩, q3, q4, fun hm => ?_, ?_⟩
        · rcases List.mem_cons.mp hm with rfl | hm
          · exact q2a _ ha (.head _)
          · rcases List.mem_cons.mp hm with rfl | hm
            · have r' : Rd s₂.heap (.ref D0) (.list ds0) (D0 :: as') := q2'
              have uq := ((r'.grow old).reads.unique _ _ q2.reads).2
              obtain ⟨o, q⟩ := r'.there a (by rw [uq]; exact .tail _ ha)
              rw [hD2] at q; cases q
            · exact q2a _ ha (.tail _ hm)
        · have : D0 = C := List.mem_singleton.mp hm
          subst this
          obtain ⟨o, q⟩ := q2'.there D0 (.head _)
          rw [hC2] at q; cases q
        · cases q : ρ.lookup y with
          | none => rfl
          | some d => rw [(K.free y d q).1] at q6; cases q6
  have hwC : ∀ b ∈ wr, b ∉ [C] := fun b hb hm => hCw (List.mem_singleton.mp hm ▸ hb)
  have hown : ∀ {y D0 ds0}, σ.own = some (y, D0, ds0) → ∃ o, s₂.heap.get? D0 = some o := fun {y D0 ds0} e => by
    have q := X.own
    rw [e] at q
    obtain ⟨_, ⟨as', q2', _⟩, _⟩ := q
    exact q2'.there D0 (.head _)
  have hDfp : D ∉ σ.fp := fun hm => by
    obtain ⟨ρσ, own, av, pl⟩ := σ
    cases own with
    | none => cases hm
    | some t =>
      obtain ⟨y, D0, ds0⟩ := t
      have : D = D0 := List.mem_singleton.mp hm
      subst this
      obtain ⟨o, q⟩ := hown rfl
      rw [hD2] at q; cases q
  have loop : ∀ s₃ : Shared, s₃ = { s₂ with heap := h₁, toks := s₂.toks + ([] : List (Str × Value)).length } →
      codeAny (model prg c.w) c.A (.compLoop (.ListComp elt [⟨target, iter, [], 0⟩] scope pos) 0 (.ref I) (.ref D) (compEnvC scope cl C c.env)) (RR (.ref D) C) s₃ := by
    rintro s₃ rfl
    have hCfp : C ∉ σ.fp := fun hm => by
      obtain ⟨ρσ, own, av, pl⟩ := σ
      cases own with
      | none => cases hm
      | some t =>
        obtain ⟨y, D0, ds0⟩ := t
        have : C = D0 := List.mem_singleton.mp hm
        subst this
        obtain ⟨o, q⟩ := hown rfl
        rw [hC2] at q; cases q
    refine compLoop_go (c := c) (fun n s' => ∃ i σi h' tk its n0 bs, s' = { s₂ with heap := h', toks := tk } ∧ n = ds.length + 1 - i ∧ i ≤ ds.length ∧ Co (c.comp scope cl C) target elt (ds.drop i) (es.drop i) σi ⟨ρ' C D, own', D :: σ.av, pl'⟩ ∧ σi.fp = σ.fp ∧ σi.av = D :: σ.av ∧
      St (c.comp scope cl C) σi h' ∧ Inv i h' ∧ (∀ b o, s₂.heap.get? b = some o → b ∉ wr → b ∉ σ.fp → h'.get? b = some o) ∧ h'.get? D = some { cls := .type "list", data := .seq (List.toArray its) n0 } ∧ RdAll h' its (es.take i) bs ∧ (∀ a ∈ bs, a ∉ σ.off ∧ a ≠ D) ∧ Src c bs) ?_ (ds.length + 1) _
      ⟨0, ⟨ρ, σ.own, D :: σ.av, σ.pl⟩, h₁, _, [], 0, [], rfl, rfl, Nat.zero_le _, by simpa using hco C D, rfl, rfl, st0, inv1, fun b o e _ _ => old b o e, hacc, by simpa using RdAll.nil, (fun _ ha => nomatch ha), (fun _ ha => nomatch ha)⟩
    rintro n s' ⟨i, σi, h', tk, its, n0, bs, rfl, rfl, hle, hcoi, hfp, hav, Xi, hInv, kp, hD', ra, hb, hsr⟩
    have hL : es.length = ds.length := (hco C D).length.symm
    have hoff : σi.off = σ.fp ++ D :: σ.av := by unfold Sg.off; rw [hfp, hav]
    by_cases hlt : i < ds.length
    · have hd : ds[i]? = some ds[i] := List.getElem?_eq_getElem hlt
      rw [List.drop_eq_getElem_cons hlt, List.drop_eq_getElem_cons (by omega : i < es.length)] at hcoi
      generalize hx : ds[i] = d at hd hcoi
      generalize hy : es[i]'(by omega) = e at hcoi
      cases hcoi with
      | cons c1 c2 c3 c4 c5 c6 c7 =>
        rename_i σa σb σc
        refine wpAny_mono (inext i { s₂ with heap := h', toks := tk } d (fun v s₄ => Wp c (assign target (compEnvC scope cl C c.env) v) (fun _ s₅ => Wp c (eval elt (compEnvC scope cl C c.env)) (fun y s₆ => Wp c (call (.builtin "list.append") [.ref D, y]) (fun _ s₇ => ∃ m, m < ds.length + 1 - i ∧ ∃ j σj h' tk its n0 bs, s₇ = { s₂ with heap := h', toks := tk } ∧ m = ds.length + 1 - j ∧ j ≤ ds.length ∧ Co (c.comp scope cl C) target elt (ds.drop j) (es.drop j) σj ⟨ρ' C D, own', D :: σ.av, pl'⟩ ∧ σj.fp = σ.fp ∧ σj.av = D :: σ.av ∧
          St (c.comp scope cl C) σj h' ∧ Inv j h' ∧ (∀ b o, s₂.heap.get? b = some o → b ∉ wr → b ∉ σ.fp → h'.get? b = some o) ∧ h'.get? D = some { cls := .type "list", data := .seq (List.toArray its) n0 } ∧ RdAll h' its (es.take j) bs ∧ (∀ a ∈ bs, a ∉ σ.off ∧ a ≠ D) ∧ Src c bs) s₆) s₅) s₄) hd hInv
          fun v as h₂ tk₂ stp inv₂ rv off src => ?_) (fun r s₄ q => ?_) (fun _ _ q => q.elim)
        · have Y : St (c.comp scope cl C) σi h₂ := Xi.kd stp.kd (fun b o e => stp.keep b o (fun hm => nomatch e.symm.trans (hw0 b hm).1) (Xi.old e)) fun b hb o e => stp.keep b o (fun hm => hwC b hm hb) e
          have r2 : RdAll h₂ its (es.take i) bs := ra.kd stp.kd
          have hD2' : h₂.get? D = some _ := stp.keep D _ hDw hD'
          refine c1.2 { s₂ with heap := h₂, toks := tk₂ } v as _ Y ⟨rv, fun a ha hm => ?_, src⟩ fun s₅ X₅ K₅ => c2.2 s₅ _ X₅ fun y cs s₆ X₆ K₆ B₆ => ?_
          · rw [hoff] at hm
            obtain ⟨q1, o, q2⟩ := off a ha
            rcases List.mem_append.mp hm with hm | hm
            · exact q1 (List.mem_append_left _ hm)
            · rcases List.mem_cons.mp hm with rfl | hm
              · rw [hD2] at q2; cases q2
              · exact q1 (List.mem_append_right _ hm)
          · have fa : σa.fp = σ.fp := (Sg.fp_of c1.1).trans hfp
            have fb : σb.fp = σ.fp := (Sg.fp_of c2.1).trans fa
            have kk : Keep [C] σ.fp h₂ s₆.heap := (hfp ▸ K₅.keep : Keep [C] σ.fp h₂ s₅.heap).trans (fa ▸ K₆.keep)
            have ls : Lists σ.fp h₂ := hfp ▸ Y.lists
            have r6 : RdAll s₆.heap its (es.take i) bs := RdAll.keep kk (Y.noseq) ls r2 fun a ha hm => (hb a ha).1 (List.mem_append_left _ hm)
            have hD6 : s₆.heap.get? D = some { cls := .type "list", data := .seq (List.toArray its) n0 } := kk D _ hD2' (fun hm => hDC (List.mem_singleton.mp hm)) hDfp
            have inv6 : Inv (i + 1) s₆.heap := by
              have i5 := ikeep (i + 1) h₂ s₅.heap [C] σ.fp inv₂ (hfp ▸ K₅.keep) Y.noseq ls hwC (fun _ h => .inl h)
              exact ikeep (i + 1) _ _ [C] σ.fp i5 (fa ▸ K₆.keep) X₅.noseq (fa ▸ X₅.lists) hwC (fun _ h => .inl h)
            obtain ⟨h₅, t₅, rfl, _⟩ := K₅
            obtain ⟨h₆, t₆, rfl, _⟩ := K₆
            have hlen : its.length = i := by rw [r6.length, List.length_take]; omega
            refine append_at hD6 (fun h₇ hs₇ hD₇ => ?_) (by rw [List.size_toArray, hlen]; show i ≤ 2 ^ 24; omega)
            have kD : Keep [] [D] h₆ h₇ := fun b o e _ hf => (hs₇.2 b fun q => hf (List.mem_singleton.mpr q)).trans e
            have lsD : Lists [D] h₆ := fun b hb => by rw [List.mem_singleton.mp hb]; exact ⟨_, _, _, hD6, rfl, rfl⟩
            have offb : ∀ a ∈ cs, a ∉ σ.off ∧ a ≠ D := fun a ha => by
              have q := B₆.off a ha
              have e : σb.off = σ.fp ++ D :: σ.av := by unfold Sg.off; rw [fb, (Sg.av_of c2.1).trans ((Sg.av_of c1.1).trans hav)]
              rw [e] at q
              refine ⟨fun hm => q ?_, fun hm => q ?_⟩
              · rcases List.mem_append.mp hm with hm | hm
                · exact List.mem_append_left _ hm
                · exact List.mem_append_right _ (.tail _ hm)
              · subst hm; exact List.mem_append_right _ (.head _)
            have r7 : RdAll h₇ (its ++ [y]) (es.take (i + 1)) (bs ++ cs) := by
              have e1 : es.take (i + 1) = es.take i ++ [e] := by
                rw [List.take_add_one, List.getElem?_eq_getElem (by omega), hy]; rfl
              rw [e1]
              have q : RdAll h₆ (its ++ [y]) (es.take i ++ [e]) (bs ++ cs) := by
                have := r6.append (.cons B₆.rd .nil)
                simpa using this
              refine RdAll.keep kD (fun _ hm => nomatch hm) lsD q fun a ha hm => ?_
              have : a = D := List.mem_singleton.mp hm
              rcases List.mem_append.mp ha with ha | ha
              · exact (hb a ha).2 this
              · exact (offb a ha).2 this
            have X₇ : St (c.comp scope cl C) σc h₇ := by
              have X₆' : St (c.comp scope cl C) σc h₆ := X₆.sub c3 c4 c5 c6
              have avc : σc.av = D :: σ.av := c4.trans ((Sg.av_of c2.1).trans ((Sg.av_of c1.1).trans hav))
              have fpc : σc.fp = σ.fp := by have : σc.fp = σb.fp := by unfold Sg.fp; rw [c3]
                                            exact this.trans fb
              have nsD : ∀ {a m}, h₆.Ns a m → a ≠ D := fun {a m} hn q => by
                subst q
                obtain ⟨o', e', z⟩ := ns_data hn
                rw [hD6] at e'; cases e'
                exact z _ _ rfl
              have ceD : ∀ {a v}, h₆.IsCell a v → a ≠ D := fun {a v} hn q => by
                subst q
                obtain ⟨o', e', z⟩ := cell_data hn
                rw [hD6] at e'; cases e'
                exact z _ _ rfl
              have va : ∀ {y v}, VarAt (c.comp scope cl C).env h₆ y v → VarAt (c.comp scope cl C).env h₇ y v := fun a => by
                cases a with
                | loc m e1 e2 e3 => exact .loc m e1 (e2.sameBut hs₇ (nsD e2)) e3
                | cel a e1 e2 e3 => exact .cel a e1 e2 (e3.sameBut hs₇ (ceD e3))
              have rk : ∀ {v d as}, Rd h₆ v d as → (∀ a ∈ as, a ∉ σc.off) → Rd h₇ v d as := fun {v d as} r f => Rd.keep kD (fun _ hm => nomatch hm) lsD r fun a ha hm => by
                have : a = D := List.mem_singleton.mp hm
                subst this
                exact f _ ha (List.mem_append_right _ (by rw [avc]; exact .head _))
              refine ⟨X₆'.cx, ?_, X₆'.wnew, X₆'.kind, X₆'.globals, X₆'.builtins, ?_, fun y a e => ?_, X₆'.inj, fun b hb' => ?_, fun y d e => ?_, fun b hb' => ?_, ?_⟩
              · obtain ⟨m, F⟩ := X₆'.fr
                exact ⟨m, F.ns.sameBut hs₇ (nsD F.ns), fun b o e => (hs₇.2 b fun q => by
                  have e' : c.h₀.get? b = some o := e
                  exact nomatch (q ▸ e').symm.trans (X.new hD2)).trans (F.keep b o e), F.above⟩
              · obtain ⟨m, z⟩ := X₆'.nsl; exact ⟨m, z.sameBut hs₇ (nsD z)⟩
              · obtain ⟨v, z⟩ := X₆'.nscell y a e; exact ⟨v, z.sameBut hs₇ (ceD z)⟩
              · obtain ⟨o, e, z⟩ := X₆'.wdata b hb'
                exact ⟨o, (hs₇.2 b fun q => by
                  subst q
                  exact hDC (List.mem_singleton.mp hb')).trans e, z⟩
              · obtain ⟨v, as', a1, a2, a3, a4⟩ := (X₆'.vars y d e).ex
                exact ⟨v, as', va a1, rk a2 a3, a3, a4⟩
              · by_cases q : b = D
                · subst q; exact ⟨_, _, _, hD₇, rfl, rfl⟩
                · obtain ⟨o, ys, n, e, z⟩ := X₆'.avs b hb'
                  exact ⟨o, ys, n, (hs₇.2 b q).trans e, z⟩
              · have fpc' := fpc
                have hown6 := X₆'.own
                obtain ⟨ρc, ownc, avc', plc⟩ := σc
                cases ownc with
                | none => trivial
                | some t =>
                  obtain ⟨y, D0, ds0⟩ := t
                  have D0n : D0 ≠ D := fun q => hDfp (by rw [← fpc', ← q]; exact List.mem_singleton.mpr rfl)
                  obtain ⟨q1, ⟨as, q2, q2a, q2b⟩, q3, q4, q5, q6⟩ := hown6
                  refine ⟨va q1, ⟨as, Rd.keep kD (fun _ hm => nomatch hm) lsD q2 fun a ha hm => ?_, q2a, q2b⟩, fun z => ?_, q4, q5, q6⟩
                  · have : a = D := List.mem_singleton.mp hm
                    subst this
                    rcases List.mem_cons.mp ha with q | ha
                    · exact D0n q.symm
                    · exact q2a _ ha (.tail _ (by have : avc' = _ := avc; rw [this]; exact .head _))
                  · obtain ⟨o, e1, e2⟩ := q3 z
                    exact ⟨o, (hs₇.2 D0 D0n).trans e1, e2⟩
            refine ⟨ds.length + 1 - (i + 1), by omega, i + 1, σc, h₇, t₆, its ++ [y], _, bs ++ cs, rfl, rfl, hlt, c7, ?_, c4.trans ((Sg.av_of c2.1).trans ((Sg.av_of c1.1).trans hav)), X₇, ?_, fun b o e hbw hbf => ?_, by rw [hD₇]; simp; rfl, r7, fun a ha => ?_, fun a ha => ?_⟩
            · have : σc.fp = σb.fp := by unfold Sg.fp; rw [c3]
              exact this.trans fb
            · exact ikeep (i + 1) h₆ h₇ [] [D] inv6 kD (fun _ h => nomatch h) lsD (fun _ _ h => nomatch h) fun a ha => by rw [List.mem_singleton.mp ha]; exact .inr hD2
            · have q1 := kp b o e hbw hbf
              have q2 := stp.keep b o hbw q1
              have q3 := kk b o q2 (fun hm => by rw [List.mem_singleton.mp hm, hC2] at e; cases e) hbf
              exact (hs₇.2 b fun q => by rw [q, hD2] at e; cases e).trans q3
            · rcases List.mem_append.mp ha with ha | ha
              · exact hb a ha
              · exact offb a ha
            · rcases List.mem_append.mp ha with ha | ha
              · exact hsr a ha
              · exact B₆.src a ha
        · obtain ⟨v, rfl, q⟩ := q
          exact q
    · obtain rfl : i = ds.length := Nat.le_antisymm hle (Nat.not_lt.mp hlt)
      rw [List.drop_length, ← hL, List.drop_length] at hcoi
      rw [List.take_of_length_le (by omega)] at ra
      cases hcoi
      refine wpAny_mono (idone { s₂ with heap := h', toks := tk } (fun s₃ => RR (.ref D) C (.ok .next) s₃) hInv fun h₂ tk₂ stp => hRR D C h₂ tk₂ ?_) (fun r s₃ q => by obtain ⟨rfl, q⟩ := q; exact q) (fun _ _ q => q.elim)
      have Y : St (c.comp scope cl C) ⟨ρ' C D, own', D :: σ.av, pl'⟩ h₂ := Xi.kd stp.kd (fun b o e => stp.keep b o (fun hm => nomatch e.symm.trans (hw0 b hm).1) (Xi.old e)) fun b hb o e => stp.keep b o (fun hm => hwC b hm hb) e
      have kp2 : Keep wr σ.fp s₂.heap h₂ := fun b o e hw hf => stp.keep b o hw (kp b o e hw hf)
      have nsw : NoSeq wr s₂.heap := fun b hb o e xs n q => by
        obtain ⟨_, _, o', vs, e', q'⟩ := hw0 b hb
        rw [e] at e'; cases e'
        rw [q] at q'; cases q'
      have kn : ∀ b o, s₂.heap.get? b = some o → (∀ vs, o.data ≠ .fields vs) → (∀ xs n, o.data ≠ .seq xs n) → h₂.get? b = some o := fun b o e h1 h2 => kp2 b o e (fun hm => by
        obtain ⟨_, _, o', vs, e', q'⟩ := hw0 b hm
        rw [e] at e'; cases e'
        exact h1 _ q') (fun hm => by
        obtain ⟨o', xs, n, e', _, q'⟩ := X.lists b hm
        rw [e] at e'; cases e'
        exact h2 _ _ q')
      have nk : ∀ {a m}, s₂.heap.Ns a m → h₂.Ns a m := fun {a m} ⟨o, es, ep, e, q, r⟩ => ⟨o, es, ep, kn _ _ e (fun vs z => by rw [q] at z; cases z) (fun xs n z => by rw [q] at z; cases z), q, r⟩
      have ck : ∀ {a v}, s₂.heap.IsCell a v → h₂.IsCell a v := fun {a v} ⟨o, e, q⟩ => ⟨o, kn _ _ e (fun vs z => by rw [q] at z; cases z) (fun xs n z => by rw [q] at z; cases z), q⟩
      have vk : ∀ {y v}, VarAt c.env s₂.heap y v → VarAt c.env h₂ y v := fun a => by
        cases a with
        | loc m e1 e2 e3 => exact .loc m e1 (nk e2) e3
        | cel a e1 e2 e3 => exact .cel a e1 e2 (ck e3)
      have rk : ∀ {v d as}, Rd s₂.heap v d as → (∀ a ∈ as, a ∉ σ.off) → Rd h₂ v d as := fun {v d as} r f => Rd.keep kp2 nsw X.lists r fun a ha => Sg.not_fp (f a ha)
      refine ⟨⟨X.cx, Y.fr, X.wnew, X.kind, X.globals, X.builtins, ?_, fun y a e => ?_, X.inj, fun b hb' => ?_, fun y d e => ?_, fun b hb' => ?_, ?_⟩, kp2, hD2, hC2, hDC, Y.nsl, ⟨bs, ?_, hb, hsr⟩, ⟨_, _, stp.keep D _ hDw hD'⟩⟩
      · obtain ⟨m, z⟩ := X.nsl; exact ⟨m, nk z⟩
      · obtain ⟨v, z⟩ := X.nscell y a e; exact ⟨v, ck z⟩
      · obtain ⟨o, e, z⟩ := X.wdata b hb'
        refine ⟨o, kp2 b o e (fun hm => (hw0 b hm).2.1 hb') (fun hm => ?_), z⟩
        obtain ⟨o', xs, n, e', _, q'⟩ := X.lists b hm
        rw [e] at e'; cases e'
        exact z _ _ q'
      · obtain ⟨v, as', a1, a2, a3, a4⟩ := (X.vars y d e).ex
        have hf' : (⟨σ.ρ, own', σ.av, pl'⟩ : Sg).fp = σ.fp := hfp
        refine ⟨v, as', vk a1, rk a2 a3, fun a ha hm => a3 a ha ?_, a4⟩
        unfold Sg.off at hm ⊢
        rw [hf'] at hm
        exact hm
      · by_cases q : b ∈ σ.fp
        · exact Y.lists b (by rw [hfp]; exact q)
        · obtain ⟨o, ys, n, e, z1, z2⟩ := X.avs b hb'
          exact ⟨o, ys, n, kp2 b o e (fun hm => nsw b hm o e _ _ z2) q, z1, z2⟩
      · have hX := X.own
        have hY := Y.own
        obtain ⟨ρσ, own, av, pl⟩ := σ
        cases own with
        | none =>
          cases own' with
          | none => trivial
          | some t => exact hso.elim
        | some t =>
          cases own' with
          | none => exact hso.elim
          | some t' =>
            obtain ⟨y, D0, ds0⟩ := t
            obtain ⟨y', D0', ds0'⟩ := t'
            obtain ⟨h1, h2⟩ := hso
            subst h1 h2
            obtain ⟨q1, q2, q3, q4, q5, q6⟩ := hX
            obtain ⟨p1, ⟨as, p2, p2a, p2b⟩, p3, p4, p5, p6⟩ := hY
            exact ⟨vk q1, ⟨as, p2, fun a ha hm => p2a a ha (by
              rcases List.mem_cons.mp hm with rfl | hm
              · exact .head _
              · exact .tail _ (.tail _ hm)), p2b⟩, p3, q4, q5, q6⟩
      · exact rd_list ⟨_, stp.keep D _ hDw hD', rfl, _, rfl⟩ (ra.kd stp.kd)
  exact codeAny_compStart_list (loop _ rfl) (wpAny_mono (iself _ _ inv1 (loop _ rfl)) (fun _ _ q => q) (fun _ _ q => q.elim))

theorem St.same {h h' : Heap} {C : Addr} (X : St c σ h) (hs : Heap.SameBut C h h') (hn : ∃ m, h.Ns C m) (hL : C ≠ c.L) (hl : C ≠ c.env.locals) (hW : C ∉ c.W) (h0 : c.h₀.get? C = none) : St c σ h' := by
  obtain ⟨mC, hn⟩ := hn
  obtain ⟨oC, eC, zC⟩ := ns_data hn
  have kp : Keep [C] [] h h' := fun b o e hw _ => (hs.2 b fun q => hw (List.mem_singleton.mpr q)).trans e
  have nsC : NoSeq [C] h := fun b hb o e xs n q => by
    rw [List.mem_singleton.mp hb, eC] at e; cases e
    exact zC _ _ q
  have ceD : ∀ {a v}, h.IsCell a v → a ≠ C := fun {a v} q e => ns_not_cell hn (e ▸ q) rfl
  have va : ∀ {y v}, VarAt c.env h y v → VarAt c.env h' y v := fun a => by
    cases a with
    | loc m e1 e2 e3 => exact .loc m e1 (e2.sameBut hs (Ne.symm hl)) e3
    | cel a e1 e2 e3 => exact .cel a e1 e2 (e3.sameBut hs (ceD e3))
  have rk : ∀ {v d as}, Rd h v d as → Rd h' v d as := fun {v d as} r => Rd.keep kp nsC (fun _ hm => nomatch hm) r (fun _ _ hm => nomatch hm)
  refine ⟨X.cx, ?_, X.wnew, X.kind, X.globals, X.builtins, ?_, fun y a e => ?_, X.inj, fun b hb' => ?_, fun y d e => ?_, fun b hb' => ?_, ?_⟩
  · obtain ⟨m, F⟩ := X.fr
    exact ⟨m, F.ns.sameBut hs (Ne.symm hL), fun b o e => (hs.2 b fun q => by rw [q, h0] at e; cases e).trans (F.keep b o e), F.above⟩
  · obtain ⟨m, z⟩ := X.nsl; exact ⟨m, z.sameBut hs (Ne.symm hl)⟩
  · obtain ⟨v, z⟩ := X.nscell y a e; exact ⟨v, z.sameBut hs (ceD z)⟩
  · obtain ⟨o, e, z⟩ := X.wdata b hb'
    exact ⟨o, (hs.2 b fun q => hW (q ▸ hb')).trans e, z⟩
  · obtain ⟨v, as', a1, a2, a3, a4⟩ := (X.vars y d e).ex
    exact ⟨v, as', va a1, rk a2, a3, a4⟩
  · obtain ⟨o, ys, n, e, z1, z2⟩ := X.avs b hb'
    exact ⟨o, ys, n, kp b o e (fun hm => nsC b hm o e _ _ z2) (fun hm => nomatch hm), z1, z2⟩
  · obtain ⟨ρ, own, av, pl⟩ := σ
    cases own with
    | none => trivial
    | some t =>
      obtain ⟨y, D, ds⟩ := t
      obtain ⟨q1, ⟨as, q2, q2a⟩, q3, q4⟩ := X.own
      refine ⟨va q1, ⟨as, rk q2, q2a⟩, fun z => ?_, q4⟩
      obtain ⟨o, e1, e2⟩ := q3 z
      cases q2 with
      | list h1 h2 h3 h4 =>
        rw [h1] at e1; cases e1
        exact ⟨_, kp D _ h1 (fun hm => nsC D hm _ h1 _ _ h3) (fun hm => nomatch hm), e2⟩

/-- the end of a comprehension, its names let go -/
theorem comp_end {own' : Option (Str × Addr × List PyData)} {pl' : Bool} {wr : List Addr} {s s₂ : Shared} {h' h'' : Heap} {D C : Addr} {tk : Nat} (X : St c σ₁ s₂.heap) (K : Kp c σ s s₂) (ef : σ₁.fx = σ.fx) (hw : ∀ b ∈ wr, s.heap.get? b = none) (hso : SameOwn σ₁.own own')
    (cd : CompDone c σ₁ es own' pl' wr s₂.heap h' D C) (hs : Heap.SameBut C h' h'') :
    St c ⟨σ₁.ρ, own', σ₁.av, pl'⟩ h'' ∧ Kp c σ s { s₂ with heap := h'', toks := tk } ∧ ∃ as, Bears c ⟨σ₁.ρ, own', σ₁.av, pl'⟩ h'' (.ref D) (.list es) as := by
  have hL : C ≠ c.L := fun q => by
    obtain ⟨m, F⟩ := X.fr
    obtain ⟨o, e, _⟩ := ns_data F.ns
    rw [← q, cd.freshC] at e; cases e
  have hl : C ≠ c.env.locals := fun q => by
    obtain ⟨m, F⟩ := X.nsl
    obtain ⟨o, e, _⟩ := ns_data F
    rw [← q, cd.freshC] at e; cases e
  have st := cd.st.same hs cd.ns hL hl (X.wnot cd.freshC) (X.new cd.freshC)
  obtain ⟨mC, hn⟩ := cd.ns
  obtain ⟨oC, eC, zC⟩ := ns_data hn
  obtain ⟨bs, r, hb, hsr⟩ := cd.rd
  have r' : Rd h'' (.ref D) (.list es) (D :: bs) := Rd.keep (W := [C]) (F := []) (fun b o e hw _ => (hs.2 b fun q => hw (List.mem_singleton.mpr q)).trans e) (fun b hb o e xs n q => by
    rw [List.mem_singleton.mp hb, eC] at e; cases e
    exact zC _ _ q) (fun _ hm => nomatch hm) r (fun _ _ hm => nomatch hm)
  have offE : (⟨σ₁.ρ, own', σ₁.av, pl'⟩ : Sg).off = σ₁.off := by
    unfold Sg.off Sg.fp
    cases h1 : σ₁.own with
    | none => cases own' with
      | none => rfl
      | some t => rw [h1] at hso; exact hso.elim
    | some t => cases own' with
      | none => rw [h1] at hso; exact hso.elim
      | some t' =>
        rw [h1] at hso
        obtain ⟨_, e⟩ := hso
        simp only [e]
  refine ⟨st, ?_, D :: bs, r', fun a ha => ?_, fun a ha => ?_⟩
  · obtain ⟨h1, t1, rfl, k1⟩ := K
    refine ⟨h'', tk, rfl, fun b o e hW hF => ?_⟩
    have q1 := k1 b o e hW hF
    have q2 := cd.keep b o q1 (fun hm => by rw [hw b hm] at e; cases e) (fun hm => hF (Sg.fp_of ef ▸ hm))
    exact (hs.2 b fun q => by
      subst q
      exact nomatch q1.symm.trans cd.freshC).trans q2
  · rw [offE]
    rcases List.mem_cons.mp ha with rfl | ha
    · exact X.offp cd.freshD
    · exact (hb a ha).1
  · rcases List.mem_cons.mp ha with rfl | ha
    · exact .inl (X.new cd.freshD)
    · exact hsr a ha
theorem fx_own {own' : Option (Str × Addr × List PyData)} {pl' : Bool} {ρ₀ : List (Str × PyData)} (hso : SameOwn σ₁.own own') : (⟨ρ₀, own', σ₁.av, pl'⟩ : Sg).fx = σ₁.fx := by
  unfold Sg.fx Sg.fp
  cases h1 : σ₁.own with
  | none => cases own' with
    | none => rfl
    | some t => rw [h1] at hso; exact hso.elim
  | some t => cases own' with
    | none => rw [h1] at hso; exact hso.elim
    | some t' =>
      rw [h1] at hso
      obtain ⟨_, e⟩ := hso
      simp only [e]

theorem comp_hw {wr : List Addr} {it : Value} {s s₂ : Shared} (X : St c σ s.heap) (hw : ∀ b ∈ wr, s.heap.get? b = none) (hit : Iter c σ₁.fp σ₁.off target ds wr it s₂.heap) : ∀ b ∈ wr, c.h₀.get? b = none ∧ b ∉ c.W ∧ ∃ o vs, s₂.heap.get? b = some o ∧ o.data = .fields vs :=
  fun b hb => ⟨X.new (hw b hb), X.wnot (hw b hb), hit.flds b hb⟩

theorem ev_comp {own' : Option (Str × Addr × List PyData)} {pl' : Bool} {ρ' : Addr → Addr → List (Str × PyData)} (h : It c σ iter σ₁ ds target) (K : CompOk c σ₁ scope cl ρ) (hz : ds.length ≤ 2 ^ 20) (hso : SameOwn σ₁.own own')
    (hco : ∀ C D, Co (c.comp scope cl C) target elt ds es ⟨ρ, σ₁.own, D :: σ₁.av, σ₁.pl⟩ ⟨ρ' C D, own', D :: σ₁.av, pl'⟩) (hs : ∀ x, foldedSetIterable iter c.env x = pure x := by intro _; rfl) :
    Ev c σ (.ListComp elt [⟨target, iter, [], 0⟩] scope pos) ⟨σ₁.ρ, own', σ₁.av, pl'⟩ (.list es) := by
  refine ⟨(fx_own hso).trans h.1, fun s Q X hq => ?_⟩
  rw [eval_ListComp]
  refine wpAny_comprehension_free (use := none) rfl hs K.clos K.kind K.names (h.2 s _ X fun it wr s₂ X₂ K₂ hw hit => ?_)
  refine comp_core (RR := fun acc C => compPost (model prg c.w) c.A (fun _ _ => False) none Q acc C) X₂ K hz hit (comp_hw X hw hit) hso hco fun D C h' tk cd => ?_
  obtain ⟨m, hn⟩ := cd.ns
  refine ⟨m, hn, fun h'' hs'' => ?_⟩
  obtain ⟨st, kp, as, B⟩ := comp_end (tk := tk) X₂ K₂ h.1 hw hso cd hs''
  exact hq _ as _ st kp B
theorem sx_comp {own' : Option (Str × Addr × List PyData)} {pl' : Bool} {ρ' : Addr → Addr → List (Str × PyData)} {py spos : Pos} (h : It c σ iter σ₁ ds target) (K : CompOk c σ₁ scope cl ρ) (hz : ds.length ≤ 2 ^ 20) (hso : SameOwn σ₁.own own')
    (hco : ∀ C D, Co (c.comp scope cl C) target elt ds es ⟨ρ, σ₁.own, D :: σ₁.av, σ₁.pl⟩ ⟨ρ' C D, own', D :: σ₁.av, pl'⟩) (P : Place c y) (hno : (⟨σ₁.ρ, own', σ₁.av, pl'⟩ : Sg).notOwn y)
    (hsw : swapsWith (.ListComp elt [⟨target, iter, [], 0⟩] scope pos) (some (.Name y py)) spos.line c.env = pure true := by rfl) (hs : ∀ x, foldedSetIterable iter c.env x = pure x := by intro _; rfl) :
    Sx c σ (.Assign [.Name y py] (.ListComp elt [⟨target, iter, [], 0⟩] scope pos) spos) (.next ⟨(y, .list es) :: σ₁.ρ, own', σ₁.av, pl'⟩) := by
  refine ⟨fun a ha => fp_fx ((fx_own (ρ₀ := σ₁.ρ) (pl' := pl') hso).trans h.1) a ha, fun s Q X hq => ?_⟩
  rw [exec_Assign_Name_used _ _ _ _ hsw]
  refine wpAny_bind (wpAny_standAt (wpAny_bind ?_))
  show Wp c (do let _ ← comprehension (.ListComp elt [⟨target, iter, [], 0⟩] scope pos) scope c.env _ (newList []) false (eval iter c.env) (some (assign (.Name y py) c.env))) _ s
  refine wpAny_bind (wpAny_mono (wpAny_comprehension_free (use := some (assign (.Name y py) c.env)) (Q := fun _ s' => Q .next s') rfl hs K.clos K.kind K.names (h.2 s _ X fun it wr s₂ X₂ K₂ hw hit => ?_)) (fun _ s' hq => wpAny_pure (wpAny_pure hq)) fun _ _ e => e)
  refine comp_core (RR := fun acc C => compPost (model prg c.w) c.A (fun _ _ => False) (some (assign (.Name y py) c.env)) (fun _ s' => Q .next s') acc C) X₂ K hz hit (comp_hw X hw hit) hso hco fun D C h' tk cd => ?_
  obtain ⟨m, hn⟩ := cd.ns
  obtain ⟨st, kp, as, B⟩ := comp_end (tk := tk) X₂ K₂ h.1 hw hso cd (Heap.SameBut.refl ..)
  show Wp c (assign (.Name y py) c.env (.ref D)) _ _
  refine wpAny_assign_Name (store_ok (σ := ⟨σ₁.ρ, own', σ₁.av, pl'⟩) P hno st B fun s₅ X₅ K₅ => ?_)
  obtain ⟨h₅, t₅, rfl, k₅⟩ := K₅
  have fpE : (⟨σ₁.ρ, own', σ₁.av, pl'⟩ : Sg).fp = σ₁.fp := Sg.fp_of (fx_own hso)
  have hCfp : C ∉ (⟨σ₁.ρ, own', σ₁.av, pl'⟩ : Sg).fp := fun hm => X₂.offp cd.freshC (List.mem_append_left _ (fpE ▸ hm))
  have hn5 : h₅.Ns C m := by
    obtain ⟨o, es', ep, e, q, r⟩ := hn
    exact ⟨o, es', ep, k₅ C o e (X₂.wnot cd.freshC) hCfp, q, r⟩
  refine ⟨m, hn5, fun h'' hs'' => ?_⟩
  have hL : C ≠ c.L := fun q => by
    obtain ⟨m, F⟩ := X₂.fr
    obtain ⟨o, e, _⟩ := ns_data F.ns
    rw [← q, cd.freshC] at e; cases e
  have hl : C ≠ c.env.locals := fun q => by
    obtain ⟨m, F⟩ := X₂.nsl
    obtain ⟨o, e, _⟩ := ns_data F
    rw [← q, cd.freshC] at e; cases e
  have X₆ := X₅.same hs'' ⟨m, hn5⟩ hL hl (X₂.wnot cd.freshC) (X₂.new cd.freshC)
  refine hq _ _ ?_ ⟨rfl, X₆⟩
  obtain ⟨h1, t1, e1, k1⟩ := kp
  have e1' : ({ s₂ with heap := h', toks := tk } : Shared) = { s with heap := h1, toks := t1 } := e1
  have hh : h' = h1 := congrArg Shared.heap e1'
  subst hh
  obtain ⟨h2, t2, rfl, k2⟩ := K₂
  refine ⟨h'', t₅, rfl, fun b o e hW hF => ?_⟩
  have q1 := k1 b o e hW hF
  have q2 := k₅ b o q1 hW (fun hm => hF (Sg.fp_of h.1 ▸ fpE ▸ hm))
  exact (hs''.2 b fun q => by
    subst q
    have q0 := k2 b o e hW hF
    exact nomatch q0.symm.trans cd.freshC).trans q2
end
end
section
open PySem PySem.W PyProof.Rows PySem.Calls PySem.Spec
set_option maxRecDepth 100000
section
variable {c : Con} {σ σ' σ₁ σ₂ σ₃ : Sg} {e e₁ e₂ e₃ : Expr} {d d₁ d₂ d₃ : PyData} {p pos : Pos} {k : Nat} {x y z : Str} {w : World} {o : Out} {st : Stmt} {ss rest : List Stmt} {ds : List PyData} {ρ ρ' : List (Str × PyData)}

theorem as_tuple_l {ts : List Expr} {u : Nat} (h1 : AsL c σ ts ds σ') : As c σ (.Tuple ts u p) (.list ds) σ' := by
  obtain ⟨f, l, e, i, h1⟩ := h1
  refine ⟨f, fun s v as Q X B h => ?_⟩
  obtain ⟨a, vs, bs, rfl, rfl, hl, r⟩ := list_of B.rd
  rw [arm_assign_Tuple]
  refine wpAny_bind (wpAny_standAt ?_)
  unfold unpack
  have en : (assignEach ts c.env).length = vs.toArray.size := by rw [e, l, List.size_toArray, r.length]
  rw [en, i]
  refine wpAny_bind (wpAny_holding (kun_itemsOf X.cx.handled hl fun h' hx => ?_))
  have kp : ∀ b o, s.heap.get? b = some o → h'.get? b = some o := fun b o q => hx b o (Nat.ne_of_lt (Heap.lt_size q)) q
  exact h1 { s with heap := h' } vs bs _ (X.grow kp) ⟨r.grow kp, fun a ha => B.off a (.tail _ ha), fun a ha => B.src a (.tail _ ha)⟩ fun s₂ X₂ K₂ => h s₂ X₂ ((Kp.grow (tk := s.toks) kp).trans rfl K₂)

theorem sx_dec {i j : Int} (hl : σ.ρ.lookup x = some (.int i)) (h : Ev c σ e σ₁ (.int j)) (P : Place c x) (hno : σ₁.notOwn x) : Sx c σ (.AugAssign (.Name x p) .Sub e pos) (.next (σ₁.set x (.int (i - j)))) := by
  refine ⟨fp_fx h.1, fun s Q X hq => wpAny_AugAssign_Name ?_⟩
  obtain ⟨v, as, a, r, f, q⟩ := (X.vars x _ hl).ex
  obtain ⟨t, rfl, rfl⟩ := int_of r
  have fin : Wp c (eval e c.env) (fun v s₂ => Wp c (inplaceOp .Sub (.int i t) v) (fun new s₃ => Wp c (storeName c.env x new) (fun _ s₄ => Q .next s₄) s₃) s₂) s := h.2 s _ X fun v as s₁ x₁ k₁ b₁ => by
    obtain ⟨t', rfl, rfl⟩ := int_of b₁.rd
    refine PySem.P.isub_int ?_
    refine store_ok (s := { s₁ with toks := s₁.toks + 1 }) P hno x₁ (Bears.plain (.int _ _)) fun s₂ x₂ k₂ => hq _ s₂ ((k₁.trans h.1 (Kp.grow (s := s₁) fun _ _ e => e)).trans h.1 k₂) ⟨rfl, x₂⟩
  cases a with
  | loc m e1 e2 e3 => exact wpAny_loadName_local X.kind e1 e2 e3 fin
  | cel a e1 e2 e3 => cases P with
    | loc hl hw => rw [hl] at e1; rcases e1 with q | q <;> cases q
    | cel a hl hc hw => exact wpAny_loadName_cell X.kind hl e2 e3 fin

theorem evl_two_inv {s : Shared} {vs as} (b : BearsAll c σ s.heap vs [d₁, d₂] as) : ∃ v u as₁ as₂, vs = [v, u] ∧ Bears c σ s.heap v d₁ as₁ ∧ Bears c σ s.heap u d₂ as₂ := by
  obtain ⟨v1, v2, as₁, as₂, rfl, rfl, r1, r2⟩ := two_inv b.rd
  exact ⟨v1, v2, as₁, as₂, rfl, ⟨r1, fun a ha => b.off a (List.mem_append_left _ ha), fun a ha => b.src a (List.mem_append_left _ ha)⟩, ⟨r2, fun a ha => b.off a (List.mem_append_right _ ha), fun a ha => b.src a (List.mem_append_right _ ha)⟩⟩
/-- a tuple of values is made, and taken apart again -/
theorem tup_unpack {vs : List Value} {n : Nat} {s : Shared} {Q : List Value → Shared → Prop} (X : St c σ s.heap) (hn : n = vs.length) (hz : vs.length ≤ 1000)
    (h : ∀ s', St c σ s'.heap → (∃ h' tk, s' = { s with heap := h', toks := tk } ∧ ∀ b o, s.heap.get? b = some o → h'.get? b = some o) → Q vs s') : Wp c (newTuple vs) (fun v s₁ => Wp c (unpackItems v n none) Q s₁) s := by
  subst hn
  refine wpAny_newObj_type ?_ (by show vs.toArray.size ≤ sizeLine; rw [List.size_toArray]; show vs.length ≤ 2 ^ 24; omega)
  have g1 : ∀ b o, s.heap.get? b = some o → (s.heap.push { cls := .type "tuple", dict := none, data := .seq vs.toArray }).get? b = some o := fun _ _ e => Heap.get?_push_of_some _ e
  have ht : Heap.IsTuple (s.heap.push { cls := .type "tuple", dict := none, data := .seq vs.toArray }) s.heap.objs.size vs.toArray := ⟨_, Heap.get?_push_size _ rfl, rfl, _, rfl⟩
  rw [show vs.length = vs.toArray.size by simp]
  refine wpAny_unpackItems_tuple (s := { s with heap := s.heap.push { cls := .type "tuple", dict := none, data := .seq vs.toArray } }) X.cx.handled ht fun h' hx => ?_
  have g : ∀ b o, s.heap.get? b = some o → h'.get? b = some o := fun b o q => hx b o (Nat.ne_of_lt (Heap.lt_size (g1 b o q))) (g1 b o q)
  exact h _ (X.grow g) ⟨h', s.toks, rfl, g⟩

theorem Bears.grow {h h' : Heap} {v : Value} {as : List Addr} (B : Bears c σ h v d as) (g : ∀ b o, h.get? b = some o → h'.get? b = some o) : Bears c σ h' v d as := ⟨B.rd.grow g, B.off, B.src⟩
/-- a value that stood before the owned list -/
theorem Bears.own {h h₁ h' : Heap} {D : Addr} {v : Value} {as : List Addr} {ρ₁ : List (Str × PyData)} (B : Bears c σ h v d as) (k : ∀ a ∈ as, ∃ o, h₁.get? a = some o) (hD : h₁.get? D = none) (r : Rd h' v d as) (ho : σ.own = none) : Bears c ⟨ρ₁, some (x, D, ds), D :: σ.av, true⟩ h' v d as := by
  refine ⟨r, fun a ha hm => ?_, B.src⟩
  obtain ⟨o, e⟩ := k a ha
  have q := B.off a ha
  unfold Sg.off Sg.fp at q
  rw [ho] at q
  rcases List.mem_append.mp hm with hm | hm
  · rw [List.mem_singleton.mp hm, hD] at e; cases e
  · rcases List.mem_cons.mp hm with rfl | hm
    · rw [hD] at e; cases e
    · exact q (List.mem_append_right _ hm)

/-- «x, y = e₁, e₂»: the second a new list, owned by y -/
theorem ex_own2 {ts : List Expr} {u u' : Nat} {tp vp : Pos} (h1 : Ev c σ e₁ σ₁ d₁) (h2 : EvF c σ₁ e₂ σ₂ ds) (Px : Place c x) (Py : Place c y) (ho : σ.own = none) (ho2 : σ₂.own = none) (hxy : (y == x) = false)
    (hρ : ∀ z d, ρ.lookup z = some d → z ≠ y ∧ σ₂.ρ.lookup z = some d) (hr : ∀ D, Ex c ⟨(x, d₁) :: ρ, some (y, D, ds), D :: σ₂.av, true⟩ rest (.ret d))
    (hs : swapsWithSole [.Tuple ts u tp] (.Tuple [e₁, e₂] u' vp) pos.line c.env = pure false := by rfl) (hw : swappedStores [.Tuple ts u tp] (.Tuple [e₁, e₂] u' vp) c.env = pure (some [x, y]) := by rfl)
    (he : starEach [e₁, e₂] c.env = [(false, eval e₁ c.env), (false, eval e₂ c.env)] := by rfl) :
    Ex c σ (.Assign [.Tuple ts u tp] (.Tuple [e₁, e₂] u' vp) pos :: rest) (.ret d) := by
  refine ⟨trivial, fun s Q X hq => wpAny_execs_cons (Assign_Tuple_swapped (Tuple_ ?_) hs hw)⟩
  rw [show backTo vp (starEach [e₁, e₂] c.env) = [(false, eval e₁ c.env), (false, eval e₂ c.env)] by rw [he]; rfl]
  refine spliced_cons (h1.2 s _ X fun v as s₁ X₁ k₁ B₁ => spliced_cons (h2.2 s₁ _ X₁ fun D bs s₂ h' tk X₂ k₂ g n r f sr dn => spliced_nil ?_))
  have B₂ := B₁.kp X₁ k₂ h2.1
  obtain ⟨l, vs, cs, q1, q2, hl, ra⟩ := list_of r
  cases q1; cases q2
  have X₃ := X₂.avoid g n hl ho2
  refine tup_unpack (s := { s₂ with heap := h', toks := tk }) X₃ rfl (Nat.le_of_ble_eq_true rfl) fun s₄ X₄ ⟨h₄, t₄, e4, g4⟩ => ?_
  subst e4
  show Wp c (do holding [v] (bindName c.env y (.ref D)); assignInOrder [bindName c.env x] [v]) _ _
  obtain ⟨od, ed, ddn⟩ := dn
  refine wpAny_bind (wpAny_holding (wpAny_bindName (store_own (s := { s₂ with heap := h₄, toks := t₄ }) (σ := ⟨σ₂.ρ, none, D :: σ₂.av, σ₂.pl⟩) Py X₄ rfl (List.mem_cons_self ..) (r.grow g4) (fun a ha hm => ?_) sr (X₂.new n) (X₂.wnot n) ⟨od, g4 _ _ ed, ddn⟩ hρ fun s₅ X₅ k₅ => ?_)))
  · obtain ⟨⟨o, eo⟩, fa⟩ := f a ha
    rcases List.mem_cons.mp hm with rfl | hm
    · rw [n] at eo; cases eo
    · exact fa (List.mem_append_right _ hm)
  · have off3 : ∀ a ∈ as, a ∉ (⟨σ₂.ρ, none, D :: σ₂.av, σ₂.pl⟩ : Sg).off := fun a ha hm => by
      obtain ⟨o, eo⟩ := B₂.rd.there a ha
      rcases List.mem_cons.mp hm with rfl | hm
      · rw [n] at eo; cases eo
      · exact B₂.off a ha (List.mem_append_right _ hm)
    have r5 : Rd s₅.heap v d₁ as := X₄.keep k₅.keep ((B₂.rd.grow g).grow g4) off3
    have B₅ : Bears c ⟨ρ, some (y, D, ds), D :: σ₂.av, true⟩ s₅.heap v d₁ as := B₂.own (B₂.rd.there) n r5 ho2
    show Wp c (do holding [] (bindName c.env x v); pure ()) _ s₅
    refine wpAny_bind (wpAny_holding (wpAny_bindName (store_ok (σ := ⟨ρ, some (y, D, ds), D :: σ₂.av, true⟩) Px hxy X₅ B₅ fun s₆ X₆ k₆ => wpAny_pure ((hr D).2 s₆ Q X₆ fun fl s₇ k₇ q => hq fl s₇ ?_ q))))
    obtain ⟨a1, t1, rfl, K1⟩ := k₁
    obtain ⟨a2, t2, rfl, K2⟩ := k₂
    obtain ⟨a5, t5, rfl, K5⟩ := k₅
    obtain ⟨a6, t6, rfl, K6⟩ := k₆
    obtain ⟨a7, t7, rfl, K7⟩ := k₇
    have f1 : σ₁.fp = σ.fp := Sg.fp_of h1.1
    refine ⟨a7, t7, rfl, fun b ob eb hb hf => ?_⟩
    have q1 := K1 b ob eb hb hf
    have q2 : a2.get? b = some ob := K2 b ob q1 hb (f1 ▸ hf)
    have hbD : b ≠ D := fun q => by
      subst q
      exact nomatch q2.symm.trans n
    have q3 := g4 b ob (g b ob q2)
    have q5 := K5 b ob q3 hb (fun hm => nomatch hm)
    have q6 := K6 b ob q5 hb (fun hm => hbD (List.mem_singleton.mp hm))
    exact K7 b ob q6 hb (fun hm => hbD (List.mem_singleton.mp hm))

/-- «x, y, z = e₁, e₂, e₃»: the first a new list, owned by x -/
theorem ex_own3 {ts : List Expr} {u u' : Nat} {tp vp : Pos} (h1 : EvF c σ e₁ σ₁ ds) (ho : σ.own = none) (ho1 : σ₁.own = none) (h2 : ∀ D, Ev c ⟨σ₁.ρ, none, D :: σ₁.av, σ₁.pl⟩ e₂ ⟨σ₁.ρ, none, D :: σ₁.av, σ₁.pl⟩ d₂) (h3 : ∀ D, Ev c ⟨σ₁.ρ, none, D :: σ₁.av, σ₁.pl⟩ e₃ ⟨σ₁.ρ, none, D :: σ₁.av, σ₁.pl⟩ d₃)
    (Px : Place c x) (Py : Place c y) (Pz : Place c z) (hρ : ∀ t d, ρ.lookup t = some d → t ≠ x ∧ ((y, d₂) :: (z, d₃) :: σ₁.ρ).lookup t = some d) (hr : ∀ D, Ex c ⟨ρ, some (x, D, ds), D :: σ₁.av, true⟩ rest (.ret d))
    (hs : swapsWithSole [.Tuple ts u tp] (.Tuple [e₁, e₂, e₃] u' vp) pos.line c.env = pure false := by rfl) (hw : swappedStores [.Tuple ts u tp] (.Tuple [e₁, e₂, e₃] u' vp) c.env = pure (some [x, y, z]) := by rfl)
    (he : starEach [e₁, e₂, e₃] c.env = [(false, eval e₁ c.env), (false, eval e₂ c.env), (false, eval e₃ c.env)] := by rfl) :
    Ex c σ (.Assign [.Tuple ts u tp] (.Tuple [e₁, e₂, e₃] u' vp) pos :: rest) (.ret d) := by
  refine ⟨trivial, fun s Q X hq => wpAny_execs_cons (Assign_Tuple_swapped (Tuple_ ?_) hs hw)⟩
  rw [show backTo vp (starEach [e₁, e₂, e₃] c.env) = [(false, eval e₁ c.env), (false, eval e₂ c.env), (false, eval e₃ c.env)] by rw [he]; rfl]
  refine spliced_cons (h1.2 s _ X fun D bs s₁ h' tk X₁ k₁ g n r f sr dn => spliced_cons ?_)
  obtain ⟨l, vs, cs, q1, q2, hl, ra⟩ := list_of r
  cases q1; cases q2
  have X₂ := X₁.avoid g n hl ho1
  have hfb : ∀ a ∈ bs, a ∉ D :: σ₁.av := fun a ha hm => by
    obtain ⟨⟨o, eo⟩, fa⟩ := f a ha
    rcases List.mem_cons.mp hm with rfl | hm
    · rw [n] at eo; cases eo
    · exact fa (List.mem_append_right _ hm)
  have offn : ∀ {a : Addr} {ρ₀ : List (Str × PyData)}, a ∉ D :: σ₁.av → a ∉ (⟨ρ₀, none, D :: σ₁.av, σ₁.pl⟩ : Sg).off := fun h hm => h hm
  -- the list stays as it is while the others are reckoned
  refine (h2 D).2 { s₁ with heap := h', toks := tk } _ X₂ fun v as s₂ X₃ k₂ B₂ => spliced_cons ((h3 D).2 s₂ _ X₃ fun v' as' s₃ X₄ k₃ B₃ => spliced_nil ?_)
  obtain ⟨a2, t2, rfl, K2⟩ := k₂
  obtain ⟨a3, t3, rfl, K3⟩ := k₃
  have keepD : ∀ {hh hh' : Heap}, Keep c.W [] hh hh' → ∀ {ob : Obj}, hh.get? D = some ob → hh'.get? D = some ob := fun {hh hh'} K {ob} e => K D ob e (X₁.wnot n) (fun hm => nomatch hm)
  have r3 : Rd a3 (.ref D) (.list ds) (D :: bs) := by
    have q2 : Rd a2 (.ref D) (.list ds) (D :: bs) := Rd.keep (W := c.W) (F := []) K2 X₂.noseq (fun _ hm => nomatch hm) r (fun _ _ hm => nomatch hm)
    exact Rd.keep (W := c.W) (F := []) K3 X₃.noseq (fun _ hm => nomatch hm) q2 (fun _ _ hm => nomatch hm)
  have B₂' : Bears c ⟨σ₁.ρ, none, D :: σ₁.av, σ₁.pl⟩ a3 v d₂ as := B₂.kp (s := { s₁ with heap := a2, toks := t2 }) (s' := { s₁ with heap := a3, toks := t3 }) X₃ ⟨a3, t3, rfl, K3⟩ rfl
  refine tup_unpack (s := { s₁ with heap := a3, toks := t3 }) X₄ rfl (Nat.le_of_ble_eq_true rfl) fun s₄ X₅ ⟨h₄, t₄, e4, g4⟩ => ?_
  subst e4
  have B₂'' := B₂'.grow g4
  have B₃'' := B₃.grow g4
  show Wp c (do holding [v, .ref D] (bindName c.env z v'); assignInOrder [bindName c.env y, bindName c.env x] [v, .ref D]) _ _
  refine wpAny_bind (wpAny_holding (wpAny_bindName (store_ok (s := { s₁ with heap := h₄, toks := t₄ }) (σ := ⟨σ₁.ρ, none, D :: σ₁.av, σ₁.pl⟩) Pz trivial X₅ B₃'' fun s₅ X₆ k₅ => ?_)))
  show Wp c (do holding [.ref D] (bindName c.env y v); assignInOrder [bindName c.env x] [.ref D]) _ _
  have B₂3 : Bears c ⟨(z, d₃) :: σ₁.ρ, none, D :: σ₁.av, σ₁.pl⟩ s₅.heap v d₂ as := B₂''.kp (s := { s₁ with heap := h₄, toks := t₄ }) X₅ k₅ rfl
  refine wpAny_bind (wpAny_holding (wpAny_bindName (store_ok (σ := ⟨(z, d₃) :: σ₁.ρ, none, D :: σ₁.av, σ₁.pl⟩) Py trivial X₆ B₂3 fun s₆ X₇ k₆ => ?_)))
  show Wp c (do holding [] (bindName c.env x (.ref D)); pure ()) _ _
  obtain ⟨a5, t5, rfl, K5⟩ := k₅
  obtain ⟨a6, t6, rfl, K6⟩ := k₆
  have r6 : Rd a6 (.ref D) (.list ds) (D :: bs) := by
    have q5 : Rd a5 (.ref D) (.list ds) (D :: bs) := Rd.keep (W := c.W) (F := []) K5 X₅.noseq (fun _ hm => nomatch hm) (r3.grow g4) (fun _ _ hm => nomatch hm)
    exact Rd.keep (W := c.W) (F := []) K6 X₆.noseq (fun _ hm => nomatch hm) q5 (fun _ _ hm => nomatch hm)
  obtain ⟨od, ed, ddn⟩ := dn
  have ed6 : a6.get? D = some od := keepD K6 (keepD K5 (g4 _ _ (keepD K3 (keepD K2 ed))))
  refine wpAny_bind (wpAny_holding (wpAny_bindName (store_own (s := { s₁ with heap := a6, toks := t6 }) (σ := ⟨(y, d₂) :: (z, d₃) :: σ₁.ρ, none, D :: σ₁.av, σ₁.pl⟩) Px X₇ rfl (List.mem_cons_self ..) r6 hfb sr (X₁.new n) (X₁.wnot n) ⟨od, ed6, ddn⟩ hρ fun s₇ X₈ k₇ =>
    wpAny_pure ((hr D).2 s₇ Q X₈ fun fl s₈ k₈ q => hq fl s₈ ?_ q))))
  obtain ⟨a1, t1, rfl, K1⟩ := k₁
  obtain ⟨a7, t7, rfl, K7⟩ := k₇
  obtain ⟨a8, t8, rfl, K8⟩ := k₈
  refine ⟨a8, t8, rfl, fun b ob eb hb hf => ?_⟩
  have q1 : a1.get? b = some ob := K1 b ob eb hb hf
  have hbD : b ≠ D := fun q => by
    subst q
    exact nomatch q1.symm.trans n
  have nf : ∀ {P : Prop}, b ∈ ([] : List Addr) → P := fun hm => nomatch hm
  have q2 := K2 b ob (g b ob q1) hb (fun hm => nf hm)
  have q3 := K3 b ob q2 hb (fun hm => nf hm)
  have q5 := K5 b ob (g4 b ob q3) hb (fun hm => nf hm)
  have q6 := K6 b ob q5 hb (fun hm => nf hm)
  have q7 := K7 b ob q6 hb (fun hm => nf hm)
  exact K8 b ob q7 hb (fun hm => hbD (List.mem_singleton.mp hm))
end
end
section
open PySem PySem.W PyProof.Rows PySem.Calls PySem.Spec
set_option maxRecDepth 100000
theorem bindL_off {kindOf : Str → Option NameKind} : ∀ {binds : List (Str × Value)} {m : Str → Option Value} {y : Str}, y ∉ binds.map (·.1) → bindL kindOf binds m y = m y
  | [], _, _, _ => rfl
  | (n, v) :: r, m, y, h => by
    have h1 : y ≠ n := fun q => h (by rw [q]; exact .head _)
    have h2 : y ∉ r.map (·.1) := fun q => h (.tail _ q)
    rw [bindL, bindL_off h2]
    split
    · simp [h1]
    · rfl
theorem bindC_off {kindOf : Str → Option NameKind} : ∀ {binds : List (Str × Value)} {m : Str → Option Value} {y : Str}, y ∉ binds.map (·.1) → bindC kindOf binds m y = m y
  | [], _, _, _ => rfl
  | (n, v) :: r, m, y, h => by
    have h1 : y ≠ n := fun q => h (by rw [q]; exact .head _)
    have h2 : y ∉ r.map (·.1) := fun q => h (.tail _ q)
    rw [bindC, bindC_off h2]
    split
    · rfl
    · simp [h1]
theorem bindL_at {kindOf : Str → Option NameKind} : ∀ {binds : List (Str × Value)} {m : Str → Option Value} {y : Str} {v : Value}, (binds.map (·.1)).Nodup → binds.lookup y = some v → kindOf y = some .local → bindL kindOf binds m y = some v
  | [], _, _, _, _, h, _ => nomatch h
  | (n, u) :: r, m, y, v, nd, h, hk => by
    rw [List.map_cons, List.nodup_cons] at nd
    rw [List.lookup_cons] at h
    rw [bindL]
    by_cases q : y = n
    · subst q
      simp at h
      subst h
      rw [bindL_off nd.1, if_pos hk]
      simp
    · have q' : (y == n) = false := by simpa using q
      rw [q'] at h
      exact bindL_at nd.2 h hk
theorem bindC_at {kindOf : Str → Option NameKind} : ∀ {binds : List (Str × Value)} {m : Str → Option Value} {y : Str} {v : Value}, (binds.map (·.1)).Nodup → binds.lookup y = some v → kindOf y ≠ some .local → bindC kindOf binds m y = some v
  | [], _, _, _, _, h, _ => nomatch h
  | (n, u) :: r, m, y, v, nd, h, hk => by
    rw [List.map_cons, List.nodup_cons] at nd
    rw [List.lookup_cons] at h
    rw [bindC]
    by_cases q : y = n
    · subst q
      simp at h
      subst h
      rw [bindC_off nd.1, if_neg hk]
      simp
    · have q' : (y == n) = false := by simpa using q
      rw [q'] at h
      exact bindC_at nd.2 h hk

def defCon (w : World) (k : Nat) (A : Around) (h₀ : Heap) (L : Addr) (S : List Addr) (qual : Str) (scope : Scope) (fa : Addr) (cdv : Value) : Con :=
  { w := w, n := k, A := A, h₀ := h₀, L := L, env := envOfC qual scope L fa cdv, W := L :: (cellsFrom (L + 1) scope.names []).map (·.2), S := S }

theorem zip_lookup {h : Heap} : ∀ {ps : List Str} {vs : List Value} {ds : List PyData} {as : List Addr} {y : Str} {d : PyData}, RdAll h vs ds as → (ps.zip ds).lookup y = some d → ∃ v bs, (ps.zip vs).lookup y = some v ∧ Rd h v d bs ∧ ∀ a ∈ bs, a ∈ as
  | [], _, _, _, _, _, _, e => nomatch e
  | _ :: _, _, [], _, _, _, _, e => nomatch e
  | p :: ps, _, d :: ds, _, y, d', .cons (v := v) (vs := vs) h1 h2, e => by
    rw [List.zip_cons_cons, List.lookup_cons] at e
    rw [List.zip_cons_cons, List.lookup_cons]
    cases q : y == p with
    | true =>
      rw [q] at e
      cases e
      exact ⟨_, _, rfl, h1, fun a ha => List.mem_append_left _ ha⟩
    | false =>
      rw [q] at e
      obtain ⟨v, bs, e1, r, hs⟩ := zip_lookup h2 e
      exact ⟨v, bs, e1, r, fun a ha => List.mem_append_right _ (hs a ha)⟩
theorem zip_fst : ∀ {ps : List Str} {vs : List Value}, ps.length = vs.length → (ps.zip vs).map (·.1) = ps
  | [], _, _ => rfl
  | p :: ps, v :: vs, h => by rw [List.zip_cons_cons, List.map_cons, zip_fst (by simpa using h)]

theorem fn_intro {w : World} {x : Str} {fa : Addr} {oc : Value} {od : Option Addr} {osl : Array (Option Value)} {name qual : Str} {params : Arguments} {body : List Stmt} {scope : Scope} {dV kV doc pm : Value} {an : Option Addr} {cdv ct : Value} {ps : List Str} {ds : List PyData} {d : PyData} {k : Nat}
    (hn : nsIn (KF w) mainGlobals x = some (some (.ref fa))) (ho : (KF w).lookup fa = some ⟨oc, od, .func (fnX name qual params body scope [] dV kV doc pm an cdv ct), osl⟩) (hcd : codeIn (KF w) cdv qual = true)
    (hlen : ps.length = ds.length) (hbind : ∀ vs : List Value, vs.length = ds.length → bindArgs (fnX name qual params body scope [] dV kV doc pm an cdv ct) ⟨vs, []⟩ = pure (ps.zip vs))
    (hkind : (ps.all fun y => scope.names.lookup y == some .local || scope.names.lookup y == some .cell) = true) (hnd : ps.Nodup) (hcn : ((cellsFrom 0 scope.names []).map (·.1)).Nodup)
    (hco : scope.isCoroutine = false) (hgen : scope.isGenerator = false) (hk : scope.kind = .function)
    (hb : ∀ A h₀ L S, Ex (defCon w k A h₀ L S qual scope fa cdv) ⟨ps.zip ds, none, [], true⟩ body (.ret d)) : Fn w x (k + 1) ds d := by
  refine ⟨fa, oc, od, _, osl, hn, ho, fun A h₀ L s vs as Q cx fr rd hq => ?_⟩
  obtain ⟨A₀, base, outer, env, mean, mg, mb, B, hA, hf, hke, K, T⟩ := cx.ex
  obtain ⟨m, F⟩ := fr
  have Ks : (KF w).In s.heap := fun a o e => F.keep a o (K a o e)
  obtain ⟨FG, BG, st, lv⟩ := groundX (R := fun r s' => True) B F (News.nil (h₀ := h₀) (L := L)) hA hf hke
  have hv : vs.length = ds.length := rd.length
  have lookOf : ∀ {n : Nat} {y : Str} {a : Addr}, (y, a) ∈ cellsFrom n scope.names [] → (cellsFrom n scope.names []).lookup y = some a := fun {n y a} hm => lookup_of_mem_nodup (cellsFrom_names scope.names 0 n [] [] rfl ▸ hcn) hm
  refine wpAny_call (codeAny_call_function (by have := cx.depth; omega) (Ks _ _ ho) rfl hco hgen rfl (codeRec_of Ks hcd) ?_)
  rw [hbind vs hv]
  refine wpAny_pure (wpAny_newFunctionEnv_cells hk (kindsX (by
    rw [List.all_eq_true] at hkind ⊢
    intro z hz
    exact hkind z.1 (by rw [← zip_fst (hlen.trans hv.symm)]; exact List.mem_map.mpr ⟨z, hz, rfl⟩)) _) fun env' he s' x => ?_)
  subst he
  refine ⟨(T.nolimit.keeps F.keep).keeps x.toInCall.keep, codeAny_func ?_⟩
  obtain ⟨h₁, tk, rfl, hk₁⟩ := x.done
  have hbod := hb (A.deeper (envOfC qual scope s.heap.objs.size fa cdv)) s.heap s.heap.objs.size as
  have hfresh : ∀ {a : Addr}, s.heap.objs.size ≤ a → s.heap.get? a = none := fun {a} ha => by
    cases q : s.heap.get? a with
    | none => rfl
    | some o => exact absurd (Heap.lt_size q) (Nat.not_lt.mpr ha)
  have X : St (defCon w k (A.deeper (envOfC qual scope s.heap.objs.size fa cdv)) s.heap s.heap.objs.size as qual scope fa cdv) ⟨ps.zip ds, none, [], true⟩ h₁ := by
    refine ⟨⟨⟨A, base, env :: outer, envOfC qual scope s.heap.objs.size fa cdv, mean, mg, mb, BG, Around.frames_deeper hA, rfl, hk, Ks, T.keeps F.keep⟩, cx.handled, ?_, ?_⟩, ⟨_, x.toInCall.ns, hk₁, Nat.le_refl _⟩, fun b hb' => ?_, hk, rfl, rfl, ⟨_, x.toInCall.ns⟩, fun y a e => ⟨_, x.cell y a e⟩, fun y z a e1 e2 => ?_, fun b hb' => ?_, fun y dy e => ?_, (fun b hb' => nomatch hb'), trivial⟩
    · show A.depth + 1 + k < recursionLimit
      have := cx.depth; omega
    · show A.units + 3 + 8 * k + 64 < cLine
      have := cx.units; omega
    · rcases List.mem_cons.mp hb' with rfl | hb'
      · exact fresh_size _
      · obtain ⟨⟨n, a⟩, hm, rfl⟩ := List.mem_map.mp hb'
        exact hfresh (Nat.le_of_lt (x.above n a hm))
    · exact name_of_addr x.apart (mem_of_lookup e1) (mem_of_lookup e2)
    · rcases List.mem_cons.mp hb' with rfl | hb'
      · exact ns_data x.toInCall.ns
      · obtain ⟨⟨n, a⟩, hm, rfl⟩ := List.mem_map.mp hb'
        exact cell_data (x.cell n a (lookOf hm))
    · obtain ⟨v, bs, e1, r, hs⟩ := zip_lookup rd e
      have e1' : (ps.zip vs).lookup y = some v := e1
      have hmem : y ∈ ps := by
        have : y ∈ (ps.zip vs).map (·.1) := List.mem_map.mpr ⟨(y, v), mem_of_lookup e1', rfl⟩
        rwa [zip_fst (hlen.trans hv.symm)] at this
      have nd : ((ps.zip vs).map (·.1)).Nodup := by rw [zip_fst (hlen.trans hv.symm)]; exact hnd
      refine ⟨v, bs, ?_, r.grow hk₁, (fun a ha hm => nomatch hm), fun a ha => .inr (hs a ha)⟩
      have hky := List.all_eq_true.mp hkind y hmem
      rcases Bool.or_eq_true_iff.mp hky with q | q
      · have q' : scope.names.lookup y = some .local := by simpa using q
        exact .loc _ q' x.toInCall.ns (bindL_at nd e1' q')
      · have q' : scope.names.lookup y = some .cell := by simpa using q
        have hsome : ((cellsFrom (s.heap.objs.size + 1) scope.names []).lookup y).isSome = true := cellsFrom_some scope.names _ [] (.inl q')
        obtain ⟨a, ea⟩ := Option.isSome_iff_exists.mp hsome
        have hc := x.cell y a ea
        have e2 : bindC (envOfC qual scope s.heap.objs.size fa cdv).kindOf (ps.zip vs) (fun _ => none) y = some v := bindC_at nd e1' (fun z => by
          have z' : scope.names.lookup y = some .local := z
          rw [q'] at z'; cases z')
        have hc' : h₁.IsCell a (some v) := e2 ▸ hc
        exact .cel a (.inl q') ea hc'
  refine wpAny_mono (hbod.2 { s with heap := h₁, toks := tk } (fun f s' => ∃ v, f = .ret v ∧ Q v s') X fun f s' kp fin => ?_) (fun f s' q => ?_) (fun _ _ q => q.elim)
  · obtain ⟨v, bs, rfl, ⟨m', F'⟩, r, src⟩ := fin
    obtain ⟨h₂, t₂, rfl, k₂⟩ := kp
    exact ⟨v, rfl, hq v bs h₂ t₂ (fun b o e => F'.keep b o e) r src⟩
  · obtain ⟨v, rfl, q⟩ := q
    exact q
end
section
open PySem PySem.W PyProof.Rows PySem.Calls PySem.Spec
set_option maxRecDepth 100000
section
variable {c : Con} {σ σ' σ₁ σ₂ σ₃ : Sg} {e e₁ e₂ e₃ : Expr} {d d₁ d₂ d₃ : PyData} {p pos : Pos} {k : Nat} {x y z : Str} {w : World} {o : Out} {st : Stmt} {ss rest : List Stmt} {ds : List PyData} {ρ ρ' : List (Str × PyData)}

theorem ev_mod {i j : Int} (h1 : Ev c σ e₁ σ₁ (.int i)) (h2 : Ev c σ₁ e₂ σ₂ (.int j)) (hj : j ≠ 0) : Ev c σ (.BinOp e₁ .Mod e₂ pos) σ₂ (.int (i.fmod j)) :=
  ev_binop h1 h2 (op_int2 (t := binaryOp .Mod) fun h => mod_int' hj h) (Nat.zero_le _)
theorem ev_fdiv {i j : Int} (h1 : Ev c σ e₁ σ₁ (.int i)) (h2 : Ev c σ₁ e₂ σ₂ (.int j)) (hj : j ≠ 0) (hp : Builtin.divisionGoesByPylong i j = false) : Ev c σ (.BinOp e₁ .FloorDiv e₂ pos) σ₂ (.int (i.fdiv j)) :=
  ev_binop h1 h2 (op_int2 (t := binaryOp .FloorDiv) fun h => floordiv_int hj h (Or.inl hp)) (Nat.zero_le _)

theorem ev_abs {i : Int} (h : Ev c σ e σ' (.int i)) (hk : c.env.kindOf "abs" = some .globalImplicit) (hn : nsIn (KF c.w) mainGlobals "abs" = some none) (he : starEach [e] c.env = [(false, eval e c.env)]) :
    Ev c σ (.Call (.Name "abs" p) [e] [] pos) σ' (.int i.natAbs) :=
  ev_bi hk hn (by decide +kernel) op_abs (Nat.zero_le _) (evl_cons h evl_nil he) he (by rw [he]; rfl)
theorem ev_len {ds : List PyData} (h : Ev c σ e σ' (.list ds)) (hk : c.env.kindOf "len" = some .globalImplicit) (hn : nsIn (KF c.w) mainGlobals "len" = some none) (he : starEach [e] c.env = [(false, eval e c.env)]) (hz : ds.length < 2 ^ 60) :
    Ev c σ (.Call (.Name "len" p) [e] [] pos) σ' (.int ds.length) :=
  ev_bi hk hn (by decide +kernel) (op_len (by omega)) (Nat.zero_le _) (evl_cons h evl_nil he) he (by rw [he]; rfl)
theorem ev_reprb {b : Bool} (h : Ev c σ e σ' (.bool b)) (hk : c.env.kindOf "repr" = some .globalImplicit) (hn : nsIn (KF c.w) mainGlobals "repr" = some none) (he : starEach [e] c.env = [(false, eval e c.env)]) :
    Ev c σ (.Call (.Name "repr" p) [e] [] pos) σ' (.str (if b then "True" else "False")) :=
  ev_bi hk hn (by decide +kernel) op_reprb (Nat.zero_le _) (evl_cons h evl_nil he) he (by rw [he]; rfl)
theorem ev_max {i j : Int} (h : Ev c σ e₁ σ₁ (.int i)) (h2 : Ev c σ₁ e₂ σ₂ (.int j)) (hk : c.env.kindOf "max" = some .globalImplicit) (hn : nsIn (KF c.w) mainGlobals "max" = some none) (he : starEach [e₁, e₂] c.env = [(false, eval e₁ c.env), (false, eval e₂ c.env)]) (he2 : starEach [e₂] c.env = [(false, eval e₂ c.env)]) :
    Ev c σ (.Call (.Name "max" p) [e₁, e₂] [] pos) σ₂ (.int (max i j)) :=
  ev_bi hk hn (by decide +kernel) op_max (Nat.zero_le _) (evl_cons h (evl_cons h2 evl_nil he2) (by rw [he, he2])) (by rw [he, he2]) (by rw [he]; rfl)
theorem ev_min {i j : Int} (h : Ev c σ e₁ σ₁ (.int i)) (h2 : Ev c σ₁ e₂ σ₂ (.int j)) (hk : c.env.kindOf "min" = some .globalImplicit) (hn : nsIn (KF c.w) mainGlobals "min" = some none) (he : starEach [e₁, e₂] c.env = [(false, eval e₁ c.env), (false, eval e₂ c.env)]) (he2 : starEach [e₂] c.env = [(false, eval e₂ c.env)]) :
    Ev c σ (.Call (.Name "min" p) [e₁, e₂] [] pos) σ₂ (.int (min i j)) :=
  ev_bi hk hn (by decide +kernel) op_min (Nat.zero_le _) (evl_cons h (evl_cons h2 evl_nil he2) (by rw [he, he2])) (by rw [he, he2]) (by rw [he]; rfl)
theorem Ts.as {b b' : Bool} (h : Ts c σ e σ' b) (q : b = b') : Ts c σ e σ' b' := q ▸ h
theorem Ev.as (h : Ev c σ e σ' d) (q : d = d₁) : Ev c σ e σ' d₁ := q ▸ h
theorem Ex.as (h : Ex c σ ss (.ret d)) (q : d = d₁) : Ex c σ ss (.ret d₁) := q ▸ h
theorem ex_assign (d : PyData) (h : Ev c σ e σ d) (P : Place c x) (hno : σ.notOwn x) (hr : Ex c (σ.set x d) rest o) (hs : swapsWith e (some (.Name x p)) pos.line c.env = pure false := by rfl) : Ex c σ (.Assign [.Name x p] e pos :: rest) o :=
  ex_cons (sx_assign h P hno hs) hr
theorem ex_return (h : Ev c σ e σ₁ d) : Ex c σ (.Return (some e) pos :: rest) (.ret d) := ex_ret (sx_return h)
theorem sub_nil {ρ : List (Str × PyData)} : ∀ y d, ([] : List (Str × PyData)).lookup y = some d → ρ.lookup y = some d := fun _ _ h => nomatch h
theorem sub_cons {x : Str} {d : PyData} {r : List (Str × PyData)} (h : ρ.lookup x = some d) (hr : ∀ y d, r.lookup y = some d → ρ.lookup y = some d) : ∀ y e, ((x, d) :: r).lookup y = some e → ρ.lookup y = some e := by
  intro y e q
  rw [List.lookup_cons] at q
  by_cases hx : y = x
  · subst hx
    simp at q
    rw [h, q]
  · have hx' : (y == x) = false := by simpa using hx
    rw [hx'] at q
    exact hr y e q
theorem ex_weak (h : Ex c σ ss (.next σ₁)) (ho : σ₂.own = σ₁.own) (ha : σ₂.av = σ₁.av) (hp : σ₂.pl = σ₁.pl) (hs : ∀ y d, σ₂.ρ.lookup y = some d → σ₁.ρ.lookup y = some d) : Ex c σ ss (.next σ₂) := by
  have e : σ₂.fp = σ₁.fp := by unfold Sg.fp; rw [ho]
  refine ⟨fun a ha => h.1 a (e ▸ ha), fun s Q X hq => h.2 s Q X fun f s' k ⟨e1, X'⟩ => hq f s' k ⟨e1, X'.sub ho ha hp hs⟩⟩
theorem Wh.oo {t : Expr} {body : List Stmt} (h : Ts c σ t σ false) : ∃ n, Wh c t body n σ σ := ⟨0, .done h⟩
theorem Wh.go {t : Expr} {body : List Stmt} (h : Ts c σ t σ true) (h1 : Ex c σ body (.next σ₁)) (ho : σ₂.own = σ₁.own) (ha : σ₂.av = σ₁.av) (hp : σ₂.pl = σ₁.pl) (hs : ∀ y d, σ₂.ρ.lookup y = some d → σ₁.ρ.lookup y = some d)
    (h2 : ∃ n, Wh c t body n σ₂ σ₃) : ∃ n, Wh c t body n σ σ₃ := let ⟨n, q⟩ := h2; ⟨n + 1, .turn h (ex_weak h1 ho ha hp hs) q⟩
theorem sx_whileE {t : Expr} {body : List Stmt} (h : ∃ n, Wh c t body n σ σ') : Sx c σ (.While t body [] pos) (.next σ') := let ⟨n, q⟩ := h; sx_while q
theorem ex_while {t : Expr} {body : List Stmt} (ρ₁ ρ₂ : List (Str × PyData)) (h : ∃ n, Wh c t body n ⟨ρ₁, σ.own, σ.av, σ.pl⟩ ⟨ρ₂, σ.own, σ.av, σ.pl⟩) (hs : ∀ y d, ρ₁.lookup y = some d → σ.ρ.lookup y = some d) (hr : Ex c ⟨ρ₂, σ.own, σ.av, σ.pl⟩ rest o) : Ex c σ (.While t body [] pos :: rest) o :=
  ex_sub (σ' := ⟨ρ₁, σ.own, σ.av, σ.pl⟩) (ex_cons (sx_whileE h) hr) rfl rfl rfl hs
end
end
/-- the words of this text's own walk -/
local macro_rules | `(tactic| k_extra "msub") => `(tactic| (repeat (first | exact sub_nil | refine sub_cons rfl ?_)))
local macro_rules | `(tactic| k_extra "mev") => `(tactic| first
  | exact ev_int
  | (apply ev_name; rfl; decide; decide)
  | exact ev_bool
  | exact ev_none
  | exact ev_str
  | (apply ev_itemt; (k_extra "mev"); exact ev_int; rfl; rfl; decide; decide; rfl)
  | (apply ev_abs; (k_extra "mev"); rfl; rfl; rfl)
  | (apply ev_len; (k_extra "mev"); rfl; rfl; rfl; (first | assumption | omega))
  | (apply ev_max; (k_extra "mev"); (k_extra "mev"); rfl; rfl; rfl; rfl)
  | (apply ev_min; (k_extra "mev"); (k_extra "mev"); rfl; rfl; rfl; rfl)
  | (apply ev_call; rfl; assumption; (exact Nat.le_of_ble_eq_true rfl); (k_extra "mevl"); rfl; decide)
  | (apply ev_add; (k_extra "mev"); (k_extra "mev"))
  | (apply ev_sub; (k_extra "mev"); (k_extra "mev"))
  | (apply ev_neg; (k_extra "mev"))
  | (apply ev_mul; (k_extra "mev"); (k_extra "mev"); assumption)
  | (apply ev_mod; (k_extra "mev"); (k_extra "mev"); assumption)
  | (apply ev_fdiv; (k_extra "mev"); (k_extra "mev"); assumption; assumption)
  | (apply ev_tuple; (k_extra "mevl"); exact Nat.le_of_ble_eq_true rfl)
  | (apply ev_list; (k_extra "mevl"); exact Nat.le_of_ble_eq_true rfl))
local macro_rules | `(tactic| k_extra "mevl") => `(tactic| first
  | exact evl_nil
  | (apply evl_cons; (k_extra "mev"); (k_extra "mevl"); rfl))
local macro_rules | `(tactic| k_extra "mloc") => `(tactic| exact .loc rfl (List.Mem.head _))
local macro_rules | `(tactic| k_extra "mno") => `(tactic| first | exact trivial | exact (by decide : ¬ _) | rfl)
local macro_rules | `(tactic| k_extra "mas") => `(tactic| first
  | (apply as_name; (k_extra "mloc"); (k_extra "mno"))
  | exact asl_nil
  | (apply asl_cons; (k_extra "mas"); (k_extra "mas"); rfl)
  | (apply as_tuple; (k_extra "mas"))
  | (apply as_tuple_l; (k_extra "mas")))
local macro_rules | `(tactic| k_extra "mts") => `(tactic| first
  | (apply ts_nei; (k_extra "mev"); (k_extra "mev"); with_unfolding_all rfl)
  | (apply ts_eqi; (k_extra "mev"); (k_extra "mev"); with_unfolding_all rfl)
  | (apply ts_lt; (k_extra "mev"); (k_extra "mev"); with_unfolding_all rfl)
  | (apply ts_gt; (k_extra "mev"); (k_extra "mev"); with_unfolding_all rfl)
  | (apply ts_le; (k_extra "mev"); (k_extra "mev"); with_unfolding_all rfl)
  | (apply ts_ge; (k_extra "mev"); (k_extra "mev"); with_unfolding_all rfl))
local macro_rules | `(tactic| k_extra "mst") => `(tactic| first
  | refine ex_cons (sx_swap2 (by k_extra "mev") (by k_extra "mloc") (by k_extra "mloc") (by exact trivial) (by exact trivial) (hw := rfl)) ?_
  | refine ex_cons (sx_assign_t (by k_extra "mev") (by k_extra "mas")) ?_
  | refine ex_cons (sx_assign (by k_extra "mev") (by k_extra "mloc") (by exact trivial)) ?_
  | exact ex_ret (sx_return (by k_extra "mev"))
  | exact ex_nil)
section
open PySem PySem.W PyProof.Rows PySem.Calls PySem.Spec
set_option maxRecDepth 100000
theorem fn_gcd (w : World) (i j : Int) : Fn w "gcd" 1 [.int i, .int j] (.int (Int.gcd i j)) := by
  refine fn_intro (fa := 41) (ps := ["a", "b"]) rfl rfl rfl rfl (fun vs h => ?_) rfl (by decide) (by decide) rfl rfl rfl fun A h₀ L S => ?_
  · match vs, h with
    | [_, _], _ => rfl
  k_extra "mst"
  refine ex_while [("a", .int i.natAbs), ("b", .int j.natAbs)] [("a", .int (Nat.gcd i.natAbs j.natAbs)), ("b", .int 0)] ?_ (by k_extra "msub") (Ex.as (by k_extra "mst") rfl)
  generalize i.natAbs = n
  generalize j.natAbs = m
  induction m using Nat.strongRecOn generalizing n with
  | _ m ih =>
    by_cases hm : m = 0
    · subst hm
      rw [Nat.gcd_zero_right]
      exact Wh.oo (Ts.as (by k_extra "mts") (by rfl))
    · have hm' : (m : Int) ≠ 0 := by omega
      have ht : ((m : Int) != 0) = true := by simpa using hm
      refine Wh.go (σ₂ := ⟨[("a", .int m), ("b", .int (n % m : Nat))], none, [], true⟩) (Ts.as (by k_extra "mts") ht) (by k_extra "mst"; k_extra "mst") (by rfl) (by rfl) (by rfl) ?_ ?_
      · rw [show ((n % m : Nat) : Int) = (n : Int).fmod m by rw [Int.fmod_eq_emod_of_nonneg _ (Int.natCast_nonneg m), ← Int.natCast_emod]]
        k_extra "msub"
      · rw [show Nat.gcd n m = Nat.gcd m (n % m) by rw [Nat.gcd_comm n m, Nat.gcd_rec m n, Nat.gcd_comm]]
        exact ih (n % m) (Nat.mod_lt _ (Nat.pos_of_ne_zero hm)) m
end
section
open PySem PySem.W PyProof.Rows PySem.Calls PySem.Spec
set_option maxRecDepth 100000
def rp (x : Rat) : PyData := .tuple [.int x.num, .int x.den]
def Sm (B : Nat) (x : Rat) : Prop := x.num.natAbs < 2 ^ B ∧ x.den < 2 ^ B
def OK (x : Rat) : Prop := ∃ B, B ≤ 4000 ∧ Sm B x
theorem Sm.ok {B : Nat} {x : Rat} (h : Sm B x) (hb : B ≤ 4000) : OK x := ⟨B, hb, h⟩
theorem Sm.le {A B : Nat} {x : Rat} (h : Sm A x) (hb : A ≤ B) : Sm B x := ⟨Nat.lt_of_lt_of_le h.1 (Nat.pow_le_pow_right (by decide) hb), Nat.lt_of_lt_of_le h.2 (Nat.pow_le_pow_right (by decide) hb)⟩

/-- the divisor that the program takes -/
def gd (n d : Int) : Int := if 0 < d then (Int.gcd n d : Int) else 0 - (Int.gcd n d : Int)
theorem gd_spec (n d : Int) (hd : d ≠ 0) : gd n d ≠ 0 ∧ n = (Rat.divInt n d).num * gd n d ∧ d = ((Rat.divInt n d).den : Int) * gd n d := by
  have hG : 0 < Int.gcd n d := Int.gcd_pos_of_ne_zero_right n hd
  obtain ⟨a, ha⟩ : (Int.gcd n d : Int) ∣ n := Int.gcd_dvd_left ..
  obtain ⟨b, hb⟩ : (Int.gcd n d : Int) ∣ d := Int.gcd_dvd_right ..
  have e1 := Rat.num_divInt n d
  have e2 := Rat.den_divInt n d
  rw [Int.gcd_comm d n] at e1 e2
  rw [if_neg hd] at e2
  generalize hq : Rat.divInt n d = q at e1 e2 ⊢
  unfold gd
  generalize Int.gcd n d = G at *
  have hG0 : (G : Int) ≠ 0 := by omega
  subst ha
  have hb' : d.natAbs = G * b.natAbs := by rw [hb, Int.natAbs_mul]; simp
  rw [hb', Nat.mul_div_cancel_left _ hG] at e2
  by_cases h0 : 0 < d
  · rw [if_pos h0]
    rw [Int.sign_eq_one_of_pos h0, Int.one_mul, Int.mul_ediv_cancel_left _ hG0] at e1
    refine ⟨hG0, ?_, ?_⟩
    · rw [e1, Int.mul_comm]
    · have : 0 < b := by
        rw [hb] at h0
        exact Int.pos_of_mul_pos_right h0 (by omega)
      rw [e2, hb, Int.mul_comm]
      congr 1
      omega
  · rw [if_neg h0]
    have hd0 : d < 0 := by omega
    rw [Int.sign_eq_neg_one_of_neg hd0] at e1
    rw [show -1 * ((G : Int) * a) = G * (-a) by simp [Int.mul_neg], Int.mul_ediv_cancel_left _ hG0] at e1
    refine ⟨by omega, ?_, ?_⟩
    · rw [e1]; rw [Int.zero_sub, Int.neg_mul_neg, Int.mul_comm]
    · have : b < 0 := by
        rcases Int.lt_or_le b 0 with h | h
        · exact h
        · have := Int.mul_nonneg (Int.natCast_nonneg G) h
          omega
      have e3 : (q.den : Int) = -b := by omega
      rw [e3, hb, Int.zero_sub, Int.neg_mul_neg, Int.mul_comm]
theorem gd_num (n d : Int) (hd : d ≠ 0) : n.fdiv (gd n d) = (Rat.divInt n d).num := by
  obtain ⟨h0, h1, h2⟩ := gd_spec n d hd
  generalize gd n d = g at *
  generalize (Rat.divInt n d).num = q at *
  subst h1
  exact Int.mul_fdiv_cancel _ h0
theorem gd_den (n d : Int) (hd : d ≠ 0) : d.fdiv (gd n d) = ((Rat.divInt n d).den : Int) := by
  obtain ⟨h0, h1, h2⟩ := gd_spec n d hd
  generalize gd n d = g at *
  generalize ((Rat.divInt n d).den : Int) = q at *
  subst h2
  exact Int.mul_fdiv_cancel _ h0
theorem nopy {q g : Int} {B : Nat} (hq : q.natAbs < 2 ^ B) (hB : B ≤ 4000) (hg : g ≠ 0) : Builtin.divisionGoesByPylong (q * g) g = false := by
  unfold Builtin.divisionGoesByPylong
  have hgn : g.natAbs ≠ 0 := by omega
  by_cases hq0 : q = 0
  · subst hq0; simp [hg]
  · have h1 : (q * g).natAbs < 2 ^ (B + (g.natAbs.log2 + 1)) := by
      rw [Int.natAbs_mul, Nat.pow_add]
      exact Nat.mul_lt_mul'' hq Nat.lt_log2_self
    have hn : (q * g).natAbs ≠ 0 := by rw [Int.natAbs_mul]; exact Nat.mul_ne_zero (by omega) hgn
    have h2 : (q * g).natAbs.log2 < B + (g.natAbs.log2 + 1) := (Nat.log2_lt hn).mpr h1
    have hz : ((q * g) == 0) = false := by simpa using ⟨hq0, hg⟩
    have hz' : (g == 0) = false := by simpa using hg
    simp only [hz, hz']
    simp only [Bool.false_eq_true, if_false, Bool.and_eq_false_iff, decide_eq_false_iff_not]
    right
    omega
theorem mulOk {a b : Int} {A B : Nat} (ha : a.natAbs < 2 ^ A) (hb : b.natAbs < 2 ^ B) (hA : A ≤ 20000) (hB : B ≤ 20000) : IntMulOk a b := by
  have bits : ∀ {x : Int} {n : Nat}, x.natAbs < 2 ^ n → PySem.Builtin.Int.intBits x ≤ n := by
    intro x n h
    unfold PySem.Builtin.Int.intBits
    split
    · exact Nat.zero_le _
    · rename_i hx
      have : x.natAbs ≠ 0 := by simpa using hx
      exact (Nat.log2_lt this).mpr h
  exact .of_le (bits ha) (bits hb) (by omega)
theorem OK.mul {x y : Rat} (hx : OK x) (hy : OK y) : IntMulOk x.num y.num ∧ IntMulOk x.num y.den ∧ IntMulOk x.den y.num ∧ IntMulOk x.den y.den := by
  obtain ⟨A, hA, h1, h2⟩ := hx
  obtain ⟨B, hB, h3, h4⟩ := hy
  exact ⟨mulOk h1 h3 (by omega) (by omega), mulOk h1 (by simpa using h4) (by omega) (by omega), mulOk (by simpa using h2) h3 (by omega) (by omega), mulOk (by simpa using h2) (by simpa using h4) (by omega) (by omega)⟩
theorem den_ne (x : Rat) : (x.den : Int) ≠ 0 := by have := x.den_pos; omega
theorem add_eq (x y : Rat) : Rat.divInt (x.num * y.den + y.num * x.den) (x.den * y.den) = x + y := by
  rw [← Rat.divInt_add_divInt _ _ (den_ne x) (den_ne y), Rat.num_divInt_den, Rat.num_divInt_den]
theorem sub_eq (x y : Rat) : Rat.divInt (x.num * y.den - y.num * x.den) (x.den * y.den) = x - y := by
  rw [← Rat.divInt_sub_divInt _ _ (den_ne x) (den_ne y), Rat.num_divInt_den, Rat.num_divInt_den]
theorem mul_eq (x y : Rat) : Rat.divInt (x.num * y.num) (x.den * y.den) = x * y := by
  rw [← Rat.divInt_mul_divInt, Rat.num_divInt_den, Rat.num_divInt_den]
theorem inv_eq (x : Rat) : Rat.divInt x.den x.num = x⁻¹ := (Rat.inv_def x).symm
theorem div_eq (x y : Rat) : Rat.divInt (x.num * y.den) (x.den * y.num) = x / y := by
  rw [Rat.div_def, Rat.inv_def, ← Rat.divInt_mul_divInt, Rat.num_divInt_den]
theorem num_ne {x : Rat} (h : x ≠ 0) : x.num ≠ 0 := fun e => h (Rat.num_eq_zero.mp e)
end
section
open PySem PySem.W PyProof.Rows PySem.Calls PySem.Spec
set_option maxRecDepth 100000
theorem fn_rat (w : World) (n d : Int) (hd : d ≠ 0) (ok : OK (Rat.divInt n d)) : Fn w "rat" 2 [.int n, .int d] (rp (Rat.divInt n d)) := by
  have hg := fn_gcd w n d
  refine fn_intro (fa := 50) (ps := ["top", "bottom"]) rfl rfl rfl rfl (fun vs h => ?_) rfl (by decide) (by decide) rfl rfl rfl fun A h₀ L S => ?_
  · match vs, h with
    | [_, _], _ => rfl
  have hz : (d == 0) = false := by simpa using hd
  refine ex_cons (sx_if_f (Ts.as (by k_extra "mts") hz) ex_nil) ?_
  obtain ⟨g0, g1, g2⟩ := gd_spec n d hd
  obtain ⟨B, hB, b1, b2⟩ := ok
  have p1 : Builtin.divisionGoesByPylong n (gd n d) = false := by
    have := nopy b1 hB g0
    rwa [← g1] at this
  have p2 : Builtin.divisionGoesByPylong d (gd n d) = false := by
    have := nopy (q := ((Rat.divInt n d).den : Int)) (by simpa using b2) hB g0
    rwa [← g2] at this
  refine ex_assign (.int (gd n d)) ?_ (by k_extra "mloc") trivial ?_
  · unfold gd
    by_cases h : 0 < d
    · rw [if_pos h]
      exact ev_if_t (Ts.as (by k_extra "mts") (by simpa using h)) (by k_extra "mev")
    · rw [if_neg h]
      exact ev_if_f (Ts.as (by k_extra "mts") (by simpa using h)) (by k_extra "mev")
  refine Ex.as (by k_extra "mst") ?_
  rw [gd_num n d hd, gd_den n d hd]
  rfl
theorem num_div0 {x : Rat} : (x.num == 0) = decide (x = 0) := by
  by_cases h : x = 0
  · subst h; rfl
  · have := num_ne h
    simp [h, this]
/-- one line: the call of rat -/
theorem fn_radd (w : World) (x y : Rat) (hx : OK x) (hy : OK y) (hz : OK (x + y)) : Fn w "radd" 3 [rp x, rp y] (rp (x + y)) := by
  have hg := fn_rat w (x.num * y.den + y.num * x.den) (x.den * y.den) (Int.mul_ne_zero (den_ne x) (den_ne y)) (by rw [add_eq]; exact hz)
  rw [add_eq] at hg
  refine fn_intro (fa := 57) (ps := ["a", "b"]) rfl rfl rfl rfl (fun vs h => ?_) rfl (by decide) (by decide) rfl rfl rfl fun A h₀ L S => ?_
  · match vs, h with
    | [_, _], _ => rfl
  obtain ⟨m1, m2, m3, m4⟩ := hx.mul hy
  obtain ⟨n1, n2, n3, n4⟩ := hy.mul hx
  k_extra "mst"
theorem fn_rsub (w : World) (x y : Rat) (hx : OK x) (hy : OK y) (hz : OK (x - y)) : Fn w "rsub" 3 [rp x, rp y] (rp (x - y)) := by
  have hg := fn_rat w (x.num * y.den - y.num * x.den) (x.den * y.den) (Int.mul_ne_zero (den_ne x) (den_ne y)) (by rw [sub_eq]; exact hz)
  rw [sub_eq] at hg
  refine fn_intro (fa := 64) (ps := ["a", "b"]) rfl rfl rfl rfl (fun vs h => ?_) rfl (by decide) (by decide) rfl rfl rfl fun A h₀ L S => ?_
  · match vs, h with
    | [_, _], _ => rfl
  obtain ⟨m1, m2, m3, m4⟩ := hx.mul hy
  obtain ⟨n1, n2, n3, n4⟩ := hy.mul hx
  k_extra "mst"
theorem fn_rmul (w : World) (x y : Rat) (hx : OK x) (hy : OK y) (hz : OK (x * y)) : Fn w "rmul" 3 [rp x, rp y] (rp (x * y)) := by
  have hg := fn_rat w (x.num * y.num) (x.den * y.den) (Int.mul_ne_zero (den_ne x) (den_ne y)) (by rw [mul_eq]; exact hz)
  rw [mul_eq] at hg
  refine fn_intro (fa := 71) (ps := ["a", "b"]) rfl rfl rfl rfl (fun vs h => ?_) rfl (by decide) (by decide) rfl rfl rfl fun A h₀ L S => ?_
  · match vs, h with
    | [_, _], _ => rfl
  obtain ⟨m1, m2, m3, m4⟩ := hx.mul hy
  k_extra "mst"
theorem fn_rdiv (w : World) (x y : Rat) (h0 : y ≠ 0) (hx : OK x) (hy : OK y) (hz : OK (x / y)) : Fn w "rdiv" 3 [rp x, rp y] (rp (x / y)) := by
  have hg := fn_rat w (x.num * y.den) (x.den * y.num) (Int.mul_ne_zero (den_ne x) (num_ne h0)) (by rw [div_eq]; exact hz)
  rw [div_eq] at hg
  refine fn_intro (fa := 78) (ps := ["a", "b"]) rfl rfl rfl rfl (fun vs h => ?_) rfl (by decide) (by decide) rfl rfl rfl fun A h₀ L S => ?_
  · match vs, h with
    | [_, _], _ => rfl
  obtain ⟨m1, m2, m3, m4⟩ := hx.mul hy
  k_extra "mst"
theorem fn_rneg (w : World) (x : Rat) : Fn w "rneg" 1 [rp x] (rp (-x)) := by
  refine fn_intro (fa := 85) (ps := ["a"]) rfl rfl rfl rfl (fun vs h => ?_) rfl (by decide) (by decide) rfl rfl rfl fun A h₀ L S => ?_
  · match vs, h with
    | [_], _ => rfl
  refine Ex.as (by k_extra "mst") ?_
  rw [Int.zero_sub]
  rfl
theorem fn_rinv (w : World) (x : Rat) (h0 : x ≠ 0) (hz : OK (x⁻¹)) : Fn w "rinv" 3 [rp x] (rp (x⁻¹)) := by
  have hg := fn_rat w x.den x.num (num_ne h0) (by rw [inv_eq]; exact hz)
  rw [inv_eq] at hg
  refine fn_intro (fa := 92) (ps := ["a"]) rfl rfl rfl rfl (fun vs h => ?_) rfl (by decide) (by decide) rfl rfl rfl fun A h₀ L S => ?_
  · match vs, h with
    | [_], _ => rfl
  k_extra "mst"
end
section
open PySem PySem.W PyProof.Rows PySem.Calls PySem.Spec
set_option maxRecDepth 100000
def P (l : List Rat) : PyData := .list (l.map rp)
def co (l : List Rat) (i : Nat) : Rat := l.getD i 0
section
variable {c : Con} {σ σ' σ₁ σ₂ σ₃ : Sg} {e e₁ e₂ e₃ : Expr} {d d₁ d₂ : PyData} {p pos : Pos} {k : Nat} {x y z : Str} {w : World} {o : Out} {st : Stmt} {ss rest : List Stmt} {ds : List PyData} {ρ ρ' : List (Str × PyData)}

theorem nth_nat {α : Type} (ds : List α) (n : Nat) : nth ds (n : Int) = ds[n]? := by
  unfold nth
  rw [if_pos (Int.natCast_nonneg n)]
  simp
theorem nth_P {l : List Rat} {i : Int} {n : Nat} (hi : i = n) (hn : n < l.length) : nth (l.map rp) i = some (rp (co l n)) := by
  rw [hi, nth_nat, List.getElem?_map, List.getElem?_eq_getElem hn]
  unfold co
  rw [List.getD_eq_getElem?_getD, List.getElem?_eq_getElem hn]
  rfl
theorem ev_at {l : List Rat} {i : Int} (n : Nat) (h1 : Ev c σ e₁ σ₁ (P l)) (h2 : Ev c σ₁ e₂ σ₂ (.int i)) (hi : i = n) (hn : n < l.length) (hz : l.length ≤ 1000) (hp : plainIdx e₂ = true := by rfl) : Ev c σ (.Subscript e₁ e₂ pos) σ₂ (rp (co l n)) :=
  ev_item h1 h2 (nth_P hi hn) (by omega) (by omega) hp
/-- the last one -/
theorem ev_last {l : List Rat} (h1 : Ev c σ e₁ σ₁ (P l)) (h2 : Ev c σ₁ e₂ σ₂ (.int (-1))) (hn : 0 < l.length) (hz : l.length ≤ 1000) (hp : plainIdx e₂ = true := by rfl) : Ev c σ (.Subscript e₁ e₂ pos) σ₂ (rp (co l (l.length - 1))) := by
  refine ev_item h1 h2 ?_ (by omega) (by omega) hp
  have q := nth_P (l := l) (i := ((l.length - 1 : Nat) : Int)) rfl (by omega)
  rw [nth_nat] at q
  unfold nth
  rw [if_neg (by omega), if_pos (by rw [List.length_map]; omega), List.length_map, ← q]
  congr 1
  omega
theorem ev_num {r : Rat} (h : Ev c σ e σ₁ (rp r)) : Ev c σ (.Subscript e (.Constant (.int 0) 0 p) pos) σ₁ (.int r.num) := ev_itemt h ev_int rfl rfl
theorem ev_den {r : Rat} (h : Ev c σ e σ₁ (rp r)) : Ev c σ (.Subscript e (.Constant (.int 1) 0 p) pos) σ₁ (.int r.den) := ev_itemt h ev_int rfl rfl
theorem ev_R0 (hk : c.env.kindOf "R0" = some .globalImplicit) : Ev c σ (.Name "R0" p) σ (rp 0) := ev_const2 hk rfl rfl
theorem ev_R1 (hk : c.env.kindOf "R1" = some .globalImplicit) : Ev c σ (.Name "R1" p) σ (rp 1) := ev_const2 hk rfl rfl
theorem len_P {l : List Rat} : (l.map rp).length = l.length := List.length_map ..

/-! comprehensions that change nothing -/
theorem ev_compz {iter elt : Expr} {scope : Scope} {cl : List (Str × Addr)} {es : List PyData} {px : Pos} (h : It c σ iter σ ds (.Name x px)) (K : CompOk c σ scope cl ρ) (hz : ds.length ≤ 2 ^ 20) (hx : ρ.lookup x = none)
    (hkx : ∀ C, (compEnvC scope cl C c.env).kindOf x = some .local) (hno : σ.notOwn x) (hl : ds.length = es.length)
    (he : ∀ (C D : Addr) (i : Nat) (d e : PyData), ds[i]? = some d → es[i]? = some e → Ev (c.comp scope cl C) ⟨(x, d) :: ρ, σ.own, D :: σ.av, σ.pl⟩ elt ⟨(x, d) :: ρ, σ.own, D :: σ.av, σ.pl⟩ e)
    (hs : ∀ x, foldedSetIterable iter c.env x = pure x := by intro _; rfl) : Ev c σ (.ListComp elt [⟨.Name x px, iter, [], 0⟩] scope pos) σ (.list es) := by
  have so : SameOwn σ.own σ.own := by
    cases q : σ.own with
    | none => trivial
    | some t => exact ⟨rfl, rfl⟩
  refine ev_comp (own' := σ.own) (pl' := σ.pl) (ρ' := fun _ _ => ρ) h K hz so (fun C D => ?_) hs
  clear h hz
  induction ds generalizing es with
  | nil =>
    cases es with
    | nil => exact .nil
    | cons _ _ => cases hl
  | cons d ds ih =>
    cases es with
    | nil => cases hl
    | cons e es =>
      refine .cons (σ₁ := ⟨(x, d) :: ρ, σ.own, D :: σ.av, σ.pl⟩) (σ₂ := ⟨(x, d) :: ρ, σ.own, D :: σ.av, σ.pl⟩) (σ₂' := ⟨ρ, σ.own, D :: σ.av, σ.pl⟩) ?_ (he C D 0 d e rfl rfl) rfl rfl rfl (fun y dd q => ?_) (ih (by simpa using hl) fun C D i d e h1 h2 => he C D (i + 1) d e h1 h2)
      · exact as_name (σ := ⟨ρ, σ.own, D :: σ.av, σ.pl⟩) (.loc (hkx C) (List.Mem.head _)) hno
      · have : y ≠ x := fun e => by rw [e, hx] at q; cases q
        have : (y == x) = false := by simpa using this
        show List.lookup y ((x, d) :: ρ) = some dd
        rw [List.lookup_cons, this]
        exact q
theorem rng_get {a : Int} {n i : Nat} {d : PyData} (h : (rng a n)[i]? = some d) : i < n ∧ d = .int (a + i) := by
  unfold rng at h
  rw [List.getElem?_map] at h
  by_cases hi : i < n
  · rw [List.getElem?_range hi] at h
    exact ⟨hi, (Option.some.inj h).symm⟩
  · rw [List.getElem?_eq_none (by simpa using hi)] at h
    cases h
theorem rng_length {a : Int} {n : Nat} : (rng a n).length = n := by unfold rng; simp
theorem map_get {g : Nat → PyData} {n i : Nat} {e : PyData} (h : ((List.range n).map g)[i]? = some e) : e = g i := by
  rw [List.getElem?_map] at h
  by_cases hi : i < n
  · rw [List.getElem?_range hi] at h
    exact (Option.some.inj h).symm
  · rw [List.getElem?_eq_none (by simpa using hi)] at h
    cases h
theorem ev_comp_rng {elt iter : Expr} {scope : Scope} {cl : List (Str × Addr)} {px : Pos} {a : Int} {n : Nat} (g : Nat → PyData) (h : It c σ iter σ (rng a n) (.Name x px)) (K : CompOk c σ scope cl ρ) (hz : n ≤ 2 ^ 20) (hx : ρ.lookup x = none)
    (hkx : ∀ C, (compEnvC scope cl C c.env).kindOf x = some .local) (hno : σ.notOwn x)
    (he : ∀ C D i, i < n → Ev (c.comp scope cl C) ⟨(x, .int (a + i)) :: ρ, σ.own, D :: σ.av, σ.pl⟩ elt ⟨(x, .int (a + i)) :: ρ, σ.own, D :: σ.av, σ.pl⟩ (g i))
    (hs : ∀ x, foldedSetIterable iter c.env x = pure x := by intro _; rfl) : Ev c σ (.ListComp elt [⟨.Name x px, iter, [], 0⟩] scope pos) σ (.list ((List.range n).map g)) := by
  refine ev_compz h K (by rw [rng_length]; exact hz) hx hkx hno (by rw [rng_length]; simp) (fun C D i d e h1 h2 => ?_) hs
  obtain ⟨hi, rfl⟩ := rng_get h1
  rw [map_get h2]
  exact he C D i hi
theorem ev_comp_P {elt iter : Expr} {scope : Scope} {cl : List (Str × Addr)} {px : Pos} {l : List Rat} (g : Rat → Rat) (h : Ev c σ iter σ (P l)) (K : CompOk c σ scope cl ρ) (hz : l.length ≤ 2 ^ 20) (hx : ρ.lookup x = none)
    (hkx : ∀ C, (compEnvC scope cl C c.env).kindOf x = some .local) (hno : σ.notOwn x)
    (he : ∀ C D r, r ∈ l → Ev (c.comp scope cl C) ⟨(x, rp r) :: ρ, σ.own, D :: σ.av, σ.pl⟩ elt ⟨(x, rp r) :: ρ, σ.own, D :: σ.av, σ.pl⟩ (rp (g r)))
    (hs : ∀ x, foldedSetIterable iter c.env x = pure x := by intro _; rfl) : Ev c σ (.ListComp elt [⟨.Name x px, iter, [], 0⟩] scope pos) σ (P (l.map g)) := by
  refine ev_compz (it_list h go_name) K (by rw [List.length_map]; exact hz) hx hkx hno (by simp) (fun C D i d e h1 h2 => ?_) hs
  rw [List.map_map, List.getElem?_map] at h2
  rw [List.getElem?_map] at h1
  cases q : l[i]? with
  | none => rw [q] at h1; cases h1
  | some r =>
    rw [q] at h1 h2
    obtain rfl := Option.some.inj h1
    obtain rfl := Option.some.inj h2
    exact he C D r (List.mem_of_getElem? q)
def AllC (env : Env) : List (Str × Addr) → Prop
  | [] => True
  | (y, a) :: r => env.cells.lookup y = some a ∧ AllC env r
theorem AllC.look {env : Env} : ∀ {cl : List (Str × Addr)}, AllC env cl → ∀ y a, cl.lookup y = some a → env.cells.lookup y = some a
  | [], _, _, _, h => nomatch h
  | (z, b) :: r, h, y, a, q => by
    rw [List.lookup_cons] at q
    cases e : (y == z) with
    | true =>
      rw [e] at q
      obtain rfl : y = z := by simpa using e
      obtain rfl := Option.some.inj q
      exact h.1
    | false =>
      rw [e] at q
      exact AllC.look h.2 y a q
def AllF (c : Con) (σ : Sg) (scope : Scope) (cl : List (Str × Addr)) : List (Str × PyData) → Prop
  | [] => True
  | (y, d) :: r => (σ.ρ.lookup y = some d ∧ ∀ C, FreeIn c.env (compEnvC scope cl C c.env) y) ∧ AllF c σ scope cl r
theorem AllF.look {scope : Scope} {cl : List (Str × Addr)} : ∀ {ρ : List (Str × PyData)}, AllF c σ scope cl ρ → ∀ y d, ρ.lookup y = some d → σ.ρ.lookup y = some d ∧ ∀ C, FreeIn c.env (compEnvC scope cl C c.env) y
  | [], _, _, _, h => nomatch h
  | (z, b) :: r, h, y, a, q => by
    rw [List.lookup_cons] at q
    cases e : (y == z) with
    | true =>
      rw [e] at q
      obtain rfl : y = z := by simpa using e
      obtain rfl := Option.some.inj q
      exact h.1
    | false =>
      rw [e] at q
      exact AllF.look h.2 y a q
theorem compok {scope : Scope} {cl : List (Str × Addr)} (h1 : closureFor scope c.env = pure cl) (h2 : AllC c.env cl) (h3 : AllF c σ scope cl ρ) (h4 : ∀ y ∈ scope.names, y.2 ≠ .cell) (h5 : scope.kind = .function)
    (h6 : ∀ y ∈ scope.names, y.2 = .local → scope.names.lookup y.1 = some .local) (h7 : match σ.own with | none => True | some (x, _, _) => ∀ C, FreeIn c.env (compEnvC scope cl C c.env) x) : CompOk c σ scope cl ρ :=
  ⟨h1, h2.look, h4, h5, h6, h3.look, h7⟩

theorem sz {n : Nat} (h : n ≤ 1000) : n ≤ sizeLine := Nat.le_trans h (by decide +kernel)
theorem pick_take {α : Type} (l : List α) (n : Nat) : pick l none (some (n : Int)) = l.take n := by
  unfold pick pickLo pickHi
  simp only []
  rw [if_neg (by omega)]
  by_cases h : n ≤ l.length
  · simp [Nat.min_eq_left h]
  · simp only [Int.toNat_natCast, Nat.sub_zero, List.drop_zero]
    rw [Nat.min_eq_right (by omega), List.take_of_length_le (Nat.le_refl _), List.take_of_length_le (by omega)]
theorem pick_init {α : Type} (l : List α) : pick l none (some (-1)) = l.take (l.length - 1) := by
  unfold pick pickLo pickHi
  simp
theorem evf_take {n : Nat} {pp : Pos} (h1 : Ev c σ e σ₁ (.list ds)) (h2 : Ev c σ₁ e₂ σ₂ (.int n)) (hz : ds.length ≤ 1000) : EvF c σ (.Subscript e (.Slice none (some e₂) none pp) pos) σ₂ (ds.take n) := by
  rw [← pick_take]
  exact evf_slice h1 (i := none) ⟨rfl, rfl⟩ (j := some (n : Int)) ⟨_, rfl, h2⟩ (sz hz)
theorem evf_init {pp : Pos} (h1 : Ev c σ e σ₁ (.list ds)) (h2 : Ev c σ₁ e₂ σ₂ (.int (-1))) (hz : ds.length ≤ 1000) : EvF c σ (.Subscript e (.Slice none (some e₂) none pp) pos) σ₂ (ds.take (ds.length - 1)) := by
  rw [← pick_init]
  exact evf_slice h1 (i := none) ⟨rfl, rfl⟩ (j := some (-1 : Int)) ⟨_, rfl, h2⟩ (sz hz)
theorem evf_ls (h : Ev c σ e σ₁ (.list ds)) (hz : ds.length ≤ 1000) (hk : c.env.kindOf "list" = some .globalImplicit) (hn : nsIn (KF c.w) mainGlobals "list" = some none) (he : starEach [e] c.env = [(false, eval e c.env)]) : EvF c σ (.Call (.Name "list" p) [e] [] pos) σ₁ ds := evf_listc (u := pos) hk hn h (sz hz) he
theorem map_take {l : List Rat} {n : Nat} : (l.map rp).take n = (l.take n).map rp := (List.map_take ..).symm

theorem it_r1 {i : Int} {n : Nat} {target : Expr} (h : Ev c σ e σ₁ (.int i)) (hi : i.toNat = n) (hz : -1000 ≤ i ∧ i ≤ 1000) (hk : c.env.kindOf "range" = some .globalImplicit) (hn : nsIn (KF c.w) mainGlobals "range" = some none)
    (he : starEach [e] c.env = [(false, eval e c.env)]) (hg : ∀ it v, letOwnedTupleGo target it v = pure ()) : It c σ (.Call (.Name "range" p) [e] [] pos) σ₁ (rng 0 n) target := by
  subst hi
  exact it_range1 hk hn h (by omega) (by omega) hg he
theorem it_r2 {i j : Int} {n : Nat} {target : Expr} (h : Ev c σ e₁ σ₁ (.int i)) (h2 : Ev c σ₁ e₂ σ₂ (.int j)) (hi : (j - i).toNat = n) (hz : (-1000 ≤ i ∧ i ≤ 1000) ∧ -1000 ≤ j ∧ j ≤ 1000) (hk : c.env.kindOf "range" = some .globalImplicit) (hn : nsIn (KF c.w) mainGlobals "range" = some none)
    (he : starEach [e₁, e₂] c.env = [(false, eval e₁ c.env), (false, eval e₂ c.env)]) (hg : ∀ it v, letOwnedTupleGo target it v = pure ()) : It c σ (.Call (.Name "range" p) [e₁, e₂] [] pos) σ₂ (rng i n) target := by
  subst hi
  exact it_range2 hk hn h h2 (by omega) (by omega) (by omega) (by omega) hg he

theorem evl1 (h : Ev c σ e σ d) (he : starEach [e] c.env = [(false, eval e c.env)] := by rfl) : EvL c σ [e] σ [d] := evl_cons h evl_nil he
theorem evl2 (h : Ev c σ e₁ σ d₁) (h2 : Ev c σ e₂ σ d₂) (he : starEach [e₁, e₂] c.env = [(false, eval e₁ c.env), (false, eval e₂ c.env)] := by rfl) (he2 : starEach [e₂] c.env = [(false, eval e₂ c.env)] := by rfl) : EvL c σ [e₁, e₂] σ [d₁, d₂] := evl_cons h (evl_cons h2 evl_nil he2) (by rw [he, he2])
theorem ev_call1 (f : Fn c.w x k [d₁] d) (h : Ev c σ e σ d₁) (hn : k ≤ c.n := by exact Nat.le_of_ble_eq_true rfl) (hk : c.env.kindOf x = some .globalImplicit := by rfl) (he : starEach [e] c.env = [(false, eval e c.env)] := by rfl) (hd : (x == ("__debug__" : Str)) = false := by decide) :
    Ev c σ (.Call (.Name x p) [e] [] pos) σ d := ev_call hk f hn (evl1 h he) he hd
theorem ev_call2 (f : Fn c.w x k [d₁, d₂] d) (h : Ev c σ e₁ σ d₁) (h2 : Ev c σ e₂ σ d₂) (hn : k ≤ c.n := by exact Nat.le_of_ble_eq_true rfl) (hk : c.env.kindOf x = some .globalImplicit := by rfl) (he : starEach [e₁, e₂] c.env = [(false, eval e₁ c.env), (false, eval e₂ c.env)] := by rfl) (he2 : starEach [e₂] c.env = [(false, eval e₂ c.env)] := by rfl) (hd : (x == ("__debug__" : Str)) = false := by decide) :
    Ev c σ (.Call (.Name x p) [e₁, e₂] [] pos) σ d := ev_call hk f hn (evl2 h h2 he he2) (by rw [he, he2]) hd
theorem ev_call3 {d₃ : PyData} (f : Fn c.w x k [d₁, d₂, d₃] d) (h : Ev c σ e₁ σ d₁) (h2 : Ev c σ e₂ σ d₂) (h3 : Ev c σ e₃ σ d₃) (hn : k ≤ c.n := by exact Nat.le_of_ble_eq_true rfl) (hk : c.env.kindOf x = some .globalImplicit := by rfl)
    (he : starEach [e₁, e₂, e₃] c.env = [(false, eval e₁ c.env), (false, eval e₂ c.env), (false, eval e₃ c.env)] := by rfl) (he2 : starEach [e₂, e₃] c.env = [(false, eval e₂ c.env), (false, eval e₃ c.env)] := by rfl) (he3 : starEach [e₃] c.env = [(false, eval e₃ c.env)] := by rfl) (hd : (x == ("__debug__" : Str)) = false := by decide) :
    Ev c σ (.Call (.Name x p) [e₁, e₂, e₃] [] pos) σ d := ev_call hk f hn (evl_cons h (evl2 h2 h3 he2 he3) (by rw [he, he2])) (by rw [he, he2]) hd

/-! the row's end -/
def tl (l : List Rat) : Nat → Nat
  | 0 => 0
  | n + 1 => if co l n = 0 then tl l n else n + 1
def trim (l : List Rat) : List Rat := l.take (tl l l.length)
def padd (a b : List Rat) : List Rat := (List.range (max a.length b.length)).map fun i => co a i + co b i
def qadd (a b : List Rat) : List Rat := trim (padd a b)
def qneg (a : List Rat) : List Rat := a.map fun x => -x
def qsub (a b : List Rat) : List Rat := qadd a (qneg b)
def qscale (p : List Rat) (r : Rat) : List Rat := if r = 0 then [] else p.map fun x => x * r
def qraise (p : List Rat) (n : Nat) : List Rat := if p = [] then [] else List.replicate n 0 ++ p
def AllOK (l : List Rat) : Prop := ∀ x ∈ l, OK x
theorem OK.zero : OK 0 := ⟨1, by decide, by decide, by decide⟩
theorem AllOK.co {l : List Rat} (h : AllOK l) (i : Nat) : OK (co l i) := by
  unfold Mine.co
  rw [List.getD_eq_getElem?_getD]
  cases q : l[i]? with
  | none => exact OK.zero
  | some x => exact h x (List.mem_of_getElem? q)
theorem tl_le (l : List Rat) : ∀ n, tl l n ≤ n
  | 0 => Nat.le_refl _
  | n + 1 => by
    unfold tl
    split
    · exact Nat.le_succ_of_le (tl_le l n)
    · exact Nat.le_refl _
theorem trim_length (l : List Rat) : (trim l).length = tl l l.length := by
  unfold trim
  rw [List.length_take]
  have := tl_le l l.length
  omega
theorem trim_le (l : List Rat) : (trim l).length ≤ l.length := by rw [trim_length]; exact tl_le ..
theorem AllOK.trim {l : List Rat} (h : AllOK l) : AllOK (Mine.trim l) := fun x hx => h x (List.mem_of_mem_take hx)
end
end
section
open PySem PySem.W PyProof.Rows PySem.Calls PySem.Spec
set_option maxRecDepth 100000
theorem fn_qtrim (w : World) (l : List Rat) (hz : l.length ≤ 100) : Fn w "qtrim" 1 [P l] (P (trim l)) := by
  refine fn_intro (fa := 106) (ps := ["row"]) rfl rfl rfl rfl (fun vs h => ?_) rfl (by decide) (by decide) rfl rfl rfl fun A h₀ L S => ?_
  · match vs, h with
    | [_], _ => rfl
  have hz2 : (l.map rp).length < 2 ^ 60 := by rw [len_P]; omega
  k_extra "mst"
  rw [len_P]
  refine ex_while [("row", P l), ("size", .int l.length)] [("row", P l), ("size", .int (tl l l.length : Nat))] ?_ (by k_extra "msub") ?_
  · obtain ⟨n, hn, hle⟩ : ∃ n, n = l.length ∧ n ≤ l.length := ⟨_, rfl, Nat.le_refl _⟩
    rw [← hn]
    clear hn
    induction n with
    | zero => exact Wh.oo (ts_and_f (Ts.as (by k_extra "mts") (by rfl)))
    | succ n ih =>
      have e1 : ((n + 1 : Nat) : Int) - 1 = (n : Nat) := by omega
      by_cases h0 : co l n = 0
      · unfold tl
        rw [if_pos h0]
        refine Wh.go (σ₂ := ⟨[("row", P l), ("size", .int n)], none, [], true⟩) (ts_and_t (Ts.as (by k_extra "mts") ?_) (ts_and_t (Ts.as (ts_eqi (ev_num (ev_at n (ev_name (by rfl)) (by k_extra "mev") e1 (by omega) (by omega))) ev_int) ?_) ts_and_nil))
          (ex_cons (sx_dec (by rfl) (by k_extra "mev") (by k_extra "mloc") (by exact trivial)) ex_nil) (by rfl) (by rfl) (by rfl) ?_ (ih (by omega))
        · simp
        · rw [h0]; rfl
        · rw [e1]
          k_extra "msub"
      · unfold tl
        rw [if_neg h0]
        refine Wh.oo (ts_and_t (Ts.as (by k_extra "mts") ?_) (ts_and_f (Ts.as (ts_eqi (ev_num (ev_at n (ev_name (by rfl)) (by k_extra "mev") e1 (by omega) (by omega))) ev_int) ?_)))
        · simp
        · rw [num_div0]; simpa using h0
  · have hz3 : (l.map rp).length ≤ 1000 := by rw [len_P]; omega
    have := tl_le l l.length
    refine ex_return (Ev.as (EvF.ev (evf_ls (EvF.ev (evf_take (n := tl l l.length) (ev_name (by rfl)) (by k_extra "mev") hz3)) ?_ (by rfl) (by rfl) (by rfl))) ?_)
    · rw [List.length_take]; omega
    · rw [map_take]; rfl
end
local macro_rules | `(tactic| k_extra "mallc") => `(tactic| ((repeat refine ⟨rfl, ?_⟩); exact trivial))
local macro_rules | `(tactic| k_extra "mfree") => `(tactic| exact fun C => ⟨by first | exact .inl rfl | exact .inr rfl, by first | exact .inl rfl | exact .inr rfl, rfl⟩)
local macro_rules | `(tactic| k_extra "mallf") => `(tactic| ((repeat refine ⟨⟨rfl, by k_extra "mfree"⟩, ?_⟩); exact trivial))
local macro_rules | `(tactic| k_extra "mcomp") => `(tactic| exact compok rfl (by k_extra "mallc") (by k_extra "mallf") (by decide) rfl (by decide) (by first | exact trivial | (k_extra "mfree")))
section
open PySem PySem.W PyProof.Rows PySem.Calls PySem.Spec
set_option maxRecDepth 100000
theorem co_ge {l : List Rat} {i : Nat} (h : l.length ≤ i) : co l i = 0 := by
  unfold co
  rw [List.getD_eq_getElem?_getD, List.getElem?_eq_none h]
  rfl
theorem fn_qadd (w : World) (a b : List Rat) (ha : AllOK a) (hb : AllOK b) (hab : AllOK (padd a b)) (za : a.length ≤ 50) (zb : b.length ≤ 50) : Fn w "qadd" 4 [P a, P b] (P (qadd a b)) := by
  have hsum : ∀ i, i < max a.length b.length → OK (co a i + co b i) := fun i hi => hab _ (List.mem_map.mpr ⟨i, List.mem_range.mpr hi, rfl⟩)
  have zp : (padd a b).length ≤ 100 := by unfold padd; simp; omega
  have ht := fn_qtrim w (padd a b) zp
  refine fn_intro (fa := 111) (ps := ["a", "b"]) rfl rfl rfl rfl (fun vs h => ?_) rfl (by decide) (by decide) rfl rfl rfl fun A h₀ L S => ?_
  · match vs, h with
    | [_, _], _ => rfl
  have za2 : (a.map rp).length < 2 ^ 60 := by rw [len_P]; omega
  have zb2 : (b.map rp).length < 2 ^ 60 := by rw [len_P]; omega
  k_extra "mst"
  refine ex_return (ev_call1 ht (Ev.as (ev_comp_rng (ρ := [("a", P a), ("b", P b)]) (n := max a.length b.length) (a := 0) (fun i => rp (co a i + co b i)) ?_ (by k_extra "mcomp") ?_ (by rfl) (by exact fun C => rfl) (by exact trivial) ?_) ?_))
  · exact it_r1 (by k_extra "mev") (by rw [len_P, len_P]; omega) (by rw [len_P, len_P]; omega) rfl rfl rfl (fun _ _ => rfl)
  · omega
  · intro C D i hi
    have hr := fn_radd w (co a i) (co b i) (ha.co i) (hb.co i) (hsum i hi)
    refine ev_call2 hr ?_ ?_
    · by_cases h : i < a.length
      · exact ev_if_t (Ts.as (by k_extra "mts") (by rw [len_P]; simpa using h)) (ev_at i (ev_name (by rfl)) (ev_name (by rfl)) (by omega) h (by omega))
      · rw [co_ge (by omega)]
        exact ev_if_f (Ts.as (by k_extra "mts") (by rw [len_P]; simpa using h)) (ev_R0 (by rfl))
    · by_cases h : i < b.length
      · exact ev_if_t (Ts.as (by k_extra "mts") (by rw [len_P]; simpa using h)) (ev_at i (ev_name (by rfl)) (ev_name (by rfl)) (by omega) h (by omega))
      · rw [co_ge (by omega)]
        exact ev_if_f (Ts.as (by k_extra "mts") (by rw [len_P]; simpa using h)) (ev_R0 (by rfl))
  · unfold P padd
    rw [List.map_map]
    rfl
theorem fn_qneg (w : World) (a : List Rat) (za : a.length ≤ 50) : Fn w "qneg" 2 [P a] (P (qneg a)) := by
  refine fn_intro (fa := 116) (ps := ["p"]) rfl rfl rfl rfl (fun vs h => ?_) rfl (by decide) (by decide) rfl rfl rfl fun A h₀ L S => ?_
  · match vs, h with
    | [_], _ => rfl
  refine ex_return (ev_comp_P (ρ := []) (fun x => -x) (ev_name (by rfl)) (by k_extra "mcomp") (by omega) (by rfl) (by exact fun C => rfl) (by exact trivial) fun C D r hr => ?_)
  have hg := fn_rneg w r
  k_extra "mev"
theorem fn_qsub (w : World) (a b : List Rat) (ha : AllOK a) (hb : AllOK (qneg b)) (hab : AllOK (padd a (qneg b))) (za : a.length ≤ 50) (zb : b.length ≤ 50) : Fn w "qsub" 5 [P a, P b] (P (qsub a b)) := by
  have h1 := fn_qneg w b zb
  have h2 := fn_qadd w a (qneg b) ha hb hab za (by unfold qneg; simpa using zb)
  refine fn_intro (fa := 123) (ps := ["a", "b"]) rfl rfl rfl rfl (fun vs h => ?_) rfl (by decide) (by decide) rfl rfl rfl fun A h₀ L S => ?_
  · match vs, h with
    | [_, _], _ => rfl
  refine ex_return (ev_call2 h2 (ev_name (by rfl)) (ev_call1 h1 (ev_name (by rfl))))
theorem fn_qscale (w : World) (a : List Rat) (r : Rat) (ha : AllOK a) (hr : OK r) (hm : ∀ x ∈ a, OK (x * r)) (za : a.length ≤ 50) : Fn w "qscale" 4 [P a, rp r] (P (qscale a r)) := by
  refine fn_intro (fa := 128) (ps := ["p", "r"]) rfl rfl rfl rfl (fun vs h => ?_) rfl (by decide) (by decide) rfl rfl rfl fun A h₀ L S => ?_
  · match vs, h with
    | [_, _], _ => rfl
  unfold qscale
  by_cases h0 : r = 0
  · rw [if_pos h0]
    refine ex_return (ev_if_f (Ts.as (ts_nei (ev_num (ev_name (by rfl))) ev_int) ?_) (ev_list evl_nil (Nat.zero_le _)))
    rw [h0]; rfl
  · rw [if_neg h0]
    refine ex_return (ev_if_t (Ts.as (ts_nei (ev_num (ev_name (by rfl))) ev_int) ?_) (ev_comp_P (ρ := [("r", rp r)]) (fun x => x * r) (ev_name (by rfl)) (by k_extra "mcomp") (by omega) (by rfl) (by exact fun C => rfl) (by exact trivial) fun C D x hx => ?_))
    · simpa using num_ne h0
    · have hg := fn_rmul w x r (ha x hx) hr (hm x hx)
      k_extra "mev"
theorem fn_qraise (w : World) (a : List Rat) (n : Nat) (za : a.length ≤ 50) (zn : n ≤ 50) : Fn w "qraise" 1 [P a, .int n] (P (qraise a n)) := by
  refine fn_intro (fa := 135) (ps := ["p", "many"]) rfl rfl rfl rfl (fun vs h => ?_) rfl (by decide) (by decide) rfl rfl rfl fun A h₀ L S => ?_
  · match vs, h with
    | [_, _], _ => rfl
  have za2 : (a.map rp).length < 2 ^ 60 := by rw [len_P]; omega
  have za3 : (a.map rp).length ≤ 1000 := by rw [len_P]; omega
  unfold qraise
  by_cases h0 : a = []
  · rw [if_pos h0]
    refine ex_return (ev_if_f (Ts.as (by k_extra "mts") ?_) (ev_list evl_nil (Nat.zero_le _)))
    rw [h0]; rfl
  · rw [if_neg h0]
    refine ex_return (Ev.as (ev_if_t (Ts.as (by k_extra "mts") ?_) (EvF.ev (evf_cat (EvF.ev (evf_rep (ev_list (evl1 (ev_R0 (by rfl))) (by exact Nat.le_of_ble_eq_true rfl)) (ev_name (by rfl)) (by rfl) ?_ ?_)) (EvF.ev (evf_ls (ev_name (by rfl)) za3 (by rfl) (by rfl) (by rfl))) ?_))) ?_)
    · have : a.length ≠ 0 := by simpa using h0
      simp; omega
    · simp; omega
    · omega
    · refine sz ?_
      rw [List.length_replicate, len_P]; simp; omega
    · unfold P
      simp
end
section
open PySem PySem.W PyProof.Rows PySem.Calls PySem.Spec
set_option maxRecDepth 100000
section
variable {c : Con} {σ σ' σ₁ σ₂ σ₃ : Sg} {e e₁ e₂ e₃ : Expr} {d d₁ d₂ : PyData} {p pos : Pos} {k : Nat} {x y z : Str} {w : World} {o : Out} {st : Stmt} {ss rest body : List Stmt} {ds : List PyData} {ρ ρ' : List (Str × PyData)}

theorem St.nopl {h : Heap} (X : St c σ h) : St c ⟨σ.ρ, σ.own, σ.av, false⟩ h := by
  refine ⟨X.cx, X.fr, X.wnew, X.kind, X.globals, X.builtins, X.nsl, X.nscell, X.inj, X.wdata, X.vars, X.avs, ?_⟩
  have q := X.own
  show OwnOk c h σ.ρ σ.av false σ.own
  cases hh : σ.own with
  | none => trivial
  | some t =>
    obtain ⟨y, D, ds⟩ := t
    rw [hh] at q
    obtain ⟨q1, q2, q3, q4, q5, q6⟩ := q
    exact ⟨q1, q2, (fun z => nomatch z), q4, q5, q6⟩
theorem ex_pl (h : Ex c ⟨σ.ρ, σ.own, σ.av, false⟩ ss o) : Ex c σ ss o := by
  refine ⟨?_, fun s Q X hq => h.2 s Q X.nopl hq⟩
  have q := h.1
  cases o with
  | next σ₂ => exact q
  | ret d => trivial
theorem fo_idx {target : Expr} : ∀ {ds : List PyData} (σf : Nat → Sg) (h : ∀ (i : Nat) (d : PyData), ds[i]? = some d → ∃ σ₁, As c (σf i) target d σ₁ ∧ Ex c σ₁ body (.next (σf (i + 1)))) (hfx : ∀ i, (σf (i + 1)).fx = (σf i).fx), Fo c target body ds (σf 0) (σf ds.length)
  | [], σf, h, hfx => .nil
  | d :: ds, σf, h, hfx => by
    obtain ⟨σ₁, h1, h2⟩ := h 0 d rfl
    exact .cons h1 h2 (hfx 0) (fo_idx (fun i => σf (i + 1)) (fun i d q => h (i + 1) d q) fun i => hfx (i + 1))
theorem ex_for {iter target : Expr} {ds : List PyData} (σf : Nat → Sg) (hi : It c σ iter (σf 0) ds target) (h : ∀ (i : Nat) (d : PyData), ds[i]? = some d → ∃ σ₁, As c (σf i) target d σ₁ ∧ Ex c σ₁ body (.next (σf (i + 1)))) (hfx : ∀ i, (σf (i + 1)).fx = (σf i).fx)
    (hr : Ex c (σf ds.length) rest o) (hs : ∀ x, foldedSetIterable iter c.env x = pure x := by intro _; rfl) : Ex c σ (.For target iter body [] pos :: rest) o :=
  ex_cons (sx_for hi (fo_idx σf h hfx) hs) hr
/-- over a range -/
theorem ex_for_rng {iter target : Expr} {a : Int} {n : Nat} (σf : Nat → Sg) (hi : It c σ iter (σf 0) (rng a n) target) (h : ∀ i : Nat, i < n → ∃ σ₁, As c (σf i) target (.int (a + i)) σ₁ ∧ Ex c σ₁ body (.next (σf (i + 1)))) (hfx : ∀ i, (σf (i + 1)).fx = (σf i).fx)
    (hr : Ex c (σf n) rest o) (hs : ∀ x, foldedSetIterable iter c.env x = pure x := by intro _; rfl) : Ex c σ (.For target iter body [] pos :: rest) o :=
  ex_for σf hi (fun i d q => by obtain ⟨q1, rfl⟩ := rng_get q; exact h i q1) hfx (by rw [rng_length]; exact hr) hs
theorem enumd_get {l : List Rat} {i : Nat} {d : PyData} (h : (enumd (l.map rp))[i]? = some d) : i < l.length ∧ d = .tuple [.int i, rp (co l i)] := by
  unfold enumd at h
  rw [List.getElem?_mapIdx, List.getElem?_map] at h
  cases q : l[i]? with
  | none => rw [q] at h; cases h
  | some r =>
    rw [q] at h
    obtain rfl := Option.some.inj h
    refine ⟨(List.getElem?_eq_some_iff.mp q).1, ?_⟩
    unfold co
    rw [List.getD_eq_getElem?_getD, q]
    rfl
theorem enumd_len {l : List Rat} : (enumd (l.map rp)).length = l.length := by unfold enumd; simp
/-- over an enumeration -/
theorem ex_for_enum {iter target : Expr} {l : List Rat} (σf : Nat → Sg) (hi : It c σ iter (σf 0) (enumd (l.map rp)) target) (h : ∀ i : Nat, i < l.length → ∃ σ₁, As c (σf i) target (.tuple [.int i, rp (co l i)]) σ₁ ∧ Ex c σ₁ body (.next (σf (i + 1)))) (hfx : ∀ i, (σf (i + 1)).fx = (σf i).fx)
    (hr : Ex c (σf l.length) rest o) (hs : ∀ x, foldedSetIterable iter c.env x = pure x := by intro _; rfl) : Ex c σ (.For target iter body [] pos :: rest) o :=
  ex_for σf hi (fun i d q => by obtain ⟨q1, rfl⟩ := enumd_get q; exact h i q1) hfx (by rw [enumd_len]; exact hr) hs
/-- the owned list's item -/
theorem ev_ato {D : Addr} {l : List Rat} {i : Int} (n : Nat) (ho : σ.own = some (x, D, l.map rp)) (h2 : Ev c σ e₂ σ (.int i)) (hi : i = n) (hn : n < l.length) (hz : l.length ≤ 1000) (hp : plainIdx e₂ = true := by rfl)
    (hd : (x == ("__debug__" : Str)) = false := by decide) (hnn : (x == ("__classdict__" : Str)) = false := by decide) : Ev c σ (.Subscript (.Name x p) e₂ pos) σ (rp (co l n)) :=
  ev_itemo ho h2 ho (nth_P hi hn) (by omega) (by omega) hp hd hnn
theorem set_P {l : List Rat} {i : Nat} {r : Rat} : (l.map rp).set i (rp r) = (l.set i r).map rp := (List.map_set ..).symm
theorem ex_seto {D : Addr} {l : List Rat} {i : Int} {tp : Pos} {r : Rat} (n : Nat) (ho : σ.own = some (x, D, l.map rp)) (h1 : Ev c σ e₁ σ (rp r)) (h2 : Ev c σ e₂ σ (.int i)) (hi : i = n) (hn : n < l.length) (hz : l.length ≤ 1000) (hr : Ex c ⟨σ.ρ, some (x, D, (l.set n r).map rp), σ.av, false⟩ rest o)
    (hs : swapsWith e₁ (some (.Subscript (.Name x p) e₂ tp)) pos.line c.env = pure false := by rfl) (hd : (x == ("__debug__" : Str)) = false := by decide) (hnn : (x == ("__classdict__" : Str)) = false := by decide) : Ex c σ (.Assign [.Subscript (.Name x p) e₂ tp] e₁ pos :: rest) o := by
  subst hi
  have q := sx_setitem h1 ho h2 ho (by omega) (by simpa using hn) (by rw [len_P]; omega) hs hd hnn
  refine ex_cons q ?_
  rw [Int.toNat_natCast, set_P]
  exact hr

theorem ex_owns (ds : List PyData) (ρ : List (Str × PyData)) (h : EvF c σ e σ ds) (P : Place c x) (ho : σ.own = none) (hsub : ∀ y d, ρ.lookup y = some d → σ.ρ.lookup y = some d) (hx : ρ.lookup x = none) (hr : ∀ D, Ex c ⟨ρ, some (x, D, ds), D :: σ.av, true⟩ rest (.ret d))
    (hs : swapsWith e (some (.Name x p)) pos.line c.env = pure false := by rfl) : Ex c σ (.Assign [.Name x p] e pos :: rest) (.ret d) :=
  ex_own h P ho ho (fun y d q => ⟨fun e => by rw [e, hx] at q; (exact nomatch q), hsub y d q⟩) (fun _ _ => trivial) hr hs
theorem evf_zeros {i : Int} {lp : Pos} (n : Nat) (h1 : Ev c σ e₁ σ (rp 0)) (h2 : Ev c σ e₂ σ (.int i)) (hi : i.toNat = n) (hz : -1000 ≤ i ∧ i ≤ 1000) (he : starEach [e₁] c.env = [(false, eval e₁ c.env)] := by rfl) : EvF c σ (.BinOp (.List [e₁] lp) .Mult e₂ pos) σ ((List.replicate n (0 : Rat)).map rp) := by
  subst hi
  have q := evf_rep (pos := pos) (ev_list (pos := lp) (evl1 h1 he) (by exact Nat.le_of_ble_eq_true rfl)) h2 (by rfl) (by omega) (by omega)
  rw [List.map_replicate]
  exact q

theorem co_mem {l : List Rat} {i : Nat} (h : i < l.length) : co l i ∈ l := by
  unfold co
  rw [List.getD_eq_getElem?_getD, List.getElem?_eq_getElem h]
  exact List.getElem_mem h
theorem co_set {l : List Rat} {i : Nat} {r : Rat} (h : i < l.length) : co (l.set i r) i = r := by
  unfold co
  rw [List.getD_eq_getElem?_getD, List.getElem?_set_self h]
  rfl
theorem co_set_ne {l : List Rat} {i j : Nat} {r : Rat} (h : i ≠ j) : co (l.set i r) j = co l j := by
  unfold co
  rw [List.getD_eq_getElem?_getD, List.getD_eq_getElem?_getD, List.getElem?_set_ne h]

theorem ex_swap {ts : List Expr} {u u' : Nat} {tp vp : Pos} (d₁ d₂ : PyData) (h1 : Ev c σ e₁ σ d₁) (h2 : Ev c σ e₂ σ d₂) (hw : swappedStores [.Tuple ts u tp] (.Tuple [e₁, e₂] u' vp) c.env = pure (some [x, y])) (Px : Place c x) (Py : Place c y) (nx : σ.notOwn x) (ny : σ.notOwn y)
    (hr : Ex c ((σ.set y d₂).set x d₁) rest o) (hs : swapsWithSole [.Tuple ts u tp] (.Tuple [e₁, e₂] u' vp) pos.line c.env = pure false := by rfl) (he : starEach [e₁, e₂] c.env = [(false, eval e₁ c.env), (false, eval e₂ c.env)] := by rfl) (he2 : starEach [e₂] c.env = [(false, eval e₂ c.env)] := by rfl) :
    Ex c σ (.Assign [.Tuple ts u tp] (.Tuple [e₁, e₂] u' vp) pos :: rest) o :=
  ex_cons (sx_swap2 (ev_tuple (evl2 h1 h2 he he2) (by exact Nat.le_of_ble_eq_true rfl)) Px Py nx ny hs hw) hr
theorem ex_own2s {ts : List Expr} {u u' : Nat} {tp vp : Pos} (d₁ : PyData) (ds : List PyData) (ρ : List (Str × PyData)) (h1 : Ev c σ e₁ σ d₁) (h2 : EvF c σ e₂ σ ds) (hw : swappedStores [.Tuple ts u tp] (.Tuple [e₁, e₂] u' vp) c.env = pure (some [x, y])) (Px : Place c x) (Py : Place c y) (ho : σ.own = none) (hxy : (y == x) = false)
    (hsub : ∀ y d, ρ.lookup y = some d → σ.ρ.lookup y = some d) (hx : ρ.lookup y = none) (hr : ∀ D, Ex c ⟨(x, d₁) :: ρ, some (y, D, ds), D :: σ.av, true⟩ rest (.ret d))
    (hs : swapsWithSole [.Tuple ts u tp] (.Tuple [e₁, e₂] u' vp) pos.line c.env = pure false := by rfl) (he : starEach [e₁, e₂] c.env = [(false, eval e₁ c.env), (false, eval e₂ c.env)] := by rfl) :
    Ex c σ (.Assign [.Tuple ts u tp] (.Tuple [e₁, e₂] u' vp) pos :: rest) (.ret d) :=
  ex_own2 h1 h2 Px Py ho ho hxy (fun z d q => ⟨fun e => by rw [e, hx] at q; (exact nomatch q), hsub z d q⟩) hr hs hw he
theorem OK.neg {x : Rat} (h : OK x) : OK (-x) := by
  obtain ⟨B, hB, h1, h2⟩ := h
  exact ⟨B, hB, by rw [Rat.neg_num, Int.natAbs_neg]; exact h1, h2⟩
theorem AllOK.neg {l : List Rat} (h : AllOK l) : AllOK (qneg l) := fun x hx => by
  obtain ⟨y, hy, rfl⟩ := List.mem_map.mp hx
  exact (h y hy).neg
theorem AllOK.take {l : List Rat} (h : AllOK l) (n : Nat) : AllOK (l.take n) := fun x hx => h x (List.mem_of_mem_take hx)
theorem AllOK.scale {l : List Rat} {r : Rat} (h : ∀ x ∈ l, OK (x * r)) : AllOK (qscale l r) := fun x hx => by
  unfold qscale at hx
  split at hx
  · cases hx
  · obtain ⟨y, hy, rfl⟩ := List.mem_map.mp hx
    exact h y hy
theorem AllOK.raise {l : List Rat} {n : Nat} (h : AllOK l) : AllOK (qraise l n) := fun x hx => by
  unfold qraise at hx
  split at hx
  · cases hx
  · rcases List.mem_append.mp hx with q | q
    · rw [(List.mem_replicate.mp q).2]; exact OK.zero
    · exact h x q
theorem qraise_le {l : List Rat} {n : Nat} : (qraise l n).length ≤ n + l.length := by
  unfold qraise
  split
  · simp
  · simp
theorem qscale_le {l : List Rat} {r : Rat} : (qscale l r).length ≤ l.length := by
  unfold qscale
  split
  · simp
  · simp
theorem qadd_le {a b : List Rat} : (qadd a b).length ≤ max a.length b.length := by
  unfold qadd
  refine Nat.le_trans (trim_le _) ?_
  unfold padd
  simp
theorem qsub_le {a b : List Rat} : (qsub a b).length ≤ max a.length b.length := by
  unfold qsub
  refine Nat.le_trans qadd_le ?_
  unfold qneg
  simp

/-! division -/
def dnum (b r : List Rat) : Rat := co r (r.length - 1) / co b (b.length - 1)
def dlow (b r : List Rat) : List Rat := qraise (qscale (b.take (b.length - 1)) (dnum b r)) (r.length - b.length)
def dstep (b : List Rat) (s : List Rat × List Rat) : List Rat × List Rat := (qsub (s.1.take (s.1.length - 1)) (dlow b s.1), s.2.set (s.1.length - b.length) (dnum b s.1))
def dvm (b : List Rat) : Nat → List Rat × List Rat → List Rat × List Rat
  | 0, s => s
  | n + 1, s => if b.length ≤ s.1.length then dvm b n (dstep b s) else s
def StepOK (b r : List Rat) : Prop := AllOK r ∧ OK (dnum b r) ∧ (∀ x ∈ b, OK (x * dnum b r)) ∧ AllOK (padd (r.take (r.length - 1)) (qneg (dlow b r)))
def DvmOK (b : List Rat) : Nat → List Rat × List Rat → Prop
  | 0, s => s.1.length < b.length
  | n + 1, s => b.length ≤ s.1.length → StepOK b s.1 ∧ DvmOK b n (dstep b s)
def qdivmod (a b : List Rat) : List Rat × List Rat := let s := dvm b (a.length + 1) (a, List.replicate (a.length + 1 - b.length) 0); (trim s.2, s.1)

theorem ex_whileS {t : Expr} (σ₁ σ₂ : Sg) (h : ∃ n, Wh c t body n σ₁ σ₂) (ho : σ₁.own = σ.own) (ha : σ₁.av = σ.av) (hp : σ₁.pl = σ.pl) (hs : ∀ y d, σ₁.ρ.lookup y = some d → σ.ρ.lookup y = some d) (hr : Ex c σ₂ rest o) : Ex c σ (.While t body [] pos :: rest) o :=
  ex_sub (σ' := σ₁) (ex_cons (sx_whileE h) hr) ho ha hp hs
theorem Wh.go2 {t : Expr} (h : Ts c σ t σ true) (h1 : Ex c σ body (.next σ₂)) (h2 : ∃ n, Wh c t body n σ₂ σ₃) : ∃ n, Wh c t body n σ σ₃ := let ⟨n, q⟩ := h2; ⟨n + 1, .turn h h1 q⟩
theorem map_init {l : List Rat} : (l.map rp).take ((l.map rp).length - 1) = (l.take (l.length - 1)).map rp := by rw [len_P, map_take]

/-! products -/
def mi (x : Rat) (b : List Rat) (k : Nat) (f : List Rat) : Nat → List Rat
  | 0 => f
  | i + 1 => (mi x b k f i).set (k + i) (co (mi x b k f i) (k + i) + x * co b i)
def mo (a b : List Rat) (f : List Rat) : Nat → List Rat
  | 0 => f
  | i + 1 => mi (co a i) b i (mo a b f i) b.length
def mz (a b : List Rat) : List Rat := List.replicate (a.length + b.length - 1) 0
def qmul (a b : List Rat) : List Rat := if a = [] ∨ b = [] then [] else mo a b (mz a b) a.length
theorem mi_length {x : Rat} {b : List Rat} {k : Nat} {f : List Rat} : ∀ i, (mi x b k f i).length = f.length
  | 0 => rfl
  | i + 1 => by unfold mi; rw [List.length_set, mi_length i]
theorem mo_length {a b f : List Rat} : ∀ i, (mo a b f i).length = f.length
  | 0 => rfl
  | i + 1 => by unfold mo; rw [mi_length, mo_length i]
end
end
section
open PySem PySem.W PyProof.Rows PySem.Calls PySem.Spec
set_option maxRecDepth 100000
theorem fn_qmul (w : World) (a b : List Rat) (ha : AllOK a) (hb : AllOK b) (hp : ∀ x ∈ a, ∀ y ∈ b, OK (x * y)) (hm : ∀ i j, i < a.length → j ≤ b.length → AllOK (mi (co a i) b i (mo a b (mz a b) i) j)) (za : a.length ≤ 50) (zb : b.length ≤ 50) : Fn w "qmul" 4 [P a, P b] (P (qmul a b)) := by
  refine fn_intro (fa := 142) (ps := ["a", "b"]) rfl rfl rfl rfl (fun vs h => ?_) rfl (by decide) (by decide) rfl rfl rfl fun A h₀ L S => ?_
  · match vs, h with
    | [_, _], _ => rfl
  have za2 : (a.map rp).length < 2 ^ 60 := by rw [len_P]; omega
  have zb2 : (b.map rp).length < 2 ^ 60 := by rw [len_P]; omega
  unfold qmul
  by_cases h0 : a = [] ∨ b = []
  · rw [if_pos h0]
    by_cases ha0 : a = []
    · exact ex_ret (sx_if_t (ts_or_t (Ts.as (by k_extra "mts") (by rw [len_P]; simpa using ha0))) (ex_return (ev_list evl_nil (Nat.zero_le _))))
    · have hb0 : b = [] := h0.resolve_left ha0
      exact ex_ret (sx_if_t (ts_or_f (Ts.as (by k_extra "mts") (by rw [len_P]; simpa using ha0)) (ts_or_t (Ts.as (by k_extra "mts") (by rw [len_P]; simpa using hb0)))) (ex_return (ev_list evl_nil (Nat.zero_le _))))
  rw [if_neg h0]
  have ha0 : a ≠ [] := fun e => h0 (.inl e)
  have hb0 : b ≠ [] := fun e => h0 (.inr e)
  have la : 0 < a.length := List.length_pos_iff.mpr ha0
  have lb : 0 < b.length := List.length_pos_iff.mpr hb0
  refine ex_cons (sx_if_f (ts_or_f (Ts.as (by k_extra "mts") (by rw [len_P]; simpa using ha0)) (ts_or_f (Ts.as (by k_extra "mts") (by rw [len_P]; simpa using hb0)) ts_or_nil)) ex_nil) ?_
  refine ex_owns ((mz a b).map rp) [("a", P a), ("b", P b)] (evf_zeros _ (ev_R0 (by rfl)) (by k_extra "mev") (by rw [len_P, len_P]; omega) (by rw [len_P, len_P]; omega)) (by k_extra "mloc") (by rfl) (by k_extra "msub") (by rfl) (fun D => ?_)
  refine ex_pl ?_
  have hml : ∀ i, (mo a b (mz a b) i).length = a.length + b.length - 1 := fun i => by rw [mo_length]; unfold mz; simp
  refine ex_for_enum (l := a) (fun i => ⟨[("a", P a), ("b", P b)], some ("found", D, (mo a b (mz a b) i).map rp), [D], false⟩) (it_enum (by rfl) (by rfl) (ev_name (by rfl))) (fun i hi => ?_) (fun i => rfl) ?_
  · refine ⟨_, by k_extra "mas", ?_⟩
    refine ex_weak (σ₁ := ⟨[("a", P a), ("b", P b), ("one", .int i), ("left", rp (co a i))], some ("found", D, (mi (co a i) b i (mo a b (mz a b) i) b.length).map rp), [D], false⟩) ?_ rfl rfl rfl (by k_extra "msub")
    refine ex_sub (σ' := ⟨[("a", P a), ("b", P b), ("one", .int i), ("left", rp (co a i))], some ("found", D, (mo a b (mz a b) i).map rp), [D], false⟩) ?_ rfl rfl rfl (by k_extra "msub")
    refine ex_for_enum (l := b) (fun j => ⟨[("a", P a), ("b", P b), ("one", .int i), ("left", rp (co a i))], some ("found", D, (mi (co a i) b i (mo a b (mz a b) i) j).map rp), [D], false⟩) (it_enum (by rfl) (by rfl) (ev_name (by rfl))) (fun j hj => ?_) (fun i => rfl) ex_nil
    refine ⟨_, by k_extra "mas", ?_⟩
    have hl2 : (mi (co a i) b i (mo a b (mz a b) i) j).length = a.length + b.length - 1 := by rw [mi_length, hml]
    have o1 : OK (co a i * co b j) := hp _ (co_mem hi) _ (co_mem hj)
    have o2 : OK (co (mi (co a i) b i (mo a b (mz a b) i) j) (i + j)) := (hm i j hi (by omega)).co _
    have o3 : OK (co (mi (co a i) b i (mo a b (mz a b) i) j) (i + j) + co a i * co b j) := by
      have := (hm i (j + 1) hi (by omega)).co (i + j)
      unfold mi at this
      rwa [co_set (by omega)] at this
    have f1 := fn_rmul w _ _ (ha.co i) (hb.co j) o1
    have f2 := fn_radd w _ _ o2 o1 o3
    refine ex_seto (l := mi (co a i) b i (mo a b (mz a b) i) j) (r := co (mi (co a i) b i (mo a b (mz a b) i) j) (i + j) + co a i * co b j) (i + j) (by rfl) (ev_call2 f2 (ev_ato (i + j) (by rfl) (by k_extra "mev") (by omega) (by omega) (by omega)) (ev_call2 f1 (ev_name (by rfl)) (ev_name (by rfl)))) (by k_extra "mev") (by omega) (by omega) (by omega) ?_
    exact ex_weak ex_nil rfl rfl rfl (by k_extra "msub")
  · refine ex_drop (ex_return (ev_name (by rfl)))
end
section
open PySem PySem.W PyProof.Rows PySem.Calls PySem.Spec
set_option maxRecDepth 100000
theorem fn_qdivmod (w : World) (a b : List Rat) (hb : AllOK b) (hb0 : 0 < b.length) (hl : co b (b.length - 1) ≠ 0) (hd : DvmOK b (a.length + 1) (a, List.replicate (a.length + 1 - b.length) 0)) (za : a.length ≤ 20) (zb : b.length ≤ 20) :
    Fn w "qdivmod" 6 [P a, P b] (.tuple [P (qdivmod a b).1, P (qdivmod a b).2]) := by
  have lf : ∀ n s, (dvm b n s).2.length = s.2.length := by
    intro n
    induction n with
    | zero => intro s; rfl
    | succ n ih =>
      intro s
      unfold dvm
      split
      · rw [ih]; unfold dstep; simp
      · rfl
  have hqt := fn_qtrim w (dvm b (a.length + 1) (a, List.replicate (a.length + 1 - b.length) 0)).2 (by rw [lf]; simp; omega)
  refine fn_intro (fa := 149) (ps := ["a", "b"]) rfl rfl rfl rfl (fun vs h => ?_) rfl (by decide) (by decide) rfl rfl rfl fun A h₀ L S => ?_
  · match vs, h with
    | [_, _], _ => rfl
  have za2 : (a.map rp).length < 2 ^ 60 := by rw [len_P]; omega
  have zb2 : (b.map rp).length < 2 ^ 60 := by rw [len_P]; omega
  have za3 : (a.map rp).length ≤ 1000 := by rw [len_P]; omega
  have hbne : b ≠ [] := fun e => by rw [e] at hb0; exact absurd hb0 (by decide)
  refine ex_cons (sx_if_f (Ts.as (by k_extra "mts") (by rw [len_P]; simpa using hbne)) ex_nil) ?_
  refine ex_own2s (P a) ((List.replicate (a.length + 1 - b.length) (0 : Rat)).map rp) [("a", P a), ("b", P b)] (EvF.ev (evf_ls (ev_name (by rfl)) za3 (by rfl) (by rfl) (by rfl))) (evf_zeros _ (ev_R0 (by rfl)) (by k_extra "mev") (by rw [len_P, len_P]; omega) (by rw [len_P, len_P]; omega)) rfl (by k_extra "mloc") (by k_extra "mloc") rfl rfl (by k_extra "msub") (by rfl) (fun D => ?_)
  refine ex_pl ?_
  refine ex_whileS ⟨[("b", P b), ("rest", P a)], some ("found", D, (List.replicate (a.length + 1 - b.length) (0 : Rat)).map rp), [D], false⟩
    ⟨[("b", P b), ("rest", P (dvm b (a.length + 1) (a, List.replicate (a.length + 1 - b.length) 0)).1)], some ("found", D, (dvm b (a.length + 1) (a, List.replicate (a.length + 1 - b.length) 0)).2.map rp), [D], false⟩ ?_ (by rfl) (by rfl) (by rfl) (by k_extra "msub") ?_
  · have hs1 : (a, List.replicate (a.length + 1 - b.length) (0 : Rat)).1.length ≤ a.length := Nat.le_refl _
    have hs2 : (a, List.replicate (a.length + 1 - b.length) (0 : Rat)).2.length = a.length + 1 - b.length := by simp
    show ∃ n, Wh _ _ _ n ⟨[("b", P b), ("rest", P (a, List.replicate (a.length + 1 - b.length) (0 : Rat)).1)], some ("found", D, ((a, List.replicate (a.length + 1 - b.length) (0 : Rat)).2).map rp), [D], false⟩ _
    generalize (a, List.replicate (a.length + 1 - b.length) (0 : Rat)) = s at hs1 hs2 hd ⊢
    generalize a.length + 1 = n at hd ⊢
    clear hqt
    induction n generalizing s with
    | zero =>
      have z1 : (s.1.map rp).length < 2 ^ 60 := by rw [len_P]; omega
      exact Wh.oo (Ts.as (by k_extra "mts") (by rw [len_P, len_P]; have : s.1.length < b.length := hd; simpa using this))
    | succ n ih =>
      have z1 : (s.1.map rp).length < 2 ^ 60 := by rw [len_P]; omega
      unfold dvm
      by_cases hlt : b.length ≤ s.1.length
      · rw [if_pos hlt]
        obtain ⟨⟨k1, k2, k3, k4⟩, hd'⟩ := hd hlt
        have d1 : (dstep b s).1.length ≤ a.length := by
          unfold dstep
          refine Nat.le_trans qsub_le ?_
          have h1 : (dlow b s.1).length ≤ (s.1.length - b.length) + b.length := by
            unfold dlow
            refine Nat.le_trans qraise_le ?_
            have := @qscale_le (b.take (b.length - 1)) (dnum b s.1)
            rw [List.length_take] at this
            omega
          have h2 : (s.1.take (s.1.length - 1)).length ≤ s.1.length := by rw [List.length_take]; omega
          omega
        have d2 : (dstep b s).2.length = s.2.length := by unfold dstep; simp
        have hz0 : dnum b s.1 = co s.1 (s.1.length - 1) / co b (b.length - 1) := rfl
        have f1 := fn_rdiv w (co s.1 (s.1.length - 1)) (co b (b.length - 1)) hl (k1.co _) (hb.co _) k2
        have f2 := fn_qscale w (b.take (b.length - 1)) (dnum b s.1) (hb.take _) k2 (fun x hx => k3 x (List.mem_of_mem_take hx)) (by rw [List.length_take]; omega)
        have l1 : (qscale (b.take (b.length - 1)) (dnum b s.1)).length ≤ b.length := Nat.le_trans qscale_le (by rw [List.length_take]; omega)
        have f3 := fn_qraise w (qscale (b.take (b.length - 1)) (dnum b s.1)) (s.1.length - b.length) (by omega) (by omega)
        have l2 : (dlow b s.1).length ≤ (s.1.length - b.length) + b.length := Nat.le_trans qraise_le (by omega)
        have f4 := fn_qsub w (s.1.take (s.1.length - 1)) (dlow b s.1) (k1.take _) (AllOK.neg (AllOK.raise (AllOK.scale fun x hx => k3 x (List.mem_of_mem_take hx)))) k4 (by rw [List.length_take]; omega) (by omega)
        have z3 : (s.1.map rp).length ≤ 1000 := by rw [len_P]; omega
        have z4 : (b.map rp).length ≤ 1000 := by rw [len_P]; omega
        refine Wh.go2 (Ts.as (by k_extra "mts") (by rw [len_P, len_P]; simpa using hlt)) (σ₂ := ⟨[("b", P b), ("rest", P (dstep b s).1)], some ("found", D, (dstep b s).2.map rp), [D], false⟩) ?_ (ih (dstep b s) d1 (d2.trans hs2) hd')
        refine ex_swap (rp (dnum b s.1)) (.int (s.1.length - b.length : Nat)) (ev_call2 f1 (ev_last (ev_name (by rfl)) (by k_extra "mev") (by omega) (by omega)) (ev_last (ev_name (by rfl)) (by k_extra "mev") (by omega) (by omega))) (Ev.as (by k_extra "mev") ?_) rfl (by k_extra "mloc") (by k_extra "mloc") (by k_extra "mno") (by k_extra "mno") ?_
        · rw [len_P, len_P]; congr 1; omega
        refine ex_seto (l := s.2) (r := dnum b s.1) (s.1.length - b.length) (by rfl) (ev_name (by rfl)) (ev_name (by rfl)) (by rfl) (by omega) (by omega) ?_
        refine ex_assign (P (dstep b s).1) (ev_call2 f4 (Ev.as (EvF.ev (evf_init (ev_name (by rfl)) (by k_extra "mev") z3)) ?_) (ev_call2 f3 (ev_call2 f2 (Ev.as (EvF.ev (evf_init (ev_name (by rfl)) (by k_extra "mev") z4)) ?_) (ev_name (by rfl))) (ev_name (by rfl)))) (by k_extra "mloc") (by k_extra "mno") ?_
        · rw [map_init]; rfl
        · rw [map_init]; rfl
        refine ex_assign (P (dstep b s).1) (ev_name (by rfl)) (by k_extra "mloc") (by k_extra "mno") ?_
        exact ex_weak ex_nil rfl rfl rfl (by k_extra "msub")
      · rw [if_neg hlt]
        exact Wh.oo (Ts.as (by k_extra "mts") (by rw [len_P, len_P]; simpa using hlt))
  · exact ex_drop (ex_return (ev_tuple (evl2 (ev_call1 hqt (ev_name (by rfl))) (ev_name (by rfl))) (by exact Nat.le_of_ble_eq_true rfl)))
end
section
open PySem PySem.W PyProof.Rows PySem.Calls PySem.Spec
set_option maxRecDepth 100000
section
variable {c : Con} {σ σ' σ₁ σ₂ σ₃ : Sg} {e e₁ e₂ e₃ : Expr} {d d₁ d₂ : PyData} {p pos : Pos} {k : Nat} {x y z : Str} {w : World} {o : Out} {st : Stmt} {ss rest body : List Stmt} {ds : List PyData} {ρ ρ' : List (Str × PyData)}
theorem rat_ext {x y : Rat} : (x.num == y.num && (x.den : Int) == (y.den : Int)) = decide (x = y) := by
  by_cases h : x = y
  · subst h; simp
  · rw [decide_eq_false h]
    rw [Bool.and_eq_false_iff]
    by_cases h1 : x.num = y.num
    · right
      simp only [beq_eq_false_iff_ne]
      intro h2
      exact h (Rat.ext h1 (by omega))
    · left; simpa using h1
theorem eqv_rp (x y : Rat) : PyData.eqv (rp x) (rp y) = decide (x = y) := by
  unfold rp
  rw [PyData.eqv]
  rw [PyData.eqvAll, PyData.eqvAll, PyData.eqvAll, PyData.eqv, PyData.eqv, Bool.and_true]
  exact rat_ext
theorem eqv_rps : ∀ (a b : List Rat), PyData.eqvAll (a.map rp) (b.map rp) = decide (a = b)
  | [], [] => rfl
  | x :: a, [] => by simp [PyData.eqvAll]
  | [], y :: b => by simp [PyData.eqvAll]
  | x :: a, y :: b => by
    rw [List.map_cons, List.map_cons, PyData.eqvAll, eqv_rp, eqv_rps a b]
    simp
theorem eqv_P (a b : List Rat) : PyData.eqv (P a) (P b) = decide (a = b) := by
  unfold P
  rw [PyData.eqv]
  exact eqv_rps a b
theorem lay_rp (x : Rat) : (rp x).canLay0 = true := by
  unfold rp; rfl
theorem dep_rp (x : Rat) : (rp x).depth = 1 := rfl
theorem shaped_rp (x : Rat) : PySem.SeqAt.shaped (rp x) = true := rfl
theorem layAll : ∀ a : List Rat, PyData.canLayAll0 (a.map rp) = true
  | [] => rfl
  | x :: a => by
    rw [List.map_cons, PyData.canLayAll0, lay_rp, layAll a]
    rfl
theorem depAll : ∀ a : List Rat, PyData.depthAll (a.map rp) ≤ 1
  | [] => by rw [List.map_nil, PyData.depthAll]; omega
  | x :: a => by
    rw [List.map_cons, PyData.depthAll, dep_rp]
    have := depAll a
    omega
theorem shaped_P (a : List Rat) : PySem.SeqAt.shaped (P a) = true := by
  unfold PySem.SeqAt.shaped P
  rw [PyData.canLay0, layAll, PyData.depth]
  have := depAll a
  simp
  omega
theorem op_subb {i j : Bool} : Op w 0 (fun vs => match vs with | [a, b] => binaryOp .Sub a b | _ => .unsupported "") [.bool i, .bool j] (.int (b2i i - b2i j)) := by
  intro A h₀ L s vs as Q cx fr rd hq
  obtain ⟨v, u, as₁, as₂, rfl, rfl, r₁, r₂⟩ := two_inv rd
  obtain ⟨rfl, rfl⟩ := bool_of r₁
  obtain ⟨rfl, rfl⟩ := bool_of r₂
  exact sub_bool (hq _ [] _ _ (fun _ _ e => e) (.int _ _) (fun _ ha => nomatch ha))
theorem ev_subb {i j : Bool} (h1 : Ev c σ e₁ σ₁ (.bool i)) (h2 : Ev c σ₁ e₂ σ₂ (.bool j)) : Ev c σ (.BinOp e₁ .Sub e₂ pos) σ₂ (.int (b2i i - b2i j)) := ev_binop h1 h2 op_subb (Nat.zero_le _)
theorem op_isnone {d : PyData} {b : Bool} (hb : b = match d with | .none => true | _ => false) (hd : ∀ l, d ≠ .dict l) : Op w 0 (fun vs => match vs with | [a, b] => compareOp .Is a b | _ => .unsupported "") [d, .none] (.bool b) := by
  intro A h₀ L s vs as Q cx fr rd hq
  obtain ⟨v, u, as₁, as₂, rfl, rfl, r₁, r₂⟩ := two_inv rd
  obtain ⟨rfl, rfl⟩ := none_of r₂
  refine is_none_gen ?_
  have : (v == Value.none) = b := by
    subst hb
    cases r₁ <;> rfl
  rw [this]
  exact hq _ [] s.heap s.toks (fun _ _ e => e) (.bool _) (fun _ ha => nomatch ha)
theorem ev_isnone {b : Bool} (hb : b = match d with | .none => true | _ => false) (hd : ∀ l, d ≠ .dict l) (h1 : Ev c σ e₁ σ₁ d) (h2 : Ev c σ₁ e₂ σ₂ .none) (hm : behindInMarks .Is e₂ = false := by with_unfolding_all rfl) : Ev c σ (.Compare e₁ [.Is] [e₂] pos) σ₂ (.bool b) :=
  ev_cmp h1 h2 (op_isnone hb hd) (Nat.zero_le _) hm
theorem ts_isnone {b : Bool} (hb : b = match d with | .none => true | _ => false) (hd : ∀ l, d ≠ .dict l) (h1 : Ev c σ e₁ σ₁ d) (h2 : Ev c σ₁ e₂ σ₂ .none) (hm : behindInMarks .Is e₂ = false := by with_unfolding_all rfl) : Ts c σ (.Compare e₁ [.Is] [e₂] pos) σ₂ b :=
  ts_two h1 h2 (op_isnone hb hd) (Nat.zero_le _) hm
theorem ts_eq {b : Bool} (h1 : Ev c σ e₁ σ₁ d₁) (h2 : Ev c σ₁ e₂ σ₂ d₂) (s1 : PySem.SeqAt.shaped d₁ = true) (s2 : PySem.SeqAt.shaped d₂ = true) (q : PyData.eqv d₁ d₂ = b) (hm : behindInMarks .Eq e₂ = false := by with_unfolding_all rfl) : Ts c σ (.Compare e₁ [.Eq] [e₂] pos) σ₂ b :=
  q ▸ ts_two h1 h2 (op_eq s1 s2) (Nat.zero_le _) hm
theorem ts_ne {b : Bool} (h1 : Ev c σ e₁ σ₁ d₁) (h2 : Ev c σ₁ e₂ σ₂ d₂) (s1 : PySem.SeqAt.shaped d₁ = true) (s2 : PySem.SeqAt.shaped d₂ = true) (q : (!PyData.eqv d₁ d₂) = b) (hm : behindInMarks .NotEq e₂ = false := by with_unfolding_all rfl) : Ts c σ (.Compare e₁ [.NotEq] [e₂] pos) σ₂ b :=
  q ▸ ts_two h1 h2 (op_ne s1 s2) (Nat.zero_le _) hm
theorem ev_eq {b : Bool} (h1 : Ev c σ e₁ σ₁ d₁) (h2 : Ev c σ₁ e₂ σ₂ d₂) (s1 : PySem.SeqAt.shaped d₁ = true) (s2 : PySem.SeqAt.shaped d₂ = true) (q : PyData.eqv d₁ d₂ = b) (hm : behindInMarks .Eq e₂ = false := by with_unfolding_all rfl) : Ev c σ (.Compare e₁ [.Eq] [e₂] pos) σ₂ (.bool b) :=
  q ▸ ev_cmp h1 h2 (op_eq s1 s2) (Nat.zero_le _) hm
theorem ev_ne {b : Bool} (h1 : Ev c σ e₁ σ₁ d₁) (h2 : Ev c σ₁ e₂ σ₂ d₂) (s1 : PySem.SeqAt.shaped d₁ = true) (s2 : PySem.SeqAt.shaped d₂ = true) (q : (!PyData.eqv d₁ d₂) = b) (hm : behindInMarks .NotEq e₂ = false := by with_unfolding_all rfl) : Ev c σ (.Compare e₁ [.NotEq] [e₂] pos) σ₂ (.bool b) :=
  q ▸ ev_cmp h1 h2 (op_ne s1 s2) (Nat.zero_le _) hm
end
/-! series -/
def cutR (a : List Rat) (n : Nat) : List Rat := a.take n ++ List.replicate (n - a.length) 0
def mx (a b : List Rat) (at' : Nat) : Nat → Rat
  | 0 => 0
  | i + 1 => mx a b at' i + co a i * co b (at' - i)
def smulR (a b : List Rat) : List Rat := (List.range (min a.length b.length)).map fun n => mx a b n (n + 1)
def sst (a f : List Rat) (n : Nat) : Nat → Rat
  | 0 => if n = 0 then 1 else 0
  | i + 1 => sst a f n i - co a (i + 1) * co f (n - (i + 1))
def sv (a : List Rat) : Nat → List Rat
  | 0 => []
  | n + 1 => sv a n ++ [sst a (sv a n) n n / co a 0]
def fser (top bottom : List Rat) (n : Nat) : List Rat := smulR (cutR top n) (sv (cutR bottom n) n)
theorem cutR_length (a : List Rat) (n : Nat) : (cutR a n).length = n := by
  unfold cutR
  rw [List.length_append, List.length_take, List.length_replicate]
  omega
theorem sv_length (a : List Rat) : ∀ n, (sv a n).length = n
  | 0 => rfl
  | n + 1 => by unfold sv; rw [List.length_append, sv_length a n]; rfl
end
section
open PySem PySem.W PyProof.Rows PySem.Calls PySem.Spec
set_option maxRecDepth 100000
theorem fn_rcompare0 (w : World) (x : Rat) (hx : OK x) : ∃ s : Int, (s == 0) = decide (x = 0) ∧ Fn w "rcompare" 1 [rp x, rp 0] (.int s) := by
  have hy0 : OK 0 := OK.zero
  have yn : (0 : Rat).num = 0 := rfl
  have yd : (0 : Rat).den = 1 := rfl
  have hfin : ∀ y : Rat, y = 0 → (x = y ↔ x = 0) := fun y h => by rw [h]
  generalize hy : (0 : Rat) = y at hy0 yn yd ⊢
  obtain ⟨m1, m2, m3, m4⟩ := hx.mul hy0
  obtain ⟨n1, n2, n3, n4⟩ := hy0.mul hx
  have e0 : x.num * (y.den : Int) - y.num * (x.den : Int) = x.num := by
    rw [yn, yd]
    omega
  refine ⟨b2i (decide (x.num > 0)) - b2i (decide (x.num < 0)), ?_, ?_⟩
  · rw [b2i_decide, b2i_decide]
    by_cases h : x = y
    · rw [decide_eq_true h, h, yn]; rfl
    · have := num_ne (hy ▸ h)
      rw [decide_eq_false h]
      split <;> split <;> first | omega | rfl
  refine fn_intro (fa := 99) (ps := ["a", "b"]) rfl rfl rfl rfl (fun vs h => ?_) rfl (by decide) (by decide) rfl rfl rfl fun A h₀ L S => ?_
  · match vs, h with
    | [_, _], _ => rfl
  refine ex_assign (.int x.num) (Ev.as (by k_extra "mev") (by rw [e0])) (by k_extra "mloc") (by k_extra "mno") ?_
  exact ex_return (ev_subb (ev_gt (ev_name (by rfl)) ev_int) (ev_lt (ev_name (by rfl)) ev_int))
theorem fn_cut (w : World) (a : List Rat) (n : Nat) (za : a.length ≤ 50) (zn : n ≤ 50) : Fn w "cut" 1 [P a, .int n] (P (cutR a n)) := by
  refine fn_intro (fa := 156) (ps := ["a", "order"]) rfl rfl rfl rfl (fun vs h => ?_) rfl (by decide) (by decide) rfl rfl rfl fun A h₀ L S => ?_
  · match vs, h with
    | [_, _], _ => rfl
  have za2 : (a.map rp).length < 2 ^ 60 := by rw [len_P]; omega
  have za3 : (a.map rp).length ≤ 1000 := by rw [len_P]; omega
  refine ex_return (Ev.as (EvF.ev (evf_cat (EvF.ev (evf_ls (EvF.ev (evf_take (n := n) (ev_name (by rfl)) (by k_extra "mev") za3)) ?_ (by rfl) (by rfl) (by rfl))) (EvF.ev (evf_zeros (n - a.length) (ev_R0 (by rfl)) (by k_extra "mev") ?_ ?_)) ?_)) ?_)
  · rw [List.length_take]; omega
  · rw [len_P]; omega
  · rw [len_P]; omega
  · refine sz ?_
    simp; omega
  · unfold cutR P
    rw [List.map_append, map_take]
theorem fn_mixed (w : World) (a b : List Rat) (n : Nat) (hn : n < a.length) (hn2 : n < b.length) (za : a.length ≤ 50) (zb : b.length ≤ 50) (ha : AllOK a) (hb : AllOK b) (hp : ∀ i, i ≤ n → OK (co a i * co b (n - i))) (hm : ∀ i, i ≤ n + 1 → OK (mx a b n i)) :
    Fn w "mixed" 4 [P a, P b, .int n] (rp (mx a b n (n + 1))) := by
  refine fn_intro (fa := 163) (ps := ["a", "b", "at"]) rfl rfl rfl rfl (fun vs h => ?_) rfl (by decide) (by decide) rfl rfl rfl fun A h₀ L S => ?_
  · match vs, h with
    | [_, _, _], _ => rfl
  refine ex_assign (rp 0) (ev_R0 (by rfl)) (by k_extra "mloc") (by k_extra "mno") ?_
  refine ex_sub (σ' := ⟨[("a", P a), ("b", P b), ("at", .int n), ("found", rp 0)], none, [], true⟩) ?_ rfl rfl rfl (by k_extra "msub")
  refine ex_for_rng (a := 0) (n := n + 1) (fun i => ⟨[("a", P a), ("b", P b), ("at", .int n), ("found", rp (mx a b n i))], none, [], true⟩) (it_r1 (by k_extra "mev") (by omega) (by omega) rfl rfl rfl (fun _ _ => rfl)) (fun i hi => ?_) (fun i => rfl) (ex_return (ev_name (by rfl)))
  refine ⟨_, by k_extra "mas", ?_⟩
  by_cases h0 : co a i = 0
  · refine ex_cons (sx_if_f (ts_and_f (ts_ne (ev_at i (ev_name (by rfl)) (ev_name (by rfl)) (by omega) (by omega) (by omega)) (ev_R0 (by rfl)) (shaped_rp _) (shaped_rp _) (by rw [eqv_rp, decide_eq_true h0]; rfl))) ex_nil) ?_
    have e1 : mx a b n (i + 1) = mx a b n i := by rw [mx, h0, Rat.zero_mul, Rat.add_zero]
    rw [e1]
    exact ex_weak ex_nil rfl rfl rfl (by k_extra "msub")
  by_cases h1 : co b (n - i) = 0
  · refine ex_cons (sx_if_f (ts_and_t (ts_ne (ev_at i (ev_name (by rfl)) (ev_name (by rfl)) (by omega) (by omega) (by omega)) (ev_R0 (by rfl)) (shaped_rp _) (shaped_rp _) (by rw [eqv_rp, decide_eq_false h0]; rfl)) (ts_and_f (ts_ne (ev_at (n - i) (ev_name (by rfl)) (by k_extra "mev") (by omega) (by omega) (by omega)) (ev_R0 (by rfl)) (shaped_rp _) (shaped_rp _) (by rw [eqv_rp, decide_eq_true h1]; rfl)))) ex_nil) ?_
    have e1 : mx a b n (i + 1) = mx a b n i := by rw [mx, h1, Rat.mul_zero, Rat.add_zero]
    rw [e1]
    exact ex_weak ex_nil rfl rfl rfl (by k_extra "msub")
  have f1 := fn_rmul w _ _ (ha.co i) (hb.co (n - i)) (hp i (by omega))
  have f2 := fn_radd w _ _ (hm i (by omega)) (hp i (by omega)) (hm (i + 1) (by omega))
  refine ex_cons (sx_if_t (ts_and_t (ts_ne (ev_at i (ev_name (by rfl)) (ev_name (by rfl)) (by omega) (by omega) (by omega)) (ev_R0 (by rfl)) (shaped_rp _) (shaped_rp _) (by rw [eqv_rp, decide_eq_false h0]; rfl)) (ts_and_t (ts_ne (ev_at (n - i) (ev_name (by rfl)) (by k_extra "mev") (by omega) (by omega) (by omega)) (ev_R0 (by rfl)) (shaped_rp _) (shaped_rp _) (by rw [eqv_rp, decide_eq_false h1]; rfl)) ts_and_nil))
    (ex_assign (rp (mx a b n (i + 1))) (ev_call2 f2 (ev_name (by rfl)) (ev_call2 f1 (ev_at i (ev_name (by rfl)) (ev_name (by rfl)) (by omega) (by omega) (by omega)) (ev_at (n - i) (ev_name (by rfl)) (by k_extra "mev") (by omega) (by omega) (by omega)))) (by k_extra "mloc") (by k_extra "mno") ex_nil)) ?_
  exact ex_weak ex_nil rfl rfl rfl (by k_extra "msub")
theorem fn_smul (w : World) (a b : List Rat) (za : a.length ≤ 50) (zb : b.length ≤ 50) (ha : AllOK a) (hb : AllOK b) (hp : ∀ n, n < min a.length b.length → ∀ i, i ≤ n → OK (co a i * co b (n - i))) (hm : ∀ n, n < min a.length b.length → ∀ i, i ≤ n + 1 → OK (mx a b n i)) :
    Fn w "smul" 5 [P a, P b] (P (smulR a b)) := by
  refine fn_intro (fa := 168) (ps := ["a", "b"]) rfl rfl rfl rfl (fun vs h => ?_) rfl (by decide) (by decide) rfl rfl rfl fun A h₀ L S => ?_
  · match vs, h with
    | [_, _], _ => rfl
  have za2 : (a.map rp).length < 2 ^ 60 := by rw [len_P]; omega
  have zb2 : (b.map rp).length < 2 ^ 60 := by rw [len_P]; omega
  refine ex_return (Ev.as (ev_comp_rng (ρ := [("a", P a), ("b", P b)]) (n := min a.length b.length) (a := 0) (fun n => rp (mx a b n (n + 1))) (it_r1 (by k_extra "mev") (by rw [len_P, len_P]; omega) (by rw [len_P, len_P]; omega) rfl rfl rfl (fun _ _ => rfl)) (by k_extra "mcomp") (by omega) (by rfl) (by exact fun C => rfl) (by exact trivial) ?_) ?_)
  · intro C D n hn
    have f := fn_mixed w a b n (by omega) (by omega) za zb ha hb (hp n hn) (hm n hn)
    exact ev_call3 f (ev_name (by rfl)) (ev_name (by rfl)) (Ev.as (ev_name (by rfl)) (by congr 1; omega))
  · unfold P smulR
    rw [List.map_map]
    rfl
end
section
open PySem PySem.W PyProof.Rows PySem.Calls PySem.Spec
set_option maxRecDepth 100000
section
variable {c : Con} {σ σ' σ₁ σ₂ σ₃ : Sg} {e e₁ e₂ e₃ : Expr} {d d₁ d₂ : PyData} {p pos : Pos} {k : Nat} {x y z : Str} {w : World} {o : Out} {st : Stmt} {ss rest body : List Stmt} {ds : List PyData} {ρ ρ' : List (Str × PyData)}
theorem ex_append {D : Addr} {l : List Rat} {r : Rat} {ap cp : Pos} (ho : σ.own = some (x, D, l.map rp)) (hpl : σ.pl = true) (h1 : Ev c σ e σ (rp r)) (hz : l.length < 1000) (hr : Ex c ⟨σ.ρ, some (x, D, (l ++ [r]).map rp), σ.av, true⟩ rest o)
    (hfew : ((backTo cp (starEach [e] c.env)).all (fun x => !x.1) && (backToKw cp (keywordEach [] c.env)).all (fun x => x.1.isSome) && decide (([e] : List Expr).length + ([] : List Keyword).length + (if ([] : List Keyword).isEmpty then 0 else 1) < 30)) = true := by rfl)
    (hline : (ap.endLine == cp.line) = true := by rfl) (htrees : backTo cp (starEach [e] c.env) = [(false, eval e c.env)] := by rfl) (hb : attributeBase (.Name x p) "append" c.env (eval (.Name x p) c.env) = eval (.Name x p) c.env := by rfl)
    (hi : interactive c.env = false := by rfl) (hs : swapsWith (.Call (.Attribute (.Name x p) "append" ap) [e] [] cp) none pos.line c.env = pure false := by rfl)
    (hd : (x == ("__debug__" : Str)) = false := by decide) (hn : (x == ("__classdict__" : Str)) = false := by decide) :
    Ex c σ (.Expr (.Call (.Attribute (.Name x p) "append" ap) [e] [] cp) pos :: rest) o := by
  refine ex_cons (sx_append ho hpl h1 ho hpl (by rw [len_P]; omega) hfew hline htrees hb hi hs hd hn) ?_
  rw [List.map_append] at hr
  exact hr
end
structure F4 where
  front : List Rat
  rest : List Rat
  one : List Rat
  other : List Rat
def fstep (s : F4) : F4 := ⟨s.rest, (qdivmod s.front s.rest).2, s.other, qsub s.one (qmul (qdivmod s.front s.rest).1 s.other)⟩
def fw (most : Nat) : Nat → F4 → F4
  | 0, s => s
  | n + 1, s => if most + 1 < s.rest.length then fw most n (fstep s) else s
def MulOK (a b : List Rat) : Prop := AllOK a ∧ AllOK b ∧ (∀ x ∈ a, ∀ y ∈ b, OK (x * y)) ∧ ∀ i j, i < a.length → j ≤ b.length → AllOK (mi (co a i) b i (mo a b (mz a b) i) j)
def SubOK (a b : List Rat) : Prop := AllOK a ∧ AllOK b ∧ AllOK (padd a (qneg b))
structure FStepOK (s : F4) : Prop where
  zf : s.front.length ≤ 20
  zo : s.one.length ≤ 20
  zt : s.other.length ≤ 20
  rest : AllOK s.rest
  last : co s.rest (s.rest.length - 1) ≠ 0
  div : DvmOK s.rest (s.front.length + 1) (s.front, List.replicate (s.front.length + 1 - s.rest.length) 0)
  mul : MulOK (qdivmod s.front s.rest).1 s.other
  sub : SubOK s.one (qmul (qdivmod s.front s.rest).1 s.other)
  zm : (qmul (qdivmod s.front s.rest).1 s.other).length ≤ 50
  zd : (qdivmod s.front s.rest).1.length ≤ 50
def FwOK (most : Nat) : Nat → F4 → Prop
  | 0, s => s.rest.length ≤ 20 ∧ s.rest.length ≤ most + 1
  | n + 1, s => s.rest.length ≤ 20 ∧ (most + 1 < s.rest.length → FStepOK s ∧ FwOK most n (fstep s))
def fstart (a : List Rat) : F4 := ⟨List.replicate a.length 0 ++ [1], trim a, [], [1]⟩
def firstw (a : List Rat) (most : Nat) : List Rat × List Rat := ((fw most (a.length + 1) (fstart a)).rest, (fw most (a.length + 1) (fstart a)).other)
def pade (a : List Rat) (above below : Nat) : Option (List Rat × List Rat) :=
  let s := firstw (cutR a (above + below + 1)) above
  if s.2 = [] ∨ co s.2 0 = 0 then none else some (qscale s.1 (co s.2 0)⁻¹, qscale s.2 (co s.2 0)⁻¹)
structure PadeOK (a : List Rat) (above below : Nat) : Prop where
  fw : FwOK above (above + below + 1 + 1) (fstart (cutR a (above + below + 1)))
  z1 : (firstw (cutR a (above + below + 1)) above).1.length ≤ 50
  z2 : (firstw (cutR a (above + below + 1)) above).2.length ≤ 50
  o1 : AllOK (firstw (cutR a (above + below + 1)) above).1
  o2 : AllOK (firstw (cutR a (above + below + 1)) above).2
  inv : co (firstw (cutR a (above + below + 1)) above).2 0 ≠ 0 → OK (co (firstw (cutR a (above + below + 1)) above).2 0)⁻¹
  p1 : co (firstw (cutR a (above + below + 1)) above).2 0 ≠ 0 → ∀ x ∈ (firstw (cutR a (above + below + 1)) above).1, OK (x * (co (firstw (cutR a (above + below + 1)) above).2 0)⁻¹)
  p2 : co (firstw (cutR a (above + below + 1)) above).2 0 ≠ 0 → ∀ x ∈ (firstw (cutR a (above + below + 1)) above).2, OK (x * (co (firstw (cutR a (above + below + 1)) above).2 0)⁻¹)
def padeD : Option (List Rat × List Rat) → PyData
  | none => .none
  | some (a, b) => .tuple [P a, P b]
end
section
open PySem PySem.W PyProof.Rows PySem.Calls PySem.Spec
set_option maxRecDepth 100000
theorem fn_sinverse (w : World) (a : List Rat) (za : a.length ≤ 50) (h0 : 0 < a.length) (ha0 : co a 0 ≠ 0) (ha : AllOK a) (hv : ∀ n, n ≤ a.length → AllOK (sv a n)) (ht : ∀ n i, n < a.length → i ≤ n → OK (sst a (sv a n) n i)) (hp : ∀ n i, n < a.length → i < n → OK (co a (i + 1) * co (sv a n) (n - (i + 1)))) :
    Fn w "sinverse" 4 [P a] (P (sv a a.length)) := by
  refine fn_intro (fa := 175) (ps := ["a"]) rfl rfl rfl rfl (fun vs h => ?_) rfl (by decide) (by decide) rfl rfl rfl fun A h₀ L S => ?_
  · match vs, h with
    | [_], _ => rfl
  have za2 : (a.map rp).length < 2 ^ 60 := by rw [len_P]; omega
  have hane : a ≠ [] := fun e => by rw [e] at h0; exact absurd h0 (by decide)
  refine ex_cons (sx_if_f (ts_and_t (Ts.as (by k_extra "mts") (by rw [len_P]; simpa using h0)) (ts_and_f (ts_eq (ev_at 0 (ev_name (by rfl)) ev_int (by omega) h0 (by omega)) (ev_R0 (by rfl)) (shaped_rp _) (shaped_rp _) (by rw [eqv_rp, decide_eq_false ha0])))) ex_nil) ?_
  refine ex_owns ([].map rp) [("a", P a)] (evf_list evl_nil (Nat.zero_le _)) (by k_extra "mloc") (by rfl) (by k_extra "msub") (by rfl) (fun D => ?_)
  refine ex_for_rng (a := 0) (n := a.length) (fun i => ⟨[("a", P a)], some ("found", D, (sv a i).map rp), [D], true⟩) (it_r1 (by k_extra "mev") (by rw [len_P]; omega) (by rw [len_P]; omega) rfl rfl rfl (fun _ _ => rfl)) (fun n hn => ?_) (fun i => rfl) (ex_drop (ex_return (ev_name (by rfl))))
  refine ⟨_, by k_extra "mas", ?_⟩
  have hl := sv_length a n
  refine ex_assign (rp (sst a (sv a n) n 0)) ?_ (by k_extra "mloc") (by k_extra "mno") ?_
  · by_cases e : n = 0
    · subst e
      exact ev_if_t (Ts.as (by k_extra "mts") (by rfl)) (ev_R1 (by rfl))
    · have : sst a (sv a n) n 0 = 0 := by rw [sst, if_neg e]
      rw [this]
      exact ev_if_f (Ts.as (by k_extra "mts") (by simp; omega)) (ev_R0 (by rfl))
  refine ex_sub (σ' := ⟨[("a", P a), ("at", .int (0 + (n : Int))), ("total", rp (sst a (sv a n) n 0))], some ("found", D, (sv a n).map rp), [D], true⟩) ?_ rfl rfl rfl (by k_extra "msub")
  refine ex_for_rng (a := 1) (n := n) (fun i => ⟨[("a", P a), ("at", .int (0 + (n : Int))), ("total", rp (sst a (sv a n) n i))], some ("found", D, (sv a n).map rp), [D], true⟩) (it_r2 ev_int (by k_extra "mev") (by omega) (by omega) rfl rfl rfl (fun _ _ => rfl)) (fun i hi => ?_) (fun i => rfl) ?_
  · refine ⟨_, by k_extra "mas", ?_⟩
    have f1 := fn_rmul w _ _ (ha.co (i + 1)) ((hv n (by omega)).co (n - (i + 1))) (hp n i hn hi)
    have f2 := fn_rsub w _ _ (ht n i hn (by omega)) (hp n i hn hi) (ht n (i + 1) hn (by omega))
    refine ex_assign (rp (sst a (sv a n) n (i + 1))) (ev_call2 f2 (ev_name (by rfl)) (ev_call2 f1 (ev_at (i + 1) (ev_name (by rfl)) (ev_name (by rfl)) (by omega) (by omega) (by omega)) (ev_ato (n - (i + 1)) (by rfl) (by k_extra "mev") (by omega) (by omega) (by omega)))) (by k_extra "mloc") (by k_extra "mno") ?_
    exact ex_weak ex_nil rfl rfl rfl (by k_extra "msub")
  · have o1 : OK (sst a (sv a n) n n / co a 0) := by
      have q := (hv (n + 1) (by omega)) (sst a (sv a n) n n / co a 0) (by rw [sv]; simp)
      exact q
    have f3 := fn_rdiv w _ _ ha0 (ht n n hn (by omega)) (ha.co 0) o1
    refine ex_append (l := sv a n) (r := sst a (sv a n) n n / co a 0) (by rfl) (by rfl) (ev_call2 f3 (ev_name (by rfl)) (ev_at 0 (ev_name (by rfl)) ev_int (by omega) (by omega) (by omega))) (by omega) ?_
    exact ex_weak ex_nil rfl rfl rfl (by k_extra "msub")
end
section
open PySem PySem.W PyProof.Rows PySem.Calls PySem.Spec
set_option maxRecDepth 100000
theorem fn_first_within (w : World) (a : List Rat) (most : Nat) (za : a.length ≤ 19) (zm : most ≤ 50) (ok : FwOK most (a.length + 1) (fstart a)) : Fn w "first_within" 7 [P a, .int most] (.tuple [P (firstw a most).1, P (firstw a most).2]) := by
  have f0 := fn_qtrim w a (by omega)
  refine fn_intro (fa := 182) (ps := ["a", "most"]) rfl rfl rfl rfl (fun vs h => ?_) rfl (by decide) (by decide) rfl rfl rfl fun A h₀ L S => ?_
  · match vs, h with
    | [_, _], _ => rfl
  have za2 : (a.map rp).length < 2 ^ 60 := by rw [len_P]; omega
  refine ex_swap (P (List.replicate a.length 0 ++ [1])) (P (trim a)) (Ev.as (EvF.ev (evf_cat (EvF.ev (evf_zeros a.length (ev_R0 (by rfl)) (by k_extra "mev") (by rw [len_P]; omega) (by rw [len_P]; omega))) (ev_list (evl1 (ev_R1 (by rfl))) (by exact Nat.le_of_ble_eq_true rfl)) ?_)) ?_) (ev_call1 f0 (ev_name (by rfl))) rfl (by k_extra "mloc") (by k_extra "mloc") (by k_extra "mno") (by k_extra "mno") ?_
  · refine sz ?_
    simp; omega
  · unfold P
    rw [List.map_append]
    rfl
  refine ex_swap (P []) (P [1]) (ev_list evl_nil (Nat.zero_le _)) (ev_list (evl1 (ev_R1 (by rfl))) (by exact Nat.le_of_ble_eq_true rfl)) rfl (by k_extra "mloc") (by k_extra "mloc") (by k_extra "mno") (by k_extra "mno") ?_
  refine ex_while [("most", .int most), ("front", P (fstart a).front), ("rest", P (fstart a).rest), ("one", P (fstart a).one), ("other", P (fstart a).other)]
    [("most", .int most), ("front", P (fw most (a.length + 1) (fstart a)).front), ("rest", P (fw most (a.length + 1) (fstart a)).rest), ("one", P (fw most (a.length + 1) (fstart a)).one), ("other", P (fw most (a.length + 1) (fstart a)).other)] ?_ (by k_extra "msub") ?_
  · clear f0 za2
    generalize fstart a = s at ok ⊢
    generalize a.length + 1 = n at ok ⊢
    induction n generalizing s with
    | zero =>
      have z1 : (s.rest.map rp).length < 2 ^ 60 := by rw [len_P]; have := ok.1; omega
      exact Wh.oo (Ts.as (by k_extra "mts") (by rw [len_P]; have := ok.2; simp; omega))
    | succ n ih =>
      have z1 : (s.rest.map rp).length < 2 ^ 60 := by rw [len_P]; have := ok.1; omega
      unfold fw
      by_cases hlt : most + 1 < s.rest.length
      · rw [if_pos hlt]
        obtain ⟨st, ok'⟩ := ok.2 hlt
        have zr := ok.1
        have f1 := fn_qdivmod w s.front s.rest st.rest (by omega) st.last st.div st.zf zr
        obtain ⟨m1, m2, m3, m4⟩ := st.mul
        have f2 := fn_qmul w _ _ m1 m2 m3 m4 st.zd (by have := st.zt; omega)
        obtain ⟨s1, s2, s3⟩ := st.sub
        have f3 := fn_qsub w _ _ s1 s2.neg s3 (by have := st.zo; omega) st.zm
        refine Wh.go2 (Ts.as (by k_extra "mts") (by rw [len_P]; simp; omega)) (σ₂ := ⟨[("most", .int most), ("front", P (fstep s).front), ("rest", P (fstep s).rest), ("one", P (fstep s).one), ("other", P (fstep s).other)], none, [], true⟩) ?_ (ih (fstep s) ok')
        refine ex_cons (sx_assign_t (ev_call2 f1 (ev_name (by rfl)) (ev_name (by rfl))) (by k_extra "mas")) ?_
        refine ex_swap (P s.rest) (P (qdivmod s.front s.rest).2) (ev_name (by rfl)) (ev_name (by rfl)) rfl (by k_extra "mloc") (by k_extra "mloc") (by k_extra "mno") (by k_extra "mno") ?_
        refine ex_swap (P s.other) (P (qsub s.one (qmul (qdivmod s.front s.rest).1 s.other))) (ev_name (by rfl)) (ev_call2 f3 (ev_name (by rfl)) (ev_call2 f2 (ev_name (by rfl)) (ev_name (by rfl)))) rfl (by k_extra "mloc") (by k_extra "mloc") (by k_extra "mno") (by k_extra "mno") ?_
        exact ex_weak ex_nil rfl rfl rfl (by k_extra "msub")
      · rw [if_neg hlt]
        exact Wh.oo (Ts.as (by k_extra "mts") (by rw [len_P]; simp; omega))
  · exact ex_return (ev_tuple (evl2 (ev_name (by rfl)) (ev_name (by rfl))) (by exact Nat.le_of_ble_eq_true rfl))
theorem fn_pade (w : World) (a : List Rat) (above below : Nat) (za : a.length ≤ 18) (zm : above + below ≤ 10) (ok : PadeOK a above below) : Fn w "pade" 8 [P a, .int above, .int below] (padeD (pade a above below)) := by
  have f0 := fn_cut w a (above + below + 1) (by omega) (by omega)
  have f1 := fn_first_within w (cutR a (above + below + 1)) above (by rw [cutR_length]; omega) (by omega) (by rw [cutR_length]; exact ok.fw)
  obtain ⟨_, z1, z2, o1, o2, oi, p1, p2⟩ := ok
  unfold pade
  simp only []
  generalize firstw (cutR a (above + below + 1)) above = s at *
  obtain ⟨s1, s2⟩ := s
  simp only [] at *
  have z2' : (s2.map rp).length < 2 ^ 60 := by rw [len_P]; omega
  refine fn_intro (fa := 189) (ps := ["a", "above", "below"]) rfl rfl rfl rfl (fun vs h => ?_) rfl (by decide) (by decide) rfl rfl rfl fun A h₀ L S => ?_
  · match vs, h with
    | [_, _, _], _ => rfl
  refine ex_cons (sx_assign_t (ev_call2 f1 (ev_call2 f0 (ev_name (by rfl)) (Ev.as (by k_extra "mev") (congrArg PyData.int (by omega)))) (ev_name (by rfl))) (by k_extra "mas")) ?_
  by_cases h1 : s2 = []
  · rw [if_pos (.inl h1)]
    exact ex_ret (sx_if_t (ts_or_t (Ts.as (by k_extra "mts") (by rw [len_P]; simpa using h1))) (ex_return ev_none))
  have hl : 0 < s2.length := List.length_pos_iff.mpr h1
  obtain ⟨t, ht, fr⟩ := fn_rcompare0 w (co s2 0) (o2.co 0)
  by_cases h2 : co s2 0 = 0
  · rw [if_pos (.inr h2)]
    rw [decide_eq_true h2] at ht
    exact ex_ret (sx_if_t (ts_or_f (Ts.as (by k_extra "mts") (by rw [len_P]; simpa using h1)) (ts_or_t (Ts.as (ts_eqi (ev_call2 fr (ev_at 0 (ev_name (by rfl)) ev_int (by omega) hl (by omega)) (ev_R0 (by rfl))) ev_int) ht))) (ex_return ev_none))
  · rw [if_neg (fun q => q.elim h1 h2)]
    rw [decide_eq_false h2] at ht
    refine ex_cons (sx_if_f (ts_or_f (Ts.as (by k_extra "mts") (by rw [len_P]; simpa using h1)) (ts_or_f (Ts.as (ts_eqi (ev_call2 fr (ev_at 0 (ev_name (by rfl)) ev_int (by omega) hl (by omega)) (ev_R0 (by rfl))) ev_int) ht) ts_or_nil)) ex_nil) ?_
    have g0 := fn_rinv w _ h2 (oi h2)
    have g1 := fn_qscale w s1 _ o1 (oi h2) (p1 h2) z1
    have g2 := fn_qscale w s2 _ o2 (oi h2) (p2 h2) z2
    exact ex_return (ev_tuple (evl2 (ev_call2 g1 (ev_name (by rfl)) (ev_call1 g0 (ev_at 0 (ev_name (by rfl)) ev_int (by omega) hl (by omega)))) (ev_call2 g2 (ev_name (by rfl)) (ev_call1 g0 (ev_at 0 (ev_name (by rfl)) ev_int (by omega) hl (by omega))))) (by exact Nat.le_of_ble_eq_true rfl))
end
section
open PySem PySem.W PyProof.Rows PySem.Calls PySem.Spec
set_option maxRecDepth 100000
structure SmulOK (a b : List Rat) : Prop where
  oa : AllOK a
  ob : AllOK b
  p : ∀ n, n < min a.length b.length → ∀ i, i ≤ n → OK (co a i * co b (n - i))
  m : ∀ n, n < min a.length b.length → ∀ i, i ≤ n + 1 → OK (mx a b n i)
structure SinvOK (a : List Rat) : Prop where
  oa : AllOK a
  v : ∀ n, n ≤ a.length → AllOK (sv a n)
  t : ∀ n i, n < a.length → i ≤ n → OK (sst a (sv a n) n i)
  p : ∀ n i, n < a.length → i < n → OK (co a (i + 1) * co (sv a n) (n - (i + 1)))
/-! the law's own arithmetic -/
theorem tri_mul {x y z : Rat} {A B : Nat} (hx : OK x) (hy : OK y) : (x.num * y.den).natAbs < 2 ^ 8000 ∧ (x.num * y.num).natAbs < 2 ^ 8000 ∧ ((x.den : Int) * y.den).natAbs < 2 ^ 8000 := by
  obtain ⟨A, hA, h1, h2⟩ := hx
  obtain ⟨B, hB, h3, h4⟩ := hy
  have hp : ∀ a b : Nat, a < 2 ^ A → b < 2 ^ B → a * b < 2 ^ 8000 := fun a b ha hb => by
    refine Nat.lt_of_lt_of_le (Nat.mul_lt_mul'' ha hb) ?_
    rw [← Nat.pow_add]
    exact Nat.pow_le_pow_right (by decide) (by omega)
  refine ⟨?_, ?_, ?_⟩
  · rw [Int.natAbs_mul]; exact hp _ _ h1 (by simpa using h4)
  · rw [Int.natAbs_mul]; exact hp _ _ h1 h3
  · rw [Int.natAbs_mul]; exact hp _ _ (by simpa using h2) (by simpa using h4)
structure TriOK (t a b : Rat) : Prop where
  m1 : IntMulOk t.num a.den
  m2 : IntMulOk (t.num * a.den) b.den
  m3 : IntMulOk a.num b.num
  m4 : IntMulOk (a.num * b.num) t.den
  m5 : IntMulOk t.den a.den
  m6 : IntMulOk (t.den * a.den) b.den
theorem OK.tri {t a b : Rat} (ht : OK t) (ha : OK a) (hb : OK b) : TriOK t a b := by
  obtain ⟨q1, q2, q3⟩ := tri_mul (z := 0) (A := 0) (B := 0) ht ha
  obtain ⟨r1, r2, r3⟩ := tri_mul (z := 0) (A := 0) (B := 0) ha hb
  obtain ⟨A, hA, t1, t2⟩ := id ht
  obtain ⟨B, hB, b1, b2⟩ := id hb
  exact ⟨(ht.mul ha).2.1, mulOk q1 (by simpa using b2) (by omega) (by omega), (ha.mul hb).1, mulOk r2 (by simpa using t2) (by omega) (by omega), (ht.mul ha).2.2.2, mulOk q3 (by simpa using b2) (by omega) (by omega)⟩
theorem tri_pos (t a b : Rat) : (0 : Int) < t.den * a.den * b.den := Int.mul_pos (Int.mul_pos (by have := t.den_pos; omega) (by have := a.den_pos; omega)) (by have := b.den_pos; omega)
theorem tri_add (t a b : Rat) : Rat.divInt (t.num * a.den * b.den + a.num * b.num * t.den) (t.den * a.den * b.den) = t + a * b := by
  have h1 : t = Rat.divInt t.num t.den := (Rat.num_divInt_den t).symm
  have h2 : a * b = Rat.divInt (a.num * b.num) (a.den * b.den) := (mul_eq a b).symm
  have e : (t.den : Int) * a.den * b.den = t.den * (a.den * b.den) := Int.mul_assoc ..
  have e2 : t.num * a.den * b.den = t.num * (a.den * b.den) := Int.mul_assoc ..
  rw [e, e2]
  conv => rhs; rw [h2]; lhs; rw [h1]
  rw [Rat.divInt_add_divInt _ _ (den_ne t) (Int.mul_ne_zero (den_ne a) (den_ne b))]
theorem tri_sub (t a b : Rat) : Rat.divInt (t.num * a.den * b.den - a.num * b.num * t.den) (t.den * a.den * b.den) = t - a * b := by
  have h1 : t = Rat.divInt t.num t.den := (Rat.num_divInt_den t).symm
  have h2 : a * b = Rat.divInt (a.num * b.num) (a.den * b.den) := (mul_eq a b).symm
  have e : (t.den : Int) * a.den * b.den = t.den * (a.den * b.den) := Int.mul_assoc ..
  have e2 : t.num * a.den * b.den = t.num * (a.den * b.den) := Int.mul_assoc ..
  rw [e, e2]
  conv => rhs; rw [h2]; lhs; rw [h1]
  rw [Rat.divInt_sub_divInt _ _ (den_ne t) (Int.mul_ne_zero (den_ne a) (den_ne b))]
def dst (top bottom f : List Rat) (n : Nat) : Nat → Rat
  | 0 => co top n
  | i + 1 => dst top bottom f n i - co bottom (i + 1) * co f (n - (i + 1))
def dv (top bottom : List Rat) : Nat → List Rat
  | 0 => []
  | n + 1 => dv top bottom n ++ [dst top bottom (dv top bottom n) n n]
theorem dv_length (a b : List Rat) : ∀ n, (dv a b n).length = n
  | 0 => rfl
  | n + 1 => by unfold dv; rw [List.length_append, dv_length a b n]; rfl
theorem cut_eq (a : List Rat) (n : Nat) : (a ++ List.replicate n 0).take n = cutR a n := by
  unfold cutR
  rw [List.take_append, List.take_replicate]
  congr 2
  omega
theorem smul_step (a b : List Rat) (n : Nat) : ((List.range (n + 1)).map fun n => mx a b n (n + 1)) = ((List.range n).map fun n => mx a b n (n + 1)) ++ [mx a b n (n + 1)] := by
  rw [List.range_succ, List.map_append]
  rfl
end
section
open PySem PySem.W PyProof.Rows PySem.Calls PySem.Spec
set_option maxRecDepth 100000
theorem fn_fraction_series (w : World) (top bottom : List Rat) (n : Nat) (zt : top.length ≤ 50) (zb : bottom.length ≤ 50) (zn : n ≤ 50) (h0 : 0 < n) (hb0 : co (cutR bottom n) 0 ≠ 0) (o1 : SinvOK (cutR bottom n)) (o2 : SmulOK (cutR top n) (sv (cutR bottom n) n)) :
    Fn w "fraction_series" 6 [P top, P bottom, .int n] (P (fser top bottom n)) := by
  have f1 := fn_cut w top n zt zn
  have f2 := fn_cut w bottom n zb zn
  have f3 := fn_sinverse w (cutR bottom n) (by rw [cutR_length]; exact zn) (by rw [cutR_length]; exact h0) hb0 o1.oa o1.v o1.t o1.p
  rw [cutR_length] at f3
  have f4 := fn_smul w (cutR top n) (sv (cutR bottom n) n) (by rw [cutR_length]; exact zn) (by rw [sv_length]; exact zn) o2.oa o2.ob o2.p o2.m
  refine fn_intro (fa := 196) (ps := ["top", "bottom", "order"]) rfl rfl rfl rfl (fun vs h => ?_) rfl (by decide) (by decide) rfl rfl rfl fun A h₀ L S => ?_
  · match vs, h with
    | [_, _, _], _ => rfl
  exact ex_return (ev_call2 f4 (ev_call2 f1 (ev_name (by rfl)) (ev_name (by rfl))) (ev_call1 f3 (ev_call2 f2 (ev_name (by rfl)) (ev_name (by rfl)))))
theorem fn_fits_series (w : World) (a top bottom : List Rat) (zt : top.length ≤ 50) (zb : bottom.length ≤ 50) (zn : a.length ≤ 50) (h0 : 0 < a.length) (hb0 : co (cutR bottom a.length) 0 ≠ 0) (o1 : SinvOK (cutR bottom a.length)) (o2 : SmulOK (cutR top a.length) (sv (cutR bottom a.length) a.length)) :
    Fn w "fits_series" 7 [P a, P top, P bottom] (.bool (decide (fser top bottom a.length = a))) := by
  have f1 := fn_fraction_series w top bottom a.length zt zb zn h0 hb0 o1 o2
  have za2 : (a.map rp).length < 2 ^ 60 := by rw [len_P]; omega
  have za3 : (a.map rp).length ≤ 1000 := by rw [len_P]; omega
  refine fn_intro (fa := 203) (ps := ["a", "top", "bottom"]) rfl rfl rfl rfl (fun vs h => ?_) rfl (by decide) (by decide) rfl rfl rfl fun A h₀ L S => ?_
  · match vs, h with
    | [_, _, _], _ => rfl
  exact ex_return (ev_eq (d₂ := P a) (ev_call3 f1 (ev_name (by rfl)) (ev_name (by rfl)) (Ev.as (by k_extra "mev") (by rw [len_P]))) (EvF.ev (evf_ls (ev_name (by rfl)) za3 (by rfl) (by rfl) (by rfl))) (shaped_P _) (shaped_P _) (eqv_P _ _))
theorem fn_low (w : World) (n d : Int) (hd : 0 < d) (ok : OK (Rat.divInt n d)) : Fn w "_law_low" 1 [.int n, .int d] (rp (Rat.divInt n d)) := by
  have g0 : gd n d = (Int.gcd n d : Nat) := by unfold gd; rw [if_pos hd]
  obtain ⟨gn0, g1, g2⟩ := gd_spec n d (by omega)
  have gn := gd_num n d (by omega)
  have gden := gd_den n d (by omega)
  obtain ⟨B, hB, b1, b2⟩ := ok
  have p1 : Builtin.divisionGoesByPylong n (gd n d) = false := by
    have := nopy b1 hB gn0
    rwa [← g1] at this
  have p2 : Builtin.divisionGoesByPylong d (gd n d) = false := by
    have := nopy (q := ((Rat.divInt n d).den : Int)) (by simpa using b2) hB gn0
    rwa [← g2] at this
  clear g1 g2
  rw [g0] at gn gden p1 p2 gn0
  refine fn_intro (fa := 222) (ps := ["top", "bottom"]) rfl rfl rfl rfl (fun vs h => ?_) rfl (by decide) (by decide) rfl rfl rfl fun A h₀ L S => ?_
  · match vs, h with
    | [_, _], _ => rfl
  have e1 : d = (d.natAbs : Int) := by omega
  refine ex_swap (.int n.natAbs) (.int (d.natAbs : Int)) (by k_extra "mev") (Ev.as (by k_extra "mev") (by rw [← e1])) rfl (by k_extra "mloc") (by k_extra "mloc") (by k_extra "mno") (by k_extra "mno") ?_
  refine ex_while [("top", .int n), ("bottom", .int d), ("one", .int n.natAbs), ("other", .int (d.natAbs : Int))] [("top", .int n), ("bottom", .int d), ("one", .int (Int.gcd n d)), ("other", .int 0)] ?_ (by k_extra "msub") ?_
  · have e2 : Int.gcd n d = Nat.gcd n.natAbs d.natAbs := rfl
    rw [e2]
    clear e1 e2
    generalize n.natAbs = k
    generalize d.natAbs = m
    induction m using Nat.strongRecOn generalizing k with
    | _ m ih =>
      by_cases hm : m = 0
      · subst hm
        rw [Nat.gcd_zero_right]
        exact Wh.oo (Ts.as (by k_extra "mts") (by rfl))
      · have hm' : (m : Int) ≠ 0 := by omega
        refine Wh.go2 (Ts.as (by k_extra "mts") (by simp; omega)) (σ₂ := ⟨[("top", .int n), ("bottom", .int d), ("one", .int m), ("other", .int (k % m : Nat))], none, [], true⟩) ?_ (by
          rw [show Nat.gcd k m = Nat.gcd m (k % m) by rw [Nat.gcd_comm k m, Nat.gcd_rec m k, Nat.gcd_comm]]
          exact ih (k % m) (Nat.mod_lt _ (Nat.pos_of_ne_zero hm)) m)
        refine ex_swap (.int m) (.int (k % m : Nat)) (by k_extra "mev") (Ev.as (by k_extra "mev") ?_) rfl (by k_extra "mloc") (by k_extra "mloc") (by k_extra "mno") (by k_extra "mno") (ex_weak ex_nil rfl rfl rfl (by k_extra "msub"))
        rw [show ((k % m : Nat) : Int) = (k : Int).fmod m by rw [Int.fmod_eq_emod_of_nonneg _ (Int.natCast_nonneg m), ← Int.natCast_emod]]
  · refine ex_return (Ev.as (by k_extra "mev") ?_)
    rw [gn, gden]
    rfl
end
section
open PySem PySem.W PyProof.Rows PySem.Calls PySem.Spec
set_option maxRecDepth 100000
theorem fn_lcut (w : World) (a : List Rat) (n : Nat) (za : a.length ≤ 50) (zn : n ≤ 50) : Fn w "_law_cut" 1 [P a, .int n] (P (cutR a n)) := by
  refine fn_intro (fa := 241) (ps := ["told", "size"]) rfl rfl rfl rfl (fun vs h => ?_) rfl (by decide) (by decide) rfl rfl rfl fun A h₀ L S => ?_
  · match vs, h with
    | [_, _], _ => rfl
  refine ex_return (Ev.as (EvF.ev (evf_take (n := n) (EvF.ev (evf_cat (ds := a.map rp) (ev_name (by rfl)) (EvF.ev (evf_zeros n (ev_tuple (evl2 ev_int ev_int) (by exact Nat.le_of_ble_eq_true rfl)) (by k_extra "mev") (by omega) (by omega))) ?_)) (by k_extra "mev") ?_)) ?_)
  · refine sz ?_
    simp; omega
  · simp; omega
  · rw [← List.map_append, map_take, cut_eq]
    rfl
theorem fn_times (w : World) (a b : List Rat) (za : a.length ≤ 50) (zb : b.length ≤ 50) (oa : AllOK a) (ob : AllOK b) (hm : ∀ n, n < min a.length b.length → ∀ i, i ≤ n + 1 → OK (mx a b n i)) :
    Fn w "_law_times" 2 [P a, P b] (P (smulR a b)) := by
  refine fn_intro (fa := 234) (ps := ["one", "other"]) rfl rfl rfl rfl (fun vs h => ?_) rfl (by decide) (by decide) rfl rfl rfl fun A h₀ L S => ?_
  · match vs, h with
    | [_, _], _ => rfl
  have za2 : (a.map rp).length < 2 ^ 60 := by rw [len_P]; omega
  have zb2 : (b.map rp).length < 2 ^ 60 := by rw [len_P]; omega
  refine ex_owns ([].map rp) [("one", P a), ("other", P b)] (evf_list evl_nil (Nat.zero_le _)) (by k_extra "mloc") (by rfl) (by k_extra "msub") (by rfl) (fun D => ?_)
  refine ex_for_rng (a := 0) (n := min a.length b.length) (fun i => ⟨[("one", P a), ("other", P b)], some ("found", D, ((List.range i).map fun n => mx a b n (n + 1)).map rp), [D], true⟩) (it_r1 (by k_extra "mev") (by rw [len_P, len_P]; omega) (by rw [len_P, len_P]; omega) rfl rfl rfl (fun _ _ => rfl)) (fun n hn => ?_) (fun i => rfl) (ex_drop (ex_return (ev_name (by rfl))))
  refine ⟨_, by k_extra "mas", ?_⟩
  refine ex_assign (rp 0) (ev_tuple (evl2 ev_int ev_int) (by exact Nat.le_of_ble_eq_true rfl)) (by k_extra "mloc") (by k_extra "mno") ?_
  refine ex_sub (σ' := ⟨[("one", P a), ("other", P b), ("at", .int (0 + (n : Int))), ("total", rp (mx a b n 0))], some ("found", D, ((List.range n).map fun n => mx a b n (n + 1)).map rp), [D], true⟩) ?_ rfl rfl rfl (by k_extra "msub")
  refine ex_for_rng (a := 0) (n := n + 1) (fun i => ⟨[("one", P a), ("other", P b), ("at", .int (0 + (n : Int))), ("total", rp (mx a b n i))], some ("found", D, ((List.range n).map fun n => mx a b n (n + 1)).map rp), [D], true⟩) (it_r1 (by k_extra "mev") (by omega) (by omega) rfl rfl rfl (fun _ _ => rfl)) (fun i hi => ?_) (fun i => rfl) ?_
  · refine ⟨_, by k_extra "mas", ?_⟩
    refine ex_swap (rp (co a i)) (rp (co b (n - i))) (ev_at i (ev_name (by rfl)) (ev_name (by rfl)) (by omega) (by omega) (by omega)) (ev_at (n - i) (ev_name (by rfl)) (by k_extra "mev") (by omega) (by omega) (by omega)) rfl (by k_extra "mloc") (by k_extra "mloc") (by k_extra "mno") (by k_extra "mno") ?_
    obtain ⟨m1, m2, m3, m4, m5, m6⟩ := OK.tri (hm n hn i (by omega)) (oa.co i) (ob.co (n - i))
    have f := fn_low w _ _ (tri_pos (mx a b n i) (co a i) (co b (n - i))) (by rw [tri_add]; exact hm n hn (i + 1) (by omega))
    rw [tri_add] at f
    refine ex_assign (rp (mx a b n (i + 1))) (ev_call2 f (by k_extra "mev") (by k_extra "mev")) (by k_extra "mloc") (by k_extra "mno") ?_
    exact ex_weak ex_nil rfl rfl rfl (by k_extra "msub")
  · refine ex_append (l := (List.range n).map fun n => mx a b n (n + 1)) (r := mx a b n (n + 1)) (by rfl) (by rfl) (ev_name (by rfl)) (by simp; omega) ?_
    rw [← smul_step]
    exact ex_weak ex_nil rfl rfl rfl (by k_extra "msub")
theorem fn_divided (w : World) (top bottom : List Rat) (n : Nat) (zt : top.length ≤ 50) (zb : bottom.length ≤ 50) (zn : n ≤ 50) (ob : AllOK (cutR bottom n)) (ov : ∀ k, k ≤ n → AllOK (dv (cutR top n) (cutR bottom n) k)) (ot : ∀ k i, k < n → i ≤ k → OK (dst (cutR top n) (cutR bottom n) (dv (cutR top n) (cutR bottom n) k) k i)) :
    Fn w "_law_divided" 2 [P top, P bottom, .int n] (P (dv (cutR top n) (cutR bottom n) n)) := by
  have f1 := fn_lcut w top n zt zn
  have f2 := fn_lcut w bottom n zb zn
  have l1 := cutR_length top n
  have l2 := cutR_length bottom n
  generalize cutR top n = a at *
  generalize cutR bottom n = b at *
  refine fn_intro (fa := 248) (ps := ["top", "bottom", "size"]) rfl rfl rfl rfl (fun vs h => ?_) rfl (by decide) (by decide) rfl rfl rfl fun A h₀ L S => ?_
  · match vs, h with
    | [_, _, _], _ => rfl
  have hx : List.lookup ("found" : Str) [(("top" : Str), P a), (("bottom" : Str), P b), (("size" : Str), PyData.int n)] = none := rfl
  have hsub : ∀ t d, List.lookup t [(("top" : Str), P a), (("bottom" : Str), P b), (("size" : Str), PyData.int n)] = some d → List.lookup t [(("top" : Str), P a), (("bottom" : Str), P b), (("top" : Str), P top), (("bottom" : Str), P bottom), (("size" : Str), PyData.int n)] = some d := by k_extra "msub"
  refine ex_own3 (ds := [].map rp) (d₂ := P a) (d₃ := P b) (ρ := [("top", P a), ("bottom", P b), ("size", .int n)]) (evf_list evl_nil (Nat.zero_le _)) (by rfl) (by rfl) (fun D => ev_call2 f1 (ev_name (by rfl)) (ev_name (by rfl))) (fun D => ev_call2 f2 (ev_name (by rfl)) (ev_name (by rfl))) (hw := rfl) (by k_extra "mloc") (by k_extra "mloc") (by k_extra "mloc")
    (fun t d q => ⟨fun e => by rw [e, hx] at q; (exact nomatch q), hsub t d q⟩) (fun D => ?_)
  refine ex_for_rng (a := 0) (n := n) (fun i => ⟨[("top", P a), ("bottom", P b), ("size", .int n)], some ("found", D, (dv a b i).map rp), [D], true⟩) (it_r1 (by k_extra "mev") (by omega) (by omega) rfl rfl rfl (fun _ _ => rfl)) (fun k hk => ?_) (fun i => rfl) (ex_drop (ex_return (ev_name (by rfl))))
  refine ⟨_, by k_extra "mas", ?_⟩
  have hl := dv_length a b k
  refine ex_assign (rp (dst a b (dv a b k) k 0)) (ev_at k (ev_name (by rfl)) (ev_name (by rfl)) (by omega) (by omega) (by omega)) (by k_extra "mloc") (by k_extra "mno") ?_
  refine ex_sub (σ' := ⟨[("top", P a), ("bottom", P b), ("size", .int n), ("at", .int (0 + (k : Int))), ("total", rp (dst a b (dv a b k) k 0))], some ("found", D, (dv a b k).map rp), [D], true⟩) ?_ rfl rfl rfl (by k_extra "msub")
  refine ex_for_rng (a := 1) (n := k) (fun i => ⟨[("top", P a), ("bottom", P b), ("size", .int n), ("at", .int (0 + (k : Int))), ("total", rp (dst a b (dv a b k) k i))], some ("found", D, (dv a b k).map rp), [D], true⟩) (it_r2 ev_int (by k_extra "mev") (by omega) (by omega) rfl rfl rfl (fun _ _ => rfl)) (fun i hi => ?_) (fun i => rfl) ?_
  · refine ⟨_, by k_extra "mas", ?_⟩
    refine ex_swap (rp (co b (i + 1))) (rp (co (dv a b k) (k - (i + 1)))) (ev_at (i + 1) (ev_name (by rfl)) (ev_name (by rfl)) (by omega) (by omega) (by omega)) (ev_ato (k - (i + 1)) (by rfl) (by k_extra "mev") (by omega) (by omega) (by omega)) rfl (by k_extra "mloc") (by k_extra "mloc") (by k_extra "mno") (by k_extra "mno") ?_
    obtain ⟨m1, m2, m3, m4, m5, m6⟩ := OK.tri (ot k i hk (by omega)) (ob.co (i + 1)) ((ov k (by omega)).co (k - (i + 1)))
    have f := fn_low w _ _ (tri_pos (dst a b (dv a b k) k i) (co b (i + 1)) (co (dv a b k) (k - (i + 1)))) (by rw [tri_sub]; exact ot k (i + 1) hk (by omega))
    rw [tri_sub] at f
    refine ex_assign (rp (dst a b (dv a b k) k (i + 1))) (ev_call2 f (by k_extra "mev") (by k_extra "mev")) (by k_extra "mloc") (by k_extra "mno") ?_
    exact ex_weak ex_nil rfl rfl rfl (by k_extra "msub")
  · refine ex_append (l := dv a b k) (r := dst a b (dv a b k) k k) (by rfl) (by rfl) (ev_name (by rfl)) (by omega) ?_
    exact ex_weak ex_nil rfl rfl rfl (by k_extra "msub")
end
section
open PySem PySem.W PyProof.Rows PySem.Calls PySem.Spec
set_option maxRecDepth 100000
section
variable {c : Con} {σ σ' σ₁ σ₂ σ₃ : Sg} {e e₁ e₂ e₃ : Expr} {d d₁ d₂ : PyData} {p pos : Pos} {k : Nat} {x y z : Str} {w : World} {o : Out} {st : Stmt} {ss rest body : List Stmt} {ds : List PyData} {ρ ρ' : List (Str × PyData)}
theorem ev_or_t {rest : List Expr} (h : Ev c σ e₁ σ₁ (.bool true)) : Ev c σ (.BoolOp .Or (e₁ :: e₂ :: rest) pos) σ₁ (.bool true) :=
  ⟨h.1, fun s Q X hq => BoolOp_or (h.2 s _ X fun v as s₁ x₁ k₁ b₁ => by
    obtain ⟨rfl, rfl⟩ := bool_of b₁.rd
    exact wpAny_truthy_bool (by simpa using hq _ [] s₁ x₁ k₁ (Bears.plain (.bool _))))⟩
theorem ev_or_f {rest : List Expr} (h : Ev c σ e₁ σ₁ (.bool false)) (h2 : Ev c σ₁ (.BoolOp .Or (e₂ :: rest) pos) σ₂ d) : Ev c σ (.BoolOp .Or (e₁ :: e₂ :: rest) pos) σ₂ d :=
  ⟨h2.1.trans h.1, fun s Q X hq => BoolOp_or (h.2 s _ X fun v as s₁ x₁ k₁ b₁ => by
    obtain ⟨rfl, rfl⟩ := bool_of b₁.rd
    refine wpAny_truthy_bool ?_
    simp only [Bool.false_eq_true, if_false]
    exact h2.2 s₁ _ x₁ fun v as s₂ x₂ k₂ b₂ => hq v as s₂ x₂ (k₁.trans h.1 k₂) b₂)⟩
/-- «a or b» over truth values -/
theorem ev_or {a b : Bool} (h : Ev c σ e₁ σ (.bool a)) (h2 : Ev c σ e₂ σ (.bool b)) : Ev c σ (.BoolOp .Or [e₁, e₂] pos) σ (.bool (a || b)) := by
  cases a with
  | true => exact ev_or_t h
  | false => exact ev_or_f h (ev_bool1 h2)
theorem ev_and {a b : Bool} (h : Ev c σ e₁ σ (.bool a)) (h2 : Ev c σ e₂ σ (.bool b)) : Ev c σ (.BoolOp .And [e₁, e₂] pos) σ (.bool (a && b)) := by
  cases a with
  | false => exact ev_and_f h
  | true => exact ev_and_t h (ev_bool1 h2)
theorem ts_or2 {a b : Bool} (h : Ts c σ e₁ σ a) (h2 : Ts c σ e₂ σ b) : Ts c σ (.BoolOp .Or [e₁, e₂] pos) σ (a || b) := by
  cases a with
  | true => exact ts_or_t h
  | false =>
    cases b with
    | true => exact ts_or_f h (ts_or_t h2)
    | false => exact ts_or_f h (ts_or_f h2 ts_or_nil)
theorem ev_compg {target iter elt : Expr} {scope : Scope} {cl : List (Str × Addr)} {es : List PyData} (ρ1 : Nat → List (Str × PyData)) (h : It c σ iter σ ds target) (K : CompOk c σ scope cl ρ) (hz : ds.length ≤ 2 ^ 20) (hl : ds.length = es.length)
    (has : ∀ (C D : Addr) (i : Nat) (d : PyData), ds[i]? = some d → As (c.comp scope cl C) ⟨ρ, σ.own, D :: σ.av, σ.pl⟩ target d ⟨ρ1 i, σ.own, D :: σ.av, σ.pl⟩) (hsub : ∀ i y d, ρ.lookup y = some d → (ρ1 i).lookup y = some d)
    (he : ∀ (C D : Addr) (i : Nat) (d e : PyData), ds[i]? = some d → es[i]? = some e → Ev (c.comp scope cl C) ⟨ρ1 i, σ.own, D :: σ.av, σ.pl⟩ elt ⟨ρ1 i, σ.own, D :: σ.av, σ.pl⟩ e)
    (hs : ∀ x, foldedSetIterable iter c.env x = pure x := by intro _; rfl) : Ev c σ (.ListComp elt [⟨target, iter, [], 0⟩] scope pos) σ (.list es) := by
  have so : SameOwn σ.own σ.own := by
    cases q : σ.own with
    | none => trivial
    | some t => exact ⟨rfl, rfl⟩
  refine ev_comp (own' := σ.own) (pl' := σ.pl) (ρ' := fun _ _ => ρ) h K hz so (fun C D => ?_) hs
  clear h hz
  induction ds generalizing es ρ1 with
  | nil =>
    cases es with
    | nil => exact .nil
    | cons _ _ => cases hl
  | cons d ds ih =>
    cases es with
    | nil => cases hl
    | cons e es =>
      exact .cons (σ₂' := ⟨ρ, σ.own, D :: σ.av, σ.pl⟩) (has C D 0 d rfl) (he C D 0 d e rfl rfl) rfl rfl rfl (fun y dd q => hsub 0 y dd q) (ih (fun i => ρ1 (i + 1)) (by simpa using hl) (fun C D i d h1 => has C D (i + 1) d h1) (fun i => hsub (i + 1)) fun C D i d e h1 h2 => he C D (i + 1) d e h1 h2)
theorem nth_ints {l : List Int} {i : Int} {n : Nat} (hi : i = n) (hn : n < l.length) : nth (l.map PyData.int) i = some (.int (l.getD n 0)) := by
  rw [hi, nth_nat, List.getElem?_map, List.getElem?_eq_getElem hn, List.getD_eq_getElem?_getD, List.getElem?_eq_getElem hn]
  rfl
theorem ev_ati {l : List Int} {i : Int} (n : Nat) (h1 : Ev c σ e₁ σ (.list (l.map .int))) (h2 : Ev c σ e₂ σ (.int i)) (hi : i = n) (hn : n < l.length) (hz : l.length ≤ 1000) (hp : plainIdx e₂ = true := by rfl) : Ev c σ (.Subscript e₁ e₂ pos) σ (.int (l.getD n 0)) :=
  ev_item h1 h2 (nth_ints hi hn) (by omega) (by omega) hp
theorem ex_appendd {D : Addr} {ap cp : Pos} (ho : σ.own = some (x, D, ds)) (hpl : σ.pl = true) (h1 : Ev c σ e σ d) (hz : ds.length < 1000) (hr : Ex c ⟨σ.ρ, some (x, D, ds ++ [d]), σ.av, true⟩ rest o)
    (hfew : ((backTo cp (starEach [e] c.env)).all (fun x => !x.1) && (backToKw cp (keywordEach [] c.env)).all (fun x => x.1.isSome) && decide (([e] : List Expr).length + ([] : List Keyword).length + (if ([] : List Keyword).isEmpty then 0 else 1) < 30)) = true := by rfl)
    (hline : (ap.endLine == cp.line) = true := by rfl) (htrees : backTo cp (starEach [e] c.env) = [(false, eval e c.env)] := by rfl) (hb : attributeBase (.Name x p) "append" c.env (eval (.Name x p) c.env) = eval (.Name x p) c.env := by rfl)
    (hi : interactive c.env = false := by rfl) (hs : swapsWith (.Call (.Attribute (.Name x p) "append" ap) [e] [] cp) none pos.line c.env = pure false := by rfl)
    (hd : (x == ("__debug__" : Str)) = false := by decide) (hn : (x == ("__classdict__" : Str)) = false := by decide) :
    Ex c σ (.Expr (.Call (.Attribute (.Name x p) "append" ap) [e] [] cp) pos :: rest) o :=
  ex_cons (sx_append ho hpl h1 ho hpl (by omega) hfew hline htrees hb hi hs hd hn) hr
end
theorem defCon_cel {w : World} {k : Nat} {A : Around} {h₀ : Heap} {L a : Addr} {S : List Addr} {qual : Str} {scope : Scope} {fa : Addr} {cdv : Value} {x : Str} (hk : (defCon w k A h₀ L S qual scope fa cdv).env.kindOf x = some .cell) (hl : (defCon w k A h₀ L S qual scope fa cdv).env.cells.lookup x = some a) : Place (defCon w k A h₀ L S qual scope fa cdv) x := by
  refine .cel a hk hl (List.mem_cons_of_mem _ ?_)
  exact List.mem_map.mpr ⟨(x, a), mem_of_lookup hl, rfl⟩
def Nz (ts : List Int) (i : Nat) : Int := ([0, 0] ++ ts).getD i 0
def srow (ts : List Int) (above below i : Nat) : PyData := .list (((List.range below).map fun s => .int (Nz ts (above + 1 + i + 2 - (1 + s)))) ++ [.int (0 - Nz ts (above + 1 + i + 2))])
def solv2 (a b c d e f : Int) : Bool := if a * e - b * d != 0 then true else if a * f - c * d != 0 || b * f - c * e != 0 then false else (!(a == 0 && b == 0 && d == 0 && e == 0)) || (c == 0 && f == 0)
def solv (ts : List Int) (above below : Nat) : Bool :=
  if below = 0 then true else if below = 1 then Nz ts (above + 2) != 0 || 0 - Nz ts (above + 3) == 0
  else solv2 (Nz ts (above + 2)) (Nz ts (above + 1)) (0 - Nz ts (above + 3)) (Nz ts (above + 3)) (Nz ts (above + 2)) (0 - Nz ts (above + 4))
def Pz (ts : List Int) : PyData := P (ts.map fun t : Int => (t : Rat))
theorem rp_int (t : Int) : rp (t : Rat) = .tuple [.int t, .int 1] := rfl
end
section
open PySem PySem.W PyProof.Rows PySem.Calls PySem.Spec
set_option maxRecDepth 100000
section
variable {c : Con} {σ σ' σ₁ σ₂ σ₃ : Sg} {e e₁ e₂ e₃ : Expr} {d d₁ d₂ : PyData} {p pos : Pos} {k : Nat} {x y z : Str} {w : World} {o : Out} {st : Stmt} {ss rest body : List Stmt} {ds es : List PyData} {ρ : List (Str × PyData)} {target elt iter : Expr} {scope : Scope} {cl : List (Str × Addr)}

theorem St.hide {D : Addr} {ds₀ : List PyData} {h : Heap} (X : St c σ h) (ho : σ.own = some (x, D, ds₀)) (hD : D ∈ σ.av) : St c ⟨σ.ρ, none, σ.av, σ.pl⟩ h := by
  refine ⟨X.cx, X.fr, X.wnew, X.kind, X.globals, X.builtins, X.nsl, X.nscell, X.inj, X.wdata, fun y d e => ?_, X.avs, trivial⟩
  obtain ⟨v, as, a1, a2, a3, a4⟩ := (X.vars y d e).ex
  exact ⟨v, as, a1, a2, fun a ha hm => a3 a ha (List.mem_append_right _ hm), a4⟩
theorem St.shown {D : Addr} {ds₀ : List PyData} {ρ : List (Str × PyData)} {av : List Addr} {pl : Bool} {h : Heap} (X : St c ⟨ρ, none, av, pl⟩ h) (hD : D ∈ av) (O : OwnOk c h ρ av pl (some (x, D, ds₀))) : St c ⟨ρ, some (x, D, ds₀), av, pl⟩ h := by
  refine ⟨X.cx, X.fr, X.wnew, X.kind, X.globals, X.builtins, X.nsl, X.nscell, X.inj, X.wdata, fun y d e => ?_, X.avs, O⟩
  obtain ⟨v, as, a1, a2, a3, a4⟩ := (X.vars y d e).ex
  refine ⟨v, as, a1, a2, fun a ha hm => ?_, a4⟩
  rcases List.mem_append.mp hm with q | q
  · rw [List.mem_singleton.mp q] at ha
    exact a3 D ha hD
  · exact a3 a ha q
theorem OwnOk.kd {h h' : Heap} {ρ : List (Str × PyData)} {av : List Addr} {pl : Bool} {D : Addr} (O : OwnOk c h ρ av pl (some (x, D, ds))) (k : Kd h h') : OwnOk c h' ρ av pl (some (x, D, ds)) := by
  obtain ⟨a, ⟨as, r, q1, q2⟩, q3, b⟩ := O
  refine ⟨a.kd k, ⟨as, r.kd k, q1, q2⟩, fun z => ?_, b⟩
  obtain ⟨o, e1, e2⟩ := q3 z
  cases r with
  | list h1 h2 h3 h4 =>
    rw [h1] at e1; cases e1
    exact ⟨_, k _ _ h1 (fun vs z => by rw [h3] at z; cases z), e2⟩
theorem Iter.less {F F' off off' : List Addr} {wr : List Addr} {it : Value} {h : Heap} (I : Iter c F off target ds wr it h) (hF : ∀ a ∈ F', a ∈ F) (ho : ∀ a ∈ off', a ∈ off) : Iter c F' off' target ds wr it h := by
  obtain ⟨fl, J, Inv, e, i0, i1, i2, i3, i4⟩ := I
  refine ⟨fl, J, Inv, e, i0, fun i h₁ h₂ W' G q1 q2 q3 q4 q5 q6 => i1 i h₁ h₂ W' G q1 q2 q3 q4 q5 fun a ha => (q6 a ha).imp (hF a) id, i2, fun i s d Q q1 q2 q3 => i3 i s d Q q1 q2 fun v as h' tk r1 r2 r3 r4 => q3 v as h' tk r1 r2 r3 fun a ha => ⟨fun hm => (r4 a ha).1 (ho a hm), (r4 a ha).2⟩, i4⟩
set_option maxHeartbeats 1000000 in
theorem ev_comp_hide {D₀ : Addr} {ds₀ : List PyData} {pl' : Bool} {ρ' : Addr → Addr → List (Str × PyData)} (ho : σ.own = some (x, D₀, ds₀)) (hD : D₀ ∈ σ.av) (h : It c σ iter σ ds target) (K : CompOk c ⟨σ.ρ, none, σ.av, σ.pl⟩ scope cl ρ) (hz : ds.length ≤ 2 ^ 20)
    (hco : ∀ C D, Co (c.comp scope cl C) target elt ds es ⟨ρ, none, D :: σ.av, σ.pl⟩ ⟨ρ' C D, none, D :: σ.av, σ.pl⟩) (hs : ∀ x, foldedSetIterable iter c.env x = pure x := by intro _; rfl) :
    Ev c σ (.ListComp elt [⟨target, iter, [], 0⟩] scope pos) σ (.list es) := by
  refine ⟨rfl, fun s Q X hq => ?_⟩
  rw [eval_ListComp]
  refine wpAny_comprehension_free (use := none) rfl hs K.clos K.kind K.names (h.2 s _ X fun it wr s₂ X₂ K₂ hw hit => ?_)
  have hit' : Iter c (⟨σ.ρ, none, σ.av, σ.pl⟩ : Sg).fp (⟨σ.ρ, none, σ.av, σ.pl⟩ : Sg).off target ds wr it s₂.heap := hit.less (fun a ha => nomatch ha) (fun a ha => List.mem_append_right _ ha)
  refine comp_core (σ := ⟨σ.ρ, none, σ.av, σ.pl⟩) (own' := none) (pl' := σ.pl) (RR := fun acc C => compPost (model prg c.w) c.A (fun _ _ => False) none Q acc C) (X₂.hide ho hD) K hz hit' (comp_hw X hw hit) trivial hco fun D C h' tk cd => ?_
  obtain ⟨m, hn⟩ := cd.ns
  refine ⟨m, hn, fun h'' hs'' => ?_⟩
  have g0 : ∀ b, ({ s₂.heap with objs := #[] } : Heap).get? b = none := fun b => by
    cases q : ({ s₂.heap with objs := #[] } : Heap).get? b with
    | none => rfl
    | some o => exact absurd (Heap.lt_size q) (Nat.not_lt_zero _)
  obtain ⟨st, _, as, B⟩ := comp_end (σ := ⟨σ.ρ, none, σ.av, σ.pl⟩) (σ₁ := ⟨σ.ρ, none, σ.av, σ.pl⟩) (s := { s₂ with heap := { s₂.heap with objs := #[] } }) (tk := tk) (X₂.hide ho hD) ⟨s₂.heap, s₂.toks, rfl, fun b o e => by rw [g0] at e; cases e⟩ rfl (fun b _ => g0 b) (own' := none) trivial cd hs''
  have kd : Kd s₂.heap h'' := fun b o e nf => by
    have q1 := cd.keep b o e (fun hm => by
      obtain ⟨o', vs, e1, e2⟩ := hit.flds b hm
      rw [e] at e1; cases e1
      exact nf vs e2) (fun hm => nomatch hm)
    exact (hs''.2 b fun q => by
      subst q
      exact nomatch e.symm.trans cd.freshC).trans q1
  have O := X₂.own
  rw [ho] at O
  have Y := St.shown st hD (O.kd kd)
  have eσ : (⟨σ.ρ, some (x, D₀, ds₀), σ.av, σ.pl⟩ : Sg) = σ := by rw [← ho]
  rw [eσ] at Y
  refine hq _ as _ Y ?_ ⟨B.rd, fun a ha hm => ?_, B.src⟩
  · obtain ⟨h1, t1, rfl, k1⟩ := K₂
    refine ⟨h'', tk, rfl, fun b o e hW hF => ?_⟩
    have q1 := k1 b o e hW hF
    have q2 := cd.keep b o q1 (fun hm => by rw [hw b hm] at e; cases e) (fun hm => nomatch hm)
    exact (hs''.2 b fun q => by
      subst q
      exact nomatch q1.symm.trans cd.freshC).trans q2
  · have e1 : σ.fp = [D₀] := by unfold Sg.fp; rw [ho]
    rcases List.mem_append.mp hm with q | q
    · rw [e1] at q
      rw [List.mem_singleton.mp q] at ha
      exact B.off D₀ ha hD
    · exact B.off a ha q
theorem ev_comp_rng_hide {D₀ : Addr} {ds₀ : List PyData} {px : Pos} {a : Int} {n : Nat} (ho : σ.own = some (x, D₀, ds₀)) (hD : D₀ ∈ σ.av) (g : Nat → PyData) (h : It c σ iter σ (rng a n) (.Name y px)) (K : CompOk c ⟨σ.ρ, none, σ.av, σ.pl⟩ scope cl ρ) (hz : n ≤ 2 ^ 20) (hx : ρ.lookup y = none)
    (hkx : ∀ C, (compEnvC scope cl C c.env).kindOf y = some .local)
    (he : ∀ C D i, i < n → Ev (c.comp scope cl C) ⟨(y, .int (a + i)) :: ρ, none, D :: σ.av, σ.pl⟩ elt ⟨(y, .int (a + i)) :: ρ, none, D :: σ.av, σ.pl⟩ (g i))
    (hs : ∀ x, foldedSetIterable iter c.env x = pure x := by intro _; rfl) : Ev c σ (.ListComp elt [⟨.Name y px, iter, [], 0⟩] scope pos) σ (.list ((List.range n).map g)) := by
  refine ev_comp_hide (pl' := σ.pl) (ρ' := fun _ _ => ρ) ho hD h K (by rw [rng_length]; exact hz) (fun C D => ?_) hs
  have key : ∀ (ds es : List PyData), ds.length = es.length → (∀ (i : Nat) (d e : PyData), ds[i]? = some d → es[i]? = some e → Ev (c.comp scope cl C) ⟨(y, d) :: ρ, none, D :: σ.av, σ.pl⟩ elt ⟨(y, d) :: ρ, none, D :: σ.av, σ.pl⟩ e) → Co (c.comp scope cl C) (.Name y px) elt ds es ⟨ρ, none, D :: σ.av, σ.pl⟩ ⟨ρ, none, D :: σ.av, σ.pl⟩ := by
    intro ds
    induction ds with
    | nil =>
      intro es hl _
      cases es with
      | nil => exact .nil
      | cons _ _ => cases hl
    | cons d ds ih =>
      intro es hl he
      cases es with
      | nil => cases hl
      | cons e es =>
        refine .cons (σ₁ := ⟨(y, d) :: ρ, none, D :: σ.av, σ.pl⟩) (σ₂ := ⟨(y, d) :: ρ, none, D :: σ.av, σ.pl⟩) (σ₂' := ⟨ρ, none, D :: σ.av, σ.pl⟩) ?_ (he 0 d e rfl rfl) rfl rfl rfl (fun z dd q => ?_) (ih es (by simpa using hl) fun i d e h1 h2 => he (i + 1) d e h1 h2)
        · exact as_name (σ := ⟨ρ, none, D :: σ.av, σ.pl⟩) (.loc (hkx C) (List.Mem.head _)) trivial
        · have : z ≠ y := fun e => by rw [e, hx] at q; cases q
          have : (z == y) = false := by simpa using this
          show List.lookup z ((y, d) :: ρ) = some dd
          rw [List.lookup_cons, this]
          exact q
  refine key _ _ (by rw [rng_length]; simp) fun i d e h1 h2 => ?_
  obtain ⟨hi, rfl⟩ := rng_get h1
  rw [map_get h2]
  exact he C D i hi
end
end
local macro_rules | `(tactic| k_extra "mallc") => `(tactic| ((repeat refine ⟨rfl, ?_⟩); exact trivial))
local macro_rules | `(tactic| k_extra "mfree") => `(tactic| exact fun C => ⟨by first | exact .inl rfl | exact .inr rfl, by first | exact .inl rfl | exact .inr rfl, rfl⟩)
local macro_rules | `(tactic| k_extra "mallf") => `(tactic| ((repeat refine ⟨⟨rfl, by k_extra "mfree"⟩, ?_⟩); exact trivial))
local macro_rules | `(tactic| k_extra "mcomp") => `(tactic| exact compok rfl (by k_extra "mallc") (by k_extra "mallf") (by decide) rfl (by decide) (by first | exact trivial | (k_extra "mfree")))

local macro_rules | `(tactic| k_extra "mcel") => `(tactic| exact defCon_cel rfl rfl)
local macro_rules | `(tactic| k_extra "mloc") => `(tactic| exact defCon_cel rfl rfl)
section
open PySem PySem.W PyProof.Rows PySem.Calls PySem.Spec
set_option maxRecDepth 100000
theorem small_mul {a b : Int} (ha : a.natAbs < 2 ^ 30) (hb : b.natAbs < 2 ^ 30) : IntMulOk a b := mulOk ha hb (by decide) (by decide)
theorem fn_solv (w : World) (ts : List Int) (above below : Nat) (hl : ts.length = above + below + 1) (hb : below ≤ 2) (ha : above ≤ 10) (ht : ∀ t ∈ ts, t.natAbs < 2 ^ 30) : Fn w "_law_is_solvable" 2 [Pz ts, .int above, .int below] (.bool (solv ts above below)) := by
  have hN : ∀ i, (Nz ts i).natAbs < 2 ^ 30 := by
    intro i
    unfold Nz
    rw [List.getD_eq_getElem?_getD]
    cases q : ([0, 0] ++ ts)[i]? with
    | none => simp
    | some x =>
      have := List.mem_of_getElem? q
      rcases List.mem_append.mp this with m | m
      · simp at m; simp [m]
      · exact ht x m
  have hN2 : ∀ i, (0 - Nz ts i).natAbs < 2 ^ 30 := fun i => by have := hN i; omega
  refine fn_intro (fa := 253) (ps := ["told", "above", "below"]) rfl rfl rfl rfl (fun vs h => ?_) rfl (by decide) (by decide) rfl rfl rfl fun A h₀ L S => ?_
  · match vs, h with
    | [_, _, _], _ => rfl
  have hzl : (([0, 0] ++ ts).map fun t : Int => (t : Rat)).length = above + below + 3 := by simp; omega
  have hzi : ([0, 0] ++ ts).length = above + below + 3 := by simp; omega
  refine ex_assign (Pz ([0, 0] ++ ts)) (Ev.as (EvF.ev (evf_cat (EvF.ev (evf_rep (ev_list (evl1 (ev_tuple (evl2 ev_int ev_int) (by exact Nat.le_of_ble_eq_true rfl))) (by exact Nat.le_of_ble_eq_true rfl)) ev_int (by rfl) (by decide) (by decide))) (ev_name (by rfl)) ?_)) ?_) (by k_extra "mloc") (by k_extra "mno") ?_
  · refine sz ?_
    simp; omega
  · rfl
  refine ex_assign (.int 1) ev_int (by k_extra "mcel") (by k_extra "mno") ?_
  have hit : ∀ (t : List Int) d, d ∈ (t.map fun t : Int => (t : Rat)).map rp → ∃ xs, d = .tuple xs := fun t d hd => by
    obtain ⟨r, hr, rfl⟩ := List.mem_map.mp hd
    exact ⟨_, rfl⟩
  refine ex_sub (σ' := ⟨[("above", .int above), ("below", .int below), ("whole", Pz ([0, 0] ++ ts)), ("common", .int 1)], none, [], true⟩) ?_ rfl rfl rfl (by k_extra "msub")
  have hget : ∀ (l : List Int) (i : Nat) (d : PyData), ((l.map fun t : Int => (t : Rat)).map rp)[i]? = some d → d = .tuple [.int (l.getD i 0), .int 1] ∧ i < l.length := fun l i d q => by
    rw [List.getElem?_map, List.getElem?_map] at q
    cases q2 : l[i]? with
    | none => rw [q2] at q; cases q
    | some t =>
      rw [q2] at q
      obtain rfl := Option.some.inj q
      refine ⟨?_, (List.getElem?_eq_some_iff.mp q2).1⟩
      rw [List.getD_eq_getElem?_getD, q2]
      rfl
  refine ex_for (ds := (([0, 0] ++ ts).map fun t : Int => (t : Rat)).map rp) (fun i => ⟨[("above", .int above), ("below", .int below), ("whole", Pz ([0, 0] ++ ts)), ("common", .int 1)], none, [], true⟩) (it_list (ev_name (by rfl)) (go_tuple (hit _))) (fun i d q => ?_) (fun i => rfl) ?_
  · obtain ⟨rfl, hi⟩ := hget _ i d q
    have hm : IntMulOk 1 1 := small_mul (by decide) (by decide)
    refine ⟨_, by k_extra "mas", ?_⟩
    refine ex_assign (.int 1) (Ev.as (by k_extra "mev") (by rfl)) (by k_extra "mcel") (by k_extra "mno") ?_
    exact ex_weak ex_nil rfl rfl rfl (by k_extra "msub")
  refine ex_assign (.list (([0, 0] ++ ts).map .int)) ?_ (by k_extra "mcel") (by k_extra "mno") ?_
  · have hm1 : (1 : Int) ≠ 0 := by decide
    have hp1 : Builtin.divisionGoesByPylong 1 1 = false := by decide +kernel
    refine ev_compg (ρ := [("common", .int 1)]) (fun i => [("b", .int 1), ("a", .int (([0, 0] ++ ts).getD i 0)), ("common", .int 1)]) (it_list (ev_name (by rfl)) (go_tuple (hit _))) (by k_extra "mcomp") ?_ (by simp) (fun C D i d q => ?_) (fun i => ?_) (fun C D i d e q1 q2 => ?_)
    · simp; omega
    · obtain ⟨rfl, hi⟩ := hget _ i d q
      exact as_tuple (asl_cons (as_name (.loc rfl (List.Mem.head _)) trivial) (asl_cons (as_name (.loc rfl (List.Mem.head _)) trivial) asl_nil))
    · k_extra "msub"
    · obtain ⟨rfl, hi⟩ := hget _ i d q1
      rw [List.getElem?_map] at q2
      have hf : (1 : Int).fdiv 1 = 1 := by decide
      have hm : IntMulOk (([0, 0] ++ ts).getD i 0) ((1 : Int).fdiv 1) := small_mul (hN i) (by decide)
      refine Ev.as (by k_extra "mev") ?_
      rw [hf, Int.mul_one]
      rw [List.getD_eq_getElem?_getD]
      cases q3 : ([0, 0] ++ ts)[i]? with
      | none => rw [q3] at q2; cases q2
      | some t =>
        rw [q3] at q2
        exact Option.some.inj q2
  refine ex_owns [] [("above", .int above), ("below", .int below), ("number", .list (([0, 0] ++ ts).map .int))] (evf_list evl_nil (Nat.zero_le _)) (by k_extra "mloc") (by rfl) (by k_extra "msub") (by rfl) (fun D => ?_)
  refine ex_for_rng (a := above + 1) (n := below) (fun i => ⟨[("above", .int above), ("below", .int below), ("number", .list (([0, 0] ++ ts).map .int))], some ("rows", D, (List.range i).map (srow ts above below)), [D], true⟩) (it_r2 (by k_extra "mev") (by k_extra "mev") (by omega) (by omega) rfl rfl rfl (fun _ _ => rfl)) (fun i hi => ?_) (fun i => rfl) ?_
  · refine ⟨_, by k_extra "mas", ?_⟩
    refine ex_appendd (d := srow ts above below i) (by rfl) (by rfl) (EvF.ev (evf_cat (ev_comp_rng_hide (a := 1) (n := below) (ρ := [("at", .int (above + 1 + i)), ("number", .list (([0, 0] ++ ts).map .int))]) (by rfl) (List.Mem.head _) (fun s => .int (Nz ts (above + 1 + i + 2 - (1 + s)))) (it_r2 ev_int (by k_extra "mev") (by omega) (by omega) rfl rfl rfl (fun _ _ => rfl)) (by k_extra "mcomp") (by omega) (by rfl) (fun C => rfl) (fun C D s hs => ?_)) (ev_list (evl1 (ev_sub ev_int (ev_ati (above + 1 + i + 2) (ev_name (by rfl)) (by k_extra "mev") ?_ ?_ ?_))) (by exact Nat.le_of_ble_eq_true rfl)) ?_)) ?_ ?_
    · exact ev_ati (above + 1 + i + 2 - (1 + s)) (ev_name (by rfl)) (by k_extra "mev") (by omega) (by omega) (by omega)
    · omega
    · omega
    · omega
    · refine sz ?_
      simp; omega
    · simp; omega
    · have e1 : (List.range i).map (srow ts above below) ++ [srow ts above below i] = (List.range (i + 1)).map (srow ts above below) := by rw [List.range_succ, List.map_append]; rfl
      rw [e1]
      exact ex_weak ex_nil rfl rfl rfl (by k_extra "msub")
  · unfold solv
    by_cases b0 : below = 0
    · rw [if_pos b0]
      exact ex_ret (sx_if_t (Ts.as (by k_extra "mts") (by rw [b0]; rfl)) (ex_return ev_bool))
    rw [if_neg b0]
    refine ex_cons (sx_if_f (Ts.as (by k_extra "mts") (by simpa using b0)) ex_nil) ?_
    by_cases b1 : below = 1
    · rw [if_pos b1]
      subst b1
      have r1 : (List.range 1).map (srow ts above 1) = [.list [.int (Nz ts (above + 2)), .int (0 - Nz ts (above + 3))]] := rfl
      rw [r1]
      generalize Nz ts (above + 2) = u
      generalize 0 - Nz ts (above + 3) = v
      refine ex_ret (sx_if_t (Ts.as (by k_extra "mts") (by rfl)) (ex_return (ev_or ?_ ?_)))
      · exact ev_nei (ev_item (ds := [.int u, .int v]) (ev_itemo (ds := [.list [.int u, .int v]]) (by rfl) ev_int (by rfl) (by rfl) (by decide) (by decide)) ev_int (by rfl) (by decide) (by decide)) ev_int
      · exact ev_eqi (ev_item (ds := [.int u, .int v]) (ev_itemo (ds := [.list [.int u, .int v]]) (by rfl) ev_int (by rfl) (by rfl) (by decide) (by decide)) ev_int (by rfl) (by decide) (by decide)) ev_int
    rw [if_neg b1]
    have b2 : below = 2 := by omega
    subst b2
    refine ex_cons (sx_if_f (Ts.as (by k_extra "mts") (by rfl)) ex_nil) ?_
    have r2 : (List.range 2).map (srow ts above 2) = [.list [.int (Nz ts (above + 2)), .int (Nz ts (above + 1)), .int (0 - Nz ts (above + 3))], .list [.int (Nz ts (above + 3)), .int (Nz ts (above + 2)), .int (0 - Nz ts (above + 4))]] := rfl
    rw [r2]
    refine ex_drop ?_
    have u1 := hN (above + 2)
    have u2 := hN (above + 1)
    have u3 := hN2 (above + 3)
    have u4 := hN (above + 3)
    have u6 := hN2 (above + 4)
    clear r2 hN hN2
    generalize 0 - Nz ts (above + 3) = c at *
    generalize 0 - Nz ts (above + 4) = f at *
    generalize Nz ts (above + 3) = d at *
    generalize Nz ts (above + 1) = b at *
    generalize hae : Nz ts (above + 2) = a at *
    obtain ⟨e, he, u5⟩ : ∃ e, a = e ∧ e.natAbs < 2 ^ 30 := ⟨a, rfl, u1⟩
    have hfin : solv2 a b c d a f = solv2 a b c d e f := by rw [he]
    rw [hfin]
    refine ex_cons (sx_assign_t (d := .list [.list [.int a, .int b, .int c], .list [.int d, .int e, .int f]]) (Ev.as (ev_name (by rfl)) (by rw [← he])) (by k_extra "mas")) ?_
    clear hfin he hae
    refine ex_sub (σ' := ⟨[("a", .int a), ("b", .int b), ("c", .int c), ("d", .int d), ("e", .int e), ("f", .int f)], none, [], true⟩) ?_ rfl rfl rfl (by k_extra "msub")
    have m1 := small_mul u1 u5
    have m2 := small_mul u2 u4
    have m3 := small_mul u1 u6
    have m4 := small_mul u3 u4
    have m5 := small_mul u2 u6
    have m6 := small_mul u3 u5
    unfold solv2
    by_cases c1 : (a * e - b * d != 0) = true
    · rw [if_pos c1]
      exact ex_ret (sx_if_t (Ts.as (by k_extra "mts") c1) (ex_return ev_bool))
    rw [if_neg c1]
    have c1' : (a * e - b * d != 0) = false := by simpa using c1
    refine ex_cons (sx_if_f (Ts.as (by k_extra "mts") c1') ex_nil) ?_
    by_cases c2 : (a * f - c * d != 0 || b * f - c * e != 0) = true
    · rw [if_pos c2]
      exact ex_ret (sx_if_t (Ts.as (ts_or2 (ts_nei (by k_extra "mev") ev_int) (ts_nei (by k_extra "mev") ev_int)) c2) (ex_return ev_bool))
    rw [if_neg c2]
    have c2' : (a * f - c * d != 0 || b * f - c * e != 0) = false := by simpa using c2
    refine ex_cons (sx_if_f (Ts.as (ts_or2 (ts_nei (by k_extra "mev") ev_int) (ts_nei (by k_extra "mev") ev_int)) c2') ex_nil) ?_
    refine ex_return (ev_or (ev_ne (d₁ := .list [.int a, .int b, .int d, .int e]) (d₂ := .list [.int 0, .int 0, .int 0, .int 0]) (by k_extra "mev") (by k_extra "mev") (by rfl) (by rfl) ?_) (ev_eq (d₁ := .list [.int c, .int f]) (d₂ := .list [.int 0, .int 0]) (by k_extra "mev") (by k_extra "mev") (by rfl) (by rfl) ?_))
    · simp [PyData.eqv, PyData.eqvAll, Bool.and_assoc]
    · simp [PyData.eqv, PyData.eqvAll]
end
section
open PySem PySem.W PyProof.Rows PySem.Calls PySem.Spec
set_option maxRecDepth 100000
/-- a def that changes the list handed to it first, and gives an int -/
def FnT (w : World) (x : Str) (k : Nat) (ds es : List PyData) (args : List PyData) (i : Int) : Prop :=
  ∃ fa oc od fd sl, nsIn (KF w) mainGlobals x = some (some (.ref fa)) ∧ (KF w).lookup fa = some ⟨oc, od, .func fd, sl⟩ ∧
    ∀ A h₀ L s D bs vs (Q : Value → Shared → Prop), Cx w k A h₀ L → (∃ m, Fr h₀ L s.heap m) → h₀.get? D = none → D ≠ L → Rd s.heap (.ref D) (.list ds) (D :: bs) → (∀ a ∈ bs, a ≠ D) → RdAll s.heap vs args [] →
      (∀ t h' tk bs', (∀ b o, b ≠ D → s.heap.get? b = some o → h'.get? b = some o) → Rd h' (.ref D) (.list es) (D :: bs') → (∀ a ∈ bs', a ≠ D ∧ (s.heap.get? a = none ∨ a ∈ bs)) → Q (.int i t) { s with heap := h', toks := tk }) →
      wpAny (model prg w) A (call (.ref fa) (.ref D :: vs)) Q (fun _ _ => False) s
section
variable {c : Con} {σ σ' σ₁ σ₂ σ₃ : Sg} {e e₁ e₂ e₃ : Expr} {d d₁ d₂ : PyData} {p p₂ pos : Pos} {k : Nat} {x y z f : Str} {w : World} {o : Out} {st : Stmt} {ss rest body : List Stmt} {ds es : List PyData} {ρ : List (Str × PyData)}
theorem Sx.as {o' : Out} (h : Sx c σ st o) (q : o = o') : Sx c σ st o' := q ▸ h
theorem mutateG {h h' : Heap} {D : Addr} {bs' : List Addr} (X : St c σ h) (ho : σ.own = some (x, D, ds)) (g : ∀ b o, b ≠ D → h.get? b = some o → h'.get? b = some o) (r : Rd h' (.ref D) (.list es) (D :: bs')) (hb : ∀ a ∈ bs', a ∉ σ.off) (src : Src c bs') :
    St c ⟨σ.ρ, some (x, D, es), σ.av, false⟩ h' ∧ Keep c.W σ.fp h h' := by
  obtain ⟨ρ, own, av, pl⟩ := σ
  simp only at ho
  subst ho
  obtain ⟨q1, ⟨as, q2, q2a, q2b⟩, q3, q4, q5, q6⟩ := X.own
  obtain ⟨ob, xs, n, eo, ec, ed⟩ := X.lists D (List.mem_singleton.mpr rfl)
  have kp : Keep c.W [D] h h' := fun b o e _ hf => g b o (fun q => hf (List.mem_singleton.mpr q)) e
  have neD : ∀ {a : Addr} {o' : Obj}, h.get? a = some o' → (∀ xs n, o'.data ≠ .seq xs n) → a ≠ D := fun {a o'} e' z hq => by
    rw [hq, eo] at e'; cases e'
    exact z _ _ ed
  have nsK : ∀ {a m}, h.Ns a m → h'.Ns a m := fun {a m} hn => by
    obtain ⟨o', e', z⟩ := ns_data hn
    have hne := neD e' z
    obtain ⟨o1, es1, ep1, e1, qd, r1⟩ := hn
    exact ⟨o1, es1, ep1, g a o1 hne e1, qd, r1⟩
  have ceK : ∀ {a v}, h.IsCell a v → h'.IsCell a v := fun {a v} hn => by
    obtain ⟨o', e', z⟩ := cell_data hn
    have hne := neD e' z
    obtain ⟨o1, e1, qd⟩ := hn
    exact ⟨o1, g a o1 hne e1, qd⟩
  have va : ∀ {y v}, VarAt c.env h y v → VarAt c.env h' y v := fun a => by
    cases a with
    | loc m e1 e2 e3 => exact .loc m e1 (nsK e2) e3
    | cel a e1 e2 e3 => exact .cel a e1 e2 (ceK e3)
  refine ⟨⟨X.cx, ?_, X.wnew, X.kind, X.globals, X.builtins, ?_, fun y a e => ?_, X.inj, fun b hb' => ?_, fun y d e => ?_, fun b hb' => ?_, ⟨va q1, ⟨bs', r, fun a ha hm => hb a ha ?_, fun a ha => ?_⟩, (fun z => nomatch z), q4, q5, q6⟩⟩, kp⟩
  · obtain ⟨m, F⟩ := X.fr
    exact ⟨m, nsK F.ns, fun b o e => g b o (fun q => by rw [q, q4] at e; cases e) (F.keep b o e), F.above⟩
  · obtain ⟨m, z⟩ := X.nsl; exact ⟨m, nsK z⟩
  · obtain ⟨v, z⟩ := X.nscell y a e; exact ⟨v, ceK z⟩
  · obtain ⟨o, e, z⟩ := X.wdata b hb'
    exact ⟨o, g b o (fun q => q5 (q ▸ hb')) e, z⟩
  · obtain ⟨v, as', a1, a2, a3, a4⟩ := (X.vars y d e).ex
    exact ⟨v, as', va a1, X.keep kp a2 a3, a3, a4⟩
  · by_cases q : b = D
    · subst q
      cases r with
      | list h1 h2 h3 h4 => exact ⟨_, _, _, h1, h2, h3⟩
    · obtain ⟨o, ys, n, e, z⟩ := X.avs b hb'
      exact ⟨o, ys, n, g b o q e, z⟩
  · rcases List.mem_cons.mp hm with rfl | hm
    · exact List.mem_append_left _ (List.mem_singleton.mpr rfl)
    · exact List.mem_append_right _ hm
  · rcases List.mem_cons.mp ha with rfl | ha
    · exact .inl q4
    · exact src a ha

theorem ev_take {D : Addr} {i m : Int} {u : Nat} {p₃ : Pos} (F : FnT c.w f k ds es [.int m] i) (ho : σ.own = some (x, D, ds)) (hk : c.env.kindOf f = some .globalImplicit := by rfl) (hn : k ≤ c.n := by exact Nat.le_of_ble_eq_true rfl)
    (he : starEach [.Name x p₃, .Constant (.int m) u p₂] c.env = [(false, eval (.Name x p₃) c.env), (false, eval (.Constant (.int m) u p₂) c.env)] := by rfl) (hd : (f == ("__debug__" : Str)) = false := by decide)
    (hd2 : (x == ("__debug__" : Str)) = false := by decide) (hnn : (x == ("__classdict__" : Str)) = false := by decide) :
    Ev c σ (.Call (.Name f p) [.Name x p₃, .Constant (.int m) u p₂] [] pos) ⟨σ.ρ, some (x, D, es), σ.av, false⟩ (.int i) := by
  obtain ⟨fa, oc, od, fd, sl, n1, n2, op⟩ := F
  have ffp : (⟨σ.ρ, some (x, D, es), σ.av, false⟩ : Sg).fx = σ.fx := by unfold Sg.fx Sg.fp; rw [ho]
  refine ⟨ffp, fun s Q X h => wpAny_Call_NameR (name_fn X hk n1 (callWith_function (o := ⟨oc, od, .func fd, sl⟩) (fd := fd) ?_) hd)⟩
  rw [he]
  refine evalArgs_plain (spliced_cons (own_name X ho (spliced_cons ((ev_int (c := c) (σ := σ) (i := m) (u := u) (pos := p₂)).2 s _ X fun v as s₁ x₁ k₁ b₁ => spliced_nil ?_)) hd2 hnn))
  obtain ⟨t, rfl, rfl⟩ := int_of b₁.rd
  obtain ⟨mg, mb, g, b, h1, h2, h3, K⟩ := glob_of x₁
  refine ⟨⟨K _ _ n2, rfl⟩, ?_⟩
  have O := x₁.own
  rw [ho] at O
  obtain ⟨q1, ⟨bs, r, q2a, q2b⟩, q3, q4, q5, q6⟩ := O
  have hDL : D ≠ c.L := fun q => by
    obtain ⟨m, F⟩ := x₁.fr
    obtain ⟨o1, e1, z⟩ := ns_data F.ns
    cases r with
    | list w1 w2 w3 w4 =>
      rw [← q, w1] at e1; cases e1
      exact z _ _ w3
  refine op c.A c.h₀ c.L s₁ D bs [.int m t] Q (x₁.cx.le hn) x₁.fr q4 hDL r (fun a ha e => q2a a ha (by rw [e]; exact .head _)) (.cons (.int _ _) .nil) fun t' h' tk bs' g' r' hb => ?_
  have hoff : ∀ a ∈ bs', a ∉ σ.off := fun a ha hm => by
    rcases (hb a ha).2 with e | e
    · exact x₁.offp e hm
    · unfold Sg.off Sg.fp at hm
      rw [ho] at hm
      exact q2a a e hm
  obtain ⟨X', K'⟩ := mutateG x₁ ho g' r' hoff (fun a ha => (hb a ha).2.elim (fun e => .inl (x₁.new e)) fun e => q2b a (.tail _ e))
  exact h _ [] { s₁ with heap := h', toks := tk } X' (k₁.trans rfl ⟨h', tk, rfl, K'⟩) (Bears.plain (.int _ _))
end
theorem St.drop {c : Con} {x : Str} {D : Addr} {ds : List PyData} {ρ : List (Str × PyData)} {av : List Addr} {pl : Bool} {h : Heap} (X : St c ⟨ρ, some (x, D, ds), D :: av, pl⟩ h) (hx : D ∉ av) : St c ⟨(x, .list ds) :: ρ, none, av, true⟩ h := by
  obtain ⟨q1, ⟨as, q2, q2a, q2b⟩, q3, q4, q5, q6⟩ := X.own
  refine ⟨X.cx, X.fr, X.wnew, X.kind, X.globals, X.builtins, X.nsl, X.nscell, X.inj, X.wdata, fun y d e => ?_, fun b hb => X.avs b (.tail _ hb), trivial⟩
  by_cases q : y = x
  · subst q
    have e' : some (PyData.list ds) = some d := by
      have : ((y, PyData.list ds) :: ρ).lookup y = some d := e
      rw [List.lookup_cons, beq_self_eq_true] at this
      exact this
    cases e'
    refine ⟨_, _, q1, q2, fun a ha hm => ?_, q2b⟩
    have hm' : a ∈ av := hm
    rcases List.mem_cons.mp ha with rfl | ha
    · exact hx hm'
    · exact q2a a ha (.tail _ (.tail _ hm'))
  · have e' : ρ.lookup y = some d := by
      have : ((x, PyData.list ds) :: ρ).lookup y = some d := e
      have hy : (y == x) = false := by simpa using q
      rw [List.lookup_cons, hy] at this
      exact this
    obtain ⟨v, bs, a1, a2, a3, a4⟩ := (X.vars y d e').ex
    exact ⟨v, bs, a1, a2, fun a ha hm => a3 a ha (List.mem_append_right _ (.tail _ hm)), a4⟩
theorem fnT_intro {w : World} {x : Str} {fa : Addr} {oc : Value} {od : Option Addr} {osl : Array (Option Value)} {name qual : Str} {params : Arguments} {st : Stmt} {rest : List Stmt} {scope : Scope} {dV kV doc pm : Value} {an : Option Addr} {cdv ct : Value} {b : Str} {ps : List Str} {ds es args : List PyData} {i : Int} {k : Nat}
    (hn : nsIn (KF w) mainGlobals x = some (some (.ref fa))) (ho : (KF w).lookup fa = some ⟨oc, od, .func (fnX name qual params (st :: rest) scope [] dV kV doc pm an cdv ct), osl⟩) (hcd : codeIn (KF w) cdv qual = true)
    (hlen : ps.length = args.length) (hbind : ∀ vs : List Value, vs.length = args.length + 1 → bindArgs (fnX name qual params (st :: rest) scope [] dV kV doc pm an cdv ct) ⟨vs, []⟩ = pure ((b :: ps).zip vs))
    (hkind : ((b :: ps).all fun y => scope.names.lookup y == some .local) = true) (hnd : (b :: ps).Nodup) (hcn : ((cellsFrom 0 scope.names []).map (·.1)).Nodup)
    (hco : scope.isCoroutine = false) (hgen : scope.isGenerator = false) (hk : scope.kind = .function) (ρ1 : List (Str × PyData)) (hb1 : ρ1.lookup b = none)
    (hs : ∀ A h₀ L S D, Sx (defCon w k A h₀ L S qual scope fa cdv) ⟨ps.zip args, some (b, D, ds), [D], false⟩ st (.next ⟨ρ1, some (b, D, es), [D], false⟩))
    (hr : ∀ A h₀ L S, Ex (defCon w k A h₀ L S qual scope fa cdv) ⟨(b, .list es) :: ρ1, none, [], true⟩ rest (.ret (.int i))) : FnT w x (k + 1) ds es args i := by
  refine ⟨fa, oc, od, _, osl, hn, ho, fun A h₀ L s D bs vs Q cx fr h0D hDL rD hbD rd hq => ?_⟩
  obtain ⟨A₀, base, outer, env, mean, mg, mb, B, hA, hf, hke, K, T⟩ := cx.ex
  obtain ⟨m, F⟩ := fr
  have Ks : (KF w).In s.heap := fun a o e => F.keep a o (K a o e)
  obtain ⟨oD, eD⟩ : ∃ oD, s.heap.get? D = some oD := rD.there D (.head _)
  obtain ⟨FG, BG, stay, lv⟩ := groundX (R := fun r s' => True) B F (news := [(D, oD)]) (fun p hp => by
    rw [List.mem_singleton.mp hp]
    exact ⟨eD, hDL, h0D⟩) hA hf hke
  have hHD : (hideAll s.heap [D]).get? D = none := hideAll_none _ (.head _)
  have hHk : ∀ {a o}, s.heap.get? a = some o → a ≠ D → (hideAll s.heap [D]).get? a = some o := fun e hne => hideAll_get _ e (fun hm => hne (List.mem_singleton.mp hm))
  have hv : vs.length = args.length := rd.length
  have hlv : (b :: ps).length = (Value.ref D :: vs).length := by simp [hlen, hv]
  have lookOf : ∀ {n : Nat} {y : Str} {a : Addr}, (y, a) ∈ cellsFrom n scope.names [] → (cellsFrom n scope.names []).lookup y = some a := fun {n y a} hm => lookup_of_mem_nodup (cellsFrom_names scope.names 0 n [] [] rfl ▸ hcn) hm
  refine wpAny_call (codeAny_call_function (by have := cx.depth; omega) (Ks _ _ ho) rfl hco hgen rfl (codeRec_of Ks hcd) ?_)
  rw [hbind (.ref D :: vs) (by simp [hv])]
  refine wpAny_pure (wpAny_newFunctionEnv_cells hk (kindsX (by
    rw [List.all_eq_true] at hkind ⊢
    intro z hz
    have := hkind z.1 (by rw [← zip_fst hlv]; exact List.mem_map.mpr ⟨z, hz, rfl⟩)
    rw [this]; rfl) _) fun env' he s' x => ?_)
  subst he
  refine ⟨(T.nolimit.keeps F.keep).keeps x.toInCall.keep, codeAny_func ?_⟩
  obtain ⟨h₁, tk, rfl, hk₁⟩ := x.done
  have b1 := hs (A.deeper (envOfC qual scope s.heap.objs.size fa cdv)) (hideAll s.heap [D]) s.heap.objs.size bs D
  have b2 := hr (A.deeper (envOfC qual scope s.heap.objs.size fa cdv)) (hideAll s.heap [D]) s.heap.objs.size bs
  have hfresh : ∀ {a : Addr}, s.heap.objs.size ≤ a → s.heap.get? a = none := fun {a} ha => by
    cases q : s.heap.get? a with
    | none => rfl
    | some o => exact absurd (Heap.lt_size q) (Nat.not_lt.mpr ha)
  have hfreshH : ∀ {a : Addr}, s.heap.get? a = none → (hideAll s.heap [D]).get? a = none := fun {a} ha => by
    cases q : (hideAll s.heap [D]).get? a with
    | none => rfl
    | some o => rw [of_hideAll _ q] at ha; cases ha
  have nd : (((b :: ps).zip (Value.ref D :: vs)).map (·.1)).Nodup := by rw [zip_fst hlv]; exact hnd
  have hbps : b ∉ ps := (List.nodup_cons.mp hnd).1
  have hkl : ∀ y ∈ b :: ps, scope.names.lookup y = some .local := fun y hy => by simpa using List.all_eq_true.mp hkind y hy
  have hmemps : ∀ {y : Str} {v : Value}, (ps.zip vs).lookup y = some v → y ∈ ps := fun {y v} e1 => by
    have : y ∈ (ps.zip vs).map (·.1) := List.mem_map.mpr ⟨(y, v), mem_of_lookup e1, rfl⟩
    rwa [zip_fst (hlen.trans hv.symm)] at this
  have X : St (defCon w k (A.deeper (envOfC qual scope s.heap.objs.size fa cdv)) (hideAll s.heap [D]) s.heap.objs.size bs qual scope fa cdv) ⟨ps.zip args, some (b, D, ds), [D], false⟩ h₁ := by
    refine ⟨⟨⟨A, base, env :: outer, envOfC qual scope s.heap.objs.size fa cdv, mean, mg, mb, BG, Around.frames_deeper hA, rfl, hk, fun a o e => stay a o (K a o e), T.keeps stay⟩, cx.handled, ?_, ?_⟩, ⟨_, x.toInCall.ns, fun b o e => hk₁ b o (of_hideAll _ e), Nat.le_of_eq (hideAll_size _ _)⟩, fun b hb' => ?_, hk, rfl, rfl, ⟨_, x.toInCall.ns⟩, fun y a e => ⟨_, x.cell y a e⟩, fun y z a e1 e2 => ?_, fun b hb' => ?_, fun y dy e => ?_, (fun b hb' => ?_), ⟨?_, ⟨bs, rD.grow hk₁, fun a ha hm => ?_, fun a ha => ?_⟩, (fun z => nomatch z), hHD, fun hm => ?_, ?_⟩⟩
    · show A.depth + 1 + k < recursionLimit
      have := cx.depth; omega
    · show A.units + 3 + 8 * k + 64 < cLine
      have := cx.units; omega
    · refine hfreshH ?_
      rcases List.mem_cons.mp hb' with rfl | hb'
      · exact fresh_size _
      · obtain ⟨⟨n, a⟩, hm, rfl⟩ := List.mem_map.mp hb'
        exact hfresh (Nat.le_of_lt (x.above n a hm))
    · exact name_of_addr x.apart (mem_of_lookup e1) (mem_of_lookup e2)
    · rcases List.mem_cons.mp hb' with rfl | hb'
      · exact ns_data x.toInCall.ns
      · obtain ⟨⟨n, a⟩, hm, rfl⟩ := List.mem_map.mp hb'
        exact cell_data (x.cell n a (lookOf hm))
    · obtain ⟨v, bs', e1, r, hs'⟩ := zip_lookup rd e
      have hmem := hmemps e1
      have hne : (y == b) = false := by
        have : y ≠ b := fun q => hbps (q ▸ hmem)
        simpa using this
      have e1' : ((b :: ps).zip (Value.ref D :: vs)).lookup y = some v := by
        rw [List.zip_cons_cons, List.lookup_cons, hne]; exact e1
      exact ⟨v, bs', .loc _ (hkl y (.tail _ hmem)) x.toInCall.ns (bindL_at nd e1' (hkl y (.tail _ hmem))), r.grow hk₁, (fun a ha => nomatch hs' a ha), fun a ha => nomatch hs' a ha⟩
    · rw [List.mem_singleton.mp hb']
      cases rD with
      | list w1 w2 w3 w4 => exact ⟨_, _, _, hk₁ _ _ w1, w2, w3⟩
    · refine .loc _ (hkl b (.head _)) x.toInCall.ns (bindL_at nd ?_ (hkl b (.head _)))
      rw [List.zip_cons_cons, List.lookup_cons, beq_self_eq_true]
    · have := hbD a ha
      rcases List.mem_cons.mp hm with q | q
      · exact this q
      · exact this (List.mem_singleton.mp q)
    · rcases List.mem_cons.mp ha with rfl | ha
      · exact .inl hHD
      · exact .inr ha
    · have hlt := Heap.lt_size eD
      rcases List.mem_cons.mp hm with q | q
      · exact absurd hlt (by rw [q]; exact Nat.lt_irrefl _)
      · obtain ⟨⟨n, a⟩, hm', e⟩ := List.mem_map.mp q
        have := x.above n a hm'
        have e' : a = D := e
        rw [e'] at this
        exact absurd hlt (Nat.lt_asymm this)
    · cases q : (ps.zip args).lookup b with
      | none => rfl
      | some d =>
        obtain ⟨v, bs', e1, _⟩ := zip_lookup rd q
        exact absurd (hmemps e1) hbps
  have key : Wp (defCon w k (A.deeper (envOfC qual scope s.heap.objs.size fa cdv)) (hideAll s.heap [D]) s.heap.objs.size bs qual scope fa cdv) (execs (st :: rest) (defCon w k (A.deeper (envOfC qual scope s.heap.objs.size fa cdv)) (hideAll s.heap [D]) s.heap.objs.size bs qual scope fa cdv).env) (fun f s' => ∃ v, f = .ret v ∧ Q v s') { s with heap := h₁, toks := tk } := by
    refine wpAny_execs_cons (b1.2 { s with heap := h₁, toks := tk } _ X fun f s₁ k₁ q => ?_)
    obtain ⟨rfl, X₁⟩ := q
    have X₂ := X₁.drop (fun h => nomatch h)
    refine b2.2 s₁ _ X₂ fun f s₂ k₂ q => ?_
    obtain ⟨v, as, rfl, ⟨m₂, F₂⟩, rv, _⟩ := q
    obtain ⟨t, rfl, _⟩ := int_of rv
    obtain ⟨q1, ⟨as', r', q2a, q2b⟩, q3, q4, q5, q6⟩ := X₁.own
    have r₂ := X₂.keep k₂.keep r' (fun a ha hm => nomatch hm)
    obtain ⟨h', tk', rfl, _⟩ := k₁
    obtain ⟨h'', tk'', rfl, _⟩ := k₂
    refine ⟨_, rfl, hq t h'' tk'' as' (fun a o hne e => F₂.keep a o (hHk e hne)) r₂ fun a ha => ?_⟩
    have hne : a ≠ D := fun e => q2a a ha (by rw [e]; exact .head _)
    refine ⟨hne, ?_⟩
    rcases q2b a (.tail _ ha) with e | e
    · left
      cases q : s.heap.get? a with
      | none => rfl
      | some o =>
        have e' : (hideAll s.heap [D]).get? a = none := e
        rw [hHk q hne] at e'; cases e'
    · exact .inr e
  refine wpAny_mono key (fun f s' q => ?_) (fun _ _ q => q.elim)
  obtain ⟨v, rfl, q⟩ := q
  exact q
end
section
open PySem PySem.W PyProof.Rows PySem.Calls PySem.Spec
set_option maxRecDepth 100000
def bx (ns : List Int) (k : Nat) (s : Int) : List PyData := [.list (ns.map .int), .int k, .int s]
def drawn (ns : List Int) (k : Nat) (s m : Int) : Int := if k + 1 ≤ ns.length then (ns.getD k 0).fmod m else (7 * ((k + 1 : Nat) : Int) + ((k + 1 : Nat) : Int).fdiv 5 + s).fmod m
theorem fn_take (w : World) (ns : List Int) (k : Nat) (s m : Int) (hk : k ≤ 1000) (hl : ns.length ≤ 100) (hm : m ≠ 0) : FnT w "_law_take" 1 (bx ns k s) (bx ns (k + 1) s) [.int m] (drawn ns k s m) := by
  refine fnT_intro (fa := 210) (b := "box") (ps := ["many"]) rfl rfl rfl rfl (fun vs h => ?_) (by decide) (by decide) (by decide) rfl rfl rfl [("many", .int m)] rfl (fun A h₀ L S D => ?_) (fun A h₀ L S => ?_)
  · match vs, h with
    | [_, _], _ => rfl
  · refine Sx.as (sx_setitem (x := "box") (D := D) (ds₀ := bx ns k s) (ds := bx ns k s) (i := 1) (d := .int ((k : Int) + 1)) (ev_add (ev_itemo (i := 1) (ds := bx ns k s) (d := .int k) (by rfl) ev_int (by rfl) (by rfl) (by decide) (by decide)) ev_int) (by rfl) ev_int (by rfl) (by decide) (by exact (by decide : (1 : Int) < 3)) (by exact (by decide : 3 ≤ 2 ^ 24))) rfl
  · have hbx : ∀ i : Nat, nth (bx ns (k + 1) s) (i : Int) = (bx ns (k + 1) s)[i]? := fun i => nth_nat _ i
    have hz2 : (ns.map PyData.int).length < 2 ^ 60 := by rw [List.length_map]; omega
    unfold drawn
    by_cases h : k + 1 ≤ ns.length
    · rw [if_pos h]
      refine ex_ret (sx_if_t (Ts.as (ts_le (ev_item (i := 1) (ds := bx ns (k + 1) s) (d := .int (k + 1 : Nat)) (ev_name (by rfl)) ev_int (by rfl) (by decide) (by decide)) (ev_len (ds := ns.map .int) (ev_item (i := 0) (ds := bx ns (k + 1) s) (ev_name (by rfl)) ev_int (by rfl) (by decide) (by decide)) (by rfl) (by rfl) (by rfl) hz2)) (by rw [List.length_map]; simp; omega)) (ex_return (ev_mod (ev_ati (l := ns) (i := ((k + 1 : Nat) : Int) - 1) k (ev_item (i := 0) (ds := bx ns (k + 1) s) (ev_name (by rfl)) ev_int (by rfl) (by decide) (by decide)) (ev_sub (ev_item (i := 1) (ds := bx ns (k + 1) s) (d := .int (k + 1 : Nat)) (ev_name (by rfl)) ev_int (by rfl) (by decide) (by decide)) ev_int) (by omega) (by omega) (by omega)) (ev_name (by rfl)) hm)))
    · rw [if_neg h]
      refine ex_cons (sx_if_f (Ts.as (ts_le (ev_item (i := 1) (ds := bx ns (k + 1) s) (d := .int (k + 1 : Nat)) (ev_name (by rfl)) ev_int (by rfl) (by decide) (by decide)) (ev_len (ds := ns.map .int) (ev_item (i := 0) (ds := bx ns (k + 1) s) (ev_name (by rfl)) ev_int (by rfl) (by decide) (by decide)) (by rfl) (by rfl) (by rfl) hz2)) (by rw [List.length_map]; simp; omega)) ex_nil) ?_
      have m1 : IntMulOk 7 ((k + 1 : Nat) : Int) := small_mul (by decide) (by omega)
      have p1 : Builtin.divisionGoesByPylong ((k + 1 : Nat) : Int) 5 = false := PyProof.noPylong_of_log2 (by decide +kernel)
      exact ex_return (ev_mod (ev_add (ev_add (ev_mul ev_int (ev_item (i := 1) (ds := bx ns (k + 1) s) (d := .int (k + 1 : Nat)) (ev_name (by rfl)) ev_int (by rfl) (by decide) (by decide)) m1) (ev_fdiv (ev_item (i := 1) (ds := bx ns (k + 1) s) (d := .int (k + 1 : Nat)) (ev_name (by rfl)) ev_int (by rfl) (by decide) (by decide)) ev_int (by decide) p1)) (ev_item (i := 2) (ds := bx ns (k + 1) s) (d := .int s) (ev_name (by rfl)) ev_int (by rfl) (by decide) (by decide))) (ev_name (by rfl)) hm)
end
section
open PySem PySem.W PyProof.Rows PySem.Calls PySem.Spec
set_option maxRecDepth 100000
/-- a def that gives a new list -/
def FnF (w : World) (x : Str) (k : Nat) (ds es : List PyData) : Prop :=
  ∃ fa oc od fd sl, nsIn (KF w) mainGlobals x = some (some (.ref fa)) ∧ (KF w).lookup fa = some ⟨oc, od, .func fd, sl⟩ ∧
    ∀ A h₀ L s vs as (Q : Value → Shared → Prop), Cx w k A h₀ L → (∃ m, Fr h₀ L s.heap m) → RdAll s.heap vs ds as →
      (∀ D bs h' tk, (∀ b o, s.heap.get? b = some o → h'.get? b = some o) → s.heap.get? D = none → Rd h' (.ref D) (.list es) (D :: bs) → (∀ a ∈ bs, a ≠ D ∧ (s.heap.get? a = none ∨ a ∈ as)) → (∃ o, h'.get? D = some o ∧ o.dict = none) → Q (.ref D) { s with heap := h', toks := tk }) →
      wpAny (model prg w) A (call (.ref fa) vs) Q (fun _ _ => False) s
theorem fnF_intro {w : World} {x : Str} {fa : Addr} {oc : Value} {od : Option Addr} {osl : Array (Option Value)} {name qual : Str} {params : Arguments} {st : Stmt} {er : Expr} {rpos : Pos} {scope : Scope} {dV kV doc pm : Value} {an : Option Addr} {cdv ct : Value} {ps : List Str} {ds : List PyData} {es : List PyData} {k : Nat}
    (hn : nsIn (KF w) mainGlobals x = some (some (.ref fa))) (ho : (KF w).lookup fa = some ⟨oc, od, .func (fnX name qual params [st, .Return (some er) rpos] scope [] dV kV doc pm an cdv ct), osl⟩) (hcd : codeIn (KF w) cdv qual = true)
    (hlen : ps.length = ds.length) (hbind : ∀ vs : List Value, vs.length = ds.length → bindArgs (fnX name qual params [st, .Return (some er) rpos] scope [] dV kV doc pm an cdv ct) ⟨vs, []⟩ = pure (ps.zip vs))
    (hkind : (ps.all fun y => scope.names.lookup y == some .local || scope.names.lookup y == some .cell) = true) (hnd : ps.Nodup) (hcn : ((cellsFrom 0 scope.names []).map (·.1)).Nodup)
    (hco : scope.isCoroutine = false) (hgen : scope.isGenerator = false) (hk : scope.kind = .function)
    (σ₁ σ₂ : Sg) (hb1 : ∀ A h₀ L S, Sx (defCon w k A h₀ L S qual scope fa cdv) ⟨ps.zip ds, none, [], true⟩ st (.next σ₁)) (hb2 : ∀ A h₀ L S, EvF (defCon w k A h₀ L S qual scope fa cdv) σ₁ er σ₂ es) : FnF w x (k + 1) ds es := by
  refine ⟨fa, oc, od, _, osl, hn, ho, fun A h₀ L s vs as Q cx fr rd hq => ?_⟩
  obtain ⟨A₀, base, outer, env, mean, mg, mb, B, hA, hf, hke, K, T⟩ := cx.ex
  obtain ⟨m, F⟩ := fr
  have Ks : (KF w).In s.heap := fun a o e => F.keep a o (K a o e)
  obtain ⟨FG, BG, stay, lv⟩ := groundX (R := fun r s' => True) B F (News.nil (h₀ := h₀) (L := L)) hA hf hke
  have hv : vs.length = ds.length := rd.length
  have lookOf : ∀ {n : Nat} {y : Str} {a : Addr}, (y, a) ∈ cellsFrom n scope.names [] → (cellsFrom n scope.names []).lookup y = some a := fun {n y a} hm => lookup_of_mem_nodup (cellsFrom_names scope.names 0 n [] [] rfl ▸ hcn) hm
  refine wpAny_call (codeAny_call_function (by have := cx.depth; omega) (Ks _ _ ho) rfl hco hgen rfl (codeRec_of Ks hcd) ?_)
  rw [hbind vs hv]
  refine wpAny_pure (wpAny_newFunctionEnv_cells hk (kindsX (by
    rw [List.all_eq_true] at hkind ⊢
    intro z hz
    exact hkind z.1 (by rw [← zip_fst (hlen.trans hv.symm)]; exact List.mem_map.mpr ⟨z, hz, rfl⟩)) _) fun env' he s' x => ?_)
  subst he
  refine ⟨(T.nolimit.keeps F.keep).keeps x.toInCall.keep, codeAny_func ?_⟩
  obtain ⟨h₁, tk, rfl, hk₁⟩ := x.done
  have hbod := hb1 (A.deeper (envOfC qual scope s.heap.objs.size fa cdv)) s.heap s.heap.objs.size as
  have hbod2 := hb2 (A.deeper (envOfC qual scope s.heap.objs.size fa cdv)) s.heap s.heap.objs.size as
  have hfresh : ∀ {a : Addr}, s.heap.objs.size ≤ a → s.heap.get? a = none := fun {a} ha => by
    cases q : s.heap.get? a with
    | none => rfl
    | some o => exact absurd (Heap.lt_size q) (Nat.not_lt.mpr ha)
  have X : St (defCon w k (A.deeper (envOfC qual scope s.heap.objs.size fa cdv)) s.heap s.heap.objs.size as qual scope fa cdv) ⟨ps.zip ds, none, [], true⟩ h₁ := by
    refine ⟨⟨⟨A, base, env :: outer, envOfC qual scope s.heap.objs.size fa cdv, mean, mg, mb, BG, Around.frames_deeper hA, rfl, hk, Ks, T.keeps F.keep⟩, cx.handled, ?_, ?_⟩, ⟨_, x.toInCall.ns, hk₁, Nat.le_refl _⟩, fun b hb' => ?_, hk, rfl, rfl, ⟨_, x.toInCall.ns⟩, fun y a e => ⟨_, x.cell y a e⟩, fun y z a e1 e2 => ?_, fun b hb' => ?_, fun y dy e => ?_, (fun b hb' => nomatch hb'), trivial⟩
    · show A.depth + 1 + k < recursionLimit
      have := cx.depth; omega
    · show A.units + 3 + 8 * k + 64 < cLine
      have := cx.units; omega
    · rcases List.mem_cons.mp hb' with rfl | hb'
      · exact fresh_size _
      · obtain ⟨⟨n, a⟩, hm, rfl⟩ := List.mem_map.mp hb'
        exact hfresh (Nat.le_of_lt (x.above n a hm))
    · exact name_of_addr x.apart (mem_of_lookup e1) (mem_of_lookup e2)
    · rcases List.mem_cons.mp hb' with rfl | hb'
      · exact ns_data x.toInCall.ns
      · obtain ⟨⟨n, a⟩, hm, rfl⟩ := List.mem_map.mp hb'
        exact cell_data (x.cell n a (lookOf hm))
    · obtain ⟨v, bs, e1, r, hs⟩ := zip_lookup rd e
      have e1' : (ps.zip vs).lookup y = some v := e1
      have hmem : y ∈ ps := by
        have : y ∈ (ps.zip vs).map (·.1) := List.mem_map.mpr ⟨(y, v), mem_of_lookup e1', rfl⟩
        rwa [zip_fst (hlen.trans hv.symm)] at this
      have nd : ((ps.zip vs).map (·.1)).Nodup := by rw [zip_fst (hlen.trans hv.symm)]; exact hnd
      refine ⟨v, bs, ?_, r.grow hk₁, (fun a ha hm => nomatch hm), fun a ha => .inr (hs a ha)⟩
      have hky := List.all_eq_true.mp hkind y hmem
      rcases Bool.or_eq_true_iff.mp hky with q | q
      · have q' : scope.names.lookup y = some .local := by simpa using q
        exact .loc _ q' x.toInCall.ns (bindL_at nd e1' q')
      · have q' : scope.names.lookup y = some .cell := by simpa using q
        have hsome : ((cellsFrom (s.heap.objs.size + 1) scope.names []).lookup y).isSome = true := cellsFrom_some scope.names _ [] (.inl q')
        obtain ⟨a, ea⟩ := Option.isSome_iff_exists.mp hsome
        have hc := x.cell y a ea
        have e2 : bindC (envOfC qual scope s.heap.objs.size fa cdv).kindOf (ps.zip vs) (fun _ => none) y = some v := bindC_at nd e1' (fun z => by
          have z' : scope.names.lookup y = some .local := z
          rw [q'] at z'; cases z')
        have hc' : h₁.IsCell a (some v) := e2 ▸ hc
        exact .cel a (.inl q') ea hc'
  have key : Wp (defCon w k (A.deeper (envOfC qual scope s.heap.objs.size fa cdv)) s.heap s.heap.objs.size as qual scope fa cdv) (execs [st, .Return (some er) rpos] (defCon w k (A.deeper (envOfC qual scope s.heap.objs.size fa cdv)) s.heap s.heap.objs.size as qual scope fa cdv).env) (fun f s' => ∃ v, f = .ret v ∧ Q v s') { s with heap := h₁, toks := tk } := by
    refine wpAny_execs_cons (hbod.2 { s with heap := h₁, toks := tk } _ X fun f s₁ k₁ q => ?_)
    obtain ⟨rfl, X₁⟩ := q
    refine wpAny_execs_cons (wpAny_Return_some (hbod2.2 s₁ _ X₁ fun D bs s₂ h' tk' X₂ k₂ g n r f sr dn => ?_))
    obtain ⟨h1, t1, rfl, _⟩ := k₁
    obtain ⟨h2, t2, rfl, _⟩ := k₂
    refine ⟨_, rfl, hq D bs h' tk' (fun a o e => g a o (X₂.old e)) (X₂.new n) r (fun a ha => ?_) dn⟩
    refine ⟨fun e => ?_, sr a ha⟩
    obtain ⟨⟨o, eo⟩, _⟩ := f a ha
    rw [e, n] at eo; cases eo
  refine wpAny_mono key (fun f s' q => ?_) (fun _ _ q => q.elim)
  obtain ⟨v, rfl, q⟩ := q
  exact q
end
section
open PySem PySem.W PyProof.Rows PySem.Calls PySem.Spec
set_option maxRecDepth 100000
section
variable {c : Con} {σ σ' σ₁ σ₂ σ₃ : Sg} {e e₁ e₂ e₃ : Expr} {d d₁ d₂ : PyData} {p p₂ pos : Pos} {k : Nat} {x y z f : Str} {w : World} {o : Out} {st : Stmt} {ss rest body : List Stmt} {ds es : List PyData} {ρ : List (Str × PyData)}
theorem co_plain {px : Pos} {elt : Expr} {own : Option (Str × Addr × List PyData)} {av : List Addr} {pl : Bool} (hx : ρ.lookup x = none) (P : Place c x) (hno : (⟨ρ, own, av, pl⟩ : Sg).notOwn x) :
    ∀ (ds es : List PyData), ds.length = es.length → (∀ (i : Nat) (d e : PyData), ds[i]? = some d → es[i]? = some e → Ev c ⟨(x, d) :: ρ, own, av, pl⟩ elt ⟨(x, d) :: ρ, own, av, pl⟩ e) → Co c (.Name x px) elt ds es ⟨ρ, own, av, pl⟩ ⟨ρ, own, av, pl⟩ := by
  intro ds
  induction ds with
  | nil =>
    intro es hl _
    cases es with
    | nil => exact .nil
    | cons _ _ => cases hl
  | cons d ds ih =>
    intro es hl he
    cases es with
    | nil => cases hl
    | cons e es =>
      refine .cons (σ₁ := ⟨(x, d) :: ρ, own, av, pl⟩) (σ₂ := ⟨(x, d) :: ρ, own, av, pl⟩) (σ₂' := ⟨ρ, own, av, pl⟩) ?_ (he 0 d e rfl rfl) rfl rfl rfl (fun z dd q => ?_) (ih es (by simpa using hl) fun i d e h1 h2 => he (i + 1) d e h1 h2)
      · exact as_name (σ := ⟨ρ, own, av, pl⟩) P hno
      · have : z ≠ x := fun e => by rw [e, hx] at q; cases q
        have : (z == x) = false := by simpa using this
        show List.lookup z ((x, d) :: ρ) = some dd
        rw [List.lookup_cons, this]
        exact q
theorem ints_of {h : Heap} : ∀ {vs : List Value} {ns : List Int} {as : List Addr}, RdAll h vs (ns.map .int) as → IntsAre vs ns
  | [], [], _, _ => .nil
  | _ :: _, [], _, r => nomatch r
  | [], _ :: _, _, r => nomatch r
  | v :: vs, n :: ns, _, .cons r1 r2 => by
    obtain ⟨t, rfl, _⟩ := int_of r1
    exact .cons _ _ (ints_of r2)
theorem op_sum {ns : List Int} : Op w 0 (fun vs => call (.builtin "sum") vs) [.list (ns.map .int)] (.int ns.sum) := by
  intro A h₀ L s vs as Q cx fr rd h
  obtain ⟨v, rfl, r⟩ := one_inv rd
  obtain ⟨a, vs, bs, rfl, _, hl, ra⟩ := list_of r
  obtain ⟨xs, hx⟩ := (ints_of ra).allInts.items
  have hl' : s.heap.IsList a (intItems xs) := hx ▸ hl
  refine sum_intListG cx.handled hl' fun h' tk t' hk => ?_
  have e1 : ns = xs.toList.map (·.1) := by
    rw [← nums_intItems, ← hx]
    exact (show numsOf vs.toArray.toList = ns from (ints_of ra).numsOf).symm
  have e2 : preSum (numAt xs) xs.size = ns.sum := by
    rw [preSum_eq, List.take_of_length_le (by simp), e1]
  rw [e2]
  exact h _ [] h' tk hk (.int _ _) (fun _ ha => nomatch ha)
theorem ev_sum {ns : List Int} (h : Ev c σ e σ' (.list (ns.map .int))) (hk : c.env.kindOf "sum" = some .globalImplicit) (hn : nsIn (KF c.w) mainGlobals "sum" = some none) (he : starEach [e] c.env = [(false, eval e c.env)]) :
    Ev c σ (.Call (.Name "sum" p) [e] [] pos) σ' (.int ns.sum) :=
  ev_bi hk hn (by decide +kernel) op_sum (Nat.zero_le _) (evl_cons h evl_nil he) he (by rw [he]; rfl)
theorem co_gen {elt target : Expr} {own : Option (Str × Addr × List PyData)} {av : List Addr} {pl : Bool} : True := trivial
end
end
section
open PySem PySem.W PyProof.Rows PySem.Calls PySem.Spec
set_option maxRecDepth 100000
def nums (ns : List Int) : List Int := (ns.take 24).map fun i => (i.natAbs : Int)
theorem fn_box (w : World) (ns : List Int) (hl : ns.length ≤ 100) : FnF w "_law_box" 1 [.list (ns.map .int)] (bx (nums ns) 0 ((nums ns).sum.fmod 89)) := by
  have hnl : (nums ns).length ≤ 24 := by unfold nums; simp; omega
  refine fnF_intro (fa := 215) (ps := ["script"]) rfl rfl rfl rfl (fun vs h => ?_) (by decide) (by decide) (by decide) rfl rfl rfl ⟨[("numbers", .list ((nums ns).map .int)), ("script", .list (ns.map .int))], none, [], true⟩ ⟨[("numbers", .list ((nums ns).map .int)), ("script", .list (ns.map .int))], none, [], true⟩ (fun A h₀ L S => ?_) (fun A h₀ L S => ?_)
  · match vs, h with
    | [_], _ => rfl
  · have hz3 : (ns.map PyData.int).length ≤ 1000 := by rw [List.length_map]; omega
    refine sx_comp (own' := none) (pl' := true) (ρ := []) (ρ' := fun _ _ => []) (ds := (ns.map PyData.int).take 24) (es := (nums ns).map .int) (it_list (EvF.ev (evf_take (n := 24) (ev_name (by rfl)) ev_int hz3)) go_name) (by k_extra "mcomp") ?_ trivial (fun C D => ?_) (by k_extra "mloc") (by k_extra "mno")
    · simp; omega
    · refine co_plain (own := none) (ρ := []) (x := "number") (by rfl) (.loc rfl (List.Mem.head _)) trivial _ _ ?_ fun i d e q1 q2 => ?_
      · unfold nums; simp
      · unfold nums at q2
        rw [List.map_map, List.getElem?_map] at q2
        rw [← List.map_take, List.getElem?_map] at q1
        cases q : (ns.take 24)[i]? with
        | none => rw [q] at q1; cases q1
        | some t =>
          rw [q] at q1 q2
          obtain rfl := Option.some.inj q1
          obtain rfl := Option.some.inj q2
          exact ev_abs (ev_name (by rfl)) (by rfl) (by rfl) (by rfl)
  · refine evf_list (evl_cons (ev_name (by rfl)) (evl2 ev_int (ev_mod (ev_sum (ev_name (by rfl)) (by rfl) (by rfl) (by rfl)) ev_int (by decide)))) (by exact Nat.le_of_ble_eq_true rfl)
end
section
open PySem PySem.W PyProof.Rows PySem.Calls PySem.Spec
set_option maxRecDepth 100000
section
variable {c : Con} {σ σ' σ₁ σ₂ σ₃ : Sg} {e e₁ e₂ e₃ : Expr} {d d₁ d₂ : PyData} {p p₂ p₃ pos : Pos} {k : Nat} {x y z f : Str} {w : World} {o : Out} {st : Stmt} {ss rest body : List Stmt} {ds es : List PyData} {ρ : List (Str × PyData)}
theorem ex_own_call (ρ : List (Str × PyData)) (F : FnF c.w f k [d₁] ds) (h : Ev c σ e σ d₁) (P : Place c x) (ho : σ.own = none) (hsub : ∀ y d, ρ.lookup y = some d → σ.ρ.lookup y = some d) (hx : ρ.lookup x = none) (hr : ∀ D, Ex c ⟨ρ, some (x, D, ds), D :: σ.av, true⟩ rest (.ret d))
    (hk : c.env.kindOf f = some .globalImplicit := by rfl) (hn : k ≤ c.n := by exact Nat.le_of_ble_eq_true rfl) (he : starEach [e] c.env = [(false, eval e c.env)] := by rfl) (hd : (f == ("__debug__" : Str)) = false := by decide)
    (hs : swapsWith (.Call (.Name f p) [e] [] p₂) (some (.Name x p₃)) pos.line c.env = pure false := by rfl) : Ex c σ (.Assign [.Name x p₃] (.Call (.Name f p) [e] [] p₂) pos :: rest) (.ret d) := by
  obtain ⟨fa, oc, od, fd, sl, n1, n2, op⟩ := F
  have hl := evl1 h he
  refine ⟨trivial, fun s Q X hq => wpAny_execs_cons (wpAny_Assign_Name (wpAny_Call_NameR (name_fn X hk n1 (callWith_function (o := ⟨oc, od, .func fd, sl⟩) (fd := fd) ?_) hd)) hs)⟩
  have hl2 := hl.2 p₂ s
  rw [he] at hl2 ⊢
  refine evalArgs_plain (hl2 _ X fun vs as s₁ x₁ k₁ b₁ => ?_)
  obtain ⟨mg, mb, g', b', h1, h2, h3, K⟩ := glob_of x₁
  refine ⟨⟨K _ _ n2, rfl⟩, ?_⟩
  refine op c.A c.h₀ c.L s₁ vs as _ (x₁.cx.le hn) x₁.fr b₁.rd fun D bs h' tk g n r fb dn => ?_
  obtain ⟨l, us, cs, e1, e2, hl', ra⟩ := list_of r
  cases e1; cases e2
  have X₂ := x₁.avoid g n hl' ho
  have hoffa : ∀ a ∈ bs, a ∉ σ.av := fun a ha hm => by
    rcases (fb a ha).2 with q | q
    · exact x₁.offp q (List.mem_append_right _ hm)
    · exact b₁.off a q (List.mem_append_right _ hm)
  refine store_own (s := { s₁ with heap := h', toks := tk }) (σ := ⟨σ.ρ, none, D :: σ.av, σ.pl⟩) P X₂ rfl (List.mem_cons_self ..) r (fun a ha hm => ?_) (fun a ha => (fb a ha).2.elim (fun q => .inl (x₁.new q)) fun q => b₁.src a q) (x₁.new n) (x₁.wnot n) dn (fun y d q => ⟨fun e => by rw [e, hx] at q; (exact nomatch q), hsub y d q⟩) fun s₃ X₃ k₃ => ?_
  · rcases List.mem_cons.mp hm with q | hm
    · exact (fb a ha).1 q
    · exact hoffa a ha hm
  · refine (hr D).2 s₃ Q X₃ fun fl s₄ k₄ q => hq fl s₄ ?_ q
    obtain ⟨a1, t1, rfl, K1⟩ := k₁
    obtain ⟨a3, t3, rfl, K3⟩ := k₃
    obtain ⟨a4, t4, rfl, K4⟩ := k₄
    have f0 : σ.fp = [] := by unfold Sg.fp; rw [ho]
    refine ⟨a4, t4, rfl, fun b ob eb hb hf => ?_⟩
    have q1 := K1 b ob eb hb hf
    have q2 := g b ob q1
    have q3 := K3 b ob q2 hb (fun hm => nomatch hm)
    refine K4 b ob q3 hb fun hm => ?_
    have : b = D := List.mem_singleton.mp hm
    subst this
    exact nomatch q1.symm.trans n
theorem ex_consE {α : Type} {q : α → Prop} {σf : α → Sg} (h1 : ∃ t, q t ∧ Sx c σ st (.next (σf t))) (h2 : ∀ t, q t → Ex c (σf t) rest o) : Ex c σ (st :: rest) o := by
  obtain ⟨t, ht, h⟩ := h1
  exact ex_cons h (h2 t ht)
theorem sx_weak (h : Sx c σ st (.next σ₁)) (ho : σ₂.own = σ₁.own) (ha : σ₂.av = σ₁.av) (hp : σ₂.pl = σ₁.pl) (hs : ∀ y d, σ₂.ρ.lookup y = some d → σ₁.ρ.lookup y = some d) : Sx c σ st (.next σ₂) := by
  have e : σ₂.fp = σ₁.fp := by unfold Sg.fp; rw [ho]
  refine ⟨fun a ha => h.1 a (e ▸ ha), fun s Q X hq => h.2 s Q X fun f s' k ⟨e1, X'⟩ => hq f s' k ⟨e1, X'.sub ho ha hp hs⟩⟩
theorem co_step {target elt : Expr} {D : Addr} {av : List Addr} (bf : Nat → List PyData) (g : Nat → PyData) (P : Place c x) {px : Pos} (b : Str) (hb : (b == x) = false)
    (he : ∀ k d, Ev c ⟨[(x, d)], some (b, D, bf k), av, false⟩ elt ⟨[(x, d)], some (b, D, bf (k + 1)), av, false⟩ (g k)) :
    ∀ (ds : List PyData) (k : Nat), Co c (.Name x px) elt ds ((List.range ds.length).map fun i => g (k + i)) ⟨[], some (b, D, bf k), av, false⟩ ⟨[], some (b, D, bf (k + ds.length)), av, false⟩ := by
  intro ds
  induction ds with
  | nil => intro k; exact .nil
  | cons d ds ih =>
    intro k
    have e1 : ((List.range (d :: ds).length).map fun i => g (k + i)) = g k :: (List.range ds.length).map fun i => g (k + 1 + i) := by
      rw [List.length_cons, List.range_succ_eq_map, List.map_cons, List.map_map]
      congr 1
      refine List.map_congr_left fun i _ => ?_
      show g (k + (i + 1)) = _
      congr 1
      omega
    have e2 : k + (d :: ds).length = k + 1 + ds.length := by simp; omega
    rw [e1, e2]
    refine .cons (σ₁ := ⟨[(x, d)], some (b, D, bf k), av, false⟩) (σ₂ := ⟨[(x, d)], some (b, D, bf (k + 1)), av, false⟩) (σ₂' := ⟨[], some (b, D, bf (k + 1)), av, false⟩) ?_ (he k d) rfl rfl rfl (fun _ _ q => nomatch q) (ih (k + 1))
    exact as_name (σ := ⟨[], some (b, D, bf k), av, false⟩) P hb
end
end
section
open PySem PySem.W PyProof.Rows PySem.Calls PySem.Spec
set_option maxRecDepth 100000
def ci (ts : List Int) : List Rat := ts.map fun t : Int => (t : Rat)
structure TimesOK (a b : List Rat) : Prop where
  oa : AllOK a
  ob : AllOK b
  m : ∀ n, n < min a.length b.length → ∀ i, i ≤ n + 1 → OK (mx a b n i)
structure AfterOK (ts : List Int) (a b : Nat) (top bottom one other : List Rat) : Prop where
  sol : solv ts a b = true
  l1 : one.length ≤ a + 1
  l2 : other.length ≤ b + 1
  h1 : other.take 1 = [1]
  last : co other (other.length - 1) ≠ 0
  lone : one = [] ∨ co one (one.length - 1) ≠ 0
  t : TimesOK (cutR other (a + b + 1)) (ci ts)
  te : smulR (cutR other (a + b + 1)) (ci ts) = cutR one (a + b + 1)
  f0 : co (cutR other (a + b + 1)) 0 ≠ 0
  f1 : SinvOK (cutR other (a + b + 1))
  f2 : SmulOK (cutR one (a + b + 1)) (sv (cutR other (a + b + 1)) (a + b + 1))
  fe : fser one other (a + b + 1) = ci ts
  w1 : top ≠ [] → TimesOK (cutR one (2 * (a + b + 1))) (cutR bottom (2 * (a + b + 1)))
  w2 : top ≠ [] → TimesOK (cutR other (2 * (a + b + 1))) (cutR top (2 * (a + b + 1)))
  we : top ≠ [] → smulR (cutR one (2 * (a + b + 1))) (cutR bottom (2 * (a + b + 1))) = smulR (cutR other (2 * (a + b + 1))) (cutR top (2 * (a + b + 1)))
structure LawOK (ts : List Int) (a b : Nat) (top bottom : List Rat) : Prop where
  len : ts.length = a + b + 1
  small : ∀ t ∈ ts, t.natAbs < 2 ^ 30
  zt : top.length ≤ 10
  zb : bottom.length ≤ 10
  pok : PadeOK (ci ts) a b
  none : pade (ci ts) a b = none → top = [] ∧ solv ts a b = false
  some : ∀ one other, pade (ci ts) a b = some (one, other) → AfterOK ts a b top bottom one other
structure DivOK (top bottom : List Rat) (n : Nat) (ts : List Int) : Prop where
  ob : AllOK (cutR bottom n)
  ov : ∀ k, k ≤ n → AllOK (dv (cutR top n) (cutR bottom n) k)
  ot : ∀ k i, k < n → i ≤ k → OK (dst (cutR top n) (cutR bottom n) (dv (cutR top n) (cutR bottom n) k) k i)
  e : dv (cutR top n) (cutR bottom n) n = ci ts
structure LawMath : Prop where
  plain : ∀ (a b : Nat) (ts : List Int), a ≤ 2 → b ≤ 2 → ts.length = a + b + 1 → (∀ t ∈ ts, t.natAbs ≤ 2) → LawOK ts a b [] [1]
  frac : ∀ (a b : Nat) (top bot : List Int), a ≤ 2 → b ≤ 2 → top.length = a + 1 → bot.length = b → (∀ t ∈ top, t.natAbs ≤ 3) → (∀ t ∈ bot, t.natAbs ≤ 2) → ∃ ts : List Int, DivOK (ci top) (ci (1 :: bot)) (a + b + 1) ts ∧ LawOK ts a b (ci top) (ci (1 :: bot))
end
section
open PySem PySem.W PyProof.Rows PySem.Calls PySem.Spec
set_option maxRecDepth 100000
theorem rdints {h : Heap} : ∀ {vs : List Value} {ns : List Int}, IntsAre vs ns → RdAll h vs (ns.map .int) []
  | _, _, .nil => .nil
  | _, _, .cons i t r => .cons (.int i t) (rdints r)
theorem law_end {w : World} {s₁ : Shared} {h₁ : Heap} {tk₁ : Nat} {fa a : Addr} {cdv : Value} {qual : Str} {scope : Scope} {body : List Stmt} {mean : ExcName → Option Value} {mg mb m : Str → Option Value} {o : Obj} {vs : List Value} {ns : List Int} {cv : Option Value} {Q : Flow → Shared → Prop} {E : Value → Shared → Prop}
    (K : Below callerA s₁.heap [] s₁.heap) (KX : (KF w).In s₁.heap) (T : Top VW LW mean mg mb s₁.heap) (F : Fr s₁.heap s₁.heap.objs.size h₁ m) (N : News s₁.heap s₁.heap.objs.size h₁ [(s₁.heap.objs.size + 1, o)]) (hc : o.data = .cell cv)
    (hm : m "script" = some (.ref a)) (hL : s₁.heap.IsList a vs.toArray) (hI : IntsAre vs ns) (hcells : cellsFrom (s₁.heap.objs.size + 1) scope.names [] = [(("box" : Str), s₁.heap.objs.size + 1)]) (hkind : scope.kind = .function) (hks : scope.names.lookup ("script" : Str) = some .local)
    (hx : ∀ A h₀ L S, Ex (defCon w 20 A h₀ L S qual scope fa cdv) ⟨[("script", .list (ns.map .int))], none, [], true⟩ body (.ret (.bool true)))
    (hQ : ∀ h' tk m', Fr s₁.heap s₁.heap.objs.size h' m' → Q (.ret (.bool true)) { s₁ with heap := h', toks := tk }) :
    wpAny (model prg w) (callerA.deeper (envOfC qual scope s₁.heap.objs.size fa cdv)) (execs body (envOfC qual scope s₁.heap.objs.size fa cdv)) Q E { s₁ with heap := h₁, toks := tk₁ } := by
  have hb := hx (callerA.deeper (envOfC qual scope s₁.heap.objs.size fa cdv)) s₁.heap s₁.heap.objs.size [a]
  have hfresh : ∀ {a : Addr}, s₁.heap.objs.size ≤ a → s₁.heap.get? a = none := fun {a} ha => by
    cases q : s₁.heap.get? a with
    | none => rfl
    | some o => exact absurd (Heap.lt_size q) (Nat.not_lt.mpr ha)
  have hget : h₁.get? (s₁.heap.objs.size + 1) = some o := N.get (List.mem_singleton.mpr rfl)
  have ecell : ∀ y b, (envOfC qual scope s₁.heap.objs.size fa cdv).cells.lookup y = some b → y = "box" ∧ b = s₁.heap.objs.size + 1 := fun y b e => by
    have e' : (cellsFrom (s₁.heap.objs.size + 1) scope.names []).lookup y = some b := e
    rw [hcells, List.lookup_cons] at e'
    cases q : y == ("box" : Str) with
    | true => rw [q] at e'; exact ⟨eq_of_beq q, (Option.some.inj e').symm⟩
    | false => rw [q] at e'; cases e'
  have X : St (defCon w 20 (callerA.deeper (envOfC qual scope s₁.heap.objs.size fa cdv)) s₁.heap s₁.heap.objs.size [a] qual scope fa cdv) ⟨[("script", .list (ns.map .int))], none, [], true⟩ h₁ := by
    refine ⟨⟨⟨callerA, s₁.heap, [], envOfC qual scope s₁.heap.objs.size fa cdv, mean, mg, mb, K, Around.frames_deeper rfl, rfl, hkind, KX, T⟩, rfl, ?_, ?_⟩, ⟨_, F⟩, fun b hb' => ?_, hkind, rfl, rfl, ⟨_, F.ns⟩, fun y b e => ?_, fun y z b e1 e2 => ?_, fun b hb' => ?_, fun y dy e => ?_, (fun b hb' => nomatch hb'), trivial⟩
    · show 301 + 1 + 20 < recursionLimit
      decide
    · show 4 + 3 + 8 * 20 + 64 < cLine
      decide +kernel
    · have hb'' : b ∈ s₁.heap.objs.size :: (cellsFrom (s₁.heap.objs.size + 1) scope.names []).map (·.2) := hb'
      rw [hcells] at hb''
      refine hfresh ?_
      rcases List.mem_cons.mp hb'' with q | q
      · exact Nat.le_of_eq q.symm
      · have q2 : b = s₁.heap.objs.size + 1 := List.mem_singleton.mp q
        exact q2 ▸ Nat.le_succ _
    · obtain ⟨rfl, rfl⟩ := ecell y b e
      exact ⟨cv, o, hget, hc⟩
    · rw [(ecell y b e1).1, (ecell z b e2).1]
    · have hb'' : b ∈ s₁.heap.objs.size :: (cellsFrom (s₁.heap.objs.size + 1) scope.names []).map (·.2) := hb'
      rw [hcells] at hb''
      rcases List.mem_cons.mp hb'' with q | q
      · subst q; exact ns_data F.ns
      · have q2 : b = s₁.heap.objs.size + 1 := List.mem_singleton.mp q
        subst q2
        exact ⟨o, hget, fun xs n e => by rw [hc] at e; cases e⟩
    · have e' : List.lookup y [(("script" : Str), PyData.list (ns.map .int))] = some dy := e
      rw [List.lookup_cons] at e'
      cases q : y == ("script" : Str) with
      | false => rw [q] at e'; cases e'
      | true =>
        rw [q] at e'
        obtain rfl := Option.some.inj e'
        obtain rfl := eq_of_beq q
        have hLd : Rd s₁.heap (.ref a) (.list (ns.map .int)) [a] := by
          obtain ⟨o', e1, e2, n, e3⟩ := hL
          exact Rd.list e1 e2 e3 (by simpa using rdints hI)
        exact ⟨_, [a], .loc m hks F.ns hm, hLd.grow F.keep, (fun a ha hm => nomatch hm), fun b hb' => .inr hb'⟩
  refine wpAny_mono (hb.2 { s₁ with heap := h₁, toks := tk₁ } Q X fun f s' kp fin => ?_) (fun f s' q => q) (fun _ _ q => q.elim)
  obtain ⟨v, bs, rfl, ⟨m', F'⟩, r, src⟩ := fin
  obtain ⟨h₂, t₂, rfl, k₂⟩ := kp
  cases r
  exact hQ h₂ t₂ m' F'
end
section

/-! coefficients -/
theorem co_out {l : List Rat} {n : Nat} (h : l.length ≤ n) : co l n = 0 := by
  unfold co
  rw [List.getD_eq_getElem?_getD, List.getElem?_eq_none h]
  rfl
theorem co_nil (n : Nat) : co [] n = 0 := co_out (Nat.zero_le _)
theorem co_take (l : List Rat) (k n : Nat) : co (l.take k) n = if n < k then co l n else 0 := by
  unfold co
  rw [List.getD_eq_getElem?_getD, List.getD_eq_getElem?_getD, List.getElem?_take]
  split <;> rfl
theorem co_range (n : Nat) (f : Nat → Rat) (i : Nat) : co ((List.range n).map f) i = if i < n then f i else 0 := by
  unfold co
  rw [List.getD_eq_getElem?_getD, List.getElem?_map]
  split
  · rename_i h
    rw [List.getElem?_range h]; rfl
  · rename_i h
    rw [List.getElem?_eq_none (by simpa using h)]; rfl
theorem tl_zero (l : List Rat) : ∀ n i, tl l n ≤ i → i < n → co l i = 0
  | 0, i, _, h => absurd h (Nat.not_lt_zero _)
  | n + 1, i, h1, h2 => by
    unfold tl at h1
    split at h1
    · rename_i h
      by_cases e : i = n
      · rw [e]; exact h
      · exact tl_zero l n i h1 (by omega)
    · omega
theorem tl_last (l : List Rat) : ∀ n, 0 < tl l n → co l (tl l n - 1) ≠ 0
  | 0, h => absurd h (Nat.lt_irrefl _)
  | n + 1, h => by
    by_cases e : co l n = 0
    · have q : tl l (n + 1) = tl l n := by show (if co l n = 0 then tl l n else n + 1) = _; rw [if_pos e]
      rw [q] at h ⊢
      exact tl_last l n h
    · have q : tl l (n + 1) = n + 1 := by show (if co l n = 0 then tl l n else n + 1) = _; rw [if_neg e]
      rw [q]
      exact e
theorem co_trim (l : List Rat) (n : Nat) : co (trim l) n = co l n := by
  unfold trim
  rw [co_take]
  split
  · rfl
  · rename_i h
    by_cases q : n < l.length
    · exact (tl_zero l l.length n (by omega) q).symm
    · exact (co_out (by omega)).symm
def Nzl (l : List Rat) : Prop := 0 < l.length → co l (l.length - 1) ≠ 0
theorem nz_trim (l : List Rat) : Nzl (trim l) := by
  intro h
  rw [co_trim, trim_length]
  rw [trim_length] at h
  exact tl_last l _ h
theorem co_padd (a b : List Rat) (n : Nat) : co (padd a b) n = co a n + co b n := by
  unfold padd
  rw [co_range]
  split
  · rfl
  · rename_i h
    rw [co_out (l := a) (by omega), co_out (l := b) (by omega)]
    exact (Rat.add_zero 0).symm
theorem co_map (f : Rat → Rat) (h : f 0 = 0) (l : List Rat) (n : Nat) : co (l.map f) n = f (co l n) := by
  unfold co
  rw [List.getD_eq_getElem?_getD, List.getD_eq_getElem?_getD, List.getElem?_map]
  cases l[n]? with
  | none => exact h.symm
  | some x => rfl
theorem co_qneg (a : List Rat) (n : Nat) : co (qneg a) n = -co a n := co_map _ (by decide) a n
theorem co_qadd (a b : List Rat) (n : Nat) : co (qadd a b) n = co a n + co b n := by unfold qadd; rw [co_trim, co_padd]
theorem co_qsub (a b : List Rat) (n : Nat) : co (qsub a b) n = co a n - co b n := by unfold qsub; rw [co_qadd, co_qneg, Rat.sub_eq_add_neg]
theorem co_qscale (p : List Rat) (r : Rat) (n : Nat) : co (qscale p r) n = co p n * r := by
  unfold qscale
  split
  · rename_i h; rw [co_nil, h, Rat.mul_zero]
  · rw [co_map _ (Rat.zero_mul r)]
def sh (k : Nat) (g : Nat → Rat) (n : Nat) : Rat := if n < k then 0 else g (n - k)
theorem sh_zero (g : Nat → Rat) (n : Nat) : sh 0 g n = g n := rfl
theorem sh_sh (j k : Nat) (g : Nat → Rat) (n : Nat) : sh j (sh k g) n = sh (j + k) g n := by
  unfold sh
  by_cases h : n < j
  · rw [if_pos h, if_pos (by omega)]
  · rw [if_neg h]
    by_cases h2 : n - j < k
    · rw [if_pos h2, if_pos (by omega)]
    · rw [if_neg h2, if_neg (by omega)]
      congr 1
      omega
theorem sh_at {k m : Nat} {g : Nat → Rat} {n : Nat} (h : n = m + k) : sh k g n = g m := by
  unfold sh
  rw [if_neg (by omega)]
  congr 1
  omega
theorem sh_lt {k : Nat} {g : Nat → Rat} {n : Nat} (h : n < k) : sh k g n = 0 := if_pos h
theorem co_qraise (p : List Rat) (k n : Nat) : co (qraise p k) n = sh k (co p) n := by
  unfold qraise sh
  split
  · rename_i h; rw [h, co_nil]; split <;> rw [] <;> rfl
  · unfold co
    rw [List.getD_eq_getElem?_getD]
    split
    · rename_i h
      rw [List.getElem?_append_left (by simpa using h), List.getElem?_replicate, if_pos h]
      rfl
    · rename_i h
      rw [List.getElem?_append_right (by simpa using h), List.length_replicate, List.getD_eq_getElem?_getD]
theorem co_cutR (a : List Rat) (k n : Nat) : co (cutR a k) n = if n < k then co a n else 0 := by
  unfold cutR co
  rw [List.getD_eq_getElem?_getD, List.getD_eq_getElem?_getD]
  by_cases h : n < (a.take k).length
  · rw [List.getElem?_append_left h, List.getElem?_take]
    rw [List.length_take] at h
    rw [if_pos (by omega), if_pos (by omega)]
  · rw [List.getElem?_append_right (by omega), List.getElem?_replicate]
    rw [List.length_take] at h ⊢
    by_cases h2 : n < k
    · rw [if_pos h2, List.getElem?_eq_none (by omega)]
      split <;> rfl
    · rw [if_neg h2, if_neg (by omega)]
      rfl
theorem co_ci (ts : List Int) (n : Nat) : co (ci ts) n = ((ts.getD n 0 : Int) : Rat) := by
  unfold co ci
  rw [List.getD_eq_getElem?_getD, List.getD_eq_getElem?_getD, List.getElem?_map]
  cases ts[n]? with
  | none => rfl
  | some x => rfl
theorem co_ext {a b : List Rat} (hl : a.length = b.length) (h : ∀ n, n < a.length → co a n = co b n) : a = b := by
  refine List.ext_getElem hl fun n h1 h2 => ?_
  have q := h n h1
  unfold co at q
  rw [List.getD_eq_getElem?_getD, List.getD_eq_getElem?_getD, List.getElem?_eq_getElem h1, List.getElem?_eq_getElem h2] at q
  exact q
theorem mem_co {l : List Rat} {x : Rat} (h : x ∈ l) : ∃ n, n < l.length ∧ co l n = x := by
  obtain ⟨n, hn, e⟩ := List.getElem_of_mem h
  refine ⟨n, hn, ?_⟩
  unfold co
  rw [List.getD_eq_getElem?_getD, List.getElem?_eq_getElem hn]
  exact e

/-! sizes -/
theorem sm_zero {B : Nat} (h : 1 ≤ B) : Sm B 0 := Sm.le (A := 1) ⟨by decide, by decide⟩ h
theorem sm_one {B : Nat} (h : 1 ≤ B) : Sm B 1 := Sm.le (A := 1) ⟨by decide, by decide⟩ h
theorem sm_pos {B : Nat} {x : Rat} (h : Sm B x) : 1 ≤ B := by
  rcases Nat.eq_zero_or_pos B with q | q
  · subst q
    have := h.2
    have := x.den_pos
    omega
  · exact q
theorem sm_divInt {n d : Int} {B : Nat} (hd : d ≠ 0) (h1 : n.natAbs < 2 ^ B) (h2 : d.natAbs < 2 ^ B) : Sm B (Rat.divInt n d) := by
  obtain ⟨g0, e1, e2⟩ := gd_spec n d hd
  generalize gd n d = g at *
  have hg : 1 ≤ g.natAbs := by omega
  constructor
  · refine Nat.lt_of_le_of_lt ?_ h1
    rw [e1, Int.natAbs_mul, ← e1]
    exact Nat.le_mul_of_pos_right _ hg
  · refine Nat.lt_of_le_of_lt ?_ h2
    have e3 : d.natAbs = (Rat.divInt n d).den * g.natAbs := by
      have := congrArg Int.natAbs e2
      rwa [Int.natAbs_mul, Int.natAbs_natCast] at this
    rw [e3]
    exact Nat.le_mul_of_pos_right _ hg
theorem sm_neg {B : Nat} {x : Rat} (h : Sm B x) : Sm B (-x) := ⟨by rw [Rat.neg_num, Int.natAbs_neg]; exact h.1, h.2⟩
theorem lt_mul {a b A B : Nat} (h1 : a < 2 ^ A) (h2 : b < 2 ^ B) : a * b < 2 ^ (A + B) := by
  rw [Nat.pow_add]
  exact Nat.mul_lt_mul'' h1 h2
theorem sm_mul {A B : Nat} {x y : Rat} (h1 : Sm A x) (h2 : Sm B y) : Sm (A + B) (x * y) := by
  rw [← mul_eq]
  refine sm_divInt (Int.mul_ne_zero (den_ne x) (den_ne y)) ?_ ?_
  · rw [Int.natAbs_mul]; exact lt_mul h1.1 h2.1
  · rw [Int.natAbs_mul, Int.natAbs_natCast, Int.natAbs_natCast]; exact lt_mul h1.2 h2.2
theorem sm_add {A B : Nat} {x y : Rat} (h1 : Sm A x) (h2 : Sm B y) : Sm (A + B + 1) (x + y) := by
  rw [← add_eq]
  refine sm_divInt (Int.mul_ne_zero (den_ne x) (den_ne y)) ?_ ?_
  · have q1 := lt_mul h1.1 h2.2
    have q2 := lt_mul h2.1 h1.2
    rw [Nat.add_comm B A] at q2
    have := Int.natAbs_add_le (x.num * y.den) (y.num * x.den)
    rw [Int.natAbs_mul, Int.natAbs_mul, Int.natAbs_natCast, Int.natAbs_natCast] at this
    rw [Nat.pow_succ]
    omega
  · rw [Int.natAbs_mul, Int.natAbs_natCast, Int.natAbs_natCast, Nat.pow_succ]
    have := lt_mul h1.2 h2.2
    omega
theorem sm_sub {A B : Nat} {x y : Rat} (h1 : Sm A x) (h2 : Sm B y) : Sm (A + B + 1) (x - y) := by
  rw [Rat.sub_eq_add_neg]
  exact sm_add h1 (sm_neg h2)
theorem sm_inv {A : Nat} {x : Rat} (h1 : Sm A x) : Sm A x⁻¹ := by
  by_cases q : x = 0
  · rw [q, Rat.inv_zero]; exact sm_zero (sm_pos h1)
  · rw [← inv_eq]
    exact sm_divInt (num_ne q) (by rw [Int.natAbs_natCast]; exact h1.2) h1.1
theorem sm_div {A B : Nat} {x y : Rat} (h1 : Sm A x) (h2 : Sm B y) : Sm (A + B) (x / y) := by
  rw [Rat.div_def]
  exact sm_mul h1 (sm_inv h2)
theorem sm_int {B : Nat} {t : Int} (hB : 1 ≤ B) (h : t.natAbs < 2 ^ B) : Sm B (t : Rat) := ⟨h, by
  show 1 < 2 ^ B
  exact Nat.lt_of_lt_of_le (by decide) (Nat.pow_le_pow_right (by decide) hB)⟩
def AS (B : Nat) (l : List Rat) : Prop := ∀ n, Sm B (co l n)
theorem AS.le {A B : Nat} {l : List Rat} (h : AS A l) (hb : A ≤ B) : AS B l := fun n => (h n).le hb
theorem AS.pos {B : Nat} {l : List Rat} (h : AS B l) : 1 ≤ B := sm_pos (h 0)
theorem AS.all {B : Nat} {l : List Rat} (h : AS B l) (hb : B ≤ 4000) : AllOK l := fun x hx => by
  obtain ⟨n, _, e⟩ := mem_co hx
  rw [← e]
  exact (h n).ok hb
theorem AS.mem {B : Nat} {l : List Rat} (h : AS B l) {x : Rat} (hx : x ∈ l) : Sm B x := by
  obtain ⟨n, _, e⟩ := mem_co hx
  rw [← e]
  exact h n
theorem AS.trim {B : Nat} {l : List Rat} (h : AS B l) : AS B (Mine.trim l) := fun n => by rw [co_trim]; exact h n
theorem AS.take {B : Nat} {l : List Rat} (h : AS B l) (k : Nat) : AS B (l.take k) := fun n => by
  rw [co_take]
  split
  · exact h n
  · exact sm_zero h.pos
theorem AS.neg {B : Nat} {l : List Rat} (h : AS B l) : AS B (qneg l) := fun n => by rw [co_qneg]; exact sm_neg (h n)
theorem AS.scale {B C : Nat} {l : List Rat} {r : Rat} (h : AS B l) (hr : Sm C r) : AS (B + C) (qscale l r) := fun n => by rw [co_qscale]; exact sm_mul (h n) hr
theorem AS.raise {B : Nat} {l : List Rat} (h : AS B l) (k : Nat) : AS B (qraise l k) := fun n => by
  rw [co_qraise]
  unfold sh
  split
  · exact sm_zero h.pos
  · exact h _
theorem AS.padd {A B : Nat} {a b : List Rat} (h1 : AS A a) (h2 : AS B b) : AS (A + B + 1) (Mine.padd a b) := fun n => by rw [co_padd]; exact sm_add (h1 n) (h2 n)
theorem AS.sub {A B : Nat} {a b : List Rat} (h1 : AS A a) (h2 : AS B b) : AS (A + B + 1) (qsub a b) := fun n => by rw [co_qsub]; exact sm_sub (h1 n) (h2 n)
theorem AS.cut {B : Nat} {l : List Rat} (h : AS B l) (k : Nat) : AS B (cutR l k) := fun n => by
  rw [co_cutR]
  split
  · exact h n
  · exact sm_zero h.pos
theorem AS.set {B : Nat} {l : List Rat} {r : Rat} (h : AS B l) (hr : Sm B r) (k : Nat) : AS B (l.set k r) := fun n => by
  by_cases q : k = n
  · subst q
    by_cases q2 : k < l.length
    · rw [co_set q2]; exact hr
    · rw [List.set_eq_of_length_le (by omega)]; exact h k
  · rw [co_set_ne q]; exact h n
theorem as_one : AS 1 [1] := fun n => by
  cases n with
  | zero => exact sm_one (Nat.le_refl _)
  | succ n => rw [co_out (by simp)]; exact sm_zero (Nat.le_refl _)
theorem as_nil : AS 1 [] := fun n => by rw [co_nil]; exact sm_zero (Nat.le_refl _)
theorem as_zeros (k : Nat) : AS 1 (List.replicate k 0) := fun n => by
  unfold co
  rw [List.getD_eq_getElem?_getD, List.getElem?_replicate]
  split <;> exact sm_zero (Nat.le_refl _)
theorem co_zeros (k n : Nat) : co (List.replicate k 0) n = 0 := by
  unfold co
  rw [List.getD_eq_getElem?_getD, List.getElem?_replicate]
  split <;> rfl
end
section

def T (f g : Nat → Rat) (n : Nat) : Rat := f 0 * g n + f 1 * sh 1 g n + f 2 * sh 2 g n

/-! one step of the division -/
theorem qraise_len {l : List Rat} {n m : Nat} (h : l.length ≤ m) : (qraise l n).length ≤ n + m := by
  have := @qraise_le l n
  omega
theorem dstep_len (b r f : List Rat) (h : b.length ≤ r.length) (h0 : 0 < b.length) : (dstep b (r, f)).1.length ≤ r.length - 1 := by
  show (qsub (r.take (r.length - 1)) (dlow b r)).length ≤ _
  refine Nat.le_trans qsub_le ?_
  have h1 : (r.take (r.length - 1)).length = r.length - 1 := by rw [List.length_take]; omega
  have h2 : (dlow b r).length ≤ (r.length - b.length) + (b.length - 1) := by
    unfold dlow
    refine qraise_len (Nat.le_trans qscale_le ?_)
    rw [List.length_take]; omega
  omega
theorem dstep_nz (b r f : List Rat) : Nzl (dstep b (r, f)).1 := nz_trim _
theorem dstep_co (b r f : List Rat) (h : b.length ≤ r.length) (h0 : 0 < b.length) (hl : co b (b.length - 1) ≠ 0) (n : Nat) :
    co r n = dnum b r * sh (r.length - b.length) (co b) n + co (dstep b (r, f)).1 n := by
  show _ = _ + co (qsub (r.take (r.length - 1)) (dlow b r)) n
  rw [co_qsub, co_take]
  unfold dlow
  rw [co_qraise]
  unfold sh
  rw [co_qscale, co_take]
  have hd : dnum b r * co b (b.length - 1) = co r (r.length - 1) := by
    unfold dnum
    rw [Rat.div_mul_cancel hl]
  generalize dnum b r = x at *
  by_cases h1 : n < r.length - b.length
  · rw [if_pos h1, if_pos h1, if_pos (by omega)]
    grind
  rw [if_neg h1, if_neg h1]
  by_cases h2 : n < r.length - 1
  · rw [if_pos h2, if_pos (by omega)]
    grind
  rw [if_neg h2, if_neg (by omega)]
  by_cases h3 : n = r.length - 1
  · have e : n - (r.length - b.length) = b.length - 1 := by omega
    rw [e, hd, h3]
    grind
  · rw [co_out (l := r) (by omega), co_out (l := b) (by omega)]
    grind
theorem T_set (f : List Rat) (k : Nat) (x : Rat) (hk : k < f.length) (hf : f.length ≤ 3) (h0 : co f k = 0) (g : Nat → Rat) (n : Nat) : T (co (f.set k x)) g n = T (co f) g n + x * sh k g n := by
  have q : ∀ j, j ≠ k → co (f.set k x) j = co f j := fun j hj => co_set_ne (fun e => hj e.symm)
  have q2 := co_set (r := x) hk
  unfold T
  rcases (by omega : k = 0 ∨ k = 1 ∨ k = 2) with e | e | e
  · subst e
    rw [q2, q 1 (by decide), q 2 (by decide), h0, sh_zero]
    grind
  · subst e
    rw [q2, q 0 (by decide), q 2 (by decide), h0]
    grind
  · subst e
    rw [q2, q 0 (by decide), q 1 (by decide), h0]
    grind
theorem dvm_spec (b : List Rat) (h0 : 0 < b.length) (hl : co b (b.length - 1) ≠ 0) : ∀ (n : Nat) (r f : List Rat), f.length ≤ 3 → r.length < f.length + b.length → r.length < n + b.length → (∀ i, i + b.length ≤ r.length → co f i = 0) → Nzl r →
    (∀ m, T (co (dvm b n (r, f)).2) (co b) m + co (dvm b n (r, f)).1 m = T (co f) (co b) m + co r m) ∧ (dvm b n (r, f)).1.length < b.length ∧ Nzl (dvm b n (r, f)).1 ∧ (dvm b n (r, f)).2.length = f.length
  | 0, r, f, h1, h2, h3, h4, h5 => ⟨fun _ => rfl, by show r.length < _; omega, h5, rfl⟩
  | n + 1, r, f, h1, h2, h3, h4, h5 => by
    by_cases hb : b.length ≤ r.length
    · have e : dvm b (n + 1) (r, f) = dvm b n (dstep b (r, f)) := if_pos hb
      have hle := dstep_len b r f hb h0
      obtain ⟨i1, i2, i3, i4⟩ := dvm_spec b h0 hl n (dstep b (r, f)).1 (f.set (r.length - b.length) (dnum b r)) (by rw [List.length_set]; exact h1) (by rw [List.length_set]; omega) (by omega) (fun i hi => by
        rw [co_set_ne (by omega)]; exact h4 i (by omega)) (dstep_nz b r f)
      have e2 : dstep b (r, f) = ((dstep b (r, f)).1, f.set (r.length - b.length) (dnum b r)) := rfl
      rw [e, e2]
      refine ⟨fun m => ?_, i2, i3, by rw [i4, List.length_set]⟩
      rw [i1 m, T_set f _ _ (by omega) h1 (h4 _ (by omega)), dstep_co b r f hb h0 hl m]
      grind
    · have e : dvm b (n + 1) (r, f) = (r, f) := if_neg hb
      rw [e]
      exact ⟨fun _ => rfl, by show r.length < _; omega, h5, rfl⟩
/-- the division -/
theorem qdm_spec (a b : List Rat) (h0 : 0 < b.length) (hl : co b (b.length - 1) ≠ 0) (hn : Nzl a) (h1 : b.length ≤ a.length) (h2 : a.length ≤ b.length + 2) :
    (∀ m, T (co (qdivmod a b).1) (co b) m + co (qdivmod a b).2 m = co a m) ∧ (qdivmod a b).2.length < b.length ∧ Nzl (qdivmod a b).2 ∧ (qdivmod a b).1.length ≤ a.length + 1 - b.length := by
  have hz : ∀ i, co (List.replicate (a.length + 1 - b.length) 0) i = 0 := fun i => co_zeros _ i
  obtain ⟨i1, i2, i3, i4⟩ := dvm_spec b h0 hl (a.length + 1) a (List.replicate (a.length + 1 - b.length) 0) (by rw [List.length_replicate]; omega) (by rw [List.length_replicate]; omega) (by omega) (fun i _ => hz i) hn
  refine ⟨fun m => ?_, i2, i3, ?_⟩
  · have e : T (co (qdivmod a b).1) (co b) m = T (co (dvm b (a.length + 1) (a, List.replicate (a.length + 1 - b.length) 0)).2) (co b) m := by
      unfold T
      show co (trim _) 0 * _ + co (trim _) 1 * _ + co (trim _) 2 * _ = _
      rw [co_trim, co_trim, co_trim]
    rw [e]
    have q := i1 m
    have z : T (co (List.replicate (a.length + 1 - b.length) 0)) (co b) m = 0 := by
      unfold T
      rw [hz, hz, hz]
      grind
    rw [z] at q
    rw [show (qdivmod a b).2 = (dvm b (a.length + 1) (a, List.replicate (a.length + 1 - b.length) 0)).1 from rfl, q]
    grind
  · rw [List.length_replicate] at i4
    show (trim _).length ≤ _
    exact Nat.le_trans (trim_le _) (by rw [i4]; exact Nat.le_refl _)
def gB (Bb : Nat) : Nat → Nat → Nat
  | 0, B => B
  | j + 1, B => gB Bb j (2 * B + 2 * Bb + 2)
theorem gB_ge (Bb : Nat) : ∀ j B, B ≤ gB Bb j B
  | 0, B => Nat.le_refl _
  | j + 1, B => by have := gB_ge Bb j (2 * B + 2 * Bb + 2); unfold gB; omega
theorem dstep_size {b r f : List Rat} {B Bb : Nat} (hb : AS Bb b) (hr : AS B r) : Sm (B + Bb) (dnum b r) ∧ AS (Bb + (B + Bb)) (dlow b r) ∧ AS (2 * B + 2 * Bb + 1) (dstep b (r, f)).1 := by
  have h1 : Sm (B + Bb) (dnum b r) := sm_div (hr _) (hb _)
  have h2 : AS (Bb + (B + Bb)) (dlow b r) := ((hb.take _).scale h1).raise _
  exact ⟨h1, h2, ((hr.take _).sub h2).le (by omega)⟩
theorem dvm_size {b : List Rat} {Bb : Nat} (hb : AS Bb b) (h0 : 0 < b.length) : ∀ (j n B : Nat) (r f : List Rat), r.length < b.length + j → j ≤ n → AS B r → AS (gB Bb j B) f → gB Bb j B ≤ 4000 →
    DvmOK b n (r, f) ∧ AS (gB Bb j B) (dvm b n (r, f)).1 ∧ AS (gB Bb j B) (dvm b n (r, f)).2
  | 0, n, B, r, f, h1, h2, h3, h4, h5 => by
    cases n with
    | zero => exact ⟨by show r.length < _; omega, h3, h4⟩
    | succ n =>
      have e : dvm b (n + 1) (r, f) = (r, f) := if_neg (by show ¬ b.length ≤ r.length; omega)
      rw [e]
      exact ⟨fun q => by have q' : b.length ≤ r.length := q; omega, h3, h4⟩
  | j + 1, 0, B, r, f, h1, h2, h3, h4, h5 => by omega
  | j + 1, n + 1, B, r, f, h1, h2, h3, h4, h5 => by
    have g1 := gB_ge Bb j (2 * B + 2 * Bb + 2)
    have g2 : gB Bb (j + 1) B = gB Bb j (2 * B + 2 * Bb + 2) := rfl
    by_cases hl : b.length ≤ r.length
    · obtain ⟨s1, s2, s3⟩ := dstep_size (f := f) hb h3
      have e : dvm b (n + 1) (r, f) = dvm b n ((dstep b (r, f)).1, f.set (r.length - b.length) (dnum b r)) := if_pos hl
      have hle := dstep_len b r f hl h0
      obtain ⟨i1, i2, i3⟩ := dvm_size hb h0 j n (2 * B + 2 * Bb + 2) (dstep b (r, f)).1 (f.set (r.length - b.length) (dnum b r)) (by omega) (by omega) (s3.le (by omega)) ((g2 ▸ h4).set (s1.le (by omega)) _) (by omega)
      rw [e, g2]
      refine ⟨fun _ => ⟨⟨h3.all (by omega), s1.ok (by omega), fun x hx => (sm_mul (hb.mem hx) s1).ok (by omega), ((h3.take _).padd s2.neg).all (by omega)⟩, i1⟩, i2, i3⟩
    · have e : dvm b (n + 1) (r, f) = (r, f) := if_neg hl
      rw [e]
      exact ⟨fun q => absurd q hl, h3.le (by omega), h4⟩
theorem qdm_size {a b : List Rat} {B Bb : Nat} (hb : AS Bb b) (ha : AS B a) (h0 : 0 < b.length) (hj : gB Bb (a.length + 1 - b.length) B ≤ 4000) :
    DvmOK b (a.length + 1) (a, List.replicate (a.length + 1 - b.length) 0) ∧ AS (gB Bb (a.length + 1 - b.length) B) (qdivmod a b).1 ∧ AS (gB Bb (a.length + 1 - b.length) B) (qdivmod a b).2 := by
  have g := gB_ge Bb (a.length + 1 - b.length) B
  have := ha.pos
  obtain ⟨i1, i2, i3⟩ := dvm_size hb h0 (a.length + 1 - b.length) (a.length + 1) B a (List.replicate (a.length + 1 - b.length) 0) (by omega) (by omega) ha ((as_zeros _).le (by omega)) hj
  exact ⟨i1, i3.trim, i2⟩

/-! products -/
theorem co_mi (x : Rat) (b : List Rat) (k : Nat) (f : List Rat) : ∀ i, k + i ≤ f.length → i ≤ b.length → ∀ n, co (mi x b k f i) n = co f n + (if n < k + i then x * sh k (co b) n else 0)
  | 0, _, _, n => by
    show co f n = _
    unfold sh
    split
    · rw [if_pos (by omega)]; grind
    · grind
  | i + 1, h, hi, n => by
    have ih := co_mi x b k f i (by omega) (by omega)
    show co ((mi x b k f i).set (k + i) (co (mi x b k f i) (k + i) + x * co b i)) n = _
    by_cases e : k + i = n
    · rw [e, co_set (by rw [mi_length]; omega), ih n, if_neg (by omega), if_pos (by omega)]
      rw [sh_at (m := i) (by omega)]
      grind
    · rw [co_set_ne e, ih n]
      congr 1
      by_cases q : n < k + i
      · rw [if_pos q, if_pos (by omega)]
      · rw [if_neg q, if_neg (by omega)]
theorem co_mi_full (x : Rat) (b : List Rat) (k : Nat) (f : List Rat) (h : k + b.length ≤ f.length) (n : Nat) : co (mi x b k f b.length) n = co f n + x * sh k (co b) n := by
  rw [co_mi x b k f _ h (Nat.le_refl _)]
  congr 1
  split
  · rfl
  · unfold sh
    rw [if_neg (by omega), co_out (by omega)]
    grind
theorem co_qmul (a b : List Rat) (ha : a.length ≤ 3) (n : Nat) : co (qmul a b) n = T (co a) (co b) n := by
  unfold qmul
  split
  · rename_i h
    unfold T
    rcases h with h | h
    · subst h
      rw [co_nil, co_nil, co_nil, co_nil]
      grind
    · subst h
      unfold sh
      simp only [co_nil]
      grind
  · rename_i h
    have hb : 0 < b.length := List.length_pos_iff.mpr fun e => h (.inr e)
    have ha0 : 0 < a.length := List.length_pos_iff.mpr fun e => h (.inl e)
    have hz : (mz a b).length = a.length + b.length - 1 := by unfold mz; simp
    have z : ∀ m, co (mz a b) m = 0 := fun m => co_zeros _ m
    unfold T
    rcases (by omega : a.length = 1 ∨ a.length = 2 ∨ a.length = 3) with e | e | e
    · rw [e]
      show co (mi (co a 0) b 0 (mz a b) b.length) n = _
      rw [co_mi_full _ _ _ _ (by omega), z, co_out (l := a) (n := 1) (by omega), co_out (l := a) (n := 2) (by omega), sh_zero]
      grind
    · rw [e]
      show co (mi (co a 1) b 1 (mi (co a 0) b 0 (mz a b) b.length) b.length) n = _
      rw [co_mi_full _ _ _ _ (by rw [mi_length]; omega), co_mi_full _ _ _ _ (by omega), z, co_out (l := a) (n := 2) (by omega), sh_zero]
      grind
    · rw [e]
      show co (mi (co a 2) b 2 (mi (co a 1) b 1 (mi (co a 0) b 0 (mz a b) b.length) b.length) b.length) n = _
      rw [co_mi_full _ _ _ _ (by rw [mi_length, mi_length]; omega), co_mi_full _ _ _ _ (by rw [mi_length]; omega), co_mi_full _ _ _ _ (by omega), z, sh_zero]
      grind
theorem qmul_len (a b : List Rat) : (qmul a b).length ≤ a.length + b.length - 1 := by
  unfold qmul
  split
  · exact Nat.zero_le _
  · rw [mo_length]; unfold mz; simp
theorem mi_size {x : Rat} {b f : List Rat} {A B C k i : Nat} (hx : Sm A x) (hb : AS B b) (hf : AS C f) (h : k + i ≤ f.length) (hi : i ≤ b.length) : AS (C + (A + B) + 1) (mi x b k f i) := fun n => by
  rw [co_mi x b k f i h hi]
  refine sm_add (hf n) ?_
  have hp := sm_pos hx
  split
  · unfold sh
    split
    · rw [Rat.mul_zero]; exact sm_zero (by omega)
    · exact sm_mul hx (hb _)
  · exact sm_zero (by omega)
theorem mo_size {a b f : List Rat} {A B C : Nat} (ha : AS A a) (hb : AS B b) (hf : AS C f) : ∀ i, i ≤ a.length → a.length + b.length - 1 ≤ f.length → AS (C + i * (A + B + 1)) (mo a b f i)
  | 0, _, _ => by rw [Nat.zero_mul]; exact hf
  | i + 1, h, hl => by
    have q := mo_size ha hb hf i (by omega) hl
    refine AS.le (mi_size (k := i) (ha i) hb q (by rw [mo_length]; omega) (Nat.le_refl _)) ?_
    rw [Nat.succ_mul]
    omega
theorem qmul_size {a b : List Rat} {A B : Nat} (ha : AS A a) (hb : AS B b) (hl : a.length ≤ 3) (h : 1 + 3 * (A + B + 1) ≤ 4000) : MulOK a b ∧ AS (1 + 3 * (A + B + 1)) (qmul a b) := by
  have hz : (mz a b).length = a.length + b.length - 1 := by unfold mz; simp
  have z : AS 1 (mz a b) := as_zeros _
  have hm : ∀ i, i ≤ a.length → AS (1 + i * (A + B + 1)) (mo a b (mz a b) i) := fun i hi => mo_size ha hb z i hi (by omega)
  have hmul : ∀ i, i ≤ 3 → i * (A + B + 1) ≤ 3 * (A + B + 1) := fun i hi => Nat.mul_le_mul_right _ hi
  refine ⟨⟨ha.all (by omega), hb.all (by omega), fun x hx y hy => (sm_mul (ha.mem hx) (hb.mem hy)).ok (by omega), fun i j hi hj => ?_⟩, ?_⟩
  · refine AS.all (AS.le (mi_size (k := i) (ha i) hb (hm i (by omega)) (by rw [mo_length]; omega) hj) (B := 1 + 3 * (A + B + 1)) ?_) h
    have := hmul (i + 1) (by omega)
    rw [Nat.succ_mul] at this
    omega
  · unfold qmul
    split
    · exact as_nil.le (by omega)
    · exact (hm a.length (Nat.le_refl _)).le (by have := hmul a.length hl; omega)
end
section

theorem lt_of_co {l : List Rat} {n : Nat} (h : co l n ≠ 0) : n < l.length := by
  rcases Nat.lt_or_ge n l.length with q | q
  · exact q
  · exact absurd (co_out q) h
theorem co_one0 : co [1] 0 = 1 := rfl
theorem co_oneS (n : Nat) : co [1] (n + 1) = 0 := co_out (by simp)
theorem T_one0 (f : Nat → Rat) : T f (co [1]) 0 = f 0 := by
  unfold T
  rw [sh_lt (by decide), sh_lt (by decide), co_one0]
  grind
theorem T_one1 (f : Nat → Rat) : T f (co [1]) 1 = f 1 := by
  unfold T
  rw [sh_at (m := 0) (by decide), sh_lt (by decide), co_one0, co_oneS]
  grind
theorem T_one2 (f : Nat → Rat) : T f (co [1]) 2 = f 2 := by
  unfold T
  rw [sh_at (m := 1) (by decide), sh_at (m := 0) (by decide), co_one0, co_oneS, co_oneS]
  grind
/-- one division within Euclid -/
theorem fstep_spec (s : F4) (j Bf Br Bo Bt Bq : Nat) (h0 : 0 < s.rest.length) (hl : co s.rest (s.rest.length - 1) ≠ 0) (hn : Nzl s.front) (h1 : s.rest.length ≤ s.front.length) (h2 : s.front.length ≤ s.rest.length + 2)
    (zf : s.front.length ≤ 20) (zo : s.one.length ≤ 20) (zt : s.other.length ≤ 3) (hj : s.front.length + 1 - s.rest.length = j) (af : AS Bf s.front) (ar : AS Br s.rest) (ao : AS Bo s.one) (at' : AS Bt s.other)
    (hq : gB Br j Bf = Bq) (hB : Bo + (1 + 3 * (Bq + Bt + 1)) + 1 ≤ 4000) :
    ∃ q : List Rat, q.length ≤ j ∧ (∀ m, T (co q) (co s.rest) m + co (fstep s).rest m = co s.front m) ∧ (fstep s).rest.length < s.rest.length ∧ Nzl (fstep s).rest ∧
      (∀ m, co (fstep s).other m = co s.one m - T (co q) (co s.other) m) ∧ (fstep s).other.length ≤ max s.one.length (j + s.other.length - 1) ∧ Nzl (fstep s).other ∧ FStepOK s ∧ AS Bq (fstep s).rest ∧ AS (Bo + (1 + 3 * (Bq + Bt + 1)) + 1) (fstep s).other := by
  obtain ⟨d1, d2, d3, d4⟩ := qdm_spec s.front s.rest h0 hl hn h1 h2
  have hg := gB_ge Br j Bf
  subst hj
  rw [hq] at hg
  obtain ⟨e1, e2, e3⟩ := qdm_size (a := s.front) (b := s.rest) ar af h0 (by omega)
  rw [hq] at e2 e3
  have hql : (qdivmod s.front s.rest).1.length ≤ 3 := by omega
  obtain ⟨m1, m2⟩ := qmul_size e2 at' hql (by omega)
  have hm := qmul_len (qdivmod s.front s.rest).1 s.other
  have hrp : AS Br s.rest := ar
  have hbr : Br ≤ 4000 := by
    have := gB_ge Br (s.front.length + 1 - s.rest.length) Bf
    have : 2 * Bf + 2 * Br + 2 ≤ gB Br (s.front.length + 1 - s.rest.length) Bf := by
      obtain ⟨i, hi⟩ : ∃ i, s.front.length + 1 - s.rest.length = i + 1 := ⟨s.front.length - s.rest.length, by omega⟩
      rw [hi]
      exact gB_ge Br i (2 * Bf + 2 * Br + 2)
    omega
  refine ⟨(qdivmod s.front s.rest).1, d4, d1, d2, d3, fun m => ?_, ?_, nz_trim _, ⟨zf, zo, by omega, ar.all hbr, hl, e1, m1, ⟨ao.all (by omega), m2.all (by omega), (ao.padd m2.neg).all hB⟩, by omega, by omega⟩, e3, ao.sub m2⟩
  · show co (qsub s.one (qmul (qdivmod s.front s.rest).1 s.other)) m = _
    rw [co_qsub, co_qmul _ _ hql]
  · refine Nat.le_trans (qsub_le (a := s.one) (b := qmul (qdivmod s.front s.rest).1 s.other)) ?_
    omega
theorem fw_stop {most n : Nat} {s : F4} (h : s.rest.length ≤ most + 1) : fw most n s = s := by
  cases n with
  | zero => rfl
  | succ n => exact if_neg (by omega)
theorem fwok_stop {most n : Nat} {s : F4} (h : s.rest.length ≤ most + 1) (h2 : s.rest.length ≤ 20) : FwOK most n s := by
  cases n with
  | zero => exact ⟨h2, h⟩
  | succ n => exact ⟨h2, fun q => absurd q (by omega)⟩
theorem fw_go {most n : Nat} {s : F4} (h : most + 1 < s.rest.length) : fw most (n + 1) s = fw most n (fstep s) := if_pos h

/-- a small whole number -/
def I (B : Nat) (x : Rat) : Prop := ∃ z : Int, x = (z : Rat) ∧ z.natAbs < 2 ^ B
theorem I.le {A B : Nat} {x : Rat} (h : I A x) (hb : A ≤ B) : I B x := by
  obtain ⟨z, e, h⟩ := h
  exact ⟨z, e, Nat.lt_of_lt_of_le h (Nat.pow_le_pow_right (by decide) hb)⟩
theorem I.mul {A B : Nat} {x y : Rat} (h1 : I A x) (h2 : I B y) : I (A + B) (x * y) := by
  obtain ⟨z, rfl, h1⟩ := h1
  obtain ⟨u, rfl, h2⟩ := h2
  exact ⟨z * u, by rw [Rat.intCast_mul], by rw [Int.natAbs_mul]; exact lt_mul h1 h2⟩
theorem I.sub {B : Nat} {x y : Rat} (h1 : I B x) (h2 : I B y) : I (B + 1) (x - y) := by
  obtain ⟨z, rfl, h1⟩ := h1
  obtain ⟨u, rfl, h2⟩ := h2
  refine ⟨z - u, by rw [Rat.intCast_sub], ?_⟩
  rw [Nat.pow_succ]
  omega
theorem I.neg {B : Nat} {x : Rat} (h1 : I B x) : I B (-x) := by
  obtain ⟨z, rfl, h1⟩ := h1
  exact ⟨-z, by rw [Rat.intCast_neg], by rw [Int.natAbs_neg]; exact h1⟩
theorem I.zero {B : Nat} : I B 0 := ⟨0, by rfl, Nat.pow_pos (by decide)⟩
theorem I.one {B : Nat} (h : 1 ≤ B) : I B 1 := ⟨1, by rfl, Nat.lt_of_lt_of_le (by decide) (Nat.pow_le_pow_right (n := 2) (by decide) h)⟩
theorem I.sm {B : Nat} {x : Rat} (h1 : I B x) (h : 1 ≤ B) : Sm B x := by
  obtain ⟨z, rfl, h1⟩ := h1
  exact sm_int h h1

def Uns (t : Nat → Rat) (a b : Nat) : Prop := (b = 1 ∧ t a = 0 ∧ t (a + 1) ≠ 0) ∨
  (b = 2 ∧ t a * t a - sh 1 t a * t (a + 1) = 0 ∧ (t (a + 1) * t (a + 1) - t a * t (a + 2) ≠ 0 ∨ (t a = 0 ∧ t (a + 1) = 0 ∧ t (a + 2) ≠ 0)))
structure PR (t : Nat → Rat) (a b : Nat) (e o : List Rat) : Prop where
  eq : ∀ n, n < a + b + 1 → co e n = T (co o) t n
  le : e.length ≤ a + 1
  lo : o.length ≤ b + 1
  ne : Nzl e
  no : 0 < o.length
  nz : Nzl o
  se : AS 1800 e
  so : AS 1800 o
  uns : co o 0 = 0 → Uns t a b
  cr : co o 0 ≠ 0 → ∃ D X Y : Rat, D ≠ 0 ∧ I 20 D ∧ I 20 X ∧ I 20 Y ∧ D * co o 1 = X * co o 0 ∧ D * co o 2 = Y * co o 0
theorem T_a1 (f t : Nat → Rat) (a : Nat) : T f t (a + 1) = f 0 * t (a + 1) + f 1 * t a + f 2 * sh 1 t a := by
  unfold T
  rw [sh_at (k := 1) (m := a) rfl, show sh 2 t (a + 1) = sh 1 (sh 1 t) (a + 1) from (sh_sh 1 1 t _).symm, sh_at (k := 1) (m := a) rfl]
theorem T_a2 (f t : Nat → Rat) (a : Nat) : T f t (a + 2) = f 0 * t (a + 2) + f 1 * t (a + 1) + f 2 * t a := by
  unfold T
  rw [sh_at (k := 1) (m := a + 1) rfl, sh_at (k := 2) (m := a) rfl]
theorem T_a3 (f t : Nat → Rat) (a : Nat) : T f t (a + 3) = f 0 * t (a + 3) + f 1 * t (a + 2) + f 2 * t (a + 1) := by
  unfold T
  rw [sh_at (k := 1) (m := a + 2) rfl, sh_at (k := 2) (m := a + 1) rfl]
theorem cramer {t : Nat → Rat} {a : Nat} {o : Nat → Rat} (ht : ∀ n, I 8 (t n)) (h1 : T o t (a + 1) = 0) (h2 : T o t (a + 2) = 0) (h3 : t a * t a - sh 1 t a * t (a + 1) ≠ 0) :
    ∃ D X Y : Rat, D ≠ 0 ∧ I 20 D ∧ I 20 X ∧ I 20 Y ∧ D * o 1 = X * o 0 ∧ D * o 2 = Y * o 0 := by
  have hs : I 8 (sh 1 t a) := by
    unfold sh
    split
    · exact I.zero
    · exact ht _
  rw [T_a1] at h1
  rw [T_a2] at h2
  refine ⟨_, sh 1 t a * t (a + 2) - t a * t (a + 1), t (a + 1) * t (a + 1) - t a * t (a + 2), h3, (((ht _).mul (ht _)).sub (hs.mul (ht _))).le (by decide), ((hs.mul (ht _)).sub ((ht _).mul (ht _))).le (by decide), (((ht _).mul (ht _)).sub ((ht _).mul (ht _))).le (by decide), ?_, ?_⟩
  · clear h3 hs ht
    grind
  · clear h3 hs ht
    grind
end
section

theorem co_front (N n : Nat) : co (List.replicate N 0 ++ [1]) n = if n = N then 1 else 0 := by
  unfold co
  rw [List.getD_eq_getElem?_getD]
  by_cases h : n < N
  · rw [List.getElem?_append_left (by simpa using h), List.getElem?_replicate, if_pos h, if_neg (by omega)]
    rfl
  · rw [List.getElem?_append_right (by simpa using h), List.length_replicate]
    by_cases e : n = N
    · rw [if_pos e, e, Nat.sub_self]; rfl
    · rw [if_neg e, List.getElem?_eq_none (by simp; omega)]; rfl
theorem T_at0 (f g : Nat → Rat) : T f g 0 = f 0 * g 0 := by
  unfold T
  rw [sh_lt (by decide), sh_lt (by decide)]
  grind
theorem T_at1 (f g : Nat → Rat) : T f g 1 = f 0 * g 1 + f 1 * g 0 := by
  unfold T
  rw [sh_at (m := 0) (by decide), sh_lt (by decide)]
  grind
theorem T_at2 (f g : Nat → Rat) : T f g 2 = f 0 * g 2 + f 1 * g 1 + f 2 * g 0 := by
  unfold T
  rw [sh_at (m := 1) (by decide), sh_at (m := 0) (by decide)]
theorem alg2 {A B C D M R q0 q1 p0 p1 : Rat} (w3 : q1 * D = 1) (w2 : q0 * D + q1 * C = 0) (hM : M = -q0 * C - q1 * B) (hR : R = -q0 * B - q1 * A) (x2 : p1 * M = D) (x1 : p0 * M + p1 * R = C) :
    (1 + p0 * q0) * (M * M * (D * D)) = B * B - A * C ∧ M * (D * D) = C * C - B * D ∧ D ≠ 0 := by
  have hD : D ≠ 0 := fun e => by rw [e] at w3; grind
  have k3 : q0 * D * D = -C := by grind
  have k1 : M * (D * D) = C * C - B * D := by grind
  have k2 : R * (D * D) = C * B - D * A := by grind
  have k4 : p0 * M * M = C * M - D * R := by grind
  refine ⟨?_, k1, hD⟩
  clear w3 w2 hM hR x2 x1
  have k5 : D * ((1 + p0 * q0) * (M * M * (D * D))) = D * (B * B - A * C) := by grind
  grind
theorem gB_a : gB 8 2 1 = 58 := rfl
theorem gB_b : gB 8 3 1 = 134 := rfl
theorem gB_c : gB 58 2 8 = 386 := rfl
theorem ci_len (ts : List Int) : (ci ts).length = ts.length := List.length_map ..
theorem euclid (ts : List Int) (a b : Nat) (ha : a ≤ 2) (hb : b ≤ 2) (hl : ts.length = a + b + 1) (hI : ∀ n, I 8 (co (ci ts) n)) :
    FwOK a (a + b + 1 + 1) (fstart (ci ts)) ∧ PR (co (ci ts)) a b (firstw (ci ts) a).1 (firstw (ci ts) a).2 := by
  have hN : (ci ts).length = a + b + 1 := by rw [ci_len, hl]
  have ht : co (trim (ci ts)) = co (ci ts) := funext (co_trim _)
  have hrl : (trim (ci ts)).length ≤ a + b + 1 := hN ▸ trim_le _
  have hrn : Nzl (trim (ci ts)) := nz_trim _
  have har : AS 8 (trim (ci ts)) := AS.trim fun n => (hI n).sm (by decide)
  have hz : ∀ n, (trim (ci ts)).length ≤ n → co (ci ts) n = 0 := fun n h => by rw [← ht]; exact co_out h
  have f1 : (fstart (ci ts)).rest = trim (ci ts) := rfl
  have f2 : (fstart (ci ts)).one = [] := rfl
  have f3 : (fstart (ci ts)).other = [1] := rfl
  have f4 : (fstart (ci ts)).front.length = a + b + 1 + 1 := by show (List.replicate (ci ts).length (0 : Rat) ++ [1]).length = _; rw [List.length_append, List.length_replicate, hN]; rfl
  have f5 : ∀ m, co (fstart (ci ts)).front m = if m = a + b + 1 then 1 else 0 := fun m => by
    show co (List.replicate (ci ts).length (0 : Rat) ++ [1]) m = _
    rw [hN]; exact co_front _ _
  have hfw : firstw (ci ts) a = ((fw a (a + b + 1 + 1) (fstart (ci ts))).rest, (fw a (a + b + 1 + 1) (fstart (ci ts))).other) := by unfold firstw; rw [hN]
  rw [hfw]
  dsimp only
  generalize fstart (ci ts) = s0 at *
  generalize trim (ci ts) = r0 at *
  generalize co (ci ts) = t at *
  clear hfw hl hN
  by_cases c0 : s0.rest.length ≤ a + 1
  · -- no division
    rw [fw_stop c0]
    refine ⟨fwok_stop c0 (by omega), fun n hn => ?_, c0, by rw [f3]; simp, by rw [f1]; exact hrn, by rw [f3]; decide, by rw [f3]; exact fun _ => by decide, by rw [f1]; exact har.le (by decide), by rw [f3]; exact as_one.le (by decide), fun q => ?_, fun _ => ?_⟩
    · rw [f1, f3, ht]
      unfold T
      rw [co_one0, co_oneS, co_oneS]
      grind
    · rw [f3, co_one0] at q
      exact absurd q (by decide)
    · rw [f3]
      refine ⟨1, 0, 0, by decide, I.one (by decide), I.zero, I.zero, ?_, ?_⟩
      · rw [co_oneS]; grind
      · rw [co_oneS]; grind
  have hb1 : 1 ≤ b := by rw [f1] at c0; omega
  have hr0 : a + 2 ≤ r0.length := by rw [f1] at c0; omega
  have hlast : co s0.rest (s0.rest.length - 1) ≠ 0 := by rw [f1]; exact hrn (by omega)
  have hnz0 : Nzl s0.front := fun _ => by rw [f4, f5, if_pos (by omega)]; decide
  have af0 : AS 1 s0.front := fun m => by
    rw [f5]
    split
    · exact sm_one (by decide)
    · exact sm_zero (by decide)
  obtain ⟨j, hj⟩ : ∃ j, s0.front.length + 1 - s0.rest.length = j := ⟨_, rfl⟩
  have hjv : j = a + b + 3 - r0.length := by rw [f1, f4] at hj; omega
  have hj2 : j = 2 ∨ j = 3 := by omega
  have e11 : sh 1 t a = sh 1 t a := rfl
  by_cases hj3 : j = 3
  · -- one division of degree 2
    have hb2 : b = 2 := by omega
    subst hb2
    have hra : r0.length = a + 2 := by omega
    obtain ⟨q, q1, q2, q3, q4, q5, q6, q7, q8, q9, q10⟩ := fstep_spec s0 j 1 8 1 1 134 (by rw [f1]; omega) hlast hnz0 (by rw [f1, f4]; omega) (by rw [f1, f4]; omega) (by omega) (by rw [f2]; decide) (by rw [f3]; decide) hj af0 (by rw [f1]; exact har) (by rw [f2]; exact as_nil) (by rw [f3]; exact as_one) (by rw [hj3]; rfl) (by decide)
    have c1 : (fstep s0).rest.length ≤ a + 1 := by rw [f1] at q3; omega
    rw [fw_go (by omega), fw_stop c1]
    have hok : FwOK a (a + 2 + 1 + 1) s0 := ⟨by rw [f1]; omega, fun _ => ⟨q8, fwok_stop c1 (by omega)⟩⟩
    generalize fstep s0 = s1 at *
    have p0 := q5 0
    have p1 := q5 1
    have p2 := q5 2
    rw [f2, f3, co_nil] at p0 p1 p2
    rw [T_one0] at p0
    rw [T_one1] at p1
    rw [T_one2] at p2
    have w1 := q2 (a + 1)
    have w2 := q2 (a + 2)
    have w3 := q2 (a + 3)
    rw [f5, f1, ht] at w1 w2 w3
    rw [if_neg (by omega), T_a1, co_out (l := s1.rest) (by omega)] at w1
    rw [if_neg (by omega), T_a2, co_out (l := s1.rest) (by omega), hz (a + 2) (by omega)] at w2
    rw [if_pos (by omega), T_a3, co_out (l := s1.rest) (by omega), hz (a + 2) (by omega), hz (a + 3) (by omega)] at w3
    have eqn : ∀ n, n < a + 2 + 1 → co s1.rest n = T (co s1.other) t n := fun n hn => by
      have := q2 n
      rw [f5, if_neg (by omega), f1, ht] at this
      unfold T at this ⊢
      rw [p0, p1, p2]
      grind
    have h2 : co q 2 ≠ 0 := fun e => by rw [e] at w3; grind
    have hC : t (a + 1) ≠ 0 := fun e => by rw [e] at w3; grind
    refine ⟨hok, eqn, c1, ?_, q4, ?_, q7, q9.le (by decide), q10.le (by decide), fun o0 => ?_, fun o0 => ?_⟩
    · rw [f2, f3] at q6; simp at q6; omega
    · have : co s1.other 2 ≠ 0 := by rw [p2]; grind
      have := lt_of_co this
      omega
    · refine .inr ⟨rfl, ?_, .inl ?_⟩
      · have h0 : co q 0 = 0 := by grind
        rw [h0] at w1 w2
        clear q2 q5 eqn p0 p1 p2 hI hz hlast c0 q4 q7 q8 q9 q10 har hrn hnz0 af0 f5 o0
        grind
      · rw [hz (a + 2) (by omega)]
        grind
    · refine cramer (a := a) hI ?_ ?_ ?_
      · have := eqn (a + 1) (by omega); rw [← this, co_out (by omega)]
      · have := eqn (a + 2) (by omega); rw [← this, co_out (by omega)]
      · have h0 : co q 0 ≠ 0 := fun e => o0 (by rw [p0, e]; grind)
        clear q2 q5 eqn p0 p1 p2 hI hz hlast c0 q4 q7 q8 q9 q10 har hrn hnz0 af0 f5 o0
        intro e
        grind
  -- a first division of degree 1
  have hj22 : j = 2 := by omega
  have hra : r0.length = a + b + 1 := by omega
  obtain ⟨q, q1, q2, q3, q4, q5, q6, q7, q8, q9, q10⟩ := fstep_spec s0 j 1 8 1 1 58 (by rw [f1]; omega) hlast hnz0 (by rw [f1, f4]; omega) (by rw [f1, f4]; omega) (by omega) (by rw [f2]; decide) (by rw [f3]; decide) hj af0 (by rw [f1]; exact har) (by rw [f2]; exact as_nil) (by rw [f3]; exact as_one) (by rw [hj22]; rfl) (by decide)
  have g1 : (fstep s0).front = s0.rest := rfl
  have g2 : (fstep s0).one = s0.other := rfl
  have hgo := fw_go (n := a + b + 1) (most := a) (s := s0) (by omega)
  have hok : FwOK a (a + b + 1) (fstep s0) → FwOK a (a + b + 1 + 1) s0 := fun h => ⟨by rw [f1]; omega, fun _ => ⟨q8, h⟩⟩
  rw [hgo]
  generalize fstep s0 = s1 at *
  have p0 := q5 0
  have p1 := q5 1
  have p2 := q5 2
  rw [f2, f3, co_nil] at p0 p1 p2
  rw [T_one0] at p0
  rw [T_one1] at p1
  rw [T_one2] at p2
  have hq2 : co q 2 = 0 := co_out (by omega)
  rw [hq2] at p2
  have eqn : ∀ n, n < a + b + 1 → co s1.rest n = T (co s1.other) t n := fun n hn => by
    have := q2 n
    rw [f5, if_neg (by omega), f1, ht] at this
    unfold T at this ⊢
    rw [p0, p1, p2]
    rw [hq2] at this
    grind
  have hol : s1.other.length ≤ 2 := by rw [f2, f3] at q6; simp at q6; omega
  by_cases c1 : s1.rest.length ≤ a + 1
  · rw [fw_stop c1]
    refine ⟨hok (fwok_stop c1 (by omega)), eqn, c1, by omega, q4, ?_, q7, q9.le (by decide), q10.le (by decide), ?_, ?_⟩
    · rcases (by omega : b = 1 ∨ b = 2) with e | e
      · subst e
        have w2 := q2 (a + 2)
        rw [f5, f1, ht, if_pos (by omega), T_a2, co_out (l := s1.rest) (by omega), hz (a + 2) (by omega), hq2] at w2
        have h2 : co q 1 ≠ 0 := fun e => by rw [e] at w2; grind
        have : co s1.other 1 ≠ 0 := by rw [p1]; grind
        have := lt_of_co this
        omega
      · subst e
        have w3 := q2 (a + 3)
        rw [f5, f1, ht, if_pos (by omega), T_a3, co_out (l := s1.rest) (by omega), hz (a + 3) (by omega), hq2] at w3
        have h2 : co q 1 ≠ 0 := fun e => by rw [e] at w3; grind
        have : co s1.other 1 ≠ 0 := by rw [p1]; grind
        have := lt_of_co this
        omega
    · intro o0
      have h0 : co q 0 = 0 := by grind
      rcases (by omega : b = 1 ∨ b = 2) with e | e
      · subst e
        have w1 := q2 (a + 1)
        have w2 := q2 (a + 2)
        rw [f5, f1, ht, if_neg (by omega), T_a1, co_out (l := s1.rest) (by omega), hq2, h0] at w1
        rw [f5, f1, ht, if_pos (by omega), T_a2, co_out (l := s1.rest) (by omega), hz (a + 2) (by omega), hq2] at w2
        refine .inl ⟨rfl, ?_, fun e => ?_⟩
        · grind
        · rw [e] at w2; grind
      · subst e
        have w1 := q2 (a + 1)
        have w2 := q2 (a + 2)
        have w3 := q2 (a + 3)
        rw [f5, f1, ht, if_neg (by omega), T_a1, co_out (l := s1.rest) (by omega), hq2, h0] at w1
        rw [f5, f1, ht, if_neg (by omega), T_a2, co_out (l := s1.rest) (by omega), hq2, h0] at w2
        rw [f5, f1, ht, if_pos (by omega), T_a3, co_out (l := s1.rest) (by omega), hz (a + 3) (by omega), hq2] at w3
        have hC : t (a + 1) = 0 := by grind
        have hB : t a = 0 := by grind
        refine .inr ⟨rfl, by rw [hB, hC]; grind, .inr ⟨hB, hC, fun e => ?_⟩⟩
        rw [e] at w3; grind
    · intro o0
      have h0 : co q 0 ≠ 0 := fun e => o0 (by rw [p0, e]; grind)
      rcases (by omega : b = 1 ∨ b = 2) with e | e
      · subst e
        have w1 := q2 (a + 1)
        have w2 := q2 (a + 2)
        rw [f5, f1, ht, if_neg (by omega), T_a1, co_out (l := s1.rest) (by omega), hq2] at w1
        rw [f5, f1, ht, if_pos (by omega), T_a2, co_out (l := s1.rest) (by omega), hz (a + 2) (by omega), hq2] at w2
        refine ⟨t a, -t (a + 1), 0, fun e => ?_, (hI _).le (by decide), (hI _).neg.le (by decide), I.zero, ?_, ?_⟩
        · rw [e] at w1; grind
        · rw [p0, p1]; grind
        · rw [p2]; grind
      · subst e
        have w2 := q2 (a + 2)
        have w3 := q2 (a + 3)
        rw [f5, f1, ht, if_neg (by omega), T_a2, co_out (l := s1.rest) (by omega), hq2] at w2
        rw [f5, f1, ht, if_pos (by omega), T_a3, co_out (l := s1.rest) (by omega), hz (a + 3) (by omega), hq2] at w3
        refine ⟨t (a + 1), -t (a + 2), 0, fun e => ?_, (hI _).le (by decide), (hI _).neg.le (by decide), I.zero, ?_, ?_⟩
        · rw [e] at w2; grind
        · rw [p0, p1]; grind
        · rw [p2]; grind
  -- the second division
  have hb2 : b = 2 := by rw [f1] at q3; omega
  subst hb2
  have hr1 : s1.rest.length = a + 2 := by rw [f1] at q3; omega
  have hl1 := q4 (by omega)
  rw [hr1] at hl1
  obtain ⟨p, v1, v2, v3, v4, v5, v6, v7, v8, v9, v10⟩ := fstep_spec s1 2 8 58 1 183 386 (by omega) (q4 (by omega)) (by rw [g1, f1]; exact hrn) (by rw [g1, f1]; omega) (by rw [g1, f1]; omega) (by rw [g1, f1]; omega) (by rw [g2, f3]; decide) (by omega) (by rw [g1, f1]; omega) (by rw [g1, f1]; exact har) q9 (by rw [g2, f3]; exact as_one) q10 rfl (by decide)
  have c2 : (fstep s1).rest.length ≤ a + 1 := by omega
  have hok2 : FwOK a (a + 2 + 1) s1 := ⟨by omega, fun _ => ⟨v8, fwok_stop c2 (by omega)⟩⟩
  rw [show a + 2 + 1 = (a + 2) + 1 from rfl, fw_go (by omega), fw_stop c2]
  generalize fstep s1 = s2 at *
  have u0 := v5 0
  have u1 := v5 1
  have u2 := v5 2
  have hp2 : co p 2 = 0 := co_out (by omega)
  rw [g2, f3] at u0 u1 u2
  rw [T_at0, co_one0, p0] at u0
  rw [T_at1, co_oneS, p0, p1] at u1
  rw [T_at2, co_oneS, p0, p1, p2, hp2] at u2
  have hsh : ∀ k n, n < a + 2 + 1 → sh k (co s1.rest) n = co s1.other 0 * sh k t n + co s1.other 1 * sh (k + 1) t n := fun k n hn => by
    unfold sh
    by_cases h : n < k
    · rw [if_pos h, if_pos h, if_pos (by omega)]; grind
    rw [if_neg h, if_neg h, eqn (n - k) (by omega)]
    unfold T
    rw [p2]
    by_cases h2 : n - k < 1
    · rw [sh_lt h2, if_pos (by omega)]; grind
    · rw [sh_at (m := n - k - 1) (by omega), if_neg (by omega), show n - (k + 1) = n - k - 1 by omega]; grind
  have eqn2 : ∀ n, n < a + 2 + 1 → co s2.rest n = T (co s2.other) t n := fun n hn => by
    have h := v2 n
    have h1 := hsh 0 n hn
    have h2 := hsh 1 n hn
    rw [sh_zero, sh_zero] at h1
    rw [g1, f1, ht] at h
    unfold T at h ⊢
    rw [hp2] at h
    rw [u0, u1, u2]
    rw [p0, p1] at h1 h2
    grind
  have w2 := q2 (a + 2)
  have w3 := q2 (a + 3)
  rw [f5, f1, ht, if_neg (by omega), T_a2, co_out (l := s1.rest) (by omega), hq2] at w2
  rw [f5, f1, ht, if_pos (by omega), T_a3, co_out (l := s1.rest) (by omega), hz (a + 3) (by omega), hq2] at w3
  have hM := eqn (a + 1) (by omega)
  rw [T_a1, p0, p1, p2] at hM
  have hR := hsh 0 a (by omega)
  rw [sh_zero, sh_zero, p0, p1] at hR
  have x1 := v2 (a + 1)
  have x2 := v2 (a + 2)
  rw [g1, f1, ht, T_a1, hp2, co_out (l := s2.rest) (by omega)] at x1
  rw [g1, f1, ht, T_a2, hp2, co_out (l := s2.rest) (by omega), co_out (l := s1.rest) (n := a + 2) (by omega)] at x2
  have hl1' : co s1.rest (a + 1) ≠ 0 := hl1
  obtain ⟨y1, y2, y3⟩ := alg2 (A := sh 1 t a) (B := t a) (C := t (a + 1)) (D := t (a + 2)) (M := co s1.rest (a + 1)) (R := co s1.rest a) (q0 := co q 0) (q1 := co q 1) (p0 := co p 0) (p1 := co p 1) (by grind) (by grind) (by grind) (by grind) (by grind) (by grind)
  have z0 : co s2.other 0 = 1 + co p 0 * co q 0 := by rw [u0]; grind
  have hp1 : co p 1 ≠ 0 := fun e => by rw [e] at x2; grind
  have hq1 : co q 1 ≠ 0 := fun e => by rw [e] at w3; grind
  refine ⟨hok hok2, eqn2, c2, ?_, v4, ?_, v7, v9.le (by decide), v10.le (by decide), fun o0 => ?_, fun o0 => ?_⟩
  · rw [g2, f3] at v6; simp at v6; omega
  · have : co s2.other 2 ≠ 0 := by rw [u2]; grind
    have := lt_of_co this
    omega
  · rw [← z0, o0] at y1
    refine .inr ⟨rfl, by grind, .inl fun e => ?_⟩
    rw [show t a * t (a + 2) = t a * t (a + 2) from rfl, e] at y2
    exact (Rat.mul_eq_zero.mp y2).elim hl1' fun e => (Rat.mul_eq_zero.mp e).elim y3 y3
  · refine cramer (a := a) hI ?_ ?_ fun e => ?_
    · have := eqn2 (a + 1) (by omega); rw [← this, co_out (by omega)]
    · have := eqn2 (a + 2) (by omega); rw [← this, co_out (by omega)]
    · rw [e, ← z0] at y1
      refine (Rat.mul_eq_zero.mp y1).elim o0 fun e => (Rat.mul_eq_zero.mp e).elim (fun e => (Rat.mul_eq_zero.mp e).elim hl1' hl1') fun e => (Rat.mul_eq_zero.mp e).elim y3 y3
end
section

theorem cast0 {z : Int} (h : (z : Rat) = 0) : z = 0 := Rat.intCast_inj.mp (h.trans Rat.intCast_zero.symm)
theorem nz2 (ts : List Int) (i : Nat) : Nz ts (i + 2) = ts.getD i 0 := rfl
theorem nzA (ts : List Int) (a : Nat) : ((Nz ts (a + 1) : Int) : Rat) = sh 1 (co (ci ts)) a := by
  cases a with
  | zero => rfl
  | succ a => rw [nz2, sh_at (m := a) rfl, co_ci]
theorem nzT (ts : List Int) (i : Nat) : ((Nz ts (i + 2) : Int) : Rat) = co (ci ts) i := by rw [nz2, co_ci]
theorem solv2_true {a b c d e f : Int} (u v : Rat) (h1 : (a : Rat) * u + b * v = c) (h2 : (d : Rat) * u + e * v = f) : solv2 a b c d e f = true := by
  unfold solv2
  by_cases q : a * e - b * d = 0
  · have q' : (a : Rat) * e - b * d = 0 := by
      have := congrArg (fun z : Int => (z : Rat)) q
      simpa only [Rat.intCast_sub, Rat.intCast_mul, Rat.intCast_zero] using this
    have k1 : a * f - c * d = 0 := cast0 (by
      rw [Rat.intCast_sub, Rat.intCast_mul, Rat.intCast_mul, ← h1, ← h2]
      grind)
    have k2 : b * f - c * e = 0 := cast0 (by
      rw [Rat.intCast_sub, Rat.intCast_mul, Rat.intCast_mul, ← h1, ← h2]
      grind)
    rw [q, k1, k2]
    by_cases z : a = 0 ∧ b = 0 ∧ d = 0 ∧ e = 0
    · obtain ⟨rfl, rfl, rfl, rfl⟩ := z
      have c0 : c = 0 := cast0 (by rw [← h1]; grind)
      have f0 : f = 0 := cast0 (by rw [← h2]; grind)
      rw [c0, f0]
      rfl
    · have : (a == 0 && b == 0 && d == 0 && e == 0) = false := by
        rw [Bool.eq_false_iff]
        intro t
        simp only [Bool.and_eq_true, beq_iff_eq] at t
        exact z ⟨t.1.1.1, t.1.1.2, t.1.2, t.2⟩
      rw [this]
      rfl
  · have : (a * e - b * d != 0) = true := by simpa using q
    rw [if_pos this]
theorem solv2_false {a b c d e f : Int} (h1 : a * e - b * d = 0) (h2 : a * f - c * d ≠ 0 ∨ (a = 0 ∧ d = 0 ∧ c = 0 ∧ e = 0 ∧ f ≠ 0)) : solv2 a b c d e f = false := by
  unfold solv2
  rw [h1]
  rcases h2 with h2 | ⟨rfl, rfl, rfl, rfl, h⟩
  · have : (a * f - c * d != 0) = true := by simpa using h2
    rw [this]
    rfl
  · by_cases hb : b = 0
    · subst hb
      have : (f == 0) = false := by simpa using h
      simp [h]
    · have : b * f ≠ 0 := Int.mul_ne_zero hb h
      simp [this]
theorem solv_true (ts : List Int) (a b : Nat) (hb : b ≤ 2) (o : Nat → Rat) (o0 : o 0 = 1) (o2 : b = 1 → o 2 = 0) (h : ∀ n, a < n → n < a + b + 1 → T o (co (ci ts)) n = 0) : solv ts a b = true := by
  unfold solv
  rcases (by omega : b = 0 ∨ b = 1 ∨ b = 2) with e | e | e
  · rw [if_pos e]
  · subst e
    rw [if_neg (by decide), if_pos rfl]
    have h1 := h (a + 1) (by omega) (by omega)
    rw [T_a1, o0, o2 rfl, ← nzT, ← nzT] at h1
    by_cases q : Nz ts (a + 2) = 0
    · have : Nz ts (a + 3) = 0 := cast0 (by
        have e : Nz ts (a + 3) = Nz ts (a + 1 + 2) := rfl
        rw [e]
        rw [q] at h1
        grind)
      rw [this]
      simp
    · have : (Nz ts (a + 2) != 0) = true := by simpa using q
      rw [this]; rfl
  · subst e
    rw [if_neg (by decide), if_neg (by decide)]
    have h1 := h (a + 1) (by omega) (by omega)
    have h2 := h (a + 2) (by omega) (by omega)
    rw [T_a1, o0, ← nzT, ← nzT, ← nzA] at h1
    rw [T_a2, o0, ← nzT, ← nzT, ← nzT] at h2
    refine solv2_true (o 1) (o 2) ?_ ?_
    · rw [Rat.intCast_sub, Rat.intCast_zero]
      have e : Nz ts (a + 3) = Nz ts (a + 1 + 2) := rfl
      rw [e]
      grind
    · rw [Rat.intCast_sub, Rat.intCast_zero]
      have e : Nz ts (a + 3) = Nz ts (a + 1 + 2) := rfl
      have e2 : Nz ts (a + 4) = Nz ts (a + 2 + 2) := rfl
      rw [e, e2]
      grind
theorem solv_false (ts : List Int) (a b : Nat) (h : Uns (co (ci ts)) a b) : solv ts a b = false := by
  unfold solv
  rcases h with ⟨rfl, h1, h2⟩ | ⟨rfl, h1, h2⟩
  · rw [if_neg (by decide), if_pos rfl]
    rw [← nzT] at h1 h2
    have e : Nz ts (a + 3) = Nz ts (a + 1 + 2) := rfl
    have k1 := cast0 h1
    have k2 : Nz ts (a + 3) ≠ 0 := fun q => h2 (by rw [← e, q]; rfl)
    rw [k1]
    simp [k2]
  · rw [if_neg (by decide), if_neg (by decide)]
    rw [← nzT, ← nzT, ← nzT, ← nzA] at *
    have e : Nz ts (a + 3) = Nz ts (a + 1 + 2) := rfl
    have e2 : Nz ts (a + 4) = Nz ts (a + 2 + 2) := rfl
    rw [e, e2]
    generalize Nz ts (a + 1 + 2) = C at *
    generalize Nz ts (a + 2 + 2) = D at *
    generalize Nz ts (a + 2) = B at *
    generalize Nz ts (a + 1) = A at *
    refine solv2_false (cast0 ?_) ?_
    · rw [Rat.intCast_sub, Rat.intCast_mul, Rat.intCast_mul]
      exact h1
    · rcases h2 with h2 | ⟨q1, q2, q3⟩
      · refine .inl fun q => h2 ?_
        have := congrArg (fun z : Int => (z : Rat)) q
        simp only [Rat.intCast_sub, Rat.intCast_mul, Rat.intCast_zero] at this
        grind
      · have r1 := cast0 q1
        have r2 := cast0 q2
        have r3 : D ≠ 0 := fun q => q3 (by rw [q]; rfl)
        exact .inr ⟨r1, r2, by omega, r1, by omega⟩
/-- a fraction's series has a solution -/
theorem not_uns (t : Nat → Rat) (a b : Nat) (o : Nat → Rat) (o0 : o 0 = 1) (o2 : b = 1 → o 2 = 0) (h : ∀ n, a < n → n < a + b + 1 → T o t n = 0) : ¬ Uns t a b := by
  rintro (⟨rfl, h1, h2⟩ | ⟨rfl, h1, h2⟩)
  · have k := h (a + 1) (by omega) (by omega)
    rw [T_a1, o0, o2 rfl, h1] at k
    exact h2 (by grind)
  · have k1 := h (a + 1) (by omega) (by omega)
    have k2 := h (a + 2) (by omega) (by omega)
    rw [T_a1, o0] at k1
    rw [T_a2, o0] at k2
    rcases h2 with h2 | ⟨q1, q2, q3⟩
    · exact h2 (by grind)
    · rw [q1, q2] at k2
      exact q3 (by grind)
end
section

def Sup (f : Nat → Rat) : Prop := ∀ i, 3 ≤ i → f i = 0
theorem sup_len {l : List Rat} (h : l.length ≤ 3) : Sup (co l) := fun i hi => co_out (by omega)
theorem sh_T (f g : Nat → Rat) (k n : Nat) : sh k (T f g) n = f 0 * sh k g n + f 1 * sh (k + 1) g n + f 2 * sh (k + 2) g n := by
  unfold T
  have e : ∀ j, sh j g = sh j g := fun _ => rfl
  by_cases h : n < k
  · rw [sh_lt h, sh_lt h, sh_lt (by omega), sh_lt (by omega)]; grind
  · have q1 := sh_sh k 1 g n
    have q2 := sh_sh k 2 g n
    rw [← q1, ← q2]
    unfold sh
    rw [if_neg h, if_neg h, if_neg h, if_neg h]
theorem T_swap (f h g : Nat → Rat) (n : Nat) : T f (T h g) n = T h (T f g) n := by
  show f 0 * T h g n + f 1 * sh 1 (T h g) n + f 2 * sh 2 (T h g) n = h 0 * T f g n + h 1 * sh 1 (T f g) n + h 2 * sh 2 (T f g) n
  rw [sh_T, sh_T, sh_T, sh_T]
  show f 0 * (h 0 * g n + h 1 * sh 1 g n + h 2 * sh 2 g n) + _ + _ = h 0 * (f 0 * g n + f 1 * sh 1 g n + f 2 * sh 2 g n) + _ + _
  grind
theorem sh_congr {g g' : Nat → Rat} {N : Nat} (h : ∀ n, n < N → g n = g' n) (k n : Nat) (hn : n < N) : sh k g n = sh k g' n := by
  unfold sh
  split
  · rfl
  · exact h _ (by omega)
theorem T_congr (f : Nat → Rat) {g g' : Nat → Rat} {N : Nat} (h : ∀ n, n < N → g n = g' n) (n : Nat) (hn : n < N) : T f g n = T f g' n := by
  unfold T
  rw [h n hn, sh_congr h 1 n hn, sh_congr h 2 n hn]
theorem T_comm (f g : Nat → Rat) (hf : Sup f) (hg : Sup g) (n : Nat) : T f g n = T g f n := by
  unfold T
  match n with
  | 0 => rw [sh_lt (by decide), sh_lt (by decide), sh_lt (by decide), sh_lt (by decide)]; grind
  | 1 => rw [sh_at (m := 0) rfl, sh_lt (by decide), sh_at (m := 0) rfl, sh_lt (by decide)]; grind
  | 2 => rw [sh_at (m := 1) rfl, sh_at (m := 0) rfl, sh_at (m := 1) rfl, sh_at (m := 0) rfl]; grind
  | 3 => rw [sh_at (m := 2) rfl, sh_at (m := 1) rfl, sh_at (m := 2) rfl, sh_at (m := 1) rfl, hf 3 (by decide), hg 3 (by decide)]; grind
  | 4 => rw [sh_at (m := 3) rfl, sh_at (m := 2) rfl, sh_at (m := 3) rfl, sh_at (m := 2) rfl, hf 3 (by decide), hg 3 (by decide), hf 4 (by decide), hg 4 (by decide)]; grind
  | n + 5 => rw [sh_at (m := n + 4) rfl, sh_at (m := n + 3) rfl, sh_at (m := n + 4) rfl, sh_at (m := n + 3) rfl, hf (n + 5) (by omega), hg (n + 5) (by omega), hf (n + 4) (by omega), hg (n + 4) (by omega), hf (n + 3) (by omega), hg (n + 3) (by omega)]; grind
def dl (n : Nat) : Rat := if n = 0 then 1 else 0
theorem T_dl (f : Nat → Rat) (hf : Sup f) (n : Nat) : T f dl n = f n := by
  unfold T
  match n with
  | 0 => rw [sh_lt (by decide), sh_lt (by decide)]; show f 0 * 1 + _ + _ = _; grind
  | 1 => rw [sh_at (m := 0) rfl, sh_lt (by decide)]; show f 0 * 0 + f 1 * 1 + _ = _; grind
  | 2 => rw [sh_at (m := 1) rfl, sh_at (m := 0) rfl]; show f 0 * 0 + f 1 * 0 + f 2 * 1 = _; grind
  | n + 3 => rw [sh_at (m := n + 2) rfl, sh_at (m := n + 1) rfl, hf (n + 3) (by omega)]; show f 0 * 0 + f 1 * 0 + f 2 * 0 = _; grind
/-- a row is known by its product -/
theorem T_inj (o g h : Nat → Rat) (N : Nat) (o0 : o 0 = 1) (e : ∀ n, n < N → T o g n = T o h n) : ∀ n, n < N → g n = h n := by
  intro n
  induction n using Nat.strongRecOn with
  | ind n ih =>
    intro hn
    have q := e n hn
    have s : ∀ k, 0 < k → sh k g n = sh k h n := fun k hk => by
      unfold sh
      split
      · rfl
      · exact ih _ (by omega) (by omega)
    unfold T at q
    rw [o0, s 1 (by decide), s 2 (by decide)] at q
    grind
theorem mx_part (a b : List Rat) (n : Nat) (ha : Sup (co a)) : ∀ k, k ≤ n + 1 → mx a b n k = (if 1 ≤ k then co a 0 * co b n else 0) + (if 2 ≤ k then co a 1 * co b (n - 1) else 0) + (if 3 ≤ k then co a 2 * co b (n - 2) else 0)
  | 0, _ => by
    show (0 : Rat) = _
    rw [if_neg (by decide), if_neg (by decide), if_neg (by decide)]
    grind
  | k + 1, h => by
    show mx a b n k + co a k * co b (n - k) = _
    rw [mx_part a b n ha k (by omega)]
    match k with
    | 0 => simp; grind
    | 1 => simp; grind
    | 2 => simp; grind
    | k + 3 =>
      rw [ha (k + 3) (by omega), if_pos (by omega), if_pos (by omega), if_pos (by omega), if_pos (by omega), if_pos (by omega), if_pos (by omega)]
      grind
theorem sh_if (g : Nat → Rat) (n k : Nat) (x : Rat) : (if k + 1 ≤ n + 1 then x * g (n - k) else 0) = x * sh k g n := by
  unfold sh
  by_cases h : n < k
  · rw [if_pos h, if_neg (by omega)]; grind
  · rw [if_neg h, if_pos (by omega)]
theorem mx_T (a b : List Rat) (n : Nat) (ha : Sup (co a)) : mx a b n (n + 1) = T (co a) (co b) n := by
  rw [mx_part a b n ha _ (Nat.le_refl _), if_pos (by omega), sh_if (co b) n 1, sh_if (co b) n 2]
  rfl
theorem mx_size {a b : List Rat} {A B : Nat} (ha : AS A a) (hb : AS B b) (n : Nat) : ∀ k, Sm (1 + k * (A + B + 1)) (mx a b n k)
  | 0 => by
    show Sm _ (0 : Rat)
    exact sm_zero (by omega)
  | k + 1 => by
    refine Sm.le (sm_add (mx_size ha hb n k) (sm_mul (ha k) (hb (n - k)))) ?_
    rw [Nat.succ_mul]
    omega
theorem mx_ok {a b : List Rat} {A B K : Nat} (ha : AS A a) (hb : AS B b) (n k : Nat) (hk : k ≤ K) (h : 1 + K * (A + B + 1) ≤ 4000) : OK (mx a b n k) :=
  (mx_size ha hb n k).ok (by have := Nat.mul_le_mul_right (A + B + 1) hk; omega)
theorem times_ok {a b : List Rat} {A B K : Nat} (ha : AS A a) (hb : AS B b) (hK : min a.length b.length ≤ K) (h : 1 + K * (A + B + 1) ≤ 4000) (hA : A ≤ 4000) (hB : B ≤ 4000) : TimesOK a b :=
  ⟨ha.all hA, hb.all hB, fun n hn i hi => mx_ok ha hb n i (by omega : i ≤ K) h⟩
theorem co_smul (a b : List Rat) (n : Nat) (h : n < min a.length b.length) : co (smulR a b) n = mx a b n (n + 1) := by
  unfold smulR
  rw [co_range, if_pos h]
theorem smul_len (a b : List Rat) : (smulR a b).length = min a.length b.length := by unfold smulR; simp

/-! the inverse -/
theorem co_app (l : List Rat) (x : Rat) (n : Nat) : co (l ++ [x]) n = if n < l.length then co l n else if n = l.length then x else 0 := by
  unfold co
  rw [List.getD_eq_getElem?_getD, List.getD_eq_getElem?_getD]
  by_cases h : n < l.length
  · rw [if_pos h, List.getElem?_append_left h]
  · rw [if_neg h, List.getElem?_append_right (by omega)]
    by_cases e : n = l.length
    · rw [if_pos e, e, Nat.sub_self]; rfl
    · rw [if_neg e, List.getElem?_eq_none (by simp; omega)]; rfl
theorem sv_co (a : List Rat) : ∀ n m, m < n → co (sv a n) m = sst a (sv a m) m m / co a 0
  | 0, m, h => absurd h (Nat.not_lt_zero _)
  | n + 1, m, h => by
    show co (sv a n ++ [sst a (sv a n) n n / co a 0]) m = _
    rw [co_app, sv_length]
    by_cases q : m < n
    · rw [if_pos q]; exact sv_co a n m q
    · have e : m = n := by omega
      subst e
      rw [if_neg q, if_pos rfl]
theorem sv_pre (a : List Rat) (n m k : Nat) (h1 : k < n) (h2 : k < m) : co (sv a n) k = co (sv a m) k := by rw [sv_co a n k h1, sv_co a m k h2]
theorem sst_part (a f : List Rat) (n : Nat) (ha : Sup (co a)) : ∀ i, i ≤ n → sst a f n i = dl n - (if 1 ≤ i then co a 1 * co f (n - 1) else 0) - (if 2 ≤ i then co a 2 * co f (n - 2) else 0)
  | 0, _ => by
    show (if n = 0 then (1 : Rat) else 0) = _
    rw [if_neg (by decide : ¬ 1 ≤ 0), if_neg (by decide : ¬ 2 ≤ 0)]
    unfold dl
    grind
  | i + 1, h => by
    show sst a f n i - co a (i + 1) * co f (n - (i + 1)) = _
    rw [sst_part a f n ha i (by omega)]
    match i with
    | 0 => simp; grind
    | 1 => simp; grind
    | i + 2 =>
      rw [ha (i + 2 + 1) (by omega), if_pos (by omega), if_pos (by omega), if_pos (by omega), if_pos (by omega)]
      grind
theorem sh_if0 (g : Nat → Rat) (n k : Nat) (x : Rat) : (if k ≤ n then x * g (n - k) else 0) = x * sh k g n := by
  rw [← sh_if]
  by_cases h : k ≤ n
  · rw [if_pos h, if_pos (by omega)]
  · rw [if_neg h, if_neg (by omega)]
theorem sv_T (a : List Rat) (N : Nat) (ha : Sup (co a)) (a0 : co a 0 = 1) (n : Nat) (h : n < N) : T (co a) (co (sv a N)) n = dl n := by
  have e := sv_co a N n h
  rw [sst_part a _ n ha n (Nat.le_refl _), sh_if0 (co (sv a n)) n 1, sh_if0 (co (sv a n)) n 2, a0] at e
  have s : ∀ k, 0 < k → sh k (co (sv a n)) n = sh k (co (sv a N)) n := fun k hk => by
    unfold sh
    split
    · rfl
    · exact sv_pre a n N _ (by omega) (by omega)
  rw [s 1 (by decide), s 2 (by decide)] at e
  unfold T
  rw [a0, e]
  grind
def gF (A : Nat) : Nat → Nat
  | 0 => 1
  | n + 1 => 2 * gF A n + A + 1
theorem gF_ge (A : Nat) : ∀ n, 1 ≤ gF A n
  | 0 => Nat.le_refl _
  | n + 1 => by unfold gF; omega
theorem gF_mono (A : Nat) (m : Nat) : ∀ n, m ≤ n → gF A m ≤ gF A n
  | 0, h => by rw [Nat.le_zero.mp h]; exact Nat.le_refl _
  | n + 1, h => by
    rcases Nat.lt_or_ge n m with q | q
    · rw [show m = n + 1 by omega]; exact Nat.le_refl _
    · have := gF_mono A m n q
      have e : gF A (n + 1) = 2 * gF A n + A + 1 := rfl
      omega
theorem sst_size {a f : List Rat} {A : Nat} (ha : AS A a) (n : Nat) (hf : ∀ k, k < n → Sm (gF A k) (co f k)) : ∀ i, i ≤ n → Sm (gF A n + 1 - gF A (n - i)) (sst a f n i)
  | 0, _ => by
    rw [Nat.sub_zero, Nat.add_sub_cancel_left]
    show Sm 1 (if n = 0 then 1 else 0)
    split
    · exact sm_one (by decide)
    · exact sm_zero (by decide)
  | i + 1, h => by
    have q := sst_size ha n hf i (by omega)
    refine Sm.le (sm_sub q (sm_mul (ha (i + 1)) (hf (n - (i + 1)) (by omega)))) ?_
    have e : gF A (n - i) = 2 * gF A (n - (i + 1)) + A + 1 := by
      rw [show n - i = n - (i + 1) + 1 by omega]; rfl
    have := gF_mono A (n - i) n (by omega)
    omega
theorem sv_size {a : List Rat} {A : Nat} (ha : AS A a) (a0 : co a 0 = 1) (N : Nat) : ∀ n, n < N → Sm (gF A n) (co (sv a N) n) := by
  intro n
  induction n using Nat.strongRecOn with
  | ind n ih =>
    intro hn
    rw [sv_co a N n hn, a0, Rat.div_def, show (1 : Rat)⁻¹ = 1 by grind, Rat.mul_one]
    refine Sm.le (sst_size ha n (fun k hk => ?_) n (Nat.le_refl _)) ?_
    · rw [sv_pre a n N k hk (by omega)]
      exact ih k hk (by omega)
    · rw [Nat.sub_self]
      show _ + 1 - 1 ≤ _
      omega
theorem sv_as {a : List Rat} {A : Nat} (ha : AS A a) (a0 : co a 0 = 1) (N : Nat) : AS (gF A N) (sv a N) := fun n => by
  by_cases h : n < N
  · exact (sv_size ha a0 N n h).le (gF_mono A n N (by omega))
  · rw [co_out (by rw [sv_length]; omega)]
    exact sm_zero (gF_ge A N)
theorem sinv_ok {a : List Rat} {A : Nat} (ha : AS A a) (a0 : co a 0 = 1) (h : A + gF A a.length ≤ 4000) : SinvOK a := by
  have hs : ∀ n, n ≤ a.length → AS (gF A a.length) (sv a n) := fun n hn => (sv_as ha a0 n).le (gF_mono A n _ hn)
  refine ⟨ha.all (by omega), fun n hn => (hs n hn).all (by omega), fun n i hn hi => ?_, fun n i hn hi => ?_⟩
  · refine Sm.ok (sst_size ha n (fun k hk => sv_size ha a0 n k hk) i hi) ?_
    have := gF_mono A n a.length (by omega)
    have := gF_ge A (n - i)
    omega
  · exact (sm_mul (ha (i + 1)) (hs n (by omega) _)).ok h
end
section

structure FracOK (t : Nat → Rat) (top bottom : List Rat) (a b : Nat) : Prop where
  e : ∀ n, n < a + b + 1 → co top n = T (co bottom) t n
  b0 : co bottom 0 = 1
  lt : top.length ≤ a + 1
  lb : bottom.length ≤ b + 1
  st : AS 3 top
  sb : AS 3 bottom
theorem cut_self {l : List Rat} {n : Nat} (h : l.length = n) : cutR l n = l := by
  refine co_ext (by rw [cutR_length, h]) fun m hm => ?_
  rw [cutR_length] at hm
  rw [co_cutR, if_pos hm]
theorem cut_co {l : List Rat} {n : Nat} (h : l.length ≤ n) : co (cutR l n) = co l := funext fun m => by
  rw [co_cutR]
  split
  · rfl
  · exact (co_out (by omega)).symm
theorem scale_len {l : List Rat} {r : Rat} (h : r ≠ 0) : (qscale l r).length = l.length := by
  unfold qscale
  rw [if_neg h, List.length_map]
theorem sm_frac {B : Nat} {x D X : Rat} (hD : D ≠ 0) (h1 : I B D) (h2 : I B X) (e : D * x = X) : Sm B x := by
  obtain ⟨d, rfl, hd⟩ := h1
  obtain ⟨z, rfl, hz⟩ := h2
  have d0 : d ≠ 0 := fun q => hD (by rw [q]; rfl)
  have : x = Rat.divInt z d := by
    rw [Rat.divInt_eq_div, ← e]
    grind
  rw [this]
  exact sm_divInt d0 hz hd
theorem ci_small {ts : List Int} (hI : ∀ n, I 8 (co (ci ts) n)) : ∀ t ∈ ts, t.natAbs < 2 ^ 30 := by
  intro t ht
  obtain ⟨i, hi, e⟩ := List.getElem_of_mem ht
  obtain ⟨z, h1, h2⟩ := hI i
  rw [co_ci] at h1
  have h3 := Rat.intCast_inj.mp h1
  rw [List.getD_eq_getElem?_getD, List.getElem?_eq_getElem hi] at h3
  have h4 : t = z := by rw [← e]; exact h3
  rw [h4]
  exact Nat.lt_trans h2 (by decide)
/-- what holds of the scaled pair -/
theorem after {ts : List Int} {a b : Nat} {top bottom one other : List Rat} (ha : a ≤ 2) (hb : b ≤ 2) (hl : ts.length = a + b + 1) (hI : ∀ n, I 8 (co (ci ts) n)) (hfr : top ≠ [] → FracOK (co (ci ts)) top bottom a b)
    (eqn : ∀ n, n < a + b + 1 → co one n = T (co other) (co (ci ts)) n) (o0 : co other 0 = 1) (l1 : one.length ≤ a + 1) (l2 : other.length ≤ b + 1) (nz1 : Nzl one) (nz2 : Nzl other) (so : AS 20 other) : AfterOK ts a b top bottom one other := by
  have hN : (ci ts).length = a + b + 1 := by rw [ci_len, hl]
  have hts : AS 8 (ci ts) := fun n => (hI n).sm (by decide)
  have hot : Sup (co other) := sup_len (by omega)
  have hon : Sup (co one) := sup_len (by omega)
  have lo : 0 < other.length := lt_of_co (by rw [o0]; decide)
  have s1 : AS 86 one := fun n => by
    by_cases h : n < a + b + 1
    · rw [eqn n h]
      have hsh : ∀ k, Sm 8 (sh k (co (ci ts)) n) := fun k => by
        unfold sh
        split
        · exact sm_zero (by decide)
        · exact hts _
      unfold T
      exact sm_add (sm_add (sm_mul (so 0) (hts n)) (sm_mul (so 1) (hsh 1))) (sm_mul (so 2) (hsh 2))
    · rw [co_out (by omega)]
      exact sm_zero (by decide)
  have co1 : co (cutR one (a + b + 1)) = co one := cut_co (by omega)
  have co2 : co (cutR other (a + b + 1)) = co other := cut_co (by omega)
  have len2 : (cutR other (a + b + 1)).length = a + b + 1 := cutR_length ..
  have len1 : (cutR one (a + b + 1)).length = a + b + 1 := cutR_length ..
  have gFv : ∀ n, n ≤ 5 → gF 20 n ≤ 700 := fun n hn => Nat.le_trans (gF_mono 20 n 5 hn) (by decide)
  have sa := so.cut (a + b + 1)
  have hS : AS 700 (sv (cutR other (a + b + 1)) (a + b + 1)) := (sv_as sa (by rw [co2]; exact o0) _).le (gFv _ (by omega))
  have hST : ∀ n, n < a + b + 1 → T (co other) (co (sv (cutR other (a + b + 1)) (a + b + 1))) n = dl n := fun n hn => by
    have := sv_T (cutR other (a + b + 1)) (a + b + 1) (by rw [co2]; exact hot) (by rw [co2]; exact o0) n hn
    rwa [co2] at this
  have svl : (sv (cutR other (a + b + 1)) (a + b + 1)).length = a + b + 1 := sv_length ..
  refine ⟨solv_true ts a b hb (co other) o0 (fun e => co_out (by omega)) (fun n h1 h2 => ?_), l1, l2, ?_, nz2 lo, ?_, ?_, ?_, by rw [co2, o0]; decide, ?_, ?_, ?_, fun h => ?_, fun h => ?_, fun h => ?_⟩
  · rw [← eqn n h2, co_out (by omega)]
  · cases other with
    | nil => cases lo
    | cons x r => 
      have : x = 1 := o0
      rw [this]; rfl
  · rcases Nat.eq_zero_or_pos one.length with q | q
    · exact .inl (List.length_eq_zero_iff.mp q)
    · exact .inr (nz1 q)
  · exact times_ok (K := 10) sa hts (by rw [len2]; omega) (by decide) (by decide) (by decide)
  · refine co_ext (by rw [smul_len, len2, hN, len1, Nat.min_self]) fun n hn => ?_
    rw [smul_len, len2, hN, Nat.min_self] at hn
    rw [co_smul _ _ _ (by rw [len2, hN]; omega), mx_T _ _ _ (by rw [co2]; exact hot), co1, co2, eqn n hn]
  · refine sinv_ok sa (by rw [co2]; exact o0) ?_
    rw [len2]
    have := gFv (a + b + 1) (by omega)
    omega
  · refine ⟨(s1.cut _).all (by decide), hS.all (by decide), fun n hn i hi => (sm_mul (s1.cut _ i) (hS _)).ok (by decide), fun n hn i hi => mx_ok (K := 5) (s1.cut _) hS n i ?_ (by decide)⟩
    rw [len1, svl, Nat.min_self] at hn
    omega
  · unfold fser
    refine co_ext (by rw [smul_len, len1, svl, hN, Nat.min_self]) fun n hn => ?_
    rw [smul_len, len1, svl, Nat.min_self] at hn
    rw [co_smul _ _ _ (by rw [len1, svl]; omega), mx_T _ _ _ (by rw [co1]; exact hon), co1]
    refine T_inj (co other) _ (co (ci ts)) (a + b + 1) o0 (fun m hm => ?_) n hn
    rw [T_swap, T_congr (co one) hST m hm, T_dl _ hon, eqn m hm]
  · obtain ⟨e, b0, lt, lb, st, sb⟩ := hfr h
    exact times_ok (K := 10) (s1.cut _) (sb.cut _) (by rw [cutR_length]; omega) (by decide) (by decide) (by decide)
  · obtain ⟨e, b0, lt, lb, st, sb⟩ := hfr h
    exact times_ok (K := 10) (so.cut _) (st.cut _) (by rw [cutR_length]; omega) (by decide) (by decide) (by decide)
  · obtain ⟨e, b0, lt, lb, st, sb⟩ := hfr h
    have hbo : Sup (co bottom) := sup_len (by omega)
    refine co_ext (by rw [smul_len, smul_len, cutR_length, cutR_length, cutR_length, cutR_length]) fun n hn => ?_
    rw [smul_len, cutR_length, cutR_length, Nat.min_self] at hn
    rw [co_smul _ _ _ (by rw [cutR_length, cutR_length]; omega), co_smul _ _ _ (by rw [cutR_length, cutR_length]; omega)]
    have e1 : co (cutR one (2 * (a + b + 1))) = co one := cut_co (by omega)
    have e2 : co (cutR other (2 * (a + b + 1))) = co other := cut_co (by omega)
    have e3 : co (cutR bottom (2 * (a + b + 1))) = co bottom := cut_co (by omega)
    have e4 : co (cutR top (2 * (a + b + 1))) = co top := cut_co (by omega)
    rw [mx_T _ _ _ (by rw [e1]; exact hon), mx_T _ _ _ (by rw [e2]; exact hot), e1, e2, e3, e4, T_comm _ _ hon hbo]
    by_cases hn2 : n < a + b + 1
    · rw [T_congr (co bottom) eqn n hn2, T_swap, ← T_congr (co other) e n hn2]
    · have z : ∀ (f g : List Rat), f.length ≤ b + 1 → g.length ≤ a + 1 → T (co f) (co g) n = 0 := fun f g hf hg => by
        have s : ∀ k, k ≤ 2 → co f k * sh k (co g) n = 0 := fun k hk => by
          by_cases hk2 : k < f.length
          · unfold sh
            rw [if_neg (by omega), co_out (l := g) (by omega), Rat.mul_zero]
          · rw [co_out (l := f) (by omega), Rat.zero_mul]
        unfold T
        have s0 := s 0 (by decide)
        rw [sh_zero] at s0
        rw [s0, s 1 (by decide), s 2 (by decide)]
        grind
      rw [z _ _ lb l1, z _ _ l2 lt]
theorem lawok {ts : List Int} {a b : Nat} {top bottom : List Rat} (ha : a ≤ 2) (hb : b ≤ 2) (hl : ts.length = a + b + 1) (hI : ∀ n, I 8 (co (ci ts) n)) (hfr : top ≠ [] → FracOK (co (ci ts)) top bottom a b) (zt : top.length ≤ 10) (zb : bottom.length ≤ 10) : LawOK ts a b top bottom := by
  have hN : (ci ts).length = a + b + 1 := by rw [ci_len, hl]
  have hcut : cutR (ci ts) (a + b + 1) = ci ts := cut_self hN
  obtain ⟨hfw, pr⟩ := euclid ts a b ha hb hl hI
  have hno : (firstw (ci ts) a).2 ≠ [] := fun e => by have := pr.no; rw [e] at this; cases this
  have hp : pade (ci ts) a b = if (firstw (ci ts) a).2 = [] ∨ co (firstw (ci ts) a).2 0 = 0 then none else some (qscale (firstw (ci ts) a).1 (co (firstw (ci ts) a).2 0)⁻¹, qscale (firstw (ci ts) a).2 (co (firstw (ci ts) a).2 0)⁻¹) := by
    unfold pade
    rw [hcut]
  refine ⟨hl, ci_small hI, zt, zb, ?_, fun h => ?_, fun one other h => ?_⟩
  · have hpo : PadeOK (ci ts) a b := by
      have inv := sm_inv (pr.so 0)
      refine ⟨?_, ?_, ?_, ?_, ?_, ?_, ?_, ?_⟩
      all_goals rw [hcut]
      · exact hfw
      · have := pr.le; omega
      · have := pr.lo; omega
      · exact pr.se.all (by decide)
      · exact pr.so.all (by decide)
      · exact fun _ => inv.ok (by decide)
      · exact fun _ x hx => (sm_mul (pr.se.mem hx) inv).ok (by decide)
      · exact fun _ x hx => (sm_mul (pr.so.mem hx) inv).ok (by decide)
    exact hpo
  · rw [hp] at h
    have o0 : co (firstw (ci ts) a).2 0 = 0 := by
      by_cases q : co (firstw (ci ts) a).2 0 = 0
      · exact q
      · rw [if_neg (fun t => t.elim hno q)] at h
        cases h
    have u := pr.uns o0
    refine ⟨Classical.byContradiction fun ht => ?_, solv_false ts a b u⟩
    obtain ⟨e, b0, lt, lb, st, sb⟩ := hfr ht
    exact not_uns _ a b (co bottom) b0 (fun q => co_out (by omega)) (fun n h1 h2 => by rw [← e n h2, co_out (by omega)]) u
  · rw [hp] at h
    by_cases q : co (firstw (ci ts) a).2 0 = 0
    · rw [if_pos (.inr q)] at h
      cases h
    rw [if_neg (fun t => t.elim hno q)] at h
    have h' := Option.some.inj h
    obtain ⟨rfl, rfl⟩ := Prod.mk.inj h'
    have qi : (co (firstw (ci ts) a).2 0)⁻¹ ≠ 0 := fun e => q (by
      have := Rat.inv_mul_cancel _ q
      rw [e, Rat.zero_mul] at this
      exact absurd this (by decide))
    obtain ⟨D, X, Y, d0, i1, i2, i3, c1, c2⟩ := pr.cr q
    have ge3 := pr.lo
    have nz1 := pr.ne
    have nz2 := pr.nz
    have eqn := pr.eq
    have le1 := pr.le
    generalize (firstw (ci ts) a).1 = e at *
    generalize (firstw (ci ts) a).2 = o at *
    generalize hr : (co o 0)⁻¹ = r at *
    have hor : co o 0 * r = 1 := by rw [← hr]; exact Rat.mul_inv_cancel _ q
    have cw : ∀ n, co (qscale o r) n = co o n * r := co_qscale o r
    have k0 : co (qscale o r) 0 = 1 := by rw [cw, hor]
    have nzs : ∀ l : List Rat, Nzl l → Nzl (qscale l r) := fun l hl hp => by
      rw [scale_len qi] at hp ⊢
      rw [co_qscale]
      exact fun z => (Rat.mul_eq_zero.mp z).elim (hl hp) qi
    refine after ha hb hl hI hfr (fun n hn => ?_) k0 (by rw [scale_len qi]; exact le1) (by rw [scale_len qi]; exact ge3) (nzs e nz1) (nzs o nz2) (fun n => ?_)
    · rw [co_qscale, eqn n hn]
      unfold T
      rw [cw, cw, cw]
      grind
    · match n with
      | 0 => rw [k0]; exact sm_one (by decide)
      | 1 =>
        refine sm_frac d0 i1 i2 ?_
        rw [cw]
        have : D * (co o 1 * r) = (D * co o 1) * r := by grind
        rw [this, c1]
        grind
      | 2 =>
        refine sm_frac d0 i1 i3 ?_
        rw [cw]
        have : D * (co o 2 * r) = (D * co o 2) * r := by grind
        rw [this, c2]
        grind
      | n + 3 =>
        rw [cw, co_out (by omega), Rat.zero_mul]
        exact sm_zero (by decide)
end
section

def J (B : Nat) (x : Rat) : Prop := ∃ z : Int, x = (z : Rat) ∧ z.natAbs ≤ B
theorem J.le {A B : Nat} {x : Rat} (h : J A x) (hb : A ≤ B) : J B x := by
  obtain ⟨z, e, h⟩ := h
  exact ⟨z, e, Nat.le_trans h hb⟩
theorem J.mul {A B : Nat} {x y : Rat} (h1 : J A x) (h2 : J B y) : J (A * B) (x * y) := by
  obtain ⟨z, rfl, h1⟩ := h1
  obtain ⟨u, rfl, h2⟩ := h2
  exact ⟨z * u, by rw [Rat.intCast_mul], by rw [Int.natAbs_mul]; exact Nat.mul_le_mul h1 h2⟩
theorem J.sub {A B : Nat} {x y : Rat} (h1 : J A x) (h2 : J B y) : J (A + B) (x - y) := by
  obtain ⟨z, rfl, h1⟩ := h1
  obtain ⟨u, rfl, h2⟩ := h2
  exact ⟨z - u, by rw [Rat.intCast_sub], by omega⟩
theorem J.I {A B : Nat} {x : Rat} (h : J A x) (hb : A < 2 ^ B) : I B x := by
  obtain ⟨z, e, h⟩ := h
  exact ⟨z, e, Nat.lt_of_le_of_lt h hb⟩
theorem J.sm {A B : Nat} {x : Rat} (h : J A x) (hb : A < 2 ^ B) (h1 : 1 ≤ B) : Sm B x := (h.I hb).sm h1
theorem J.zero {B : Nat} : J B 0 := ⟨0, rfl, Nat.zero_le _⟩
theorem J_ci {l : List Int} {B : Nat} (h : ∀ t ∈ l, t.natAbs ≤ B) (n : Nat) : J B (co (ci l) n) := by
  rw [co_ci]
  refine ⟨_, rfl, ?_⟩
  rw [List.getD_eq_getElem?_getD]
  cases q : l[n]? with
  | none => exact Nat.zero_le _
  | some t => exact h t (List.mem_of_getElem? q)
theorem J_cut {l : List Rat} {B : Nat} (h : ∀ n, J B (co l n)) (k n : Nat) : J B (co (cutR l k) n) := by
  rw [co_cutR]
  split
  · exact h n
  · exact J.zero
theorem dv_co (a b : List Rat) : ∀ n m, m < n → co (dv a b n) m = dst a b (dv a b m) m m
  | 0, m, h => absurd h (Nat.not_lt_zero _)
  | n + 1, m, h => by
    show co (dv a b n ++ [dst a b (dv a b n) n n]) m = _
    rw [co_app, dv_length]
    by_cases q : m < n
    · rw [if_pos q]; exact dv_co a b n m q
    · have e : m = n := by omega
      subst e
      rw [if_neg q, if_pos rfl]
theorem dv_pre (a b : List Rat) (n m k : Nat) (h1 : k < n) (h2 : k < m) : co (dv a b n) k = co (dv a b m) k := by rw [dv_co a b n k h1, dv_co a b m k h2]
theorem dst_part (a b f : List Rat) (n : Nat) (hb : Sup (co b)) : ∀ i, i ≤ n → dst a b f n i = co a n - (if 1 ≤ i then co b 1 * co f (n - 1) else 0) - (if 2 ≤ i then co b 2 * co f (n - 2) else 0)
  | 0, _ => by
    show co a n = _
    rw [if_neg (by decide : ¬ 1 ≤ 0), if_neg (by decide : ¬ 2 ≤ 0)]
    grind
  | i + 1, h => by
    show dst a b f n i - co b (i + 1) * co f (n - (i + 1)) = _
    rw [dst_part a b f n hb i (by omega)]
    match i with
    | 0 => simp; grind
    | 1 => simp; grind
    | i + 2 =>
      rw [hb (i + 2 + 1) (by omega), if_pos (by omega), if_pos (by omega), if_pos (by omega), if_pos (by omega)]
      grind
theorem dv_T (a b : List Rat) (N : Nat) (hb : Sup (co b)) (b0 : co b 0 = 1) (n : Nat) (h : n < N) : co a n = T (co b) (co (dv a b N)) n := by
  have e := dv_co a b N n h
  rw [dst_part a b _ n hb n (Nat.le_refl _), sh_if0 (co (dv a b n)) n 1, sh_if0 (co (dv a b n)) n 2] at e
  have s : ∀ k, 0 < k → sh k (co (dv a b n)) n = sh k (co (dv a b N)) n := fun k hk => by
    unfold sh
    split
    · rfl
    · exact dv_pre a b n N _ (by omega) (by omega)
  rw [s 1 (by decide), s 2 (by decide)] at e
  unfold T
  rw [b0, e]
  grind
theorem dst_J (a b f : List Rat) (n : Nat) (ha : ∀ k, J 3 (co a k)) (hb : ∀ k, J 2 (co b k)) (hf : ∀ k, k < n → J (3 ^ (k + 1)) (co f k)) : ∀ i, i ≤ n → J (3 ^ (n + 1) + 3 - 3 ^ (n + 1 - i)) (dst a b f n i)
  | 0, _ => (ha n).le (by rw [Nat.sub_zero]; omega)
  | i + 1, h => by
    have q := dst_J a b f n ha hb hf i (by omega)
    refine J.le (q.sub ((hb (i + 1)).mul (hf (n - (i + 1)) (by omega)))) ?_
    have e1 : 3 ^ (n + 1 - i) = 3 * 3 ^ (n - i) := by rw [show n + 1 - i = n - i + 1 by omega, Nat.pow_succ, Nat.mul_comm]
    have e2 : n - (i + 1) + 1 = n - i := by omega
    have e3 : n + 1 - (i + 1) = n - i := by omega
    have e4 : 3 ^ (n + 1 - i) ≤ 3 ^ (n + 1) := Nat.pow_le_pow_right (by decide) (by omega)
    rw [e2, e3, e1]
    rw [e1] at e4
    omega
theorem dv_J (a b : List Rat) (N : Nat) (ha : ∀ k, J 3 (co a k)) (hb : ∀ k, J 2 (co b k)) : ∀ n, n < N → J (3 ^ (n + 1)) (co (dv a b N) n) := by
  intro n
  induction n using Nat.strongRecOn with
  | ind n ih =>
    intro hn
    rw [dv_co a b N n hn]
    refine J.le (dst_J a b _ n ha hb (fun k hk => ?_) n (Nat.le_refl _)) ?_
    · rw [dv_pre a b n N k hk (by omega)]
      exact ih k hk (by omega)
    · rw [show n + 1 - n = 1 by omega, Nat.pow_one]
      exact Nat.le_of_eq (Nat.add_sub_cancel _ _)
theorem pow3 {n : Nat} (h : n < 5) : 3 ^ (n + 1) ≤ 243 := Nat.le_trans (Nat.pow_le_pow_right (by decide) (by omega : n + 1 ≤ 5)) (by decide)
theorem whole {l : List Rat} {B : Nat} (h : ∀ n, J B (co l n)) : ∃ ts : List Int, l = ci ts := by
  refine ⟨l.map fun x => x.num, ?_⟩
  unfold ci
  rw [List.map_map]
  conv => lhs; rw [← List.map_id l]
  refine List.map_congr_left fun x hx => ?_
  obtain ⟨n, _, e⟩ := mem_co hx
  obtain ⟨z, hz, _⟩ := h n
  rw [e] at hz
  show x = ((x.num : Int) : Rat)
  rw [hz]
  rfl
theorem lawMath : LawMath where
  plain := fun a b ts ha hb hl h => lawok ha hb hl (fun n => (J_ci h n).I (by decide)) (fun q => absurd rfl q) (by decide) (by decide)
  frac := fun a b top bot ha hb ht hbl h1 h2 => by
    have lt : (ci top).length = a + 1 := by rw [ci_len, ht]
    have lb : (ci (1 :: bot)).length = b + 1 := by rw [ci_len, List.length_cons, hbl]
    have jt : ∀ k, J 3 (co (ci top) k) := J_ci h1
    have jb : ∀ k, J 2 (co (ci (1 :: bot)) k) := J_ci fun t m => by
      rcases List.mem_cons.mp m with e | m
      · rw [e]; decide
      · exact h2 t m
    have b0 : co (ci (1 :: bot)) 0 = 1 := rfl
    have ct : ∀ n, J 3 (co (cutR (ci top) (a + b + 1)) n) := J_cut jt _
    have cb : ∀ n, J 2 (co (cutR (ci (1 :: bot)) (a + b + 1)) n) := J_cut jb _
    have et : co (cutR (ci top) (a + b + 1)) = co (ci top) := cut_co (by omega)
    have eb : co (cutR (ci (1 :: bot)) (a + b + 1)) = co (ci (1 :: bot)) := cut_co (by omega)
    have hsup : Sup (co (ci (1 :: bot))) := sup_len (by omega)
    have hv : ∀ k, k ≤ a + b + 1 → ∀ n, J 243 (co (dv (cutR (ci top) (a + b + 1)) (cutR (ci (1 :: bot)) (a + b + 1)) k) n) := fun k hk n => by
      by_cases q : n < k
      · exact (dv_J _ _ k ct cb n q).le (pow3 (by omega))
      · rw [co_out (by rw [dv_length]; omega)]
        exact J.zero
    have hw := dv_T (cutR (ci top) (a + b + 1)) (cutR (ci (1 :: bot)) (a + b + 1)) (a + b + 1) (by rw [eb]; exact hsup) (by rw [eb]; exact b0)
    rw [et, eb] at hw
    have hlen := dv_length (cutR (ci top) (a + b + 1)) (cutR (ci (1 :: bot)) (a + b + 1)) (a + b + 1)
    have hvN := hv (a + b + 1) (Nat.le_refl _)
    obtain ⟨ts, e⟩ := whole hvN
    refine ⟨ts, ⟨fun x hx => ?_, fun k hk => ?_, fun k i hk hi => ?_, e⟩, ?_⟩
    · obtain ⟨n, _, q⟩ := mem_co hx
      rw [← q]
      exact ((cb n).sm (B := 8) (by decide) (by decide)).ok (by decide)
    · exact AS.all (B := 8) (fun n => (hv k hk n).sm (by decide) (by decide)) (by decide)
    · have q := dst_J (cutR (ci top) (a + b + 1)) (cutR (ci (1 :: bot)) (a + b + 1)) (dv (cutR (ci top) (a + b + 1)) (cutR (ci (1 :: bot)) (a + b + 1)) k) k ct cb (fun m hm => dv_J _ _ k ct cb m hm) i hi
      refine Sm.ok (J.sm (J.le q (B := 250) ?_) (B := 8) (by decide) (by decide)) (by decide)
      have := pow3 (n := k) (by omega)
      generalize 3 ^ (k + 1) = x at *
      generalize 3 ^ (k + 1 - i) = y at *
      omega
    · rw [e] at hw hvN hlen
      rw [ci_len] at hlen
      refine lawok ha hb hlen (fun n => (hvN n).I (by decide)) (fun _ => ⟨hw, b0, by omega, by omega, fun n => (jt n).sm (by decide) (by decide), fun n => (jb n).sm (by decide) (by decide)⟩) (by omega) (by omega)
end
section
open PySem PySem.W PyProof.Rows PySem.Calls PySem.Spec
set_option maxRecDepth 100000
def dr (N : List Int) (s m off : Int) (k n : Nat) : List Int := (List.range n).map fun i => drawn N (k + i) s m - off
theorem drawn_range (N : List Int) (k : Nat) (s m : Int) (hm : 0 < m) : 0 ≤ drawn N k s m ∧ drawn N k s m < m := by
  unfold drawn
  split
  · exact ⟨Int.fmod_nonneg_of_pos _ hm, Int.fmod_lt_of_pos _ hm⟩
  · exact ⟨Int.fmod_nonneg_of_pos _ hm, Int.fmod_lt_of_pos _ hm⟩
def dw (N : List Int) (s m off : Int) (k : Nat) : PyData := .tuple [.int (drawn N k s m - off), .int 1]
theorem P_dr (N : List Int) (s m off : Int) (k n : Nat) : P (ci (dr N s m off k n)) = .list ((List.range n).map fun i => dw N s m off (k + i)) := by
  unfold P ci dr
  rw [List.map_map, List.map_map]
  rfl
theorem co_stepB {c : Con} {x : Str} {elt : Expr} {D : Addr} {av : List Addr} (K : Nat) (bf : Nat → List PyData) (g : Nat → PyData) (P : Place c x) {px : Pos} (b : Str) (hb : (b == x) = false)
    (he : ∀ k d, k < K → Ev c ⟨[(x, d)], some (b, D, bf k), av, false⟩ elt ⟨[(x, d)], some (b, D, bf (k + 1)), av, false⟩ (g k)) :
    ∀ (ds : List PyData) (k : Nat), k + ds.length ≤ K → Co c (.Name x px) elt ds ((List.range ds.length).map fun i => g (k + i)) ⟨[], some (b, D, bf k), av, false⟩ ⟨[], some (b, D, bf (k + ds.length)), av, false⟩ := by
  intro ds
  induction ds with
  | nil => intro k _; exact .nil
  | cons d ds ih =>
    intro k hk
    rw [List.length_cons] at hk
    have e1 : ((List.range (d :: ds).length).map fun i => g (k + i)) = g k :: (List.range ds.length).map fun i => g (k + 1 + i) := by
      rw [List.length_cons, List.range_succ_eq_map, List.map_cons, List.map_map]
      congr 1
      refine List.map_congr_left fun i _ => ?_
      show g (k + (i + 1)) = _
      congr 1
      omega
    have e2 : k + (d :: ds).length = k + 1 + ds.length := by simp; omega
    rw [e1, e2]
    refine .cons (σ₁ := ⟨[(x, d)], some (b, D, bf k), av, false⟩) (σ₂ := ⟨[(x, d)], some (b, D, bf (k + 1)), av, false⟩) (σ₂' := ⟨[], some (b, D, bf (k + 1)), av, false⟩) ?_ (he k d (by omega)) rfl rfl rfl (fun _ _ q => nomatch q) (ih (k + 1) (by omega))
    exact as_name (σ := ⟨[], some (b, D, bf k), av, false⟩) P hb
theorem co_rngB {c : Con} {x : Str} {elt : Expr} {D : Addr} {av : List Addr} (K : Nat) (bf : Nat → List PyData) (g : Nat → PyData) (P : Place c x) {px : Pos} (b : Str) (hb : (b == x) = false)
    (he : ∀ k d, k < K → Ev c ⟨[(x, d)], some (b, D, bf k), av, false⟩ elt ⟨[(x, d)], some (b, D, bf (k + 1)), av, false⟩ (g k)) (i : Int) (n k : Nat) (h : k + n ≤ K) :
    Co c (.Name x px) elt (rng i n) ((List.range n).map fun i => g (k + i)) ⟨[], some (b, D, bf k), av, false⟩ ⟨[], some (b, D, bf (k + n)), av, false⟩ := by
  have q := co_stepB K bf g P (px := px) b hb he (rng i n) k (by rw [rng_length]; exact h)
  rw [rng_length] at q
  exact q
theorem pick_last {α : Type} (l : List α) : pick l (some (-1)) none = l.drop (l.length - 1) := by
  show (l.drop (l.length - 1)).take (l.length - (l.length - 1)) = _
  rw [List.take_of_length_le (by rw [List.length_drop]; omega)]
theorem dr_length (N : List Int) (s m off : Int) (k n : Nat) : (dr N s m off k n).length = n := by unfold dr; simp
theorem dr_small (N : List Int) (s m off : Int) (k n : Nat) (B : Nat) (hm : 0 < m) (h1 : -(B : Int) ≤ 0 - off) (h2 : m - 1 - off ≤ B) : ∀ t ∈ dr N s m off k n, t.natAbs ≤ B := by
  intro t ht
  obtain ⟨i, _, rfl⟩ := List.mem_map.mp ht
  have := drawn_range N (k + i) s m hm
  omega
local macro_rules | `(tactic| k_qdec) => `(tactic| decide +kernel)
set_option maxHeartbeats 8000000 in
theorem holds : PySem.Challenge.rw_nn0261_01.Holds := hd (by
  have M : LawMath := lawMath
  k_go0
  all_goals (try k_fold)
  rename_i w _ _ _ _ _ _ _ _ _ _ _ hg KX _ _ _ T _ _ _ _ _ _ _ _ _ ns _ _ _ _ _ _ _ _ _ _ hL ra _ _ hI _ hcd _ K0 _ _ _ F _ hdata N0 X0
  have hl : ns.length ≤ 100 := by omega
  refine law_end (ns := ns) K0 KX T F N0 hdata ?hm hL hI ?hc ?hk ?hks ?hx ?hQ
  case hm => rfl
  case hc => rfl
  case hk => rfl
  case hks => rfl
  case hQ =>
    intro h' tk m' F'
    refine goodW_bool F' hg (raisesW_false ?hn) ?hp
    case hn => wrow_none_raised
    case hp => (refine' postW_of ?s9 ?v9 ?e9; (case s9 => o_shape); (case v9 => wtm_val); (case e9 => w_fin))
  case hx =>
    clear hg KX T hL ra hI hcd K0 F hdata N0 X0
    intro A h₀ L S
    have fb := fn_box w ns hl
    have hN : (nums ns).length ≤ 100 := by unfold nums; simp; omega
    generalize nums ns = N at fb hN
    generalize N.sum.fmod 89 = s at fb
    have ft : ∀ k m, k ≤ 1000 → m ≠ 0 → FnT w "_law_take" 1 (bx N k s) (bx N (k + 1) s) [.int m] (drawn N k s m) := fun k m h1 h2 => fn_take w N k s m h1 hN h2
    refine ex_own_call [] fb (ev_name (by rfl)) (by k_extra "mloc") (by rfl) (by k_extra "msub") (by rfl) (fun D => ?_)
    refine ex_pl ?_
    obtain ⟨a, ha, ha2⟩ : ∃ a : Nat, drawn N 0 s 3 = a ∧ a ≤ 2 := ⟨(drawn N 0 s 3).toNat, by have := drawn_range N 0 s 3 (by decide); omega, by have := drawn_range N 0 s 3 (by decide); omega⟩
    obtain ⟨b, hb, hb2⟩ : ∃ b : Nat, drawn N 1 s 3 = b ∧ b ≤ 2 := ⟨(drawn N 1 s 3).toNat, by have := drawn_range N 1 s 3 (by decide); omega, by have := drawn_range N 1 s 3 (by decide); omega⟩
    have f0 := ft 0 3 (by decide) (by decide)
    have f1 := ft 1 3 (by decide) (by decide)
    have f2 := ft 2 3 (by decide) (by decide)
    rw [ha] at f0
    rw [hb] at f1
    refine ex_cons (sx_swap2 (ev_tuple (evl_cons (ev_take (D := D) f0 (by rfl)) (evl_cons (ev_take (D := D) f1 (by rfl)) evl_nil)) (by exact Nat.le_of_ble_eq_true rfl)) (by k_extra "mloc") (by k_extra "mloc") (by k_extra "mno") (by k_extra "mno") (hw := rfl)) ?_
    refine ex_assign (.int (a + b + 1 : Nat)) (Ev.as (by k_extra "mev") (congrArg PyData.int (by omega))) (by k_extra "mloc") (by k_extra "mno") ?_
    refine ex_swap (P []) (P [1]) (ev_list evl_nil (Nat.zero_le _)) (ev_list (evl1 (ev_tuple (evl2 ev_int ev_int) (by exact Nat.le_of_ble_eq_true rfl))) (by exact Nat.le_of_ble_eq_true rfl)) rfl (by k_extra "mloc") (by k_extra "mloc") (by k_extra "mno") (by k_extra "mno") ?_
    refine ex_sub (σ' := ⟨[("above", .int a), ("below", .int b), ("size", .int (a + b + 1 : Nat)), ("top", P []), ("bottom", P [1])], some ("box", D, bx N 2 s), [D], false⟩) ?_ (by rfl) (by rfl) (by rfl) (by k_extra "msub")
    refine ex_consE (α := List Int × List Rat × List Rat × Nat) (q := fun t => LawOK t.1 a b t.2.1 t.2.2.1) (σf := fun t => ⟨[("above", .int a), ("below", .int b), ("size", .int (a + b + 1 : Nat)), ("top", P t.2.1), ("bottom", P t.2.2.1), ("told", P (ci t.1))], some ("box", D, bx N t.2.2.2 s), [D], false⟩) ?_ ?_
    · by_cases h3 : drawn N 2 s 3 > 0
      · have dt := dr_small N s 7 3 3 (a + 1) 3 (by decide) (by decide) (by decide)
        have db := dr_small N s 5 2 (3 + (a + 1)) b 2 (by decide) (by decide) (by decide)
        obtain ⟨ts, dok, lok⟩ := M.frac a b _ _ ha2 hb2 (dr_length N s 7 3 3 (a + 1)) (dr_length N s 5 2 (3 + (a + 1)) b) dt db
        refine ⟨(ts, ci (dr N s 7 3 3 (a + 1)), ci (1 :: dr N s 5 2 (3 + (a + 1)) b), 3 + (a + 1) + b), lok, ?_⟩
        have fd := fn_divided w (ci (dr N s 7 3 3 (a + 1))) (ci (1 :: dr N s 5 2 (3 + (a + 1)) b)) (a + b + 1) (by unfold ci; rw [List.length_map, dr_length]; omega) (by unfold ci; rw [List.length_map, List.length_cons, dr_length]; omega) (by omega) dok.ob dok.ov dok.ot
        rw [dok.e] at fd
        refine sx_if_t (Ts.as (ts_gt (ev_take (D := D) f2 (by rfl)) ev_int) (decide_eq_true h3)) ?_
        refine ex_cons (sx_comp (own' := some ("box", D, bx N (3 + (a + 1)) s)) (pl' := false) (ρ := []) (ρ' := fun _ _ => []) (ds := rng 0 (a + 1)) (es := (List.range (a + 1)).map fun i => dw N s 7 3 (3 + i)) (it_r1 (by k_extra "mev") (by omega) (by omega) rfl rfl rfl (fun _ _ => rfl)) (by k_extra "mcomp") (by rw [rng_length]; omega) (by exact ⟨rfl, rfl⟩) (fun C D' => ?_) (by k_extra "mloc") (by k_extra "mno")) ?_
        · refine co_rngB 500 (fun k => bx N k s) (dw N s 7 3) (.loc rfl (List.Mem.head _)) "box" (by decide) (fun k d hk => ?_) 0 (a + 1) 3 (by omega)
          exact ev_tuple (evl_cons (ev_sub (ev_take (ft k 7 (by omega) (by decide)) (by rfl)) ev_int) (evl_cons ev_int evl_nil)) (by exact Nat.le_of_ble_eq_true rfl)
        rw [← P_dr]
        refine ex_sub (σ' := ⟨[("above", .int a), ("below", .int b), ("size", .int (a + b + 1 : Nat)), ("top", P (ci (dr N s 7 3 3 (a + 1)))), ("bottom", P [1])], some ("box", D, bx N (3 + (a + 1)) s), [D], false⟩) ?_ (by rfl) (by rfl) (by rfl) (by k_extra "msub")
        refine ex_cons (σ₁ := ⟨[("above", .int a), ("below", .int b), ("size", .int (a + b + 1 : Nat)), ("top", P (ci (dr N s 7 3 3 (a + 1)))), ("bottom", P (ci (1 :: dr N s 5 2 (3 + (a + 1)) b)))], some ("box", D, bx N (3 + (a + 1) + b) s), [D], false⟩) (sx_weak (sx_assign (d := P (ci (1 :: dr N s 5 2 (3 + (a + 1)) b))) (Ev.as (EvF.ev (evf_cat (ds := [rp 1]) (es := (List.range b).map fun i => dw N s 5 2 (3 + (a + 1) + i)) (ev_name (by rfl)) (ev_comp (own' := some ("box", D, bx N (3 + (a + 1) + b) s)) (pl' := false) (ρ := []) (ρ' := fun _ _ => []) (ds := rng 0 b) (it_r1 (by k_extra "mev") (by omega) (by omega) rfl rfl rfl (fun _ _ => rfl)) (by k_extra "mcomp") (by rw [rng_length]; omega) (by exact ⟨rfl, rfl⟩) (fun C D' => ?_)) ?_)) ?_) (by k_extra "mloc") (by k_extra "mno")) (by rfl) (by rfl) (by rfl) (by k_extra "msub")) ?_
        · refine co_rngB 500 (fun k => bx N k s) (dw N s 5 2) (.loc rfl (List.Mem.head _)) "box" (by decide) (fun k d hk => ?_) 0 b (3 + (a + 1)) (by omega)
          exact ev_tuple (evl_cons (ev_sub (ev_take (ft k 5 (by omega) (by decide)) (by rfl)) ev_int) (evl_cons ev_int evl_nil)) (by exact Nat.le_of_ble_eq_true rfl)
        · refine sz ?_
          simp; omega
        · have q := P_dr N s 5 2 (3 + (a + 1)) b
          have q2 : P (ci (1 :: dr N s 5 2 (3 + (a + 1)) b)) = .list (rp 1 :: (ci (dr N s 5 2 (3 + (a + 1)) b)).map rp) := rfl
          unfold P at q
          rw [q2, PyData.list.inj q]
          rfl
        refine ex_assign (P (ci ts)) (ev_call3 fd (ev_name (by rfl)) (ev_name (by rfl)) (ev_name (by rfl))) (by k_extra "mloc") (by k_extra "mno") ?_
        exact ex_weak ex_nil rfl rfl rfl (by k_extra "msub")
      · have db := dr_small N s 5 2 3 (a + b + 1) 2 (by decide) (by decide) (by decide)
        refine ⟨(dr N s 5 2 3 (a + b + 1), [], [1], 3 + (a + b + 1)), M.plain a b _ ha2 hb2 (dr_length ..) db, ?_⟩
        refine sx_if_f (Ts.as (ts_gt (ev_take (D := D) f2 (by rfl)) ev_int) (decide_eq_false h3)) ?_
        refine ex_cons (sx_comp (own' := some ("box", D, bx N (3 + (a + b + 1)) s)) (pl' := false) (ρ := []) (ρ' := fun _ _ => []) (ds := rng 0 (a + b + 1)) (es := (List.range (a + b + 1)).map fun i => dw N s 5 2 (3 + i)) (it_r1 (by k_extra "mev") (by omega) (by omega) rfl rfl rfl (fun _ _ => rfl)) (by k_extra "mcomp") (by rw [rng_length]; omega) (by exact ⟨rfl, rfl⟩) (fun C D' => ?_) (by k_extra "mloc") (by k_extra "mno")) ?_
        · refine co_rngB 500 (fun k => bx N k s) (dw N s 5 2) (.loc rfl (List.Mem.head _)) "box" (by decide) (fun k d hk => ?_) 0 (a + b + 1) 3 (by omega)
          exact ev_tuple (evl_cons (ev_sub (ev_take (ft k 5 (by omega) (by decide)) (by rfl)) ev_int) (evl_cons ev_int evl_nil)) (by exact Nat.le_of_ble_eq_true rfl)
        rw [← P_dr]
        exact ex_weak ex_nil rfl rfl rfl (by k_extra "msub")
    rintro ⟨ts, top, bottom, k⟩ ok
    simp only at ok ⊢
    refine ex_drop ?_
    obtain ⟨hlen, hsm, zt, zb, pok, hnone, hsome⟩ := ok
    have hci : (ci ts).length = a + b + 1 := by unfold ci; simpa using hlen
    have fp := fn_pade w (ci ts) a b (by omega) (by omega) pok
    have fs := fn_solv w ts a b hlen hb2 (by omega) hsm
    refine ex_assign (padeD (pade (ci ts) a b)) (ev_call3 fp (ev_name (by rfl)) (ev_name (by rfl)) (ev_name (by rfl))) (by k_extra "mloc") (by k_extra "mno") ?_
    cases hp : pade (ci ts) a b with
    | none =>
      obtain ⟨h1, h2⟩ := hnone hp
      rw [h2] at fs
      refine ex_ret (sx_if_t (ts_isnone (d := .none) rfl (fun l => nofun) (ev_name (by rfl)) ev_none) (ex_return (Ev.as (ev_and (ev_eq (d₂ := P []) (b := decide (top = [])) (ev_name (by rfl)) (ev_list evl_nil (Nat.zero_le _)) (shaped_P _) (shaped_P _) (eqv_P _ _)) (ev_notb (ev_call3 fs (ev_name (by rfl)) (ev_name (by rfl)) (ev_name (by rfl))))) ?_)))
      rw [decide_eq_true h1]; rfl
    | some p =>
      obtain ⟨one, other⟩ := p
      have ok := hsome one other hp
      clear hnone hsome hp pok fp
      obtain ⟨o1, o2, o3, o4, o5, o6, o7, o8, o9, o10, o11, o12, o13, o14, o15⟩ := ok
      rw [o1] at fs
      have hlo : 0 < other.length := by
        cases other with
        | nil => simp at o4
        | cons _ _ => simp
      have z1 : (one.map rp).length < 2 ^ 60 := by rw [len_P]; omega
      have z2 : (other.map rp).length < 2 ^ 60 := by rw [len_P]; omega
      have z3 : (one.map rp).length ≤ 1000 := by rw [len_P]; omega
      have z4 : (other.map rp).length ≤ 1000 := by rw [len_P]; omega
      refine ex_cons (sx_if_f (ts_isnone (d := .tuple [P one, P other]) rfl (fun l => nofun) (ev_name (by rfl)) ev_none) ex_nil) ?_
      refine ex_cons (sx_assign_t (d := .tuple [P one, P other]) (ev_name (by rfl)) (by k_extra "mas")) ?_
      refine ex_sub (σ' := ⟨[("above", .int a), ("below", .int b), ("size", .int (a + b + 1 : Nat)), ("top", P top), ("bottom", P bottom), ("told", P (ci ts)), ("one", P one), ("other", P other)], none, [], true⟩) ?_ (by rfl) (by rfl) (by rfl) (by k_extra "msub")
      refine ex_cons (sx_if_f (ts_or_f (Ts.as (ts_not (ts_plain (ev_call3 fs (ev_name (by rfl)) (ev_name (by rfl)) (ev_name (by rfl))) truthy_b)) (by rfl)) (ts_or_f (Ts.as (by k_extra "mts") (by rw [len_P]; simp; omega)) (ts_or_f (Ts.as (by k_extra "mts") (by rw [len_P]; simp; omega)) ts_or_nil))) ex_nil) ?_
      refine ex_cons (sx_if_f (ts_or_f (ts_ne (d₁ := P (other.take 1)) (d₂ := P [1]) (Ev.as (EvF.ev (evf_take (n := 1) (ev_name (by rfl)) ev_int z4)) (by rw [map_take]; rfl)) (ev_list (evl1 (ev_tuple (evl2 ev_int ev_int) (by exact Nat.le_of_ble_eq_true rfl))) (by exact Nat.le_of_ble_eq_true rfl)) (shaped_P _) (shaped_P _) (by rw [eqv_P, o4]; simp))
        (ts_or_f (ts_eq (d₂ := rp 0) (ev_last (ev_name (by rfl)) (by k_extra "mev") hlo (by omega)) (ev_tuple (evl2 ev_int ev_int) (by exact Nat.le_of_ble_eq_true rfl)) (shaped_rp _) (shaped_rp _) (by rw [eqv_rp, decide_eq_false o5]))
        (ts_or_f (ts_eq (d₁ := P (one.drop (one.length - 1))) (d₂ := P [0]) (Ev.as (EvF.ev (evf_slice (i := some (-1)) (j := none) (ev_name (by rfl)) ⟨-1, rfl, by k_extra "mev"⟩ ⟨rfl, rfl⟩ (sz z3))) ?_) (ev_list (evl1 (ev_tuple (evl2 ev_int ev_int) (by exact Nat.le_of_ble_eq_true rfl))) (by exact Nat.le_of_ble_eq_true rfl)) (shaped_P _) (shaped_P _) ?_) ts_or_nil))) ex_nil) ?_
      · unfold P
        rw [pick_last, ← List.map_drop, len_P]
      · rw [eqv_P]
        refine decide_eq_false fun q => ?_
        rcases o6 with e | e
        · rw [e] at q; cases q
        · have : co one (one.length - 1) = co (one.drop (one.length - 1)) 0 := by
            unfold co
            rw [List.getD_eq_getElem?_getD, List.getD_eq_getElem?_getD, List.getElem?_drop, Nat.add_zero]
          rw [this, q] at e
          exact e rfl
      have c1 := fn_lcut w other (a + b + 1) (by omega) (by omega)
      have c2 := fn_lcut w one (a + b + 1) (by omega) (by omega)
      have c3 := fn_times w (cutR other (a + b + 1)) (ci ts) (by rw [cutR_length]; omega) (by omega) o7.oa o7.ob o7.m
      rw [o8] at c3
      have c4 := fn_fits_series w (ci ts) one other (by omega) (by omega) (by omega) (by omega) (by rw [hci]; exact o9) (by rw [hci]; exact o10) (by rw [hci]; exact o11)
      rw [hci, decide_eq_true o12] at c4
      refine ex_cons (sx_if_f (ts_or_f (ts_ne (d₁ := P (cutR one (a + b + 1))) (d₂ := P (cutR one (a + b + 1))) (ev_call2 c3 (ev_call2 c1 (ev_name (by rfl)) (ev_name (by rfl))) (ev_name (by rfl))) (ev_call2 c2 (ev_name (by rfl)) (ev_name (by rfl))) (shaped_P _) (shaped_P _) (by rw [eqv_P]; simp))
        (ts_or_f (ts_ne (d₂ := .str "True") (ev_reprb (b := true) (ev_call3 c4 (ev_name (by rfl)) (ev_name (by rfl)) (ev_name (by rfl))) (by rfl) (by rfl) (by rfl)) ev_str (by decide +kernel) (by decide +kernel) (by decide +kernel)) ts_or_nil)) ex_nil) ?_
      by_cases ht : top = []
      · refine ex_cons (sx_if_f (ts_ne (d₁ := P top) (d₂ := P []) (ev_name (by rfl)) (ev_list evl_nil (Nat.zero_le _)) (shaped_P _) (shaped_P _) (by rw [eqv_P, decide_eq_true ht]; rfl)) ex_nil) ?_
        exact ex_return ev_bool
      · have w1 := o13 ht
        have w2 := o14 ht
        have we := o15 ht
        have d1 := fn_lcut w one (2 * (a + b + 1)) (by omega) (by omega)
        have d2 := fn_lcut w bottom (2 * (a + b + 1)) (by omega) (by omega)
        have d3 := fn_lcut w other (2 * (a + b + 1)) (by omega) (by omega)
        have d4 := fn_lcut w top (2 * (a + b + 1)) (by omega) (by omega)
        have d5 := fn_times w _ _ (by rw [cutR_length]; omega) (by rw [cutR_length]; omega) w1.oa w1.ob w1.m
        have d6 := fn_times w _ _ (by rw [cutR_length]; omega) (by rw [cutR_length]; omega) w2.oa w2.ob w2.m
        rw [← we] at d6
        have m2 : IntMulOk 2 ((a + b + 1 : Nat) : Int) := small_mul (by decide) (by omega)
        refine ex_ret (sx_if_t (ts_ne (d₁ := P top) (d₂ := P []) (ev_name (by rfl)) (ev_list evl_nil (Nat.zero_le _)) (shaped_P _) (shaped_P _) (by rw [eqv_P, decide_eq_false ht]; rfl)) ?_)
        refine ex_assign (.int (2 * (a + b + 1) : Nat)) (Ev.as (by k_extra "mev") (congrArg PyData.int (by omega))) (by k_extra "mloc") (by k_extra "mno") ?_
        refine ex_assign (P (smulR (cutR one (2 * (a + b + 1))) (cutR bottom (2 * (a + b + 1))))) (ev_call2 d5 (ev_call2 d1 (ev_name (by rfl)) (ev_name (by rfl))) (ev_call2 d2 (ev_name (by rfl)) (ev_name (by rfl)))) (by k_extra "mloc") (by k_extra "mno") ?_
        exact ex_return (ev_eq (d₂ := P (smulR (cutR one (2 * (a + b + 1))) (cutR bottom (2 * (a + b + 1))))) (ev_name (by rfl)) (ev_call2 d6 (ev_call2 d3 (ev_name (by rfl)) (ev_name (by rfl))) (ev_call2 d4 (ev_name (by rfl)) (ev_name (by rfl)))) (shaped_P _) (shaped_P _) (by rw [eqv_P]; simp)))
end
end Mine
theorem PySem.Challenge.cw_nn0261_01_holds : PySem.Challenge.rw_nn0261_01.Holds := by
  exact Mine.holds
