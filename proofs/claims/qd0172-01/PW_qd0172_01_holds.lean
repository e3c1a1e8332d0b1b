import PyProof.Rows.All
import Wide.All
import OpenK.AllK
import Wide.FinOn
import Lean
import PySem.Challenge.RW_qd0172_01
open PySem PySem.W PyProof.Rows
set_option Elab.async false
set_option maxRecDepth 100000
set_option maxHeartbeats 8000000
set_option linter.unusedVariables false
set_option compiler.extract_closed false
namespace Mine

noncomputable section

/-! the program's statements, by number -/
noncomputable abbrev pw : Program := PySem.Challenge.pw_qd0172_01
noncomputable def bodyTop : List Stmt := PySem.Challenge.pw_qd0172_01.main.body
noncomputable def top (i : Nat) : Stmt := (PySem.Challenge.pw_qd0172_01.main.body[i]?).getD (.Pass default)
noncomputable def inCls (s : Stmt) (j : Nat) : Stmt := match s with
  | .ClassDef _ _ _ b _ _ _ _ _ _ _ => (b[j]?).getD (.Pass default)
  | _ => .Pass default
noncomputable def fnTmp (s : Stmt) (c : Value) (gl bi : Addr) (q : Str) (df kd dc md cd ct : Value) : Obj := match s with
  | .FunctionDef n a b _ _ _ sc _ _ _ => ⟨c, none, .func { name := n, qualname := q, params := a, body := .stmts b, scope := sc, globals := gl, closure := [], defaults := df, kwdefaults := kd, doc := dc, pyModule := md, annotations := none, code := cd, closureTuple := ct, builtins := bi }, #[]⟩
  | _ => default
noncomputable def fnObj (s : Stmt) (q : Str) (df kd dc md cd ct : Value) : Obj := fnTmp s (.type "function") 3 0 q df kd dc md cd ct

/-! objects of the top's run (printed by wip/GenFrag.lean) -/
noncomputable def x11 : Obj := ⟨(.type "tuple"), none, .seq #[] 0, #[]⟩
noncomputable def x12 : Obj := ⟨.none, none, .fields #[], #[]⟩
noncomputable def x13 : Obj := ⟨(.type "code"), none, .fields #[(.str (Str.ofString "<module>") 182), (.str (Str.ofString "<module>") 183), (.str (Str.ofString "/claim/cut.py") 184), (.int 1 0), (.int 0 0), (.int 0 0), (.int 0 0), (.int 0 0), (.ref 11), (.bool false), (.int 181 0), (.ref 12), .none, .none, .none, .none, (.int 185 0), (.int 1 0), (.str (Str.ofString "/claim/cut.py") 186)], #[]⟩
noncomputable def x14 : Obj := ⟨(.type "frame"), none, .plain, #[some (.ref 13), some (.ref 3), some (.ref 3), none, some (.str (Str.ofString "__main__") 164), none, some (.ref 0)]⟩
noncomputable def x2 (P : Params) : Obj := ⟨.none, none, .dict (List.toArray [⟨PyData.keyHash P (Str.ofString "type.__subclasses__.Exception.0"), (.str (Str.ofString "type.__subclasses__.Exception.0") 270), (.int 80 0)⟩, ⟨PyData.keyHash P (Str.ofString "type.__subclasses__.Exception.n"), (.str (Str.ofString "type.__subclasses__.Exception.n") 271), (.int 1 0)⟩]) 2, #[]⟩
noncomputable def x3 (P : Params) : Obj := ⟨(.type "dict"), none, .dict (List.toArray [⟨PyData.keyHash P (Str.ofString "__name__"), (.str (Str.ofString "__name__") 165), (.str (Str.ofString "vectorcove.errors") 252)⟩, ⟨PyData.keyHash P (Str.ofString "__doc__"), (.str (Str.ofString "__doc__") 166), .none⟩, ⟨PyData.keyHash P (Str.ofString "__package__"), (.str (Str.ofString "__package__") 167), .none⟩, ⟨PyData.keyHash P (Str.ofString "__loader__"), (.str (Str.ofString "__loader__") 168), (.builtin "__main__.__loader__#opaque")⟩, ⟨PyData.keyHash P (Str.ofString "__spec__"), (.str (Str.ofString "__spec__") 169), .none⟩, ⟨PyData.keyHash P (Str.ofString "__annotations__"), (.str (Str.ofString "__annotations__") 170), (.ref 6)⟩, ⟨PyData.keyHash P (Str.ofString "__builtins__"), (.str (Str.ofString "__builtins__") 171), (.ref 4)⟩, ⟨PyData.keyHash P (Str.ofString "__file__"), (.str (Str.ofString "__file__") 173), (.str (Str.ofString "/claim/cut.py") 172)⟩, ⟨PyData.keyHash P (Str.ofString "__cached__"), (.str (Str.ofString "__cached__") 174), .none⟩, ⟨PyData.keyHash P (Str.ofString "_wall"), (.str (Str.ofString "_wall") 193), (.ref 21)⟩, ⟨PyData.keyHash P (Str.ofString "get_attr"), (.str (Str.ofString "get_attr") 203), (.ref 28)⟩, ⟨PyData.keyHash P (Str.ofString "dim_of"), (.str (Str.ofString "dim_of") 211), (.ref 35)⟩, ⟨PyData.keyHash P (Str.ofString "class_attr"), (.str (Str.ofString "class_attr") 219), (.ref 42)⟩, ⟨PyData.keyHash P (Str.ofString "language_class"), (.str (Str.ofString "language_class") 227), (.ref 49)⟩, ⟨PyData.keyHash P (Str.ofString "shape_class"), (.str (Str.ofString "shape_class") 235), (.ref 56)⟩, ⟨PyData.keyHash P (Str.ofString "plain_class"), (.str (Str.ofString "plain_class") 243), (.ref 63)⟩, ⟨PyData.keyHash P (Str.ofString "class_of"), (.str (Str.ofString "class_of") 251), (.ref 70)⟩, ⟨PyData.keyHash P (Str.ofString "CoveError"), (.str (Str.ofString "CoveError") 273), (.ref 80)⟩, ⟨PyData.keyHash P (Str.ofString "Refusal"), (.str (Str.ofString "Refusal") 298), (.ref 100)⟩]) 19, #[]⟩
noncomputable def x12v1 : Obj := ⟨.none, none, .fields #[(.int 1 0), (.int 0 0), (.ref 20), (.int 5 0), (.int 0 0), (.ref 27), (.int 9 0), (.int 0 0), (.ref 34), (.int 14 0), (.int 0 0), (.ref 41), (.int 19 0), (.int 0 0), (.ref 48), (.int 24 0), (.int 0 0), (.ref 55), (.int 29 0), (.int 0 0), (.ref 62), (.int 40 0), (.int 0 0), (.ref 69), (.int 49 0), (.int 0 0), (.ref 76), (.int 51 0), (.int 0 0), (.ref 89)], #[]⟩
noncomputable def x15 : Obj := ⟨(.type "tuple"), none, .seq #[] 0, #[]⟩
noncomputable def x16 : Obj := ⟨.none, none, .fields #[], #[]⟩
noncomputable def x17 : Obj := ⟨(.type "tuple"), none, .seq #[(.str (Str.ofString "k") 190)] 0, #[]⟩
noncomputable def x18 : Obj := ⟨(.type "tuple"), none, .seq #[] 0, #[]⟩
noncomputable def x19 : Obj := fnTmp (top 0) .none 0 0 (Str.ofString "_wall") .none .none .none .none .none .none
noncomputable def x20 : Obj := ⟨(.type "code"), none, .fields #[(.str (Str.ofString "_wall") 187), (.str (Str.ofString "_wall") 188), (.str (Str.ofString "/claim/cut.py") 189), (.int 1 0), (.int 1 0), (.int 0 0), (.int 0 0), (.int 3 0), (.ref 15), (.bool true), (.int 181 0), (.ref 16), .none, (.ref 17), (.ref 18), (.ref 19), (.int 191 0), (.int 1 0), (.str (Str.ofString "/claim/cut.py") 192)], #[]⟩
noncomputable def x21 : Obj := fnObj (top 0) (Str.ofString "_wall") .none .none .none (.str (Str.ofString "__main__") 164) (.ref 20) .none
noncomputable def x22 : Obj := ⟨(.type "tuple"), none, .seq #[] 0, #[]⟩
noncomputable def x23 : Obj := ⟨.none, none, .fields #[], #[]⟩
noncomputable def x24 : Obj := ⟨(.type "tuple"), none, .seq #[(.str (Str.ofString "v") 199), (.str (Str.ofString "name") 200)] 0, #[]⟩
noncomputable def x25 : Obj := ⟨(.type "tuple"), none, .seq #[] 0, #[]⟩
noncomputable def x26 : Obj := fnTmp (top 2) .none 0 0 (Str.ofString "get_attr") .none .none .none .none .none .none
noncomputable def x27 : Obj := ⟨(.type "code"), none, .fields #[(.str (Str.ofString "get_attr") 196), (.str (Str.ofString "get_attr") 197), (.str (Str.ofString "/claim/cut.py") 198), (.int 5 0), (.int 2 0), (.int 0 0), (.int 0 0), (.int 3 0), (.ref 22), (.bool true), (.int 181 0), (.ref 23), .none, (.ref 24), (.ref 25), (.ref 26), (.int 201 0), (.int 5 0), (.str (Str.ofString "/claim/cut.py") 202)], #[]⟩
noncomputable def x28 : Obj := by
  refine (fun (o : Obj) (_ : fnObj (top 2) (Str.ofString "get_attr") .none .none .none (.str (Str.ofString "vectorcove.attrs") 194) (.ref 27) .none = o) => o) ?_ ?h
  rotate_left
  conv => lhs; whnf
noncomputable def x29 : Obj := ⟨(.type "tuple"), none, .seq #[] 0, #[]⟩
noncomputable def x30 : Obj := ⟨.none, none, .fields #[], #[]⟩
noncomputable def x31 : Obj := ⟨(.type "tuple"), none, .seq #[(.str (Str.ofString "v") 207), (.str (Str.ofString "dims") 208)] 0, #[]⟩
noncomputable def x32 : Obj := ⟨(.type "tuple"), none, .seq #[] 0, #[]⟩
noncomputable def x33 : Obj := fnTmp (top 3) .none 0 0 (Str.ofString "dim_of") .none .none .none .none .none .none
noncomputable def x34 : Obj := ⟨(.type "code"), none, .fields #[(.str (Str.ofString "dim_of") 204), (.str (Str.ofString "dim_of") 205), (.str (Str.ofString "/claim/cut.py") 206), (.int 9 0), (.int 1 0), (.int 0 0), (.int 0 0), (.int 3 0), (.ref 29), (.bool true), (.int 181 0), (.ref 30), .none, (.ref 31), (.ref 32), (.ref 33), (.int 209 0), (.int 9 0), (.str (Str.ofString "/claim/cut.py") 210)], #[]⟩
noncomputable def x35 : Obj := by
  refine (fun (o : Obj) (_ : fnObj (top 3) (Str.ofString "dim_of") .none .none .none (.str (Str.ofString "vectorcove.attrs") 194) (.ref 34) .none = o) => o) ?_ ?h
  rotate_left
  conv => lhs; whnf
noncomputable def x36 : Obj := ⟨(.type "tuple"), none, .seq #[] 0, #[]⟩
noncomputable def x37 : Obj := ⟨.none, none, .fields #[], #[]⟩
noncomputable def x38 : Obj := ⟨(.type "tuple"), none, .seq #[(.str (Str.ofString "v") 215), (.str (Str.ofString "found") 216)] 0, #[]⟩
noncomputable def x39 : Obj := ⟨(.type "tuple"), none, .seq #[] 0, #[]⟩
noncomputable def x40 : Obj := fnTmp (top 4) .none 0 0 (Str.ofString "class_attr") .none .none .none .none .none .none
noncomputable def x41 : Obj := ⟨(.type "code"), none, .fields #[(.str (Str.ofString "class_attr") 212), (.str (Str.ofString "class_attr") 213), (.str (Str.ofString "/claim/cut.py") 214), (.int 14 0), (.int 1 0), (.int 0 0), (.int 0 0), (.int 3 0), (.ref 36), (.bool true), (.int 181 0), (.ref 37), .none, (.ref 38), (.ref 39), (.ref 40), (.int 217 0), (.int 14 0), (.str (Str.ofString "/claim/cut.py") 218)], #[]⟩
noncomputable def x42 : Obj := by
  refine (fun (o : Obj) (_ : fnObj (top 4) (Str.ofString "class_attr") .none .none .none (.str (Str.ofString "vectorcove.attrs") 194) (.ref 41) .none = o) => o) ?_ ?h
  rotate_left
  conv => lhs; whnf
noncomputable def x43 : Obj := ⟨(.type "tuple"), none, .seq #[] 0, #[]⟩
noncomputable def x44 : Obj := ⟨.none, none, .fields #[], #[]⟩
noncomputable def x45 : Obj := ⟨(.type "tuple"), none, .seq #[(.str (Str.ofString "v") 223), (.str (Str.ofString "head") 224)] 0, #[]⟩
noncomputable def x46 : Obj := ⟨(.type "tuple"), none, .seq #[] 0, #[]⟩
noncomputable def x47 : Obj := fnTmp (top 5) .none 0 0 (Str.ofString "language_class") .none .none .none .none .none .none
noncomputable def x48 : Obj := ⟨(.type "code"), none, .fields #[(.str (Str.ofString "language_class") 220), (.str (Str.ofString "language_class") 221), (.str (Str.ofString "/claim/cut.py") 222), (.int 19 0), (.int 1 0), (.int 0 0), (.int 0 0), (.int 3 0), (.ref 43), (.bool true), (.int 181 0), (.ref 44), .none, (.ref 45), (.ref 46), (.ref 47), (.int 225 0), (.int 19 0), (.str (Str.ofString "/claim/cut.py") 226)], #[]⟩
noncomputable def x49 : Obj := by
  refine (fun (o : Obj) (_ : fnObj (top 5) (Str.ofString "language_class") .none .none .none (.str (Str.ofString "vectorcove.attrs") 194) (.ref 48) .none = o) => o) ?_ ?h
  rotate_left
  conv => lhs; whnf
noncomputable def x50 : Obj := ⟨(.type "tuple"), none, .seq #[] 0, #[]⟩
noncomputable def x51 : Obj := ⟨.none, none, .fields #[], #[]⟩
noncomputable def x52 : Obj := ⟨(.type "tuple"), none, .seq #[(.str (Str.ofString "v") 231), (.str (Str.ofString "dims") 232)] 0, #[]⟩
noncomputable def x53 : Obj := ⟨(.type "tuple"), none, .seq #[] 0, #[]⟩
noncomputable def x54 : Obj := fnTmp (top 6) .none 0 0 (Str.ofString "shape_class") .none .none .none .none .none .none
noncomputable def x55 : Obj := ⟨(.type "code"), none, .fields #[(.str (Str.ofString "shape_class") 228), (.str (Str.ofString "shape_class") 229), (.str (Str.ofString "/claim/cut.py") 230), (.int 24 0), (.int 1 0), (.int 0 0), (.int 0 0), (.int 3 0), (.ref 50), (.bool true), (.int 181 0), (.ref 51), .none, (.ref 52), (.ref 53), (.ref 54), (.int 233 0), (.int 24 0), (.str (Str.ofString "/claim/cut.py") 234)], #[]⟩
noncomputable def x56 : Obj := by
  refine (fun (o : Obj) (_ : fnObj (top 6) (Str.ofString "shape_class") .none .none .none (.str (Str.ofString "vectorcove.attrs") 194) (.ref 55) .none = o) => o) ?_ ?h
  rotate_left
  conv => lhs; whnf
noncomputable def x57 : Obj := ⟨(.type "tuple"), none, .seq #[] 0, #[]⟩
noncomputable def x58 : Obj := ⟨.none, none, .fields #[], #[]⟩
noncomputable def x59 : Obj := ⟨(.type "tuple"), none, .seq #[(.str (Str.ofString "v") 239), (.str (Str.ofString "kind") 240)] 0, #[]⟩
noncomputable def x60 : Obj := ⟨(.type "tuple"), none, .seq #[] 0, #[]⟩
noncomputable def x61 : Obj := fnTmp (top 7) .none 0 0 (Str.ofString "plain_class") .none .none .none .none .none .none
noncomputable def x62 : Obj := ⟨(.type "code"), none, .fields #[(.str (Str.ofString "plain_class") 236), (.str (Str.ofString "plain_class") 237), (.str (Str.ofString "/claim/cut.py") 238), (.int 29 0), (.int 1 0), (.int 0 0), (.int 0 0), (.int 3 0), (.ref 57), (.bool true), (.int 181 0), (.ref 58), .none, (.ref 59), (.ref 60), (.ref 61), (.int 241 0), (.int 29 0), (.str (Str.ofString "/claim/cut.py") 242)], #[]⟩
noncomputable def x63 : Obj := by
  refine (fun (o : Obj) (_ : fnObj (top 7) (Str.ofString "plain_class") .none .none .none (.str (Str.ofString "vectorcove.attrs") 194) (.ref 62) .none = o) => o) ?_ ?h
  rotate_left
  conv => lhs; whnf
noncomputable def x64 : Obj := ⟨(.type "tuple"), none, .seq #[] 0, #[]⟩
noncomputable def x65 : Obj := ⟨.none, none, .fields #[], #[]⟩
noncomputable def x66 : Obj := ⟨(.type "tuple"), none, .seq #[(.str (Str.ofString "v") 247), (.str (Str.ofString "rows") 248)] 0, #[]⟩
noncomputable def x67 : Obj := ⟨(.type "tuple"), none, .seq #[] 0, #[]⟩
noncomputable def x68 : Obj := fnTmp (top 8) .none 0 0 (Str.ofString "class_of") .none .none .none .none .none .none
noncomputable def x69 : Obj := ⟨(.type "code"), none, .fields #[(.str (Str.ofString "class_of") 244), (.str (Str.ofString "class_of") 245), (.str (Str.ofString "/claim/cut.py") 246), (.int 40 0), (.int 1 0), (.int 0 0), (.int 0 0), (.int 3 0), (.ref 64), (.bool true), (.int 181 0), (.ref 65), .none, (.ref 66), (.ref 67), (.ref 68), (.int 249 0), (.int 40 0), (.str (Str.ofString "/claim/cut.py") 250)], #[]⟩
noncomputable def x70 : Obj := by
  refine (fun (o : Obj) (_ : fnObj (top 8) (Str.ofString "class_of") .none .none .none (.str (Str.ofString "vectorcove.attrs") 194) (.ref 69) .none = o) => o) ?_ ?h
  rotate_left
  conv => lhs; whnf
noncomputable def x71 : Obj := ⟨(.type "tuple"), none, .seq #[(.type "Exception")] 0, #[]⟩
noncomputable def x72 : Obj := ⟨(.type "builtin_function_or_method"), none, .fields #[(.builtin "type.__prepare__"), (.type "type")], #[]⟩
noncomputable def x73 (P : Params) : Obj := ⟨(.type "dict"), none, .dict (List.toArray [⟨PyData.keyHash P (Str.ofString "__module__"), (.str (Str.ofString "__module__") 261), (.str (Str.ofString "vectorcove.errors") 252)⟩, ⟨PyData.keyHash P (Str.ofString "__qualname__"), (.str (Str.ofString "__qualname__") 263), (.str (Str.ofString "CoveError") 262)⟩, ⟨PyData.keyHash P (Str.ofString "__firstlineno__"), (.str (Str.ofString "__firstlineno__") 265), (.int 49 264)⟩, ⟨PyData.keyHash P (Str.ofString "__static_attributes__"), (.str (Str.ofString "__static_attributes__") 266), (.ref 78)⟩]) 4, #[]⟩
noncomputable def x74 : Obj := ⟨(.type "tuple"), none, .seq #[] 0, #[]⟩
noncomputable def x75 : Obj := ⟨.none, none, .fields #[], #[]⟩
noncomputable def x76 : Obj := ⟨(.type "code"), none, .fields #[(.str (Str.ofString "CoveError") 256), (.str (Str.ofString "CoveError") 257), (.str (Str.ofString "/claim/cut.py") 258), (.int 49 0), (.int 0 0), (.int 0 0), (.int 0 0), (.int 0 0), (.ref 74), (.bool false), (.int 181 0), (.ref 75), .none, .none, .none, .none, (.int 259 0), (.int 49 0), (.str (Str.ofString "/claim/cut.py") 260)], #[]⟩
noncomputable def x77 : Obj := ⟨(.type "frame"), none, .plain, #[some (.ref 76), some (.ref 3), some (.ref 73), none, some (.str (Str.ofString "vectorcove.errors") 252), none, some (.ref 0)]⟩
noncomputable def x78 : Obj := ⟨(.type "tuple"), none, .seq #[] 0, #[]⟩
noncomputable def x79 (P : Params) : Obj := ⟨(.type "dict"), none, .dict (List.toArray [⟨PyData.keyHash P (Str.ofString "__module__"), (.str (Str.ofString "__module__") 261), (.str (Str.ofString "vectorcove.errors") 252)⟩, ⟨PyData.keyHash P (Str.ofString "__firstlineno__"), (.str (Str.ofString "__firstlineno__") 265), (.int 49 264)⟩, ⟨PyData.keyHash P (Str.ofString "__static_attributes__"), (.str (Str.ofString "__static_attributes__") 266), (.ref 78)⟩, ⟨PyData.keyHash P (Str.ofString "__weakref__"), (.str (Str.ofString "__weakref__") 268), (.ref 81)⟩, ⟨PyData.keyHash P (Str.ofString "__doc__"), (.str (Str.ofString "__doc__") 269), .none⟩]) 3, #[]⟩
noncomputable def x80 : Obj := ⟨(.type "type"), none, .cls { name := (Str.ofString "CoveError"), bases := [(.type "Exception")], mro := [(.ref 80), (.type "Exception"), (.type "BaseException"), (.type "object")], ns := 79, qualname := (Str.ofString "CoveError"), hasDict := true, slotNames := [], subclasses := [(.ref 100)], abstract := false, collection := none, hasDel := false }, #[some (.ref 71), none, some (.str (Str.ofString "CoveError") 254), some (.str (Str.ofString "CoveError") 262), some (.builtin "Exception.__new__"), some (.bool true)]⟩
noncomputable def x81 : Obj := ⟨(.type "getset_descriptor"), none, .fields #[(.str (Str.ofString "__weakref__") 267), (.ref 80), (.builtin "ExceptionGroup.__weakref__"), .none], #[]⟩
noncomputable def x82 : Obj := ⟨(.type "super"), none, .fields #[(.ref 80), (.ref 80), (.ref 80)], #[]⟩
noncomputable def x83 : Obj := ⟨(.type "builtin_function_or_method"), none, .fields #[(.builtin "object.__init_subclass__"), (.ref 80)], #[]⟩
noncomputable def x84 : Obj := ⟨(.type "tuple"), none, .seq #[(.ref 80)] 0, #[]⟩
noncomputable def x85 : Obj := ⟨(.type "builtin_function_or_method"), none, .fields #[(.builtin "type.__prepare__"), (.type "type")], #[]⟩
noncomputable def x86 (P : Params) : Obj := ⟨(.type "dict"), none, .dict (List.toArray [⟨PyData.keyHash P (Str.ofString "__module__"), (.str (Str.ofString "__module__") 281), (.str (Str.ofString "vectorcove.errors") 252)⟩, ⟨PyData.keyHash P (Str.ofString "__qualname__"), (.str (Str.ofString "__qualname__") 283), (.str (Str.ofString "Refusal") 282)⟩, ⟨PyData.keyHash P (Str.ofString "__firstlineno__"), (.str (Str.ofString "__firstlineno__") 285), (.int 51 284)⟩, ⟨PyData.keyHash P (Str.ofString "__init__"), (.str (Str.ofString "__init__") 293), (.ref 97)⟩, ⟨PyData.keyHash P (Str.ofString "__static_attributes__"), (.str (Str.ofString "__static_attributes__") 295), (.ref 98)⟩]) 5, #[]⟩
noncomputable def x87 : Obj := ⟨(.type "tuple"), none, .seq #[] 0, #[]⟩
noncomputable def x88 : Obj := ⟨.none, none, .fields #[(.int 53 0), (.int 4 0), (.ref 96)], #[]⟩
noncomputable def x89 : Obj := ⟨(.type "code"), none, .fields #[(.str (Str.ofString "Refusal") 276), (.str (Str.ofString "Refusal") 277), (.str (Str.ofString "/claim/cut.py") 278), (.int 51 0), (.int 0 0), (.int 0 0), (.int 0 0), (.int 0 0), (.ref 87), (.bool false), (.int 181 0), (.ref 88), .none, .none, .none, .none, (.int 279 0), (.int 51 0), (.str (Str.ofString "/claim/cut.py") 280)], #[]⟩
noncomputable def x90 : Obj := ⟨(.type "frame"), none, .plain, #[some (.ref 89), some (.ref 3), some (.ref 86), none, some (.str (Str.ofString "vectorcove.errors") 252), none, some (.ref 0)]⟩
noncomputable def x91 : Obj := ⟨(.type "tuple"), none, .seq #[] 0, #[]⟩
noncomputable def x92 : Obj := ⟨.none, none, .fields #[], #[]⟩
noncomputable def x93 : Obj := ⟨(.type "tuple"), none, .seq #[(.str (Str.ofString "self") 289), (.str (Str.ofString "message") 290)] 0, #[]⟩
noncomputable def x94 : Obj := ⟨(.type "tuple"), none, .seq #[] 0, #[]⟩
noncomputable def x95 : Obj := fnTmp (inCls (top 11) 0) .none 0 0 (Str.ofString "Refusal.__init__") .none .none .none .none .none .none
noncomputable def x96 : Obj := ⟨(.type "code"), none, .fields #[(.str (Str.ofString "__init__") 286), (.str (Str.ofString "Refusal.__init__") 287), (.str (Str.ofString "/claim/cut.py") 288), (.int 53 0), (.int 2 0), (.int 0 0), (.int 0 0), (.int 3 0), (.ref 91), (.bool true), (.int 181 0), (.ref 92), .none, (.ref 93), (.ref 94), (.ref 95), (.int 291 0), (.int 53 0), (.str (Str.ofString "/claim/cut.py") 292)], #[]⟩
noncomputable def x97 : Obj := fnObj (inCls (top 11) 0) (Str.ofString "Refusal.__init__") .none .none .none (.str (Str.ofString "vectorcove.errors") 252) (.ref 96) .none
noncomputable def x98 : Obj := ⟨(.type "tuple"), none, .seq #[(.str (Str.ofString "message") 294)] 0, #[]⟩
noncomputable def x99 (P : Params) : Obj := ⟨(.type "dict"), none, .dict (List.toArray [⟨PyData.keyHash P (Str.ofString "__module__"), (.str (Str.ofString "__module__") 281), (.str (Str.ofString "vectorcove.errors") 252)⟩, ⟨PyData.keyHash P (Str.ofString "__firstlineno__"), (.str (Str.ofString "__firstlineno__") 285), (.int 51 284)⟩, ⟨PyData.keyHash P (Str.ofString "__init__"), (.str (Str.ofString "__init__") 293), (.ref 97)⟩, ⟨PyData.keyHash P (Str.ofString "__static_attributes__"), (.str (Str.ofString "__static_attributes__") 295), (.ref 98)⟩, ⟨PyData.keyHash P (Str.ofString "__doc__"), (.str (Str.ofString "__doc__") 296), .none⟩]) 2, #[]⟩
noncomputable def x100 : Obj := ⟨(.type "type"), none, .cls { name := (Str.ofString "Refusal"), bases := [(.ref 80)], mro := [(.ref 100), (.ref 80), (.type "Exception"), (.type "BaseException"), (.type "object")], ns := 99, qualname := (Str.ofString "Refusal"), hasDict := true, slotNames := [], subclasses := [], abstract := false, collection := none, hasDel := false }, #[some (.ref 84), none, some (.str (Str.ofString "Refusal") 274), some (.str (Str.ofString "Refusal") 282), some (.builtin "Exception.__new__"), some (.bool true)]⟩
noncomputable def x101 : Obj := ⟨(.type "super"), none, .fields #[(.ref 100), (.ref 100), (.ref 100)], #[]⟩
noncomputable def x102 : Obj := ⟨(.type "builtin_function_or_method"), none, .fields #[(.builtin "object.__init_subclass__"), (.ref 100)], #[]⟩
noncomputable def x3v1 (P : Params) : Obj := ⟨(.type "dict"), none, .dict (List.toArray [⟨PyData.keyHash P (Str.ofString "__name__"), (.str (Str.ofString "__name__") 165), (.str (Str.ofString "vectorcove.values") 429)⟩, ⟨PyData.keyHash P (Str.ofString "__doc__"), (.str (Str.ofString "__doc__") 166), .none⟩, ⟨PyData.keyHash P (Str.ofString "__package__"), (.str (Str.ofString "__package__") 167), .none⟩, ⟨PyData.keyHash P (Str.ofString "__loader__"), (.str (Str.ofString "__loader__") 168), (.builtin "__main__.__loader__#opaque")⟩, ⟨PyData.keyHash P (Str.ofString "__spec__"), (.str (Str.ofString "__spec__") 169), .none⟩, ⟨PyData.keyHash P (Str.ofString "__annotations__"), (.str (Str.ofString "__annotations__") 170), (.ref 6)⟩, ⟨PyData.keyHash P (Str.ofString "__builtins__"), (.str (Str.ofString "__builtins__") 171), (.ref 4)⟩, ⟨PyData.keyHash P (Str.ofString "__file__"), (.str (Str.ofString "__file__") 173), (.str (Str.ofString "/claim/cut.py") 172)⟩, ⟨PyData.keyHash P (Str.ofString "__cached__"), (.str (Str.ofString "__cached__") 174), .none⟩, ⟨PyData.keyHash P (Str.ofString "_wall"), (.str (Str.ofString "_wall") 193), (.ref 21)⟩, ⟨PyData.keyHash P (Str.ofString "get_attr"), (.str (Str.ofString "get_attr") 203), (.ref 28)⟩, ⟨PyData.keyHash P (Str.ofString "dim_of"), (.str (Str.ofString "dim_of") 211), (.ref 35)⟩, ⟨PyData.keyHash P (Str.ofString "class_attr"), (.str (Str.ofString "class_attr") 219), (.ref 42)⟩, ⟨PyData.keyHash P (Str.ofString "language_class"), (.str (Str.ofString "language_class") 227), (.ref 49)⟩, ⟨PyData.keyHash P (Str.ofString "shape_class"), (.str (Str.ofString "shape_class") 235), (.ref 56)⟩, ⟨PyData.keyHash P (Str.ofString "plain_class"), (.str (Str.ofString "plain_class") 243), (.ref 63)⟩, ⟨PyData.keyHash P (Str.ofString "class_of"), (.str (Str.ofString "class_of") 251), (.ref 70)⟩, ⟨PyData.keyHash P (Str.ofString "CoveError"), (.str (Str.ofString "CoveError") 273), (.ref 80)⟩, ⟨PyData.keyHash P (Str.ofString "Refusal"), (.str (Str.ofString "Refusal") 298), (.ref 100)⟩, ⟨PyData.keyHash P (Str.ofString "NAN"), (.str (Str.ofString "NAN") 303), (.ref 103)⟩, ⟨PyData.keyHash P (Str.ofString "ZERO"), (.str (Str.ofString "ZERO") 306), (.ref 104)⟩, ⟨PyData.keyHash P (Str.ofString "MOST_FIGURES"), (.str (Str.ofString "MOST_FIGURES") 308), (.int 5000 307)⟩, ⟨PyData.keyHash P (Str.ofString "MOST_PART"), (.str (Str.ofString "MOST_PART") 311), (.int 100000000000000000000000000000000000000000000000000000000000000000000000000000000000000000000000000000000000000000000000000000000000000000000000000000000000000000000000000000000000000000000000000000000000000000000000000000000000000000000000000000000000000000000000000000000000000000000000000000000000000000000000000000000000000000000000000000000000000000000000000000000000000000000000000000000000000000000000000000000000000000000000000000000000000000000000000000000000000000000000000000000000000000000000000000000000000000000000000000000000000000000000000000000000000000000000000000000000000000000000000000000000000000000000000000000000000000000000000000000000000000000000000000000000000000000000000000000000000000000000000000000000000000000000000000000000000000000000000000000000000000000000000000000000000000000000000000000000000000000000000000000000000000000000000000000000000000000000000000000000000000000000000000000000000000000000000000000000000000000000000000000000000000000000000000000000000000000000000000000000000000000000000000000000000000000000000000000000000000000000000000000000000000000000000000000000000000000000000000000000000000000000000000000000000000000000000000000000000000000000000000000000000000000000000000000000000000000000000000000000000000000000000000000000000000000000000000000000000000000000000000000000000000000000000000000000000000000000000000000000000000000000000000000000000000000000000000000000000000000000000000000000000000000000000000000000000000000000000000000000000000000000000000000000000000000000000000000000000000000000000000000000000000000000000000000000000000000000000000000000000000000000000000000000000000000000000000000000000000000000000000000000000000000000000000000000000000000000000000000000000000000000000000000000000000000000000000000000000000000000000000000000000000000000000000000000000000000000000000000000000000000000000000000000000000000000000000000000000000000000000000000000000000000000000000000000000000000000000000000000000000000000000000000000000000000000000000000000000000000000000000000000000000000000000000000000000000000000000000000000000000000000000000000000000000000000000000000000000000000000000000000000000000000000000000000000000000000000000000000000000000000000000000000000000000000000000000000000000000000000000000000000000000000000000000000000000000000000000000000000000000000000000000000000000000000000000000000000000000000000000000000000000000000000000000000000000000000000000000000000000000000000000000000000000000000000000000000000000000000000000000000000000000000000000000000000000000000000000000000000000000000000000000000000000000000000000000000000000000000000000000000000000000000000000000000000000000000000000000000000000000000000000000000000000000000000000000000000000000000000000000000000000000000000000000000000000000000000000000000000000000000000000000000000000000000000000000000000000000000000000000000000000000000000000000000000000000000000000000000000000000000000000000000000000000000000000000000000000000000000000000000000000000000000000000000000000000000000000000000000000000000000000000000000000000000000000000000000000000000000000000000000000000000000000000000000000000000000000000000000000000000000000000000000000000000000000000000000000000000000000000000000000000000000000000000000000000000000000000000000000000000000000000000000000000000000000000000000000000000000000000000000000000000000000000000000000000000000000000000000000000000000000000000000000000000000000000000000000000000000000000000000000000000000000000000000000000000000000000000000000000000000000000000000000000000000000000000000000000000000000000000000000000000000000000000000000000000000000000000000000000000000000000000000000000000000000000000000000000000000000000000000000000000000000000000000000000000000000000000000000000000000000000000000000000000000000000000000000000000000000000000000000000000000000000000000000000000000000000000000000000000000000000000000000000000000000000000000000000000000000000000000000000000000000000000000000000000000000000000000000000000000000000000000000000000000000000000000000000000000000000000000000000000000000000000000000000000000000000000000000000000000000000000000000000000000000000000000000000000000000000000000000000000000000000000000000000000000000000000000000000000000000000000000000000000000000000000000000000000000000000000000000000000000000000000000000000000000000000000000000000000000000000000000000000000000000000000000000000000000000000000000000000000000000000000000000000000000000000000000000000000000000000000000000000000000000000000000000000000000000000000000000000000000000000000000000000000000000000000000000000000000000000000000000000000000000000000000000000000000000000000000000000000000000000000000000000000000000000000000000000000000000000000000000000000000000000000000000000000000000000000000000000000000000000000000000000000000000000000000000000000000000000000000000000000000000000000000000000000000000000000000000000000000000000000000000000000000000000000000000000000000000000000 310)⟩, ⟨PyData.keyHash P (Str.ofString "gcd"), (.str (Str.ofString "gcd") 319), (.ref 111)⟩, ⟨PyData.keyHash P (Str.ofString "bounded"), (.str (Str.ofString "bounded") 327), (.ref 118)⟩, ⟨PyData.keyHash P (Str.ofString "make"), (.str (Str.ofString "make") 336), (.ref 125)⟩, ⟨PyData.keyHash P (Str.ofString "from_int"), (.str (Str.ofString "from_int") 343), (.ref 132)⟩, ⟨PyData.keyHash P (Str.ofString "is_na"), (.str (Str.ofString "is_na") 350), (.ref 139)⟩, ⟨PyData.keyHash P (Str.ofString "is_nan"), (.str (Str.ofString "is_nan") 357), (.ref 146)⟩, ⟨PyData.keyHash P (Str.ofString "is_finite"), (.str (Str.ofString "is_finite") 364), (.ref 153)⟩, ⟨PyData.keyHash P (Str.ofString "marked"), (.str (Str.ofString "marked") 372), (.ref 160)⟩, ⟨PyData.keyHash P (Str.ofString "neg"), (.str (Str.ofString "neg") 379), (.ref 167)⟩, ⟨PyData.keyHash P (Str.ofString "add"), (.str (Str.ofString "add") 387), (.ref 174)⟩, ⟨PyData.keyHash P (Str.ofString "sub"), (.str (Str.ofString "sub") 395), (.ref 181)⟩, ⟨PyData.keyHash P (Str.ofString "mul"), (.str (Str.ofString "mul") 403), (.ref 188)⟩, ⟨PyData.keyHash P (Str.ofString "div"), (.str (Str.ofString "div") 411), (.ref 195)⟩, ⟨PyData.keyHash P (Str.ofString "floor"), (.str (Str.ofString "floor") 418), (.ref 202)⟩, ⟨PyData.keyHash P (Str.ofString "compare"), (.str (Str.ofString "compare") 428), (.ref 209)⟩, ⟨PyData.keyHash P (Str.ofString "Null"), (.str (Str.ofString "Null") 459), (.ref 226)⟩, ⟨PyData.keyHash P (Str.ofString "Vector"), (.str (Str.ofString "Vector") 501), (.ref 255)⟩]) 40, #[]⟩
noncomputable def x12v2 : Obj := ⟨.none, none, .fields #[(.int 1 0), (.int 0 0), (.ref 20), (.int 5 0), (.int 0 0), (.ref 27), (.int 9 0), (.int 0 0), (.ref 34), (.int 14 0), (.int 0 0), (.ref 41), (.int 19 0), (.int 0 0), (.ref 48), (.int 24 0), (.int 0 0), (.ref 55), (.int 29 0), (.int 0 0), (.ref 62), (.int 40 0), (.int 0 0), (.ref 69), (.int 49 0), (.int 0 0), (.ref 76), (.int 51 0), (.int 0 0), (.ref 89), (.int 60 0), (.int 0 0), (.ref 110), (.int 64 0), (.int 0 0), (.ref 117), (.int 68 0), (.int 0 0), (.ref 124), (.int 78 0), (.int 0 0), (.ref 131), (.int 82 0), (.int 0 0), (.ref 138), (.int 84 0), (.int 0 0), (.ref 145), (.int 86 0), (.int 0 0), (.ref 152), (.int 88 0), (.int 0 0), (.ref 159), (.int 92 0), (.int 0 0), (.ref 166), (.int 96 0), (.int 0 0), (.ref 173), (.int 106 0), (.int 0 0), (.ref 180), (.int 108 0), (.int 0 0), (.ref 187), (.int 112 0), (.int 0 0), (.ref 194), (.int 120 0), (.int 0 0), (.ref 201), (.int 124 0), (.int 0 0), (.ref 208), (.int 143 0), (.int 0 0), (.ref 215), (.int 148 0), (.int 0 0), (.ref 236)], #[]⟩
noncomputable def x103 : Obj := ⟨(.type "tuple"), none, .seq #[(.int 0 301), (.int 0 302)] 0, #[]⟩
noncomputable def x104 : Obj := ⟨(.type "tuple"), none, .seq #[(.int 0 304), (.int 1 305)] 0, #[]⟩
noncomputable def x105 : Obj := ⟨(.type "tuple"), none, .seq #[] 0, #[]⟩
noncomputable def x106 : Obj := ⟨.none, none, .fields #[], #[]⟩
noncomputable def x107 : Obj := ⟨(.type "tuple"), none, .seq #[(.str (Str.ofString "a") 315), (.str (Str.ofString "b") 316)] 0, #[]⟩
noncomputable def x108 : Obj := ⟨(.type "tuple"), none, .seq #[] 0, #[]⟩
noncomputable def x109 : Obj := fnTmp (top 17) .none 0 0 (Str.ofString "gcd") .none .none .none .none .none .none
noncomputable def x110 : Obj := ⟨(.type "code"), none, .fields #[(.str (Str.ofString "gcd") 312), (.str (Str.ofString "gcd") 313), (.str (Str.ofString "/claim/cut.py") 314), (.int 60 0), (.int 2 0), (.int 0 0), (.int 0 0), (.int 3 0), (.ref 105), (.bool true), (.int 181 0), (.ref 106), .none, (.ref 107), (.ref 108), (.ref 109), (.int 317 0), (.int 60 0), (.str (Str.ofString "/claim/cut.py") 318)], #[]⟩
noncomputable def x111 : Obj := fnObj (top 17) (Str.ofString "gcd") .none .none .none (.str (Str.ofString "vectorcove.rational") 299) (.ref 110) .none
noncomputable def x112 : Obj := ⟨(.type "tuple"), none, .seq #[] 0, #[]⟩
noncomputable def x113 : Obj := ⟨.none, none, .fields #[], #[]⟩
noncomputable def x114 : Obj := ⟨(.type "tuple"), none, .seq #[(.str (Str.ofString "n") 323), (.str (Str.ofString "d") 324)] 0, #[]⟩
noncomputable def x115 : Obj := ⟨(.type "tuple"), none, .seq #[] 0, #[]⟩
noncomputable def x116 : Obj := fnTmp (top 18) .none 0 0 (Str.ofString "bounded") .none .none .none .none .none .none
noncomputable def x117 : Obj := ⟨(.type "code"), none, .fields #[(.str (Str.ofString "bounded") 320), (.str (Str.ofString "bounded") 321), (.str (Str.ofString "/claim/cut.py") 322), (.int 64 0), (.int 2 0), (.int 0 0), (.int 0 0), (.int 3 0), (.ref 112), (.bool true), (.int 181 0), (.ref 113), .none, (.ref 114), (.ref 115), (.ref 116), (.int 325 0), (.int 64 0), (.str (Str.ofString "/claim/cut.py") 326)], #[]⟩
noncomputable def x118 : Obj := fnObj (top 18) (Str.ofString "bounded") .none .none .none (.str (Str.ofString "vectorcove.rational") 299) (.ref 117) .none
noncomputable def x119 : Obj := ⟨(.type "tuple"), none, .seq #[] 0, #[]⟩
noncomputable def x120 : Obj := ⟨.none, none, .fields #[], #[]⟩
noncomputable def x121 : Obj := ⟨(.type "tuple"), none, .seq #[(.str (Str.ofString "n") 331), (.str (Str.ofString "d") 332), (.str (Str.ofString "common") 333)] 0, #[]⟩
noncomputable def x122 : Obj := ⟨(.type "tuple"), none, .seq #[] 0, #[]⟩
noncomputable def x123 : Obj := fnTmp (top 19) .none 0 0 (Str.ofString "make") .none .none .none .none .none .none
noncomputable def x124 : Obj := ⟨(.type "code"), none, .fields #[(.str (Str.ofString "make") 328), (.str (Str.ofString "make") 329), (.str (Str.ofString "/claim/cut.py") 330), (.int 68 0), (.int 2 0), (.int 0 0), (.int 0 0), (.int 3 0), (.ref 119), (.bool true), (.int 181 0), (.ref 120), .none, (.ref 121), (.ref 122), (.ref 123), (.int 334 0), (.int 68 0), (.str (Str.ofString "/claim/cut.py") 335)], #[]⟩
noncomputable def x125 : Obj := fnObj (top 19) (Str.ofString "make") .none .none .none (.str (Str.ofString "vectorcove.rational") 299) (.ref 124) .none
noncomputable def x126 : Obj := ⟨(.type "tuple"), none, .seq #[] 0, #[]⟩
noncomputable def x127 : Obj := ⟨.none, none, .fields #[], #[]⟩
noncomputable def x128 : Obj := ⟨(.type "tuple"), none, .seq #[(.str (Str.ofString "n") 340)] 0, #[]⟩
noncomputable def x129 : Obj := ⟨(.type "tuple"), none, .seq #[] 0, #[]⟩
noncomputable def x130 : Obj := fnTmp (top 20) .none 0 0 (Str.ofString "from_int") .none .none .none .none .none .none
noncomputable def x131 : Obj := ⟨(.type "code"), none, .fields #[(.str (Str.ofString "from_int") 337), (.str (Str.ofString "from_int") 338), (.str (Str.ofString "/claim/cut.py") 339), (.int 78 0), (.int 1 0), (.int 0 0), (.int 0 0), (.int 3 0), (.ref 126), (.bool true), (.int 181 0), (.ref 127), .none, (.ref 128), (.ref 129), (.ref 130), (.int 341 0), (.int 78 0), (.str (Str.ofString "/claim/cut.py") 342)], #[]⟩
noncomputable def x132 : Obj := fnObj (top 20) (Str.ofString "from_int") .none .none .none (.str (Str.ofString "vectorcove.rational") 299) (.ref 131) .none
noncomputable def x133 : Obj := ⟨(.type "tuple"), none, .seq #[] 0, #[]⟩
noncomputable def x134 : Obj := ⟨.none, none, .fields #[], #[]⟩
noncomputable def x135 : Obj := ⟨(.type "tuple"), none, .seq #[(.str (Str.ofString "x") 347)] 0, #[]⟩
noncomputable def x136 : Obj := ⟨(.type "tuple"), none, .seq #[] 0, #[]⟩
noncomputable def x137 : Obj := fnTmp (top 21) .none 0 0 (Str.ofString "is_na") .none .none .none .none .none .none
noncomputable def x138 : Obj := ⟨(.type "code"), none, .fields #[(.str (Str.ofString "is_na") 344), (.str (Str.ofString "is_na") 345), (.str (Str.ofString "/claim/cut.py") 346), (.int 82 0), (.int 1 0), (.int 0 0), (.int 0 0), (.int 3 0), (.ref 133), (.bool true), (.int 181 0), (.ref 134), .none, (.ref 135), (.ref 136), (.ref 137), (.int 348 0), (.int 82 0), (.str (Str.ofString "/claim/cut.py") 349)], #[]⟩
noncomputable def x139 : Obj := fnObj (top 21) (Str.ofString "is_na") .none .none .none (.str (Str.ofString "vectorcove.rational") 299) (.ref 138) .none
noncomputable def x140 : Obj := ⟨(.type "tuple"), none, .seq #[] 0, #[]⟩
noncomputable def x141 : Obj := ⟨.none, none, .fields #[], #[]⟩
noncomputable def x142 : Obj := ⟨(.type "tuple"), none, .seq #[(.str (Str.ofString "x") 354)] 0, #[]⟩
noncomputable def x143 : Obj := ⟨(.type "tuple"), none, .seq #[] 0, #[]⟩
noncomputable def x144 : Obj := fnTmp (top 22) .none 0 0 (Str.ofString "is_nan") .none .none .none .none .none .none
noncomputable def x145 : Obj := ⟨(.type "code"), none, .fields #[(.str (Str.ofString "is_nan") 351), (.str (Str.ofString "is_nan") 352), (.str (Str.ofString "/claim/cut.py") 353), (.int 84 0), (.int 1 0), (.int 0 0), (.int 0 0), (.int 3 0), (.ref 140), (.bool true), (.int 181 0), (.ref 141), .none, (.ref 142), (.ref 143), (.ref 144), (.int 355 0), (.int 84 0), (.str (Str.ofString "/claim/cut.py") 356)], #[]⟩
noncomputable def x146 : Obj := fnObj (top 22) (Str.ofString "is_nan") .none .none .none (.str (Str.ofString "vectorcove.rational") 299) (.ref 145) .none
noncomputable def x147 : Obj := ⟨(.type "tuple"), none, .seq #[] 0, #[]⟩
noncomputable def x148 : Obj := ⟨.none, none, .fields #[], #[]⟩
noncomputable def x149 : Obj := ⟨(.type "tuple"), none, .seq #[(.str (Str.ofString "x") 361)] 0, #[]⟩
noncomputable def x150 : Obj := ⟨(.type "tuple"), none, .seq #[] 0, #[]⟩
noncomputable def x151 : Obj := fnTmp (top 23) .none 0 0 (Str.ofString "is_finite") .none .none .none .none .none .none
noncomputable def x152 : Obj := ⟨(.type "code"), none, .fields #[(.str (Str.ofString "is_finite") 358), (.str (Str.ofString "is_finite") 359), (.str (Str.ofString "/claim/cut.py") 360), (.int 86 0), (.int 1 0), (.int 0 0), (.int 0 0), (.int 3 0), (.ref 147), (.bool true), (.int 181 0), (.ref 148), .none, (.ref 149), (.ref 150), (.ref 151), (.int 362 0), (.int 86 0), (.str (Str.ofString "/claim/cut.py") 363)], #[]⟩
noncomputable def x153 : Obj := fnObj (top 23) (Str.ofString "is_finite") .none .none .none (.str (Str.ofString "vectorcove.rational") 299) (.ref 152) .none
noncomputable def x154 : Obj := ⟨(.type "tuple"), none, .seq #[] 0, #[]⟩
noncomputable def x155 : Obj := ⟨.none, none, .fields #[], #[]⟩
noncomputable def x156 : Obj := ⟨(.type "tuple"), none, .seq #[(.str (Str.ofString "x") 368), (.str (Str.ofString "y") 369)] 0, #[]⟩
noncomputable def x157 : Obj := ⟨(.type "tuple"), none, .seq #[] 0, #[]⟩
noncomputable def x158 : Obj := fnTmp (top 24) .none 0 0 (Str.ofString "marked") .none .none .none .none .none .none
noncomputable def x159 : Obj := ⟨(.type "code"), none, .fields #[(.str (Str.ofString "marked") 365), (.str (Str.ofString "marked") 366), (.str (Str.ofString "/claim/cut.py") 367), (.int 88 0), (.int 2 0), (.int 0 0), (.int 0 0), (.int 3 0), (.ref 154), (.bool true), (.int 181 0), (.ref 155), .none, (.ref 156), (.ref 157), (.ref 158), (.int 370 0), (.int 88 0), (.str (Str.ofString "/claim/cut.py") 371)], #[]⟩
noncomputable def x160 : Obj := fnObj (top 24) (Str.ofString "marked") .none .none .none (.str (Str.ofString "vectorcove.rational") 299) (.ref 159) .none
noncomputable def x161 : Obj := ⟨(.type "tuple"), none, .seq #[] 0, #[]⟩
noncomputable def x162 : Obj := ⟨.none, none, .fields #[], #[]⟩
noncomputable def x163 : Obj := ⟨(.type "tuple"), none, .seq #[(.str (Str.ofString "x") 376)] 0, #[]⟩
noncomputable def x164 : Obj := ⟨(.type "tuple"), none, .seq #[] 0, #[]⟩
noncomputable def x165 : Obj := fnTmp (top 25) .none 0 0 (Str.ofString "neg") .none .none .none .none .none .none
noncomputable def x166 : Obj := ⟨(.type "code"), none, .fields #[(.str (Str.ofString "neg") 373), (.str (Str.ofString "neg") 374), (.str (Str.ofString "/claim/cut.py") 375), (.int 92 0), (.int 1 0), (.int 0 0), (.int 0 0), (.int 3 0), (.ref 161), (.bool true), (.int 181 0), (.ref 162), .none, (.ref 163), (.ref 164), (.ref 165), (.int 377 0), (.int 92 0), (.str (Str.ofString "/claim/cut.py") 378)], #[]⟩
noncomputable def x167 : Obj := fnObj (top 25) (Str.ofString "neg") .none .none .none (.str (Str.ofString "vectorcove.rational") 299) (.ref 166) .none
noncomputable def x168 : Obj := ⟨(.type "tuple"), none, .seq #[] 0, #[]⟩
noncomputable def x169 : Obj := ⟨.none, none, .fields #[], #[]⟩
noncomputable def x170 : Obj := ⟨(.type "tuple"), none, .seq #[(.str (Str.ofString "x") 383), (.str (Str.ofString "y") 384)] 0, #[]⟩
noncomputable def x171 : Obj := ⟨(.type "tuple"), none, .seq #[] 0, #[]⟩
noncomputable def x172 : Obj := fnTmp (top 26) .none 0 0 (Str.ofString "add") .none .none .none .none .none .none
noncomputable def x173 : Obj := ⟨(.type "code"), none, .fields #[(.str (Str.ofString "add") 380), (.str (Str.ofString "add") 381), (.str (Str.ofString "/claim/cut.py") 382), (.int 96 0), (.int 2 0), (.int 0 0), (.int 0 0), (.int 3 0), (.ref 168), (.bool true), (.int 181 0), (.ref 169), .none, (.ref 170), (.ref 171), (.ref 172), (.int 385 0), (.int 96 0), (.str (Str.ofString "/claim/cut.py") 386)], #[]⟩
noncomputable def x174 : Obj := fnObj (top 26) (Str.ofString "add") .none .none .none (.str (Str.ofString "vectorcove.rational") 299) (.ref 173) .none
noncomputable def x175 : Obj := ⟨(.type "tuple"), none, .seq #[] 0, #[]⟩
noncomputable def x176 : Obj := ⟨.none, none, .fields #[], #[]⟩
noncomputable def x177 : Obj := ⟨(.type "tuple"), none, .seq #[(.str (Str.ofString "x") 391), (.str (Str.ofString "y") 392)] 0, #[]⟩
noncomputable def x178 : Obj := ⟨(.type "tuple"), none, .seq #[] 0, #[]⟩
noncomputable def x179 : Obj := fnTmp (top 27) .none 0 0 (Str.ofString "sub") .none .none .none .none .none .none
noncomputable def x180 : Obj := ⟨(.type "code"), none, .fields #[(.str (Str.ofString "sub") 388), (.str (Str.ofString "sub") 389), (.str (Str.ofString "/claim/cut.py") 390), (.int 106 0), (.int 2 0), (.int 0 0), (.int 0 0), (.int 3 0), (.ref 175), (.bool true), (.int 181 0), (.ref 176), .none, (.ref 177), (.ref 178), (.ref 179), (.int 393 0), (.int 106 0), (.str (Str.ofString "/claim/cut.py") 394)], #[]⟩
noncomputable def x181 : Obj := fnObj (top 27) (Str.ofString "sub") .none .none .none (.str (Str.ofString "vectorcove.rational") 299) (.ref 180) .none
noncomputable def x182 : Obj := ⟨(.type "tuple"), none, .seq #[] 0, #[]⟩
noncomputable def x183 : Obj := ⟨.none, none, .fields #[], #[]⟩
noncomputable def x184 : Obj := ⟨(.type "tuple"), none, .seq #[(.str (Str.ofString "x") 399), (.str (Str.ofString "y") 400)] 0, #[]⟩
noncomputable def x185 : Obj := ⟨(.type "tuple"), none, .seq #[] 0, #[]⟩
noncomputable def x186 : Obj := fnTmp (top 28) .none 0 0 (Str.ofString "mul") .none .none .none .none .none .none
noncomputable def x187 : Obj := ⟨(.type "code"), none, .fields #[(.str (Str.ofString "mul") 396), (.str (Str.ofString "mul") 397), (.str (Str.ofString "/claim/cut.py") 398), (.int 108 0), (.int 2 0), (.int 0 0), (.int 0 0), (.int 3 0), (.ref 182), (.bool true), (.int 181 0), (.ref 183), .none, (.ref 184), (.ref 185), (.ref 186), (.int 401 0), (.int 108 0), (.str (Str.ofString "/claim/cut.py") 402)], #[]⟩
noncomputable def x188 : Obj := fnObj (top 28) (Str.ofString "mul") .none .none .none (.str (Str.ofString "vectorcove.rational") 299) (.ref 187) .none
noncomputable def x189 : Obj := ⟨(.type "tuple"), none, .seq #[] 0, #[]⟩
noncomputable def x190 : Obj := ⟨.none, none, .fields #[], #[]⟩
noncomputable def x191 : Obj := ⟨(.type "tuple"), none, .seq #[(.str (Str.ofString "x") 407), (.str (Str.ofString "y") 408)] 0, #[]⟩
noncomputable def x192 : Obj := ⟨(.type "tuple"), none, .seq #[] 0, #[]⟩
noncomputable def x193 : Obj := fnTmp (top 29) .none 0 0 (Str.ofString "div") .none .none .none .none .none .none
noncomputable def x194 : Obj := ⟨(.type "code"), none, .fields #[(.str (Str.ofString "div") 404), (.str (Str.ofString "div") 405), (.str (Str.ofString "/claim/cut.py") 406), (.int 112 0), (.int 2 0), (.int 0 0), (.int 0 0), (.int 3 0), (.ref 189), (.bool true), (.int 181 0), (.ref 190), .none, (.ref 191), (.ref 192), (.ref 193), (.int 409 0), (.int 112 0), (.str (Str.ofString "/claim/cut.py") 410)], #[]⟩
noncomputable def x195 : Obj := fnObj (top 29) (Str.ofString "div") .none .none .none (.str (Str.ofString "vectorcove.rational") 299) (.ref 194) .none
noncomputable def x196 : Obj := ⟨(.type "tuple"), none, .seq #[] 0, #[]⟩
noncomputable def x197 : Obj := ⟨.none, none, .fields #[], #[]⟩
noncomputable def x198 : Obj := ⟨(.type "tuple"), none, .seq #[(.str (Str.ofString "x") 415)] 0, #[]⟩
noncomputable def x199 : Obj := ⟨(.type "tuple"), none, .seq #[] 0, #[]⟩
noncomputable def x200 : Obj := fnTmp (top 30) .none 0 0 (Str.ofString "floor") .none .none .none .none .none .none
noncomputable def x201 : Obj := ⟨(.type "code"), none, .fields #[(.str (Str.ofString "floor") 412), (.str (Str.ofString "floor") 413), (.str (Str.ofString "/claim/cut.py") 414), (.int 120 0), (.int 1 0), (.int 0 0), (.int 0 0), (.int 3 0), (.ref 196), (.bool true), (.int 181 0), (.ref 197), .none, (.ref 198), (.ref 199), (.ref 200), (.int 416 0), (.int 120 0), (.str (Str.ofString "/claim/cut.py") 417)], #[]⟩
noncomputable def x202 : Obj := fnObj (top 30) (Str.ofString "floor") .none .none .none (.str (Str.ofString "vectorcove.rational") 299) (.ref 201) .none
noncomputable def x203 : Obj := ⟨(.type "tuple"), none, .seq #[] 0, #[]⟩
noncomputable def x204 : Obj := ⟨.none, none, .fields #[], #[]⟩
noncomputable def x205 : Obj := ⟨(.type "tuple"), none, .seq #[(.str (Str.ofString "x") 422), (.str (Str.ofString "y") 423), (.str (Str.ofString "left") 424), (.str (Str.ofString "right") 425)] 0, #[]⟩
noncomputable def x206 : Obj := ⟨(.type "tuple"), none, .seq #[] 0, #[]⟩
noncomputable def x207 : Obj := fnTmp (top 31) .none 0 0 (Str.ofString "compare") .none .none .none .none .none .none
noncomputable def x208 : Obj := ⟨(.type "code"), none, .fields #[(.str (Str.ofString "compare") 419), (.str (Str.ofString "compare") 420), (.str (Str.ofString "/claim/cut.py") 421), (.int 124 0), (.int 2 0), (.int 0 0), (.int 0 0), (.int 3 0), (.ref 203), (.bool true), (.int 181 0), (.ref 204), .none, (.ref 205), (.ref 206), (.ref 207), (.int 426 0), (.int 124 0), (.str (Str.ofString "/claim/cut.py") 427)], #[]⟩
noncomputable def x209 : Obj := fnObj (top 31) (Str.ofString "compare") .none .none .none (.str (Str.ofString "vectorcove.rational") 299) (.ref 208) .none
noncomputable def x210 : Obj := ⟨(.type "tuple"), none, .seq #[] 0, #[]⟩
noncomputable def x211 : Obj := ⟨(.type "builtin_function_or_method"), none, .fields #[(.builtin "type.__prepare__"), (.type "type")], #[]⟩
noncomputable def x212 (P : Params) : Obj := ⟨(.type "dict"), none, .dict (List.toArray [⟨PyData.keyHash P (Str.ofString "__module__"), (.str (Str.ofString "__module__") 438), (.str (Str.ofString "vectorcove.values") 429)⟩, ⟨PyData.keyHash P (Str.ofString "__qualname__"), (.str (Str.ofString "__qualname__") 440), (.str (Str.ofString "Null") 439)⟩, ⟨PyData.keyHash P (Str.ofString "__firstlineno__"), (.str (Str.ofString "__firstlineno__") 442), (.int 143 441)⟩, ⟨PyData.keyHash P (Str.ofString "__init__"), (.str (Str.ofString "__init__") 449), (.ref 223)⟩, ⟨PyData.keyHash P (Str.ofString "__static_attributes__"), (.str (Str.ofString "__static_attributes__") 452), (.ref 224)⟩]) 5, #[]⟩
noncomputable def x213 : Obj := ⟨(.type "tuple"), none, .seq #[] 0, #[]⟩
noncomputable def x214 : Obj := ⟨.none, none, .fields #[(.int 145 0), (.int 4 0), (.ref 222)], #[]⟩
noncomputable def x215 : Obj := ⟨(.type "code"), none, .fields #[(.str (Str.ofString "Null") 433), (.str (Str.ofString "Null") 434), (.str (Str.ofString "/claim/cut.py") 435), (.int 143 0), (.int 0 0), (.int 0 0), (.int 0 0), (.int 0 0), (.ref 213), (.bool false), (.int 181 0), (.ref 214), .none, .none, .none, .none, (.int 436 0), (.int 143 0), (.str (Str.ofString "/claim/cut.py") 437)], #[]⟩
noncomputable def x216 : Obj := ⟨(.type "frame"), none, .plain, #[some (.ref 215), some (.ref 3), some (.ref 212), none, some (.str (Str.ofString "vectorcove.values") 429), none, some (.ref 0)]⟩
noncomputable def x217 : Obj := ⟨(.type "tuple"), none, .seq #[] 0, #[]⟩
noncomputable def x218 : Obj := ⟨.none, none, .fields #[], #[]⟩
noncomputable def x219 : Obj := ⟨(.type "tuple"), none, .seq #[(.str (Str.ofString "self") 446)] 0, #[]⟩
noncomputable def x220 : Obj := ⟨(.type "tuple"), none, .seq #[] 0, #[]⟩
noncomputable def x221 : Obj := fnTmp (inCls (top 33) 0) .none 0 0 (Str.ofString "Null.__init__") .none .none .none .none .none .none
noncomputable def x222 : Obj := ⟨(.type "code"), none, .fields #[(.str (Str.ofString "__init__") 443), (.str (Str.ofString "Null.__init__") 444), (.str (Str.ofString "/claim/cut.py") 445), (.int 145 0), (.int 1 0), (.int 0 0), (.int 0 0), (.int 3 0), (.ref 217), (.bool true), (.int 181 0), (.ref 218), .none, (.ref 219), (.ref 220), (.ref 221), (.int 447 0), (.int 145 0), (.str (Str.ofString "/claim/cut.py") 448)], #[]⟩
noncomputable def x223 : Obj := by
  refine (fun (o : Obj) (_ : fnObj (inCls (top 33) 0) (Str.ofString "Null.__init__") .none .none .none (.str (Str.ofString "vectorcove.values") 429) (.ref 222) .none = o) => o) ?_ ?h
  rotate_left
  conv => lhs; whnf
noncomputable def x224 : Obj := ⟨(.type "tuple"), none, .seq #[(.str (Str.ofString "attrs") 450), (.str (Str.ofString "kind") 451)] 0, #[]⟩
noncomputable def x225 (P : Params) : Obj := ⟨(.type "dict"), none, .dict (List.toArray [⟨PyData.keyHash P (Str.ofString "__module__"), (.str (Str.ofString "__module__") 438), (.str (Str.ofString "vectorcove.values") 429)⟩, ⟨PyData.keyHash P (Str.ofString "__firstlineno__"), (.str (Str.ofString "__firstlineno__") 442), (.int 143 441)⟩, ⟨PyData.keyHash P (Str.ofString "__init__"), (.str (Str.ofString "__init__") 449), (.ref 223)⟩, ⟨PyData.keyHash P (Str.ofString "__static_attributes__"), (.str (Str.ofString "__static_attributes__") 452), (.ref 224)⟩, ⟨PyData.keyHash P (Str.ofString "__dict__"), (.str (Str.ofString "__dict__") 454), (.ref 227)⟩, ⟨PyData.keyHash P (Str.ofString "__weakref__"), (.str (Str.ofString "__weakref__") 456), (.ref 228)⟩, ⟨PyData.keyHash P (Str.ofString "__doc__"), (.str (Str.ofString "__doc__") 457), .none⟩]) 4, #[]⟩
noncomputable def x226 : Obj := ⟨(.type "type"), none, .cls { name := (Str.ofString "Null"), bases := [(.type "object")], mro := [(.ref 226), (.type "object")], ns := 225, qualname := (Str.ofString "Null"), hasDict := true, slotNames := [], subclasses := [], abstract := false, collection := none, hasDel := false }, #[none, none, some (.str (Str.ofString "Null") 431), some (.str (Str.ofString "Null") 439), some (.builtin "object.__new__"), some (.bool true)]⟩
noncomputable def x227 : Obj := ⟨(.type "getset_descriptor"), none, .fields #[(.str (Str.ofString "__dict__") 453), (.ref 226), (.builtin "function.__dict__"), (.builtin "function.__dict__#set")], #[]⟩
noncomputable def x228 : Obj := ⟨(.type "getset_descriptor"), none, .fields #[(.str (Str.ofString "__weakref__") 455), (.ref 226), (.builtin "ExceptionGroup.__weakref__"), .none], #[]⟩
noncomputable def x229 : Obj := ⟨(.type "super"), none, .fields #[(.ref 226), (.ref 226), (.ref 226)], #[]⟩
noncomputable def x230 : Obj := ⟨(.type "builtin_function_or_method"), none, .fields #[(.builtin "object.__init_subclass__"), (.ref 226)], #[]⟩
noncomputable def x231 : Obj := ⟨(.type "tuple"), none, .seq #[] 0, #[]⟩
noncomputable def x232 : Obj := ⟨(.type "builtin_function_or_method"), none, .fields #[(.builtin "type.__prepare__"), (.type "type")], #[]⟩
noncomputable def x233 (P : Params) : Obj := ⟨(.type "dict"), none, .dict (List.toArray [⟨PyData.keyHash P (Str.ofString "__module__"), (.str (Str.ofString "__module__") 467), (.str (Str.ofString "vectorcove.values") 429)⟩, ⟨PyData.keyHash P (Str.ofString "__qualname__"), (.str (Str.ofString "__qualname__") 469), (.str (Str.ofString "Vector") 468)⟩, ⟨PyData.keyHash P (Str.ofString "__firstlineno__"), (.str (Str.ofString "__firstlineno__") 471), (.int 148 470)⟩, ⟨PyData.keyHash P (Str.ofString "__init__"), (.str (Str.ofString "__init__") 481), (.ref 245)⟩, ⟨PyData.keyHash P (Str.ofString "copy"), (.str (Str.ofString "copy") 488), (.ref 252)⟩, ⟨PyData.keyHash P (Str.ofString "__static_attributes__"), (.str (Str.ofString "__static_attributes__") 494), (.ref 253)⟩]) 6, #[]⟩
noncomputable def x234 : Obj := ⟨(.type "tuple"), none, .seq #[] 0, #[]⟩
noncomputable def x235 : Obj := ⟨.none, none, .fields #[(.int 150 0), (.int 4 0), (.ref 244), (.int 157 0), (.int 4 0), (.ref 251)], #[]⟩
noncomputable def x236 : Obj := ⟨(.type "code"), none, .fields #[(.str (Str.ofString "Vector") 462), (.str (Str.ofString "Vector") 463), (.str (Str.ofString "/claim/cut.py") 464), (.int 148 0), (.int 0 0), (.int 0 0), (.int 0 0), (.int 0 0), (.ref 234), (.bool false), (.int 181 0), (.ref 235), .none, .none, .none, .none, (.int 465 0), (.int 148 0), (.str (Str.ofString "/claim/cut.py") 466)], #[]⟩
noncomputable def x237 : Obj := ⟨(.type "frame"), none, .plain, #[some (.ref 236), some (.ref 3), some (.ref 233), none, some (.str (Str.ofString "vectorcove.values") 429), none, some (.ref 0)]⟩
noncomputable def x238 : Obj := ⟨(.type "tuple"), none, .seq #[.none] 0, #[]⟩
noncomputable def x239 : Obj := ⟨(.type "tuple"), none, .seq #[] 0, #[]⟩
noncomputable def x240 : Obj := ⟨.none, none, .fields #[], #[]⟩
noncomputable def x241 : Obj := ⟨(.type "tuple"), none, .seq #[(.str (Str.ofString "self") 475), (.str (Str.ofString "kind") 476), (.str (Str.ofString "items") 477), (.str (Str.ofString "attrs") 478)] 0, #[]⟩
noncomputable def x242 : Obj := ⟨(.type "tuple"), none, .seq #[] 0, #[]⟩
noncomputable def x243 : Obj := fnTmp (inCls (top 34) 0) .none 0 0 (Str.ofString "Vector.__init__") .none .none .none .none .none .none
noncomputable def x244 : Obj := ⟨(.type "code"), none, .fields #[(.str (Str.ofString "__init__") 472), (.str (Str.ofString "Vector.__init__") 473), (.str (Str.ofString "/claim/cut.py") 474), (.int 150 0), (.int 4 0), (.int 0 0), (.int 0 0), (.int 3 0), (.ref 239), (.bool true), (.int 181 0), (.ref 240), .none, (.ref 241), (.ref 242), (.ref 243), (.int 479 0), (.int 150 0), (.str (Str.ofString "/claim/cut.py") 480)], #[]⟩
noncomputable def x245 : Obj := by
  refine (fun (o : Obj) (_ : fnObj (inCls (top 34) 0) (Str.ofString "Vector.__init__") (.ref 238) .none .none (.str (Str.ofString "vectorcove.values") 429) (.ref 244) .none = o) => o) ?_ ?h
  rotate_left
  conv => lhs; whnf
noncomputable def x246 : Obj := ⟨(.type "tuple"), none, .seq #[] 0, #[]⟩
noncomputable def x247 : Obj := ⟨.none, none, .fields #[], #[]⟩
noncomputable def x248 : Obj := ⟨(.type "tuple"), none, .seq #[(.str (Str.ofString "self") 485)] 0, #[]⟩
noncomputable def x249 : Obj := ⟨(.type "tuple"), none, .seq #[] 0, #[]⟩
noncomputable def x250 : Obj := fnTmp (inCls (top 34) 1) .none 0 0 (Str.ofString "Vector.copy") .none .none .none .none .none .none
noncomputable def x251 : Obj := ⟨(.type "code"), none, .fields #[(.str (Str.ofString "copy") 482), (.str (Str.ofString "Vector.copy") 483), (.str (Str.ofString "/claim/cut.py") 484), (.int 157 0), (.int 1 0), (.int 0 0), (.int 0 0), (.int 3 0), (.ref 246), (.bool true), (.int 181 0), (.ref 247), .none, (.ref 248), (.ref 249), (.ref 250), (.int 486 0), (.int 157 0), (.str (Str.ofString "/claim/cut.py") 487)], #[]⟩
noncomputable def x252 : Obj := fnObj (inCls (top 34) 1) (Str.ofString "Vector.copy") .none .none .none (.str (Str.ofString "vectorcove.values") 429) (.ref 251) .none
noncomputable def x253 : Obj := ⟨(.type "tuple"), none, .seq #[(.str (Str.ofString "attrs") 489), (.str (Str.ofString "items") 490), (.str (Str.ofString "kind") 491), (.str (Str.ofString "loose") 492), (.str (Str.ofString "shared") 493)] 0, #[]⟩
noncomputable def x254 (P : Params) : Obj := ⟨(.type "dict"), none, .dict (List.toArray [⟨PyData.keyHash P (Str.ofString "__module__"), (.str (Str.ofString "__module__") 467), (.str (Str.ofString "vectorcove.values") 429)⟩, ⟨PyData.keyHash P (Str.ofString "__firstlineno__"), (.str (Str.ofString "__firstlineno__") 471), (.int 148 470)⟩, ⟨PyData.keyHash P (Str.ofString "__init__"), (.str (Str.ofString "__init__") 481), (.ref 245)⟩, ⟨PyData.keyHash P (Str.ofString "copy"), (.str (Str.ofString "copy") 488), (.ref 252)⟩, ⟨PyData.keyHash P (Str.ofString "__static_attributes__"), (.str (Str.ofString "__static_attributes__") 494), (.ref 253)⟩, ⟨PyData.keyHash P (Str.ofString "__dict__"), (.str (Str.ofString "__dict__") 496), (.ref 256)⟩, ⟨PyData.keyHash P (Str.ofString "__weakref__"), (.str (Str.ofString "__weakref__") 498), (.ref 257)⟩, ⟨PyData.keyHash P (Str.ofString "__doc__"), (.str (Str.ofString "__doc__") 499), .none⟩]) 4, #[]⟩
noncomputable def x255 : Obj := ⟨(.type "type"), none, .cls { name := (Str.ofString "Vector"), bases := [(.type "object")], mro := [(.ref 255), (.type "object")], ns := 254, qualname := (Str.ofString "Vector"), hasDict := true, slotNames := [], subclasses := [], abstract := false, collection := none, hasDel := false }, #[none, none, some (.str (Str.ofString "Vector") 460), some (.str (Str.ofString "Vector") 468), some (.builtin "object.__new__"), some (.bool true)]⟩
noncomputable def x256 : Obj := ⟨(.type "getset_descriptor"), none, .fields #[(.str (Str.ofString "__dict__") 495), (.ref 255), (.builtin "function.__dict__"), (.builtin "function.__dict__#set")], #[]⟩
noncomputable def x257 : Obj := ⟨(.type "getset_descriptor"), none, .fields #[(.str (Str.ofString "__weakref__") 497), (.ref 255), (.builtin "ExceptionGroup.__weakref__"), .none], #[]⟩
noncomputable def x258 : Obj := ⟨(.type "super"), none, .fields #[(.ref 255), (.ref 255), (.ref 255)], #[]⟩
noncomputable def x259 : Obj := ⟨(.type "builtin_function_or_method"), none, .fields #[(.builtin "object.__init_subclass__"), (.ref 255)], #[]⟩
noncomputable def x3v2 (P : Params) : Obj := ⟨(.type "dict"), none, .dict (List.toArray [⟨PyData.keyHash P (Str.ofString "__name__"), (.str (Str.ofString "__name__") 165), (.str (Str.ofString "vectorcove.values") 429)⟩, ⟨PyData.keyHash P (Str.ofString "__doc__"), (.str (Str.ofString "__doc__") 166), .none⟩, ⟨PyData.keyHash P (Str.ofString "__package__"), (.str (Str.ofString "__package__") 167), .none⟩, ⟨PyData.keyHash P (Str.ofString "__loader__"), (.str (Str.ofString "__loader__") 168), (.builtin "__main__.__loader__#opaque")⟩, ⟨PyData.keyHash P (Str.ofString "__spec__"), (.str (Str.ofString "__spec__") 169), .none⟩, ⟨PyData.keyHash P (Str.ofString "__annotations__"), (.str (Str.ofString "__annotations__") 170), (.ref 6)⟩, ⟨PyData.keyHash P (Str.ofString "__builtins__"), (.str (Str.ofString "__builtins__") 171), (.ref 4)⟩, ⟨PyData.keyHash P (Str.ofString "__file__"), (.str (Str.ofString "__file__") 173), (.str (Str.ofString "/claim/cut.py") 172)⟩, ⟨PyData.keyHash P (Str.ofString "__cached__"), (.str (Str.ofString "__cached__") 174), .none⟩, ⟨PyData.keyHash P (Str.ofString "_wall"), (.str (Str.ofString "_wall") 193), (.ref 21)⟩, ⟨PyData.keyHash P (Str.ofString "get_attr"), (.str (Str.ofString "get_attr") 203), (.ref 28)⟩, ⟨PyData.keyHash P (Str.ofString "dim_of"), (.str (Str.ofString "dim_of") 211), (.ref 35)⟩, ⟨PyData.keyHash P (Str.ofString "class_attr"), (.str (Str.ofString "class_attr") 219), (.ref 42)⟩, ⟨PyData.keyHash P (Str.ofString "language_class"), (.str (Str.ofString "language_class") 227), (.ref 49)⟩, ⟨PyData.keyHash P (Str.ofString "shape_class"), (.str (Str.ofString "shape_class") 235), (.ref 56)⟩, ⟨PyData.keyHash P (Str.ofString "plain_class"), (.str (Str.ofString "plain_class") 243), (.ref 63)⟩, ⟨PyData.keyHash P (Str.ofString "class_of"), (.str (Str.ofString "class_of") 251), (.ref 70)⟩, ⟨PyData.keyHash P (Str.ofString "CoveError"), (.str (Str.ofString "CoveError") 273), (.ref 80)⟩, ⟨PyData.keyHash P (Str.ofString "Refusal"), (.str (Str.ofString "Refusal") 298), (.ref 100)⟩, ⟨PyData.keyHash P (Str.ofString "NAN"), (.str (Str.ofString "NAN") 303), (.ref 103)⟩, ⟨PyData.keyHash P (Str.ofString "ZERO"), (.str (Str.ofString "ZERO") 306), (.ref 104)⟩, ⟨PyData.keyHash P (Str.ofString "MOST_FIGURES"), (.str (Str.ofString "MOST_FIGURES") 308), (.int 5000 307)⟩, ⟨PyData.keyHash P (Str.ofString "MOST_PART"), (.str (Str.ofString "MOST_PART") 311), (.int 100000000000000000000000000000000000000000000000000000000000000000000000000000000000000000000000000000000000000000000000000000000000000000000000000000000000000000000000000000000000000000000000000000000000000000000000000000000000000000000000000000000000000000000000000000000000000000000000000000000000000000000000000000000000000000000000000000000000000000000000000000000000000000000000000000000000000000000000000000000000000000000000000000000000000000000000000000000000000000000000000000000000000000000000000000000000000000000000000000000000000000000000000000000000000000000000000000000000000000000000000000000000000000000000000000000000000000000000000000000000000000000000000000000000000000000000000000000000000000000000000000000000000000000000000000000000000000000000000000000000000000000000000000000000000000000000000000000000000000000000000000000000000000000000000000000000000000000000000000000000000000000000000000000000000000000000000000000000000000000000000000000000000000000000000000000000000000000000000000000000000000000000000000000000000000000000000000000000000000000000000000000000000000000000000000000000000000000000000000000000000000000000000000000000000000000000000000000000000000000000000000000000000000000000000000000000000000000000000000000000000000000000000000000000000000000000000000000000000000000000000000000000000000000000000000000000000000000000000000000000000000000000000000000000000000000000000000000000000000000000000000000000000000000000000000000000000000000000000000000000000000000000000000000000000000000000000000000000000000000000000000000000000000000000000000000000000000000000000000000000000000000000000000000000000000000000000000000000000000000000000000000000000000000000000000000000000000000000000000000000000000000000000000000000000000000000000000000000000000000000000000000000000000000000000000000000000000000000000000000000000000000000000000000000000000000000000000000000000000000000000000000000000000000000000000000000000000000000000000000000000000000000000000000000000000000000000000000000000000000000000000000000000000000000000000000000000000000000000000000000000000000000000000000000000000000000000000000000000000000000000000000000000000000000000000000000000000000000000000000000000000000000000000000000000000000000000000000000000000000000000000000000000000000000000000000000000000000000000000000000000000000000000000000000000000000000000000000000000000000000000000000000000000000000000000000000000000000000000000000000000000000000000000000000000000000000000000000000000000000000000000000000000000000000000000000000000000000000000000000000000000000000000000000000000000000000000000000000000000000000000000000000000000000000000000000000000000000000000000000000000000000000000000000000000000000000000000000000000000000000000000000000000000000000000000000000000000000000000000000000000000000000000000000000000000000000000000000000000000000000000000000000000000000000000000000000000000000000000000000000000000000000000000000000000000000000000000000000000000000000000000000000000000000000000000000000000000000000000000000000000000000000000000000000000000000000000000000000000000000000000000000000000000000000000000000000000000000000000000000000000000000000000000000000000000000000000000000000000000000000000000000000000000000000000000000000000000000000000000000000000000000000000000000000000000000000000000000000000000000000000000000000000000000000000000000000000000000000000000000000000000000000000000000000000000000000000000000000000000000000000000000000000000000000000000000000000000000000000000000000000000000000000000000000000000000000000000000000000000000000000000000000000000000000000000000000000000000000000000000000000000000000000000000000000000000000000000000000000000000000000000000000000000000000000000000000000000000000000000000000000000000000000000000000000000000000000000000000000000000000000000000000000000000000000000000000000000000000000000000000000000000000000000000000000000000000000000000000000000000000000000000000000000000000000000000000000000000000000000000000000000000000000000000000000000000000000000000000000000000000000000000000000000000000000000000000000000000000000000000000000000000000000000000000000000000000000000000000000000000000000000000000000000000000000000000000000000000000000000000000000000000000000000000000000000000000000000000000000000000000000000000000000000000000000000000000000000000000000000000000000000000000000000000000000000000000000000000000000000000000000000000000000000000000000000000000000000000000000000000000000000000000000000000000000000000000000000000000000000000000000000000000000000000000000000000000000000000000000000000000000000000000000000000000000000000000000000000000000000000000000000000000000000000000000000000000000000000000000000000000000000000000000000000000000000000000000000000000000000000000000000000000000000000000000000000000000000000000000000000000000000000000000000000000000000000000000000000000000000000000000000000000000000000000000000000000000000000000000000000000000000000000000000000 310)⟩, ⟨PyData.keyHash P (Str.ofString "gcd"), (.str (Str.ofString "gcd") 319), (.ref 111)⟩, ⟨PyData.keyHash P (Str.ofString "bounded"), (.str (Str.ofString "bounded") 327), (.ref 118)⟩, ⟨PyData.keyHash P (Str.ofString "make"), (.str (Str.ofString "make") 336), (.ref 125)⟩, ⟨PyData.keyHash P (Str.ofString "from_int"), (.str (Str.ofString "from_int") 343), (.ref 132)⟩, ⟨PyData.keyHash P (Str.ofString "is_na"), (.str (Str.ofString "is_na") 350), (.ref 139)⟩, ⟨PyData.keyHash P (Str.ofString "is_nan"), (.str (Str.ofString "is_nan") 357), (.ref 146)⟩, ⟨PyData.keyHash P (Str.ofString "is_finite"), (.str (Str.ofString "is_finite") 364), (.ref 153)⟩, ⟨PyData.keyHash P (Str.ofString "marked"), (.str (Str.ofString "marked") 372), (.ref 160)⟩, ⟨PyData.keyHash P (Str.ofString "neg"), (.str (Str.ofString "neg") 379), (.ref 167)⟩, ⟨PyData.keyHash P (Str.ofString "add"), (.str (Str.ofString "add") 387), (.ref 174)⟩, ⟨PyData.keyHash P (Str.ofString "sub"), (.str (Str.ofString "sub") 395), (.ref 181)⟩, ⟨PyData.keyHash P (Str.ofString "mul"), (.str (Str.ofString "mul") 403), (.ref 188)⟩, ⟨PyData.keyHash P (Str.ofString "div"), (.str (Str.ofString "div") 411), (.ref 195)⟩, ⟨PyData.keyHash P (Str.ofString "floor"), (.str (Str.ofString "floor") 418), (.ref 202)⟩, ⟨PyData.keyHash P (Str.ofString "compare"), (.str (Str.ofString "compare") 428), (.ref 209)⟩, ⟨PyData.keyHash P (Str.ofString "Null"), (.str (Str.ofString "Null") 459), (.ref 226)⟩, ⟨PyData.keyHash P (Str.ofString "Vector"), (.str (Str.ofString "Vector") 501), (.ref 255)⟩, ⟨PyData.keyHash P (Str.ofString "Symbol"), (.str (Str.ofString "Symbol") 532), (.ref 276)⟩, ⟨PyData.keyHash P (Str.ofString "Call"), (.str (Str.ofString "Call") 567), (.ref 298)⟩, ⟨PyData.keyHash P (Str.ofString "Builtin"), (.str (Str.ofString "Builtin") 604), (.ref 319)⟩]) 43, #[]⟩
noncomputable def x12v3 : Obj := ⟨.none, none, .fields #[(.int 1 0), (.int 0 0), (.ref 20), (.int 5 0), (.int 0 0), (.ref 27), (.int 9 0), (.int 0 0), (.ref 34), (.int 14 0), (.int 0 0), (.ref 41), (.int 19 0), (.int 0 0), (.ref 48), (.int 24 0), (.int 0 0), (.ref 55), (.int 29 0), (.int 0 0), (.ref 62), (.int 40 0), (.int 0 0), (.ref 69), (.int 49 0), (.int 0 0), (.ref 76), (.int 51 0), (.int 0 0), (.ref 89), (.int 60 0), (.int 0 0), (.ref 110), (.int 64 0), (.int 0 0), (.ref 117), (.int 68 0), (.int 0 0), (.ref 124), (.int 78 0), (.int 0 0), (.ref 131), (.int 82 0), (.int 0 0), (.ref 138), (.int 84 0), (.int 0 0), (.ref 145), (.int 86 0), (.int 0 0), (.ref 152), (.int 88 0), (.int 0 0), (.ref 159), (.int 92 0), (.int 0 0), (.ref 166), (.int 96 0), (.int 0 0), (.ref 173), (.int 106 0), (.int 0 0), (.ref 180), (.int 108 0), (.int 0 0), (.ref 187), (.int 112 0), (.int 0 0), (.ref 194), (.int 120 0), (.int 0 0), (.ref 201), (.int 124 0), (.int 0 0), (.ref 208), (.int 143 0), (.int 0 0), (.ref 215), (.int 148 0), (.int 0 0), (.ref 236), (.int 159 0), (.int 0 0), (.ref 265), (.int 165 0), (.int 0 0), (.ref 286), (.int 173 0), (.int 0 0), (.ref 308)], #[]⟩
noncomputable def x260 : Obj := ⟨(.type "tuple"), none, .seq #[] 0, #[]⟩
noncomputable def x261 : Obj := ⟨(.type "builtin_function_or_method"), none, .fields #[(.builtin "type.__prepare__"), (.type "type")], #[]⟩
noncomputable def x262 (P : Params) : Obj := ⟨(.type "dict"), none, .dict (List.toArray [⟨PyData.keyHash P (Str.ofString "__module__"), (.str (Str.ofString "__module__") 509), (.str (Str.ofString "vectorcove.values") 429)⟩, ⟨PyData.keyHash P (Str.ofString "__qualname__"), (.str (Str.ofString "__qualname__") 511), (.str (Str.ofString "Symbol") 510)⟩, ⟨PyData.keyHash P (Str.ofString "__firstlineno__"), (.str (Str.ofString "__firstlineno__") 513), (.int 159 512)⟩, ⟨PyData.keyHash P (Str.ofString "__init__"), (.str (Str.ofString "__init__") 521), (.ref 273)⟩, ⟨PyData.keyHash P (Str.ofString "__static_attributes__"), (.str (Str.ofString "__static_attributes__") 525), (.ref 274)⟩]) 5, #[]⟩
noncomputable def x263 : Obj := ⟨(.type "tuple"), none, .seq #[] 0, #[]⟩
noncomputable def x264 : Obj := ⟨.none, none, .fields #[(.int 161 0), (.int 4 0), (.ref 272)], #[]⟩
noncomputable def x265 : Obj := ⟨(.type "code"), none, .fields #[(.str (Str.ofString "Symbol") 504), (.str (Str.ofString "Symbol") 505), (.str (Str.ofString "/claim/cut.py") 506), (.int 159 0), (.int 0 0), (.int 0 0), (.int 0 0), (.int 0 0), (.ref 263), (.bool false), (.int 181 0), (.ref 264), .none, .none, .none, .none, (.int 507 0), (.int 159 0), (.str (Str.ofString "/claim/cut.py") 508)], #[]⟩
noncomputable def x266 : Obj := ⟨(.type "frame"), none, .plain, #[some (.ref 265), some (.ref 3), some (.ref 262), none, some (.str (Str.ofString "vectorcove.values") 429), none, some (.ref 0)]⟩
noncomputable def x267 : Obj := ⟨(.type "tuple"), none, .seq #[] 0, #[]⟩
noncomputable def x268 : Obj := ⟨.none, none, .fields #[], #[]⟩
noncomputable def x269 : Obj := ⟨(.type "tuple"), none, .seq #[(.str (Str.ofString "self") 517), (.str (Str.ofString "name") 518)] 0, #[]⟩
noncomputable def x270 : Obj := ⟨(.type "tuple"), none, .seq #[] 0, #[]⟩
noncomputable def x271 : Obj := fnTmp (inCls (top 35) 0) .none 0 0 (Str.ofString "Symbol.__init__") .none .none .none .none .none .none
noncomputable def x272 : Obj := ⟨(.type "code"), none, .fields #[(.str (Str.ofString "__init__") 514), (.str (Str.ofString "Symbol.__init__") 515), (.str (Str.ofString "/claim/cut.py") 516), (.int 161 0), (.int 2 0), (.int 0 0), (.int 0 0), (.int 3 0), (.ref 267), (.bool true), (.int 181 0), (.ref 268), .none, (.ref 269), (.ref 270), (.ref 271), (.int 519 0), (.int 161 0), (.str (Str.ofString "/claim/cut.py") 520)], #[]⟩
noncomputable def x273 : Obj := by
  refine (fun (o : Obj) (_ : fnObj (inCls (top 35) 0) (Str.ofString "Symbol.__init__") .none .none .none (.str (Str.ofString "vectorcove.values") 429) (.ref 272) .none = o) => o) ?_ ?h
  rotate_left
  conv => lhs; whnf
noncomputable def x274 : Obj := ⟨(.type "tuple"), none, .seq #[(.str (Str.ofString "attrs") 522), (.str (Str.ofString "kind") 523), (.str (Str.ofString "name") 524)] 0, #[]⟩
noncomputable def x275 (P : Params) : Obj := ⟨(.type "dict"), none, .dict (List.toArray [⟨PyData.keyHash P (Str.ofString "__module__"), (.str (Str.ofString "__module__") 509), (.str (Str.ofString "vectorcove.values") 429)⟩, ⟨PyData.keyHash P (Str.ofString "__firstlineno__"), (.str (Str.ofString "__firstlineno__") 513), (.int 159 512)⟩, ⟨PyData.keyHash P (Str.ofString "__init__"), (.str (Str.ofString "__init__") 521), (.ref 273)⟩, ⟨PyData.keyHash P (Str.ofString "__static_attributes__"), (.str (Str.ofString "__static_attributes__") 525), (.ref 274)⟩, ⟨PyData.keyHash P (Str.ofString "__dict__"), (.str (Str.ofString "__dict__") 527), (.ref 277)⟩, ⟨PyData.keyHash P (Str.ofString "__weakref__"), (.str (Str.ofString "__weakref__") 529), (.ref 278)⟩, ⟨PyData.keyHash P (Str.ofString "__doc__"), (.str (Str.ofString "__doc__") 530), .none⟩]) 4, #[]⟩
noncomputable def x276 : Obj := ⟨(.type "type"), none, .cls { name := (Str.ofString "Symbol"), bases := [(.type "object")], mro := [(.ref 276), (.type "object")], ns := 275, qualname := (Str.ofString "Symbol"), hasDict := true, slotNames := [], subclasses := [], abstract := false, collection := none, hasDel := false }, #[none, none, some (.str (Str.ofString "Symbol") 502), some (.str (Str.ofString "Symbol") 510), some (.builtin "object.__new__"), some (.bool true)]⟩
noncomputable def x277 : Obj := ⟨(.type "getset_descriptor"), none, .fields #[(.str (Str.ofString "__dict__") 526), (.ref 276), (.builtin "function.__dict__"), (.builtin "function.__dict__#set")], #[]⟩
noncomputable def x278 : Obj := ⟨(.type "getset_descriptor"), none, .fields #[(.str (Str.ofString "__weakref__") 528), (.ref 276), (.builtin "ExceptionGroup.__weakref__"), .none], #[]⟩
noncomputable def x279 : Obj := ⟨(.type "super"), none, .fields #[(.ref 276), (.ref 276), (.ref 276)], #[]⟩
noncomputable def x280 : Obj := ⟨(.type "builtin_function_or_method"), none, .fields #[(.builtin "object.__init_subclass__"), (.ref 276)], #[]⟩
noncomputable def x281 : Obj := ⟨(.type "tuple"), none, .seq #[] 0, #[]⟩
noncomputable def x282 : Obj := ⟨(.type "builtin_function_or_method"), none, .fields #[(.builtin "type.__prepare__"), (.type "type")], #[]⟩
noncomputable def x283 (P : Params) : Obj := ⟨(.type "dict"), none, .dict (List.toArray [⟨PyData.keyHash P (Str.ofString "__module__"), (.str (Str.ofString "__module__") 540), (.str (Str.ofString "vectorcove.values") 429)⟩, ⟨PyData.keyHash P (Str.ofString "__qualname__"), (.str (Str.ofString "__qualname__") 542), (.str (Str.ofString "Call") 541)⟩, ⟨PyData.keyHash P (Str.ofString "__firstlineno__"), (.str (Str.ofString "__firstlineno__") 544), (.int 165 543)⟩, ⟨PyData.keyHash P (Str.ofString "__init__"), (.str (Str.ofString "__init__") 554), (.ref 295)⟩, ⟨PyData.keyHash P (Str.ofString "__static_attributes__"), (.str (Str.ofString "__static_attributes__") 560), (.ref 296)⟩]) 5, #[]⟩
noncomputable def x284 : Obj := ⟨(.type "tuple"), none, .seq #[] 0, #[]⟩
noncomputable def x285 : Obj := ⟨.none, none, .fields #[(.int 167 0), (.int 4 0), (.ref 294)], #[]⟩
noncomputable def x286 : Obj := ⟨(.type "code"), none, .fields #[(.str (Str.ofString "Call") 535), (.str (Str.ofString "Call") 536), (.str (Str.ofString "/claim/cut.py") 537), (.int 165 0), (.int 0 0), (.int 0 0), (.int 0 0), (.int 0 0), (.ref 284), (.bool false), (.int 181 0), (.ref 285), .none, .none, .none, .none, (.int 538 0), (.int 165 0), (.str (Str.ofString "/claim/cut.py") 539)], #[]⟩
noncomputable def x287 : Obj := ⟨(.type "frame"), none, .plain, #[some (.ref 286), some (.ref 3), some (.ref 283), none, some (.str (Str.ofString "vectorcove.values") 429), none, some (.ref 0)]⟩
noncomputable def x288 : Obj := ⟨(.type "tuple"), none, .seq #[.none] 0, #[]⟩
noncomputable def x289 : Obj := ⟨(.type "tuple"), none, .seq #[] 0, #[]⟩
noncomputable def x290 : Obj := ⟨.none, none, .fields #[], #[]⟩
noncomputable def x291 : Obj := ⟨(.type "tuple"), none, .seq #[(.str (Str.ofString "self") 548), (.str (Str.ofString "items") 549), (.str (Str.ofString "tags") 550), (.str (Str.ofString "attrs") 551)] 0, #[]⟩
noncomputable def x292 : Obj := ⟨(.type "tuple"), none, .seq #[] 0, #[]⟩
noncomputable def x293 : Obj := fnTmp (inCls (top 36) 0) .none 0 0 (Str.ofString "Call.__init__") .none .none .none .none .none .none
noncomputable def x294 : Obj := ⟨(.type "code"), none, .fields #[(.str (Str.ofString "__init__") 545), (.str (Str.ofString "Call.__init__") 546), (.str (Str.ofString "/claim/cut.py") 547), (.int 167 0), (.int 4 0), (.int 0 0), (.int 0 0), (.int 3 0), (.ref 289), (.bool true), (.int 181 0), (.ref 290), .none, (.ref 291), (.ref 292), (.ref 293), (.int 552 0), (.int 167 0), (.str (Str.ofString "/claim/cut.py") 553)], #[]⟩
noncomputable def x295 : Obj := by
  refine (fun (o : Obj) (_ : fnObj (inCls (top 36) 0) (Str.ofString "Call.__init__") (.ref 288) .none .none (.str (Str.ofString "vectorcove.values") 429) (.ref 294) .none = o) => o) ?_ ?h
  rotate_left
  conv => lhs; whnf
noncomputable def x296 : Obj := ⟨(.type "tuple"), none, .seq #[(.str (Str.ofString "attrs") 555), (.str (Str.ofString "code") 556), (.str (Str.ofString "items") 557), (.str (Str.ofString "kind") 558), (.str (Str.ofString "tags") 559)] 0, #[]⟩
noncomputable def x297 (P : Params) : Obj := ⟨(.type "dict"), none, .dict (List.toArray [⟨PyData.keyHash P (Str.ofString "__module__"), (.str (Str.ofString "__module__") 540), (.str (Str.ofString "vectorcove.values") 429)⟩, ⟨PyData.keyHash P (Str.ofString "__firstlineno__"), (.str (Str.ofString "__firstlineno__") 544), (.int 165 543)⟩, ⟨PyData.keyHash P (Str.ofString "__init__"), (.str (Str.ofString "__init__") 554), (.ref 295)⟩, ⟨PyData.keyHash P (Str.ofString "__static_attributes__"), (.str (Str.ofString "__static_attributes__") 560), (.ref 296)⟩, ⟨PyData.keyHash P (Str.ofString "__dict__"), (.str (Str.ofString "__dict__") 562), (.ref 299)⟩, ⟨PyData.keyHash P (Str.ofString "__weakref__"), (.str (Str.ofString "__weakref__") 564), (.ref 300)⟩, ⟨PyData.keyHash P (Str.ofString "__doc__"), (.str (Str.ofString "__doc__") 565), .none⟩]) 4, #[]⟩
noncomputable def x298 : Obj := ⟨(.type "type"), none, .cls { name := (Str.ofString "Call"), bases := [(.type "object")], mro := [(.ref 298), (.type "object")], ns := 297, qualname := (Str.ofString "Call"), hasDict := true, slotNames := [], subclasses := [], abstract := false, collection := none, hasDel := false }, #[none, none, some (.str (Str.ofString "Call") 533), some (.str (Str.ofString "Call") 541), some (.builtin "object.__new__"), some (.bool true)]⟩
noncomputable def x299 : Obj := ⟨(.type "getset_descriptor"), none, .fields #[(.str (Str.ofString "__dict__") 561), (.ref 298), (.builtin "function.__dict__"), (.builtin "function.__dict__#set")], #[]⟩
noncomputable def x300 : Obj := ⟨(.type "getset_descriptor"), none, .fields #[(.str (Str.ofString "__weakref__") 563), (.ref 298), (.builtin "ExceptionGroup.__weakref__"), .none], #[]⟩
noncomputable def x301 : Obj := ⟨(.type "super"), none, .fields #[(.ref 298), (.ref 298), (.ref 298)], #[]⟩
noncomputable def x302 : Obj := ⟨(.type "builtin_function_or_method"), none, .fields #[(.builtin "object.__init_subclass__"), (.ref 298)], #[]⟩
noncomputable def x303 : Obj := ⟨(.type "tuple"), none, .seq #[] 0, #[]⟩
noncomputable def x304 : Obj := ⟨(.type "builtin_function_or_method"), none, .fields #[(.builtin "type.__prepare__"), (.type "type")], #[]⟩
noncomputable def x305 (P : Params) : Obj := ⟨(.type "dict"), none, .dict (List.toArray [⟨PyData.keyHash P (Str.ofString "__module__"), (.str (Str.ofString "__module__") 575), (.str (Str.ofString "vectorcove.values") 429)⟩, ⟨PyData.keyHash P (Str.ofString "__qualname__"), (.str (Str.ofString "__qualname__") 577), (.str (Str.ofString "Builtin") 576)⟩, ⟨PyData.keyHash P (Str.ofString "__firstlineno__"), (.str (Str.ofString "__firstlineno__") 579), (.int 173 578)⟩, ⟨PyData.keyHash P (Str.ofString "__init__"), (.str (Str.ofString "__init__") 590), (.ref 316)⟩, ⟨PyData.keyHash P (Str.ofString "__static_attributes__"), (.str (Str.ofString "__static_attributes__") 597), (.ref 317)⟩]) 5, #[]⟩
noncomputable def x306 : Obj := ⟨(.type "tuple"), none, .seq #[] 0, #[]⟩
noncomputable def x307 : Obj := ⟨.none, none, .fields #[(.int 175 0), (.int 4 0), (.ref 315)], #[]⟩
noncomputable def x308 : Obj := ⟨(.type "code"), none, .fields #[(.str (Str.ofString "Builtin") 570), (.str (Str.ofString "Builtin") 571), (.str (Str.ofString "/claim/cut.py") 572), (.int 173 0), (.int 0 0), (.int 0 0), (.int 0 0), (.int 0 0), (.ref 306), (.bool false), (.int 181 0), (.ref 307), .none, .none, .none, .none, (.int 573 0), (.int 173 0), (.str (Str.ofString "/claim/cut.py") 574)], #[]⟩
noncomputable def x309 : Obj := ⟨(.type "frame"), none, .plain, #[some (.ref 308), some (.ref 3), some (.ref 305), none, some (.str (Str.ofString "vectorcove.values") 429), none, some (.ref 0)]⟩
noncomputable def x310 : Obj := ⟨(.type "tuple"), none, .seq #[] 0, #[]⟩
noncomputable def x311 : Obj := ⟨.none, none, .fields #[], #[]⟩
noncomputable def x312 : Obj := ⟨(.type "tuple"), none, .seq #[(.str (Str.ofString "self") 583), (.str (Str.ofString "name") 584), (.str (Str.ofString "special") 585), (.str (Str.ofString "fn") 586), (.str (Str.ofString "group") 587)] 0, #[]⟩
noncomputable def x313 : Obj := ⟨(.type "tuple"), none, .seq #[] 0, #[]⟩
noncomputable def x314 : Obj := fnTmp (inCls (top 37) 0) .none 0 0 (Str.ofString "Builtin.__init__") .none .none .none .none .none .none
noncomputable def x315 : Obj := ⟨(.type "code"), none, .fields #[(.str (Str.ofString "__init__") 580), (.str (Str.ofString "Builtin.__init__") 581), (.str (Str.ofString "/claim/cut.py") 582), (.int 175 0), (.int 5 0), (.int 0 0), (.int 0 0), (.int 3 0), (.ref 310), (.bool true), (.int 181 0), (.ref 311), .none, (.ref 312), (.ref 313), (.ref 314), (.int 588 0), (.int 175 0), (.str (Str.ofString "/claim/cut.py") 589)], #[]⟩
noncomputable def x316 : Obj := by
  refine (fun (o : Obj) (_ : fnObj (inCls (top 37) 0) (Str.ofString "Builtin.__init__") .none .none .none (.str (Str.ofString "vectorcove.values") 429) (.ref 315) .none = o) => o) ?_ ?h
  rotate_left
  conv => lhs; whnf
noncomputable def x317 : Obj := ⟨(.type "tuple"), none, .seq #[(.str (Str.ofString "attrs") 591), (.str (Str.ofString "fn") 592), (.str (Str.ofString "group") 593), (.str (Str.ofString "kind") 594), (.str (Str.ofString "name") 595), (.str (Str.ofString "special") 596)] 0, #[]⟩
noncomputable def x318 (P : Params) : Obj := ⟨(.type "dict"), none, .dict (List.toArray [⟨PyData.keyHash P (Str.ofString "__module__"), (.str (Str.ofString "__module__") 575), (.str (Str.ofString "vectorcove.values") 429)⟩, ⟨PyData.keyHash P (Str.ofString "__firstlineno__"), (.str (Str.ofString "__firstlineno__") 579), (.int 173 578)⟩, ⟨PyData.keyHash P (Str.ofString "__init__"), (.str (Str.ofString "__init__") 590), (.ref 316)⟩, ⟨PyData.keyHash P (Str.ofString "__static_attributes__"), (.str (Str.ofString "__static_attributes__") 597), (.ref 317)⟩, ⟨PyData.keyHash P (Str.ofString "__dict__"), (.str (Str.ofString "__dict__") 599), (.ref 320)⟩, ⟨PyData.keyHash P (Str.ofString "__weakref__"), (.str (Str.ofString "__weakref__") 601), (.ref 321)⟩, ⟨PyData.keyHash P (Str.ofString "__doc__"), (.str (Str.ofString "__doc__") 602), .none⟩]) 4, #[]⟩
noncomputable def x319 : Obj := ⟨(.type "type"), none, .cls { name := (Str.ofString "Builtin"), bases := [(.type "object")], mro := [(.ref 319), (.type "object")], ns := 318, qualname := (Str.ofString "Builtin"), hasDict := true, slotNames := [], subclasses := [], abstract := false, collection := none, hasDel := false }, #[none, none, some (.str (Str.ofString "Builtin") 568), some (.str (Str.ofString "Builtin") 576), some (.builtin "object.__new__"), some (.bool true)]⟩
noncomputable def x320 : Obj := ⟨(.type "getset_descriptor"), none, .fields #[(.str (Str.ofString "__dict__") 598), (.ref 319), (.builtin "function.__dict__"), (.builtin "function.__dict__#set")], #[]⟩
noncomputable def x321 : Obj := ⟨(.type "getset_descriptor"), none, .fields #[(.str (Str.ofString "__weakref__") 600), (.ref 319), (.builtin "ExceptionGroup.__weakref__"), .none], #[]⟩
noncomputable def x322 : Obj := ⟨(.type "super"), none, .fields #[(.ref 319), (.ref 319), (.ref 319)], #[]⟩
noncomputable def x323 : Obj := ⟨(.type "builtin_function_or_method"), none, .fields #[(.builtin "object.__init_subclass__"), (.ref 319)], #[]⟩
noncomputable def x3v3 (P : Params) : Obj := ⟨(.type "dict"), none, .dict (List.toArray [⟨PyData.keyHash P (Str.ofString "__name__"), (.str (Str.ofString "__name__") 165), (.str (Str.ofString "law_qd0172_01") 849)⟩, ⟨PyData.keyHash P (Str.ofString "__doc__"), (.str (Str.ofString "__doc__") 166), .none⟩, ⟨PyData.keyHash P (Str.ofString "__package__"), (.str (Str.ofString "__package__") 167), .none⟩, ⟨PyData.keyHash P (Str.ofString "__loader__"), (.str (Str.ofString "__loader__") 168), (.builtin "__main__.__loader__#opaque")⟩, ⟨PyData.keyHash P (Str.ofString "__spec__"), (.str (Str.ofString "__spec__") 169), .none⟩, ⟨PyData.keyHash P (Str.ofString "__annotations__"), (.str (Str.ofString "__annotations__") 170), (.ref 6)⟩, ⟨PyData.keyHash P (Str.ofString "__builtins__"), (.str (Str.ofString "__builtins__") 171), (.ref 4)⟩, ⟨PyData.keyHash P (Str.ofString "__file__"), (.str (Str.ofString "__file__") 173), (.str (Str.ofString "/claim/cut.py") 172)⟩, ⟨PyData.keyHash P (Str.ofString "__cached__"), (.str (Str.ofString "__cached__") 174), .none⟩, ⟨PyData.keyHash P (Str.ofString "_wall"), (.str (Str.ofString "_wall") 193), (.ref 21)⟩, ⟨PyData.keyHash P (Str.ofString "get_attr"), (.str (Str.ofString "get_attr") 203), (.ref 28)⟩, ⟨PyData.keyHash P (Str.ofString "dim_of"), (.str (Str.ofString "dim_of") 211), (.ref 35)⟩, ⟨PyData.keyHash P (Str.ofString "class_attr"), (.str (Str.ofString "class_attr") 219), (.ref 42)⟩, ⟨PyData.keyHash P (Str.ofString "language_class"), (.str (Str.ofString "language_class") 227), (.ref 49)⟩, ⟨PyData.keyHash P (Str.ofString "shape_class"), (.str (Str.ofString "shape_class") 235), (.ref 56)⟩, ⟨PyData.keyHash P (Str.ofString "plain_class"), (.str (Str.ofString "plain_class") 243), (.ref 63)⟩, ⟨PyData.keyHash P (Str.ofString "class_of"), (.str (Str.ofString "class_of") 251), (.ref 70)⟩, ⟨PyData.keyHash P (Str.ofString "CoveError"), (.str (Str.ofString "CoveError") 273), (.ref 80)⟩, ⟨PyData.keyHash P (Str.ofString "Refusal"), (.str (Str.ofString "Refusal") 298), (.ref 100)⟩, ⟨PyData.keyHash P (Str.ofString "NAN"), (.str (Str.ofString "NAN") 303), (.ref 103)⟩, ⟨PyData.keyHash P (Str.ofString "ZERO"), (.str (Str.ofString "ZERO") 306), (.ref 104)⟩, ⟨PyData.keyHash P (Str.ofString "MOST_FIGURES"), (.str (Str.ofString "MOST_FIGURES") 308), (.int 5000 307)⟩, ⟨PyData.keyHash P (Str.ofString "MOST_PART"), (.str (Str.ofString "MOST_PART") 311), (.int 100000000000000000000000000000000000000000000000000000000000000000000000000000000000000000000000000000000000000000000000000000000000000000000000000000000000000000000000000000000000000000000000000000000000000000000000000000000000000000000000000000000000000000000000000000000000000000000000000000000000000000000000000000000000000000000000000000000000000000000000000000000000000000000000000000000000000000000000000000000000000000000000000000000000000000000000000000000000000000000000000000000000000000000000000000000000000000000000000000000000000000000000000000000000000000000000000000000000000000000000000000000000000000000000000000000000000000000000000000000000000000000000000000000000000000000000000000000000000000000000000000000000000000000000000000000000000000000000000000000000000000000000000000000000000000000000000000000000000000000000000000000000000000000000000000000000000000000000000000000000000000000000000000000000000000000000000000000000000000000000000000000000000000000000000000000000000000000000000000000000000000000000000000000000000000000000000000000000000000000000000000000000000000000000000000000000000000000000000000000000000000000000000000000000000000000000000000000000000000000000000000000000000000000000000000000000000000000000000000000000000000000000000000000000000000000000000000000000000000000000000000000000000000000000000000000000000000000000000000000000000000000000000000000000000000000000000000000000000000000000000000000000000000000000000000000000000000000000000000000000000000000000000000000000000000000000000000000000000000000000000000000000000000000000000000000000000000000000000000000000000000000000000000000000000000000000000000000000000000000000000000000000000000000000000000000000000000000000000000000000000000000000000000000000000000000000000000000000000000000000000000000000000000000000000000000000000000000000000000000000000000000000000000000000000000000000000000000000000000000000000000000000000000000000000000000000000000000000000000000000000000000000000000000000000000000000000000000000000000000000000000000000000000000000000000000000000000000000000000000000000000000000000000000000000000000000000000000000000000000000000000000000000000000000000000000000000000000000000000000000000000000000000000000000000000000000000000000000000000000000000000000000000000000000000000000000000000000000000000000000000000000000000000000000000000000000000000000000000000000000000000000000000000000000000000000000000000000000000000000000000000000000000000000000000000000000000000000000000000000000000000000000000000000000000000000000000000000000000000000000000000000000000000000000000000000000000000000000000000000000000000000000000000000000000000000000000000000000000000000000000000000000000000000000000000000000000000000000000000000000000000000000000000000000000000000000000000000000000000000000000000000000000000000000000000000000000000000000000000000000000000000000000000000000000000000000000000000000000000000000000000000000000000000000000000000000000000000000000000000000000000000000000000000000000000000000000000000000000000000000000000000000000000000000000000000000000000000000000000000000000000000000000000000000000000000000000000000000000000000000000000000000000000000000000000000000000000000000000000000000000000000000000000000000000000000000000000000000000000000000000000000000000000000000000000000000000000000000000000000000000000000000000000000000000000000000000000000000000000000000000000000000000000000000000000000000000000000000000000000000000000000000000000000000000000000000000000000000000000000000000000000000000000000000000000000000000000000000000000000000000000000000000000000000000000000000000000000000000000000000000000000000000000000000000000000000000000000000000000000000000000000000000000000000000000000000000000000000000000000000000000000000000000000000000000000000000000000000000000000000000000000000000000000000000000000000000000000000000000000000000000000000000000000000000000000000000000000000000000000000000000000000000000000000000000000000000000000000000000000000000000000000000000000000000000000000000000000000000000000000000000000000000000000000000000000000000000000000000000000000000000000000000000000000000000000000000000000000000000000000000000000000000000000000000000000000000000000000000000000000000000000000000000000000000000000000000000000000000000000000000000000000000000000000000000000000000000000000000000000000000000000000000000000000000000000000000000000000000000000000000000000000000000000000000000000000000000000000000000000000000000000000000000000000000000000000000000000000000000000000000000000000000000000000000000000000000000000000000000000000000000000000000000000000000000000000000000000000000000000000000000000000000000000000000000000000000000000000000000000000000000000000000000000000000000000000000000000000000000000000000000000000000000000000000000000000000000000000000000000000000000000000000000000000000000000000000000000000000000000000000000000000000000000000000000000000000000000000000000000000000000000000000000000 310)⟩, ⟨PyData.keyHash P (Str.ofString "gcd"), (.str (Str.ofString "gcd") 319), (.ref 111)⟩, ⟨PyData.keyHash P (Str.ofString "bounded"), (.str (Str.ofString "bounded") 327), (.ref 118)⟩, ⟨PyData.keyHash P (Str.ofString "make"), (.str (Str.ofString "make") 336), (.ref 125)⟩, ⟨PyData.keyHash P (Str.ofString "from_int"), (.str (Str.ofString "from_int") 343), (.ref 132)⟩, ⟨PyData.keyHash P (Str.ofString "is_na"), (.str (Str.ofString "is_na") 350), (.ref 139)⟩, ⟨PyData.keyHash P (Str.ofString "is_nan"), (.str (Str.ofString "is_nan") 357), (.ref 146)⟩, ⟨PyData.keyHash P (Str.ofString "is_finite"), (.str (Str.ofString "is_finite") 364), (.ref 153)⟩, ⟨PyData.keyHash P (Str.ofString "marked"), (.str (Str.ofString "marked") 372), (.ref 160)⟩, ⟨PyData.keyHash P (Str.ofString "neg"), (.str (Str.ofString "neg") 379), (.ref 167)⟩, ⟨PyData.keyHash P (Str.ofString "add"), (.str (Str.ofString "add") 387), (.ref 174)⟩, ⟨PyData.keyHash P (Str.ofString "sub"), (.str (Str.ofString "sub") 395), (.ref 181)⟩, ⟨PyData.keyHash P (Str.ofString "mul"), (.str (Str.ofString "mul") 403), (.ref 188)⟩, ⟨PyData.keyHash P (Str.ofString "div"), (.str (Str.ofString "div") 411), (.ref 195)⟩, ⟨PyData.keyHash P (Str.ofString "floor"), (.str (Str.ofString "floor") 418), (.ref 202)⟩, ⟨PyData.keyHash P (Str.ofString "compare"), (.str (Str.ofString "compare") 428), (.ref 209)⟩, ⟨PyData.keyHash P (Str.ofString "Null"), (.str (Str.ofString "Null") 459), (.ref 226)⟩, ⟨PyData.keyHash P (Str.ofString "Vector"), (.str (Str.ofString "Vector") 501), (.ref 255)⟩, ⟨PyData.keyHash P (Str.ofString "Symbol"), (.str (Str.ofString "Symbol") 532), (.ref 276)⟩, ⟨PyData.keyHash P (Str.ofString "Call"), (.str (Str.ofString "Call") 567), (.ref 298)⟩, ⟨PyData.keyHash P (Str.ofString "Builtin"), (.str (Str.ofString "Builtin") 604), (.ref 319)⟩, ⟨PyData.keyHash P (Str.ofString "null"), (.str (Str.ofString "null") 610), (.ref 330)⟩, ⟨PyData.keyHash P (Str.ofString "double"), (.str (Str.ofString "double") 617), (.ref 337)⟩, ⟨PyData.keyHash P (Str.ofString "character"), (.str (Str.ofString "character") 624), (.ref 344)⟩, ⟨PyData.keyHash P (Str.ofString "symbol"), (.str (Str.ofString "symbol") 631), (.ref 351)⟩, ⟨PyData.keyHash P (Str.ofString "call_of"), (.str (Str.ofString "call_of") 640), (.ref 358)⟩, ⟨PyData.keyHash P (Str.ofString "length"), (.str (Str.ofString "length") 648), (.ref 365)⟩, ⟨PyData.keyHash P (Str.ofString "is_function"), (.str (Str.ofString "is_function") 655), (.ref 372)⟩, ⟨PyData.keyHash P (Str.ofString "share"), (.str (Str.ofString "share") 662), (.ref 379)⟩, ⟨PyData.keyHash P (Str.ofString "MOST_SCALE"), (.str (Str.ofString "MOST_SCALE") 668), (.int 1000000000000000000000000000000000000000000000000000000000000000000000000000000000000000000000000000000000000000000000000000000000000000000000000000000000000000000000000000000000000000000000000000000000000000000000000000000000000000000000000000000000000000000000000000000000000000000000000000000000000 667)⟩, ⟨PyData.keyHash P (Str.ofString "double_sum"), (.str (Str.ofString "double_sum") 677), (.ref 386)⟩, ⟨PyData.keyHash P (Str.ofString "number_items"), (.str (Str.ofString "number_items") 683), (.ref 391)⟩, ⟨PyData.keyHash P (Str.ofString "mean_items"), (.str (Str.ofString "mean_items") 690), (.ref 398)⟩, ⟨PyData.keyHash P (Str.ofString "mean_of"), (.str (Str.ofString "mean_of") 697), (.ref 405)⟩, ⟨PyData.keyHash P (Str.ofString "joined_ascending"), (.str (Str.ofString "joined_ascending") 708), (.ref 412)⟩, ⟨PyData.keyHash P (Str.ofString "by_comparing"), (.str (Str.ofString "by_comparing") 714), (.ref 417)⟩, ⟨PyData.keyHash P (Str.ofString "ascending"), (.str (Str.ofString "ascending") 724), (.ref 424)⟩, ⟨PyData.keyHash P (Str.ofString "lacking_item"), (.str (Str.ofString "lacking_item") 732), (.ref 431)⟩, ⟨PyData.keyHash P (Str.ofString "quantile_item"), (.str (Str.ofString "quantile_item") 743), (.ref 438)⟩, ⟨PyData.keyHash P (Str.ofString "quantile7"), (.str (Str.ofString "quantile7") 749), (.ref 443)⟩, ⟨PyData.keyHash P (Str.ofString "tabulate"), (.str (Str.ofString "tabulate") 760), (.ref 450)⟩, ⟨PyData.keyHash P (Str.ofString "with_names"), (.str (Str.ofString "with_names") 770), (.ref 457)⟩, ⟨PyData.keyHash P (Str.ofString "kept_numbers"), (.str (Str.ofString "kept_numbers") 776), (.ref 462)⟩, ⟨PyData.keyHash P (Str.ofString "summary_numbers"), (.str (Str.ofString "summary_numbers") 789), (.ref 469)⟩, ⟨PyData.keyHash P (Str.ofString "summary_truths"), (.str (Str.ofString "summary_truths") 802), (.ref 476)⟩, ⟨PyData.keyHash P (Str.ofString "summary_factor"), (.str (Str.ofString "summary_factor") 814), (.ref 483)⟩, ⟨PyData.keyHash P (Str.ofString "mode_of"), (.str (Str.ofString "mode_of") 822), (.ref 490)⟩, ⟨PyData.keyHash P (Str.ofString "b_summary"), (.str (Str.ofString "b_summary") 834), (.ref 497)⟩, ⟨PyData.keyHash P (Str.ofString "call_with"), (.str (Str.ofString "call_with") 842), (.ref 502)⟩, ⟨PyData.keyHash P (Str.ofString "b_call"), (.str (Str.ofString "b_call") 848), (.ref 507)⟩, ⟨PyData.keyHash P (Str.ofString "_law_take"), (.str (Str.ofString "_law_take") 859), (.ref 514)⟩, ⟨PyData.keyHash P (Str.ofString "_law_nothing"), (.str (Str.ofString "_law_nothing") 868), (.ref 521)⟩, ⟨PyData.keyHash P (Str.ofString "law"), (.str (Str.ofString "law") 874), (.ref 526)⟩]) 75, #[]⟩
noncomputable def x329 : Obj := ⟨(.type "code"), none, .fields #[(.str (Str.ofString "null") 605), (.str (Str.ofString "null") 606), (.str (Str.ofString "/claim/cut.py") 607), (.int 182 0), (.int 0 0), (.int 0 0), (.int 0 0), (.int 3 0), (.ref 324), (.bool true), (.int 181 0), (.ref 325), .none, (.ref 326), (.ref 327), (.ref 328), (.int 608 0), (.int 182 0), (.str (Str.ofString "/claim/cut.py") 609)], #[]⟩
noncomputable def x330 : Obj := by
  refine (fun (o : Obj) (_ : fnObj (top 38) (Str.ofString "null") .none .none .none (.str (Str.ofString "vectorcove.values") 429) (.ref 329) .none = o) => o) ?_ ?h
  rotate_left
  conv => lhs; whnf
noncomputable def x343 : Obj := ⟨(.type "code"), none, .fields #[(.str (Str.ofString "character") 618), (.str (Str.ofString "character") 619), (.str (Str.ofString "/claim/cut.py") 620), (.int 186 0), (.int 1 0), (.int 0 0), (.int 0 0), (.int 3 0), (.ref 338), (.bool true), (.int 181 0), (.ref 339), .none, (.ref 340), (.ref 341), (.ref 342), (.int 622 0), (.int 186 0), (.str (Str.ofString "/claim/cut.py") 623)], #[]⟩
noncomputable def x344 : Obj := by
  refine (fun (o : Obj) (_ : fnObj (top 40) (Str.ofString "character") .none .none .none (.str (Str.ofString "vectorcove.values") 429) (.ref 343) .none = o) => o) ?_ ?h
  rotate_left
  conv => lhs; whnf
noncomputable def x350 : Obj := ⟨(.type "code"), none, .fields #[(.str (Str.ofString "symbol") 625), (.str (Str.ofString "symbol") 626), (.str (Str.ofString "/claim/cut.py") 627), (.int 188 0), (.int 1 0), (.int 0 0), (.int 0 0), (.int 3 0), (.ref 345), (.bool true), (.int 181 0), (.ref 346), .none, (.ref 347), (.ref 348), (.ref 349), (.int 629 0), (.int 188 0), (.str (Str.ofString "/claim/cut.py") 630)], #[]⟩
noncomputable def x351 : Obj := by
  refine (fun (o : Obj) (_ : fnObj (top 41) (Str.ofString "symbol") .none .none .none (.str (Str.ofString "vectorcove.values") 429) (.ref 350) .none = o) => o) ?_ ?h
  rotate_left
  conv => lhs; whnf
noncomputable def x357 : Obj := ⟨(.type "code"), none, .fields #[(.str (Str.ofString "call_of") 632), (.str (Str.ofString "call_of") 633), (.str (Str.ofString "/claim/cut.py") 634), (.int 190 0), (.int 2 0), (.int 0 0), (.int 0 0), (.int 3 0), (.ref 352), (.bool true), (.int 181 0), (.ref 353), .none, (.ref 354), (.ref 355), (.ref 356), (.int 638 0), (.int 190 0), (.str (Str.ofString "/claim/cut.py") 639)], #[]⟩
noncomputable def x358 : Obj := by
  refine (fun (o : Obj) (_ : fnObj (top 42) (Str.ofString "call_of") .none .none .none (.str (Str.ofString "vectorcove.values") 429) (.ref 357) .none = o) => o) ?_ ?h
  rotate_left
  conv => lhs; whnf
noncomputable def x364 : Obj := ⟨(.type "code"), none, .fields #[(.str (Str.ofString "length") 641), (.str (Str.ofString "length") 642), (.str (Str.ofString "/claim/cut.py") 643), (.int 193 0), (.int 1 0), (.int 0 0), (.int 0 0), (.int 3 0), (.ref 359), (.bool true), (.int 181 0), (.ref 360), .none, (.ref 361), (.ref 362), (.ref 363), (.int 646 0), (.int 193 0), (.str (Str.ofString "/claim/cut.py") 647)], #[]⟩
noncomputable def x365 : Obj := by
  refine (fun (o : Obj) (_ : fnObj (top 43) (Str.ofString "length") .none .none .none (.str (Str.ofString "vectorcove.values") 429) (.ref 364) .none = o) => o) ?_ ?h
  rotate_left
  conv => lhs; whnf
noncomputable def x371 : Obj := ⟨(.type "code"), none, .fields #[(.str (Str.ofString "is_function") 649), (.str (Str.ofString "is_function") 650), (.str (Str.ofString "/claim/cut.py") 651), (.int 204 0), (.int 1 0), (.int 0 0), (.int 0 0), (.int 3 0), (.ref 366), (.bool true), (.int 181 0), (.ref 367), .none, (.ref 368), (.ref 369), (.ref 370), (.int 653 0), (.int 204 0), (.str (Str.ofString "/claim/cut.py") 654)], #[]⟩
noncomputable def x372 : Obj := by
  refine (fun (o : Obj) (_ : fnObj (top 44) (Str.ofString "is_function") .none .none .none (.str (Str.ofString "vectorcove.values") 429) (.ref 371) .none = o) => o) ?_ ?h
  rotate_left
  conv => lhs; whnf
noncomputable def x378 : Obj := ⟨(.type "code"), none, .fields #[(.str (Str.ofString "share") 656), (.str (Str.ofString "share") 657), (.str (Str.ofString "/claim/cut.py") 658), (.int 206 0), (.int 1 0), (.int 0 0), (.int 0 0), (.int 3 0), (.ref 373), (.bool true), (.int 181 0), (.ref 374), .none, (.ref 375), (.ref 376), (.ref 377), (.int 660 0), (.int 206 0), (.str (Str.ofString "/claim/cut.py") 661)], #[]⟩
noncomputable def x379 : Obj := by
  refine (fun (o : Obj) (_ : fnObj (top 45) (Str.ofString "share") .none .none .none (.str (Str.ofString "vectorcove.values") 429) (.ref 378) .none = o) => o) ?_ ?h
  rotate_left
  conv => lhs; whnf
noncomputable def x456 : Obj := ⟨(.type "code"), none, .fields #[(.str (Str.ofString "with_names") 763), (.str (Str.ofString "with_names") 764), (.str (Str.ofString "/claim/cut.py") 765), (.int 290 0), (.int 2 0), (.int 0 0), (.int 0 0), (.int 3 0), (.ref 451), (.bool true), (.int 181 0), (.ref 452), .none, (.ref 453), (.ref 454), (.ref 455), (.int 768 0), (.int 290 0), (.str (Str.ofString "/claim/cut.py") 769)], #[]⟩
noncomputable def x457 : Obj := by
  refine (fun (o : Obj) (_ : fnObj (top 60) (Str.ofString "with_names") .none .none .none (.str (Str.ofString "vectorcove.dispcalls") 761) (.ref 456) .none = o) => o) ?_ ?h
  rotate_left
  conv => lhs; whnf
noncomputable def x489 : Obj := ⟨(.type "code"), none, .fields #[(.str (Str.ofString "mode_of") 815), (.str (Str.ofString "mode_of") 816), (.str (Str.ofString "/claim/cut.py") 817), (.int 330 0), (.int 1 0), (.int 0 0), (.int 0 0), (.int 3 0), (.ref 484), (.bool true), (.int 181 0), (.ref 485), .none, (.ref 486), (.ref 487), (.ref 488), (.int 820 0), (.int 330 0), (.str (Str.ofString "/claim/cut.py") 821)], #[]⟩
noncomputable def x490 : Obj := by
  refine (fun (o : Obj) (_ : fnObj (top 65) (Str.ofString "mode_of") .none .none .none (.str (Str.ofString "vectorcove.dispcalls") 761) (.ref 489) .none = o) => o) ?_ ?h
  rotate_left
  conv => lhs; whnf
noncomputable def x496 : Obj := ⟨(.type "code"), none, .fields #[(.str (Str.ofString "b_summary") 823), (.str (Str.ofString "b_summary") 824), (.str (Str.ofString "/claim/cut.py") 825), (.int 343 0), (.int 3 0), (.int 0 0), (.int 0 0), (.int 3 0), (.ref 491), (.bool true), (.int 181 0), (.ref 492), .none, (.ref 493), (.ref 494), (.ref 495), (.int 832 0), (.int 343 0), (.str (Str.ofString "/claim/cut.py") 833)], #[]⟩
noncomputable def x497 : Obj := by
  refine (fun (o : Obj) (_ : fnObj (top 66) (Str.ofString "b_summary") .none .none .none (.str (Str.ofString "vectorcove.dispcalls") 761) (.ref 496) .none = o) => o) ?_ ?h
  rotate_left
  conv => lhs; whnf
noncomputable def x501 : Obj := ⟨(.type "code"), none, .fields #[(.str (Str.ofString "call_with") 837), (.str (Str.ofString "call_with") 838), (.str (Str.ofString "/claim/cut.py") 839), (.int 359 0), (.int 2 0), (.int 0 0), (.int 0 0), (.int 3 0), (.ref 498), (.bool true), (.int 181 0), (.ref 499), .none, .none, .none, (.ref 500), (.int 840 0), (.int 359 0), (.str (Str.ofString "/claim/cut.py") 841)], #[]⟩
noncomputable def x502 : Obj := by
  refine (fun (o : Obj) (_ : fnObj (top 68) (Str.ofString "call_with") .none .none .none (.str (Str.ofString "vectorcove.langcalls") 835) (.ref 501) .none = o) => o) ?_ ?h
  rotate_left
  conv => lhs; whnf
noncomputable def x506 : Obj := ⟨(.type "code"), none, .fields #[(.str (Str.ofString "b_call") 843), (.str (Str.ofString "b_call") 844), (.str (Str.ofString "/claim/cut.py") 845), (.int 361 0), (.int 3 0), (.int 0 0), (.int 0 0), (.int 3 0), (.ref 503), (.bool true), (.int 181 0), (.ref 504), .none, .none, .none, (.ref 505), (.int 846 0), (.int 361 0), (.str (Str.ofString "/claim/cut.py") 847)], #[]⟩
noncomputable def x507 : Obj := by
  refine (fun (o : Obj) (_ : fnObj (top 69) (Str.ofString "b_call") .none .none .none (.str (Str.ofString "vectorcove.langcalls") 835) (.ref 506) .none = o) => o) ?_ ?h
  rotate_left
  conv => lhs; whnf
noncomputable def x513 : Obj := ⟨(.type "code"), none, .fields #[(.str (Str.ofString "_law_take") 851), (.str (Str.ofString "_law_take") 852), (.str (Str.ofString "/claim/cut.py") 853), (.int 368 0), (.int 2 0), (.int 0 0), (.int 0 0), (.int 3 0), (.ref 508), (.bool true), (.int 181 0), (.ref 509), .none, (.ref 510), (.ref 511), (.ref 512), (.int 857 0), (.int 368 0), (.str (Str.ofString "/claim/cut.py") 858)], #[]⟩
noncomputable def x514 : Obj := by
  refine (fun (o : Obj) (_ : fnObj (top 71) (Str.ofString "_law_take") .none .none .none (.str (Str.ofString "law_qd0172_01") 849) (.ref 513) .none = o) => o) ?_ ?h
  rotate_left
  conv => lhs; whnf
noncomputable def x520 : Obj := ⟨(.type "code"), none, .fields #[(.str (Str.ofString "_law_nothing") 860), (.str (Str.ofString "_law_nothing") 861), (.str (Str.ofString "/claim/cut.py") 862), (.int 376 0), (.int 3 0), (.int 0 0), (.int 0 0), (.int 3 0), (.ref 515), (.bool true), (.int 181 0), (.ref 516), .none, (.ref 517), (.ref 518), (.ref 519), (.int 866 0), (.int 376 0), (.str (Str.ofString "/claim/cut.py") 867)], #[]⟩
noncomputable def x521 : Obj := by
  refine (fun (o : Obj) (_ : fnObj (top 72) (Str.ofString "_law_nothing") .none .none .none (.str (Str.ofString "law_qd0172_01") 849) (.ref 520) .none = o) => o) ?_ ?h
  rotate_left
  conv => lhs; whnf
noncomputable def x525 : Obj := ⟨(.type "code"), none, .fields #[(.str (Str.ofString "law") 869), (.str (Str.ofString "law") 870), (.str (Str.ofString "/claim/cut.py") 871), (.int 378 0), (.int 1 0), (.int 0 0), (.int 0 0), (.int 3 0), (.ref 522), (.bool true), (.int 181 0), (.ref 523), .none, .none, .none, (.ref 524), (.int 872 0), (.int 378 0), (.str (Str.ofString "/claim/cut.py") 873)], #[]⟩
noncomputable def x526 : Obj := by
  refine (fun (o : Obj) (_ : fnObj (top 73) (Str.ofString "law") .none .none .none (.str (Str.ofString "law_qd0172_01") 849) (.ref 525) .none = o) => o) ?_ ?h
  rotate_left
  conv => lhs; whnf

noncomputable def heapA (P : Params) : Heap := ⟨#[boot_o_0 P, boot_o_1 P, boot_o_2 P, boot_o_3 P, boot_o_4 P, boot_o_5 P, boot_o_6 P, boot_o_7 P, boot_o_8 P, boot_o_9 P, boot_o_10 P, x11, x12, x13, x14], {}⟩
noncomputable def stA (w : World) (os : OsState) : Shared := ⟨heapA w.params, #[], boot_drawn, 187, os⟩
noncomputable def heap11 (P : Params) : Heap := ⟨#[boot_o_0 P, boot_o_1 P, x2 P, x3 P, boot_o_4 P, boot_o_5 P, boot_o_6 P, boot_o_7 P, boot_o_8 P, boot_o_9 P, boot_o_10 P, x11, x12v1, x13, x14, x15, x16, x17, x18, x19, x20, x21, x22, x23, x24, x25, x26, x27, x28, x29, x30, x31, x32, x33, x34, x35, x36, x37, x38, x39, x40, x41, x42, x43, x44, x45, x46, x47, x48, x49, x50, x51, x52, x53, x54, x55, x56, x57, x58, x59, x60, x61, x62, x63, x64, x65, x66, x67, x68, x69, x70, x71, x72, x73 P, x74, x75, x76, x77, x78, x79 P, x80, x81, x82, x83, x84, x85, x86 P, x87, x88, x89, x90, x91, x92, x93, x94, x95, x96, x97, x98, x99 P, x100, x101, x102], {}⟩
noncomputable def st11 (w : World) (os : OsState) : Shared := ⟨heap11 w.params, #[], boot_drawn, 299, os⟩
noncomputable def heap34 (P : Params) : Heap := ⟨#[boot_o_0 P, boot_o_1 P, x2 P, x3v1 P, boot_o_4 P, boot_o_5 P, boot_o_6 P, boot_o_7 P, boot_o_8 P, boot_o_9 P, boot_o_10 P, x11, x12v2, x13, x14, x15, x16, x17, x18, x19, x20, x21, x22, x23, x24, x25, x26, x27, x28, x29, x30, x31, x32, x33, x34, x35, x36, x37, x38, x39, x40, x41, x42, x43, x44, x45, x46, x47, x48, x49, x50, x51, x52, x53, x54, x55, x56, x57, x58, x59, x60, x61, x62, x63, x64, x65, x66, x67, x68, x69, x70, x71, x72, x73 P, x74, x75, x76, x77, x78, x79 P, x80, x81, x82, x83, x84, x85, x86 P, x87, x88, x89, x90, x91, x92, x93, x94, x95, x96, x97, x98, x99 P, x100, x101, x102, x103, x104, x105, x106, x107, x108, x109, x110, x111, x112, x113, x114, x115, x116, x117, x118, x119, x120, x121, x122, x123, x124, x125, x126, x127, x128, x129, x130, x131, x132, x133, x134, x135, x136, x137, x138, x139, x140, x141, x142, x143, x144, x145, x146, x147, x148, x149, x150, x151, x152, x153, x154, x155, x156, x157, x158, x159, x160, x161, x162, x163, x164, x165, x166, x167, x168, x169, x170, x171, x172, x173, x174, x175, x176, x177, x178, x179, x180, x181, x182, x183, x184, x185, x186, x187, x188, x189, x190, x191, x192, x193, x194, x195, x196, x197, x198, x199, x200, x201, x202, x203, x204, x205, x206, x207, x208, x209, x210, x211, x212 P, x213, x214, x215, x216, x217, x218, x219, x220, x221, x222, x223, x224, x225 P, x226, x227, x228, x229, x230, x231, x232, x233 P, x234, x235, x236, x237, x238, x239, x240, x241, x242, x243, x244, x245, x246, x247, x248, x249, x250, x251, x252, x253, x254 P, x255, x256, x257, x258, x259], {}⟩
noncomputable def st34 (w : World) (os : OsState) : Shared := ⟨heap34 w.params, #[], boot_drawn, 502, os⟩
noncomputable def heap37 (P : Params) : Heap := ⟨#[boot_o_0 P, boot_o_1 P, x2 P, x3v2 P, boot_o_4 P, boot_o_5 P, boot_o_6 P, boot_o_7 P, boot_o_8 P, boot_o_9 P, boot_o_10 P, x11, x12v3, x13, x14, x15, x16, x17, x18, x19, x20, x21, x22, x23, x24, x25, x26, x27, x28, x29, x30, x31, x32, x33, x34, x35, x36, x37, x38, x39, x40, x41, x42, x43, x44, x45, x46, x47, x48, x49, x50, x51, x52, x53, x54, x55, x56, x57, x58, x59, x60, x61, x62, x63, x64, x65, x66, x67, x68, x69, x70, x71, x72, x73 P, x74, x75, x76, x77, x78, x79 P, x80, x81, x82, x83, x84, x85, x86 P, x87, x88, x89, x90, x91, x92, x93, x94, x95, x96, x97, x98, x99 P, x100, x101, x102, x103, x104, x105, x106, x107, x108, x109, x110, x111, x112, x113, x114, x115, x116, x117, x118, x119, x120, x121, x122, x123, x124, x125, x126, x127, x128, x129, x130, x131, x132, x133, x134, x135, x136, x137, x138, x139, x140, x141, x142, x143, x144, x145, x146, x147, x148, x149, x150, x151, x152, x153, x154, x155, x156, x157, x158, x159, x160, x161, x162, x163, x164, x165, x166, x167, x168, x169, x170, x171, x172, x173, x174, x175, x176, x177, x178, x179, x180, x181, x182, x183, x184, x185, x186, x187, x188, x189, x190, x191, x192, x193, x194, x195, x196, x197, x198, x199, x200, x201, x202, x203, x204, x205, x206, x207, x208, x209, x210, x211, x212 P, x213, x214, x215, x216, x217, x218, x219, x220, x221, x222, x223, x224, x225 P, x226, x227, x228, x229, x230, x231, x232, x233 P, x234, x235, x236, x237, x238, x239, x240, x241, x242, x243, x244, x245, x246, x247, x248, x249, x250, x251, x252, x253, x254 P, x255, x256, x257, x258, x259, x260, x261, x262 P, x263, x264, x265, x266, x267, x268, x269, x270, x271, x272, x273, x274, x275 P, x276, x277, x278, x279, x280, x281, x282, x283 P, x284, x285, x286, x287, x288, x289, x290, x291, x292, x293, x294, x295, x296, x297 P, x298, x299, x300, x301, x302, x303, x304, x305 P, x306, x307, x308, x309, x310, x311, x312, x313, x314, x315, x316, x317, x318 P, x319, x320, x321, x322, x323], {}⟩
noncomputable def st37 (w : World) (os : OsState) : Shared := ⟨heap37 w.params, #[], boot_drawn, 605, os⟩

noncomputable def frag : Params → Frag := fun P =>
  (nat_lit 3, x3v3 P) ::
  (nat_lit 27, x27) ::
  (nat_lit 28, x28) ::
  (nat_lit 34, x34) ::
  (nat_lit 35, x35) ::
  (nat_lit 41, x41) ::
  (nat_lit 42, x42) ::
  (nat_lit 48, x48) ::
  (nat_lit 49, x49) ::
  (nat_lit 55, x55) ::
  (nat_lit 56, x56) ::
  (nat_lit 62, x62) ::
  (nat_lit 63, x63) ::
  (nat_lit 69, x69) ::
  (nat_lit 70, x70) ::
  (nat_lit 222, x222) ::
  (nat_lit 223, x223) ::
  (nat_lit 225, x225 P) ::
  (nat_lit 226, x226) ::
  (nat_lit 227, x227) ::
  (nat_lit 228, x228) ::
  (nat_lit 238, x238) ::
  (nat_lit 244, x244) ::
  (nat_lit 245, x245) ::
  (nat_lit 254, x254 P) ::
  (nat_lit 255, x255) ::
  (nat_lit 256, x256) ::
  (nat_lit 257, x257) ::
  (nat_lit 272, x272) ::
  (nat_lit 273, x273) ::
  (nat_lit 275, x275 P) ::
  (nat_lit 276, x276) ::
  (nat_lit 277, x277) ::
  (nat_lit 278, x278) ::
  (nat_lit 288, x288) ::
  (nat_lit 294, x294) ::
  (nat_lit 295, x295) ::
  (nat_lit 297, x297 P) ::
  (nat_lit 298, x298) ::
  (nat_lit 299, x299) ::
  (nat_lit 300, x300) ::
  (nat_lit 315, x315) ::
  (nat_lit 316, x316) ::
  (nat_lit 318, x318 P) ::
  (nat_lit 319, x319) ::
  (nat_lit 320, x320) ::
  (nat_lit 321, x321) ::
  (nat_lit 329, x329) ::
  (nat_lit 330, x330) ::
  (nat_lit 343, x343) ::
  (nat_lit 344, x344) ::
  (nat_lit 350, x350) ::
  (nat_lit 351, x351) ::
  (nat_lit 357, x357) ::
  (nat_lit 358, x358) ::
  (nat_lit 364, x364) ::
  (nat_lit 365, x365) ::
  (nat_lit 371, x371) ::
  (nat_lit 372, x372) ::
  (nat_lit 378, x378) ::
  (nat_lit 379, x379) ::
  (nat_lit 456, x456) ::
  (nat_lit 457, x457) ::
  (nat_lit 489, x489) ::
  (nat_lit 490, x490) ::
  (nat_lit 496, x496) ::
  (nat_lit 497, x497) ::
  (nat_lit 501, x501) ::
  (nat_lit 502, x502) ::
  (nat_lit 506, x506) ::
  (nat_lit 507, x507) ::
  (nat_lit 513, x513) ::
  (nat_lit 514, x514) ::
  (nat_lit 520, x520) ::
  (nat_lit 521, x521) ::
  (nat_lit 525, x525) ::
  (nat_lit 526, x526) :: []

noncomputable def looseNames : List Str := [Str.ofString "_wall", Str.ofString "get_attr", Str.ofString "dim_of", Str.ofString "class_attr", Str.ofString "language_class", Str.ofString "shape_class", Str.ofString "plain_class", Str.ofString "class_of", Str.ofString "CoveError", Str.ofString "Refusal", Str.ofString "NAN", Str.ofString "ZERO", Str.ofString "MOST_FIGURES", Str.ofString "MOST_PART", Str.ofString "gcd", Str.ofString "bounded", Str.ofString "make", Str.ofString "from_int", Str.ofString "is_na", Str.ofString "is_nan", Str.ofString "is_finite", Str.ofString "marked", Str.ofString "neg", Str.ofString "add", Str.ofString "sub", Str.ofString "mul", Str.ofString "div", Str.ofString "floor", Str.ofString "compare", Str.ofString "Null", Str.ofString "Vector", Str.ofString "Symbol", Str.ofString "Call", Str.ofString "Builtin", Str.ofString "null", Str.ofString "double", Str.ofString "character", Str.ofString "symbol", Str.ofString "call_of", Str.ofString "length", Str.ofString "is_function", Str.ofString "share", Str.ofString "MOST_SCALE", Str.ofString "double_sum", Str.ofString "number_items", Str.ofString "mean_items", Str.ofString "mean_of", Str.ofString "joined_ascending", Str.ofString "by_comparing", Str.ofString "ascending", Str.ofString "lacking_item", Str.ofString "quantile_item", Str.ofString "quantile7", Str.ofString "tabulate", Str.ofString "with_names", Str.ofString "kept_numbers", Str.ofString "summary_numbers", Str.ofString "summary_truths", Str.ofString "summary_factor", Str.ofString "mode_of", Str.ofString "b_summary", Str.ofString "call_with", Str.ofString "b_call", Str.ofString "_law_take", Str.ofString "_law_nothing"]

noncomputable def lawStmt : Stmt := by
  refine (fun (o : Stmt) (_ : top 73 = o) => o) ?_ ?h
  rotate_left
  conv => lhs; whnf
noncomputable def lawView : Program := { PySem.Challenge.pw_qd0172_01 with main := { PySem.Challenge.pw_qd0172_01.main with body := [lawStmt] } }
theorem frag_at : ∀ P, [3, 27, 28, 34, 35, 41, 42, 48, 49, 55, 56, 62, 63, 69, 70, 222, 223, 225, 226, 227, 228, 238, 244, 245, 254, 255, 256, 257, 272, 273, 275, 276, 277, 278, 288, 294, 295, 297, 298, 299, 300, 315, 316, 318, 319, 320, 321, 329, 330, 343, 344, 350, 351, 357, 358, 364, 365, 371, 372, 378, 379, 456, 457, 489, 490, 496, 497, 501, 502, 506, 507, 513, 514, 520, 521, 525, 526] = (frag P).map (·.1) := fun _ => by kernel_rfl
noncomputable abbrev hook : Hook := kHook frag [3, 27, 28, 34, 35, 41, 42, 48, 49, 55, 56, 62, 63, 69, 70, 222, 223, 225, 226, 227, 228, 238, 244, 245, 254, 255, 256, 257, 272, 273, 275, 276, 277, 278, 288, 294, 295, 297, 298, 299, 300, 315, 316, 318, 319, 320, 321, 329, 330, 343, 344, 350, 351, 357, 358, 364, 365, 371, 372, 378, 379, 456, 457, 489, 490, 496, 497, 501, 502, 506, 507, 513, 514, 520, 521, 525, 526] frag_at
noncomputable abbrev lawRow : RowW := PySem.Challenge.rw_qd0172_01.row.toRowW

/-! the top's run -/
theorem left_of {p q : Program} {loose : List Str} {Xt : Shared → Bool} {α : Type} {Yf : Shared → α} {Ya : World → α} {N : Nat} {g0 : Bool} {H₀ : Params → Heap} {gs₀ : Array GenState} {d₀ : Drawn} {k₀ : Nat} {m₀ : Nat} {ann : Option Value} {R : World → OsState → Option Shared}
    (open_ : ∀ w : World, (fencedOpening treeTable p w N).map (fun s => (s.heap, s.gens, s.drawn, s.toks)) = some (H₀ w.params, gs₀, d₀, k₀))
    (size : ∀ w : World, ((H₀ w.params).isNs mainGlobals && gs₀.size == 0, (H₀ w.params).objs.size, (H₀ w.params).nsMap mainGlobals "__annotations__") = (true, m₀, ann))
    (run : ∀ (w : World) (os : OsState) (r : Shared), R w os = some r → ∃ M, Nat.ble M N = true ∧ topRun treeTable p w m₀ ann M ⟨H₀ w.params, gs₀, d₀, k₀, os⟩ (topStub p) = some r)
    (last : ∀ w : World, (fun os => (R w os).map fun s₁ => (staticsOk (importedModules p.main.body) (H₀ w.params) s₁.heap && namesBound p s₁.heap && gensDone s₁ && laidKept (H₀ w.params) s₁.heap, openSeen q loose (importedModules p.main.body) Xt g0 s₁, Yf s₁)) =
      fun _ => some (true, openGood q loose, Ya w)) : LeftO p q loose Xt Yf Ya N g0 := fun w => by
  obtain ⟨⟨h, gs, d, k, os⟩, e, e'⟩ := Option.map_eq_some_iff.mp (open_ w)
  obtain ⟨rfl, rfl, rfl, rfl⟩ : h = H₀ w.params ∧ gs = gs₀ ∧ d = d₀ ∧ k = k₀ := by simpa using e'
  obtain ⟨z1, z2, z3⟩ : _ ∧ _ ∧ _ := by simpa only [Prod.mk.injEq] using size w
  obtain ⟨r, hr, hl⟩ := Option.map_eq_some_iff.mp (congrFun (last w) os)
  obtain ⟨l1, l2, l3⟩ : _ ∧ _ ∧ _ := by simpa only [Prod.mk.injEq] using hl
  obtain ⟨M, le, hM⟩ := run w os r hr
  have q := topRun_mono (N - M) _ _ _ _ hM
  rw [show M + (N - M) = N by have := Nat.le_of_ble_eq_true le; omega] at q
  have t : topFrom treeTable p w N ⟨H₀ w.params, gs, d, k, os⟩ = some r := by
    unfold topFrom
    dsimp only
    rw [z1, z2, z3, q]
    show (match staticsOk (importedModules p.main.body) (H₀ w.params) r.heap && namesBound p r.heap && gensDone r && laidKept (H₀ w.params) r.heap with | true => _ | false => _) = _
    rw [l1]
  unfold openEnds
  rw [e]
  show (topFrom treeTable p w N _).map _ = _
  rw [t]
  exact congrArg some (Prod.ext l2 l3)
noncomputable def envTop : Env := { scope := PySem.Challenge.pw_qd0172_01.main.scope, locals := mainNs, globals := mainNs, cells := [], code := .ref 13, frame := some 14 }
noncomputable def codeTop : Code := .body bodyTop envTop
noncomputable abbrev annTop : Option Value := some (.ref 6)
noncomputable abbrev posZ : Pos := ⟨0, 0, 0, 0⟩
noncomputable abbrev baseTop : List Frame := [topFrame posZ]
noncomputable def st0 (w : World) (os : OsState) : Shared := ⟨boot_heap w.params, Array.mk [], boot_drawn, boot_toks, os⟩
theorem run_pre (w : World) (os : OsState) : topGo treeTable pw w 11 annTop 12 (st0 w os) (topStub pw) = some (stA w os, ⟨denote treeTable codeTop, codeTop, posZ, baseTop⟩) := by kernel_rfl
theorem run_block (w : World) (os : OsState) : segRun treeTable pw w 11 annTop 1 1 (stA w os) (blockOf bodyTop envTop codeTop posZ baseTop) = some (.next, stA w os, codeTop, posZ) := by kernel_rfl
theorem run_11 (w : World) (os : OsState) : segRun treeTable pw w 11 annTop 1 699 (stA w os) (piecesOf ((bodyTop.drop 0).take 12) envTop codeTop posZ baseTop) = some (.next, st11 w os, codeTop, ⟨51, 0, 54, 30⟩) := by kernel_rfl
theorem cut_11 : (bodyTop.drop 0).take 12 ++ bodyTop.drop 12 = bodyTop.drop 0 := by rw [show bodyTop.drop 12 = (bodyTop.drop 0).drop 12 from by rw [List.drop_drop]]; exact List.take_append_drop ..
theorem run_34 (w : World) (os : OsState) : segRun treeTable pw w 11 annTop 1 997 (st11 w os) (piecesOf ((bodyTop.drop 12).take 23) envTop codeTop ⟨51, 0, 54, 30⟩ baseTop) = some (.next, st34 w os, codeTop, ⟨148, 0, 158, 16⟩) := by kernel_rfl
theorem cut_34 : (bodyTop.drop 12).take 23 ++ bodyTop.drop 35 = bodyTop.drop 12 := by rw [show bodyTop.drop 35 = (bodyTop.drop 12).drop 23 from by rw [List.drop_drop]]; exact List.take_append_drop ..
theorem run_37 (w : World) (os : OsState) : segRun treeTable pw w 11 annTop 1 684 (st34 w os) (piecesOf ((bodyTop.drop 35).take 3) envTop codeTop ⟨148, 0, 158, 16⟩ baseTop) = some (.next, st37 w os, codeTop, ⟨173, 0, 181, 25⟩) := by kernel_rfl
theorem cut_37 : (bodyTop.drop 35).take 3 ++ bodyTop.drop 38 = bodyTop.drop 35 := by rw [show bodyTop.drop 38 = (bodyTop.drop 35).drop 3 from by rw [List.drop_drop]]; exact List.take_append_drop ..

noncomputable abbrev xtTop : Shared → Bool := fun s => xlAt lawView [] s && recOk (RowW.records lawRow) s
noncomputable def lastRun (w : World) (os : OsState) : Option Shared := topRun treeTable pw w 11 annTop 987 (st37 w os) (restOf (bodyTop.drop 38) envTop codeTop ⟨173, 0, 181, 25⟩ baseTop)
theorem run_last (w : World) : (fun os => (lastRun w os).map fun s₁ => (staticsOk (importedModules pw.main.body) (boot_heap w.params) s₁.heap && namesBound pw s₁.heap && gensDone s₁ && laidKept (boot_heap w.params) s₁.heap, openSeen lawView looseNames (importedModules pw.main.body) xtTop true s₁, Hook.obs hook s₁)) =
    fun _ => some (true, openGood lawView looseNames, Hook.val hook w) := by kernel_rfl
theorem run_all (w : World) (os : OsState) (r : Shared) (h : lastRun w os = some r) :
    ∃ M, Nat.ble M 6834 = true ∧ topRun treeTable pw w 11 annTop M (st0 w os) (topStub pw) = some r := by
  unfold lastRun at h
  have h := piece_app (run_37 w os) h
  rw [cut_37] at h
  have h := piece_app (run_34 w os) h
  rw [cut_34] at h
  have h := piece_app (run_11 w os) h
  rw [cut_11] at h
  have h := piece_block (run_block w os) h
  have h := go_top (run_pre w os) h
  exact ⟨_, by decide +kernel, h⟩
theorem boot_top (w : World) : (fencedOpening treeTable pw w 6834).map (fun s => (s.heap, s.gens, s.drawn, s.toks)) = some (boot_heap w.params, Array.mk [], boot_drawn, boot_toks) :=
  boot_open (p := pw) (N := 6834) (by kernel_rfl) (by decide +kernel) (fun _ => by kernel_rfl) w
theorem size_top (w : World) : ((boot_heap w.params).isNs mainGlobals && (Array.mk [] : Array GenState).size == 0, (boot_heap w.params).objs.size, (boot_heap w.params).nsMap mainGlobals "__annotations__") = (true, 11, annTop) := by kernel_rfl
theorem left : LeftO pw lawView looseNames xtTop (Hook.obs hook) (Hook.val hook) 6834 := left_of boot_top size_top run_all run_last
end

theorem prep : PySem.Challenge.rw_qd0172_01 = PySem.Challenge.rw_qd0172_01 ∧ frag = frag := by
  k_fill
  exact ⟨rfl, rfl⟩
/-! the law's body from a statement on -/
noncomputable section
noncomputable def lawScope : Scope := by
  refine (fun (o : Scope) (_ : (match lawStmt with | .FunctionDef _ _ _ _ _ _ sc _ _ _ => sc | _ => default) = o) => o) ?_ ?h
  rotate_left
  conv => lhs; whnf
noncomputable def lawBody : List Stmt := by
  refine (fun (o : List Stmt) (_ : (match lawStmt with | .FunctionDef _ _ b _ _ _ _ _ _ _ => b | _ => []) = o) => o) ?_ ?h
  rotate_left
  conv => lhs; whnf
@[reducible] noncomputable def stB : List Stmt := by
  refine (fun (o : List Stmt) (_ : lawBody.drop 3 = o) => o) ?_ ?h
  rotate_left
  conv => lhs; whnf
@[reducible] noncomputable def stC : List Stmt := by
  refine (fun (o : List Stmt) (_ : lawBody.drop 6 = o) => o) ?_ ?h
  rotate_left
  conv => lhs; whnf
@[reducible] noncomputable def stD : List Stmt := by
  refine (fun (o : List Stmt) (_ : lawBody.drop 13 = o) => o) ?_ ?h
  rotate_left
  conv => lhs; whnf
@[reducible] noncomputable def stD2 : List Stmt := by
  refine (fun (o : List Stmt) (_ : lawBody.drop 14 = o) => o) ?_ ?h
  rotate_left
  conv => lhs; whnf
@[reducible] noncomputable def stD3 : List Stmt := by
  refine (fun (o : List Stmt) (_ : lawBody.drop 15 = o) => o) ?_ ?h
  rotate_left
  conv => lhs; whnf
@[reducible] noncomputable def stD4 : List Stmt := by
  refine (fun (o : List Stmt) (_ : lawBody.drop 16 = o) => o) ?_ ?h
  rotate_left
  conv => lhs; whnf
end
noncomputable abbrev lawEnv (L f : Addr) (cd : Value) : Env := envOfC (Str.ofString "law") lawScope L f cd
noncomputable def Stop (P : Prop) : Prop := P
theorem Stop.out {P : Prop} (h : Stop P) : P := h
theorem Stop.inn {P : Prop} (h : P) : Stop P := h
noncomputable def isNS : Value → Bool
  | .none => true
  | .str _ _ => true
  | _ => false
theorem isNS_cases {v : Value} (h : isNS v = true) : v = .none ∨ ∃ x t, v = .str x t := by
  cases v <;> first | exact .inl rfl | exact .inr ⟨_, _, rfl⟩ | cases h
section
variable {prog : Program} {w : World} {A : Around} {E : Value → Shared → Prop} {s : Shared}
theorem item_pick {value slice : PySem.Expr} {l : Addr} {vs : List Value} {k : Int} {u : Tok} {Q : Value → Shared → Prop} (hl : s.heap.IsList l vs.toArray) (h0 : 0 ≤ k) (h1 : k < (vs.length : Int)) (hfit : vs.length ≤ 8) (ha : vs.all isNS = true)
    (h : ∀ v, isNS v = true → Q v s) (hs : subscripted slice false (.ref l) (.int k u) = operate [.ref l, .int k u] (getItem (.ref l) (.int k u)) := by with_unfolding_all rfl) :
    wpAny (model prog w) A (subscriptTail value slice (.ref l) (.int k u)) Q E s := by
  have hk : k.toNat < vs.length := by omega
  exact item_litK hl h0 (by omega) (List.getElem?_eq_getElem hk) (h _ (List.all_eq_true.mp ha _ (List.getElem_mem hk))) hs
end
section
variable {M : Model} {A : Around} {E : Value → Shared → Prop} {env : Env} {h : Heap} {g : Array GenState} {d : Drawn} {tk0 : Nat} {o : OsState}
theorem exec_cons_gen {st : Stmt} {rest : List Stmt} {Q : Flow → Shared → Prop} (H : ∀ tk, wpAny M A (exec st env) (fun f s' => match f with | .next => wpAny M A (execs rest env) Q E s' | f => Q f s') E ⟨h, g, d, tk, o⟩) :
    wpAny M A (execs (st :: rest) env) Q E ⟨h, g, d, tk0, o⟩ := PySem.wpAny_execs_cons (H tk0)
theorem exec_nil_gen {Q : Flow → Shared → Prop} (H : ∀ tk, Q .next ⟨h, g, d, tk, o⟩) : wpAny M A (execs [] env) Q E ⟨h, g, d, tk0, o⟩ := PySem.wpAny_execs_nil (H tk0)
end
section
variable {prog : Program} {w : World} {A : Around} {E : Value → Shared → Prop} {s : Shared}
theorem ne_same {x : Str} {t u : Tok} {Q : Value → Shared → Prop} (h : Q (.bool false) s) : wpAny (model prog w) A (compareOp .NotEq (.str x t) (.str x u)) Q E s := by
  refine PyProof.Rows.ne_str ?_
  rw [show (x != x) = false from by simp]
  exact h
end
theorem news4 {h₀ h : Heap} {L : Addr} {news : List (Addr × Obj)} {a b c d : Addr × Obj} (N : News h₀ L h news) (ha : a ∈ news) (hb : b ∈ news) (hc : c ∈ news) (hd : d ∈ news) : News h₀ L h [a, b, c, d] := fun q hq => by
  rcases List.mem_cons.mp hq with rfl | hq
  · exact N _ ha
  rcases List.mem_cons.mp hq with rfl | hq
  · exact N _ hb
  rcases List.mem_cons.mp hq with rfl | hq
  · exact N _ hc
  · rw [List.mem_singleton.mp hq]; exact N _ hd
theorem look_skip {x y : Str} {u v : Value} {w : Option Value} (hn : ¬ y = x) (h : w = some v) : (if y = x then some u else w) = some v := by rw [if_neg hn]; exact h
theorem look_here {x : Str} {v : Value} {w : Option Value} : (if x = x then some v else w) = some v := if_pos rfl
theorem news_sub {h₀ h : Heap} {L : Addr} {l' l : List (Addr × Obj)} (N : News h₀ L h l) (S : SubL l' l) : News h₀ L h l' := fun q hq => N q (S.mem q hq)
theorem lt_of_news {a d : Addr} {o : Obj} {news : List (Addr × Obj)} (h : ∀ q ∈ news, q.1 < d) (m : (a, o) ∈ news) : @LT.lt Nat _ a d := h (a, o) m
section
variable {prog : Program} {w : World} {A : Around} {E : Value → Shared → Prop} {s : Shared}
theorem len_any {l : Addr} {vs : List Value} {k : Int} {Q : Value → Shared → Prop} (hl : s.heap.IsList l vs.toArray) (e : (vs.length : Int) = k) (hk : k < 100) (h : ∀ t t', Q (.int k t) { s with toks := t' }) : wpAny (model prog w) A (call (.builtin "len") [.ref l]) Q E s := by
  refine Calls.call_function_entry kind_len plain_len entry_len (args_len1 _) (wpAny_len_body_list hl (by rw [List.size_toArray]; omega) ?_)
  rw [List.size_toArray, e]
  exact h _ _
theorem len_cons {l : Addr} {v : Value} {vs : List Value} {k : Int} {Q : Value → Shared → Prop} (hl : s.heap.IsList l (v :: vs).toArray) (e : (vs.length : Int) = k) (hk : k < 100) (h : ∀ t t', Q (.int (1 + k) t) { s with toks := t' }) : wpAny (model prog w) A (call (.builtin "len") [.ref l]) Q E s := by
  refine Calls.call_function_entry kind_len plain_len entry_len (args_len1 _) (wpAny_len_body_list hl (by rw [List.size_toArray, List.length_cons]; omega) ?_)
  rw [List.size_toArray, show (((v :: vs).length : Nat) : Int) = 1 + k from by rw [List.length_cons]; omega]
  exact h _ _
end
theorem lt_head3 {a b c d : Addr} {o1 o2 o3 : Obj} {r : List (Addr × Obj)} (h : ∀ q ∈ (a, o1) :: (b, o2) :: (c, o3) :: r, q.1 < d) : (@LT.lt Nat _ a d) ∧ (@LT.lt Nat _ b d) ∧ (@LT.lt Nat _ c d) := ⟨h (a, o1) (.head _), h (b, o2) (.tail _ (.head _)), h (c, o3) (.tail _ (.tail _ (.head _)))⟩
theorem lt_head1 {a d : Addr} {o1 : Obj} {r : List (Addr × Obj)} (h : ∀ q ∈ (a, o1) :: r, q.1 < d) : @LT.lt Nat _ a d := h (a, o1) (.head _)
theorem top_of (HA : ∀ {w : World} {p : Program} {loose : List Str} {mean : ExcName → Option Value} {mg mb : Str → Option Value} {h₀ : Heap} {L f : Addr} {cd : Value} {m : Str → Option Value} {Q : Flow → Shared → Prop} {E : Value → Shared → Prop} {h : Heap} {gs : Array GenState} {d : Drawn} {tk : Nat} {os : OsState} {oM oS : Obj} {a : Addr} {vs : List Value} {ns : List Int} (K0 : Below callerA h₀ [] h₀) (F : Fr h₀ L h m) (X : (frag w.params).In h₀) (N : News h₀ L h [(L + 2, oM), (L + 1, oS)]) (T : Top p loose mean mg mb h₀) (dM : oM.data = .cell none) (dS : oS.data = .cell none) (ms : m (Str.ofString "script") = some (.ref a)) (hl : h₀.IsList a vs.toArray) (hi : IntsAre vs ns) (hz : ns.length ≤ 63) (hQ : ∀ m' h' tk', Fr h₀ L h' m' → Q (.ret (.bool true)) ⟨h', gs, d, tk', os⟩),
    wpAny (model pw w) (callerA.deeper (lawEnv L f cd)) (execs lawBody (lawEnv L f cd)) Q E ⟨h, gs, d, tk, os⟩) : PySem.Challenge.rw_qd0172_01.Holds := by
  w_on
  o_law
  refine holds_open (q := lawView) (loose := looseNames) (Xt := xtTop) (XP := XL lawView []) (Yf := Hook.obs hook) (Ya := Hook.val hook) (YP := Hook.says hook) (N := 6834) left (Hook.of hook) (Hook.keeps hook) (fun s e => xl_of s (Bool.and_eq_true_iff.mp e).1) XL.keeps (by rfl) (by rfl) (by rfl) (fun s e => recFacts_of (Bool.and_eq_true_iff.mp e).2) (by rfl) (by first | assumption | decide +kernel) (by decide +kernel) ⟨rfl, rfl, rfl, rfl, rfl, by decide +kernel⟩ ?hw ?hc
  case hw => w_witness2
  case hc =>
    k_go0
    all_goals (try k_fold)
    refine' HA ?K0 ?F ?X ?N ?T ?dM ?dS ?ms ?hl ?hi ?hz ?hQ
    case K0 => with_reducible assumption
    case F => with_reducible assumption
    case X => with_reducible assumption
    case N => with_reducible assumption
    case T => with_reducible assumption
    case hl => with_reducible assumption
    case hi => with_reducible assumption
    case hz => omega
    case dM => (rename Obj.data _ = _ => q1; clear q1; rename Obj.data _ = _ => q2; exact q2.trans (by kernel_rfl))
    case dS => (rename Obj.data _ = _ => q1; exact q1.trans (by kernel_rfl))
    case ms => kernel_rfl
    case hQ =>
      intro m' h' tk' F'
      k_unfold
      (try dsimp only)
      k_end
      wrow_close
section


section
variable {prog : Program} {w : World} {A : Around} {E : Value → Shared → Prop} {s : Shared} {h₀ : Heap} {L D : Addr} {m : Str → Option Value} {news news' : List (Addr × Obj)}
theorem pop0 {us : List Value} {ns : List Int} {u : Tok} {n : Nat} {Q : Value → Shared → Prop} (F : Fr h₀ L s.heap m) (N : News h₀ L s.heap news) (U : Upd D (listOf us.toArray n) (listOf us.tail.toArray (n + 1)) news news')
    (hi : IntsAre us ns) (hne : decide (ns = []) = false) (hz : us.length ≤ 63) (h : ∀ h' t, Fr h₀ L h' m → News h₀ L h' news' → IntsAre us.tail ns.tail → us.tail.length ≤ 63 → Q (.int (ns.headD 0) t) { s with heap := h' }) :
    wpAny (model prog w) A (call (.builtin "list.pop") [.ref D, .int 0 u]) Q E s := by
  cases hi with
  | nil => exact absurd hne (by simp)
  | cons v t r =>
    rename_i vs ms
    refine kl_popAt (k := 0) (p := []) (q := vs) (y := .int v t) F N rfl (by simp [seqIndex?]) rfl U ?_ fun h' F' N' => h h' t F' N' r ?_
    · rw [sizeLine_eq]; simp only [List.length_cons] at hz ⊢; omega
    · simp only [List.tail_cons, List.length_cons] at hz ⊢; omega
end
local macro_rules | `(tactic| walk_at "call builtin:list.pop") => `(tactic| (k_here; (show wpAny _ _ (call (Value.builtin "list.pop") [Value.ref _, Value.int 0 _]) _ _ _); k_dflt (refine' pop0 ?F ?N ?U ?i ?e ?z ?_; (case F => k_asm); (case N => k_asm); (case U => k_upd); (case i => with_reducible assumption); (case e => with_reducible assumption); (case z => assumption)); (intro h' t' F' N' hI' hZ')))
theorem news_tail {h₀ h : Heap} {L : Addr} {q : Addr × Obj} {news : List (Addr × Obj)} (N : News h₀ L h (q :: news)) : News h₀ L h news := fun p hp => N p (.tail _ hp)
theorem all_off {d : Addr} {r : List (Addr × Obj)} (h : ∀ q ∈ r, q.1 ≠ d) : ∀ q ∈ r, q.1 ≠ d := h
local macro_rules | `(tactic| k_all) => `(tactic| exact all_off (by with_reducible assumption))

theorem take_call {w : World} {p : Program} {loose : List Str} {mean : ExcName → Option Value} {mg mb : Str → Option Value} {dp un : Nat} {gd : Option (List Code)} {cn : Str} {cs : Scope} {a : Addr} {ccd : Value} {cl : List (Str × Addr)} {outer : List Env} {A₀ : Around} {base h₀ : Heap} {L : Addr}
    {m : Str → Option Value} {s : Shared} {Q E : Value → Shared → Prop} {rest : List (Addr × Obj)} {src l : Addr} {x y most : Int} {tx ty tm : Tok} {n k : Nat} {us : List Value} {ns : List Int}
    (B : Below A₀ base outer h₀) (F : Fr h₀ L s.heap m) (X : (frag w.params).In h₀) (N : News h₀ L s.heap ((src, listOf #[.ref l, .int x tx, .int y ty] n) :: (l, listOf us.toArray k) :: rest)) (T : Top p loose mean mg mb h₀) (hk : cs.kind = .function)
    (hne : @Ne Nat src l) (hr1 : ∀ q ∈ rest, q.1 ≠ src) (hr2 : ∀ q ∈ rest, q.1 ≠ l)
    (hi : IntsAre us ns) (hz : us.length ≤ 63) (y0 : 0 ≤ y) (y1 : y < 2147483563) (m0 : 0 < most) (m8 : most ≤ 8)
    (hd : dp + 1 < recursionLimit) (hu : un + 200 < cLine)
    (ret : ∀ (r x' y' : Int) (t tx' ty' : Tok) (n' k' : Nat) (us' : List Value) (ns' : List Int) (h' : Heap) (tk' : Nat), 0 ≤ r → r < most → IntsAre us' ns' → us'.length ≤ 63 → 0 ≤ y' → y' < 2147483563 → Fr h₀ L h' m →
      News h₀ L h' ((src, listOf #[.ref l, .int x' tx', .int y' ty'] n') :: (l, listOf us'.toArray k') :: rest) → Q (.int r t) { s with heap := h', toks := tk' }) :
    wpAny (model pw w) (ktrTop dp un gd cn cs L a ccd cl outer) (call (.ref 514) [.ref src, .int most tm]) Q E s := by
  w_on
  refine wpAny_call ?_
  k_dflt cell_enter
  k_steps
  all_goals (
    refine' ret _ _ _ _ _ _ _ _ _ _ _ _ ?r0 ?r1 ?ri ?rz ?ry0 ?ry1 ?rF ?rN
    case rF => k_asm
    case rN => first | k_asm | exact news_tail (by k_asm)
    case ri => assumption
    case rz => assumption
    case r0 => exact Int.fmod_nonneg_of_pos _ m0
    case r1 => exact Int.fmod_lt_of_pos _ m0
    case ry0 => first | assumption | exact Int.fmod_nonneg_of_pos _ (by decide)
    case ry1 => first | assumption | exact Int.fmod_lt_of_pos _ (by decide))

end
section
theorem lt_off {d : Addr} : ∀ {r : List (Addr × Obj)}, AllLt d r → ∀ q ∈ r, q.1 ≠ d
  | [], _, _, h => nomatch h
  | p :: r, h, q, hq => by
    rcases List.mem_cons.mp hq with rfl | hq
    · exact Nat.ne_of_lt h.1
    · exact lt_off h.2 q hq
theorem le_off {d : Addr} {r : List (Addr × Obj)} (h : ∀ q ∈ r, q.1 < d) : ∀ q ∈ r, q.1 ≠ d := fun q hq => Nat.ne_of_lt (h q hq)
local macro_rules | `(tactic| k_all) => `(tactic| exact all_off (by with_reducible assumption))
local macro_rules | `(tactic| k_all) => `(tactic| exact le_off (by with_reducible assumption))
local macro_rules | `(tactic| k_all) => `(tactic| exact lt_off (by with_reducible assumption))

noncomputable abbrev ent (w : World) (n : String) (t : Tok) (v : Value) : DictEntry := ⟨PyData.keyHash w.params (Str.ofString n), .str (Str.ofString n) t, v⟩

section
variable {w : World} {p : Program} {loose : List Str} {mean : ExcName → Option Value} {mg mb : Str → Option Value} {dp un : Nat} {gd : Option (List Code)} {cn : Str} {cs : Scope} {a : Addr} {ccd : Value} {cl : List (Str × Addr)} {outer : List Env} {A₀ : Around} {base h₀ : Heap} {L : Addr}
    {m : Str → Option Value} {s : Shared} {Q E : Value → Shared → Prop} {news : List (Addr × Obj)}
theorem null_cls (B : Below A₀ base outer h₀) (F : Fr h₀ L s.heap m) (X : (frag w.params).In h₀) (N : News h₀ L s.heap news) (T : Top p loose mean mg mb h₀) (hk : cs.kind = .function) (hd : dp + 20 < recursionLimit) (hu : un + 400 < cLine)
    (ret : ∀ (x dx : Addr) (h' : Heap) (tk' : Nat) (t1 t2 t3 : Tok), Fr h₀ L h' m → News h₀ L h' ((x, instObj 226 dx) :: (dx, dictOf [ent w "kind" t1 (.str (Str.ofString "NULL") t2), ent w "attrs" t3 .none] 2) :: news) → (∀ q ∈ news, q.1 < dx) → @LT.lt Nat _ dx x → Q (.ref x) { s with heap := h', toks := tk' }) :
    wpAny (model pw w) (ktrTop dp un gd cn cs L a ccd cl outer) (call (.ref 226) []) Q E s := by
  w_on
  refine' call_cls ?k1 ?k2 ?k3 ?k4 ?k5 ?k6 ?_
  (case k1 => k_asm)
  (case k2 => k_asm)
  (case k3 => k_asm)
  (case k4 => k_is)
  (case k5 => k_is)
  (case k6 => k_is)
  k_whole
  intro x' d' h' F' N' l1 l2
  (try k_lt2 l2)
  k_dflt (refine' code_def ?k1 ?k2 ?k3 ?k4 ?k5 ?kA ?kF ?kK ?k6 ?k7 ?k8 ?k9 ?kB ?_ ?c2 ?c3 ?c4 ?c5; (case kA => exact rfl); (case kF => exact rfl); (case kK => assumption); (case k1 => k_asm); (case k2 => k_asm); (case k3 => k_asm); (case k4 => k_asm); (case k5 => k_asm); (case k6 => k_is); (case k7 => k_is); (case k8 => ktr_room); (case k9 => first | exact BindsTo.of_eq rfl | exact binds_K (by k_in) rfl (by k_is) rfl rfl rfl); (case c5 => decide); (case kB => exact locs rfl); (case c2 => exact rfl); (case c3 => exact rfl); (case c4 => exact rfl); k_whole; intro g' L' h' FG' F' N' B' X' T'; (try dsimp only); (try k_lift B'); (try k_fold))
  k_steps
  exact ret _ _ _ _ _ _ _ (by k_asm) (by k_asm) l1 l2
theorem vec_cls {kd its : Value} (B : Below A₀ base outer h₀) (F : Fr h₀ L s.heap m) (X : (frag w.params).In h₀) (N : News h₀ L s.heap news) (T : Top p loose mean mg mb h₀) (hk : cs.kind = .function) (hd : dp + 20 < recursionLimit) (hu : un + 400 < cLine)
    (ret : ∀ (x dx : Addr) (h' : Heap) (tk' : Nat) (t1 t2 t3 t4 t5 : Tok), Fr h₀ L h' m → News h₀ L h' ((x, instObj 255 dx) :: (dx, dictOf [ent w "kind" t1 kd, ent w "items" t2 its, ent w "attrs" t3 .none, ent w "shared" t4 (.bool false), ent w "loose" t5 (.bool false)] 5) :: news) → (∀ q ∈ news, q.1 < dx) → @LT.lt Nat _ dx x → Q (.ref x) { s with heap := h', toks := tk' }) :
    wpAny (model pw w) (ktrTop dp un gd cn cs L a ccd cl outer) (call (.ref 255) [kd, its]) Q E s := by
  w_on
  refine' call_cls ?k1 ?k2 ?k3 ?k4 ?k5 ?k6 ?_
  (case k1 => k_asm)
  (case k2 => k_asm)
  (case k3 => k_asm)
  (case k4 => k_is)
  (case k5 => k_is)
  (case k6 => k_is)
  k_whole
  intro x' d' h' F' N' l1 l2
  (try k_lt2 l2)
  k_dflt (refine' code_def ?k1 ?k2 ?k3 ?k4 ?k5 ?kA ?kF ?kK ?k6 ?k7 ?k8 ?k9 ?kB ?_ ?c2 ?c3 ?c4 ?c5; (case kA => exact rfl); (case kF => exact rfl); (case kK => assumption); (case k1 => k_asm); (case k2 => k_asm); (case k3 => k_asm); (case k4 => k_asm); (case k5 => k_asm); (case k6 => k_is); (case k7 => k_is); (case k8 => ktr_room); (case k9 => first | exact BindsTo.of_eq rfl | exact binds_K (by k_in) rfl (by k_is) rfl rfl rfl); (case c5 => decide); (case kB => exact locs rfl); (case c2 => exact rfl); (case c3 => exact rfl); (case c4 => exact rfl); k_whole; intro g' L' h' FG' F' N' B' X' T'; (try dsimp only); (try k_lift B'); (try k_fold))
  k_steps
  exact ret _ _ _ _ _ _ _ _ _ (by k_asm) (by k_asm) l1 l2
theorem sym_cls {nm : Value} (B : Below A₀ base outer h₀) (F : Fr h₀ L s.heap m) (X : (frag w.params).In h₀) (N : News h₀ L s.heap news) (T : Top p loose mean mg mb h₀) (hk : cs.kind = .function) (hd : dp + 20 < recursionLimit) (hu : un + 400 < cLine)
    (ret : ∀ (x dx : Addr) (h' : Heap) (tk' : Nat) (t1 t2 t3 t4 : Tok), Fr h₀ L h' m → News h₀ L h' ((x, instObj 276 dx) :: (dx, dictOf [ent w "kind" t1 (.str (Str.ofString "symbol") t2), ent w "name" t3 nm, ent w "attrs" t4 .none] 3) :: news) → (∀ q ∈ news, q.1 < dx) → @LT.lt Nat _ dx x → Q (.ref x) { s with heap := h', toks := tk' }) :
    wpAny (model pw w) (ktrTop dp un gd cn cs L a ccd cl outer) (call (.ref 276) [nm]) Q E s := by
  w_on
  refine' call_cls ?k1 ?k2 ?k3 ?k4 ?k5 ?k6 ?_
  (case k1 => k_asm)
  (case k2 => k_asm)
  (case k3 => k_asm)
  (case k4 => k_is)
  (case k5 => k_is)
  (case k6 => k_is)
  k_whole
  intro x' d' h' F' N' l1 l2
  (try k_lt2 l2)
  k_dflt (refine' code_def ?k1 ?k2 ?k3 ?k4 ?k5 ?kA ?kF ?kK ?k6 ?k7 ?k8 ?k9 ?kB ?_ ?c2 ?c3 ?c4 ?c5; (case kA => exact rfl); (case kF => exact rfl); (case kK => assumption); (case k1 => k_asm); (case k2 => k_asm); (case k3 => k_asm); (case k4 => k_asm); (case k5 => k_asm); (case k6 => k_is); (case k7 => k_is); (case k8 => ktr_room); (case k9 => first | exact BindsTo.of_eq rfl | exact binds_K (by k_in) rfl (by k_is) rfl rfl rfl); (case c5 => decide); (case kB => exact locs rfl); (case c2 => exact rfl); (case c3 => exact rfl); (case c4 => exact rfl); k_whole; intro g' L' h' FG' F' N' B' X' T'; (try dsimp only); (try k_lift B'); (try k_fold))
  k_steps
  exact ret _ _ _ _ _ _ _ _ (by k_asm) (by k_asm) l1 l2
theorem call_cls2 {its tgs : Value} (B : Below A₀ base outer h₀) (F : Fr h₀ L s.heap m) (X : (frag w.params).In h₀) (N : News h₀ L s.heap news) (T : Top p loose mean mg mb h₀) (hk : cs.kind = .function) (hd : dp + 20 < recursionLimit) (hu : un + 400 < cLine)
    (ret : ∀ (x dx : Addr) (h' : Heap) (tk' : Nat) (t1 t2 t3 t4 t5 t6 : Tok), Fr h₀ L h' m → News h₀ L h' ((x, instObj 298 dx) :: (dx, dictOf [ent w "kind" t1 (.str (Str.ofString "language") t2), ent w "items" t3 its, ent w "tags" t4 tgs, ent w "attrs" t5 .none, ent w "code" t6 .none] 5) :: news) → (∀ q ∈ news, q.1 < dx) → @LT.lt Nat _ dx x → Q (.ref x) { s with heap := h', toks := tk' }) :
    wpAny (model pw w) (ktrTop dp un gd cn cs L a ccd cl outer) (call (.ref 298) [its, tgs]) Q E s := by
  w_on
  refine' call_cls ?k1 ?k2 ?k3 ?k4 ?k5 ?k6 ?_
  (case k1 => k_asm)
  (case k2 => k_asm)
  (case k3 => k_asm)
  (case k4 => k_is)
  (case k5 => k_is)
  (case k6 => k_is)
  k_whole
  intro x' d' h' F' N' l1 l2
  (try k_lt2 l2)
  k_dflt (refine' code_def ?k1 ?k2 ?k3 ?k4 ?k5 ?kA ?kF ?kK ?k6 ?k7 ?k8 ?k9 ?kB ?_ ?c2 ?c3 ?c4 ?c5; (case kA => exact rfl); (case kF => exact rfl); (case kK => assumption); (case k1 => k_asm); (case k2 => k_asm); (case k3 => k_asm); (case k4 => k_asm); (case k5 => k_asm); (case k6 => k_is); (case k7 => k_is); (case k8 => ktr_room); (case k9 => first | exact BindsTo.of_eq rfl | exact binds_K (by k_in) rfl (by k_is) rfl rfl rfl); (case c5 => decide); (case kB => exact locs rfl); (case c2 => exact rfl); (case c3 => exact rfl); (case c4 => exact rfl); k_whole; intro g' L' h' FG' F' N' B' X' T'; (try dsimp only); (try k_lift B'); (try k_fold))
  k_steps
  exact ret _ _ _ _ _ _ _ _ _ _ (by k_asm) (by k_asm) l1 l2
theorem bui_cls {nm fn gp : Value} (B : Below A₀ base outer h₀) (F : Fr h₀ L s.heap m) (X : (frag w.params).In h₀) (N : News h₀ L s.heap news) (T : Top p loose mean mg mb h₀) (hk : cs.kind = .function) (hd : dp + 20 < recursionLimit) (hu : un + 400 < cLine)
    (ret : ∀ (x dx : Addr) (h' : Heap) (tk' : Nat) (t1 t2 t3 t4 t5 t6 t7 : Tok), Fr h₀ L h' m → News h₀ L h' ((x, instObj 319 dx) :: (dx, dictOf [ent w "kind" t1 (.str (Str.ofString "builtin") t2), ent w "name" t3 nm, ent w "special" t4 (.bool false), ent w "fn" t5 fn, ent w "group" t6 gp, ent w "attrs" t7 .none] 6) :: news) → (∀ q ∈ news, q.1 < dx) → @LT.lt Nat _ dx x → Q (.ref x) { s with heap := h', toks := tk' }) :
    wpAny (model pw w) (ktrTop dp un gd cn cs L a ccd cl outer) (call (.ref 319) [nm, .bool false, fn, gp]) Q E s := by
  w_on
  refine' call_cls ?k1 ?k2 ?k3 ?k4 ?k5 ?k6 ?_
  (case k1 => k_asm)
  (case k2 => k_asm)
  (case k3 => k_asm)
  (case k4 => k_is)
  (case k5 => k_is)
  (case k6 => k_is)
  k_whole
  intro x' d' h' F' N' l1 l2
  (try k_lt2 l2)
  k_dflt (refine' code_def ?k1 ?k2 ?k3 ?k4 ?k5 ?kA ?kF ?kK ?k6 ?k7 ?k8 ?k9 ?kB ?_ ?c2 ?c3 ?c4 ?c5; (case kA => exact rfl); (case kF => exact rfl); (case kK => assumption); (case k1 => k_asm); (case k2 => k_asm); (case k3 => k_asm); (case k4 => k_asm); (case k5 => k_asm); (case k6 => k_is); (case k7 => k_is); (case k8 => ktr_room); (case k9 => first | exact BindsTo.of_eq rfl | exact binds_K (by k_in) rfl (by k_is) rfl rfl rfl); (case c5 => decide); (case kB => exact locs rfl); (case c2 => exact rfl); (case c3 => exact rfl); (case c4 => exact rfl); k_whole; intro g' L' h' FG' F' N' B' X' T'; (try dsimp only); (try k_lift B'); (try k_fold))
  k_steps
  exact ret _ _ _ _ _ _ _ _ _ _ _ (by k_asm) (by k_asm) l1 l2
end

end
inductive Two (a b : Addr) (o1 o2 : Obj) : List (Addr × Obj) → (Obj → Obj → List (Addr × Obj)) → Prop
  | nil : Two a b o1 o2 [] (fun _ _ => [])
  | one {r : List (Addr × Obj)} {f : Obj → Obj → List (Addr × Obj)} : Two a b o1 o2 r f → Two a b o1 o2 ((a, o1) :: r) (fun x y => (a, x) :: f x y)
  | two {r : List (Addr × Obj)} {f : Obj → Obj → List (Addr × Obj)} : Two a b o1 o2 r f → Two a b o1 o2 ((b, o2) :: r) (fun x y => (b, y) :: f x y)
  | off {q : Addr × Obj} {r : List (Addr × Obj)} {f : Obj → Obj → List (Addr × Obj)} : q.1 ≠ a → q.1 ≠ b → Two a b o1 o2 r f → Two a b o1 o2 (q :: r) (fun x y => q :: f x y)
theorem Two.rest {a b : Addr} {o1 o2 : Obj} {news : List (Addr × Obj)} {f : Obj → Obj → List (Addr × Obj)} (R : Two a b o1 o2 news f) :
    ∃ rest : List (Addr × Obj), (∀ q ∈ rest, q.1 ≠ a) ∧ (∀ q ∈ rest, q.1 ≠ b) ∧ (∀ q ∈ rest, q ∈ news) ∧ ∀ x y, ∀ q ∈ f x y, q = (a, x) ∨ q = (b, y) ∨ q ∈ rest := by
  induction R with
  | nil => exact ⟨[], (fun _ h => nomatch h), (fun _ h => nomatch h), (fun _ h => nomatch h), fun _ _ _ h => nomatch h⟩
  | one _ ih =>
    obtain ⟨rest, h1, h2, h3, h4⟩ := ih
    refine ⟨rest, h1, h2, fun q hq => .tail _ (h3 q hq), fun x y q hq => ?_⟩
    rcases List.mem_cons.mp hq with rfl | hq
    · exact .inl rfl
    · exact h4 x y q hq
  | two _ ih =>
    obtain ⟨rest, h1, h2, h3, h4⟩ := ih
    refine ⟨rest, h1, h2, fun q hq => .tail _ (h3 q hq), fun x y q hq => ?_⟩
    rcases List.mem_cons.mp hq with rfl | hq
    · exact .inr (.inl rfl)
    · exact h4 x y q hq
  | off n1 n2 _ ih =>
    rename_i q0 _ _ _
    obtain ⟨rest, h1, h2, h3, h4⟩ := ih
    refine ⟨q0 :: rest, ?_, ?_, ?_, fun x y q hq => ?_⟩
    · intro q hq; rcases List.mem_cons.mp hq with rfl | hq; exact n1; exact h1 q hq
    · intro q hq; rcases List.mem_cons.mp hq with rfl | hq; exact n2; exact h2 q hq
    · intro q hq; rcases List.mem_cons.mp hq with rfl | hq; exact .head _; exact .tail _ (h3 q hq)
    · rcases List.mem_cons.mp hq with rfl | hq
      · exact .inr (.inr (.head _))
      · exact (h4 x y q hq).imp id fun h => h.imp id fun h => .tail _ h
theorem take_any {w : World} {p : Program} {loose : List Str} {mean : ExcName → Option Value} {mg mb : Str → Option Value} {dp un : Nat} {gd : Option (List Code)} {cn : Str} {cs : Scope} {a : Addr} {ccd : Value} {cl : List (Str × Addr)} {outer : List Env} {A₀ : Around} {base h₀ : Heap} {L : Addr}
    {m : Str → Option Value} {s : Shared} {Q E : Value → Shared → Prop} {news : List (Addr × Obj)} {f : Obj → Obj → List (Addr × Obj)} {src l : Addr} {x y most : Int} {tx ty tm : Tok} {n k : Nat} {us : List Value} {ns : List Int}
    (B : Below A₀ base outer h₀) (F : Fr h₀ L s.heap m) (X : (frag w.params).In h₀) (N : News h₀ L s.heap news) (T : Top p loose mean mg mb h₀) (hk : cs.kind = .function)
    (i1 : (src, listOf #[.ref l, .int x tx, .int y ty] n) ∈ news) (i2 : (l, listOf us.toArray k) ∈ news) (R : Two src l (listOf #[.ref l, .int x tx, .int y ty] n) (listOf us.toArray k) news f) (hne : @Ne Nat src l)
    (hi : IntsAre us ns) (hz : us.length ≤ 63) (y0 : 0 ≤ y) (y1 : y < 2147483563) (m0 : 0 < most) (m8 : most ≤ 8)
    (hd : dp + 1 < recursionLimit) (hu : un + 200 < cLine)
    (ret : ∀ (r x' y' : Int) (t tx' ty' : Tok) (n' k' : Nat) (us' : List Value) (ns' : List Int) (h' : Heap) (tk' : Nat), 0 ≤ r → r < most → IntsAre us' ns' → us'.length ≤ 63 → 0 ≤ y' → y' < 2147483563 → Fr h₀ L h' m →
      News h₀ L h' (f (listOf #[.ref l, .int x' tx', .int y' ty'] n') (listOf us'.toArray k')) → Q (.int r t) { s with heap := h', toks := tk' }) :
    wpAny (model pw w) (ktrTop dp un gd cn cs L a ccd cl outer) (call (.ref 514) [.ref src, .int most tm]) Q E s := by
  obtain ⟨rest, h1, h2, h3, h4⟩ := R.rest
  refine take_call (rest := rest) (x := x) (tx := tx) (ty := ty) (n := n) (k := k) B F X (fun q hq => ?_) T hk hne h1 h2 hi hz y0 y1 m0 m8 hd hu fun r x' y' t tx' ty' n' k' us' ns' h' tk' c1 c2 c3 c4 c5 c6 F' N' => ret r x' y' t tx' ty' n' k' us' ns' h' tk' c1 c2 c3 c4 c5 c6 F' fun q hq => ?_
  · rcases List.mem_cons.mp hq with rfl | hq
    · exact N _ i1
    rcases List.mem_cons.mp hq with rfl | hq
    · exact N _ i2
    · exact N _ (h3 q hq)
  · rcases h4 _ _ q hq with rfl | rfl | hq
    · exact N' _ (.head _)
    · exact N' _ (.tail _ (.head _))
    · exact N' _ (.tail _ (.tail _ hq))
theorem take_len {ws : List Value} {ns : List Int} (h : IntsAre ws (ns.take 40)) : ws.length ≤ 63 := by
  rw [h.length, List.length_take]
  omega
theorem y_ok {a : Int} : 0 ≤ 1 + a.fmod 9973 ∧ 1 + a.fmod 9973 < 2147483563 := by
  have h1 := Int.fmod_nonneg_of_pos a (show (0 : Int) < 9973 by decide)
  have h2 := Int.fmod_lt_of_pos a (show (0 : Int) < 9973 by decide)
  omega
/-! the stepper's lemmas -/
theorem lkl_here {α : Type} {x : Str} {v : α} {r : List (Str × α)} : List.lookup x ((x, v) :: r) = some v := by simp [List.lookup]
theorem lkl_skip {α : Type} {x y : Str} {u v : α} {r : List (Str × α)} (hn : ¬ x = y) (h : List.lookup x r = some v) : List.lookup x ((y, u) :: r) = some v := by
  rw [List.lookup_cons, show (x == y) = false from by simpa using hn]; exact h
section
variable {M : Model} {A : Around} {E : Value → Shared → Prop} {s : Shared} {env : Env} {Q : Value → Shared → Prop} {Qb : Bool → Shared → Prop} {Qf : Flow → Shared → Prop}
theorem at_eval {e : PySem.Expr} (h : wpAny M A (eval e env) Q E s) : wpAny M A (eval e env) Q E s := h
theorem at_cmp {o : CmpOp} {a b : Value} (h : wpAny M A (compareOp o a b) Q E s) : wpAny M A (compareOp o a b) Q E s := h
theorem at_call {f : Value} {vs : List Value} {ks : List (Str × Value)} (h : wpAny M A (call f vs ks) Q E s) : wpAny M A (call f vs ks) Q E s := h
theorem at_callW {p : Pos} {f : Value} {vs : List Value} {a : List (Bool × Sem Value)} (h : wpAny M A (callWith p f vs a []) Q E s) : wpAny M A (callWith p f vs a []) Q E s := h
theorem at_true {e : PySem.Expr} {wh : Sem Value} (h : wpAny M A (isTrue e env wh) Qb E s) : wpAny M A (isTrue e env wh) Qb E s := h
theorem at_exec {st : Stmt} (h : wpAny M A (exec st env) Qf E s) : wpAny M A (exec st env) Qf E s := h
end
theorem ite_t {c : Bool} {P Q : Prop} (hc : c = true) (h : P) : if c = true then P else Q := by rw [if_pos hc]; exact h
theorem ite_f {c : Bool} {P Q : Prop} (hc : c = false) (h : Q) : if c = true then P else Q := by subst hc; exact h
/-! statements one by one -/
noncomputable def Nxt (M : Model) (A : Around) (rest : List Stmt) (env : Env) (Q : Flow → Shared → Prop) (E : Value → Shared → Prop) (f : Flow) (s' : Shared) : Prop := match f with
  | .next => wpAny M A (execs rest env) Q E s'
  | f => Q f s'
section
variable {M : Model} {A : Around} {E : Value → Shared → Prop} {env : Env} {h : Heap} {g : Array GenState} {d : Drawn} {tk0 : Nat} {o : OsState}
theorem x_cons {st : Stmt} {rest : List Stmt} {Q : Flow → Shared → Prop} (H : ∀ tk, wpAny M A (exec st env) (Nxt M A rest env Q E) E ⟨h, g, d, tk, o⟩) :
    wpAny M A (execs (st :: rest) env) Q E ⟨h, g, d, tk0, o⟩ := PySem.wpAny_execs_cons (wpAny_mono (H tk0) (fun f s' q => by cases f <;> exact q) fun _ _ e => e)
theorem x_nil {Q : Flow → Shared → Prop} {s : Shared} (H : Q .next s) : wpAny M A (execs [] env) Q E s := PySem.wpAny_execs_nil H
theorem x_next {rest : List Stmt} {Q : Flow → Shared → Prop} {s : Shared} (H : wpAny M A (execs rest env) Q E s) : Nxt M A rest env Q E .next s := H
theorem x_ret {rest : List Stmt} {Q : Flow → Shared → Prop} {s : Shared} {v : Value} (H : Q (.ret v) s) : Nxt M A rest env Q E (.ret v) s := H
end
/-! a def of the text is entered and left -/
noncomputable def Back (h₀ : Heap) (L : Addr) (m : Str → Option Value) (g : Heap) (Q : Value → Shared → Prop) (fl : Flow) (s' : Shared) : Prop :=
  ∃ L' m' news', Fr g L' s'.heap m' ∧ News g L' s'.heap news' ∧ (Fr h₀ L s'.heap m → News h₀ L s'.heap news' → Q (match fl with | .ret v => v | _ => .none) s')
theorem back_ret {h₀ g : Heap} {L L' : Addr} {m m' : Str → Option Value} {news' : List (Addr × Obj)} {Q : Value → Shared → Prop} {v : Value} {s' : Shared} (F' : Fr g L' s'.heap m') (N' : News g L' s'.heap news')
    (k : Fr h₀ L s'.heap m → News h₀ L s'.heap news' → Q v s') : Back h₀ L m g Q (.ret v) s' := ⟨L', m', news', F', N', k⟩
noncomputable def EBack (w : World) (A : Around) (env : Env) (E : Value → Shared → Prop) (e : Value) (s' : Shared) : Prop :=
  wpAny (model PySem.Challenge.pw_qd0172_01 w) A (leaving env e) (fun _ s'' => E e s'') (fun e' s'' => E e' s'') s'
section
variable {w : World} {K : Frag} {p : Program} {loose : List Str} {mean : ExcName → Option Value} {mg mb : Str → Option Value} {dp un : Nat} {gd : Option (List Code)} {cn : Str} {cs : Scope} {a : Addr} {ccd : Value} {cl : List (Str × Addr)} {outer : List Env} {A₀ : Around} {base h₀ : Heap} {L : Addr}
    {m : Str → Option Value} {Q E : Value → Shared → Prop} {news : List (Addr × Obj)} {h : Heap} {gs : Array GenState} {d : Drawn} {tk0 : Nat} {os : OsState}
    {name qual : Str} {params : Arguments} {body : List Stmt} {scope : Scope} {dV kV doc pm cdv ct oc : Value} {an od : Option Addr} {osl : Array (Option Value)} {f : Addr} {vs : List Value} {ns : List Str} {mp : Str → Option Value}
noncomputable def plainScope (scope : Scope) : Bool := !scope.isCoroutine && !scope.isGenerator && decide (scope.kind = .function) && scope.names.all (fun x => decide (x.2 ≠ .cell))
theorem enter_any (hmp : mp = fun y => (ns.zip vs).reverse.lookup y) (B : Below A₀ base outer h₀) (F : Fr h₀ L h m) (X₀ : K.In h₀) (N : News h₀ L h news) (T : Top p loose mean mg mb h₀) (hk : cs.kind = .function)
    (ho : K.lookup f = some ⟨oc, od, .func (fnOf name qual params body scope dV kV doc pm an cdv ct), osl⟩) (hcd : codeIn K cdv qual = true) (hroom : dp < recursionLimit)
    (hbind : bindArgs (fnOf name qual params body scope dV kV doc pm an cdv ct) ⟨vs, []⟩ = pure (ns.zip vs)) (hloc : ((ns.zip vs).all fun x => decide (scope.names.lookup x.1 = some .local)) = true) (hp : plainScope scope = true)
    (H : ∀ g L' h₁ tk, Fr h₀ L g m → Fr g L' h₁ mp → News g L' h₁ news → Below (ktrTop dp un gd cn cs L a ccd cl outer) base (envX cn cs L a ccd cl :: outer) g → K.In g → Top p loose mean mg mb g →
      wpAny (model PySem.Challenge.pw_qd0172_01 w) (ktrTop (dp + 1) (un + 3) gd qual scope L' f cdv [] (envX cn cs L a ccd cl :: outer)) (execs body (envX qual scope L' f cdv [])) (Back h₀ L m g Q) (EBack w (ktrTop (dp + 1) (un + 3) gd qual scope L' f cdv [] (envX cn cs L a ccd cl :: outer)) (envX qual scope L' f cdv []) E) ⟨h₁, gs, d, tk, os⟩) :
    wpAny (model PySem.Challenge.pw_qd0172_01 w) (ktrTop dp un gd cn cs L a ccd cl outer) (call (.ref f) vs) Q E ⟨h, gs, d, tk0, os⟩ := by
  subst hmp
  simp only [plainScope, Bool.and_eq_true, Bool.not_eq_true', decide_eq_true_eq, List.all_eq_true] at hp
  obtain ⟨⟨⟨p1, p2⟩, p3⟩, p4⟩ := hp
  refine wpAny_call ?_
  refine code_def (binds := ns.zip vs) B F X₀ N T rfl rfl hk ho hcd hroom (BindsTo.of_eq hbind) (locs hloc) (fun g L' h₁ c1 c2 c3 c4 c5 c6 => ?_) p1 p2 p3 p4
  exact H g L' h₁ _ c1 c2 c3 c4 c5 c6
end
section
variable {w : World} {K : Frag} {p : Program} {loose : List Str} {mean : ExcName → Option Value} {mg mb : Str → Option Value} {dp un : Nat} {gd : Option (List Code)} {cn : Str} {cs : Scope} {a : Addr} {ccd : Value} {cl : List (Str × Addr)} {outer : List Env} {A₀ : Around} {base h₀ : Heap} {L : Addr}
    {m : Str → Option Value} {Q E : Value → Shared → Prop} {news : List (Addr × Obj)} {h : Heap} {gs : Array GenState} {d : Drawn} {tk0 : Nat} {os : OsState}
    {name qual : Str} {params : Arguments} {body : List Stmt} {scope : Scope} {dV kV doc pm cdv ct oc : Value} {an od : Option Addr} {osl : Array (Option Value)} {f : Addr} {v1 v2 v3 : Value}
theorem beqf {x y : Str} (h : ¬ x = y) : (x == y) = false := by simpa using h
theorem lk1 {n1 : Str} : (fun y => if y = n1 then some v1 else none) = fun y => (([n1] : List Str).zip [v1]).reverse.lookup y := by
  funext y
  by_cases h1 : y = n1
  · subst h1; simp
  · simp [h1, List.lookup, beqf h1]
theorem lk2 {n1 n2 : Str} : (fun y => if y = n2 then some v2 else if y = n1 then some v1 else none) = fun y => (([n1, n2] : List Str).zip [v1, v2]).reverse.lookup y := by
  funext y
  by_cases h2 : y = n2
  · subst h2; simp
  · by_cases h1 : y = n1
    · subst h1; simp [h2, List.lookup, beqf h2]
    · simp [h1, h2, List.lookup, beqf h1, beqf h2]
theorem lk3 {n1 n2 n3 : Str} : (fun y => if y = n3 then some v3 else if y = n2 then some v2 else if y = n1 then some v1 else none) = fun y => (([n1, n2, n3] : List Str).zip [v1, v2, v3]).reverse.lookup y := by
  funext y
  by_cases h3 : y = n3
  · subst h3; simp
  · by_cases h2 : y = n2
    · subst h2; simp [h3, List.lookup, beqf h3]
    · by_cases h1 : y = n1
      · subst h1; simp [h2, h3, List.lookup, beqf h2, beqf h3]
      · simp [h1, h2, h3, List.lookup, beqf h1, beqf h2, beqf h3]
theorem lk0 : (fun _ => none : Str → Option Value) = fun y => (([] : List Str).zip ([] : List Value)).reverse.lookup y := by
  funext y; rfl
end
section
variable {prog : Program} {w : World} {A : Around} {E : Value → Shared → Prop} {h₀ : Heap} {L : Addr} {news : List (Addr × Obj)} {h : Heap} {gs : Array GenState} {d : Drawn} {tk0 : Nat} {os : OsState}
theorem len_list_any {l : Addr} {vs : List Value} {n : Nat} {Q : Value → Shared → Prop} (N : News h₀ L h news) (hm : (l, listOf vs.toArray n) ∈ news) (hz : Nat.ble vs.length 1000 = true) (H : ∀ t t', Q (.int (vs.length : Nat) t) ⟨h, gs, d, t', os⟩) : wpAny (model prog w) A (call (.builtin "len") [.ref l]) Q E ⟨h, gs, d, tk0, os⟩ := by
  refine Calls.call_len_list (N.isList hm) (by have := Nat.le_of_ble_eq_true hz; rw [List.size_toArray]; omega) ?_
  rw [List.size_toArray]
  exact H _ _
end
noncomputable abbrev lawCells (L : Addr) : List (Str × Addr) := [(Str.ofString "made", L + 2), (Str.ofString "source", L + 1)]
noncomputable abbrev lawX (L f : Addr) (cd : Value) : Env := envX (Str.ofString "law") lawScope L f cd (lawCells L)
noncomputable abbrev lawA (L f : Addr) (cd : Value) : Around := ktrTop (1 + claimMargin + 1) 7 (some []) (Str.ofString "law") lawScope L f cd (lawCells L) []
theorem lawEnv_eq {L f : Addr} {cd : Value} : lawEnv L f cd = lawX L f cd := by kernel_rfl
theorem lawA_eq {L f : Addr} {cd : Value} : callerA.deeper (lawEnv L f cd) = lawA L f cd := by kernel_rfl
/-! a dict display of one written key -/
noncomputable def DictPut (w : World) (h₀ : Heap) (L : Addr) (m : Str → Option Value) (d : Addr) (x : Str) (Q : Value → Shared → Prop) (v : Value) (s : Shared) : Prop :=
  ∃ news g o, Fr h₀ L s.heap m ∧ News h₀ L s.heap news ∧ UpdF d o news g ∧ o.IsDictOf (PySem.strKind PySem.Challenge.pw_qd0172_01 w) [] ∧
    ∀ h' o' tk', Fr h₀ L h' m → News h₀ L h' (g o') → o'.IsDictOf (PySem.strKind PySem.Challenge.pw_qd0172_01 w) [(x, v)] → Q (.ref d) ⟨h', s.gens, s.drawn, tk', s.os⟩
theorem dict_put {w : World} {h₀ : Heap} {L : Addr} {m : Str → Option Value} {d : Addr} {x : Str} {Q : Value → Shared → Prop} {v : Value} {h : Heap} {gs : Array GenState} {dr : Drawn} {tk : Nat} {os : OsState} {news : List (Addr × Obj)} {g : Obj → List (Addr × Obj)} {o : Obj}
    (F : Fr h₀ L h m) (N : News h₀ L h news) (U : UpdF d o news g) (hd : o.IsDictOf (PySem.strKind PySem.Challenge.pw_qd0172_01 w) [])
    (k : ∀ h' o' tk', Fr h₀ L h' m → News h₀ L h' (g o') → o'.IsDictOf (PySem.strKind PySem.Challenge.pw_qd0172_01 w) [(x, v)] → Q (.ref d) ⟨h', gs, dr, tk', os⟩) : DictPut w h₀ L m d x Q v ⟨h, gs, dr, tk, os⟩ := ⟨news, g, o, F, N, U, hd, k⟩
theorem dict1 {w : World} {A : Around} {E : Value → Shared → Prop} {h : Heap} {gs : Array GenState} {dr : Drawn} {tk : Nat} {os : OsState} {env : Env} {h₀ : Heap} {L : Addr} {m : Str → Option Value} {news : List (Addr × Obj)} {Q : Value → Shared → Prop} {x : Str} {n : Nat} {p1 pos : Pos} {v : PySem.Expr}
    (F : Fr h₀ L h m) (N : News h₀ L h news) (hbig : h₀.NoLimit)
    (H : ∀ (d : Addr) h' o tk', Fr h₀ L h' m → News h₀ L h' ((d, o) :: news) → (∀ p ∈ news, p.1 < d) → (d == sysModules) = false → o.IsDictOf (PySem.strKind PySem.Challenge.pw_qd0172_01 w) [] →
      wpAny (model PySem.Challenge.pw_qd0172_01 w) A (eval v env) (DictPut w h₀ L m d x Q) E ⟨h', gs, dr, tk', os⟩) :
    wpAny (model PySem.Challenge.pw_qd0172_01 w) A (eval (.Dict [some (.Constant (.str x) n p1)] [v] pos) env) Q E ⟨h, gs, dr, tk, os⟩ := by
  refine kdn_str rfl F N hbig rfl rfl (List.cons_ne_nil _ _) (Nat.le_of_ble_eq_true rfl) fun d h' o F' N' l1 lo hd => ?_
  refine pairTrees_cons_walk (Calls.Constant_str ?_)
  refine wpAny_mono (H d h' o _ F' N' l1 lo hd) (fun vv s₂ h₂ => ?_) fun _ _ e => e
  refine pairTrees_nil_walk ?_
  obtain ⟨news2, g, o2, F2, N2, U, hd2, k⟩ := h₂
  exact kdn_made_str F2 N2 U hd2 rfl (by simp [strPairs]) fun h3 o3 F3 N3 hd3 => k h3 o3 _ F3 N3 hd3
/-! the attributes of a value that has none -/
structure NoAttrs (K : Frag) (C : Addr) (es : List DictEntry) : Prop where
  pg : plainGet K C (Str.ofString "attrs") = true
  hh : hasDictIn K C = true
  ha : findIn K (.ref C) (Str.ofString "attrs") = some none
  hl : getL (Str.ofString "attrs") es = some (some .none)
section
variable {prog : Program} {w : World} {A : Around} {E : Value → Shared → Prop} {s : Shared} {K : Frag} {x C dx L : Addr} {h₀ : Heap} {m : Str → Option Value} {news : List (Addr × Obj)} {es : List DictEntry} {n : Nat}
theorem get_attrs_none {expr : Bool} {Q : Value → Shared → Prop} (F : Fr h₀ L s.heap m) (X₀ : K.In h₀) (N : News h₀ L s.heap news) (hx : (x, instObj C dx) ∈ news) (hd : (dx, dictOf es n) ∈ news) (Z : NoAttrs K C es) (h : Q .none { s with toks := s.toks + 1 }) :
    wpAny (model prog w) A (getAttr (.ref x) (Str.ofString "attrs") expr) Q E s := get_own F X₀ (InstAt.of_news N hx hd) Z.pg Z.hh Z.ha rfl Z.hl rfl h
end
section
variable {prog : Program} {w : World} {A : Around} {E : Value → Shared → Prop} {h₀ : Heap} {L : Addr} {m : Str → Option Value} {news : List (Addr × Obj)} {h : Heap} {gs : Array GenState} {d : Drawn} {tk0 : Nat} {os : OsState}
theorem list_copy_any {l : Addr} {vs : List Value} {n : Nat} {Q : Value → Shared → Prop} (F : Fr h₀ L h m) (N : News h₀ L h news) (hm : (l, listOf vs.toArray n) ∈ news) (hz : Nat.ble vs.length 1000 = true)
    (H : ∀ D c h', Fr h₀ L h' m → News h₀ L h' ((D, listOf vs.toArray c) :: news) → (∀ q ∈ news, q.1 < D) → Q (.ref D) ⟨h', gs, d, tk0, os⟩) : wpAny (model prog w) A (call (.type "list") [.ref l]) Q E ⟨h, gs, d, tk0, os⟩ :=
  list_copyK F N (N.isList hm) H (by have := Nat.le_of_ble_eq_true hz; rw [sizeLine_eq, List.size_toArray]; omega)
end
section
variable {prog : Program} {w : World} {A : Around} {E : Value → Shared → Prop} {s : Shared} {h₀ : Heap} {L : Addr} {m : Str → Option Value} {news : List (Addr × Obj)} {h : Heap} {gs : Array GenState} {d : Drawn} {tk0 : Nat} {os : OsState}
theorem len_list_eq {l : Addr} {vs : List Value} {n : Nat} {k : Int} {Q : Value → Shared → Prop} (N : News h₀ L h news) (hm : (l, listOf vs.toArray n) ∈ news) (e : ((vs.length : Nat) : Int) = k) (hz : Nat.ble vs.length 1000 = true) (H : ∀ t t', Q (.int k t) ⟨h, gs, d, t', os⟩) : wpAny (model prog w) A (call (.builtin "len") [.ref l]) Q E ⟨h, gs, d, tk0, os⟩ := by
  subst e; exact len_list_any N hm hz H
theorem str_small {a : Int} {t : Tok} {Q : Value → Shared → Prop} (h0 : 0 ≤ a) (h1 : a < 1000) (H : Q (.str (toString a) s.toks) { s with toks := s.toks + 1 }) : wpAny (model prog w) A (call (.type "str") [.int a t]) Q E s :=
  PySem.P.str_of_int (shown (N := 1000) (by omega) h1 (by decide +kernel)) H
theorem isi_yes255 {x : Addr} {dx : Addr} {od : Obj} {Q : Value → Shared → Prop} (F : Fr h₀ L s.heap m) (X : (frag w.params).In h₀) (N : News h₀ L s.heap news) (hx : (x, instObj 255 dx) ∈ news) (hd : (dx, od) ∈ news) (H : Q (.bool true) s) : wpAny (model prog w) A (call (.builtin "isinstance") [.ref x, .ref 255]) Q E s :=
  isi_call (X.keeps F.keep) (fun _ => InstAt.type (InstAt.of_news N hx hd)) (by kernel_rfl) (by intro e; cases e) H
theorem isi_no_any {x C : Addr} {dx : Addr} {od : Obj} {Q : Value → Shared → Prop} (F : Fr h₀ L s.heap m) (X : (frag w.params).In h₀) (N : News h₀ L s.heap news) (hx : (x, instObj C dx) ∈ news) (hd : (dx, od) ∈ news) (hC : C = 276 ∨ C = 298 ∨ C = 319) (H : Q (.bool false) { s with toks := s.toks + 1 }) : wpAny (model prog w) A (call (.builtin "isinstance") [.ref x, .ref 255]) Q E s := by
  rcases hC with rfl | rfl | rfl
  · exact kin_callC (X.keeps F.keep) (InstAt.of_news N hx hd) (by kernel_rfl) (by kernel_rfl) (by kernel_rfl) (by kernel_rfl) (by kernel_rfl) (by kernel_rfl) (by kernel_rfl) H
  · exact kin_callC (X.keeps F.keep) (InstAt.of_news N hx hd) (by kernel_rfl) (by kernel_rfl) (by kernel_rfl) (by kernel_rfl) (by kernel_rfl) (by kernel_rfl) (by kernel_rfl) H
  · exact kin_callC (X.keeps F.keep) (InstAt.of_news N hx hd) (by kernel_rfl) (by kernel_rfl) (by kernel_rfl) (by kernel_rfl) (by kernel_rfl) (by kernel_rfl) (by kernel_rfl) H
end
noncomputable abbrev tupOf (vs : List Value) : Obj := { cls := .type "tuple", data := .seq vs.toArray }
theorem mem_hd {q : Addr × Obj} {r : List (Addr × Obj)} : q ∈ q :: r := .head _
theorem mem_tl {q b : Addr × Obj} {r : List (Addr × Obj)} (h : q ∈ r) : q ∈ b :: r := .tail _ h
theorem strOk_of (s : String) : PyData.strOk (Str.ofString s) = true := by
  rw [PySem.Str.ofString_eq_toList]
  unfold PyData.strOk
  simp only [Array.all_eq_true_iff_forall_mem, decide_eq_true_eq]
  intro x hx
  simp at hx
  obtain ⟨c, _, rfl⟩ := hx
  have := c.valid
  unfold UInt32.isValidChar Nat.isValidChar at this
  unfold Char.toNat
  omega
section
variable {prog : Program} {w : World} {A : Around} {E : Value → Shared → Prop} {s : Shared} {h₀ : Heap} {L : Addr} {news : List (Addr × Obj)}
theorem ne_strs3 {a b : Addr} {s1 s2 s3 : String} {t1 t2 t3 u1 u2 u3 : Tok} {n c : Nat} {Q : Value → Shared → Prop} (N : News h₀ L s.heap news) (ha : (a, listOf [.str (Str.ofString s1) t1, .str (Str.ofString s2) t2, .str (Str.ofString s3) t3].toArray n) ∈ news) (hb : (b, listOf [.str (Str.ofString s1) u1, .str (Str.ofString s2) u2, .str (Str.ofString s3) u3].toArray c) ∈ news)
    (hu : A.units + 64 < cLine) (H : Q (.bool false) s) : wpAny (model prog w) A (compareOp .NotEq (.ref a) (.ref b)) Q E s := by
  refine ne_dataH (reads_list_at (N.get ha) rfl rfl (ReadsAll.cons (Reads.str _ _) (ReadsAll.cons (Reads.str _ _) (ReadsAll.cons (Reads.str _ _) ReadsAll.nil)))) (reads_list_at (N.get hb) rfl rfl (ReadsAll.cons (Reads.str _ _) (ReadsAll.cons (Reads.str _ _) (ReadsAll.cons (Reads.str _ _) ReadsAll.nil)))) (by simp [SeqAt.shaped, PyData.canLay0, PyData.canLayAll0, PyData.depth, PyData.depthAll, strOk_of]) (by simp [SeqAt.shaped, PyData.canLay0, PyData.canLayAll0, PyData.depth, PyData.depthAll, strOk_of]) hu ?_
  simp only [PyData.eqv, PyData.eqvAll, beq_self_eq_true, Bool.and_true, Bool.true_and, Bool.not_true, decide_true]
  exact H
end
/-! the state between the law's parts -/
noncomputable def SrcIn (L src l : Addr) (oM oS : Obj) (news : List (Addr × Obj)) : Prop :=
  ∃ (x y : Int) (tx ty : Tok) (n k : Nat) (us : List Value) (ns : List Int), (src, listOf #[.ref l, .int x tx, .int y ty] n) ∈ news ∧ (l, listOf us.toArray k) ∈ news ∧ (L + 2, oM) ∈ news ∧ (L + 1, oS) ∈ news ∧ IntsAre us ns ∧ us.length ≤ 63 ∧ 0 ≤ y ∧ y < 2147483563
theorem SrcIn.mono {L src l : Addr} {oM oS : Obj} {news news' : List (Addr × Obj)} (h : SrcIn L src l oM oS news) (s : ∀ q ∈ news, q ∈ news') : SrcIn L src l oM oS news' := by
  obtain ⟨x, y, tx, ty, n, k, us, ns, h1, h2, h3, h4, h5⟩ := h
  exact ⟨x, y, tx, ty, n, k, us, ns, s _ h1, s _ h2, s _ h3, s _ h4, h5⟩
theorem SrcIn.cons {L src l : Addr} {oM oS : Obj} {news : List (Addr × Obj)} {q : Addr × Obj} (h : SrcIn L src l oM oS news) : SrcIn L src l oM oS (q :: news) := h.mono fun _ hq => .tail _ hq
noncomputable def ToSt (st : List Stmt) (w : World) (h₀ : Heap) (L f : Addr) (cd : Value) (src l : Addr) (oM oS : Obj) (gs : Array GenState) (d : Drawn) (os : OsState) (Q : Flow → Shared → Prop) (E : Value → Shared → Prop) : Prop :=
  ∀ m' h' tk' news', Fr h₀ L h' m' → News h₀ L h' news' → SrcIn L src l oM oS news' → wpAny (model PySem.Challenge.pw_qd0172_01 w) (lawA L f cd) (execs st (lawX L f cd)) Q E ⟨h', gs, d, tk', os⟩
noncomputable section
@[reducible] noncomputable def stC1 : List Stmt := by
  refine (fun (o : List Stmt) (_ : lawBody.drop 10 = o) => o) ?_ ?h
  rotate_left
  conv => lhs; whnf
@[reducible] noncomputable def stC2 : List Stmt := by
  refine (fun (o : List Stmt) (_ : lawBody.drop 11 = o) => o) ?_ ?h
  rotate_left
  conv => lhs; whnf
@[reducible] noncomputable def stC3 : List Stmt := by
  refine (fun (o : List Stmt) (_ : lawBody.drop 12 = o) => o) ?_ ?h
  rotate_left
  conv => lhs; whnf
@[reducible] noncomputable def stB2 : List Stmt := by
  refine (fun (o : List Stmt) (_ : lawBody.drop 4 = o) => o) ?_ ?h
  rotate_left
  conv => lhs; whnf
end
/-! flat forms of the library's rules -/
section
variable {prog : Program} {w : World} {M : Model} {A : Around} {E : Value → Shared → Prop} {h₀ : Heap} {L : Addr} {m : Str → Option Value} {news : List (Addr × Obj)} {h : Heap} {gs : Array GenState} {d : Drawn} {tk : Nat} {os : OsState} {Q : Value → Shared → Prop} {env : Env}
theorem f_str {x : Str} {k : Nat} {pos : Pos} (H : Q (.str x tk) ⟨h, gs, d, tk + 1, os⟩) : wpAny M A (eval (.Constant (.str x) k pos) env) Q E ⟨h, gs, d, tk, os⟩ := Calls.Constant_str H
theorem f_int {i : Int} {k : Nat} {pos : Pos} (H : Q (.int i tk) ⟨h, gs, d, tk + 1, os⟩) : wpAny M A (eval (.Constant (.int i) k pos) env) Q E ⟨h, gs, d, tk, os⟩ := wpAny_Constant_int H
theorem f_list {vs : List Value} (F : Fr h₀ L h m) (N : News h₀ L h news)
    (H : ∀ l h', Fr h₀ L h' m → News h₀ L h' ((l, listOf vs.toArray 0) :: news) → (∀ p ∈ news, p.1 < l) → Q (.ref l) ⟨h', gs, d, tk, os⟩) (hsz : vs.length ≤ sizeLine) : wpAny M A (newList vs) Q E ⟨h, gs, d, tk, os⟩ := newList_K F N H hsz
theorem f_tuple {vs : List Value} (F : Fr h₀ L h m) (N : News h₀ L h news)
    (H : ∀ l h', Fr h₀ L h' m → News h₀ L h' ((l, tupOf vs) :: news) → (∀ p ∈ news, p.1 < l) → Q (.ref l) ⟨h', gs, d, tk, os⟩) (hsz : vs.length ≤ sizeLine) : wpAny M A (newTuple vs) Q E ⟨h, gs, d, tk, os⟩ := kup_newTuple F N H hsz
theorem f_str_small {a : Int} {t : Tok} (h0 : 0 ≤ a) (h1 : a < 1000) (H : Q (.str (Str.ofString (toString a)) tk) ⟨h, gs, d, tk + 1, os⟩) : wpAny (model prog w) A (call (.type "str") [.int a t]) Q E ⟨h, gs, d, tk, os⟩ := str_small h0 h1 H
theorem f_add {a b : Int} {t u : Tok} (H : Q (.int (a + b) tk) ⟨h, gs, d, tk + 1, os⟩) : wpAny (model prog w) A (binaryOp .Add (.int a t) (.int b u)) Q E ⟨h, gs, d, tk, os⟩ := PyProof.Rows.add_int H
end
section
variable {prog : Program} {w : World} {M : Model} {A : Around} {E : Value → Shared → Prop} {h₀ : Heap} {L a : Addr} {m : Str → Option Value} {cn : Str} {cs : Scope} {ccd : Value} {cl : List (Str × Addr)} {news : List (Addr × Obj)} {h : Heap} {gs : Array GenState} {d : Drawn} {tk : Nat} {os : OsState}
theorem f_store {x : Str} {v : Value} {Q : Unit → Shared → Prop} (F : Fr h₀ L h m) (N : News h₀ L h news)
    (H : ∀ h' tk', Fr h₀ L h' (fun y => if y = x then some v else m y) → News h₀ L h' news → Q () ⟨h', gs, d, tk', os⟩)
    (hk : cs.kind = .function) (hx : (envX cn cs L a ccd cl).kindOf x = some .local) : wpAny M A (storeName (envX cn cs L a ccd cl) x v) Q E ⟨h, gs, d, tk, os⟩ :=
  storeX_L F N (fun h' F' N' => H h' _ F' N') hk hx
theorem f_set {K : Frag} {x dx C : Addr} {es es' : List DictEntry} {n n' : Nat} {news' : List (Addr × Obj)} {name : Str} {v : Value} {Q : Unit → Shared → Prop} (F : Fr h₀ L h m) (X₀ : K.In h₀) (N : News h₀ L h news) (h1 : (x, instObj C dx) ∈ news) (h2 : (dx, dictOf es n) ∈ news)
    (hs : findIn K (.ref C) "__setattr__" = some (some (.builtin "object.__setattr__"))) (hp : plainOver K C = true) (ht : takerIn K C name = some none) (hh : hasDictIn K C = true) (hl : (getL name es).isSome = true)
    (e : (putL name (PyData.keyHash w.params name) (.str name (tk + 1)) v es, putN name es n) = (es', n')) (U : Upd dx (dictOf es n) (dictOf es' n') news news') (hz : es'.length ≤ 1000)
    (H : ∀ h' tk', Fr h₀ L h' m → News h₀ L h' news' → Q () ⟨h', gs, d, tk', os⟩) : wpAny (model prog w) A (setAttr (.ref x) name v) Q E ⟨h, gs, d, tk, os⟩ :=
  set_dict F X₀ N (InstAt.of_news N h1 h2) rfl hs hp ht hh hl e U hz fun h' F' N' => H h' _ F' N'
theorem f_get {K : Frag} {x dx C : Addr} {es : List DictEntry} {n : Nat} {name : Str} {v : Value} {expr : Bool} {Q : Value → Shared → Prop} {attr : Option Value} (F : Fr h₀ L h m) (X₀ : K.In h₀) (N : News h₀ L h news) (h1 : (x, instObj C dx) ∈ news) (h2 : (dx, dictOf es n) ∈ news) (hg : plainGet K C name = true) (hh : hasDictIn K C = true)
    (ha : findIn K (.ref C) name = some attr) (hn : noGet K attr = true) (hl : getL name es = some (some v)) (hv : handedIn v = true) (H : ∀ tk', Q v ⟨h, gs, d, tk', os⟩) :
    wpAny (model prog w) A (getAttr (.ref x) name expr) Q E ⟨h, gs, d, tk, os⟩ := get_own F X₀ (InstAt.of_news N h1 h2) hg hh ha hn hl hv (H _)
theorem f_get_none {K : Frag} {x dx C : Addr} {es : List DictEntry} {n : Nat} {expr : Bool} {Q : Value → Shared → Prop} (F : Fr h₀ L h m) (X₀ : K.In h₀) (N : News h₀ L h news) (hx : (x, instObj C dx) ∈ news) (hd : (dx, dictOf es n) ∈ news) (Z : NoAttrs K C es) (H : ∀ tk', Q .none ⟨h, gs, d, tk', os⟩) :
    wpAny (model prog w) A (getAttr (.ref x) (Str.ofString "attrs") expr) Q E ⟨h, gs, d, tk, os⟩ := get_attrs_none F X₀ N hx hd Z (H _)
end
section
variable {w : World} {p : Program} {loose : List Str} {mean : ExcName → Option Value} {mg mb : Str → Option Value} {dp un : Nat} {gd : Option (List Code)} {cn : Str} {cs : Scope} {a : Addr} {ccd : Value} {cl : List (Str × Addr)} {outer : List Env} {A₀ : Around} {base h₀ : Heap} {L : Addr}
    {m : Str → Option Value} {Q E : Value → Shared → Prop} {news : List (Addr × Obj)} {h : Heap} {gs : Array GenState} {d : Drawn} {tk : Nat} {os : OsState}
theorem f_null (B : Below A₀ base outer h₀) (F : Fr h₀ L h m) (X : (frag w.params).In h₀) (N : News h₀ L h news) (T : Top p loose mean mg mb h₀) (hk : cs.kind = .function) (hd : dp + 20 < recursionLimit) (hu : un + 400 < cLine)
    (ret : ∀ (x dx : Addr) (h' : Heap) (tk' : Nat) (t1 t2 t3 : Tok), Fr h₀ L h' m → News h₀ L h' ((x, instObj 226 dx) :: (dx, dictOf [ent w "kind" t1 (.str (Str.ofString "NULL") t2), ent w "attrs" t3 .none] 2) :: news) → (∀ q ∈ news, q.1 < dx) → @LT.lt Nat _ dx x → Q (.ref x) ⟨h', gs, d, tk', os⟩) :
    wpAny (model pw w) (ktrTop dp un gd cn cs L a ccd cl outer) (call (.ref 226) []) Q E ⟨h, gs, d, tk, os⟩ := null_cls B F X N T hk hd hu ret
theorem f_vec {kd its : Value} (B : Below A₀ base outer h₀) (F : Fr h₀ L h m) (X : (frag w.params).In h₀) (N : News h₀ L h news) (T : Top p loose mean mg mb h₀) (hk : cs.kind = .function) (hd : dp + 20 < recursionLimit) (hu : un + 400 < cLine)
    (ret : ∀ (x dx : Addr) (h' : Heap) (tk' : Nat) (t1 t2 t3 t4 t5 : Tok), Fr h₀ L h' m → News h₀ L h' ((x, instObj 255 dx) :: (dx, dictOf [ent w "kind" t1 kd, ent w "items" t2 its, ent w "attrs" t3 .none, ent w "shared" t4 (.bool false), ent w "loose" t5 (.bool false)] 5) :: news) → (∀ q ∈ news, q.1 < dx) → @LT.lt Nat _ dx x → Q (.ref x) ⟨h', gs, d, tk', os⟩) :
    wpAny (model pw w) (ktrTop dp un gd cn cs L a ccd cl outer) (call (.ref 255) [kd, its]) Q E ⟨h, gs, d, tk, os⟩ := vec_cls B F X N T hk hd hu ret
theorem f_sym {nm : Value} (B : Below A₀ base outer h₀) (F : Fr h₀ L h m) (X : (frag w.params).In h₀) (N : News h₀ L h news) (T : Top p loose mean mg mb h₀) (hk : cs.kind = .function) (hd : dp + 20 < recursionLimit) (hu : un + 400 < cLine)
    (ret : ∀ (x dx : Addr) (h' : Heap) (tk' : Nat) (t1 t2 t3 t4 : Tok), Fr h₀ L h' m → News h₀ L h' ((x, instObj 276 dx) :: (dx, dictOf [ent w "kind" t1 (.str (Str.ofString "symbol") t2), ent w "name" t3 nm, ent w "attrs" t4 .none] 3) :: news) → (∀ q ∈ news, q.1 < dx) → @LT.lt Nat _ dx x → Q (.ref x) ⟨h', gs, d, tk', os⟩) :
    wpAny (model pw w) (ktrTop dp un gd cn cs L a ccd cl outer) (call (.ref 276) [nm]) Q E ⟨h, gs, d, tk, os⟩ := sym_cls B F X N T hk hd hu ret
theorem f_call {its tgs : Value} (B : Below A₀ base outer h₀) (F : Fr h₀ L h m) (X : (frag w.params).In h₀) (N : News h₀ L h news) (T : Top p loose mean mg mb h₀) (hk : cs.kind = .function) (hd : dp + 20 < recursionLimit) (hu : un + 400 < cLine)
    (ret : ∀ (x dx : Addr) (h' : Heap) (tk' : Nat) (t1 t2 t3 t4 t5 t6 : Tok), Fr h₀ L h' m → News h₀ L h' ((x, instObj 298 dx) :: (dx, dictOf [ent w "kind" t1 (.str (Str.ofString "language") t2), ent w "items" t3 its, ent w "tags" t4 tgs, ent w "attrs" t5 .none, ent w "code" t6 .none] 5) :: news) → (∀ q ∈ news, q.1 < dx) → @LT.lt Nat _ dx x → Q (.ref x) ⟨h', gs, d, tk', os⟩) :
    wpAny (model pw w) (ktrTop dp un gd cn cs L a ccd cl outer) (call (.ref 298) [its, tgs]) Q E ⟨h, gs, d, tk, os⟩ := call_cls2 B F X N T hk hd hu ret
theorem f_bui {nm fn gp : Value} (B : Below A₀ base outer h₀) (F : Fr h₀ L h m) (X : (frag w.params).In h₀) (N : News h₀ L h news) (T : Top p loose mean mg mb h₀) (hk : cs.kind = .function) (hd : dp + 20 < recursionLimit) (hu : un + 400 < cLine)
    (ret : ∀ (x dx : Addr) (h' : Heap) (tk' : Nat) (t1 t2 t3 t4 t5 t6 t7 : Tok), Fr h₀ L h' m → News h₀ L h' ((x, instObj 319 dx) :: (dx, dictOf [ent w "kind" t1 (.str (Str.ofString "builtin") t2), ent w "name" t3 nm, ent w "special" t4 (.bool false), ent w "fn" t5 fn, ent w "group" t6 gp, ent w "attrs" t7 .none] 6) :: news) → (∀ q ∈ news, q.1 < dx) → @LT.lt Nat _ dx x → Q (.ref x) ⟨h', gs, d, tk', os⟩) :
    wpAny (model pw w) (ktrTop dp un gd cn cs L a ccd cl outer) (call (.ref 319) [nm, .bool false, fn, gp]) Q E ⟨h, gs, d, tk, os⟩ := bui_cls B F X N T hk hd hu ret
end
/-! a comprehension whose turns keep the ledger -/
theorem rest_ind {prog : Program} {w : World} {A : Around} {s : Shared} {h₀ : Heap} {L : Addr} {m : Str → Option Value} {env : Env} {elt : PySem.Expr} {x : Str} {scope : Scope} {cl : List (Str × Addr)} {S : List (Addr × Obj) → Prop} {P : Nat → Value → Prop} {Fin : List Value → List (Addr × Obj) → Prop} {news : List (Addr × Obj)} {n : Nat}
    (Z : ∀ ys, ys.length = n → Fin ys news)
    (step : ∀ i ys v I oI C oC D m₂ h tk (E' : Value → Shared → Prop) (R : Value → List (Addr × Obj) → Prop), P i v → LCg.NsObj oC m₂ → m₂ x = some v → Fr h₀ L h m → News h₀ L h ((I, oI) :: (C, oC) :: (D, LCg.lst ys) :: news) → LCg.Off3 I C D news → ((@Ne Nat I C) ∧ (@Ne Nat I D) ∧ (@Ne Nat C D)) → (∀ y, R y news) →
      wpAny (model prog w) A (eval elt (compEnvC scope cl C env)) (LCg.CompEnd h₀ L m { s with heap := h, toks := tk } I oI C oC D (LCg.lst ys) S R) E' { s with heap := h, toks := tk }) :
    ∀ k i ys, ys.length = i → i + k = n → LCg.CompRest prog w A h₀ L m env elt x scope cl s S P Fin k i ys news
  | 0, i, ys, e1, e2 => LCg.CompRest.zero (Z ys (by omega))
  | k + 1, i, ys, e1, e2 => LCg.CompRest.succ fun v I oI C oC D m₂ h tk E' a b c F N o ne =>
      step i ys v I oI C oC D m₂ h tk E' _ a b c F N o ne fun y => rest_ind Z step k (i + 1) (ys ++ [y]) (by rw [List.length_append, List.length_singleton, e1]) (by omega)
section
variable {prog : Program} {w : World} {A : Around} {E : Value → Shared → Prop} {h₀ : Heap} {L : Addr} {m : Str → Option Value} {news : List (Addr × Obj)} {h : Heap} {gs : Array GenState} {d : Drawn} {tk : Nat} {os : OsState} {Q : Value → Shared → Prop}
theorem f_cat {a b : Addr} {vs ws : List Value} {n c : Nat} (F : Fr h₀ L h m) (N : News h₀ L h news) (ha : (a, listOf vs.toArray n) ∈ news) (hb : (b, listOf ws.toArray c) ∈ news) (hz : Nat.ble (vs.length + ws.length) 2000 = true)
    (H : ∀ D h', Fr h₀ L h' m → News h₀ L h' ((D, listOf (vs ++ ws).toArray 0) :: news) → (∀ p ∈ news, p.1 < D) → Q (.ref D) ⟨h', gs, d, tk, os⟩) : wpAny (model prog w) A (binaryOp .Add (.ref a) (.ref b)) Q E ⟨h, gs, d, tk, os⟩ :=
  add_lists F N (N.isList ha) (N.isList hb) (fun h' F' N' => H _ h' F' N' fun p hp => Heap.lt_size (N p hp).1) (by have := Nat.le_of_ble_eq_true hz; rw [sizeLine_eq]; omega)
theorem f_mul {a : Addr} {v : Value} {n : Nat} {x : Int} {u : Tok} (F : Fr h₀ L h m) (N : News h₀ L h news) (ha : (a, listOf [v].toArray n) ∈ news) (h0 : 0 ≤ x) (h1 : x < 2000)
    (H : ∀ D ws h', ((ws.length : Nat) : Int) = x → Fr h₀ L h' m → News h₀ L h' ((D, listOf (ws : List Value).toArray 0) :: news) → (∀ p ∈ news, p.1 < D) → Q (.ref D) ⟨h', gs, d, tk, os⟩) : wpAny (model prog w) A (binaryOp .Mult (.ref a) (.int x u)) Q E ⟨h, gs, d, tk, os⟩ :=
  mul_list F N (N _ ha).1 (by omega) (by omega) (by simp only [List.size_toArray, List.length_singleton]; omega) (fun h' F' N' => H _ (List.replicate x.toNat v) h' (by rw [List.length_replicate]; omega) F' (by
    have e : ∀ (k : Nat) (acc : Array Value), List.foldl (fun x1 x2 => x1 ++ x2) acc (List.replicate k [v].toArray) = acc ++ (List.replicate k v).toArray := by
      intro k
      induction k with
      | zero => intro acc; simp
      | succ k ih => intro acc; rw [List.replicate_succ, List.foldl_cons, ih, List.replicate_succ]; apply Array.ext'; simp
    have q := e x.toNat #[]
    rw [Array.empty_append] at q
    show News h₀ L h' ((_, listOf (List.replicate x.toNat v).toArray 0) :: news)
    rw [← q]; exact N') fun p hp => Heap.lt_size (N p hp).1)
theorem f_item {value slice : PySem.Expr} {l : Addr} {vs : List Value} {n : Nat} {k : Int} {u : Tok} (N : News h₀ L h news) (hm : (l, listOf vs.toArray n) ∈ news) (h0 : 0 ≤ k) (h1 : k < (vs.length : Int)) (hfit : vs.length ≤ 1000)
    (hs : subscripted slice false (.ref l) (.int k u) = operate [.ref l, .int k u] (getItem (.ref l) (.int k u)))
    (H : ∀ v, vs[k.toNat]? = some v → Q v ⟨h, gs, d, tk, os⟩) : wpAny (model prog w) A (subscriptTail value slice (.ref l) (.int k u)) Q E ⟨h, gs, d, tk, os⟩ := by
  have hk : k.toNat < vs.length := by omega
  exact item_litK (N.isList hm) h0 (by omega) (List.getElem?_eq_getElem hk) (H _ (List.getElem?_eq_getElem hk)) hs
end
theorem news7 {h₀ h : Heap} {L : Addr} {news : List (Addr × Obj)} {a b c d e f g : Addr × Obj} (N : News h₀ L h news) (ha : a ∈ news) (hb : b ∈ news) (hc : c ∈ news) (hd : d ∈ news) (he : e ∈ news) (hf : f ∈ news) (hg : g ∈ news) : News h₀ L h [a, b, c, d, e, f, g] := fun q hq => by
  simp only [List.mem_cons, List.not_mem_nil, or_false] at hq
  rcases hq with rfl | rfl | rfl | rfl | rfl | rfl | rfl <;> exact N _ (by assumption)
/-! a comprehension by what holds between its turns -/
section
variable {prog : Program} {w : World} {A : Around} {s : Shared} {h₀ : Heap} {L : Addr} {m : Str → Option Value} {env : Env} {elt : PySem.Expr} {x x₂ : Str} {scope : Scope} {cl : List (Str × Addr)} {S : List (Addr × Obj) → Prop} {P : Nat → Value → Prop} {Fin : List Value → List (Addr × Obj) → Prop} {n : Nat} {Inv : Nat → List Value → List (Addr × Obj) → Prop}
theorem rest_inv
    (Z : ∀ ys news, Inv n ys news → Fin ys news)
    (step : ∀ i ys news v I oI C oC D m₂ h tk (E' : Value → Shared → Prop) (R : Value → List (Addr × Obj) → Prop), i < n → Inv i ys news → P i v → LCg.NsObj oC m₂ → m₂ x = some v → Fr h₀ L h m → News h₀ L h ((I, oI) :: (C, oC) :: (D, LCg.lst ys) :: news) → LCg.Off3 I C D news → ((@Ne Nat I C) ∧ (@Ne Nat I D) ∧ (@Ne Nat C D)) → (∀ y news', Inv (i + 1) (ys ++ [y]) news' → R y news') →
      wpAny (model prog w) A (eval elt (compEnvC scope cl C env)) (LCg.CompEnd h₀ L m { s with heap := h, toks := tk } I oI C oC D (LCg.lst ys) S R) E' { s with heap := h, toks := tk }) :
    ∀ k i ys news, Inv i ys news → i + k = n → LCg.CompRest prog w A h₀ L m env elt x scope cl s S P Fin k i ys news
  | 0, i, ys, news, e1, e2 => LCg.CompRest.zero (Z ys news ((show i = n by omega) ▸ e1))
  | k + 1, i, ys, news, e1, e2 => LCg.CompRest.succ fun v I oI C oC D m₂ h tk E' a b c F N o ne =>
      step i ys news v I oI C oC D m₂ h tk E' _ (by omega) e1 a b c F N o ne fun y news' e' => rest_inv Z step k (i + 1) (ys ++ [y]) news' e' (by omega)
theorem rest_invP
    (Z : ∀ ys news, Inv n ys news → Fin ys news)
    (step : ∀ i ys news v, i < n → Inv i ys news → P i v → ∃ (t : Addr) (ot : Obj) (v₁ v₂ : Value) (nt : Nat), v = .ref t ∧ (t, ot) ∈ news ∧ ot.cls = .type "tuple" ∧ ot.data = .seq #[v₁, v₂] nt ∧
      ∀ I oI C oC D m₂ h tk (E' : Value → Shared → Prop) (R : Value → List (Addr × Obj) → Prop), LCg.NsObj oC m₂ → m₂ x = some v₁ → m₂ x₂ = some v₂ → Fr h₀ L h m → News h₀ L h ((I, oI) :: (C, oC) :: (D, LCg.lst ys) :: news) → LCg.Off3 I C D news → ((@Ne Nat I C) ∧ (@Ne Nat I D) ∧ (@Ne Nat C D)) → (∀ y news', Inv (i + 1) (ys ++ [y]) news' → R y news') →
      wpAny (model prog w) A (eval elt (compEnvC scope cl C env)) (LCg.CompEnd h₀ L m { s with heap := h, toks := tk } I oI C oC D (LCg.lst ys) S R) E' { s with heap := h, toks := tk }) :
    ∀ k i ys news, Inv i ys news → i + k = n → LCp.CompRestP prog w A h₀ L m env elt x x₂ scope cl s S P Fin k i ys news
  | 0, i, ys, news, e1, e2 => LCp.CompRestP.zero (Z ys news ((show i = n by omega) ▸ e1))
  | k + 1, i, ys, news, e1, e2 => LCp.CompRestP.succ fun v a => by
      obtain ⟨t, ot, v₁, v₂, nt, q1, q2, q3, q4, H⟩ := step i ys news v (by omega) e1 a
      exact ⟨t, ot, v₁, v₂, nt, q1, q2, q3, q4, fun I oI C oC D m₂ h tk E' a1 a2 a3 F N o ne => H I oI C oC D m₂ h tk E' _ a1 a2 a3 F N o ne fun y news' e' => rest_invP Z step k (i + 1) (ys ++ [y]) news' e' (by omega)⟩
end
theorem Two.tail {a b : Addr} {o1 o2 : Obj} : ∀ {r : List (Addr × Obj)}, (∀ q ∈ r, q.1 ≠ a) → (∀ q ∈ r, q.1 ≠ b) → Two a b o1 o2 r (fun _ _ => r)
  | [], _, _ => .nil
  | _ :: _, h1, h2 => .off (h1 _ (.head _)) (h2 _ (.head _)) (Two.tail (fun q hq => h1 q (.tail _ hq)) fun q hq => h2 q (.tail _ hq))
/-! a row: a pair of a tag and a vector of one int -/
noncomputable def isTag : Value → Bool
  | .none => true
  | .str x _ => PyData.strOk x
  | _ => false
theorem tag_get {vs : List Value} {k : Nat} {v : Value} (h : vs.all isTag = true) (e : vs[k]? = some v) : isTag v = true := by
  have : v ∈ vs := List.mem_of_getElem? e
  exact List.all_eq_true.mp h _ this
noncomputable def RowOk (w : World) (news : List (Addr × Obj)) (y : Value) : Prop :=
  ∃ (p x d li : Addr) (v : Value) (a : Int) (ta t1 t2 t3 t4 t5 t6 : Tok) (b : Bool), y = .ref p ∧ isTag v = true ∧ (p, tupOf [v, .ref x]) ∈ news ∧ (x, instObj 255 d) ∈ news ∧
    (d, dictOf [ent w "kind" t1 (.str (Str.ofString "integer") t2), ent w "items" t3 (.ref li), ent w "attrs" t4 .none, ent w "shared" t5 (.bool b), ent w "loose" t6 (.bool false)] 5) ∈ news ∧ (li, listOf [.int a ta].toArray 0) ∈ news
theorem RowOk.mono {w : World} {news news' : List (Addr × Obj)} {y : Value} (h : RowOk w news y) (s : ∀ q ∈ news, q ∈ news') : RowOk w news' y := by
  obtain ⟨p, x, d, li, v, a, ta, t1, t2, t3, t4, t5, t6, b, e, e', h1, h2, h3, h4⟩ := h
  exact ⟨p, x, d, li, v, a, ta, t1, t2, t3, t4, t5, t6, b, e, e', s _ h1, s _ h2, s _ h3, s _ h4⟩
theorem ns_get {vs : List Value} {k : Nat} {v : Value} (h : vs.all isNS = true) (e : vs[k]? = some v) : isNS v = true := by
  have : v ∈ vs := List.mem_of_getElem? e
  exact List.all_eq_true.mp h _ this
noncomputable def RowsInv (w : World) (src l L : Addr) (oM oS : Obj) (i : Nat) (ys : List Value) (news : List (Addr × Obj)) : Prop :=
  ys.length = i ∧ ∃ (x y : Int) (tx ty : Tok) (n k : Nat) (us : List Value) (ns : List Int) (rest : List (Addr × Obj)), news = (src, listOf #[.ref l, .int x tx, .int y ty] n) :: (l, listOf us.toArray k) :: (L + 2, oM) :: (L + 1, oS) :: rest ∧ (∀ q ∈ rest, q.1 ≠ src) ∧ (∀ q ∈ rest, q.1 ≠ l) ∧ IntsAre us ns ∧ us.length ≤ 63 ∧ 0 ≤ y ∧ y < 2147483563 ∧ ∀ v ∈ ys, RowOk w rest v
theorem row_end {w : World} {h₀ h' : Heap} {L I C D src l p x d li l4 : Addr} {m : Str → Option Value} {s₁ : Shared} {oI oC o4 oM oS : Obj} {ys : List Value} {v : Value} {a : Int} {ta t1 t2 t3 t4 t5 t6 : Tok} {x0 y0 : Int} {tx ty : Tok} {n k i : Nat} {us : List Value} {ns : List Int} {rest : List (Addr × Obj)} {R : Value → List (Addr × Obj) → Prop} {tk : Nat} {gs : Array GenState} {dr : Drawn} {os : OsState}
    (e1 : s₁.gens = gs) (e2 : s₁.drawn = dr) (e3 : s₁.os = os)
    (F : Fr h₀ L h' m) (N : News h₀ L h' ((p, tupOf [v, .ref x]) :: (x, instObj 255 d) :: (d, dictOf [ent w "kind" t1 (.str (Str.ofString "integer") t2), ent w "items" t3 (.ref li), ent w "attrs" t4 .none, ent w "shared" t5 (.bool false), ent w "loose" t6 (.bool false)] 5) :: (li, listOf [.int a ta].toArray 0) :: (l4, o4) :: (I, oI) :: (C, oC) :: (D, LCg.lst ys) :: (src, listOf #[.ref l, .int x0 tx, .int y0 ty] n) :: (l, listOf us.toArray k) :: (L + 2, oM) :: (L + 1, oS) :: rest)) (hv : isTag v = true)
    (b1 : ∀ q ∈ (l4, o4) :: (I, oI) :: (C, oC) :: (D, LCg.lst ys) :: (src, listOf #[.ref l, .int x0 tx, .int y0 ty] n) :: (l, listOf us.toArray k) :: (L + 2, oM) :: (L + 1, oS) :: rest, q.1 < li) (b2 : @LT.lt Nat _ li d) (b3 : @LT.lt Nat _ d x) (b4 : @LT.lt Nat _ x p)
    (off : LCg.Off3 I C D ((src, listOf #[.ref l, .int x0 tx, .int y0 ty] n) :: (l, listOf us.toArray k) :: (L + 2, oM) :: (L + 1, oS) :: rest))
    (hl : ys.length = i) (r1 : ∀ q ∈ rest, q.1 ≠ src) (r2 : ∀ q ∈ rest, q.1 ≠ l) (hi : IntsAre us ns) (hz : us.length ≤ 63) (y1 : 0 ≤ y0) (y2 : y0 < 2147483563) (hr : ∀ v ∈ ys, RowOk w rest v)
    (hR : ∀ y news', RowsInv w src l L oM oS (i + 1) (ys ++ [y]) news' → R y news') :
    LCg.CompEnd h₀ L m s₁ I oI C oC D (LCg.lst ys) (fun _ => True) R (.ref p) ⟨h', gs, dr, tk, os⟩ := by
  subst e1 e2 e3
  have cI : @LT.lt Nat _ I li := b1 _ (.tail _ (.head _))
  have cC : @LT.lt Nat _ C li := b1 _ (.tail _ (.tail _ (.head _)))
  have cD : @LT.lt Nat _ D li := b1 _ (.tail _ (.tail _ (.tail _ (.head _))))
  have cS : @LT.lt Nat _ src li := b1 _ (.tail _ (.tail _ (.tail _ (.tail _ (.head _)))))
  have cl : @LT.lt Nat _ l li := b1 _ (.tail _ (.tail _ (.tail _ (.tail _ (.tail _ (.head _))))))
  refine LCg.CompEnd.intro F N ((src, listOf #[.ref l, .int x0 tx, .int y0 ty] n) :: (l, listOf us.toArray k) :: (L + 2, oM) :: (L + 1, oS) :: ((p, tupOf [v, .ref x]) :: (x, instObj 255 d) :: (d, dictOf [ent w "kind" t1 (.str (Str.ofString "integer") t2), ent w "items" t3 (.ref li), ent w "attrs" t4 .none, ent w "shared" t5 (.bool false), ent w "loose" t6 (.bool false)] 5) :: (li, listOf [.int a ta].toArray 0) :: rest)) ?_ ?_ trivial (hR _ _ ⟨?_, x0, y0, tx, ty, n, k, us, ns, _, rfl, ?_, ?_, hi, hz, y1, y2, ?_⟩)
  · intro q hq
    simp only [List.mem_cons] at hq ⊢
    rcases hq with h | h | h | h | h | h | h | h | h | h | h | h <;> simp [h]
  · obtain ⟨o1, o2, o3, o4, o5⟩ := off
    exact ⟨o1, o2, o3, o4, ⟨by show @Ne Nat p I; omega, by show @Ne Nat p C; omega, by show @Ne Nat p D; omega⟩, ⟨by show @Ne Nat x I; omega, by show @Ne Nat x C; omega, by show @Ne Nat x D; omega⟩, ⟨by show @Ne Nat d I; omega, by show @Ne Nat d C; omega, by show @Ne Nat d D; omega⟩, ⟨by show @Ne Nat li I; omega, by show @Ne Nat li C; omega, by show @Ne Nat li D; omega⟩, o5⟩
  · rw [List.length_append, List.length_singleton, hl]
  · intro q hq
    simp only [List.mem_cons] at hq
    rcases hq with h | h | h | h | h
    · subst h; show @Ne Nat p src; omega
    · subst h; show @Ne Nat x src; omega
    · subst h; show @Ne Nat d src; omega
    · subst h; show @Ne Nat li src; omega
    · exact r1 q h
  · intro q hq
    simp only [List.mem_cons] at hq
    rcases hq with h | h | h | h | h
    · subst h; show @Ne Nat p l; omega
    · subst h; show @Ne Nat x l; omega
    · subst h; show @Ne Nat d l; omega
    · subst h; show @Ne Nat li l; omega
    · exact r2 q h
  · intro z hz'
    rcases List.mem_append.mp hz' with h | h
    · exact (hr z h).mono fun q hq => .tail _ (.tail _ (.tail _ (.tail _ hq)))
    · rw [List.mem_singleton.mp h]
      exact ⟨p, x, d, li, v, a, ta, t1, t2, t3, t4, t5, t6, false, rfl, hv, .head _, .tail _ (.head _), .tail _ (.tail _ (.head _)), .tail _ (.tail _ (.tail _ (.head _)))⟩
section
variable {prog : Program} {w : World} {A : Around} {E : Value → Shared → Prop} {h₀ : Heap} {L : Addr} {news : List (Addr × Obj)} {h : Heap} {gs : Array GenState} {d : Drawn} {tk : Nat} {os : OsState} {Q : Value → Shared → Prop}
theorem f_item_at {value slice : PySem.Expr} {l : Addr} {vs : List Value} {n : Nat} {k : Int} {u : Tok} {v : Value} (N : News h₀ L h news) (hm : (l, listOf vs.toArray n) ∈ news) (h0 : 0 ≤ k) (h1 : k < 1000)
    (hs : subscripted slice false (.ref l) (.int k u) = operate [.ref l, .int k u] (getItem (.ref l) (.int k u))) (he : vs[k.toNat]? = some v)
    (H : Q v ⟨h, gs, d, tk, os⟩) : wpAny (model prog w) A (subscriptTail value slice (.ref l) (.int k u)) Q E ⟨h, gs, d, tk, os⟩ :=
  item_litK (N.isList hm) h0 (by omega) he H hs
end
/-! the rows: pairs of a tag and a vector -/
structure Dt where
  v : Value
  x : Addr
  li : Addr
  a : Int
noncomputable abbrev intD (w : World) (li : Addr) (b : Bool) (t1 t2 t3 t4 t5 t6 : Tok) : Obj := dictOf [ent w "kind" t1 (.str (Str.ofString "integer") t2), ent w "items" t3 (.ref li), ent w "attrs" t4 .none, ent w "shared" t5 (.bool b), ent w "loose" t6 (.bool false)] 5
noncomputable def IntD (w : World) (o : Obj) : Prop := ∃ li b t1 t2 t3 t4 t5 t6, o = intD w li b t1 t2 t3 t4 t5 t6
noncomputable def VecAt (w : World) (news : List (Addr × Obj)) (t : Dt) : Prop :=
  isTag t.v = true ∧ ∃ (d : Addr) (ta t1 t2 t3 t4 t5 t6 : Tok) (b : Bool), (t.x, instObj 255 d) ∈ news ∧ (d, intD w t.li b t1 t2 t3 t4 t5 t6) ∈ news ∧ (t.li, listOf [.int t.a ta].toArray 0) ∈ news
noncomputable def PairAt (f : Dt → Value) (news : List (Addr × Obj)) (y : Value) (t : Dt) : Prop := ∃ p, y = .ref p ∧ (p, tupOf [t.v, f t]) ∈ news
noncomputable def PairsAre (f : Dt → Value) (news : List (Addr × Obj)) : List Value → List Dt → Prop
  | [], [] => True
  | y :: ys, t :: ts => PairAt f news y t ∧ PairsAre f news ys ts
  | _, _ => False
noncomputable def Kept (w : World) (news news' : List (Addr × Obj)) : Prop := ∀ q ∈ news, ¬ IntD w q.2 → q ∈ news'
theorem Kept.refl {w : World} {news : List (Addr × Obj)} : Kept w news news := fun _ h _ => h
theorem Kept.trans {w : World} {a b c : List (Addr × Obj)} (h : Kept w a b) (g : Kept w b c) : Kept w a c := fun q hq n => g q (h q hq n) n
theorem Kept.of {w : World} {a b : List (Addr × Obj)} (h : ∀ q ∈ a, q ∈ b) : Kept w a b := fun q hq _ => h q hq
theorem IntD.cls {w : World} {o : Obj} (h : IntD w o) : o.cls = .type "dict" := by obtain ⟨li, b, t1, t2, t3, t4, t5, t6, rfl⟩ := h; rfl
theorem no_list {w : World} {vs : List Value} {n : Nat} : ¬ IntD w (listOf vs.toArray n) := fun h => by have := h.cls; exact absurd this (by simp)
theorem no_tup {w : World} {vs : List Value} : ¬ IntD w (tupOf vs) := fun h => by have := h.cls; exact absurd this (by simp)
theorem no_inst {w : World} {C d : Addr} : ¬ IntD w (instObj C d) := fun h => by have := h.cls; exact absurd this (by simp)
theorem no_cell {w : World} {o : Obj} {v : Option Value} (e : o.data = .cell v) : ¬ IntD w o := fun h => by obtain ⟨li, b, t1, t2, t3, t4, t5, t6, rfl⟩ := h; cases e
theorem PairAt.kept {f : Dt → Value} {w : World} {news news' : List (Addr × Obj)} {y : Value} {t : Dt} (h : PairAt f news y t) (k : Kept w news news') : PairAt f news' y t := by
  obtain ⟨p, e, m⟩ := h; exact ⟨p, e, k _ m no_tup⟩
theorem PairsAre.kept {f : Dt → Value} {w : World} {news news' : List (Addr × Obj)} (k : Kept w news news') : ∀ {ys : List Value} {ts : List Dt}, PairsAre f news ys ts → PairsAre f news' ys ts
  | [], [], _ => trivial
  | _ :: _, _ :: _, h => ⟨h.1.kept k, PairsAre.kept k h.2⟩
  | [], _ :: _, h => h.elim
  | _ :: _, [], h => h.elim
theorem PairsAre.len {f : Dt → Value} {news : List (Addr × Obj)} : ∀ {ys : List Value} {ts : List Dt}, PairsAre f news ys ts → ys.length = ts.length
  | [], [], _ => rfl
  | _ :: _, _ :: _, h => by rw [List.length_cons, List.length_cons, PairsAre.len h.2]
  | [], _ :: _, h => h.elim
  | _ :: _, [], h => h.elim
theorem PairsAre.get {f : Dt → Value} {news : List (Addr × Obj)} : ∀ {ys : List Value} {ts : List Dt} {i : Nat} {y : Value}, PairsAre f news ys ts → ys[i]? = some y → ∃ t, ts[i]? = some t ∧ PairAt f news y t
  | [], [], _, _, _, e => by simp at e
  | _ :: _, t :: _, 0, _, h, e => by
    simp only [List.getElem?_cons_zero, Option.some.injEq] at e
    exact ⟨t, by simp, e ▸ h.1⟩
  | _ :: _, _ :: _, i + 1, _, h, e => by
    simp only [List.getElem?_cons_succ] at e ⊢
    exact PairsAre.get h.2 e
  | [], _ :: _, _, _, h, _ => h.elim
  | _ :: _, [], _, _, h, _ => h.elim
theorem PairsAre.snoc {f : Dt → Value} {news : List (Addr × Obj)} : ∀ {ys : List Value} {ts : List Dt} {y : Value} {t : Dt}, PairsAre f news ys ts → PairAt f news y t → PairsAre f news (ys ++ [y]) (ts ++ [t])
  | [], [], _, _, _, g => ⟨g, trivial⟩
  | _ :: _, _ :: _, _, _, h, g => ⟨h.1, PairsAre.snoc h.2 g⟩
  | [], _ :: _, _, _, h, _ => h.elim
  | _ :: _, [], _, _, h, _ => h.elim
theorem take_snoc {α : Type} : ∀ {l : List α} {i : Nat} {t : α}, l[i]? = some t → l.take (i + 1) = l.take i ++ [t]
  | [], _, _, e => by simp at e
  | a :: l, 0, t, e => by simp at e; simp [e]
  | a :: l, i + 1, t, e => by
    simp only [List.getElem?_cons_succ] at e
    rw [List.take_succ_cons, List.take_succ_cons, take_snoc e, List.cons_append]
theorem rows_dt {w : World} {news : List (Addr × Obj)} : ∀ {ys : List Value}, (∀ y ∈ ys, RowOk w news y) → ∃ ts : List Dt, PairsAre (fun t => .ref t.x) news ys ts ∧ ∀ t ∈ ts, VecAt w news t
  | [], _ => ⟨[], trivial, fun _ h => nomatch h⟩
  | y :: ys, h => by
    obtain ⟨ts, h1, h2⟩ := rows_dt (fun z hz => h z (.tail _ hz))
    obtain ⟨p, x, d, li, v, a, ta, t1, t2, t3, t4, t5, t6, b, e, e', g1, g2, g3, g4⟩ := h y (.head _)
    refine ⟨⟨v, x, li, a⟩ :: ts, ⟨⟨p, e, g1⟩, h1⟩, fun t ht => ?_⟩
    rcases List.mem_cons.mp ht with rfl | ht
    · exact ⟨e', d, ta, t1, t2, t3, t4, t5, t6, b, g2, g3, g4⟩
    · exact h2 t ht
theorem news_fn {h₀ h : Heap} {L a : Addr} {o o' : Obj} {news : List (Addr × Obj)} (N : News h₀ L h news) (h1 : (a, o) ∈ news) (h2 : (a, o') ∈ news) : o = o' := Option.some.inj ((N _ h1).1.symm.trans (N _ h2).1)
/-- the ledger after a change at one address -/
noncomputable def updL (c : Addr) (o : Obj) (news : List (Addr × Obj)) : List (Addr × Obj) := (c, o) :: news.filter (fun q => decide (q.1 ≠ c))
theorem mem_updL {c : Addr} {o : Obj} {news : List (Addr × Obj)} {q : Addr × Obj} (h : q ∈ news) (n : q.1 ≠ c) : q ∈ updL c o news := .tail _ (List.mem_filter.mpr ⟨h, by simpa using n⟩)
theorem updL_keeps {w : World} {h₀ h : Heap} {L c : Addr} {o o' : Obj} {news : List (Addr × Obj)} (N : News h₀ L h news) (hc : (c, o) ∈ news) (hi : IntD w o) : Kept w news (updL c o' news) := fun q hq n => mem_updL hq fun e => by
  obtain ⟨a, oa⟩ := q
  subst e
  exact n (news_fn N hc hq ▸ hi)
theorem VecAt.mono {w : World} {news news' : List (Addr × Obj)} {t : Dt} (h : VecAt w news t) (s : ∀ q ∈ news, q ∈ news') : VecAt w news' t := by
  obtain ⟨e, d, ta, t1, t2, t3, t4, t5, t6, b, g1, g2, g3⟩ := h
  exact ⟨e, d, ta, t1, t2, t3, t4, t5, t6, b, s _ g1, s _ g2, s _ g3⟩
theorem VecAt.upd {w : World} {h₀ h : Heap} {L c : Addr} {news : List (Addr × Obj)} {t : Dt} {li : Addr} {b : Bool} {t1 t2 t3 t4 t5 t6 : Tok} (N : News h₀ L h news) (hc : (c, intD w li b t1 t2 t3 t4 t5 t6) ∈ news) (h : VecAt w news t) :
    VecAt w (updL c (intD w li true t1 t2 t3 t4 t5 t6) news) t := by
  have K : Kept w news (updL c (intD w li true t1 t2 t3 t4 t5 t6) news) := updL_keeps N hc ⟨li, b, t1, t2, t3, t4, t5, t6, rfl⟩
  obtain ⟨e, d, ta, s1, s2, s3, s4, s5, s6, b', g1, g2, g3⟩ := h
  by_cases hd : d = c
  · subst hd
    have q : intD w li b t1 t2 t3 t4 t5 t6 = intD w t.li b' s1 s2 s3 s4 s5 s6 := news_fn N hc g2
    have q1 : li = t.li := congrArg (fun o : Obj => match o.data with | .dict es _ => (match es.toList with | _ :: e :: _ => (match e.val with | .ref a => a | _ => 0) | _ => 0) | _ => 0) q
    subst q1
    exact ⟨e, d, ta, t1, t2, t3, t4, t5, t6, true, K _ g1 no_inst, .head _, K _ g3 no_list⟩
  · exact ⟨e, d, ta, s1, s2, s3, s4, s5, s6, b', K _ g1 no_inst, mem_updL g2 hd, K _ g3 no_list⟩
theorem news_upd {h₀ h : Heap} {L c : Addr} {o : Obj} {news : List (Addr × Obj)} (N : News h₀ L h news) (hc : (c, o) ∈ news) : News h₀ L h (updL c o news) := fun q hq => by
  rcases List.mem_cons.mp hq with rfl | hq
  · exact N _ hc
  · exact N _ (List.mem_filter.mp hq).1
theorem filter_off {c : Addr} {news : List (Addr × Obj)} : ∀ q ∈ news.filter (fun q => decide (q.1 ≠ c)), q.1 ≠ c := fun q hq => by simpa using (List.mem_filter.mp hq).2
section
variable {prog : Program} {w : World} {M : Model} {A : Around} {E : Value → Shared → Prop} {h₀ : Heap} {L a : Addr} {m : Str → Option Value} {cn : Str} {cs : Scope} {ccd : Value} {cl : List (Str × Addr)} {news : List (Addr × Obj)} {h : Heap} {gs : Array GenState} {d : Drawn} {tk : Nat} {os : OsState}
theorem f_setG {K : Frag} {x dx C : Addr} {es es' : List DictEntry} {n n' : Nat} {name : Str} {v : Value} {Q : Unit → Shared → Prop} (F : Fr h₀ L h m) (X₀ : K.In h₀) (N : News h₀ L h news) (h1 : (x, instObj C dx) ∈ news) (h2 : (dx, dictOf es n) ∈ news)
    (hs : findIn K (.ref C) "__setattr__" = some (some (.builtin "object.__setattr__"))) (hp : plainOver K C = true) (ht : takerIn K C name = some none) (hh : hasDictIn K C = true) (hl : (getL name es).isSome = true)
    (e : (putL name (PyData.keyHash w.params name) (.str name (tk + 1)) v es, putN name es n) = (es', n')) (hz : es'.length ≤ 1000)
    (H : ∀ h' tk', Fr h₀ L h' m → News h₀ L h' (updL dx (dictOf es' n') news) → Q () ⟨h', gs, d, tk', os⟩) : wpAny (model prog w) A (setAttr (.ref x) name v) Q E ⟨h, gs, d, tk, os⟩ :=
  f_set F X₀ (news_upd N h2) (mem_updL h1 fun q => by
    have q' : x = dx := q
    subst q'
    have := congrArg Obj.cls (news_fn N h1 h2)
    exact absurd this (by simp)) (.head _) hs hp ht hh hl e (Upd.head filter_off) hz H
theorem f_storeC {x : Str} {v : Value} {c : Addr} {o : Obj} {v₀ : Option Value} {Q : Unit → Shared → Prop} (F : Fr h₀ L h m) (N : News h₀ L h news) (hc : cl.lookup x = some c) (hm : (c, o) ∈ news) (hd : o.data = .cell v₀)
    (H : ∀ h' o', Fr h₀ L h' m → News h₀ L h' (updL c o' news) → o'.data = .cell (some v) → Q () ⟨h', gs, d, tk, os⟩)
    (hk : cs.kind = .function) (hx : (envX cn cs L a ccd cl).kindOf x = some .cell) : wpAny M A (storeName (envX cn cs L a ccd cl) x v) Q E ⟨h, gs, d, tk, os⟩ :=
  storeX_C F (news_upd N hm) hc (UpdF.head filter_off) hd H hk hx
end
/-! comprehensions over pairs whose element is a plain reading -/
theorem pairs_pure {prog : Program} {w : World} {A : Around} {s : Shared} {h₀ : Heap} {L ax : Addr} {m : Str → Option Value} {env : Env} {elt : PySem.Expr} {x x₂ : Str} {scope : Scope} {cl : List (Str × Addr)} {Fin : List Value → List (Addr × Obj) → Prop} {news : List (Addr × Obj)} {zs : List Value} {ts : List Dt} {c : Nat} {g f : Dt → Value}
    (hp : PairsAre g news zs ts) (hm : (ax, listOf zs.toArray c) ∈ news)
    (elt_ : ∀ (t : Dt) C oC m₂ h tk (E' : Value → Shared → Prop) (Q : Value → Shared → Prop) nw, LCg.NsObj oC m₂ → m₂ x = some t.v → m₂ x₂ = some (g t) → Fr h₀ L h m → News h₀ L h nw → (C, oC) ∈ nw → (∀ tk', Q (f t) { s with heap := h, toks := tk' }) → wpAny (model prog w) A (eval elt (compEnvC scope cl C env)) Q E' { s with heap := h, toks := tk })
    (Z : Fin (ts.map f) news) :
    LCp.CompRestP prog w A h₀ L m env elt x x₂ scope cl s (LCg.SrcAt h₀ ax zs.toArray) (fun i v => zs.toArray[i]? = some v) Fin zs.toArray.size 0 [] news := by
  have hl := hp.len
  refine rest_invP (n := zs.toArray.size) (Inv := fun i ys nw => nw = news ∧ ys = (ts.take i).map f) ?_ ?_ _ _ _ _ ⟨rfl, rfl⟩ (by omega)
  · rintro ys nw ⟨rfl, rfl⟩
    rw [List.size_toArray, hl, List.take_length]
    exact Z
  · rintro i ys nw v hi ⟨rfl, rfl⟩ hv
    rw [List.getElem?_toArray] at hv
    obtain ⟨t, ht, p, rfl, hq⟩ := hp.get hv
    refine ⟨p, _, t.v, g t, _, rfl, hq, rfl, rfl, ?_⟩
    intro I oI C oC D m₂ h tk E' R a1 a2 a3 F N off ne hR
    refine elt_ t C oC m₂ h tk E' _ _ a1 a2 a3 F N (.tail _ (.head _)) fun tk' => ?_
    exact LCg.CompEnd.intro (s₁ := { s with heap := h, toks := tk }) F N nw (fun q hq => hq) off (.inr ⟨_, hm, rfl, _, rfl⟩) (hR _ _ ⟨rfl, by rw [take_snoc ht, List.map_append]; rfl⟩)
theorem updL_sub {c : Addr} {o : Obj} {a b : List (Addr × Obj)} (s : ∀ q ∈ a, q ∈ b) : ∀ q ∈ updL c o a, q ∈ updL c o b := fun q hq => by
  rcases List.mem_cons.mp hq with rfl | hq
  · exact .head _
  · have := List.mem_filter.mp hq
    exact .tail _ (List.mem_filter.mpr ⟨s _ this.1, this.2⟩)
theorem pairs_share {prog : Program} {w : World} {A : Around} {s : Shared} {h₀ : Heap} {L ax : Addr} {m : Str → Option Value} {env : Env} {elt : PySem.Expr} {x x₂ : Str} {scope : Scope} {cl : List (Str × Addr)} {Fin : List Value → List (Addr × Obj) → Prop} {news : List (Addr × Obj)} {zs : List Value} {ts : List Dt} {c : Nat}
    (hp : PairsAre (fun t => .ref t.x) news zs ts) (hm : (ax, listOf zs.toArray c) ∈ news) (hv : ∀ t ∈ ts, VecAt w news t)
    (elt_ : ∀ (t : Dt) C oC m₂ h tk (E' : Value → Shared → Prop) (Q : Value → Shared → Prop) nw dx b t1 t2 t3 t4 t5 t6, LCg.NsObj oC m₂ → m₂ x = some t.v → m₂ x₂ = some (.ref t.x) → Fr h₀ L h m → News h₀ L h nw → (C, oC) ∈ nw → (t.x, instObj 255 dx) ∈ nw → (dx, intD w t.li b t1 t2 t3 t4 t5 t6) ∈ nw →
      (∀ p h' tk', Fr h₀ L h' m → News h₀ L h' ((p, tupOf [t.v, .ref t.x]) :: updL dx (intD w t.li true t1 t2 t3 t4 t5 t6) nw) → (∀ q ∈ updL dx (intD w t.li true t1 t2 t3 t4 t5 t6) nw, q.1 < p) → Q (.ref p) { s with heap := h', toks := tk' }) → wpAny (model prog w) A (eval elt (compEnvC scope cl C env)) Q E' { s with heap := h, toks := tk })
    (Z : ∀ acc nw, PairsAre (fun t => .ref t.x) nw acc ts → Kept w news nw → (∀ t ∈ ts, VecAt w nw t) → Fin acc nw) :
    LCp.CompRestP prog w A h₀ L m env elt x x₂ scope cl s (LCg.SrcAt h₀ ax zs.toArray) (fun i v => zs.toArray[i]? = some v) Fin zs.toArray.size 0 [] news := by
  have hl := hp.len
  refine rest_invP (n := zs.toArray.size) (Inv := fun i acc nw => PairsAre (fun t => .ref t.x) nw acc (ts.take i) ∧ Kept w news nw ∧ ∀ t ∈ ts, VecAt w nw t) ?_ ?_ _ _ _ _ ⟨by rw [List.take_zero]; trivial, Kept.refl, hv⟩ (by omega)
  · rintro acc nw ⟨g1, g2, g3⟩
    rw [List.size_toArray, hl, List.take_length] at g1
    exact Z acc nw g1 g2 g3
  · rintro i acc nw v hi ⟨g1, g2, g3⟩ hz
    rw [List.getElem?_toArray] at hz
    obtain ⟨t, ht, p0, rfl, hq⟩ := hp.get hz
    refine ⟨p0, _, t.v, .ref t.x, _, rfl, g2 _ hq no_tup, rfl, rfl, ?_⟩
    intro I oI C oC D m₂ h tk E' R a1 a2 a3 F N off ne hR
    have hVt := g3 t (List.mem_of_getElem? ht)
    obtain ⟨ev, dx, ta, t1, t2, t3, t4, t5, t6, b, k1, k2, k3⟩ := hVt
    have offm := off.mem
    have Nw : News h₀ L h nw := fun q hq => N q (.tail _ (.tail _ (.tail _ hq)))
    refine elt_ t C oC m₂ h tk E' _ _ dx b t1 t2 t3 t4 t5 t6 a1 a2 a3 F N (.tail _ (.head _)) (.tail _ (.tail _ (.tail _ k1))) (.tail _ (.tail _ (.tail _ k2))) fun p h' tk' F' N' lt => ?_
    have dI : dx ≠ I := (offm _ k2).1
    have dC : dx ≠ C := (offm _ k2).2.1
    have dD : dx ≠ D := (offm _ k2).2.2
    have mI : (I, oI) ∈ updL dx (intD w t.li true t1 t2 t3 t4 t5 t6) ((I, oI) :: (C, oC) :: (D, LCg.lst acc) :: nw) := mem_updL (.head _) (Ne.symm dI)
    have mC : (C, oC) ∈ updL dx (intD w t.li true t1 t2 t3 t4 t5 t6) ((I, oI) :: (C, oC) :: (D, LCg.lst acc) :: nw) := mem_updL (.tail _ (.head _)) (Ne.symm dC)
    have mD : (D, LCg.lst acc) ∈ updL dx (intD w t.li true t1 t2 t3 t4 t5 t6) ((I, oI) :: (C, oC) :: (D, LCg.lst acc) :: nw) := mem_updL (.tail _ (.tail _ (.head _))) (Ne.symm dD)
    have K1 : Kept w nw (updL dx (intD w t.li true t1 t2 t3 t4 t5 t6) nw) := updL_keeps Nw k2 ⟨_, _, _, _, _, _, _, _, rfl⟩
    have K2 : Kept w nw ((p, tupOf [t.v, .ref t.x]) :: updL dx (intD w t.li true t1 t2 t3 t4 t5 t6) nw) := fun q hq n => .tail _ (K1 q hq n)
    refine LCg.CompEnd.intro (s₁ := { s with heap := h, toks := tk }) F' N' ((p, tupOf [t.v, .ref t.x]) :: updL dx (intD w t.li true t1 t2 t3 t4 t5 t6) nw) ?_ ?_ (.inr ⟨_, K2 _ (g2 _ hm no_list) no_list, rfl, _, rfl⟩) (hR _ _ ⟨?_, g2.trans K2, fun t' ht' => ?_⟩)
    · intro q hq
      simp only [List.mem_cons] at hq
      rcases hq with rfl | rfl | rfl | rfl | hq
      · exact .tail _ mI
      · exact .tail _ mC
      · exact .tail _ mD
      · exact .head _
      · exact .tail _ (updL_sub (fun q hq => .tail _ (.tail _ (.tail _ hq))) q hq)
    · refine LCg.Off3.of fun q hq => ?_
      rcases List.mem_cons.mp hq with rfl | hq
      · exact ⟨Nat.ne_of_gt (lt _ mI), Nat.ne_of_gt (lt _ mC), Nat.ne_of_gt (lt _ mD)⟩
      · rcases List.mem_cons.mp hq with rfl | hq
        · exact ⟨dI, dC, dD⟩
        · exact offm q (List.mem_filter.mp hq).1
    · rw [take_snoc ht]
      exact (g1.kept K2).snoc ⟨p, rfl, .head _⟩
    · obtain ⟨e, d', ta', u1, u2, u3, u4, u5, u6, b', m1, m2, m3⟩ := (g3 t' ht').upd Nw k2
      exact ⟨e, d', ta', u1, u2, u3, u4, u5, u6, b', .tail _ m1, .tail _ m2, .tail _ m3⟩
theorem pick_tail {a : Value} {l : List Value} : kms_pick (a :: l).toArray.toList (some 1) none = l := by
  unfold kms_pick kms_lo kms_hi
  simp
theorem no_char {w : World} {li at' : Value} {t1 t2 t3 t4 t5 t6 : Tok} : ¬ IntD w (dictOf [ent w "kind" t1 (.str (Str.ofString "character") t2), ent w "items" t3 li, ent w "attrs" t4 at', ent w "shared" t5 (.bool false), ent w "loose" t6 (.bool false)] 5) := by
  rintro ⟨li', b, s1, s2, s3, s4, s5, s6, h⟩
  have q : Str.ofString "character" = Str.ofString "integer" := congrArg (fun o : Obj => match o.data with | .dict es _ => (match es.toList with | e :: _ => (match e.val with | .str x _ => x | _ => Str.ofString "integer") | _ => Str.ofString "integer") | _ => Str.ofString "integer") h
  exact absurd q (by decide +kernel)
noncomputable def NmOk (nv nm : Value) : Prop := (nv = .none ∧ ∃ t, nm = .str (Str.ofString "NA") t) ∨ (∃ x t, nv = .str x t ∧ nm = .str x t)
theorem tup_end {w : World} {h₀ h' : Heap} {L I C D p : Addr} {m : Str → Option Value} {s₁ : Shared} {oI oC : Obj} {acc : List Value} {t : Dt} {ts : List Dt} {i tk : Nat} {news nw : List (Addr × Obj)} {S : List (Addr × Obj) → Prop} {R : Value → List (Addr × Obj) → Prop}
    (F : Fr h₀ L h' m) (N : News h₀ L h' ((p, tupOf [t.v, .ref t.li]) :: (I, oI) :: (C, oC) :: (D, LCg.lst acc) :: nw)) (lt : ∀ q ∈ (I, oI) :: (C, oC) :: (D, LCg.lst acc) :: nw, q.1 < p) (off : LCg.Off3 I C D nw) (hS : S ((p, tupOf [t.v, .ref t.li]) :: nw))
    (ht : ts[i]? = some t) (g1 : PairsAre (fun t => .ref t.li) nw acc (ts.take i)) (g2 : ∀ q ∈ news, q ∈ nw)
    (hR : ∀ y nw', PairsAre (fun t => .ref t.li) nw' (acc ++ [y]) (ts.take (i + 1)) ∧ (∀ q ∈ news, q ∈ nw') → R y nw') :
    LCg.CompEnd h₀ L m s₁ I oI C oC D (LCg.lst acc) S R (.ref p) { s₁ with heap := h', toks := tk } := by
  refine LCg.CompEnd.intro F N ((p, tupOf [t.v, .ref t.li]) :: nw) ?_ ⟨⟨Nat.ne_of_gt (lt _ (.head _)), Nat.ne_of_gt (lt _ (.tail _ (.head _))), Nat.ne_of_gt (lt _ (.tail _ (.tail _ (.head _))))⟩, off⟩ hS (hR _ _ ⟨?_, fun q hq => .tail _ (g2 q hq)⟩)
  · intro q hq
    simp only [List.mem_cons] at hq ⊢
    rcases hq with h | h | h | h | h <;> simp [h]
  · rw [take_snoc ht]
    exact (g1.kept (Kept.of (w := w) fun q hq => .tail _ hq)).snoc ⟨p, rfl, .head _⟩
theorem range_pairs {prog : Program} {w : World} {A : Around} {s : Shared} {h₀ : Heap} {L : Addr} {m : Str → Option Value} {env : Env} {elt : PySem.Expr} {x : Str} {scope : Scope} {cl : List (Str × Addr)} {Fin : List Value → List (Addr × Obj) → Prop} {news : List (Addr × Obj)} {ts : List Dt} {n : Nat} (hn : ts.length = n)
    (elt_ : ∀ (i : Nat) (t : Dt) (u : Tok) C oC m₂ h tk (E' : Value → Shared → Prop) (Q : Value → Shared → Prop) nw, ts[i]? = some t → LCg.NsObj oC m₂ → m₂ x = some (.int (0 + (i : Int)) u) → Fr h₀ L h m → News h₀ L h nw → (C, oC) ∈ nw → (∀ q ∈ news, q ∈ nw) →
      (∀ p h' tk', Fr h₀ L h' m → News h₀ L h' ((p, tupOf [t.v, .ref t.li]) :: nw) → (∀ q ∈ nw, q.1 < p) → Q (.ref p) { s with heap := h', toks := tk' }) → wpAny (model prog w) A (eval elt (compEnvC scope cl C env)) Q E' { s with heap := h, toks := tk })
    (Z : ∀ acc nw, PairsAre (fun t => .ref t.li) nw acc ts → (∀ q ∈ news, q ∈ nw) → Fin acc nw) :
    LCg.CompRest prog w A h₀ L m env elt x scope cl s (fun _ => True) (fun i v => ∃ t, v = .int (0 + (i : Int)) t) Fin n 0 [] news := by
  refine rest_inv (n := n) (Inv := fun i acc nw => PairsAre (fun t => .ref t.li) nw acc (ts.take i) ∧ ∀ q ∈ news, q ∈ nw) ?_ ?_ _ _ _ _ ⟨by rw [List.take_zero]; trivial, fun _ h => h⟩ (by omega)
  · rintro acc nw ⟨g1, g2⟩
    rw [← hn, List.take_length] at g1
    exact Z acc nw g1 g2
  · rintro i acc nw v I oI C oC D m₂ h tk E' R hi ⟨g1, g2⟩ ⟨u, rfl⟩ a1 a2 F N off ne hR
    have ht : ts[i]? = some ts[i] := List.getElem?_eq_getElem (by omega)
    exact elt_ i _ u C oC m₂ h tk E' _ _ ht a1 a2 F N (.tail _ (.head _)) (fun q hq => .tail _ (.tail _ (.tail _ (g2 q hq)))) fun p h' tk' F' N' lt => tup_end (w := w) (ts := ts) (news := news) (s₁ := { s with heap := h, toks := tk }) F' N' lt off trivial ht g1 g2 hR
theorem pairs_tup {prog : Program} {w : World} {A : Around} {s : Shared} {h₀ : Heap} {L ax : Addr} {m : Str → Option Value} {env : Env} {elt : PySem.Expr} {x x₂ : Str} {scope : Scope} {cl : List (Str × Addr)} {Fin : List Value → List (Addr × Obj) → Prop} {news : List (Addr × Obj)} {zs : List Value} {ts : List Dt} {c : Nat}
    (hp : PairsAre (fun t => .ref t.x) news zs ts) (hm : (ax, listOf zs.toArray c) ∈ news)
    (elt_ : ∀ (t : Dt) C oC m₂ h tk (E' : Value → Shared → Prop) (Q : Value → Shared → Prop) nw, t ∈ ts → LCg.NsObj oC m₂ → m₂ x = some t.v → m₂ x₂ = some (.ref t.x) → Fr h₀ L h m → News h₀ L h nw → (C, oC) ∈ nw → (∀ q ∈ news, q ∈ nw) →
      (∀ p h' tk', Fr h₀ L h' m → News h₀ L h' ((p, tupOf [t.v, .ref t.li]) :: nw) → (∀ q ∈ nw, q.1 < p) → Q (.ref p) { s with heap := h', toks := tk' }) → wpAny (model prog w) A (eval elt (compEnvC scope cl C env)) Q E' { s with heap := h, toks := tk })
    (Z : ∀ acc nw, PairsAre (fun t => .ref t.li) nw acc ts → (∀ q ∈ news, q ∈ nw) → Fin acc nw) :
    LCp.CompRestP prog w A h₀ L m env elt x x₂ scope cl s (LCg.SrcAt h₀ ax zs.toArray) (fun i v => zs.toArray[i]? = some v) Fin zs.toArray.size 0 [] news := by
  have hl := hp.len
  refine rest_invP (n := zs.toArray.size) (Inv := fun i acc nw => PairsAre (fun t => .ref t.li) nw acc (ts.take i) ∧ ∀ q ∈ news, q ∈ nw) ?_ ?_ _ _ _ _ ⟨by rw [List.take_zero]; trivial, fun _ h => h⟩ (by omega)
  · rintro acc nw ⟨g1, g2⟩
    rw [List.size_toArray, hl, List.take_length] at g1
    exact Z acc nw g1 g2
  · rintro i acc nw v hi ⟨g1, g2⟩ hz
    rw [List.getElem?_toArray] at hz
    obtain ⟨t, ht, p0, rfl, hq⟩ := hp.get hz
    refine ⟨p0, _, t.v, .ref t.x, _, rfl, g2 _ hq, rfl, rfl, ?_⟩
    intro I oI C oC D m₂ h tk E' R a1 a2 a3 F N off ne hR
    exact elt_ t C oC m₂ h tk E' _ _ (List.mem_of_getElem? ht) a1 a2 a3 F N (.tail _ (.head _)) (fun q hq => .tail _ (.tail _ (.tail _ (g2 q hq)))) fun p h' tk' F' N' lt => tup_end (w := w) (ts := ts) (news := news) (s₁ := { s with heap := h, toks := tk }) F' N' lt off (.inr ⟨_, .tail _ (g2 _ hm), rfl, _, rfl⟩) ht g1 g2 hR
/-! the two lists compared -/
noncomputable def dtOf (t : Dt) : PyData := .tuple [(match t.v with | .str x _ => .str x | _ => .none), .list [.int t.a]]
theorem reads_pairs {w : World} {h₀ h : Heap} {L : Addr} {news : List (Addr × Obj)} (N : News h₀ L h news) : ∀ {ys : List Value} {ts : List Dt}, PairsAre (fun t => .ref t.li) news ys ts → (∀ t ∈ ts, VecAt w news t) → ∃ as, ReadsAll h ys (ts.map dtOf) as
  | [], [], _, _ => ⟨_, .nil⟩
  | y :: ys, t :: ts, hp, hv => by
    obtain ⟨as, ih⟩ := reads_pairs N hp.2 (fun t ht => hv t (.tail _ ht))
    obtain ⟨p, rfl, hq⟩ := hp.1
    obtain ⟨e, d, ta, t1, t2, t3, t4, t5, t6, b, g1, g2, g3⟩ := hv t (.head _)
    have r2 : ∃ bs, Reads h (.ref t.li) (.list [.int t.a]) bs := ⟨_, reads_list_at (N.get g3) rfl rfl (.cons (Reads.int _ _) .nil)⟩
    obtain ⟨bs, r2⟩ := r2
    have r1 : ∃ cs, Reads h t.v (match t.v with | .str x _ => .str x | _ => .none) cs := by
      cases hv' : t.v with
      | none => exact ⟨_, Reads.none⟩
      | str x u => exact ⟨_, Reads.str _ _⟩
      | _ => rw [hv'] at e; cases e
    obtain ⟨cs, r1⟩ := r1
    exact ⟨_, .cons (reads_tuple_at (N.get hq) rfl rfl (.cons r1 (.cons r2 .nil))) ih⟩
  | [], _ :: _, h, _ => h.elim
  | _ :: _, [], h, _ => h.elim
theorem dt_lay {t : Dt} (h : isTag t.v = true) : (dtOf t).canLay0 = true ∧ (dtOf t).depth ≤ 2 := by
  obtain ⟨v, x, li, a⟩ := t
  cases v with
  | none => exact ⟨rfl, by simp [dtOf, PyData.depth, PyData.depthAll]⟩
  | str y u =>
    refine ⟨?_, ?_⟩
    · have h' : PyData.strOk y = true := h
      simp [dtOf, PyData.canLay0, PyData.canLayAll0, h']
    · simp [dtOf, PyData.depth, PyData.depthAll]
  | _ => cases h
theorem dts_lay : ∀ {ts : List Dt}, (∀ t ∈ ts, isTag t.v = true) → PyData.canLayAll0 (ts.map dtOf) = true ∧ PyData.depthAll (ts.map dtOf) ≤ 2
  | [], _ => ⟨rfl, by simp [PyData.depthAll]⟩
  | t :: ts, h => by
    have h1 := dt_lay (h t (.head _))
    have h2 := dts_lay fun z hz => h z (.tail _ hz)
    refine ⟨?_, ?_⟩
    · simp only [List.map_cons, PyData.canLayAll0, h1.1, h2.1, Bool.and_self]
    · simp only [List.map_cons, PyData.depthAll]
      omega
theorem dts_shaped {ts : List Dt} (h : ∀ t ∈ ts, isTag t.v = true) : SeqAt.shaped (.list (ts.map dtOf)) = true := by
  have := dts_lay h
  unfold SeqAt.shaped
  rw [Bool.and_eq_true]
  refine ⟨by rw [PyData.canLay0]; exact this.1, decide_eq_true ?_⟩
  rw [PyData.depth]
  omega
theorem eq_pairs {prog : Program} {w : World} {A : Around} {E : Value → Shared → Prop} {s : Shared} {h₀ : Heap} {L a b : Addr} {news : List (Addr × Obj)} {ya yb : List Value} {ts : List Dt} {ca cb : Nat} {Q : Value → Shared → Prop} (N : News h₀ L s.heap news) (ha : (a, listOf ya.toArray ca) ∈ news) (hb : (b, listOf yb.toArray cb) ∈ news)
    (pa : PairsAre (fun t => .ref t.li) news ya ts) (pb : PairsAre (fun t => .ref t.li) news yb ts) (hv : ∀ t ∈ ts, VecAt w news t) (hu : A.units + 64 < cLine) (H : Q (.bool true) s) : wpAny (model prog w) A (compareOp .Eq (.ref a) (.ref b)) Q E s := by
  obtain ⟨as, ra⟩ := reads_pairs N pa hv
  obtain ⟨bs, rb⟩ := reads_pairs N pb hv
  have sh := dts_shaped fun t ht => (hv t ht).1
  refine eq_dataH (reads_list_at (N.get ha) rfl rfl ra) (reads_list_at (N.get hb) rfl rfl rb) sh sh hu ?_
  rw [SeqAt.eqv_refl _ (by rw [PyData.canLay0]; exact (dts_lay fun t ht => (hv t ht).1).1)]
  exact H
theorem updL_cell {h₀ h : Heap} {L c : Addr} {o o' : Obj} {v₀ : Option Value} {news : List (Addr × Obj)} (N : News h₀ L h news) (hc : (c, o) ∈ news) (d : o.data = .cell v₀) : ∀ q ∈ news, (∀ v, q.2.data ≠ .cell v) → q ∈ updL c o' news := fun q hq n => mem_updL hq fun e => by
  obtain ⟨a, oa⟩ := q
  subst e
  have := news_fn N hc hq
  subst this
  exact n _ d
theorem PairAt.cell {f : Dt → Value} {news news' : List (Addr × Obj)} {y : Value} {t : Dt} (h : PairAt f news y t) (k : ∀ q ∈ news, (∀ v, q.2.data ≠ .cell v) → q ∈ news') : PairAt f news' y t := by
  obtain ⟨p, e, m⟩ := h; exact ⟨p, e, k _ m fun v h => by cases h⟩
theorem PairsAre.cell {f : Dt → Value} {news news' : List (Addr × Obj)} (k : ∀ q ∈ news, (∀ v, q.2.data ≠ .cell v) → q ∈ news') : ∀ {ys : List Value} {ts : List Dt}, PairsAre f news ys ts → PairsAre f news' ys ts
  | [], [], _ => trivial
  | _ :: _, _ :: _, h => ⟨h.1.cell k, PairsAre.cell k h.2⟩
  | [], _ :: _, h => h.elim
  | _ :: _, [], h => h.elim
theorem VecAt.cell {w : World} {news news' : List (Addr × Obj)} {t : Dt} (h : VecAt w news t) (k : ∀ q ∈ news, (∀ v, q.2.data ≠ .cell v) → q ∈ news') : VecAt w news' t := by
  obtain ⟨e, d, ta, t1, t2, t3, t4, t5, t6, b, g1, g2, g3⟩ := h
  exact ⟨e, d, ta, t1, t2, t3, t4, t5, t6, b, k _ g1 (fun v h => by cases h), k _ g2 (fun v h => by cases h), k _ g3 (fun v h => by cases h)⟩
noncomputable section
@[reducible] noncomputable def stD5 : List Stmt := by
  refine (fun (o : List Stmt) (_ : lawBody.drop 17 = o) => o) ?_ ?h
  rotate_left
  conv => lhs; whnf
end
section
local macro_rules | `(tactic| walk_at "CompSrc") => `(tactic| (k_here; k_dflt (refine LCg.CompSrc.range (by rfl) (by k_asm) (by k_asm) (by assumption) (by first | decide | rfl) (by first | rfl | decide) (by first | size_fits | exact Nat.le_of_ble_eq_true rfl) ?_; intro g'; lcg_lit)))
local macro_rules | `(tactic| walk_at "eval ListComp") => `(tactic| (k_here; (with_reducible show wpAny _ _ (eval (PySem.Expr.ListComp _ [⟨PySem.Expr.Tuple _ _ _, _, _, _⟩] _ _) _) _ _ _); lcp_look; k_dflt (refine LCp.ListComp_P (F₀ := by k_asm) (by with_unfolding_all rfl) (by decide) (by rfl) (by decide) (by rfl) (by rfl) (by decide) ?_); k_dflt lcp_toSrc))
local macro_rules | `(tactic| walk_at "exec Assign cons ListComp") => `(tactic| (k_here; (with_reducible show wpAny _ _ (exec (Stmt.Assign _ (PySem.Expr.ListComp _ [⟨PySem.Expr.Tuple _ _ _, _, _, _⟩] _ _) _) _) _ _ _); lcp_look; k_dflt (refine LCp.Assign_ListComp_P (F₀ := by k_asm) (by rfl) (by with_unfolding_all rfl) (by with_unfolding_all rfl) (by decide) (by rfl) (by decide) (by rfl) (by rfl) (by decide) (by rfl) (by rfl) ?_); k_dflt lcp_toSrc))
local macro_rules | `(tactic| walk_at "eval ListComp") => `(tactic| (k_here; (with_reducible show wpAny _ _ (eval (PySem.Expr.ListComp _ [⟨PySem.Expr.Name _ _, _, _, _⟩] _ _) _) _ _ _); lcg_look; k_dflt (refine LCg.ListComp_U (F₀ := by k_asm) (by with_unfolding_all rfl) (by decide) (by rfl) (by decide) (by rfl) ?_); k_dflt lcg_toSrc))
local macro_rules | `(tactic| walk_at "eval ListComp") => `(tactic| (k_here; (with_reducible show wpAny _ _ (eval (PySem.Expr.ListComp _ [⟨PySem.Expr.Name _ _, _, _, _⟩] _ _) _) _ _ _); lcf_look; k_dflt (refine LCg.ListComp_U (F₀ := by k_asm) (by with_unfolding_all rfl) (by decide) (by rfl) (by decide) (by rfl) ?_); k_dflt lcg_toSrc))
local macro_rules | `(tactic| walk_at "exec Assign cons ListComp") => `(tactic| (k_here; (with_reducible show wpAny _ _ (exec (Stmt.Assign _ (PySem.Expr.ListComp _ [⟨PySem.Expr.Name _ _, _, _, _⟩] _ _) _) _) _ _ _); lcg_look; k_dflt (refine LCg.Assign_ListComp_U (F₀ := by k_asm) (by rfl) (by with_unfolding_all rfl) (by with_unfolding_all rfl) (by decide) (by rfl) (by decide) (by rfl) (by rfl) (by rfl) ?_); k_dflt lcg_toSrc))
local macro_rules | `(tactic| walk_at "exec Assign cons ListComp") => `(tactic| (k_here; (with_reducible show wpAny _ _ (exec (Stmt.Assign _ (PySem.Expr.ListComp _ [⟨PySem.Expr.Name _ _, _, _, _⟩] _ _) _) _) _ _ _); lcf_look; k_dflt (refine LCg.Assign_ListComp_U (F₀ := by k_asm) (by rfl) (by with_unfolding_all rfl) (by with_unfolding_all rfl) (by decide) (by rfl) (by decide) (by rfl) (by rfl) (by rfl) ?_); k_dflt lcg_toSrc))
local macro_rules | `(tactic| walk_at "CompRestP") => `(tactic| (with_reducible refine LCp.CompRestP.zero ?_))
local macro_rules | `(tactic| walk_at "CompRest") => `(tactic| (with_reducible refine LCg.CompRest.zero ?_))
local macro_rules | `(tactic| tb_rel) => `(tactic| first | with_reducible exact look_here | with_reducible exact lkl_here | (with_reducible refine' look_skip ?ska ?skb; (case ska => decide +kernel); (case skb => tb_rel)) | (with_reducible refine' lkl_skip ?ska ?skb; (case ska => decide +kernel); (case skb => tb_rel)) | k_dflt (exact mem_hd) | ((with_reducible refine' mem_tl ?_); tb_rel) | (with_reducible refine' Upd.head ?ua; (case ua => tb_rel)) | (with_reducible refine' Upd.tail ?ua ?ub; (case ua => k_ne); (case ub => tb_rel)) | (with_reducible refine' UpdF.head ?ua; (case ua => tb_rel)) | (with_reducible refine' UpdF.tail ?ua ?ub; (case ua => k_ne); (case ub => tb_rel)) | with_reducible exact Two.nil | with_reducible exact Two.tail (by with_reducible assumption) (by with_reducible assumption) | (with_reducible refine' Two.one ?ua; (case ua => tb_rel)) | (with_reducible refine' Two.two ?ua; (case ua => tb_rel)) | ((with_reducible refine' Two.off ?ua ?ub ?uc); (case ua => first | k_ne | exact Nat.ne_of_gt (lt_of_news (by with_reducible assumption) (by tb_rel))); (case ub => first | k_ne | exact Nat.ne_of_gt (lt_of_news (by with_reducible assumption) (by tb_rel))); (case uc => tb_rel)) | with_reducible exact List.forall_mem_nil _ | (with_reducible refine' List.forall_mem_cons.mpr ⟨?ua, ?ub⟩; (case ua => k_ne); (case ub => tb_rel)) | k_dflt (exact le_off (by with_reducible assumption)) | with_reducible assumption)
local macro_rules | `(tactic| tb_start) => `(tactic| first
  | (with_reducible refine at_eval ?_; first
    | (with_reducible refine wpAny_Constant_none ?_)
    | (with_reducible refine f_str ?_)
    | (with_reducible refine Attribute_name ?_)
    | ((with_reducible show wpAny _ _ (eval (PySem.Expr.Call (PySem.Expr.Attribute _ _ _) _ _ _) _) _ _ _); k_dflt (refine MethodCall_ ?_))
    | (with_reducible refine Call_ ?_ (by kernel_rfl))
    | (with_reducible refine f_int ?_)
    | ((with_reducible show wpAny _ _ (eval (PySem.Expr.Name _ _) _) _ _ _); with_reducible (first
      | (refine' nameX_K ?F ?X ?T ?e ?_ ?a ?b ?c; (case X => with_reducible assumption); (case e => k_is); (case b => kernel_rfl); (case F => with_reducible assumption); (case T => exact topRead_of (by with_reducible assumption)); (case a => first | with_reducible assumption | kernel_rfl); (case c => kernel_rfl))
      | (refine' nameX_L ?F ?v ?_ ?a ?b ?c; (case F => with_reducible assumption); (case v => tb_rel); (case b => kernel_rfl); (case a => first | with_reducible assumption | kernel_rfl); (case c => kernel_rfl))
      | (refine' nameX_B ?F ?X ?T ?e ?v ?n ?_ ?a ?b ?c; (case v => boot_fast); (case b => kernel_rfl); (case F => with_reducible assumption); (case X => with_reducible assumption); (case T => exact topRead_of (by with_reducible assumption)); (case a => first | with_reducible assumption | kernel_rfl); (case c => kernel_rfl); (case e => k_is); (case n => decide +kernel))
      | (refine' nameX_C ?N ?c ?m ?d ?_ ?a ?b ?e; (case b => kernel_rfl); (case N => with_reducible assumption); (case c => tb_rel); (case m => tb_rel); (case d => with_reducible assumption); (case a => kernel_rfl); (case e => kernel_rfl))))
    | ((with_reducible show wpAny _ _ (eval (PySem.Expr.Name _ _) (compEnvC _ _ _ _)) _ _ _); k_dflt (first
      | (refine' LCgL.ld_global ?F ?X ?T ?e ?_ ?g ?a ?b ?c; (case X => with_reducible assumption); (case e => k_is); (case F => with_reducible assumption); (case T => with_reducible assumption); (case g => rfl); (case a => kernel_rfl); (case b => kernel_rfl); (case c => kernel_rfl))
      | (refine' LCgL.ld_own ?N ?m ?C ?x ?_ ?a ?b ?c; (case N => with_reducible assumption); (case m => tb_rel); (case C => with_reducible assumption); (case x => with_reducible assumption); (case a => kernel_rfl); (case b => kernel_rfl); (case c => kernel_rfl))
      | (refine' lcf_cell ?N ?c ?m ?d ?_ ?a ?b ?e; (case b => kernel_rfl!); (case N => with_reducible assumption); (case c => tb_rel); (case m => tb_rel); (case d => with_reducible assumption); (case a => kernel_rfl); (case e => kernel_rfl))
      | (refine' lcf_free ?N ?c ?m ?d ?_ ?a ?b ?e ?f; (case b => kernel_rfl!); (case N => with_reducible assumption); (case c => tb_rel); (case m => tb_rel); (case d => with_reducible assumption); (case a => kernel_rfl); (case e => kernel_rfl); (case f => kernel_rfl))))
    | (with_reducible refine List_ ?_)
    | (with_reducible refine Tuple_ ?_)
    | (with_reducible refine wpAny_Compare1 ?_ (by kernel_rfl))
    | (with_reducible refine Subscript_ ?_)
    | (with_reducible refine IfExp_ ?_)
    | (with_reducible refine wpAny_BinOp ?_)
    | (with_reducible refine Constant_bool ?_)
    | (with_reducible refine Attribute_any_ ?_ (by kernel_rfl)))
  | (with_reducible refine args_cons ?_ (by kernel_rfl))
  | (with_reducible refine args_nil ?_; (try dsimp only [List.cons_append, List.nil_append]))
  | (with_reducible refine x_next ?_)
  | (with_reducible refine x_ret ?_)
  | (with_reducible refine x_cons ?_; intro tk)
  | (with_reducible refine x_nil ?_)
  | (with_reducible refine at_exec ?_; first
    | (with_reducible refine wpAny_If ?_)
    | (with_reducible refine wpAny_Return_some ?_)
    | (with_reducible refine wpAny_Assign_Name ?_ (by kernel_rfl))
    | (with_reducible refine plainObj_wpAny_Assign_Attribute ?_ (by kernel_rfl)))
  | (with_reducible refine at_true ?_; first
    | (with_reducible refine wpAny_isTrue_Compare1 ?_ (by kernel_rfl))
    | (with_reducible refine isTrue_and_nil ?_)
    | (with_reducible refine isTrue_or_nil ?_)
    | (with_reducible refine isTrue_and ?_)
    | (with_reducible refine isTrue_or ?_)
    | ((with_reducible show wpAny _ _ (isTrue (PySem.Expr.Call _ _ _ _) _ _) _ _ _); with_reducible refine isTrue_plain ?_ (by kernel_rfl)))
  | (with_reducible refine at_cmp ?_; first
    | (with_reducible refine eq_str ?_)
    | (with_reducible refine is_none_none ?_)
    | (with_reducible refine is_ref_none ?_)
    | (with_reducible refine ne_same ?_)
    | (with_reducible refine' ne_strs3 ?nN ?na ?nb ?nu ?_; (case nN => with_reducible assumption); (case na => tb_rel); (case nb => tb_rel); (case nu => first | k_dflt (exact Nat.le_of_ble_eq_true rfl) | k_dflt omega))
    | (with_reducible refine PyProof.Rows.ne_str ?_)
    | (with_reducible refine gt_int ?_)
    | (with_reducible refine eq_int ?_)
    | (with_reducible refine is_str_none ?_)
    | ((with_reducible show wpAny _ _ (compareOp CmpOp.In (Value.str _ _) (Value.ref _)) _ _ _); k_dflt (refine' in_tuple_strs ?k1 ?k2 ?_; (case k1 => exact News.isTup (by with_reducible assumption) (by tb_rel)); (case k2 => kde_strs))))
  | (with_reducible refine f_add ?_)
  | ((with_reducible show wpAny _ _ (binaryOp Operator.Add (Value.ref _) (Value.ref _)) _ _ _); (with_reducible refine' f_cat ?F ?N ?a ?b ?z ?_); (case F => with_reducible assumption); (case N => with_reducible assumption); (case a => tb_rel); (case b => tb_rel); (case z => first | with_reducible assumption | kernel_rfl! | k_dflt (refine Nat.ble_eq_true_of_le ?_; (try simp only [List.length_cons, List.length_nil, List.length_append, List.length_map]); omega)); intro D' h' F' N' l1; (try k_sweep))
  | ((with_reducible show wpAny _ _ (binaryOp Operator.Mult (Value.ref _) (Value.int _ _)) _ _ _); (with_reducible refine' f_mul ?F ?N ?a ?h0 ?h1 ?_); (case F => with_reducible assumption); (case N => with_reducible assumption); (case a => tb_rel); (case h0 => first | with_reducible assumption | ((try simp only [List.length_cons, List.length_nil, List.length_append]); omega)); (case h1 => first | with_reducible assumption | ((try simp only [List.length_cons, List.length_nil, List.length_append]); omega)); intro D' ws' h' hw' F' N' l1; (try k_sweep))
  | (with_reducible refine wpAny_truthy_bool ?_)
  | (with_reducible refine ite_tt ?_)
  | (with_reducible refine ite_ff ?_)
  | (with_reducible refine ite_t (by kernel_rfl!) ?_)
  | (with_reducible refine ite_f (by kernel_rfl!) ?_)
  | ((with_reducible show Frag.In _ _ ∧ _); refine ⟨by k_in, ?_⟩; (try dsimp only [List.nil_append, List.cons_append]))
  | (with_reducible refine at_callW ?_; first
    | ((with_reducible show wpAny _ _ (callWith _ (Value.ref _) _ (backTo _ (starEach (_ :: _) _)) []) _ _ _); with_reducible refine' callWith_K ?k1 ?k2 ?_ ?k3 ?k4; (case k1 => with_reducible assumption); (case k2 => k_is); (case k3 => kernel_rfl); (case k4 => kernel_rfl))
    | ((with_reducible show wpAny _ _ (callWith _ (Value.ref _) _ (backTo _ (starEach [] _)) []) _ _ _); refine' callWith_K0 ?k1 ?k2 ?_; (case k1 => k_in); (case k2 => k_is); (try dsimp only [List.nil_append]))
    | ((with_reducible show wpAny _ _ (callWith _ (Value.builtin _) _ _ _) _ _ _); first | with_reducible refine PyProof.Rows.callWith_builtin1 ?_ (by kernel_rfl) (by kernel_rfl) | (with_reducible refine PyProof.Rows.callWith_method1 ?_ (by kernel_rfl) (by kernel_rfl); (try dsimp only [List.nil_append, List.cons_append])))
    | ((with_reducible show wpAny _ _ (callWith _ (Value.type _) _ _ _) _ _ _); with_reducible refine PyProof.Rows.callWith_type1 ?_ (by kernel_rfl) (by kernel_rfl)))
  | (with_reducible refine at_call ?_; first
    | ((with_reducible show wpAny _ _ (call (Value.ref 28) [_, _]) _ _ _); (with_reducible refine' enter_any (ns := [Str.ofString "v", Str.ofString "name"]) lk2 ?k1 ?k2 ?k3 ?k4 ?k5 ?kK ?k6 ?k7 ?k8 ?k9 ?kB ?c2 ?_); (case k1 => with_reducible assumption); (case k2 => with_reducible assumption); (case k3 => with_reducible assumption); (case k4 => with_reducible assumption); (case k5 => with_reducible assumption); (case kK => first | with_reducible assumption | kernel_rfl); (case k6 => k_is); (case k7 => k_is); (case k8 => first | exact Nat.le_of_ble_eq_true rfl | omega | ktr_room); (case k9 => kernel_rfl); (case kB => kernel_rfl); (case c2 => kernel_rfl); intro g' L' h' tk FG' F' N' B' X' T')
    | ((with_reducible show wpAny _ _ (call (Value.ref 35) [_]) _ _ _); (with_reducible refine' enter_any (ns := [Str.ofString "v"]) lk1 ?k1 ?k2 ?k3 ?k4 ?k5 ?kK ?k6 ?k7 ?k8 ?k9 ?kB ?c2 ?_); (case k1 => with_reducible assumption); (case k2 => with_reducible assumption); (case k3 => with_reducible assumption); (case k4 => with_reducible assumption); (case k5 => with_reducible assumption); (case kK => first | with_reducible assumption | kernel_rfl); (case k6 => k_is); (case k7 => k_is); (case k8 => first | exact Nat.le_of_ble_eq_true rfl | omega | ktr_room); (case k9 => kernel_rfl); (case kB => kernel_rfl); (case c2 => kernel_rfl); intro g' L' h' tk FG' F' N' B' X' T')
    | ((with_reducible show wpAny _ _ (call (Value.ref 42) [_]) _ _ _); (with_reducible refine' enter_any (ns := [Str.ofString "v"]) lk1 ?k1 ?k2 ?k3 ?k4 ?k5 ?kK ?k6 ?k7 ?k8 ?k9 ?kB ?c2 ?_); (case k1 => with_reducible assumption); (case k2 => with_reducible assumption); (case k3 => with_reducible assumption); (case k4 => with_reducible assumption); (case k5 => with_reducible assumption); (case kK => first | with_reducible assumption | kernel_rfl); (case k6 => k_is); (case k7 => k_is); (case k8 => first | exact Nat.le_of_ble_eq_true rfl | omega | ktr_room); (case k9 => kernel_rfl); (case kB => kernel_rfl); (case c2 => kernel_rfl); intro g' L' h' tk FG' F' N' B' X' T')
    | ((with_reducible show wpAny _ _ (call (Value.ref 49) [_]) _ _ _); (with_reducible refine' enter_any (ns := [Str.ofString "v"]) lk1 ?k1 ?k2 ?k3 ?k4 ?k5 ?kK ?k6 ?k7 ?k8 ?k9 ?kB ?c2 ?_); (case k1 => with_reducible assumption); (case k2 => with_reducible assumption); (case k3 => with_reducible assumption); (case k4 => with_reducible assumption); (case k5 => with_reducible assumption); (case kK => first | with_reducible assumption | kernel_rfl); (case k6 => k_is); (case k7 => k_is); (case k8 => first | exact Nat.le_of_ble_eq_true rfl | omega | ktr_room); (case k9 => kernel_rfl); (case kB => kernel_rfl); (case c2 => kernel_rfl); intro g' L' h' tk FG' F' N' B' X' T')
    | ((with_reducible show wpAny _ _ (call (Value.ref 56) [_]) _ _ _); (with_reducible refine' enter_any (ns := [Str.ofString "v"]) lk1 ?k1 ?k2 ?k3 ?k4 ?k5 ?kK ?k6 ?k7 ?k8 ?k9 ?kB ?c2 ?_); (case k1 => with_reducible assumption); (case k2 => with_reducible assumption); (case k3 => with_reducible assumption); (case k4 => with_reducible assumption); (case k5 => with_reducible assumption); (case kK => first | with_reducible assumption | kernel_rfl); (case k6 => k_is); (case k7 => k_is); (case k8 => first | exact Nat.le_of_ble_eq_true rfl | omega | ktr_room); (case k9 => kernel_rfl); (case kB => kernel_rfl); (case c2 => kernel_rfl); intro g' L' h' tk FG' F' N' B' X' T')
    | ((with_reducible show wpAny _ _ (call (Value.ref 63) [_]) _ _ _); (with_reducible refine' enter_any (ns := [Str.ofString "v"]) lk1 ?k1 ?k2 ?k3 ?k4 ?k5 ?kK ?k6 ?k7 ?k8 ?k9 ?kB ?c2 ?_); (case k1 => with_reducible assumption); (case k2 => with_reducible assumption); (case k3 => with_reducible assumption); (case k4 => with_reducible assumption); (case k5 => with_reducible assumption); (case kK => first | with_reducible assumption | kernel_rfl); (case k6 => k_is); (case k7 => k_is); (case k8 => first | exact Nat.le_of_ble_eq_true rfl | omega | ktr_room); (case k9 => kernel_rfl); (case kB => kernel_rfl); (case c2 => kernel_rfl); intro g' L' h' tk FG' F' N' B' X' T')
    | ((with_reducible show wpAny _ _ (call (Value.ref 70) [_]) _ _ _); (with_reducible refine' enter_any (ns := [Str.ofString "v"]) lk1 ?k1 ?k2 ?k3 ?k4 ?k5 ?kK ?k6 ?k7 ?k8 ?k9 ?kB ?c2 ?_); (case k1 => with_reducible assumption); (case k2 => with_reducible assumption); (case k3 => with_reducible assumption); (case k4 => with_reducible assumption); (case k5 => with_reducible assumption); (case kK => first | with_reducible assumption | kernel_rfl); (case k6 => k_is); (case k7 => k_is); (case k8 => first | exact Nat.le_of_ble_eq_true rfl | omega | ktr_room); (case k9 => kernel_rfl); (case kB => kernel_rfl); (case c2 => kernel_rfl); intro g' L' h' tk FG' F' N' B' X' T')
    | ((with_reducible show wpAny _ _ (call (Value.ref 330) []) _ _ _); (with_reducible refine' enter_any (ns := []) lk0 ?k1 ?k2 ?k3 ?k4 ?k5 ?kK ?k6 ?k7 ?k8 ?k9 ?kB ?c2 ?_); (case k1 => with_reducible assumption); (case k2 => with_reducible assumption); (case k3 => with_reducible assumption); (case k4 => with_reducible assumption); (case k5 => with_reducible assumption); (case kK => first | with_reducible assumption | kernel_rfl); (case k6 => k_is); (case k7 => k_is); (case k8 => first | exact Nat.le_of_ble_eq_true rfl | omega | ktr_room); (case k9 => kernel_rfl); (case kB => kernel_rfl); (case c2 => kernel_rfl); intro g' L' h' tk FG' F' N' B' X' T')
    | ((with_reducible show wpAny _ _ (call (Value.ref 344) [_]) _ _ _); (with_reducible refine' enter_any (ns := [Str.ofString "items"]) lk1 ?k1 ?k2 ?k3 ?k4 ?k5 ?kK ?k6 ?k7 ?k8 ?k9 ?kB ?c2 ?_); (case k1 => with_reducible assumption); (case k2 => with_reducible assumption); (case k3 => with_reducible assumption); (case k4 => with_reducible assumption); (case k5 => with_reducible assumption); (case kK => first | with_reducible assumption | kernel_rfl); (case k6 => k_is); (case k7 => k_is); (case k8 => first | exact Nat.le_of_ble_eq_true rfl | omega | ktr_room); (case k9 => kernel_rfl); (case kB => kernel_rfl); (case c2 => kernel_rfl); intro g' L' h' tk FG' F' N' B' X' T')
    | ((with_reducible show wpAny _ _ (call (Value.ref 351) [_]) _ _ _); (with_reducible refine' enter_any (ns := [Str.ofString "name"]) lk1 ?k1 ?k2 ?k3 ?k4 ?k5 ?kK ?k6 ?k7 ?k8 ?k9 ?kB ?c2 ?_); (case k1 => with_reducible assumption); (case k2 => with_reducible assumption); (case k3 => with_reducible assumption); (case k4 => with_reducible assumption); (case k5 => with_reducible assumption); (case kK => first | with_reducible assumption | kernel_rfl); (case k6 => k_is); (case k7 => k_is); (case k8 => first | exact Nat.le_of_ble_eq_true rfl | omega | ktr_room); (case k9 => kernel_rfl); (case kB => kernel_rfl); (case c2 => kernel_rfl); intro g' L' h' tk FG' F' N' B' X' T')
    | ((with_reducible show wpAny _ _ (call (Value.ref 358) [_, _]) _ _ _); (with_reducible refine' enter_any (ns := [Str.ofString "name", Str.ofString "args"]) lk2 ?k1 ?k2 ?k3 ?k4 ?k5 ?kK ?k6 ?k7 ?k8 ?k9 ?kB ?c2 ?_); (case k1 => with_reducible assumption); (case k2 => with_reducible assumption); (case k3 => with_reducible assumption); (case k4 => with_reducible assumption); (case k5 => with_reducible assumption); (case kK => first | with_reducible assumption | kernel_rfl); (case k6 => k_is); (case k7 => k_is); (case k8 => first | exact Nat.le_of_ble_eq_true rfl | omega | ktr_room); (case k9 => kernel_rfl); (case kB => kernel_rfl); (case c2 => kernel_rfl); intro g' L' h' tk FG' F' N' B' X' T')
    | ((with_reducible show wpAny _ _ (call (Value.ref 365) [_]) _ _ _); (with_reducible refine' enter_any (ns := [Str.ofString "v"]) lk1 ?k1 ?k2 ?k3 ?k4 ?k5 ?kK ?k6 ?k7 ?k8 ?k9 ?kB ?c2 ?_); (case k1 => with_reducible assumption); (case k2 => with_reducible assumption); (case k3 => with_reducible assumption); (case k4 => with_reducible assumption); (case k5 => with_reducible assumption); (case kK => first | with_reducible assumption | kernel_rfl); (case k6 => k_is); (case k7 => k_is); (case k8 => first | exact Nat.le_of_ble_eq_true rfl | omega | ktr_room); (case k9 => kernel_rfl); (case kB => kernel_rfl); (case c2 => kernel_rfl); intro g' L' h' tk FG' F' N' B' X' T')
    | ((with_reducible show wpAny _ _ (call (Value.ref 372) [_]) _ _ _); (with_reducible refine' enter_any (ns := [Str.ofString "v"]) lk1 ?k1 ?k2 ?k3 ?k4 ?k5 ?kK ?k6 ?k7 ?k8 ?k9 ?kB ?c2 ?_); (case k1 => with_reducible assumption); (case k2 => with_reducible assumption); (case k3 => with_reducible assumption); (case k4 => with_reducible assumption); (case k5 => with_reducible assumption); (case kK => first | with_reducible assumption | kernel_rfl); (case k6 => k_is); (case k7 => k_is); (case k8 => first | exact Nat.le_of_ble_eq_true rfl | omega | ktr_room); (case k9 => kernel_rfl); (case kB => kernel_rfl); (case c2 => kernel_rfl); intro g' L' h' tk FG' F' N' B' X' T')
    | ((with_reducible show wpAny _ _ (call (Value.ref 379) [_]) _ _ _); (with_reducible refine' enter_any (ns := [Str.ofString "v"]) lk1 ?k1 ?k2 ?k3 ?k4 ?k5 ?kK ?k6 ?k7 ?k8 ?k9 ?kB ?c2 ?_); (case k1 => with_reducible assumption); (case k2 => with_reducible assumption); (case k3 => with_reducible assumption); (case k4 => with_reducible assumption); (case k5 => with_reducible assumption); (case kK => first | with_reducible assumption | kernel_rfl); (case k6 => k_is); (case k7 => k_is); (case k8 => first | exact Nat.le_of_ble_eq_true rfl | omega | ktr_room); (case k9 => kernel_rfl); (case kB => kernel_rfl); (case c2 => kernel_rfl); intro g' L' h' tk FG' F' N' B' X' T')
    | ((with_reducible show wpAny _ _ (call (Value.ref 457) [_, _]) _ _ _); (with_reducible refine' enter_any (ns := [Str.ofString "v", Str.ofString "names"]) lk2 ?k1 ?k2 ?k3 ?k4 ?k5 ?kK ?k6 ?k7 ?k8 ?k9 ?kB ?c2 ?_); (case k1 => with_reducible assumption); (case k2 => with_reducible assumption); (case k3 => with_reducible assumption); (case k4 => with_reducible assumption); (case k5 => with_reducible assumption); (case kK => first | with_reducible assumption | kernel_rfl); (case k6 => k_is); (case k7 => k_is); (case k8 => first | exact Nat.le_of_ble_eq_true rfl | omega | ktr_room); (case k9 => kernel_rfl); (case kB => kernel_rfl); (case c2 => kernel_rfl); intro g' L' h' tk FG' F' N' B' X' T')
    | ((with_reducible show wpAny _ _ (call (Value.ref 490) [_]) _ _ _); (with_reducible refine' enter_any (ns := [Str.ofString "v"]) lk1 ?k1 ?k2 ?k3 ?k4 ?k5 ?kK ?k6 ?k7 ?k8 ?k9 ?kB ?c2 ?_); (case k1 => with_reducible assumption); (case k2 => with_reducible assumption); (case k3 => with_reducible assumption); (case k4 => with_reducible assumption); (case k5 => with_reducible assumption); (case kK => first | with_reducible assumption | kernel_rfl); (case k6 => k_is); (case k7 => k_is); (case k8 => first | exact Nat.le_of_ble_eq_true rfl | omega | ktr_room); (case k9 => kernel_rfl); (case kB => kernel_rfl); (case c2 => kernel_rfl); intro g' L' h' tk FG' F' N' B' X' T')
    | ((with_reducible show wpAny _ _ (call (Value.ref 497) [_, _, _]) _ _ _); (with_reducible refine' enter_any (ns := [Str.ofString "interp", Str.ofString "args", Str.ofString "env"]) lk3 ?k1 ?k2 ?k3 ?k4 ?k5 ?kK ?k6 ?k7 ?k8 ?k9 ?kB ?c2 ?_); (case k1 => with_reducible assumption); (case k2 => with_reducible assumption); (case k3 => with_reducible assumption); (case k4 => with_reducible assumption); (case k5 => with_reducible assumption); (case kK => first | with_reducible assumption | kernel_rfl); (case k6 => k_is); (case k7 => k_is); (case k8 => first | exact Nat.le_of_ble_eq_true rfl | omega | ktr_room); (case k9 => kernel_rfl); (case kB => kernel_rfl); (case c2 => kernel_rfl); intro g' L' h' tk FG' F' N' B' X' T')
    | ((with_reducible show wpAny _ _ (call (Value.ref 502) [_, _]) _ _ _); (with_reducible refine' enter_any (ns := [Str.ofString "head", Str.ofString "rows"]) lk2 ?k1 ?k2 ?k3 ?k4 ?k5 ?kK ?k6 ?k7 ?k8 ?k9 ?kB ?c2 ?_); (case k1 => with_reducible assumption); (case k2 => with_reducible assumption); (case k3 => with_reducible assumption); (case k4 => with_reducible assumption); (case k5 => with_reducible assumption); (case kK => first | with_reducible assumption | kernel_rfl); (case k6 => k_is); (case k7 => k_is); (case k8 => first | exact Nat.le_of_ble_eq_true rfl | omega | ktr_room); (case k9 => kernel_rfl); (case kB => kernel_rfl); (case c2 => kernel_rfl); intro g' L' h' tk FG' F' N' B' X' T')
    | ((with_reducible show wpAny _ _ (call (Value.ref 507) [_, _, _]) _ _ _); (with_reducible refine' enter_any (ns := [Str.ofString "interp", Str.ofString "args", Str.ofString "env"]) lk3 ?k1 ?k2 ?k3 ?k4 ?k5 ?kK ?k6 ?k7 ?k8 ?k9 ?kB ?c2 ?_); (case k1 => with_reducible assumption); (case k2 => with_reducible assumption); (case k3 => with_reducible assumption); (case k4 => with_reducible assumption); (case k5 => with_reducible assumption); (case kK => first | with_reducible assumption | kernel_rfl); (case k6 => k_is); (case k7 => k_is); (case k8 => first | exact Nat.le_of_ble_eq_true rfl | omega | ktr_room); (case k9 => kernel_rfl); (case kB => kernel_rfl); (case c2 => kernel_rfl); intro g' L' h' tk FG' F' N' B' X' T')
    | ((with_reducible show wpAny _ _ (call (Value.builtin "len") [Value.ref _]) _ _ _); first
      | (with_reducible refine' len_list_eq ?N ?m ?e ?z ?_; (case N => with_reducible assumption); (case m => tb_rel); (case e => with_reducible assumption); (case z => first | with_reducible assumption | kernel_rfl!); intro t t')
      | (with_reducible refine' len_list_any ?N ?m ?z ?_; (case N => with_reducible assumption); (case m => tb_rel); (case z => first | with_reducible assumption | kernel_rfl! | k_dflt (refine Nat.ble_eq_true_of_le ?_; (try simp only [List.length_cons, List.length_nil, List.length_append, List.length_map]); omega)); intro t t'))
    | ((with_reducible show wpAny _ _ (call (Value.builtin "isinstance") [Value.ref _, Value.ref 255]) _ _ _); first
      | (with_reducible refine' isi_yes255 ?F ?X ?N ?m ?e ?_; (case F => with_reducible assumption); (case X => with_reducible assumption); (case N => with_reducible assumption); (case m => tb_rel); (case e => tb_rel))
      | (with_reducible refine' isi_no_any ?F ?X ?N ?m ?e ?c ?_; (case F => with_reducible assumption); (case X => with_reducible assumption); (case N => with_reducible assumption); (case m => tb_rel); (case e => tb_rel); (case c => first | exact .inl rfl | exact .inr (.inl rfl) | exact .inr (.inr rfl))))
    | ((with_reducible show wpAny _ _ (call (Value.builtin "dict.get") [Value.ref _, Value.str _ _]) _ _ _); k_dflt (refine' kdg_get1 (knd := PySem.strKind _ _) ?ga ?gb ?gc ?gl (strKind_is _ _ _ _) (some _) ?gh ?_; (case ga => with_reducible assumption); (case gb => tb_rel); (case gc => with_reducible assumption); (case gl => with_reducible assumption); (case gh => rfl)); (try dsimp only [Option.getD]))
    | ((with_reducible show wpAny _ _ (call (Value.type "list") [Value.ref _]) _ _ _); with_reducible refine' list_copy_any ?F ?N ?b ?z ?_; (case F => with_reducible assumption); (case N => with_reducible assumption); (case b => tb_rel); (case z => first | with_reducible assumption | kernel_rfl!); intro D' c' h' F' N' l1; (try k_sweep))
    | ((with_reducible show wpAny _ _ (call (Value.type "str") [Value.int _ _]) _ _ _); with_reducible refine f_str_small (by first | with_reducible assumption | k_dflt decide) (by first | with_reducible assumption | k_dflt decide) ?_))
  | ((with_reducible show wpAny _ _ (storeName _ _ _) _ _ _); with_reducible refine' f_store ?F ?N ?_ ?a ?b; (case F => with_reducible assumption); (case N => with_reducible assumption); (case b => kernel_rfl!); (case a => first | with_reducible assumption | kernel_rfl); intro h' tk' F' N'; (try k_sweep))
  | (with_reducible refine f_list (by with_reducible assumption) (by with_reducible assumption) ?_ (Nat.le_of_ble_eq_true rfl); intro l' h' F' N' l1; (try k_sweep))
  | (with_reducible refine f_tuple (by with_reducible assumption) (by with_reducible assumption) ?_ (Nat.le_of_ble_eq_true rfl); intro l' h' F' N' l1; (try k_sweep))
  | (with_reducible refine f_get_none (by with_reducible assumption) (by with_reducible assumption) (by with_reducible assumption) (by tb_rel) (by tb_rel) (by with_reducible assumption) ?_; intro tk')
  | ((with_reducible show wpAny _ _ (getAttr (Value.ref _) _ _) _ _ _); k_dflt (refine' f_get ?k1 ?k2 ?k3 ?ih ?ij ?k4 ?k5 ?k6 ?k7 ?k8 ?k9 ?_; (case k1 => with_reducible assumption); (case k2 => with_reducible assumption); (case k3 => with_reducible assumption); (case ih => tb_rel); (case ij => tb_rel); (case k4 => k_is); (case k5 => k_is); (case k6 => k_is); (case k7 => k_is); (case k8 => k_get); (case k9 => k_handed)); intro tk')
  | ((with_reducible show wpAny _ _ (subscriptTail _ _ (Value.ref _) (Value.int _ _)) _ _ _); k_dflt (first
    | (refine' item_litK ?k1 ?k2 ?k3 ?k4 ?_ ?k6; (case k1 => exact News.isList (by with_reducible assumption) (by tb_rel)); (case k2 => decide); (case k3 => decide); (case k4 => rfl); (case k6 => kernel_rfl))
    | (refine' f_item_at ?N ?m ?h0 ?h1 ?hs ?he ?_; (case N => with_reducible assumption); (case m => tb_rel); (case h0 => with_reducible assumption); (case h1 => with_reducible assumption); (case he => with_reducible assumption); (case hs => kernel_rfl))
    | (refine' f_item ?N ?m ?h0 ?h1 ?hf ?hs ?_; (case N => with_reducible assumption); (case m => tb_rel); (case h0 => with_reducible assumption); (case h1 => (simp only [List.length_cons, List.length_nil, List.length_map]; omega)); (case hf => exact Nat.le_of_ble_eq_true rfl); (case hs => kernel_rfl); intro v' hv')
    | (refine' item_tupleT ?t ?a ?b ?c ?d ?_ ?e; (case t => exact News.isTup (by with_reducible assumption) (by tb_rel)); (case a => decide); (case b => decide); (case c => rfl); (case d => rfl); (case e => kernel_rfl))))
  | ((with_reducible show wpAny _ _ (subscriptTail _ _ (Value.ref _) (Value.str _ _)) _ _ _); k_dflt (refine' kdt_tail (knd := PySem.strKind _ _) ?ga ?gb ?gc ?_ ?gd; (case ga => with_reducible assumption); (case gb => tb_rel); (case gc => with_reducible assumption); (case gd => kernel_rfl)))
  | ((with_reducible show wpAny _ _ (getItem (Value.ref _) (Value.str _ _)) _ _ _); k_dflt (refine' kdt_getItem (knd := PySem.strKind _ _) ?ga ?gb ?gc (strKind_is _ _ _ _) ?gd ?_; (case ga => with_reducible assumption); (case gb => tb_rel); (case gc => with_reducible assumption); (case gd => rfl)))
  | ((with_reducible show wpAny _ _ (getMethod (Value.ref _) (Str.ofString "get") _) _ _ _); k_dflt (refine' kdg_method (knd := PySem.strKind _ _) ?ga ?gb ?gc ?_; (case ga => with_reducible assumption); (case gb => tb_rel); (case gc => with_reducible assumption)); (try dsimp only))
  | ((with_reducible show wpAny _ _ (setAttr (Value.ref _) _ _) _ _ _); k_dflt (refine' f_set ?k1 ?k2 ?k3 ?ih ?ij ?k6 ?k7 ?k8 ?k9 ?k10 ?k11 ?k12 ?k13 ?_; (case k1 => with_reducible assumption); (case k2 => with_reducible assumption); (case k3 => with_reducible assumption); (case ih => tb_rel); (case ij => tb_rel); (case k6 => k_is); (case k7 => k_is); (case k8 => k_is); (case k9 => k_is); (case k10 => k_get); (case k11 => k_put); (case k12 => tb_rel); (case k13 => exact Nat.le_of_ble_eq_true rfl)); intro h' tk' F' N'; (try k_sweep))
  | ((with_reducible show Back _ _ _ _ _ _ _); (with_reducible rename Fr _ _ _ _ => zF); (with_reducible rename News _ _ _ _ => zN); (with_reducible rename Below _ _ _ _ => zB); (with_reducible rename Top _ _ _ _ _ _ => zT); (with_reducible rename Frag.In _ _ => zX); with_reducible refine back_ret zF zN ?_; clear zF zN zB zT zX; intro kF kN; (try k_sweep)))
section
local macro_rules | `(tactic| tb_start) => `(tactic| ((with_reducible refine at_call ?_); first
  | ((with_reducible show wpAny _ _ (call (Value.ref 226) []) _ _ _); (with_reducible refine' f_null ?k1 ?k2 ?k3 ?k4 ?k5 ?k6 ?hd ?hu ?_); (case k1 => with_reducible assumption); (case k2 => with_reducible assumption); (case k3 => with_reducible assumption); (case k4 => with_reducible assumption); (case k5 => with_reducible assumption); (case k6 => first | with_reducible assumption | kernel_rfl); (case hd => first | exact Nat.le_of_ble_eq_true rfl | omega); (case hu => first | exact Nat.le_of_ble_eq_true rfl | omega); intro x' d' h' tk' t1x t2x t3x F' N' l1 l2; (try k_sweep))
  | ((with_reducible show wpAny _ _ (call (Value.ref 255) [_, _]) _ _ _); (with_reducible refine' f_vec ?k1 ?k2 ?k3 ?k4 ?k5 ?k6 ?hd ?hu ?_); (case k1 => with_reducible assumption); (case k2 => with_reducible assumption); (case k3 => with_reducible assumption); (case k4 => with_reducible assumption); (case k5 => with_reducible assumption); (case k6 => first | with_reducible assumption | kernel_rfl); (case hd => first | exact Nat.le_of_ble_eq_true rfl | omega); (case hu => first | exact Nat.le_of_ble_eq_true rfl | omega); intro x' d' h' tk' t1x t2x t3x t4x t5x F' N' l1 l2; (try k_sweep))
  | ((with_reducible show wpAny _ _ (call (Value.ref 276) [_]) _ _ _); (with_reducible refine' f_sym ?k1 ?k2 ?k3 ?k4 ?k5 ?k6 ?hd ?hu ?_); (case k1 => with_reducible assumption); (case k2 => with_reducible assumption); (case k3 => with_reducible assumption); (case k4 => with_reducible assumption); (case k5 => with_reducible assumption); (case k6 => first | with_reducible assumption | kernel_rfl); (case hd => first | exact Nat.le_of_ble_eq_true rfl | omega); (case hu => first | exact Nat.le_of_ble_eq_true rfl | omega); intro x' d' h' tk' t1x t2x t3x t4x F' N' l1 l2; (try k_sweep))
  | ((with_reducible show wpAny _ _ (call (Value.ref 298) [_, _]) _ _ _); (with_reducible refine' f_call ?k1 ?k2 ?k3 ?k4 ?k5 ?k6 ?hd ?hu ?_); (case k1 => with_reducible assumption); (case k2 => with_reducible assumption); (case k3 => with_reducible assumption); (case k4 => with_reducible assumption); (case k5 => with_reducible assumption); (case k6 => first | with_reducible assumption | kernel_rfl); (case hd => first | exact Nat.le_of_ble_eq_true rfl | omega); (case hu => first | exact Nat.le_of_ble_eq_true rfl | omega); intro x' d' h' tk' t1x t2x t3x t4x t5x t6x F' N' l1 l2; (try k_sweep))
  | ((with_reducible show wpAny _ _ (call (Value.ref 319) [_, Value.bool false, _, _]) _ _ _); (with_reducible refine' f_bui ?k1 ?k2 ?k3 ?k4 ?k5 ?k6 ?hd ?hu ?_); (case k1 => with_reducible assumption); (case k2 => with_reducible assumption); (case k3 => with_reducible assumption); (case k4 => with_reducible assumption); (case k5 => with_reducible assumption); (case k6 => first | with_reducible assumption | kernel_rfl); (case hd => first | exact Nat.le_of_ble_eq_true rfl | omega); (case hu => first | exact Nat.le_of_ble_eq_true rfl | omega); intro x' d' h' tk' t1x t2x t3x t4x t5x t6x t7x F' N' l1 l2; (try k_sweep))))
section
variable {w : World} {p : Program} {loose : List Str} {mean : ExcName → Option Value} {mg mb : Str → Option Value} {dp un : Nat} {gd : Option (List Code)} {cn : Str} {cs : Scope} {a : Addr} {ccd : Value} {cl : List (Str × Addr)} {outer : List Env} {A₀ : Around} {base h₀ : Heap} {L : Addr}
    {m : Str → Option Value} {Q E : Value → Shared → Prop} {news : List (Addr × Obj)} {h : Heap} {gs : Array GenState} {d : Drawn} {tk : Nat} {os : OsState}
theorem c_character {li : Addr} {its : List Value} {n : Nat} (B : Below A₀ base outer h₀) (F : Fr h₀ L h m) (X : (frag w.params).In h₀) (N : News h₀ L h news) (T : Top p loose mean mg mb h₀) (hk : cs.kind = .function) (hdp : dp + 30 < recursionLimit) (hu : un + 460 < cLine) (hl : (li, listOf its.toArray n) ∈ news) (hz : Nat.ble its.length 1000 = true)
    (ret : ∀ (x dx ri : Addr) (c : Nat) (h' : Heap) (tk' : Nat) (t1 t2 t3 t4 t5 t6 : Tok), Fr h₀ L h' m → News h₀ L h' ((x, instObj 255 dx) :: (dx, dictOf [ent w "kind" t1 (.str (Str.ofString "character") t2), ent w "items" t3 (.ref ri), ent w "attrs" t4 .none, ent w "shared" t5 (.bool false), ent w "loose" t6 (.bool false)] 5) :: (ri, listOf its.toArray c) :: news) → (∀ q ∈ news, q.1 < ri) → (∀ q ∈ (ri, listOf its.toArray c) :: news, q.1 < dx) → @LT.lt Nat _ dx x → Q (.ref x) ⟨h', gs, d, tk', os⟩) :
    wpAny (model pw w) (ktrTop dp un gd cn cs L a ccd cl outer) (call (.ref 344) [.ref li]) Q E ⟨h, gs, d, tk, os⟩ := by
  repeat' (tb_start)
  exact ret _ _ _ _ _ _ _ _ _ _ _ _ (by k_asm) (by k_asm) (by assumption) (by assumption) (by assumption)
theorem c_get_attr_none {x dx C : Addr} {es : List DictEntry} {n : Nat} {nm : Str} {tn : Tok} (B : Below A₀ base outer h₀) (F : Fr h₀ L h m) (X : (frag w.params).In h₀) (N : News h₀ L h news) (T : Top p loose mean mg mb h₀) (hk : cs.kind = .function) (hdp : dp + 30 < recursionLimit) (hu : un + 460 < cLine) (hx : (x, instObj C dx) ∈ news) (hd : (dx, dictOf es n) ∈ news) (Z : NoAttrs (frag w.params) C es)
    (ret : ∀ (h' : Heap) (tk' : Nat), Fr h₀ L h' m → News h₀ L h' news → Q .none ⟨h', gs, d, tk', os⟩) :
    wpAny (model pw w) (ktrTop dp un gd cn cs L a ccd cl outer) (call (.ref 28) [.ref x, .str nm tn]) Q E ⟨h, gs, d, tk, os⟩ := by
  repeat' (tb_start)
  exact ret _ _ (by k_asm) (by k_asm)
theorem c_class_attr_none {x dx C : Addr} {es : List DictEntry} {n : Nat} (B : Below A₀ base outer h₀) (F : Fr h₀ L h m) (X : (frag w.params).In h₀) (N : News h₀ L h news) (T : Top p loose mean mg mb h₀) (hk : cs.kind = .function) (hdp : dp + 30 < recursionLimit) (hu : un + 460 < cLine) (hx : (x, instObj C dx) ∈ news) (hd : (dx, dictOf es n) ∈ news) (Z : NoAttrs (frag w.params) C es)
    (ret : ∀ (r : Addr) (h' : Heap) (tk' : Nat), Fr h₀ L h' m → News h₀ L h' ((r, listOf ([] : List Value).toArray 0) :: news) → (∀ q ∈ news, q.1 < r) → Q (.ref r) ⟨h', gs, d, tk', os⟩) :
    wpAny (model pw w) (ktrTop dp un gd cn cs L a ccd cl outer) (call (.ref 42) [.ref x]) Q E ⟨h, gs, d, tk, os⟩ := by
  repeat' (tb_start)
  exact ret _ _ _ (by k_asm) (by k_asm) (by assumption)
theorem c_shape_class_none {x dx C : Addr} {es : List DictEntry} {n : Nat} (B : Below A₀ base outer h₀) (F : Fr h₀ L h m) (X : (frag w.params).In h₀) (N : News h₀ L h news) (T : Top p loose mean mg mb h₀) (hk : cs.kind = .function) (hdp : dp + 30 < recursionLimit) (hu : un + 460 < cLine) (hx : (x, instObj C dx) ∈ news) (hd : (dx, dictOf es n) ∈ news) (Z : NoAttrs (frag w.params) C es)
    (ret : ∀ (r : Addr) (h' : Heap) (tk' : Nat), Fr h₀ L h' m → News h₀ L h' ((r, listOf ([] : List Value).toArray 0) :: news) → (∀ q ∈ news, q.1 < r) → Q (.ref r) ⟨h', gs, d, tk', os⟩) :
    wpAny (model pw w) (ktrTop dp un gd cn cs L a ccd cl outer) (call (.ref 56) [.ref x]) Q E ⟨h, gs, d, tk, os⟩ := by
  repeat' (tb_start)
  exact ret _ _ _ (by k_asm) (by k_asm) (by assumption)
end
local macro_rules | `(tactic| tb_start) => `(tactic| ((with_reducible refine at_call ?_); first
  | ((with_reducible show wpAny _ _ (call (Value.ref 344) [_]) _ _ _); (with_reducible refine' c_character ?k1 ?k2 ?k3 ?k4 ?k5 ?k6 ?hd ?hu ?hl ?hz ?_); (case k1 => with_reducible assumption); (case k2 => with_reducible assumption); (case k3 => with_reducible assumption); (case k4 => with_reducible assumption); (case k5 => with_reducible assumption); (case k6 => first | with_reducible assumption | kernel_rfl); (case hd => first | exact Nat.le_of_ble_eq_true rfl | omega); (case hu => first | exact Nat.le_of_ble_eq_true rfl | omega); (case hl => tb_rel); (case hz => first | with_reducible assumption | kernel_rfl!); intro x' dx' ri' c' h' tk' t1x t2x t3x t4x t5x t6x F' N' l1 l2 l3; (try k_sweep))
  | ((with_reducible show wpAny _ _ (call (Value.ref 42) [_]) _ _ _); (with_reducible refine' c_class_attr_none ?k1 ?k2 ?k3 ?k4 ?k5 ?k6 ?hd ?hu ?hx ?hd2 ?Z ?_); (case k1 => with_reducible assumption); (case k2 => with_reducible assumption); (case k3 => with_reducible assumption); (case k4 => with_reducible assumption); (case k5 => with_reducible assumption); (case k6 => first | with_reducible assumption | kernel_rfl); (case hd => first | exact Nat.le_of_ble_eq_true rfl | omega); (case hu => first | exact Nat.le_of_ble_eq_true rfl | omega); (case hx => tb_rel); (case hd2 => tb_rel); (case Z => with_reducible assumption); intro r' h' tk' F' N' l1; (try k_sweep))
  | ((with_reducible show wpAny _ _ (call (Value.ref 56) [_]) _ _ _); (with_reducible refine' c_shape_class_none ?k1 ?k2 ?k3 ?k4 ?k5 ?k6 ?hd ?hu ?hx ?hd2 ?Z ?_); (case k1 => with_reducible assumption); (case k2 => with_reducible assumption); (case k3 => with_reducible assumption); (case k4 => with_reducible assumption); (case k5 => with_reducible assumption); (case k6 => first | with_reducible assumption | kernel_rfl); (case hd => first | exact Nat.le_of_ble_eq_true rfl | omega); (case hu => first | exact Nat.le_of_ble_eq_true rfl | omega); (case hx => tb_rel); (case hd2 => tb_rel); (case Z => with_reducible assumption); intro r' h' tk' F' N' l1; (try k_sweep))))
section
variable {w : World} {p : Program} {loose : List Str} {mean : ExcName → Option Value} {mg mb : Str → Option Value} {dp un : Nat} {gd : Option (List Code)} {cn : Str} {cs : Scope} {a : Addr} {ccd : Value} {cl : List (Str × Addr)} {outer : List Env} {A₀ : Around} {base h₀ : Heap} {L : Addr}
    {m : Str → Option Value} {Q E : Value → Shared → Prop} {news : List (Addr × Obj)} {h : Heap} {gs : Array GenState} {d : Drawn} {tk : Nat} {os : OsState}
theorem c_names {x dx nl li : Addr} {nms : List Value} {n0 : Nat} {t1 t2 t3 t4 t5 t6 : Tok} (B : Below A₀ base outer h₀) (F : Fr h₀ L h m) (X : (frag w.params).In h₀) (N : News h₀ L h ((nl, listOf nms.toArray n0) :: (x, instObj 255 dx) :: (dx, dictOf [ent w "kind" t1 (.str (Str.ofString "character") t2), ent w "items" t3 (.ref li), ent w "attrs" t4 .none, ent w "shared" t5 (.bool false), ent w "loose" t6 (.bool false)] 5) :: news)) (T : Top p loose mean mg mb h₀) (hk : cs.kind = .function) (hdp : dp + 50 < recursionLimit) (hu : un + 500 < cLine) (h1 : ∀ q ∈ news, q.1 < dx) (h2 : @LT.lt Nat _ dx x) (h3 : @LT.lt Nat _ x nl) (hz : Nat.ble nms.length 1000 = true)
    (ret : ∀ (an nv dn ri : Addr) (c : Nat) (o : Obj) (h' : Heap) (tk' : Nat) (t1 t2 t3 t4 t5 t6 s1 s2 s3 s4 s5 s6 : Tok), Fr h₀ L h' m → News h₀ L h' ((nv, instObj 255 dn) :: (dn, dictOf [ent w "kind" s1 (.str (Str.ofString "character") s2), ent w "items" s3 (.ref ri), ent w "attrs" s4 .none, ent w "shared" s5 (.bool false), ent w "loose" s6 (.bool false)] 5) :: (ri, listOf nms.toArray c) :: (an, o) :: (nl, listOf nms.toArray n0) :: (x, instObj 255 dx) :: (dx, dictOf [ent w "kind" t1 (.str (Str.ofString "character") t2), ent w "items" t3 (.ref li), ent w "attrs" t4 (.ref an), ent w "shared" t5 (.bool false), ent w "loose" t6 (.bool false)] 5) :: news) → o.IsDictOf (PySem.strKind pw w) [(Str.ofString "names", .ref nv)] → Q (.ref x) ⟨h', gs, d, tk', os⟩) :
    wpAny (model pw w) (ktrTop dp un gd cn cs L a ccd cl outer) (call (.ref 457) [.ref x, .ref nl]) Q E ⟨h, gs, d, tk, os⟩ := by
  iterate 3 (tb_start)
  refine dict1 (by k_asm) (by k_asm) (Top.nolimit (by with_reducible assumption)) fun d1 h1' o1 tk1 F1 N1 l1 lo hd1 => ?_
  have l1a := lt_head1 l1
  have l1b : ∀ q ∈ news, q.1 < d1 := fun q hq => l1 q (.tail _ (.tail _ (.tail _ hq)))
  clear l1
  iterate 12 (first | (with_reducible show DictPut _ _ _ _ _ _ _ _ _) | tb_start)
  rename_i q1 q2 q3
  have q1' := lt_head1 q1
  have q2' := lt_head1 q2
  clear q1 q2
  refine' dict_put ?F ?N ?U hd1 ?k
  case F => k_asm
  case N => k_asm
  case U => tb_rel
  intro h2' o2 tk2 F2 N2 hd2
  try dsimp only at N2
  repeat' (tb_start)
  exact ret _ _ _ _ _ _ _ _ _ _ _ _ _ _ _ _ _ _ _ _ (by k_asm) (by k_asm) hd2
theorem c_class_attr_some {x dx an cv dv li ci : Addr} {o : Obj} {its : List Value} {c : Nat} {kd : Str} {u1 u2 u3 u4 u5 u6 w1 w2 w3 w4 w5 w6 : Tok} (B : Below A₀ base outer h₀) (F : Fr h₀ L h m) (X : (frag w.params).In h₀) (N : News h₀ L h news) (T : Top p loose mean mg mb h₀) (hk : cs.kind = .function) (hdp : dp + 30 < recursionLimit) (hu : un + 460 < cLine) (hx : (x, instObj 255 dx) ∈ news) (hd : (dx, dictOf [ent w "kind" u1 (.str kd u2), ent w "items" u3 (.ref li), ent w "attrs" u4 (.ref an), ent w "shared" u5 (.bool false), ent w "loose" u6 (.bool false)] 5) ∈ news) (ha : (an, o) ∈ news) (ho : o.IsDictOf (PySem.strKind pw w) [(Str.ofString "class", .ref cv)]) (lo : (an == sysModules) = false) (hv : (cv, instObj 255 dv) ∈ news) (hdv : (dv, dictOf [ent w "kind" w1 (.str (Str.ofString "character") w2), ent w "items" w3 (.ref ci), ent w "attrs" w4 .none, ent w "shared" w5 (.bool false), ent w "loose" w6 (.bool false)] 5) ∈ news) (hci : (ci, listOf its.toArray c) ∈ news) (hz : Nat.ble its.length 1000 = true)
    (ret : ∀ (r : Addr) (c' : Nat) (h' : Heap) (tk' : Nat), Fr h₀ L h' m → News h₀ L h' ((r, listOf its.toArray c') :: news) → (∀ q ∈ news, q.1 < r) → Q (.ref r) ⟨h', gs, d, tk', os⟩) :
    wpAny (model pw w) (ktrTop dp un gd cn cs L a ccd cl outer) (call (.ref 42) [.ref x]) Q E ⟨h, gs, d, tk, os⟩ := by
  w_on
  repeat' (first | tb_start | walk1)
  exact ret _ _ _ _ (by k_asm) (by k_asm) (by assumption)
end

end
local macro_rules | `(tactic| tb_start) => `(tactic| ((with_reducible refine at_call ?_); first
  | ((with_reducible show wpAny _ _ (call (Value.ref 226) []) _ _ _); (with_reducible refine' f_null ?k1 ?k2 ?k3 ?k4 ?k5 ?k6 ?hd ?hu ?_); (case k1 => with_reducible assumption); (case k2 => with_reducible assumption); (case k3 => with_reducible assumption); (case k4 => with_reducible assumption); (case k5 => with_reducible assumption); (case k6 => first | with_reducible assumption | kernel_rfl); (case hd => first | exact Nat.le_of_ble_eq_true rfl | omega); (case hu => first | exact Nat.le_of_ble_eq_true rfl | omega); intro x' d' h' tk' t1x t2x t3x F' N' l1 l2; (try k_sweep))
  | ((with_reducible show wpAny _ _ (call (Value.ref 255) [_, _]) _ _ _); (with_reducible refine' f_vec ?k1 ?k2 ?k3 ?k4 ?k5 ?k6 ?hd ?hu ?_); (case k1 => with_reducible assumption); (case k2 => with_reducible assumption); (case k3 => with_reducible assumption); (case k4 => with_reducible assumption); (case k5 => with_reducible assumption); (case k6 => first | with_reducible assumption | kernel_rfl); (case hd => first | exact Nat.le_of_ble_eq_true rfl | omega); (case hu => first | exact Nat.le_of_ble_eq_true rfl | omega); intro x' d' h' tk' t1x t2x t3x t4x t5x F' N' l1 l2; (try k_sweep))
  | ((with_reducible show wpAny _ _ (call (Value.ref 276) [_]) _ _ _); (with_reducible refine' f_sym ?k1 ?k2 ?k3 ?k4 ?k5 ?k6 ?hd ?hu ?_); (case k1 => with_reducible assumption); (case k2 => with_reducible assumption); (case k3 => with_reducible assumption); (case k4 => with_reducible assumption); (case k5 => with_reducible assumption); (case k6 => first | with_reducible assumption | kernel_rfl); (case hd => first | exact Nat.le_of_ble_eq_true rfl | omega); (case hu => first | exact Nat.le_of_ble_eq_true rfl | omega); intro x' d' h' tk' t1x t2x t3x t4x F' N' l1 l2; (try k_sweep))
  | ((with_reducible show wpAny _ _ (call (Value.ref 298) [_, _]) _ _ _); (with_reducible refine' f_call ?k1 ?k2 ?k3 ?k4 ?k5 ?k6 ?hd ?hu ?_); (case k1 => with_reducible assumption); (case k2 => with_reducible assumption); (case k3 => with_reducible assumption); (case k4 => with_reducible assumption); (case k5 => with_reducible assumption); (case k6 => first | with_reducible assumption | kernel_rfl); (case hd => first | exact Nat.le_of_ble_eq_true rfl | omega); (case hu => first | exact Nat.le_of_ble_eq_true rfl | omega); intro x' d' h' tk' t1x t2x t3x t4x t5x t6x F' N' l1 l2; (try k_sweep))
  | ((with_reducible show wpAny _ _ (call (Value.ref 319) [_, Value.bool false, _, _]) _ _ _); (with_reducible refine' f_bui ?k1 ?k2 ?k3 ?k4 ?k5 ?k6 ?hd ?hu ?_); (case k1 => with_reducible assumption); (case k2 => with_reducible assumption); (case k3 => with_reducible assumption); (case k4 => with_reducible assumption); (case k5 => with_reducible assumption); (case k6 => first | with_reducible assumption | kernel_rfl); (case hd => first | exact Nat.le_of_ble_eq_true rfl | omega); (case hu => first | exact Nat.le_of_ble_eq_true rfl | omega); intro x' d' h' tk' t1x t2x t3x t4x t5x t6x t7x F' N' l1 l2; (try k_sweep))))
local macro_rules | `(tactic| tb_start) => `(tactic| ((with_reducible refine at_call ?_); first
  | ((with_reducible show wpAny _ _ (call (Value.ref 344) [_]) _ _ _); (with_reducible refine' c_character ?k1 ?k2 ?k3 ?k4 ?k5 ?k6 ?hd ?hu ?hl ?hz ?_); (case k1 => with_reducible assumption); (case k2 => with_reducible assumption); (case k3 => with_reducible assumption); (case k4 => with_reducible assumption); (case k5 => with_reducible assumption); (case k6 => first | with_reducible assumption | kernel_rfl); (case hd => first | exact Nat.le_of_ble_eq_true rfl | omega); (case hu => first | exact Nat.le_of_ble_eq_true rfl | omega); (case hl => tb_rel); (case hz => first | with_reducible assumption | kernel_rfl!); intro x' dx' ri' c' h' tk' t1x t2x t3x t4x t5x t6x F' N' l1 l2 l3; (try k_sweep))
  | ((with_reducible show wpAny _ _ (call (Value.ref 42) [_]) _ _ _); (with_reducible refine' c_class_attr_none ?k1 ?k2 ?k3 ?k4 ?k5 ?k6 ?hd ?hu ?hx ?hd2 ?Z ?_); (case k1 => with_reducible assumption); (case k2 => with_reducible assumption); (case k3 => with_reducible assumption); (case k4 => with_reducible assumption); (case k5 => with_reducible assumption); (case k6 => first | with_reducible assumption | kernel_rfl); (case hd => first | exact Nat.le_of_ble_eq_true rfl | omega); (case hu => first | exact Nat.le_of_ble_eq_true rfl | omega); (case hx => tb_rel); (case hd2 => tb_rel); (case Z => with_reducible assumption); intro r' h' tk' F' N' l1; (try k_sweep))
  | ((with_reducible show wpAny _ _ (call (Value.ref 42) [_]) _ _ _); (with_reducible refine' c_class_attr_some ?k1 ?k2 ?k3 ?k4 ?k5 ?k6 ?hd ?hu ?hx ?hd2 ?ha ?ho ?lo ?hv ?hdv ?hci ?hz ?_); (case k1 => with_reducible assumption); (case k2 => with_reducible assumption); (case k3 => with_reducible assumption); (case k4 => with_reducible assumption); (case k5 => with_reducible assumption); (case k6 => first | with_reducible assumption | kernel_rfl); (case hd => first | exact Nat.le_of_ble_eq_true rfl | omega); (case hu => first | exact Nat.le_of_ble_eq_true rfl | omega); (case hx => tb_rel); (case hd2 => tb_rel); (case ha => tb_rel); (case ho => with_reducible assumption); (case lo => with_reducible assumption); (case hv => tb_rel); (case hdv => tb_rel); (case hci => tb_rel); (case hz => first | with_reducible assumption | kernel_rfl!); intro r' c' h' tk' F' N' l1; (try k_sweep))
  | ((with_reducible show wpAny _ _ (call (Value.ref 56) [_]) _ _ _); (with_reducible refine' c_shape_class_none ?k1 ?k2 ?k3 ?k4 ?k5 ?k6 ?hd ?hu ?hx ?hd2 ?Z ?_); (case k1 => with_reducible assumption); (case k2 => with_reducible assumption); (case k3 => with_reducible assumption); (case k4 => with_reducible assumption); (case k5 => with_reducible assumption); (case k6 => first | with_reducible assumption | kernel_rfl); (case hd => first | exact Nat.le_of_ble_eq_true rfl | omega); (case hu => first | exact Nat.le_of_ble_eq_true rfl | omega); (case hx => tb_rel); (case hd2 => tb_rel); (case Z => with_reducible assumption); intro r' h' tk' F' N' l1; (try k_sweep))
  | ((with_reducible show wpAny _ _ (call (Value.ref 457) [_, _]) _ _ _); (with_reducible refine' c_names ?k1 ?k2 ?k3 ?k4 ?k5 ?k6 ?hd ?hu ?h1 ?h2 ?h3 ?hz ?_); (case k1 => with_reducible assumption); (case k2 => with_reducible assumption); (case k3 => with_reducible assumption); (case k4 => with_reducible assumption); (case k5 => with_reducible assumption); (case k6 => first | with_reducible assumption | kernel_rfl); (case hd => first | exact Nat.le_of_ble_eq_true rfl | omega); (case hu => first | exact Nat.le_of_ble_eq_true rfl | omega); (case h1 => with_reducible assumption); (case h2 => with_reducible assumption); (case h3 => exact lt_head1 (by with_reducible assumption)); (case hz => first | with_reducible assumption | kernel_rfl!); intro an' nv' dn' ri' c' o' h' tk' t1x t2x t3x t4x t5x t6x s1x s2x s3x s4x s5x s6x F' N' hd'; (try k_sweep))))
section
variable {w : World} {p : Program} {loose : List Str} {mean : ExcName → Option Value} {mg mb : Str → Option Value} {dp un : Nat} {gd : Option (List Code)} {cn : Str} {cs : Scope} {a : Addr} {ccd : Value} {cl : List (Str × Addr)} {outer : List Env} {A₀ : Around} {base h₀ : Heap} {L : Addr}
    {m : Str → Option Value} {Q E : Value → Shared → Prop} {news : List (Addr × Obj)} {h : Heap} {gs : Array GenState} {d : Drawn} {tk : Nat} {os : OsState}
theorem c_sum_0 {al pt : Addr} {na : Nat} {to : Tok} {x dx : Addr} {u1 u2 u3 : Tok} (B : Below A₀ base outer h₀) (F : Fr h₀ L h m) (X : (frag w.params).In h₀) (N : News h₀ L h news) (T : Top p loose mean mg mb h₀) (hk : cs.kind = .function) (hdp : dp + 70 < recursionLimit) (hu : un + 540 < cLine) (hal : (al, listOf [.ref pt].toArray na) ∈ news) (hpt : (pt, tupOf [(.str (Str.ofString "object") to), .ref x]) ∈ news) (hx : (x, instObj 226 dx) ∈ news) (hd : (dx, dictOf [ent w "kind" u1 (.str (Str.ofString "NULL") u2), ent w "attrs" u3 .none] 2) ∈ news) 
    (ret : ∀ (r dr ri an nv dn nr : Addr) (c1 c2 : Nat) (o : Obj) (h' : Heap) (tk' : Nat) (t1 t2 t3 t4 t5 t6 s1 s2 s3 s4 s5 s6 z1 z2 z3 z4 z5 z6 : Tok) (news' : List (Addr × Obj)), Fr h₀ L h' m → News h₀ L h' news' → (∀ q ∈ news, q ∈ news') → (r, instObj 255 dr) ∈ news' → (dr, dictOf [ent w "kind" t1 (.str (Str.ofString "character") t2), ent w "items" t3 (.ref ri), ent w "attrs" t4 (.ref an), ent w "shared" t5 (.bool false), ent w "loose" t6 (.bool false)] 5) ∈ news' → (ri, listOf [.str (toString (0 : Int)) z1, .str (Str.ofString "NULL") z2, .str (Str.ofString "NULL") z3].toArray c1) ∈ news' → (an, o) ∈ news' → o.IsDictOf (PySem.strKind pw w) [(Str.ofString "names", .ref nv)] → (nv, instObj 255 dn) ∈ news' → (dn, dictOf [ent w "kind" s1 (.str (Str.ofString "character") s2), ent w "items" s3 (.ref nr), ent w "attrs" s4 .none, ent w "shared" s5 (.bool false), ent w "loose" s6 (.bool false)] 5) ∈ news' → (nr, listOf [(.str (Str.ofString "Length") z4), (.str (Str.ofString "Class") z5), (.str (Str.ofString "Mode") z6)].toArray c2) ∈ news' → Q (.ref r) ⟨h', gs, d, tk', os⟩) :
    wpAny (model pw w) (ktrTop dp un gd cn cs L a ccd cl outer) (call (.ref 497) [.none, .ref al, .none]) Q E ⟨h, gs, d, tk, os⟩ := by
  w_on
  have Z : NoAttrs (frag w.params) 226 [ent w "kind" u1 (.str (Str.ofString "NULL") u2), ent w "attrs" u3 .none] := ⟨by kernel_rfl, by kernel_rfl, by kernel_rfl, by kernel_rfl⟩
  repeat' (first | tb_start | walk1)
  (refine' ret _ _ _ _ _ _ _ _ _ _ _ _ _ _ _ _ _ _ _ _ _ _ _ _ _ _ _ _ _ _ _ ?F ?N ?S ?a ?b ?c ?d ?e ?f ?g ?i)
  case F => k_asm
  case N => k_asm
  case S => exact fun q hq => by repeat (first | exact hq | refine List.Mem.tail _ ?_)
  case a => tb_rel
  case b => tb_rel
  case c => tb_rel
  case d => tb_rel
  case e => k_asm
  case f => tb_rel
  case g => tb_rel
  case i => tb_rel
end
section
variable {w : World} {p : Program} {loose : List Str} {mean : ExcName → Option Value} {mg mb : Str → Option Value} {dp un : Nat} {gd : Option (List Code)} {cn : Str} {cs : Scope} {a : Addr} {ccd : Value} {cl : List (Str × Addr)} {outer : List Env} {A₀ : Around} {base h₀ : Heap} {L : Addr}
    {m : Str → Option Value} {Q E : Value → Shared → Prop} {news : List (Addr × Obj)} {h : Heap} {gs : Array GenState} {d : Drawn} {tk : Nat} {os : OsState}
theorem c_sum_1 {al pt : Addr} {na : Nat} {to : Tok} {x dx : Addr} {u1 u2 u3 u4 u5 : Tok} (B : Below A₀ base outer h₀) (F : Fr h₀ L h m) (X : (frag w.params).In h₀) (N : News h₀ L h news) (T : Top p loose mean mg mb h₀) (hk : cs.kind = .function) (hdp : dp + 70 < recursionLimit) (hu : un + 540 < cLine) (hal : (al, listOf [.ref pt].toArray na) ∈ news) (hpt : (pt, tupOf [(.str (Str.ofString "object") to), .ref x]) ∈ news) (hx : (x, instObj 276 dx) ∈ news) (hd : (dx, dictOf [ent w "kind" u1 (.str (Str.ofString "symbol") u2), ent w "name" u3 (.str (Str.ofString "s") u4), ent w "attrs" u5 .none] 3) ∈ news) 
    (ret : ∀ (r dr ri an nv dn nr : Addr) (c1 c2 : Nat) (o : Obj) (h' : Heap) (tk' : Nat) (t1 t2 t3 t4 t5 t6 s1 s2 s3 s4 s5 s6 z1 z2 z3 z4 z5 z6 : Tok) (news' : List (Addr × Obj)), Fr h₀ L h' m → News h₀ L h' news' → (∀ q ∈ news, q ∈ news') → (r, instObj 255 dr) ∈ news' → (dr, dictOf [ent w "kind" t1 (.str (Str.ofString "character") t2), ent w "items" t3 (.ref ri), ent w "attrs" t4 (.ref an), ent w "shared" t5 (.bool false), ent w "loose" t6 (.bool false)] 5) ∈ news' → (ri, listOf [.str (toString (1 : Int)) z1, .str (Str.ofString "name") z2, .str (Str.ofString "name") z3].toArray c1) ∈ news' → (an, o) ∈ news' → o.IsDictOf (PySem.strKind pw w) [(Str.ofString "names", .ref nv)] → (nv, instObj 255 dn) ∈ news' → (dn, dictOf [ent w "kind" s1 (.str (Str.ofString "character") s2), ent w "items" s3 (.ref nr), ent w "attrs" s4 .none, ent w "shared" s5 (.bool false), ent w "loose" s6 (.bool false)] 5) ∈ news' → (nr, listOf [(.str (Str.ofString "Length") z4), (.str (Str.ofString "Class") z5), (.str (Str.ofString "Mode") z6)].toArray c2) ∈ news' → Q (.ref r) ⟨h', gs, d, tk', os⟩) :
    wpAny (model pw w) (ktrTop dp un gd cn cs L a ccd cl outer) (call (.ref 497) [.none, .ref al, .none]) Q E ⟨h, gs, d, tk, os⟩ := by
  w_on
  have Z : NoAttrs (frag w.params) 276 [ent w "kind" u1 (.str (Str.ofString "symbol") u2), ent w "name" u3 (.str (Str.ofString "s") u4), ent w "attrs" u5 .none] := ⟨by kernel_rfl, by kernel_rfl, by kernel_rfl, by kernel_rfl⟩
  repeat' (first | tb_start | walk1)
  (refine' ret _ _ _ _ _ _ _ _ _ _ _ _ _ _ _ _ _ _ _ _ _ _ _ _ _ _ _ _ _ _ _ ?F ?N ?S ?a ?b ?c ?d ?e ?f ?g ?i)
  case F => k_asm
  case N => k_asm
  case S => exact fun q hq => by repeat (first | exact hq | refine List.Mem.tail _ ?_)
  case a => tb_rel
  case b => tb_rel
  case c => tb_rel
  case d => tb_rel
  case e => k_asm
  case f => tb_rel
  case g => tb_rel
  case i => tb_rel

theorem c_sum_2 {al pt : Addr} {na : Nat} {to : Tok} {x dx x1 d1 li : Addr} {tgs : Value} {nl : Nat} {w1 w2 w3 w4 w5 : Tok} {u1 u2 u3 u4 u5 u6 : Tok} {vs : List Value} {k : Int} (B : Below A₀ base outer h₀) (F : Fr h₀ L h m) (X : (frag w.params).In h₀) (N : News h₀ L h news) (T : Top p loose mean mg mb h₀) (hk : cs.kind = .function) (hdp : dp + 70 < recursionLimit) (hu : un + 540 < cLine) (hal : (al, listOf [.ref pt].toArray na) ∈ news) (hpt : (pt, tupOf [(.str (Str.ofString "object") to), .ref x]) ∈ news) (hx : (x, instObj 298 dx) ∈ news) (hd : (dx, dictOf [ent w "kind" u1 (.str (Str.ofString "language") u2), ent w "items" u3 (.ref li), ent w "tags" u4 tgs, ent w "attrs" u5 .none, ent w "code" u6 .none] 5) ∈ news) (hli : (li, listOf (.ref x1 :: vs).toArray nl) ∈ news) (hx1 : (x1, instObj 276 d1) ∈ news) (hd1 : (d1, dictOf [ent w "kind" w1 (.str (Str.ofString "symbol") w2), ent w "name" w3 (.str (Str.ofString "f") w4), ent w "attrs" w5 .none] 3) ∈ news) (hlen : ((((.ref x1 :: vs : List Value)).length : Nat) : Int) = k) (hz : Nat.ble (.ref x1 :: vs : List Value).length 1000 = true) (hk0 : 0 ≤ k) (hk1 : k < 1000)
    (ret : ∀ (r dr ri an nv dn nr : Addr) (c1 c2 : Nat) (o : Obj) (h' : Heap) (tk' : Nat) (t1 t2 t3 t4 t5 t6 s1 s2 s3 s4 s5 s6 z1 z2 z3 z4 z5 z6 : Tok) (news' : List (Addr × Obj)), Fr h₀ L h' m → News h₀ L h' news' → (∀ q ∈ news, q ∈ news') → (r, instObj 255 dr) ∈ news' → (dr, dictOf [ent w "kind" t1 (.str (Str.ofString "character") t2), ent w "items" t3 (.ref ri), ent w "attrs" t4 (.ref an), ent w "shared" t5 (.bool false), ent w "loose" t6 (.bool false)] 5) ∈ news' → (ri, listOf [.str (toString k) z1, .str (Str.ofString "call") z2, .str (Str.ofString "call") z3].toArray c1) ∈ news' → (an, o) ∈ news' → o.IsDictOf (PySem.strKind pw w) [(Str.ofString "names", .ref nv)] → (nv, instObj 255 dn) ∈ news' → (dn, dictOf [ent w "kind" s1 (.str (Str.ofString "character") s2), ent w "items" s3 (.ref nr), ent w "attrs" s4 .none, ent w "shared" s5 (.bool false), ent w "loose" s6 (.bool false)] 5) ∈ news' → (nr, listOf [(.str (Str.ofString "Length") z4), (.str (Str.ofString "Class") z5), (.str (Str.ofString "Mode") z6)].toArray c2) ∈ news' → Q (.ref r) ⟨h', gs, d, tk', os⟩) :
    wpAny (model pw w) (ktrTop dp un gd cn cs L a ccd cl outer) (call (.ref 497) [.none, .ref al, .none]) Q E ⟨h, gs, d, tk, os⟩ := by
  w_on
  have Z : NoAttrs (frag w.params) 298 [ent w "kind" u1 (.str (Str.ofString "language") u2), ent w "items" u3 (.ref li), ent w "tags" u4 tgs, ent w "attrs" u5 .none, ent w "code" u6 .none] := ⟨by kernel_rfl, by kernel_rfl, by kernel_rfl, by kernel_rfl⟩
  repeat' (first | tb_start | walk1)
  (refine' ret _ _ _ _ _ _ _ _ _ _ _ _ _ _ _ _ _ _ _ _ _ _ _ _ _ _ _ _ _ _ _ ?F ?N ?S ?a ?b ?c ?d ?e ?f ?g ?i)
  case F => k_asm
  case N => k_asm
  case S => exact fun q hq => by repeat (first | exact hq | refine List.Mem.tail _ ?_)
  case a => tb_rel
  case b => tb_rel
  case c => tb_rel
  case d => tb_rel
  case e => k_asm
  case f => tb_rel
  case g => tb_rel
  case i => tb_rel

theorem c_sum_3 {al pt : Addr} {na : Nat} {to : Tok} {x dx x1 d1 li : Addr} {tgs : Value} {nl : Nat} {w1 w2 w3 w4 w5 : Tok} {u1 u2 u3 u4 u5 u6 : Tok} {x2 : Addr} (B : Below A₀ base outer h₀) (F : Fr h₀ L h m) (X : (frag w.params).In h₀) (N : News h₀ L h news) (T : Top p loose mean mg mb h₀) (hk : cs.kind = .function) (hdp : dp + 70 < recursionLimit) (hu : un + 540 < cLine) (hal : (al, listOf [.ref pt].toArray na) ∈ news) (hpt : (pt, tupOf [(.str (Str.ofString "object") to), .ref x]) ∈ news) (hx : (x, instObj 298 dx) ∈ news) (hd : (dx, dictOf [ent w "kind" u1 (.str (Str.ofString "language") u2), ent w "items" u3 (.ref li), ent w "tags" u4 tgs, ent w "attrs" u5 .none, ent w "code" u6 .none] 5) ∈ news) (hli : (li, listOf [.ref x1, .ref x2].toArray nl) ∈ news) (hx1 : (x1, instObj 276 d1) ∈ news) (hd1 : (d1, dictOf [ent w "kind" w1 (.str (Str.ofString "symbol") w2), ent w "name" w3 (.str (Str.ofString "(") w4), ent w "attrs" w5 .none] 3) ∈ news)
    (ret : ∀ (r dr ri an nv dn nr : Addr) (c1 c2 : Nat) (o : Obj) (h' : Heap) (tk' : Nat) (t1 t2 t3 t4 t5 t6 s1 s2 s3 s4 s5 s6 z1 z2 z3 z4 z5 z6 : Tok) (news' : List (Addr × Obj)), Fr h₀ L h' m → News h₀ L h' news' → (∀ q ∈ news, q ∈ news') → (r, instObj 255 dr) ∈ news' → (dr, dictOf [ent w "kind" t1 (.str (Str.ofString "character") t2), ent w "items" t3 (.ref ri), ent w "attrs" t4 (.ref an), ent w "shared" t5 (.bool false), ent w "loose" t6 (.bool false)] 5) ∈ news' → (ri, listOf [.str (toString (2 : Int)) z1, .str (Str.ofString "(") z2, .str (Str.ofString "(") z3].toArray c1) ∈ news' → (an, o) ∈ news' → o.IsDictOf (PySem.strKind pw w) [(Str.ofString "names", .ref nv)] → (nv, instObj 255 dn) ∈ news' → (dn, dictOf [ent w "kind" s1 (.str (Str.ofString "character") s2), ent w "items" s3 (.ref nr), ent w "attrs" s4 .none, ent w "shared" s5 (.bool false), ent w "loose" s6 (.bool false)] 5) ∈ news' → (nr, listOf [(.str (Str.ofString "Length") z4), (.str (Str.ofString "Class") z5), (.str (Str.ofString "Mode") z6)].toArray c2) ∈ news' → Q (.ref r) ⟨h', gs, d, tk', os⟩) :
    wpAny (model pw w) (ktrTop dp un gd cn cs L a ccd cl outer) (call (.ref 497) [.none, .ref al, .none]) Q E ⟨h, gs, d, tk, os⟩ := by
  w_on
  have Z : NoAttrs (frag w.params) 298 [ent w "kind" u1 (.str (Str.ofString "language") u2), ent w "items" u3 (.ref li), ent w "tags" u4 tgs, ent w "attrs" u5 .none, ent w "code" u6 .none] := ⟨by kernel_rfl, by kernel_rfl, by kernel_rfl, by kernel_rfl⟩
  have hlen : ((([.ref x1, .ref x2] : List Value).length : Nat) : Int) = 2 := rfl
  repeat' (first | tb_start | walk1)
  (refine' ret _ _ _ _ _ _ _ _ _ _ _ _ _ _ _ _ _ _ _ _ _ _ _ _ _ _ _ _ _ _ _ ?F ?N ?S ?a ?b ?c ?d ?e ?f ?g ?i)
  case F => k_asm
  case N => k_asm
  case S => exact fun q hq => by repeat (first | exact hq | refine List.Mem.tail _ ?_)
  case a => tb_rel
  case b => tb_rel
  case c => tb_rel
  case d => tb_rel
  case e => k_asm
  case f => tb_rel
  case g => tb_rel
  case i => tb_rel

theorem c_sum_4 {al pt : Addr} {na : Nat} {to : Tok} {x dx : Addr} {fnv gpv : Value} {u7 u8 : Tok} {u1 u2 u3 u4 u5 u6 : Tok} (B : Below A₀ base outer h₀) (F : Fr h₀ L h m) (X : (frag w.params).In h₀) (N : News h₀ L h news) (T : Top p loose mean mg mb h₀) (hk : cs.kind = .function) (hdp : dp + 70 < recursionLimit) (hu : un + 540 < cLine) (hal : (al, listOf [.ref pt].toArray na) ∈ news) (hpt : (pt, tupOf [(.str (Str.ofString "object") to), .ref x]) ∈ news) (hx : (x, instObj 319 dx) ∈ news) (hd : (dx, dictOf [ent w "kind" u1 (.str (Str.ofString "builtin") u2), ent w "name" u3 (.str (Str.ofString "f") u4), ent w "special" u5 (.bool false), ent w "fn" u6 fnv, ent w "group" u7 gpv, ent w "attrs" u8 .none] 6) ∈ news) 
    (ret : ∀ (r dr ri an nv dn nr : Addr) (c1 c2 : Nat) (o : Obj) (h' : Heap) (tk' : Nat) (t1 t2 t3 t4 t5 t6 s1 s2 s3 s4 s5 s6 z1 z2 z3 z4 z5 z6 : Tok) (news' : List (Addr × Obj)), Fr h₀ L h' m → News h₀ L h' news' → (∀ q ∈ news, q ∈ news') → (r, instObj 255 dr) ∈ news' → (dr, dictOf [ent w "kind" t1 (.str (Str.ofString "character") t2), ent w "items" t3 (.ref ri), ent w "attrs" t4 (.ref an), ent w "shared" t5 (.bool false), ent w "loose" t6 (.bool false)] 5) ∈ news' → (ri, listOf [.str (toString (1 : Int)) z1, .str (Str.ofString "function") z2, .str (Str.ofString "function") z3].toArray c1) ∈ news' → (an, o) ∈ news' → o.IsDictOf (PySem.strKind pw w) [(Str.ofString "names", .ref nv)] → (nv, instObj 255 dn) ∈ news' → (dn, dictOf [ent w "kind" s1 (.str (Str.ofString "character") s2), ent w "items" s3 (.ref nr), ent w "attrs" s4 .none, ent w "shared" s5 (.bool false), ent w "loose" s6 (.bool false)] 5) ∈ news' → (nr, listOf [(.str (Str.ofString "Length") z4), (.str (Str.ofString "Class") z5), (.str (Str.ofString "Mode") z6)].toArray c2) ∈ news' → Q (.ref r) ⟨h', gs, d, tk', os⟩) :
    wpAny (model pw w) (ktrTop dp un gd cn cs L a ccd cl outer) (call (.ref 497) [.none, .ref al, .none]) Q E ⟨h, gs, d, tk, os⟩ := by
  w_on
  have Z : NoAttrs (frag w.params) 319 [ent w "kind" u1 (.str (Str.ofString "builtin") u2), ent w "name" u3 (.str (Str.ofString "f") u4), ent w "special" u5 (.bool false), ent w "fn" u6 fnv, ent w "group" u7 gpv, ent w "attrs" u8 .none] := ⟨by kernel_rfl, by kernel_rfl, by kernel_rfl, by kernel_rfl⟩
  repeat' (first | tb_start | walk1)
  (refine' ret _ _ _ _ _ _ _ _ _ _ _ _ _ _ _ _ _ _ _ _ _ _ _ _ _ _ _ _ _ _ _ ?F ?N ?S ?a ?b ?c ?d ?e ?f ?g ?i)
  case F => k_asm
  case N => k_asm
  case S => exact fun q hq => by repeat (first | exact hq | refine List.Mem.tail _ ?_)
  case a => tb_rel
  case b => tb_rel
  case c => tb_rel
  case d => tb_rel
  case e => k_asm
  case f => tb_rel
  case g => tb_rel
  case i => tb_rel
end
section
variable {w : World} {p : Program} {loose : List Str} {mean : ExcName → Option Value} {mg mb : Str → Option Value} {dp un : Nat} {gd : Option (List Code)} {cn : Str} {cs : Scope} {a : Addr} {ccd : Value} {cl : List (Str × Addr)} {outer : List Env} {A₀ : Around} {base h₀ : Heap} {L : Addr}
    {m : Str → Option Value} {Q E : Value → Shared → Prop} {news : List (Addr × Obj)} {h : Heap} {gs : Array GenState} {d : Drawn} {tk : Nat} {os : OsState}
theorem c_sum_5 {al pt : Addr} {na : Nat} {to : Tok} {x dx li : Addr} {nl : Nat} {vs : List Value} {k : Int} {u1 u2 u3 u4 u5 u6 : Tok} (B : Below A₀ base outer h₀) (F : Fr h₀ L h m) (X : (frag w.params).In h₀) (N : News h₀ L h news) (T : Top p loose mean mg mb h₀) (hk : cs.kind = .function) (hdp : dp + 70 < recursionLimit) (hu : un + 540 < cLine) (hal : (al, listOf [.ref pt].toArray na) ∈ news) (hpt : (pt, tupOf [(.str (Str.ofString "object") to), .ref x]) ∈ news) (hx : (x, instObj 255 dx) ∈ news) (hd : (dx, dictOf [ent w "kind" u1 (.str (Str.ofString "character") u2), ent w "items" u3 (.ref li), ent w "attrs" u4 .none, ent w "shared" u5 (.bool false), ent w "loose" u6 (.bool false)] 5) ∈ news) (hli : (li, listOf vs.toArray nl) ∈ news) (hlen : ((vs.length : Nat) : Int) = k) (hz : Nat.ble vs.length 1000 = true) (hk0 : 0 ≤ k) (hk1 : k < 1000)
    (ret : ∀ (r dr ri an nv dn nr : Addr) (c1 c2 : Nat) (o : Obj) (h' : Heap) (tk' : Nat) (t1 t2 t3 t4 t5 t6 s1 s2 s3 s4 s5 s6 z1 z2 z3 z4 z5 z6 : Tok) (news' : List (Addr × Obj)), Fr h₀ L h' m → News h₀ L h' news' → (∀ q ∈ news, q ∈ news') → (r, instObj 255 dr) ∈ news' → (dr, dictOf [ent w "kind" t1 (.str (Str.ofString "character") t2), ent w "items" t3 (.ref ri), ent w "attrs" t4 (.ref an), ent w "shared" t5 (.bool false), ent w "loose" t6 (.bool false)] 5) ∈ news' → (ri, listOf [.str (toString k) z1, .str (Str.ofString "character") z2, .str (Str.ofString "character") z3].toArray c1) ∈ news' → (an, o) ∈ news' → o.IsDictOf (PySem.strKind pw w) [(Str.ofString "names", .ref nv)] → (nv, instObj 255 dn) ∈ news' → (dn, dictOf [ent w "kind" s1 (.str (Str.ofString "character") s2), ent w "items" s3 (.ref nr), ent w "attrs" s4 .none, ent w "shared" s5 (.bool false), ent w "loose" s6 (.bool false)] 5) ∈ news' → (nr, listOf [(.str (Str.ofString "Length") z4), (.str (Str.ofString "Class") z5), (.str (Str.ofString "Mode") z6)].toArray c2) ∈ news' → Q (.ref r) ⟨h', gs, d, tk', os⟩) :
    wpAny (model pw w) (ktrTop dp un gd cn cs L a ccd cl outer) (call (.ref 497) [.none, .ref al, .none]) Q E ⟨h, gs, d, tk, os⟩ := by
  w_on
  have Z : NoAttrs (frag w.params) 255 [ent w "kind" u1 (.str (Str.ofString "character") u2), ent w "items" u3 (.ref li), ent w "attrs" u4 .none, ent w "shared" u5 (.bool false), ent w "loose" u6 (.bool false)] := ⟨by kernel_rfl, by kernel_rfl, by kernel_rfl, by kernel_rfl⟩
  repeat' (first | tb_start | walk1)
  (refine' ret _ _ _ _ _ _ _ _ _ _ _ _ _ _ _ _ _ _ _ _ _ _ _ _ _ _ _ _ _ _ _ ?F ?N ?S ?a ?b ?c ?d ?e ?f ?g ?i)
  case F => k_asm
  case N => k_asm
  case S => exact fun q hq => by repeat (first | exact hq | refine List.Mem.tail _ ?_)
  case a => tb_rel
  case b => tb_rel
  case c => tb_rel
  case d => tb_rel
  case e => k_asm
  case f => tb_rel
  case g => tb_rel
  case i => tb_rel

theorem c_sum_6 {al pt : Addr} {na : Nat} {to : Tok} {x dx li : Addr} {nl : Nat} {vs : List Value} {k : Int} {u1 u2 u3 u4 u5 u6 : Tok} (B : Below A₀ base outer h₀) (F : Fr h₀ L h m) (X : (frag w.params).In h₀) (N : News h₀ L h news) (T : Top p loose mean mg mb h₀) (hk : cs.kind = .function) (hdp : dp + 70 < recursionLimit) (hu : un + 540 < cLine) (hal : (al, listOf [.ref pt].toArray na) ∈ news) (hpt : (pt, tupOf [(.str (Str.ofString "object") to), .ref x]) ∈ news) (hx : (x, instObj 255 dx) ∈ news) (hd : (dx, dictOf [ent w "kind" u1 (.str (Str.ofString "list") u2), ent w "items" u3 (.ref li), ent w "attrs" u4 .none, ent w "shared" u5 (.bool false), ent w "loose" u6 (.bool false)] 5) ∈ news) (hli : (li, listOf vs.toArray nl) ∈ news) (hlen : ((vs.length : Nat) : Int) = k) (hz : Nat.ble vs.length 1000 = true) (hk0 : 0 ≤ k) (hk1 : k < 1000)
    (ret : ∀ (r dr ri an nv dn nr : Addr) (c1 c2 : Nat) (o : Obj) (h' : Heap) (tk' : Nat) (t1 t2 t3 t4 t5 t6 s1 s2 s3 s4 s5 s6 z1 z2 z3 z4 z5 z6 : Tok) (news' : List (Addr × Obj)), Fr h₀ L h' m → News h₀ L h' news' → (∀ q ∈ news, q ∈ news') → (r, instObj 255 dr) ∈ news' → (dr, dictOf [ent w "kind" t1 (.str (Str.ofString "character") t2), ent w "items" t3 (.ref ri), ent w "attrs" t4 (.ref an), ent w "shared" t5 (.bool false), ent w "loose" t6 (.bool false)] 5) ∈ news' → (ri, listOf [.str (toString k) z1, .str (Str.ofString "-none-") z2, .str (Str.ofString "list") z3].toArray c1) ∈ news' → (an, o) ∈ news' → o.IsDictOf (PySem.strKind pw w) [(Str.ofString "names", .ref nv)] → (nv, instObj 255 dn) ∈ news' → (dn, dictOf [ent w "kind" s1 (.str (Str.ofString "character") s2), ent w "items" s3 (.ref nr), ent w "attrs" s4 .none, ent w "shared" s5 (.bool false), ent w "loose" s6 (.bool false)] 5) ∈ news' → (nr, listOf [(.str (Str.ofString "Length") z4), (.str (Str.ofString "Class") z5), (.str (Str.ofString "Mode") z6)].toArray c2) ∈ news' → Q (.ref r) ⟨h', gs, d, tk', os⟩) :
    wpAny (model pw w) (ktrTop dp un gd cn cs L a ccd cl outer) (call (.ref 497) [.none, .ref al, .none]) Q E ⟨h, gs, d, tk, os⟩ := by
  w_on
  have Z : NoAttrs (frag w.params) 255 [ent w "kind" u1 (.str (Str.ofString "list") u2), ent w "items" u3 (.ref li), ent w "attrs" u4 .none, ent w "shared" u5 (.bool false), ent w "loose" u6 (.bool false)] := ⟨by kernel_rfl, by kernel_rfl, by kernel_rfl, by kernel_rfl⟩
  repeat' (first | tb_start | walk1)
  (refine' ret _ _ _ _ _ _ _ _ _ _ _ _ _ _ _ _ _ _ _ _ _ _ _ _ _ _ _ _ _ _ _ ?F ?N ?S ?a ?b ?c ?d ?e ?f ?g ?i)
  case F => k_asm
  case N => k_asm
  case S => exact fun q hq => by repeat (first | exact hq | refine List.Mem.tail _ ?_)
  case a => tb_rel
  case b => tb_rel
  case c => tb_rel
  case d => tb_rel
  case e => k_asm
  case f => tb_rel
  case g => tb_rel
  case i => tb_rel

theorem c_sum_7 {al pt : Addr} {na : Nat} {to : Tok} {x dx li : Addr} {nl : Nat} {vs : List Value} {k : Int} {u1 u2 u3 u4 u5 u6 : Tok} (B : Below A₀ base outer h₀) (F : Fr h₀ L h m) (X : (frag w.params).In h₀) (N : News h₀ L h news) (T : Top p loose mean mg mb h₀) (hk : cs.kind = .function) (hdp : dp + 70 < recursionLimit) (hu : un + 540 < cLine) (hal : (al, listOf [.ref pt].toArray na) ∈ news) (hpt : (pt, tupOf [(.str (Str.ofString "object") to), .ref x]) ∈ news) (hx : (x, instObj 255 dx) ∈ news) (hd : (dx, dictOf [ent w "kind" u1 (.str (Str.ofString "expression") u2), ent w "items" u3 (.ref li), ent w "attrs" u4 .none, ent w "shared" u5 (.bool false), ent w "loose" u6 (.bool false)] 5) ∈ news) (hli : (li, listOf vs.toArray nl) ∈ news) (hlen : ((vs.length : Nat) : Int) = k) (hz : Nat.ble vs.length 1000 = true) (hk0 : 0 ≤ k) (hk1 : k < 1000)
    (ret : ∀ (r dr ri an nv dn nr : Addr) (c1 c2 : Nat) (o : Obj) (h' : Heap) (tk' : Nat) (t1 t2 t3 t4 t5 t6 s1 s2 s3 s4 s5 s6 z1 z2 z3 z4 z5 z6 : Tok) (news' : List (Addr × Obj)), Fr h₀ L h' m → News h₀ L h' news' → (∀ q ∈ news, q ∈ news') → (r, instObj 255 dr) ∈ news' → (dr, dictOf [ent w "kind" t1 (.str (Str.ofString "character") t2), ent w "items" t3 (.ref ri), ent w "attrs" t4 (.ref an), ent w "shared" t5 (.bool false), ent w "loose" t6 (.bool false)] 5) ∈ news' → (ri, listOf [.str (toString k) z1, .str (Str.ofString "-none-") z2, .str (Str.ofString "expression") z3].toArray c1) ∈ news' → (an, o) ∈ news' → o.IsDictOf (PySem.strKind pw w) [(Str.ofString "names", .ref nv)] → (nv, instObj 255 dn) ∈ news' → (dn, dictOf [ent w "kind" s1 (.str (Str.ofString "character") s2), ent w "items" s3 (.ref nr), ent w "attrs" s4 .none, ent w "shared" s5 (.bool false), ent w "loose" s6 (.bool false)] 5) ∈ news' → (nr, listOf [(.str (Str.ofString "Length") z4), (.str (Str.ofString "Class") z5), (.str (Str.ofString "Mode") z6)].toArray c2) ∈ news' → Q (.ref r) ⟨h', gs, d, tk', os⟩) :
    wpAny (model pw w) (ktrTop dp un gd cn cs L a ccd cl outer) (call (.ref 497) [.none, .ref al, .none]) Q E ⟨h, gs, d, tk, os⟩ := by
  w_on
  have Z : NoAttrs (frag w.params) 255 [ent w "kind" u1 (.str (Str.ofString "expression") u2), ent w "items" u3 (.ref li), ent w "attrs" u4 .none, ent w "shared" u5 (.bool false), ent w "loose" u6 (.bool false)] := ⟨by kernel_rfl, by kernel_rfl, by kernel_rfl, by kernel_rfl⟩
  repeat' (first | tb_start | walk1)
  (refine' ret _ _ _ _ _ _ _ _ _ _ _ _ _ _ _ _ _ _ _ _ _ _ _ _ _ _ _ _ _ _ _ ?F ?N ?S ?a ?b ?c ?d ?e ?f ?g ?i)
  case F => k_asm
  case N => k_asm
  case S => exact fun q hq => by repeat (first | exact hq | refine List.Mem.tail _ ?_)
  case a => tb_rel
  case b => tb_rel
  case c => tb_rel
  case d => tb_rel
  case e => k_asm
  case f => tb_rel
  case g => tb_rel
  case i => tb_rel
end
section
variable {w : World} {p : Program} {loose : List Str} {mean : ExcName → Option Value} {mg mb : Str → Option Value} {dp un : Nat} {gd : Option (List Code)} {cn : Str} {cs : Scope} {a : Addr} {ccd : Value} {cl : List (Str × Addr)} {outer : List Env} {A₀ : Around} {base h₀ : Heap} {L : Addr}
    {m : Str → Option Value} {Q E : Value → Shared → Prop} {news : List (Addr × Obj)} {h : Heap} {gs : Array GenState} {d : Drawn} {tk : Nat} {os : OsState}
theorem c_sum_8 {al pt : Addr} {na : Nat} {to : Tok} {x dx li : Addr} {nl : Nat} {vs : List Value} {k : Int} {u1 u2 u3 u4 u5 u6 : Tok} {av cv dv ci : Addr} {oa : Obj} {c : Nat} {w1 w2 w3 w4 w5 w6 y1 y2 : Tok} (B : Below A₀ base outer h₀) (F : Fr h₀ L h m) (X : (frag w.params).In h₀) (N : News h₀ L h news) (T : Top p loose mean mg mb h₀) (hk : cs.kind = .function) (hdp : dp + 70 < recursionLimit) (hu : un + 540 < cLine) (hal : (al, listOf [.ref pt].toArray na) ∈ news) (hpt : (pt, tupOf [(.str (Str.ofString "object") to), .ref x]) ∈ news) (hx : (x, instObj 255 dx) ∈ news) (hd : (dx, dictOf [ent w "kind" u1 (.str (Str.ofString "character") u2), ent w "items" u3 (.ref li), ent w "attrs" u4 (.ref av), ent w "shared" u5 (.bool false), ent w "loose" u6 (.bool false)] 5) ∈ news) (hli : (li, listOf vs.toArray nl) ∈ news) (hlen : ((vs.length : Nat) : Int) = k) (hz : Nat.ble vs.length 1000 = true) (hk0 : 0 ≤ k) (hk1 : k < 1000) (hat : (av, oa) ∈ news) (hoa : oa.IsDictOf (PySem.strKind pw w) [(Str.ofString "class", .ref cv)]) (hlo : (av == sysModules) = false) (hcv : (cv, instObj 255 dv) ∈ news) (hdv : (dv, dictOf [ent w "kind" w1 (.str (Str.ofString "character") w2), ent w "items" w3 (.ref ci), ent w "attrs" w4 .none, ent w "shared" w5 (.bool false), ent w "loose" w6 (.bool false)] 5) ∈ news) (hci : (ci, listOf [(.str (Str.ofString "mine") y1), (.str (Str.ofString "other") y2)].toArray c) ∈ news)
    (ret : ∀ (r dr ri an nv dn nr : Addr) (c1 c2 : Nat) (o : Obj) (h' : Heap) (tk' : Nat) (t1 t2 t3 t4 t5 t6 s1 s2 s3 s4 s5 s6 z1 z2 z3 z4 z5 z6 : Tok) (news' : List (Addr × Obj)), Fr h₀ L h' m → News h₀ L h' news' → (∀ q ∈ news, q ∈ news') → (r, instObj 255 dr) ∈ news' → (dr, dictOf [ent w "kind" t1 (.str (Str.ofString "character") t2), ent w "items" t3 (.ref ri), ent w "attrs" t4 (.ref an), ent w "shared" t5 (.bool false), ent w "loose" t6 (.bool false)] 5) ∈ news' → (ri, listOf [.str (toString k) z1, .str (Str.ofString "mine") z2, .str (Str.ofString "character") z3].toArray c1) ∈ news' → (an, o) ∈ news' → o.IsDictOf (PySem.strKind pw w) [(Str.ofString "names", .ref nv)] → (nv, instObj 255 dn) ∈ news' → (dn, dictOf [ent w "kind" s1 (.str (Str.ofString "character") s2), ent w "items" s3 (.ref nr), ent w "attrs" s4 .none, ent w "shared" s5 (.bool false), ent w "loose" s6 (.bool false)] 5) ∈ news' → (nr, listOf [(.str (Str.ofString "Length") z4), (.str (Str.ofString "Class") z5), (.str (Str.ofString "Mode") z6)].toArray c2) ∈ news' → Q (.ref r) ⟨h', gs, d, tk', os⟩) :
    wpAny (model pw w) (ktrTop dp un gd cn cs L a ccd cl outer) (call (.ref 497) [.none, .ref al, .none]) Q E ⟨h, gs, d, tk, os⟩ := by
  w_on
  repeat' (first | tb_start | walk1)
  (refine' ret _ _ _ _ _ _ _ _ _ _ _ _ _ _ _ _ _ _ _ _ _ _ _ _ _ _ _ _ _ _ _ ?F ?N ?S ?a ?b ?c ?d ?e ?f ?g ?i)
  case F => k_asm
  case N => k_asm
  case S => exact fun q hq => by repeat (first | exact hq | refine List.Mem.tail _ ?_)
  case a => tb_rel
  case b => tb_rel
  case c => tb_rel
  case d => tb_rel
  case e => k_asm
  case f => tb_rel
  case g => tb_rel
  case i => tb_rel

theorem c_sum_9 {al pt : Addr} {na : Nat} {to : Tok} {x dx li : Addr} {nl : Nat} {vs : List Value} {k : Int} {u1 u2 u3 u4 u5 u6 : Tok} {av cv dv ci : Addr} {oa : Obj} {c : Nat} {w1 w2 w3 w4 w5 w6 y1 y2 : Tok} (B : Below A₀ base outer h₀) (F : Fr h₀ L h m) (X : (frag w.params).In h₀) (N : News h₀ L h news) (T : Top p loose mean mg mb h₀) (hk : cs.kind = .function) (hdp : dp + 70 < recursionLimit) (hu : un + 540 < cLine) (hal : (al, listOf [.ref pt].toArray na) ∈ news) (hpt : (pt, tupOf [(.str (Str.ofString "object") to), .ref x]) ∈ news) (hx : (x, instObj 255 dx) ∈ news) (hd : (dx, dictOf [ent w "kind" u1 (.str (Str.ofString "list") u2), ent w "items" u3 (.ref li), ent w "attrs" u4 (.ref av), ent w "shared" u5 (.bool false), ent w "loose" u6 (.bool false)] 5) ∈ news) (hli : (li, listOf vs.toArray nl) ∈ news) (hlen : ((vs.length : Nat) : Int) = k) (hz : Nat.ble vs.length 1000 = true) (hk0 : 0 ≤ k) (hk1 : k < 1000) (hat : (av, oa) ∈ news) (hoa : oa.IsDictOf (PySem.strKind pw w) [(Str.ofString "class", .ref cv)]) (hlo : (av == sysModules) = false) (hcv : (cv, instObj 255 dv) ∈ news) (hdv : (dv, dictOf [ent w "kind" w1 (.str (Str.ofString "character") w2), ent w "items" w3 (.ref ci), ent w "attrs" w4 .none, ent w "shared" w5 (.bool false), ent w "loose" w6 (.bool false)] 5) ∈ news) (hci : (ci, listOf [(.str (Str.ofString "mine") y1), (.str (Str.ofString "other") y2)].toArray c) ∈ news)
    (ret : ∀ (r dr ri an nv dn nr : Addr) (c1 c2 : Nat) (o : Obj) (h' : Heap) (tk' : Nat) (t1 t2 t3 t4 t5 t6 s1 s2 s3 s4 s5 s6 z1 z2 z3 z4 z5 z6 : Tok) (news' : List (Addr × Obj)), Fr h₀ L h' m → News h₀ L h' news' → (∀ q ∈ news, q ∈ news') → (r, instObj 255 dr) ∈ news' → (dr, dictOf [ent w "kind" t1 (.str (Str.ofString "character") t2), ent w "items" t3 (.ref ri), ent w "attrs" t4 (.ref an), ent w "shared" t5 (.bool false), ent w "loose" t6 (.bool false)] 5) ∈ news' → (ri, listOf [.str (toString k) z1, .str (Str.ofString "mine") z2, .str (Str.ofString "list") z3].toArray c1) ∈ news' → (an, o) ∈ news' → o.IsDictOf (PySem.strKind pw w) [(Str.ofString "names", .ref nv)] → (nv, instObj 255 dn) ∈ news' → (dn, dictOf [ent w "kind" s1 (.str (Str.ofString "character") s2), ent w "items" s3 (.ref nr), ent w "attrs" s4 .none, ent w "shared" s5 (.bool false), ent w "loose" s6 (.bool false)] 5) ∈ news' → (nr, listOf [(.str (Str.ofString "Length") z4), (.str (Str.ofString "Class") z5), (.str (Str.ofString "Mode") z6)].toArray c2) ∈ news' → Q (.ref r) ⟨h', gs, d, tk', os⟩) :
    wpAny (model pw w) (ktrTop dp un gd cn cs L a ccd cl outer) (call (.ref 497) [.none, .ref al, .none]) Q E ⟨h, gs, d, tk, os⟩ := by
  w_on
  repeat' (first | tb_start | walk1)
  (refine' ret _ _ _ _ _ _ _ _ _ _ _ _ _ _ _ _ _ _ _ _ _ _ _ _ _ _ _ _ _ _ _ ?F ?N ?S ?a ?b ?c ?d ?e ?f ?g ?i)
  case F => k_asm
  case N => k_asm
  case S => exact fun q hq => by repeat (first | exact hq | refine List.Mem.tail _ ?_)
  case a => tb_rel
  case b => tb_rel
  case c => tb_rel
  case d => tb_rel
  case e => k_asm
  case f => tb_rel
  case g => tb_rel
  case i => tb_rel

theorem c_sum_10 {al pt : Addr} {na : Nat} {to : Tok} {x dx li : Addr} {nl : Nat} {vs : List Value} {k : Int} {u1 u2 u3 u4 u5 u6 : Tok} {av cv dv ci : Addr} {oa : Obj} {c : Nat} {w1 w2 w3 w4 w5 w6 y1 y2 : Tok} (B : Below A₀ base outer h₀) (F : Fr h₀ L h m) (X : (frag w.params).In h₀) (N : News h₀ L h news) (T : Top p loose mean mg mb h₀) (hk : cs.kind = .function) (hdp : dp + 70 < recursionLimit) (hu : un + 540 < cLine) (hal : (al, listOf [.ref pt].toArray na) ∈ news) (hpt : (pt, tupOf [(.str (Str.ofString "object") to), .ref x]) ∈ news) (hx : (x, instObj 255 dx) ∈ news) (hd : (dx, dictOf [ent w "kind" u1 (.str (Str.ofString "expression") u2), ent w "items" u3 (.ref li), ent w "attrs" u4 (.ref av), ent w "shared" u5 (.bool false), ent w "loose" u6 (.bool false)] 5) ∈ news) (hli : (li, listOf vs.toArray nl) ∈ news) (hlen : ((vs.length : Nat) : Int) = k) (hz : Nat.ble vs.length 1000 = true) (hk0 : 0 ≤ k) (hk1 : k < 1000) (hat : (av, oa) ∈ news) (hoa : oa.IsDictOf (PySem.strKind pw w) [(Str.ofString "class", .ref cv)]) (hlo : (av == sysModules) = false) (hcv : (cv, instObj 255 dv) ∈ news) (hdv : (dv, dictOf [ent w "kind" w1 (.str (Str.ofString "character") w2), ent w "items" w3 (.ref ci), ent w "attrs" w4 .none, ent w "shared" w5 (.bool false), ent w "loose" w6 (.bool false)] 5) ∈ news) (hci : (ci, listOf [(.str (Str.ofString "mine") y1), (.str (Str.ofString "other") y2)].toArray c) ∈ news)
    (ret : ∀ (r dr ri an nv dn nr : Addr) (c1 c2 : Nat) (o : Obj) (h' : Heap) (tk' : Nat) (t1 t2 t3 t4 t5 t6 s1 s2 s3 s4 s5 s6 z1 z2 z3 z4 z5 z6 : Tok) (news' : List (Addr × Obj)), Fr h₀ L h' m → News h₀ L h' news' → (∀ q ∈ news, q ∈ news') → (r, instObj 255 dr) ∈ news' → (dr, dictOf [ent w "kind" t1 (.str (Str.ofString "character") t2), ent w "items" t3 (.ref ri), ent w "attrs" t4 (.ref an), ent w "shared" t5 (.bool false), ent w "loose" t6 (.bool false)] 5) ∈ news' → (ri, listOf [.str (toString k) z1, .str (Str.ofString "mine") z2, .str (Str.ofString "expression") z3].toArray c1) ∈ news' → (an, o) ∈ news' → o.IsDictOf (PySem.strKind pw w) [(Str.ofString "names", .ref nv)] → (nv, instObj 255 dn) ∈ news' → (dn, dictOf [ent w "kind" s1 (.str (Str.ofString "character") s2), ent w "items" s3 (.ref nr), ent w "attrs" s4 .none, ent w "shared" s5 (.bool false), ent w "loose" s6 (.bool false)] 5) ∈ news' → (nr, listOf [(.str (Str.ofString "Length") z4), (.str (Str.ofString "Class") z5), (.str (Str.ofString "Mode") z6)].toArray c2) ∈ news' → Q (.ref r) ⟨h', gs, d, tk', os⟩) :
    wpAny (model pw w) (ktrTop dp un gd cn cs L a ccd cl outer) (call (.ref 497) [.none, .ref al, .none]) Q E ⟨h, gs, d, tk, os⟩ := by
  w_on
  repeat' (first | tb_start | walk1)
  (refine' ret _ _ _ _ _ _ _ _ _ _ _ _ _ _ _ _ _ _ _ _ _ _ _ _ _ _ _ _ _ _ _ ?F ?N ?S ?a ?b ?c ?d ?e ?f ?g ?i)
  case F => k_asm
  case N => k_asm
  case S => exact fun q hq => by repeat (first | exact hq | refine List.Mem.tail _ ?_)
  case a => tb_rel
  case b => tb_rel
  case c => tb_rel
  case d => tb_rel
  case e => k_asm
  case f => tb_rel
  case g => tb_rel
  case i => tb_rel
end
section
variable {w : World} {p : Program} {loose : List Str} {mean : ExcName → Option Value} {mg mb : Str → Option Value} {h₀ : Heap} {L f : Addr} {cd : Value}
    {m : Str → Option Value} {Q : Flow → Shared → Prop} {E : Value → Shared → Prop} {news : List (Addr × Obj)} {h : Heap} {gs : Array GenState} {d : Drawn} {tk : Nat} {os : OsState} {src l : Addr} {oM oS : Obj}
theorem s_E3 {a2 a3 : String} {k : Int} {ts tc tm : Tok} {r dr ri an nv dn nr : Addr} {c1 c2 : Nat} {o : Obj} {t1 t2 t3 t4 t5 t6 s1 s2 s3 s4 s5 s6 z1 z2 z3 z4 z5 z6 : Tok} (K0 : Below callerA h₀ [] h₀) (F : Fr h₀ L h m) (X : (frag w.params).In h₀) (N : News h₀ L h news) (T : Top p loose mean mg mb h₀) (hs : SrcIn L src l oM oS news)
    (b0 : (r, instObj 255 dr) ∈ news) (b1 : (dr, dictOf [ent w "kind" t1 (.str (Str.ofString "character") t2), ent w "items" t3 (.ref ri), ent w "attrs" t4 (.ref an), ent w "shared" t5 (.bool false), ent w "loose" t6 (.bool false)] 5) ∈ news) (b2 : (ri, listOf [.str (Str.ofString (toString k)) z1, .str (Str.ofString a2) z2, .str (Str.ofString a3) z3].toArray c1) ∈ news) (b3 : (an, o) ∈ news) (b4 : o.IsDictOf (PySem.strKind pw w) [(Str.ofString "names", .ref nv)]) (b5 : (nv, instObj 255 dn) ∈ news) (b6 : (dn, dictOf [ent w "kind" s1 (.str (Str.ofString "character") s2), ent w "items" s3 (.ref nr), ent w "attrs" s4 .none, ent w "shared" s5 (.bool false), ent w "loose" s6 (.bool false)] 5) ∈ news) (b7 : (nr, listOf [(.str (Str.ofString "Length") z4), (.str (Str.ofString "Class") z5), (.str (Str.ofString "Mode") z6)].toArray c2) ∈ news)
    (hk0 : 0 ≤ k) (hk1 : k < 1000) (m1 : m (Str.ofString "size_of") = some (.int k ts)) (m2 : m (Str.ofString "told_class") = some (.str (Str.ofString a2) tc)) (m3 : m (Str.ofString "mode") = some (.str (Str.ofString a3) tm)) (m4 : m (Str.ofString "told") = some (.ref r)) (hD : ToSt stD w h₀ L f cd src l oM oS gs d os Q E) :
    wpAny (model pw w) (lawA L f cd) (execs stC3 (lawX L f cd)) Q E ⟨h, gs, d, tk, os⟩ := by
  w_on
  repeat' (first | ((with_reducible show wpAny _ _ (execs (Stmt.Assign [Expr.Name (Str.ofString "name") _] _ _ :: _) _) _ _ _); refine Stop.out ?_) | tb_start | walk1)
  refine Stop.inn ?_
  refine hD _ _ _ _ (by k_asm) (by k_asm) ?_
  exact hs.mono fun q hq => by repeat (first | exact hq | refine mem_tl ?_)
end
section
variable {w : World} {p : Program} {loose : List Str} {mean : ExcName → Option Value} {mg mb : Str → Option Value} {h₀ : Heap} {L f : Addr} {cd : Value}
    {m : Str → Option Value} {Q : Flow → Shared → Prop} {E : Value → Shared → Prop} {news : List (Addr × Obj)} {h : Heap} {gs : Array GenState} {d : Drawn} {tk : Nat} {os : OsState} {src l : Addr} {oM oS : Obj}
theorem s_C2_0 {tf ts tc tm : Tok} {x dx : Addr} {u1 u2 u3 : Tok} (K0 : Below callerA h₀ [] h₀) (F : Fr h₀ L h m) (X : (frag w.params).In h₀) (N : News h₀ L h news) (T : Top p loose mean mg mb h₀) (hs : SrcIn L src l oM oS news) (hx : (x, instObj 226 dx) ∈ news) (hd : (dx, dictOf [ent w "kind" u1 (.str (Str.ofString "NULL") u2), ent w "attrs" u3 .none] 2) ∈ news) 
    (mf : m (Str.ofString "form") = some (.int 0 tf)) (mv : m (Str.ofString "value") = some (.ref x)) (m1 : m (Str.ofString "size_of") = some (.int (0 : Int) ts)) (m2 : m (Str.ofString "told_class") = some (.str (Str.ofString "NULL") tc)) (m3 : m (Str.ofString "mode") = some (.str (Str.ofString "NULL") tm)) (hD : ToSt stD w h₀ L f cd src l oM oS gs d os Q E) :
    wpAny (model pw w) (lawA L f cd) (execs stC1 (lawX L f cd)) Q E ⟨h, gs, d, tk, os⟩ := by
  w_on
  repeat' (first | ((with_reducible show wpAny _ _ (call (Value.ref 497) _) _ _ _); refine Stop.out ?_) | tb_start | walk1)
  refine Stop.inn ?_
  (refine' c_sum_0 ?k1 ?k2 ?k3 ?k4 ?k5 ?k6 ?d1 ?d2 ?hal ?hpt ?hx ?hd  ?_)
  case k1 => exact K0
  case k2 => k_asm
  case k3 => k_asm
  case k4 => k_asm
  case k5 => k_asm
  case k6 => kernel_rfl
  case d1 => exact Nat.le_of_ble_eq_true rfl
  case d2 => exact Nat.le_of_ble_eq_true rfl
  case hal => tb_rel
  case hpt => tb_rel
  case hx => tb_rel
  case hd => tb_rel
  intro r dr ri an nv dn nr c1 c2 o h' tk' t1 t2 t3 t4 t5 t6 s1 s2 s3 s4 s5 s6 z1 z2 z3 z4 z5 z6 news' F' N' hsub b0 b1 b2 b3 b4 b5 b6 b7
  k_sweep
  have hs' : SrcIn L src l oM oS news' := hs.mono fun q hq => hsub q (by repeat (first | exact hq | refine mem_tl ?_))
  clear hs
  iterate 2 (tb_start)
  (refine' s_E3 K0 ?F X ?N T hs' b0 b1 b2 b3 b4 b5 b6 b7 ?h0 ?h1 ?m1 ?m2 ?m3 ?m4 hD)
  case F => k_asm
  case N => k_asm
  case h0 => first | assumption | decide
  case h1 => first | assumption | decide
  case m1 => tb_rel
  case m2 => tb_rel
  case m3 => tb_rel
  case m4 => tb_rel
theorem s_C2_1 {tf ts tc tm : Tok} {x dx : Addr} {u1 u2 u3 u4 u5 : Tok} (K0 : Below callerA h₀ [] h₀) (F : Fr h₀ L h m) (X : (frag w.params).In h₀) (N : News h₀ L h news) (T : Top p loose mean mg mb h₀) (hs : SrcIn L src l oM oS news) (hx : (x, instObj 276 dx) ∈ news) (hd : (dx, dictOf [ent w "kind" u1 (.str (Str.ofString "symbol") u2), ent w "name" u3 (.str (Str.ofString "s") u4), ent w "attrs" u5 .none] 3) ∈ news) 
    (mf : m (Str.ofString "form") = some (.int 1 tf)) (mv : m (Str.ofString "value") = some (.ref x)) (m1 : m (Str.ofString "size_of") = some (.int (1 : Int) ts)) (m2 : m (Str.ofString "told_class") = some (.str (Str.ofString "name") tc)) (m3 : m (Str.ofString "mode") = some (.str (Str.ofString "name") tm)) (hD : ToSt stD w h₀ L f cd src l oM oS gs d os Q E) :
    wpAny (model pw w) (lawA L f cd) (execs stC1 (lawX L f cd)) Q E ⟨h, gs, d, tk, os⟩ := by
  w_on
  repeat' (first | ((with_reducible show wpAny _ _ (call (Value.ref 497) _) _ _ _); refine Stop.out ?_) | tb_start | walk1)
  refine Stop.inn ?_
  (refine' c_sum_1 ?k1 ?k2 ?k3 ?k4 ?k5 ?k6 ?d1 ?d2 ?hal ?hpt ?hx ?hd  ?_)
  case k1 => exact K0
  case k2 => k_asm
  case k3 => k_asm
  case k4 => k_asm
  case k5 => k_asm
  case k6 => kernel_rfl
  case d1 => exact Nat.le_of_ble_eq_true rfl
  case d2 => exact Nat.le_of_ble_eq_true rfl
  case hal => tb_rel
  case hpt => tb_rel
  case hx => tb_rel
  case hd => tb_rel
  intro r dr ri an nv dn nr c1 c2 o h' tk' t1 t2 t3 t4 t5 t6 s1 s2 s3 s4 s5 s6 z1 z2 z3 z4 z5 z6 news' F' N' hsub b0 b1 b2 b3 b4 b5 b6 b7
  k_sweep
  have hs' : SrcIn L src l oM oS news' := hs.mono fun q hq => hsub q (by repeat (first | exact hq | refine mem_tl ?_))
  clear hs
  iterate 2 (tb_start)
  (refine' s_E3 K0 ?F X ?N T hs' b0 b1 b2 b3 b4 b5 b6 b7 ?h0 ?h1 ?m1 ?m2 ?m3 ?m4 hD)
  case F => k_asm
  case N => k_asm
  case h0 => first | assumption | decide
  case h1 => first | assumption | decide
  case m1 => tb_rel
  case m2 => tb_rel
  case m3 => tb_rel
  case m4 => tb_rel
theorem s_C2_2 {tf ts tc tm : Tok} {x dx x1 d1 li : Addr} {tgs : Value} {nl : Nat} {w1 w2 w3 w4 w5 : Tok} {u1 u2 u3 u4 u5 u6 : Tok} {vs : List Value} {k : Int} (K0 : Below callerA h₀ [] h₀) (F : Fr h₀ L h m) (X : (frag w.params).In h₀) (N : News h₀ L h news) (T : Top p loose mean mg mb h₀) (hs : SrcIn L src l oM oS news) (hx : (x, instObj 298 dx) ∈ news) (hd : (dx, dictOf [ent w "kind" u1 (.str (Str.ofString "language") u2), ent w "items" u3 (.ref li), ent w "tags" u4 tgs, ent w "attrs" u5 .none, ent w "code" u6 .none] 5) ∈ news) (hli : (li, listOf (.ref x1 :: vs).toArray nl) ∈ news) (hx1 : (x1, instObj 276 d1) ∈ news) (hd1 : (d1, dictOf [ent w "kind" w1 (.str (Str.ofString "symbol") w2), ent w "name" w3 (.str (Str.ofString "f") w4), ent w "attrs" w5 .none] 3) ∈ news) (hlen : ((((.ref x1 :: vs : List Value)).length : Nat) : Int) = k) (hz : Nat.ble (.ref x1 :: vs : List Value).length 1000 = true) (hk0 : 0 ≤ k) (hk1 : k < 1000)
    (mf : m (Str.ofString "form") = some (.int 2 tf)) (mv : m (Str.ofString "value") = some (.ref x)) (m1 : m (Str.ofString "size_of") = some (.int k ts)) (m2 : m (Str.ofString "told_class") = some (.str (Str.ofString "call") tc)) (m3 : m (Str.ofString "mode") = some (.str (Str.ofString "call") tm)) (hD : ToSt stD w h₀ L f cd src l oM oS gs d os Q E) :
    wpAny (model pw w) (lawA L f cd) (execs stC1 (lawX L f cd)) Q E ⟨h, gs, d, tk, os⟩ := by
  w_on
  repeat' (first | ((with_reducible show wpAny _ _ (call (Value.ref 497) _) _ _ _); refine Stop.out ?_) | tb_start | walk1)
  refine Stop.inn ?_
  (refine' c_sum_2 ?k1 ?k2 ?k3 ?k4 ?k5 ?k6 ?d1 ?d2 ?hal ?hpt ?hx ?hd ?hli ?hx1 ?hd1 ?hlen ?hz ?hk0 ?hk1 ?_)
  case k1 => exact K0
  case k2 => k_asm
  case k3 => k_asm
  case k4 => k_asm
  case k5 => k_asm
  case k6 => kernel_rfl
  case d1 => exact Nat.le_of_ble_eq_true rfl
  case d2 => exact Nat.le_of_ble_eq_true rfl
  case hal => tb_rel
  case hpt => tb_rel
  case hx => tb_rel
  case hd => tb_rel
  case hli => tb_rel
  case hx1 => tb_rel
  case hd1 => tb_rel
  case hlen => assumption
  case hz => assumption
  case hk0 => assumption
  case hk1 => assumption
  intro r dr ri an nv dn nr c1 c2 o h' tk' t1 t2 t3 t4 t5 t6 s1 s2 s3 s4 s5 s6 z1 z2 z3 z4 z5 z6 news' F' N' hsub b0 b1 b2 b3 b4 b5 b6 b7
  k_sweep
  have hs' : SrcIn L src l oM oS news' := hs.mono fun q hq => hsub q (by repeat (first | exact hq | refine mem_tl ?_))
  clear hs
  iterate 2 (tb_start)
  (refine' s_E3 K0 ?F X ?N T hs' b0 b1 b2 b3 b4 b5 b6 b7 ?h0 ?h1 ?m1 ?m2 ?m3 ?m4 hD)
  case F => k_asm
  case N => k_asm
  case h0 => first | assumption | decide
  case h1 => first | assumption | decide
  case m1 => tb_rel
  case m2 => tb_rel
  case m3 => tb_rel
  case m4 => tb_rel
theorem s_C2_3 {tf ts tc tm : Tok} {x dx x1 d1 li : Addr} {tgs : Value} {nl : Nat} {w1 w2 w3 w4 w5 : Tok} {u1 u2 u3 u4 u5 u6 : Tok} {x2 : Addr} (K0 : Below callerA h₀ [] h₀) (F : Fr h₀ L h m) (X : (frag w.params).In h₀) (N : News h₀ L h news) (T : Top p loose mean mg mb h₀) (hs : SrcIn L src l oM oS news) (hx : (x, instObj 298 dx) ∈ news) (hd : (dx, dictOf [ent w "kind" u1 (.str (Str.ofString "language") u2), ent w "items" u3 (.ref li), ent w "tags" u4 tgs, ent w "attrs" u5 .none, ent w "code" u6 .none] 5) ∈ news) (hli : (li, listOf [.ref x1, .ref x2].toArray nl) ∈ news) (hx1 : (x1, instObj 276 d1) ∈ news) (hd1 : (d1, dictOf [ent w "kind" w1 (.str (Str.ofString "symbol") w2), ent w "name" w3 (.str (Str.ofString "(") w4), ent w "attrs" w5 .none] 3) ∈ news)
    (mf : m (Str.ofString "form") = some (.int 3 tf)) (mv : m (Str.ofString "value") = some (.ref x)) (m1 : m (Str.ofString "size_of") = some (.int (2 : Int) ts)) (m2 : m (Str.ofString "told_class") = some (.str (Str.ofString "(") tc)) (m3 : m (Str.ofString "mode") = some (.str (Str.ofString "(") tm)) (hD : ToSt stD w h₀ L f cd src l oM oS gs d os Q E) :
    wpAny (model pw w) (lawA L f cd) (execs stC1 (lawX L f cd)) Q E ⟨h, gs, d, tk, os⟩ := by
  w_on
  repeat' (first | ((with_reducible show wpAny _ _ (call (Value.ref 497) _) _ _ _); refine Stop.out ?_) | tb_start | walk1)
  refine Stop.inn ?_
  (refine' c_sum_3 ?k1 ?k2 ?k3 ?k4 ?k5 ?k6 ?d1 ?d2 ?hal ?hpt ?hx ?hd ?hli ?hx1 ?hd1 ?_)
  case k1 => exact K0
  case k2 => k_asm
  case k3 => k_asm
  case k4 => k_asm
  case k5 => k_asm
  case k6 => kernel_rfl
  case d1 => exact Nat.le_of_ble_eq_true rfl
  case d2 => exact Nat.le_of_ble_eq_true rfl
  case hal => tb_rel
  case hpt => tb_rel
  case hx => tb_rel
  case hd => tb_rel
  case hli => tb_rel
  case hx1 => tb_rel
  case hd1 => tb_rel
  intro r dr ri an nv dn nr c1 c2 o h' tk' t1 t2 t3 t4 t5 t6 s1 s2 s3 s4 s5 s6 z1 z2 z3 z4 z5 z6 news' F' N' hsub b0 b1 b2 b3 b4 b5 b6 b7
  k_sweep
  have hs' : SrcIn L src l oM oS news' := hs.mono fun q hq => hsub q (by repeat (first | exact hq | refine mem_tl ?_))
  clear hs
  iterate 2 (tb_start)
  (refine' s_E3 K0 ?F X ?N T hs' b0 b1 b2 b3 b4 b5 b6 b7 ?h0 ?h1 ?m1 ?m2 ?m3 ?m4 hD)
  case F => k_asm
  case N => k_asm
  case h0 => first | assumption | decide
  case h1 => first | assumption | decide
  case m1 => tb_rel
  case m2 => tb_rel
  case m3 => tb_rel
  case m4 => tb_rel
theorem s_C2_4 {tf ts tc tm : Tok} {x dx : Addr} {fnv gpv : Value} {u7 u8 : Tok} {u1 u2 u3 u4 u5 u6 : Tok} (K0 : Below callerA h₀ [] h₀) (F : Fr h₀ L h m) (X : (frag w.params).In h₀) (N : News h₀ L h news) (T : Top p loose mean mg mb h₀) (hs : SrcIn L src l oM oS news) (hx : (x, instObj 319 dx) ∈ news) (hd : (dx, dictOf [ent w "kind" u1 (.str (Str.ofString "builtin") u2), ent w "name" u3 (.str (Str.ofString "f") u4), ent w "special" u5 (.bool false), ent w "fn" u6 fnv, ent w "group" u7 gpv, ent w "attrs" u8 .none] 6) ∈ news) 
    (mf : m (Str.ofString "form") = some (.int 4 tf)) (mv : m (Str.ofString "value") = some (.ref x)) (m1 : m (Str.ofString "size_of") = some (.int (1 : Int) ts)) (m2 : m (Str.ofString "told_class") = some (.str (Str.ofString "function") tc)) (m3 : m (Str.ofString "mode") = some (.str (Str.ofString "function") tm)) (hD : ToSt stD w h₀ L f cd src l oM oS gs d os Q E) :
    wpAny (model pw w) (lawA L f cd) (execs stC1 (lawX L f cd)) Q E ⟨h, gs, d, tk, os⟩ := by
  w_on
  repeat' (first | ((with_reducible show wpAny _ _ (call (Value.ref 497) _) _ _ _); refine Stop.out ?_) | tb_start | walk1)
  refine Stop.inn ?_
  (refine' c_sum_4 ?k1 ?k2 ?k3 ?k4 ?k5 ?k6 ?d1 ?d2 ?hal ?hpt ?hx ?hd  ?_)
  case k1 => exact K0
  case k2 => k_asm
  case k3 => k_asm
  case k4 => k_asm
  case k5 => k_asm
  case k6 => kernel_rfl
  case d1 => exact Nat.le_of_ble_eq_true rfl
  case d2 => exact Nat.le_of_ble_eq_true rfl
  case hal => tb_rel
  case hpt => tb_rel
  case hx => tb_rel
  case hd => tb_rel
  intro r dr ri an nv dn nr c1 c2 o h' tk' t1 t2 t3 t4 t5 t6 s1 s2 s3 s4 s5 s6 z1 z2 z3 z4 z5 z6 news' F' N' hsub b0 b1 b2 b3 b4 b5 b6 b7
  k_sweep
  have hs' : SrcIn L src l oM oS news' := hs.mono fun q hq => hsub q (by repeat (first | exact hq | refine mem_tl ?_))
  clear hs
  iterate 2 (tb_start)
  (refine' s_E3 K0 ?F X ?N T hs' b0 b1 b2 b3 b4 b5 b6 b7 ?h0 ?h1 ?m1 ?m2 ?m3 ?m4 hD)
  case F => k_asm
  case N => k_asm
  case h0 => first | assumption | decide
  case h1 => first | assumption | decide
  case m1 => tb_rel
  case m2 => tb_rel
  case m3 => tb_rel
  case m4 => tb_rel
end
section
variable {w : World} {p : Program} {loose : List Str} {mean : ExcName → Option Value} {mg mb : Str → Option Value} {h₀ : Heap} {L f : Addr} {cd : Value}
    {m : Str → Option Value} {Q : Flow → Shared → Prop} {E : Value → Shared → Prop} {news : List (Addr × Obj)} {h : Heap} {gs : Array GenState} {d : Drawn} {tk : Nat} {os : OsState} {src l : Addr} {oM oS : Obj}
theorem s_C2_5 {ts tc tm : Tok} {x dx li : Addr} {nl : Nat} {vs : List Value} {k : Int} {u1 u2 u3 u4 u5 u6 : Tok} (K0 : Below callerA h₀ [] h₀) (F : Fr h₀ L h m) (X : (frag w.params).In h₀) (N : News h₀ L h news) (T : Top p loose mean mg mb h₀) (hs : SrcIn L src l oM oS news) (hx : (x, instObj 255 dx) ∈ news) (hd : (dx, dictOf [ent w "kind" u1 (.str (Str.ofString "character") u2), ent w "items" u3 (.ref li), ent w "attrs" u4 .none, ent w "shared" u5 (.bool false), ent w "loose" u6 (.bool false)] 5) ∈ news) (hli : (li, listOf vs.toArray nl) ∈ news) (hlen : ((vs.length : Nat) : Int) = k) (hz : Nat.ble vs.length 1000 = true) (hk0 : 0 ≤ k) (hk1 : k < 1000)
     (mv : m (Str.ofString "value") = some (.ref x)) (m1 : m (Str.ofString "size_of") = some (.int k ts)) (m2 : m (Str.ofString "told_class") = some (.str (Str.ofString "character") tc)) (m3 : m (Str.ofString "mode") = some (.str (Str.ofString "character") tm)) (hD : ToSt stD w h₀ L f cd src l oM oS gs d os Q E) :
    wpAny (model pw w) (lawA L f cd) (execs stC2 (lawX L f cd)) Q E ⟨h, gs, d, tk, os⟩ := by
  w_on
  repeat' (first | ((with_reducible show wpAny _ _ (call (Value.ref 497) _) _ _ _); refine Stop.out ?_) | tb_start | walk1)
  refine Stop.inn ?_
  (refine' c_sum_5 ?k1 ?k2 ?k3 ?k4 ?k5 ?k6 ?d1 ?d2 ?hal ?hpt ?hx ?hd ?hli ?hlen ?hz ?hk0 ?hk1 ?_)
  case k1 => exact K0
  case k2 => k_asm
  case k3 => k_asm
  case k4 => k_asm
  case k5 => k_asm
  case k6 => kernel_rfl
  case d1 => exact Nat.le_of_ble_eq_true rfl
  case d2 => exact Nat.le_of_ble_eq_true rfl
  case hal => tb_rel
  case hpt => tb_rel
  case hx => tb_rel
  case hd => tb_rel
  case hli => tb_rel
  case hlen => assumption
  case hz => assumption
  case hk0 => assumption
  case hk1 => assumption
  intro r dr ri an nv dn nr c1 c2 o h' tk' t1 t2 t3 t4 t5 t6 s1 s2 s3 s4 s5 s6 z1 z2 z3 z4 z5 z6 news' F' N' hsub b0 b1 b2 b3 b4 b5 b6 b7
  k_sweep
  have hs' : SrcIn L src l oM oS news' := hs.mono fun q hq => hsub q (by repeat (first | exact hq | refine mem_tl ?_))
  clear hs
  iterate 2 (tb_start)
  (refine' s_E3 K0 ?F X ?N T hs' b0 b1 b2 b3 b4 b5 b6 b7 ?h0 ?h1 ?m1 ?m2 ?m3 ?m4 hD)
  case F => k_asm
  case N => k_asm
  case h0 => first | assumption | decide
  case h1 => first | assumption | decide
  case m1 => tb_rel
  case m2 => tb_rel
  case m3 => tb_rel
  case m4 => tb_rel
theorem s_C2_6 {ts tc tm : Tok} {x dx li : Addr} {nl : Nat} {vs : List Value} {k : Int} {u1 u2 u3 u4 u5 u6 : Tok} (K0 : Below callerA h₀ [] h₀) (F : Fr h₀ L h m) (X : (frag w.params).In h₀) (N : News h₀ L h news) (T : Top p loose mean mg mb h₀) (hs : SrcIn L src l oM oS news) (hx : (x, instObj 255 dx) ∈ news) (hd : (dx, dictOf [ent w "kind" u1 (.str (Str.ofString "list") u2), ent w "items" u3 (.ref li), ent w "attrs" u4 .none, ent w "shared" u5 (.bool false), ent w "loose" u6 (.bool false)] 5) ∈ news) (hli : (li, listOf vs.toArray nl) ∈ news) (hlen : ((vs.length : Nat) : Int) = k) (hz : Nat.ble vs.length 1000 = true) (hk0 : 0 ≤ k) (hk1 : k < 1000)
     (mv : m (Str.ofString "value") = some (.ref x)) (m1 : m (Str.ofString "size_of") = some (.int k ts)) (m2 : m (Str.ofString "told_class") = some (.str (Str.ofString "-none-") tc)) (m3 : m (Str.ofString "mode") = some (.str (Str.ofString "list") tm)) (hD : ToSt stD w h₀ L f cd src l oM oS gs d os Q E) :
    wpAny (model pw w) (lawA L f cd) (execs stC2 (lawX L f cd)) Q E ⟨h, gs, d, tk, os⟩ := by
  w_on
  repeat' (first | ((with_reducible show wpAny _ _ (call (Value.ref 497) _) _ _ _); refine Stop.out ?_) | tb_start | walk1)
  refine Stop.inn ?_
  (refine' c_sum_6 ?k1 ?k2 ?k3 ?k4 ?k5 ?k6 ?d1 ?d2 ?hal ?hpt ?hx ?hd ?hli ?hlen ?hz ?hk0 ?hk1 ?_)
  case k1 => exact K0
  case k2 => k_asm
  case k3 => k_asm
  case k4 => k_asm
  case k5 => k_asm
  case k6 => kernel_rfl
  case d1 => exact Nat.le_of_ble_eq_true rfl
  case d2 => exact Nat.le_of_ble_eq_true rfl
  case hal => tb_rel
  case hpt => tb_rel
  case hx => tb_rel
  case hd => tb_rel
  case hli => tb_rel
  case hlen => assumption
  case hz => assumption
  case hk0 => assumption
  case hk1 => assumption
  intro r dr ri an nv dn nr c1 c2 o h' tk' t1 t2 t3 t4 t5 t6 s1 s2 s3 s4 s5 s6 z1 z2 z3 z4 z5 z6 news' F' N' hsub b0 b1 b2 b3 b4 b5 b6 b7
  k_sweep
  have hs' : SrcIn L src l oM oS news' := hs.mono fun q hq => hsub q (by repeat (first | exact hq | refine mem_tl ?_))
  clear hs
  iterate 2 (tb_start)
  (refine' s_E3 K0 ?F X ?N T hs' b0 b1 b2 b3 b4 b5 b6 b7 ?h0 ?h1 ?m1 ?m2 ?m3 ?m4 hD)
  case F => k_asm
  case N => k_asm
  case h0 => first | assumption | decide
  case h1 => first | assumption | decide
  case m1 => tb_rel
  case m2 => tb_rel
  case m3 => tb_rel
  case m4 => tb_rel
theorem s_C2_7 {ts tc tm : Tok} {x dx li : Addr} {nl : Nat} {vs : List Value} {k : Int} {u1 u2 u3 u4 u5 u6 : Tok} (K0 : Below callerA h₀ [] h₀) (F : Fr h₀ L h m) (X : (frag w.params).In h₀) (N : News h₀ L h news) (T : Top p loose mean mg mb h₀) (hs : SrcIn L src l oM oS news) (hx : (x, instObj 255 dx) ∈ news) (hd : (dx, dictOf [ent w "kind" u1 (.str (Str.ofString "expression") u2), ent w "items" u3 (.ref li), ent w "attrs" u4 .none, ent w "shared" u5 (.bool false), ent w "loose" u6 (.bool false)] 5) ∈ news) (hli : (li, listOf vs.toArray nl) ∈ news) (hlen : ((vs.length : Nat) : Int) = k) (hz : Nat.ble vs.length 1000 = true) (hk0 : 0 ≤ k) (hk1 : k < 1000)
     (mv : m (Str.ofString "value") = some (.ref x)) (m1 : m (Str.ofString "size_of") = some (.int k ts)) (m2 : m (Str.ofString "told_class") = some (.str (Str.ofString "-none-") tc)) (m3 : m (Str.ofString "mode") = some (.str (Str.ofString "expression") tm)) (hD : ToSt stD w h₀ L f cd src l oM oS gs d os Q E) :
    wpAny (model pw w) (lawA L f cd) (execs stC2 (lawX L f cd)) Q E ⟨h, gs, d, tk, os⟩ := by
  w_on
  repeat' (first | ((with_reducible show wpAny _ _ (call (Value.ref 497) _) _ _ _); refine Stop.out ?_) | tb_start | walk1)
  refine Stop.inn ?_
  (refine' c_sum_7 ?k1 ?k2 ?k3 ?k4 ?k5 ?k6 ?d1 ?d2 ?hal ?hpt ?hx ?hd ?hli ?hlen ?hz ?hk0 ?hk1 ?_)
  case k1 => exact K0
  case k2 => k_asm
  case k3 => k_asm
  case k4 => k_asm
  case k5 => k_asm
  case k6 => kernel_rfl
  case d1 => exact Nat.le_of_ble_eq_true rfl
  case d2 => exact Nat.le_of_ble_eq_true rfl
  case hal => tb_rel
  case hpt => tb_rel
  case hx => tb_rel
  case hd => tb_rel
  case hli => tb_rel
  case hlen => assumption
  case hz => assumption
  case hk0 => assumption
  case hk1 => assumption
  intro r dr ri an nv dn nr c1 c2 o h' tk' t1 t2 t3 t4 t5 t6 s1 s2 s3 s4 s5 s6 z1 z2 z3 z4 z5 z6 news' F' N' hsub b0 b1 b2 b3 b4 b5 b6 b7
  k_sweep
  have hs' : SrcIn L src l oM oS news' := hs.mono fun q hq => hsub q (by repeat (first | exact hq | refine mem_tl ?_))
  clear hs
  iterate 2 (tb_start)
  (refine' s_E3 K0 ?F X ?N T hs' b0 b1 b2 b3 b4 b5 b6 b7 ?h0 ?h1 ?m1 ?m2 ?m3 ?m4 hD)
  case F => k_asm
  case N => k_asm
  case h0 => first | assumption | decide
  case h1 => first | assumption | decide
  case m1 => tb_rel
  case m2 => tb_rel
  case m3 => tb_rel
  case m4 => tb_rel
end
section
variable {w : World} {p : Program} {loose : List Str} {mean : ExcName → Option Value} {mg mb : Str → Option Value} {h₀ : Heap} {L f : Addr} {cd : Value}
    {m : Str → Option Value} {Q : Flow → Shared → Prop} {E : Value → Shared → Prop} {news : List (Addr × Obj)} {h : Heap} {gs : Array GenState} {d : Drawn} {tk : Nat} {os : OsState} {src l : Addr} {oM oS : Obj}
theorem s_C2_8 {ts tc tm : Tok} {x dx li : Addr} {nl : Nat} {vs : List Value} {k : Int} {u1 u2 u3 u4 u5 u6 : Tok} {av cv dv ci : Addr} {oa : Obj} {c : Nat} {w1 w2 w3 w4 w5 w6 y1 y2 : Tok} (K0 : Below callerA h₀ [] h₀) (F : Fr h₀ L h m) (X : (frag w.params).In h₀) (N : News h₀ L h news) (T : Top p loose mean mg mb h₀) (hs : SrcIn L src l oM oS news) (hx : (x, instObj 255 dx) ∈ news) (hd : (dx, dictOf [ent w "kind" u1 (.str (Str.ofString "character") u2), ent w "items" u3 (.ref li), ent w "attrs" u4 (.ref av), ent w "shared" u5 (.bool false), ent w "loose" u6 (.bool false)] 5) ∈ news) (hli : (li, listOf vs.toArray nl) ∈ news) (hlen : ((vs.length : Nat) : Int) = k) (hz : Nat.ble vs.length 1000 = true) (hk0 : 0 ≤ k) (hk1 : k < 1000) (hat : (av, oa) ∈ news) (hoa : oa.IsDictOf (PySem.strKind pw w) [(Str.ofString "class", .ref cv)]) (hlo : (av == sysModules) = false) (hcv : (cv, instObj 255 dv) ∈ news) (hdv : (dv, dictOf [ent w "kind" w1 (.str (Str.ofString "character") w2), ent w "items" w3 (.ref ci), ent w "attrs" w4 .none, ent w "shared" w5 (.bool false), ent w "loose" w6 (.bool false)] 5) ∈ news) (hci : (ci, listOf [(.str (Str.ofString "mine") y1), (.str (Str.ofString "other") y2)].toArray c) ∈ news)
     (mv : m (Str.ofString "value") = some (.ref x)) (m1 : m (Str.ofString "size_of") = some (.int k ts)) (m2 : m (Str.ofString "told_class") = some (.str (Str.ofString "mine") tc)) (m3 : m (Str.ofString "mode") = some (.str (Str.ofString "character") tm)) (hD : ToSt stD w h₀ L f cd src l oM oS gs d os Q E) :
    wpAny (model pw w) (lawA L f cd) (execs stC2 (lawX L f cd)) Q E ⟨h, gs, d, tk, os⟩ := by
  w_on
  repeat' (first | ((with_reducible show wpAny _ _ (call (Value.ref 497) _) _ _ _); refine Stop.out ?_) | tb_start | walk1)
  refine Stop.inn ?_
  (refine' c_sum_8 ?k1 ?k2 ?k3 ?k4 ?k5 ?k6 ?d1 ?d2 ?hal ?hpt ?hx ?hd ?hli ?hlen ?hz ?hk0 ?hk1 ?hat ?hoa ?hlo ?hcv ?hdv ?hci ?_)
  case k1 => exact K0
  case k2 => k_asm
  case k3 => k_asm
  case k4 => k_asm
  case k5 => k_asm
  case k6 => kernel_rfl
  case d1 => exact Nat.le_of_ble_eq_true rfl
  case d2 => exact Nat.le_of_ble_eq_true rfl
  case hal => tb_rel
  case hpt => tb_rel
  case hx => tb_rel
  case hd => tb_rel
  case hli => tb_rel
  case hlen => assumption
  case hz => assumption
  case hk0 => assumption
  case hk1 => assumption
  case hat => tb_rel
  case hoa => assumption
  case hlo => assumption
  case hcv => tb_rel
  case hdv => tb_rel
  case hci => tb_rel
  intro r dr ri an nv dn nr c1 c2 o h' tk' t1 t2 t3 t4 t5 t6 s1 s2 s3 s4 s5 s6 z1 z2 z3 z4 z5 z6 news' F' N' hsub b0 b1 b2 b3 b4 b5 b6 b7
  k_sweep
  have hs' : SrcIn L src l oM oS news' := hs.mono fun q hq => hsub q (by repeat (first | exact hq | refine mem_tl ?_))
  clear hs
  iterate 2 (tb_start)
  (refine' s_E3 K0 ?F X ?N T hs' b0 b1 b2 b3 b4 b5 b6 b7 ?h0 ?h1 ?m1 ?m2 ?m3 ?m4 hD)
  case F => k_asm
  case N => k_asm
  case h0 => first | assumption | decide
  case h1 => first | assumption | decide
  case m1 => tb_rel
  case m2 => tb_rel
  case m3 => tb_rel
  case m4 => tb_rel
theorem s_C2_9 {ts tc tm : Tok} {x dx li : Addr} {nl : Nat} {vs : List Value} {k : Int} {u1 u2 u3 u4 u5 u6 : Tok} {av cv dv ci : Addr} {oa : Obj} {c : Nat} {w1 w2 w3 w4 w5 w6 y1 y2 : Tok} (K0 : Below callerA h₀ [] h₀) (F : Fr h₀ L h m) (X : (frag w.params).In h₀) (N : News h₀ L h news) (T : Top p loose mean mg mb h₀) (hs : SrcIn L src l oM oS news) (hx : (x, instObj 255 dx) ∈ news) (hd : (dx, dictOf [ent w "kind" u1 (.str (Str.ofString "list") u2), ent w "items" u3 (.ref li), ent w "attrs" u4 (.ref av), ent w "shared" u5 (.bool false), ent w "loose" u6 (.bool false)] 5) ∈ news) (hli : (li, listOf vs.toArray nl) ∈ news) (hlen : ((vs.length : Nat) : Int) = k) (hz : Nat.ble vs.length 1000 = true) (hk0 : 0 ≤ k) (hk1 : k < 1000) (hat : (av, oa) ∈ news) (hoa : oa.IsDictOf (PySem.strKind pw w) [(Str.ofString "class", .ref cv)]) (hlo : (av == sysModules) = false) (hcv : (cv, instObj 255 dv) ∈ news) (hdv : (dv, dictOf [ent w "kind" w1 (.str (Str.ofString "character") w2), ent w "items" w3 (.ref ci), ent w "attrs" w4 .none, ent w "shared" w5 (.bool false), ent w "loose" w6 (.bool false)] 5) ∈ news) (hci : (ci, listOf [(.str (Str.ofString "mine") y1), (.str (Str.ofString "other") y2)].toArray c) ∈ news)
     (mv : m (Str.ofString "value") = some (.ref x)) (m1 : m (Str.ofString "size_of") = some (.int k ts)) (m2 : m (Str.ofString "told_class") = some (.str (Str.ofString "mine") tc)) (m3 : m (Str.ofString "mode") = some (.str (Str.ofString "list") tm)) (hD : ToSt stD w h₀ L f cd src l oM oS gs d os Q E) :
    wpAny (model pw w) (lawA L f cd) (execs stC2 (lawX L f cd)) Q E ⟨h, gs, d, tk, os⟩ := by
  w_on
  repeat' (first | ((with_reducible show wpAny _ _ (call (Value.ref 497) _) _ _ _); refine Stop.out ?_) | tb_start | walk1)
  refine Stop.inn ?_
  (refine' c_sum_9 ?k1 ?k2 ?k3 ?k4 ?k5 ?k6 ?d1 ?d2 ?hal ?hpt ?hx ?hd ?hli ?hlen ?hz ?hk0 ?hk1 ?hat ?hoa ?hlo ?hcv ?hdv ?hci ?_)
  case k1 => exact K0
  case k2 => k_asm
  case k3 => k_asm
  case k4 => k_asm
  case k5 => k_asm
  case k6 => kernel_rfl
  case d1 => exact Nat.le_of_ble_eq_true rfl
  case d2 => exact Nat.le_of_ble_eq_true rfl
  case hal => tb_rel
  case hpt => tb_rel
  case hx => tb_rel
  case hd => tb_rel
  case hli => tb_rel
  case hlen => assumption
  case hz => assumption
  case hk0 => assumption
  case hk1 => assumption
  case hat => tb_rel
  case hoa => assumption
  case hlo => assumption
  case hcv => tb_rel
  case hdv => tb_rel
  case hci => tb_rel
  intro r dr ri an nv dn nr c1 c2 o h' tk' t1 t2 t3 t4 t5 t6 s1 s2 s3 s4 s5 s6 z1 z2 z3 z4 z5 z6 news' F' N' hsub b0 b1 b2 b3 b4 b5 b6 b7
  k_sweep
  have hs' : SrcIn L src l oM oS news' := hs.mono fun q hq => hsub q (by repeat (first | exact hq | refine mem_tl ?_))
  clear hs
  iterate 2 (tb_start)
  (refine' s_E3 K0 ?F X ?N T hs' b0 b1 b2 b3 b4 b5 b6 b7 ?h0 ?h1 ?m1 ?m2 ?m3 ?m4 hD)
  case F => k_asm
  case N => k_asm
  case h0 => first | assumption | decide
  case h1 => first | assumption | decide
  case m1 => tb_rel
  case m2 => tb_rel
  case m3 => tb_rel
  case m4 => tb_rel
theorem s_C2_10 {ts tc tm : Tok} {x dx li : Addr} {nl : Nat} {vs : List Value} {k : Int} {u1 u2 u3 u4 u5 u6 : Tok} {av cv dv ci : Addr} {oa : Obj} {c : Nat} {w1 w2 w3 w4 w5 w6 y1 y2 : Tok} (K0 : Below callerA h₀ [] h₀) (F : Fr h₀ L h m) (X : (frag w.params).In h₀) (N : News h₀ L h news) (T : Top p loose mean mg mb h₀) (hs : SrcIn L src l oM oS news) (hx : (x, instObj 255 dx) ∈ news) (hd : (dx, dictOf [ent w "kind" u1 (.str (Str.ofString "expression") u2), ent w "items" u3 (.ref li), ent w "attrs" u4 (.ref av), ent w "shared" u5 (.bool false), ent w "loose" u6 (.bool false)] 5) ∈ news) (hli : (li, listOf vs.toArray nl) ∈ news) (hlen : ((vs.length : Nat) : Int) = k) (hz : Nat.ble vs.length 1000 = true) (hk0 : 0 ≤ k) (hk1 : k < 1000) (hat : (av, oa) ∈ news) (hoa : oa.IsDictOf (PySem.strKind pw w) [(Str.ofString "class", .ref cv)]) (hlo : (av == sysModules) = false) (hcv : (cv, instObj 255 dv) ∈ news) (hdv : (dv, dictOf [ent w "kind" w1 (.str (Str.ofString "character") w2), ent w "items" w3 (.ref ci), ent w "attrs" w4 .none, ent w "shared" w5 (.bool false), ent w "loose" w6 (.bool false)] 5) ∈ news) (hci : (ci, listOf [(.str (Str.ofString "mine") y1), (.str (Str.ofString "other") y2)].toArray c) ∈ news)
     (mv : m (Str.ofString "value") = some (.ref x)) (m1 : m (Str.ofString "size_of") = some (.int k ts)) (m2 : m (Str.ofString "told_class") = some (.str (Str.ofString "mine") tc)) (m3 : m (Str.ofString "mode") = some (.str (Str.ofString "expression") tm)) (hD : ToSt stD w h₀ L f cd src l oM oS gs d os Q E) :
    wpAny (model pw w) (lawA L f cd) (execs stC2 (lawX L f cd)) Q E ⟨h, gs, d, tk, os⟩ := by
  w_on
  repeat' (first | ((with_reducible show wpAny _ _ (call (Value.ref 497) _) _ _ _); refine Stop.out ?_) | tb_start | walk1)
  refine Stop.inn ?_
  (refine' c_sum_10 ?k1 ?k2 ?k3 ?k4 ?k5 ?k6 ?d1 ?d2 ?hal ?hpt ?hx ?hd ?hli ?hlen ?hz ?hk0 ?hk1 ?hat ?hoa ?hlo ?hcv ?hdv ?hci ?_)
  case k1 => exact K0
  case k2 => k_asm
  case k3 => k_asm
  case k4 => k_asm
  case k5 => k_asm
  case k6 => kernel_rfl
  case d1 => exact Nat.le_of_ble_eq_true rfl
  case d2 => exact Nat.le_of_ble_eq_true rfl
  case hal => tb_rel
  case hpt => tb_rel
  case hx => tb_rel
  case hd => tb_rel
  case hli => tb_rel
  case hlen => assumption
  case hz => assumption
  case hk0 => assumption
  case hk1 => assumption
  case hat => tb_rel
  case hoa => assumption
  case hlo => assumption
  case hcv => tb_rel
  case hdv => tb_rel
  case hci => tb_rel
  intro r dr ri an nv dn nr c1 c2 o h' tk' t1 t2 t3 t4 t5 t6 s1 s2 s3 s4 s5 s6 z1 z2 z3 z4 z5 z6 news' F' N' hsub b0 b1 b2 b3 b4 b5 b6 b7
  k_sweep
  have hs' : SrcIn L src l oM oS news' := hs.mono fun q hq => hsub q (by repeat (first | exact hq | refine mem_tl ?_))
  clear hs
  iterate 2 (tb_start)
  (refine' s_E3 K0 ?F X ?N T hs' b0 b1 b2 b3 b4 b5 b6 b7 ?h0 ?h1 ?m1 ?m2 ?m3 ?m4 hD)
  case F => k_asm
  case N => k_asm
  case h0 => first | assumption | decide
  case h1 => first | assumption | decide
  case m1 => tb_rel
  case m2 => tb_rel
  case m3 => tb_rel
  case m4 => tb_rel
end
section
variable {w : World} {p : Program} {loose : List Str} {mean : ExcName → Option Value} {mg mb : Str → Option Value} {h₀ : Heap} {L f : Addr} {cd : Value}
    {m : Str → Option Value} {Q : Flow → Shared → Prop} {E : Value → Shared → Prop} {news : List (Addr × Obj)} {h : Heap} {gs : Array GenState} {d : Drawn} {tk : Nat} {os : OsState} {src l : Addr} {oM oS : Obj}
theorem s_C1_5 {tf ts tc tm : Tok} {x dx li : Addr} {nl : Nat} {vs : List Value} {k : Int} {u1 u2 u3 u4 u5 u6 : Tok} {x0 y : Int} {tx ty : Tok} {n k0 : Nat} {us : List Value} {ns : List Int} (K0 : Below callerA h₀ [] h₀) (F : Fr h₀ L h m) (X : (frag w.params).In h₀) (N : News h₀ L h news) (T : Top p loose mean mg mb h₀) (hx : (x, instObj 255 dx) ∈ news) (hd : (dx, dictOf [ent w "kind" u1 (.str (Str.ofString "character") u2), ent w "items" u3 (.ref li), ent w "attrs" u4 .none, ent w "shared" u5 (.bool false), ent w "loose" u6 (.bool false)] 5) ∈ news) (hli : (li, listOf vs.toArray nl) ∈ news) (g1 : (src, listOf #[.ref l, .int x0 tx, .int y ty] n) ∈ news) (g2 : (l, listOf us.toArray k0) ∈ news) (g3 : (L + 2, oM) ∈ news) (g4 : (L + 1, oS) ∈ news)
    (dS : oS.data = .cell (some (.ref src))) (e1 : @LT.lt Nat _ (L + 2) l) (e2 : @LT.lt Nat _ l src) (n1 : @Ne Nat src li) (n2 : @Ne Nat l li) (n3 : @Ne Nat (L + 2) li) (n4 : @Ne Nat (L + 1) li) (e3 : @LT.lt Nat _ src dx) (e4 : @LT.lt Nat _ li dx) (e5 : @LT.lt Nat _ dx x) (hi : IntsAre us ns) (hz : us.length ≤ 63) (y0 : 0 ≤ y) (y1 : y < 2147483563)
    (hlen : ((vs.length : Nat) : Int) = k) (hzv : Nat.ble vs.length 1000 = true) (hk0 : 0 ≤ k) (hk1 : k < 1000)
    (mf : m (Str.ofString "form") = some (.int 5 tf)) (mv : m (Str.ofString "value") = some (.ref x)) (m1 : m (Str.ofString "size_of") = some (.int k ts)) (m2 : m (Str.ofString "told_class") = some (.str (Str.ofString "character") tc)) (m3 : m (Str.ofString "mode") = some (.str (Str.ofString "character") tm)) (hD : ToSt stD w h₀ L f cd src l oM oS gs d os Q E) :
    wpAny (model pw w) (lawA L f cd) (execs stC1 (lawX L f cd)) Q E ⟨h, gs, d, tk, os⟩ := by
  w_on
  have N1 : News h₀ L h [(x, instObj 255 dx), (dx, dictOf [ent w "kind" u1 (.str (Str.ofString "character") u2), ent w "items" u3 (.ref li), ent w "attrs" u4 .none, ent w "shared" u5 (.bool false), ent w "loose" u6 (.bool false)] 5), (li, listOf vs.toArray nl), (src, listOf #[.ref l, .int x0 tx, .int y ty] n), (l, listOf us.toArray k0), (L + 2, oM), (L + 1, oS)] := news7 N hx hd hli g1 g2 g3 g4
  clear N hx hd hli g1 g2 g3 g4
  repeat' (first | ((with_reducible show wpAny _ _ (call (Value.ref 514) _) _ _ _); refine Stop.out ?_) | tb_start | walk1)
  refine Stop.inn ?_
  (refine' take_any ?k1 ?k2 ?k3 ?k4 ?k5 ?k6 ?i1 ?i2 ?R ?ne ?hi ?hz ?y0 ?y1 ?m0 ?m8 ?hd ?hu ?_)
  case k1 => exact K0
  case k2 => k_asm
  case k3 => k_asm
  case k4 => k_asm
  case k5 => k_asm
  case k6 => kernel_rfl
  case i1 => tb_rel
  case i2 => tb_rel
  case ne => k_ne
  case R => tb_rel
  case hi => assumption
  case hz => assumption
  case y0 => assumption
  case y1 => assumption
  case m0 => decide
  case m8 => decide
  case hd => exact Nat.le_of_ble_eq_true rfl
  case hu => exact Nat.le_of_ble_eq_true rfl
  intro r' x' y' t' tx' ty' n' k' us' ns' h' tk' c1 c2 hI' hZ' hY0' hY1' F' N'
  (try dsimp only at N')
  k_sweep
  clear hi hz y0 y1

  have hc : r' = 0 ∨ r' = 1 := by omega
  rcases hc with rfl | rfl
  · repeat' (first | ((with_reducible show wpAny _ _ (execs (Stmt.Assign [Expr.Name (Str.ofString "told") _] _ _ :: _) _) _ _ _); refine Stop.out ?_) | tb_start | walk1)
    refine Stop.inn ?_
    (refine' s_C2_5 K0 ?F X ?N T ?hs ?hx ?hd ?hli hlen hzv hk0 hk1  ?mv ?m1 ?m2 ?m3 hD)
    case F => k_asm
    case N => k_asm
    case mv => tb_rel
    case m1 => tb_rel
    case m2 => tb_rel
    case m3 => tb_rel
    case hs => exact ⟨_, _, _, _, _, _, _, _, by tb_rel, by tb_rel, by tb_rel, by tb_rel, hI', hZ', hY0', hY1'⟩
    case hx => tb_rel
    case hd => tb_rel
    case hli => tb_rel

  · repeat' (first | ((with_reducible show wpAny _ _ (eval (PySem.Expr.Dict _ _ _) _) _ _ _); refine Stop.out ?_) | tb_start | walk1)
    refine Stop.inn ?_
    refine dict1 (by k_asm) (by k_asm) (Top.nolimit (by with_reducible assumption)) fun d1 h1' o1 tk1 F1 N1 l1 lo hd1 => ?_
    k_sweep
    replace l1 := allLt_of l1
    simp only [AllLt, and_true] at l1
    repeat' (first | ((with_reducible show DictPut _ _ _ _ _ _ _ _ _); refine Stop.out ?_) | tb_start | walk1)
    refine Stop.inn ?_
    rename_i q1 q2
    have q1' := lt_head1 q1
    rename_i l3 _ _ _ _ _ _ _ _ _ _ _
    have l3' := lt_head1 l3
    clear q1 l3
    refine' dict_put ?F ?N ?U hd1 ?k
    case F => k_asm
    case N => k_asm
    case U => tb_rel
    intro h2' o2 tk2 F2 N2 hd2
    try dsimp only at N2
    k_sweep
    repeat' (first | ((with_reducible show wpAny _ _ (execs (Stmt.Assign [Expr.Name (Str.ofString "told") _] _ _ :: _) _) _ _ _); refine Stop.out ?_) | tb_start | walk1)
    refine Stop.inn ?_
    (refine' s_C2_8 K0 ?F X ?N T ?hs ?hx ?hd ?hli hlen hzv hk0 hk1 ?hat ?hoa ?hlo ?hcv ?hdv ?hci ?mv ?m1 ?m2 ?m3 hD)
    case F => k_asm
    case N => k_asm
    case mv => tb_rel
    case m1 => tb_rel
    case m2 => tb_rel
    case m3 => tb_rel
    case hs => exact ⟨_, _, _, _, _, _, _, _, by tb_rel, by tb_rel, by tb_rel, by tb_rel, hI', hZ', hY0', hY1'⟩
    case hx => tb_rel
    case hd => tb_rel
    case hli => tb_rel
    case hat => tb_rel
    case hoa => k_asm
    case hlo => assumption
    case hcv => tb_rel
    case hdv => tb_rel
    case hci => tb_rel

theorem s_C1_6 {tf ts tc tm : Tok} {x dx li : Addr} {nl : Nat} {vs : List Value} {k : Int} {u1 u2 u3 u4 u5 u6 : Tok} {x0 y : Int} {tx ty : Tok} {n k0 : Nat} {us : List Value} {ns : List Int} (K0 : Below callerA h₀ [] h₀) (F : Fr h₀ L h m) (X : (frag w.params).In h₀) (N : News h₀ L h news) (T : Top p loose mean mg mb h₀) (hx : (x, instObj 255 dx) ∈ news) (hd : (dx, dictOf [ent w "kind" u1 (.str (Str.ofString "list") u2), ent w "items" u3 (.ref li), ent w "attrs" u4 .none, ent w "shared" u5 (.bool false), ent w "loose" u6 (.bool false)] 5) ∈ news) (hli : (li, listOf vs.toArray nl) ∈ news) (g1 : (src, listOf #[.ref l, .int x0 tx, .int y ty] n) ∈ news) (g2 : (l, listOf us.toArray k0) ∈ news) (g3 : (L + 2, oM) ∈ news) (g4 : (L + 1, oS) ∈ news)
    (dS : oS.data = .cell (some (.ref src))) (e1 : @LT.lt Nat _ (L + 2) l) (e2 : @LT.lt Nat _ l src) (n1 : @Ne Nat src li) (n2 : @Ne Nat l li) (n3 : @Ne Nat (L + 2) li) (n4 : @Ne Nat (L + 1) li) (e3 : @LT.lt Nat _ src dx) (e4 : @LT.lt Nat _ li dx) (e5 : @LT.lt Nat _ dx x) (hi : IntsAre us ns) (hz : us.length ≤ 63) (y0 : 0 ≤ y) (y1 : y < 2147483563)
    (hlen : ((vs.length : Nat) : Int) = k) (hzv : Nat.ble vs.length 1000 = true) (hk0 : 0 ≤ k) (hk1 : k < 1000)
    (mf : m (Str.ofString "form") = some (.int 6 tf)) (mv : m (Str.ofString "value") = some (.ref x)) (m1 : m (Str.ofString "size_of") = some (.int k ts)) (m2 : m (Str.ofString "told_class") = some (.str (Str.ofString "-none-") tc)) (m3 : m (Str.ofString "mode") = some (.str (Str.ofString "list") tm)) (hD : ToSt stD w h₀ L f cd src l oM oS gs d os Q E) :
    wpAny (model pw w) (lawA L f cd) (execs stC1 (lawX L f cd)) Q E ⟨h, gs, d, tk, os⟩ := by
  w_on
  have N1 : News h₀ L h [(x, instObj 255 dx), (dx, dictOf [ent w "kind" u1 (.str (Str.ofString "list") u2), ent w "items" u3 (.ref li), ent w "attrs" u4 .none, ent w "shared" u5 (.bool false), ent w "loose" u6 (.bool false)] 5), (li, listOf vs.toArray nl), (src, listOf #[.ref l, .int x0 tx, .int y ty] n), (l, listOf us.toArray k0), (L + 2, oM), (L + 1, oS)] := news7 N hx hd hli g1 g2 g3 g4
  clear N hx hd hli g1 g2 g3 g4
  repeat' (first | ((with_reducible show wpAny _ _ (call (Value.ref 514) _) _ _ _); refine Stop.out ?_) | tb_start | walk1)
  refine Stop.inn ?_
  (refine' take_any ?k1 ?k2 ?k3 ?k4 ?k5 ?k6 ?i1 ?i2 ?R ?ne ?hi ?hz ?y0 ?y1 ?m0 ?m8 ?hd ?hu ?_)
  case k1 => exact K0
  case k2 => k_asm
  case k3 => k_asm
  case k4 => k_asm
  case k5 => k_asm
  case k6 => kernel_rfl
  case i1 => tb_rel
  case i2 => tb_rel
  case ne => k_ne
  case R => tb_rel
  case hi => assumption
  case hz => assumption
  case y0 => assumption
  case y1 => assumption
  case m0 => decide
  case m8 => decide
  case hd => exact Nat.le_of_ble_eq_true rfl
  case hu => exact Nat.le_of_ble_eq_true rfl
  intro r' x' y' t' tx' ty' n' k' us' ns' h' tk' c1 c2 hI' hZ' hY0' hY1' F' N'
  (try dsimp only at N')
  k_sweep
  clear hi hz y0 y1

  have hc : r' = 0 ∨ r' = 1 := by omega
  rcases hc with rfl | rfl
  · repeat' (first | ((with_reducible show wpAny _ _ (execs (Stmt.Assign [Expr.Name (Str.ofString "told") _] _ _ :: _) _) _ _ _); refine Stop.out ?_) | tb_start | walk1)
    refine Stop.inn ?_
    (refine' s_C2_6 K0 ?F X ?N T ?hs ?hx ?hd ?hli hlen hzv hk0 hk1  ?mv ?m1 ?m2 ?m3 hD)
    case F => k_asm
    case N => k_asm
    case mv => tb_rel
    case m1 => tb_rel
    case m2 => tb_rel
    case m3 => tb_rel
    case hs => exact ⟨_, _, _, _, _, _, _, _, by tb_rel, by tb_rel, by tb_rel, by tb_rel, hI', hZ', hY0', hY1'⟩
    case hx => tb_rel
    case hd => tb_rel
    case hli => tb_rel

  · repeat' (first | ((with_reducible show wpAny _ _ (eval (PySem.Expr.Dict _ _ _) _) _ _ _); refine Stop.out ?_) | tb_start | walk1)
    refine Stop.inn ?_
    refine dict1 (by k_asm) (by k_asm) (Top.nolimit (by with_reducible assumption)) fun d1 h1' o1 tk1 F1 N1 l1 lo hd1 => ?_
    k_sweep
    replace l1 := allLt_of l1
    simp only [AllLt, and_true] at l1
    repeat' (first | ((with_reducible show DictPut _ _ _ _ _ _ _ _ _); refine Stop.out ?_) | tb_start | walk1)
    refine Stop.inn ?_
    rename_i q1 q2
    have q1' := lt_head1 q1
    rename_i l3 _ _ _ _ _ _ _ _ _ _ _
    have l3' := lt_head1 l3
    clear q1 l3
    refine' dict_put ?F ?N ?U hd1 ?k
    case F => k_asm
    case N => k_asm
    case U => tb_rel
    intro h2' o2 tk2 F2 N2 hd2
    try dsimp only at N2
    k_sweep
    repeat' (first | ((with_reducible show wpAny _ _ (execs (Stmt.Assign [Expr.Name (Str.ofString "told") _] _ _ :: _) _) _ _ _); refine Stop.out ?_) | tb_start | walk1)
    refine Stop.inn ?_
    (refine' s_C2_9 K0 ?F X ?N T ?hs ?hx ?hd ?hli hlen hzv hk0 hk1 ?hat ?hoa ?hlo ?hcv ?hdv ?hci ?mv ?m1 ?m2 ?m3 hD)
    case F => k_asm
    case N => k_asm
    case mv => tb_rel
    case m1 => tb_rel
    case m2 => tb_rel
    case m3 => tb_rel
    case hs => exact ⟨_, _, _, _, _, _, _, _, by tb_rel, by tb_rel, by tb_rel, by tb_rel, hI', hZ', hY0', hY1'⟩
    case hx => tb_rel
    case hd => tb_rel
    case hli => tb_rel
    case hat => tb_rel
    case hoa => k_asm
    case hlo => assumption
    case hcv => tb_rel
    case hdv => tb_rel
    case hci => tb_rel

theorem s_C1_7 {tf ts tc tm : Tok} {x dx li : Addr} {nl : Nat} {vs : List Value} {k : Int} {u1 u2 u3 u4 u5 u6 : Tok} {x0 y : Int} {tx ty : Tok} {n k0 : Nat} {us : List Value} {ns : List Int} (K0 : Below callerA h₀ [] h₀) (F : Fr h₀ L h m) (X : (frag w.params).In h₀) (N : News h₀ L h news) (T : Top p loose mean mg mb h₀) (hx : (x, instObj 255 dx) ∈ news) (hd : (dx, dictOf [ent w "kind" u1 (.str (Str.ofString "expression") u2), ent w "items" u3 (.ref li), ent w "attrs" u4 .none, ent w "shared" u5 (.bool false), ent w "loose" u6 (.bool false)] 5) ∈ news) (hli : (li, listOf vs.toArray nl) ∈ news) (g1 : (src, listOf #[.ref l, .int x0 tx, .int y ty] n) ∈ news) (g2 : (l, listOf us.toArray k0) ∈ news) (g3 : (L + 2, oM) ∈ news) (g4 : (L + 1, oS) ∈ news)
    (dS : oS.data = .cell (some (.ref src))) (e1 : @LT.lt Nat _ (L + 2) l) (e2 : @LT.lt Nat _ l src) (n1 : @Ne Nat src li) (n2 : @Ne Nat l li) (n3 : @Ne Nat (L + 2) li) (n4 : @Ne Nat (L + 1) li) (e3 : @LT.lt Nat _ src dx) (e4 : @LT.lt Nat _ li dx) (e5 : @LT.lt Nat _ dx x) (hi : IntsAre us ns) (hz : us.length ≤ 63) (y0 : 0 ≤ y) (y1 : y < 2147483563)
    (hlen : ((vs.length : Nat) : Int) = k) (hzv : Nat.ble vs.length 1000 = true) (hk0 : 0 ≤ k) (hk1 : k < 1000)
    (mf : m (Str.ofString "form") = some (.int 7 tf)) (mv : m (Str.ofString "value") = some (.ref x)) (m1 : m (Str.ofString "size_of") = some (.int k ts)) (m2 : m (Str.ofString "told_class") = some (.str (Str.ofString "-none-") tc)) (m3 : m (Str.ofString "mode") = some (.str (Str.ofString "expression") tm)) (hD : ToSt stD w h₀ L f cd src l oM oS gs d os Q E) :
    wpAny (model pw w) (lawA L f cd) (execs stC1 (lawX L f cd)) Q E ⟨h, gs, d, tk, os⟩ := by
  w_on
  have N1 : News h₀ L h [(x, instObj 255 dx), (dx, dictOf [ent w "kind" u1 (.str (Str.ofString "expression") u2), ent w "items" u3 (.ref li), ent w "attrs" u4 .none, ent w "shared" u5 (.bool false), ent w "loose" u6 (.bool false)] 5), (li, listOf vs.toArray nl), (src, listOf #[.ref l, .int x0 tx, .int y ty] n), (l, listOf us.toArray k0), (L + 2, oM), (L + 1, oS)] := news7 N hx hd hli g1 g2 g3 g4
  clear N hx hd hli g1 g2 g3 g4
  repeat' (first | ((with_reducible show wpAny _ _ (call (Value.ref 514) _) _ _ _); refine Stop.out ?_) | tb_start | walk1)
  refine Stop.inn ?_
  (refine' take_any ?k1 ?k2 ?k3 ?k4 ?k5 ?k6 ?i1 ?i2 ?R ?ne ?hi ?hz ?y0 ?y1 ?m0 ?m8 ?hd ?hu ?_)
  case k1 => exact K0
  case k2 => k_asm
  case k3 => k_asm
  case k4 => k_asm
  case k5 => k_asm
  case k6 => kernel_rfl
  case i1 => tb_rel
  case i2 => tb_rel
  case ne => k_ne
  case R => tb_rel
  case hi => assumption
  case hz => assumption
  case y0 => assumption
  case y1 => assumption
  case m0 => decide
  case m8 => decide
  case hd => exact Nat.le_of_ble_eq_true rfl
  case hu => exact Nat.le_of_ble_eq_true rfl
  intro r' x' y' t' tx' ty' n' k' us' ns' h' tk' c1 c2 hI' hZ' hY0' hY1' F' N'
  (try dsimp only at N')
  k_sweep
  clear hi hz y0 y1

  have hc : r' = 0 ∨ r' = 1 := by omega
  rcases hc with rfl | rfl
  · repeat' (first | ((with_reducible show wpAny _ _ (execs (Stmt.Assign [Expr.Name (Str.ofString "told") _] _ _ :: _) _) _ _ _); refine Stop.out ?_) | tb_start | walk1)
    refine Stop.inn ?_
    (refine' s_C2_7 K0 ?F X ?N T ?hs ?hx ?hd ?hli hlen hzv hk0 hk1  ?mv ?m1 ?m2 ?m3 hD)
    case F => k_asm
    case N => k_asm
    case mv => tb_rel
    case m1 => tb_rel
    case m2 => tb_rel
    case m3 => tb_rel
    case hs => exact ⟨_, _, _, _, _, _, _, _, by tb_rel, by tb_rel, by tb_rel, by tb_rel, hI', hZ', hY0', hY1'⟩
    case hx => tb_rel
    case hd => tb_rel
    case hli => tb_rel

  · repeat' (first | ((with_reducible show wpAny _ _ (eval (PySem.Expr.Dict _ _ _) _) _ _ _); refine Stop.out ?_) | tb_start | walk1)
    refine Stop.inn ?_
    refine dict1 (by k_asm) (by k_asm) (Top.nolimit (by with_reducible assumption)) fun d1 h1' o1 tk1 F1 N1 l1 lo hd1 => ?_
    k_sweep
    replace l1 := allLt_of l1
    simp only [AllLt, and_true] at l1
    repeat' (first | ((with_reducible show DictPut _ _ _ _ _ _ _ _ _); refine Stop.out ?_) | tb_start | walk1)
    refine Stop.inn ?_
    rename_i q1 q2
    have q1' := lt_head1 q1
    rename_i l3 _ _ _ _ _ _ _ _ _ _ _
    have l3' := lt_head1 l3
    clear q1 l3
    refine' dict_put ?F ?N ?U hd1 ?k
    case F => k_asm
    case N => k_asm
    case U => tb_rel
    intro h2' o2 tk2 F2 N2 hd2
    try dsimp only at N2
    k_sweep
    repeat' (first | ((with_reducible show wpAny _ _ (execs (Stmt.Assign [Expr.Name (Str.ofString "told") _] _ _ :: _) _) _ _ _); refine Stop.out ?_) | tb_start | walk1)
    refine Stop.inn ?_
    (refine' s_C2_10 K0 ?F X ?N T ?hs ?hx ?hd ?hli hlen hzv hk0 hk1 ?hat ?hoa ?hlo ?hcv ?hdv ?hci ?mv ?m1 ?m2 ?m3 hD)
    case F => k_asm
    case N => k_asm
    case mv => tb_rel
    case m1 => tb_rel
    case m2 => tb_rel
    case m3 => tb_rel
    case hs => exact ⟨_, _, _, _, _, _, _, _, by tb_rel, by tb_rel, by tb_rel, by tb_rel, hI', hZ', hY0', hY1'⟩
    case hx => tb_rel
    case hd => tb_rel
    case hli => tb_rel
    case hat => tb_rel
    case hoa => k_asm
    case hlo => assumption
    case hcv => tb_rel
    case hdv => tb_rel
    case hci => tb_rel

end
section
variable {w : World} {p : Program} {loose : List Str} {mean : ExcName → Option Value} {mg mb : Str → Option Value} {h₀ : Heap} {L f : Addr} {cd : Value}
    {m : Str → Option Value} {Q : Flow → Shared → Prop} {E : Value → Shared → Prop} {news : List (Addr × Obj)} {h : Heap} {gs : Array GenState} {d : Drawn} {tk : Nat} {os : OsState} {src l : Addr} {oM oS : Obj}
theorem s_B1 {many : Int} {x0 y : Int} {tx ty tf tm : Tok} {n k0 : Nat} {us : List Value} {ns : List Int} (K0 : Below callerA h₀ [] h₀) (F : Fr h₀ L h m) (X : (frag w.params).In h₀) (N : News h₀ L h [(src, listOf #[.ref l, .int x0 tx, .int y ty] n), (l, listOf us.toArray k0), (L + 2, oM), (L + 1, oS)]) (T : Top p loose mean mg mb h₀) (dS : oS.data = .cell (some (.ref src))) (dM : oM.data = .cell none) (e1 : @LT.lt Nat _ (L + 2) l) (e2 : @LT.lt Nat _ l src)
    (mm : m (Str.ofString "many") = some (.int many tm)) (a0 : 0 ≤ many) (a3 : many < 4)
    (hB : ∀ (h' : Heap) (tk' : Nat) (I : Addr) (vs : List Value) (nI : Nat), Fr h₀ L h' (fun y => if y = Str.ofString "items" then some (.ref I) else m y) → News h₀ L h' [(I, listOf vs.toArray nI), (src, listOf #[.ref l, .int x0 tx, .int y ty] n), (l, listOf us.toArray k0), (L + 2, oM), (L + 1, oS)] → ((vs.length : Nat) : Int) = many → (@Ne Nat src I) ∧ (@Ne Nat l I) ∧ (@Ne Nat (L + 2) I) ∧ (@Ne Nat (L + 1) I) →
      wpAny (model pw w) (lawA L f cd) (execs stB2 (lawX L f cd)) Q E ⟨h', gs, d, tk', os⟩) :
    wpAny (model pw w) (lawA L f cd) (execs stB (lawX L f cd)) Q E ⟨h, gs, d, tk, os⟩ := by
  w_on
  refine x_cons ?_
  intro tk0
  refine LCg.Assign_ListComp_U (F₀ := by k_asm) (cl := []) rfl (by kernel_rfl) (by kernel_rfl) (by decide) rfl (by decide) rfl rfl rfl ?_ (fun _ => by kernel_rfl)
  iterate 6 (tb_start)
  walk1
  rename_i hR F1 N1 _
  k_sweep
  try clear F N
  have hc : many = 0 ∨ many = 1 ∨ many = 2 ∨ many = 3 := by omega
  refine LCg.CompSrc.range (n := many.toNat) rfl F1 N1 hR (by rcases hc with rfl | rfl | rfl | rfl <;> rfl) (by rcases hc with rfl | rfl | rfl | rfl <;> rfl) (by rw [sizeLine_eq]; omega) fun g => ?_
  clear F1 N1 hR
  refine rest_ind (n := many.toNat) ?Z ?step _ _ _ rfl (by omega)
  case Z =>
    intro ys hys
    intro D h' tk' F' N' off
    refine x_next ?_
    exact hB _ _ _ ys _ F' N' (by omega) ⟨off.1, off.2.1, off.2.2.1, off.2.2.2.1⟩
  case step =>
    intro i ys v I oI C oC D m₂ h' tk' E' R hP hC hx F' N' off ne hR
    obtain ⟨t, rfl⟩ := hP
    dsimp only
    repeat' (first | tb_start | walk1)
    exact LCg.CompEnd.intro (by k_asm) (by k_asm) [(src, listOf #[.ref l, .int x0 tx, .int y ty] n), (l, listOf us.toArray k0), (L + 2, oM), (L + 1, oS)] (fun p hp => by repeat (first | exact hp | refine mem_tl ?_)) off trivial (hR _)
end
section
variable {w : World} {p : Program} {loose : List Str} {mean : ExcName → Option Value} {mg mb : Str → Option Value} {h₀ : Heap} {L f : Addr} {cd : Value}
    {m : Str → Option Value} {Q : Flow → Shared → Prop} {E : Value → Shared → Prop} {news : List (Addr × Obj)} {h : Heap} {gs : Array GenState} {d : Drawn} {tk : Nat} {os : OsState} {src l : Addr} {oM oS : Obj}
end
section
variable {w : World} {p : Program} {loose : List Str} {mean : ExcName → Option Value} {mg mb : Str → Option Value} {dp un : Nat} {gd : Option (List Code)} {cn : Str} {cs : Scope} {a : Addr} {ccd : Value} {cl : List (Str × Addr)} {outer : List Env} {A₀ : Around} {base h₀ : Heap} {L : Addr}
    {m : Str → Option Value} {Q E : Value → Shared → Prop} {news : List (Addr × Obj)} {h : Heap} {gs : Array GenState} {d : Drawn} {tk : Nat} {os : OsState}
theorem c_call_of {li : Addr} {vs : List Value} {n : Nat} {nm : Str} {tn : Tok} (B : Below A₀ base outer h₀) (F : Fr h₀ L h m) (X : (frag w.params).In h₀) (N : News h₀ L h news) (T : Top p loose mean mg mb h₀) (hk : cs.kind = .function) (hdp : dp + 40 < recursionLimit) (hu : un + 480 < cLine) (hl : (li, listOf vs.toArray n) ∈ news) (hz : Nat.ble vs.length 900 = true)
    (ret : ∀ (x dx x1 d1 i2 T i1 ic li' : Addr) (c0 c1 : Nat) (ws : List Value) (h' : Heap) (tk' : Nat) (t1 t2 t3 t4 t5 t6 s1 s2 s3 s4 : Tok), Fr h₀ L h' m → News h₀ L h' ((x, instObj 298 dx) :: (dx, dictOf [ent w "kind" t1 (.str (Str.ofString "language") t2), ent w "items" t3 (.ref i2), ent w "tags" t4 (.ref T), ent w "attrs" t5 .none, ent w "code" t6 .none] 5) :: (T, listOf ws.toArray c1) :: (i1, listOf [.none].toArray 0) :: (i2, listOf (.ref x1 :: vs).toArray 0) :: (ic, listOf vs.toArray c0) :: (li', listOf [.ref x1].toArray 0) :: (x1, instObj 276 d1) :: (d1, dictOf [ent w "kind" s1 (.str (Str.ofString "symbol") s2), ent w "name" s3 (.str nm tn), ent w "attrs" s4 .none] 3) :: news) → Q (.ref x) ⟨h', gs, d, tk', os⟩) :
    wpAny (model pw w) (ktrTop dp un gd cn cs L a ccd cl outer) (call (.ref 358) [.str nm tn, .ref li]) Q E ⟨h, gs, d, tk, os⟩ := by
  w_on
  have hz1 : Nat.ble vs.length 1000 = true := Nat.ble_eq_true_of_le (by have := Nat.le_of_ble_eq_true hz; omega)
  have hz2 := Nat.le_of_ble_eq_true hz
  repeat' (first | tb_start | walk1)
  exact ret _ _ _ _ _ _ _ _ _ _ _ _ _ _ _ _ _ _ _ _ _ _ _ _ (by k_asm) (by k_asm)
end
section
variable {w : World} {p : Program} {loose : List Str} {mean : ExcName → Option Value} {mg mb : Str → Option Value} {h₀ : Heap} {L f : Addr} {cd : Value}
    {m : Str → Option Value} {Q : Flow → Shared → Prop} {E : Value → Shared → Prop} {news : List (Addr × Obj)} {h : Heap} {gs : Array GenState} {d : Drawn} {tk : Nat} {os : OsState} {src l : Addr} {oM oS : Obj}
end
section
section
variable {w : World} {p : Program} {loose : List Str} {mean : ExcName → Option Value} {mg mb : Str → Option Value} {h₀ : Heap} {L f : Addr} {cd : Value}
    {m : Str → Option Value} {Q : Flow → Shared → Prop} {E : Value → Shared → Prop} {news : List (Addr × Obj)} {h : Heap} {gs : Array GenState} {d : Drawn} {tk : Nat} {os : OsState} {src l : Addr} {oM oS : Obj}
end
local macro_rules | `(tactic| tb_start) => `(tactic| ((with_reducible refine at_call ?_); first
  | ((with_reducible show wpAny _ _ (call (Value.ref 358) [_, _]) _ _ _); (with_reducible refine' c_call_of ?k1 ?k2 ?k3 ?k4 ?k5 ?k6 ?hd ?hu ?hl ?hz ?_); (case k1 => with_reducible assumption); (case k2 => with_reducible assumption); (case k3 => with_reducible assumption); (case k4 => with_reducible assumption); (case k5 => with_reducible assumption); (case k6 => first | with_reducible assumption | kernel_rfl); (case hd => first | exact Nat.le_of_ble_eq_true rfl | omega); (case hu => first | exact Nat.le_of_ble_eq_true rfl | omega); (case hl => tb_rel); (case hz => first | with_reducible assumption | kernel_rfl!); intro x' dx' x1' d1' i2' T' i1' ic' li' c0' c1' ws' h' tk' t1x t2x t3x t4x t5x t6x s1x s2x s3x s4x F' N'; (try k_sweep))))
section
variable {w : World} {p : Program} {loose : List Str} {mean : ExcName → Option Value} {mg mb : Str → Option Value} {h₀ : Heap} {L f : Addr} {cd : Value}
    {m : Str → Option Value} {Q : Flow → Shared → Prop} {E : Value → Shared → Prop} {news : List (Addr × Obj)} {h : Heap} {gs : Array GenState} {d : Drawn} {tk : Nat} {os : OsState} {src l : Addr} {oM oS : Obj}
theorem s_B2 {many form : Int} {I : Addr} {vs : List Value} {nI : Nat} {x0 y : Int} {tx ty tf tm : Tok} {n k0 : Nat} {us : List Value} {ns : List Int} (K0 : Below callerA h₀ [] h₀) (F : Fr h₀ L h m) (X : (frag w.params).In h₀) (N : News h₀ L h [(I, listOf vs.toArray nI), (src, listOf #[.ref l, .int x0 tx, .int y ty] n), (l, listOf us.toArray k0), (L + 2, oM), (L + 1, oS)]) (T : Top p loose mean mg mb h₀) (dS : oS.data = .cell (some (.ref src))) (dM : oM.data = .cell none) (e1 : @LT.lt Nat _ (L + 2) l) (e2 : @LT.lt Nat _ l src) (n1 : @Ne Nat src I) (n2 : @Ne Nat l I) (n3 : @Ne Nat (L + 2) I) (n4 : @Ne Nat (L + 1) I)
    (hi : IntsAre us ns) (hz : us.length ≤ 63) (y0 : 0 ≤ y) (y1 : y < 2147483563)
    (mm : m (Str.ofString "many") = some (.int many tm)) (mf : m (Str.ofString "form") = some (.int form tf)) (mi : m (Str.ofString "items") = some (.ref I)) (a0 : 0 ≤ many) (a3 : many < 4) (f0 : 0 ≤ form) (f7 : form < 8) (hlen : ((vs.length : Nat) : Int) = many) (hD : ToSt stD w h₀ L f cd src l oM oS gs d os Q E) :
    wpAny (model pw w) (lawA L f cd) (execs stB2 (lawX L f cd)) Q E ⟨h, gs, d, tk, os⟩ := by
  w_on
  have hzI : Nat.ble vs.length 900 = true := Nat.ble_eq_true_of_le (by omega)
  have a9 : many < 2000 := by omega
  repeat' (first | ((with_reducible show wpAny _ _ (execs (Stmt.If _ _ _ _ :: _) _) _ _ _); refine Stop.out ?_) | tb_start | walk1)
  refine Stop.inn ?_
  have hc : form = 0 ∨ form = 1 ∨ form = 2 ∨ form = 3 ∨ form = 4 ∨ form = 5 ∨ form = 6 ∨ form = 7 := by omega
  clear f0 f7
  rcases hc with rfl | rfl | rfl | rfl | rfl | rfl | rfl | rfl
  · skip
    iterate 4 (rename [_, _, _, _, _, _, _, _][_]? = some _ => hq; have eq := Option.some.inj hq; clear hq; subst eq)
    (refine' s_C2_0 K0 ?F X ?N T ?hs ?hx ?hd  ?mf ?mv ?m1 ?m2 ?m3 hD)
    case F => k_asm
    case N => k_asm
    case mf => tb_rel
    case mv => tb_rel
    case m1 => tb_rel
    case m2 => tb_rel
    case m3 => tb_rel
    case hs => exact ⟨_, _, _, _, _, _, _, _, by tb_rel, by tb_rel, by tb_rel, by tb_rel, hi, hz, y0, y1⟩
    case hx => tb_rel
    case hd => tb_rel
  · skip
    iterate 4 (rename [_, _, _, _, _, _, _, _][_]? = some _ => hq; have eq := Option.some.inj hq; clear hq; subst eq)
    (refine' s_C2_1 K0 ?F X ?N T ?hs ?hx ?hd  ?mf ?mv ?m1 ?m2 ?m3 hD)
    case F => k_asm
    case N => k_asm
    case mf => tb_rel
    case mv => tb_rel
    case m1 => tb_rel
    case m2 => tb_rel
    case m3 => tb_rel
    case hs => exact ⟨_, _, _, _, _, _, _, _, by tb_rel, by tb_rel, by tb_rel, by tb_rel, hi, hz, y0, y1⟩
    case hx => tb_rel
    case hd => tb_rel
  · skip
    iterate 4 (rename [_, _, _, _, _, _, _, _][_]? = some _ => hq; have eq := Option.some.inj hq; clear hq; subst eq)
    (refine' s_C2_2 K0 ?F X ?N T ?hs ?hx ?hd ?hli ?hx1 ?hd1 ?hlen ?hz ?hk0 ?hk1 ?mf ?mv ?m1 ?m2 ?m3 hD)
    case F => k_asm
    case N => k_asm
    case mf => tb_rel
    case mv => tb_rel
    case m1 => tb_rel
    case m2 => tb_rel
    case m3 => tb_rel
    case hs => exact ⟨_, _, _, _, _, _, _, _, by tb_rel, by tb_rel, by tb_rel, by tb_rel, hi, hz, y0, y1⟩
    case hx => tb_rel
    case hd => tb_rel
    case hli => tb_rel
    case hx1 => tb_rel
    case hd1 => tb_rel
    case hlen => (rw [List.length_cons]; omega)
    case hz => (refine Nat.ble_eq_true_of_le ?_; rw [List.length_cons]; omega)
    case hk0 => omega
    case hk1 => omega
  · skip
    iterate 4 (rename [_, _, _, _, _, _, _, _][_]? = some _ => hq; have eq := Option.some.inj hq; clear hq; subst eq)
    (refine' s_C2_3 K0 ?F X ?N T ?hs ?hx ?hd ?hli ?hx1 ?hd1 ?mf ?mv ?m1 ?m2 ?m3 hD)
    case F => k_asm
    case N => k_asm
    case mf => tb_rel
    case mv => tb_rel
    case m1 => tb_rel
    case m2 => tb_rel
    case m3 => tb_rel
    case hs => exact ⟨_, _, _, _, _, _, _, _, by tb_rel, by tb_rel, by tb_rel, by tb_rel, hi, hz, y0, y1⟩
    case hx => tb_rel
    case hd => tb_rel
    case hli => tb_rel
    case hx1 => tb_rel
    case hd1 => tb_rel
  · skip
    iterate 4 (rename [_, _, _, _, _, _, _, _][_]? = some _ => hq; have eq := Option.some.inj hq; clear hq; subst eq)
    (refine' s_C2_4 K0 ?F X ?N T ?hs ?hx ?hd  ?mf ?mv ?m1 ?m2 ?m3 hD)
    case F => k_asm
    case N => k_asm
    case mf => tb_rel
    case mv => tb_rel
    case m1 => tb_rel
    case m2 => tb_rel
    case m3 => tb_rel
    case hs => exact ⟨_, _, _, _, _, _, _, _, by tb_rel, by tb_rel, by tb_rel, by tb_rel, hi, hz, y0, y1⟩
    case hx => tb_rel
    case hd => tb_rel
  · skip
    iterate 4 (rename [_, _, _, _, _, _, _, _][_]? = some _ => hq; have eq := Option.some.inj hq; clear hq; subst eq)
    (refine' s_C1_5 K0 ?F X ?N T ?hx ?hd ?hli ?g1 ?g2 ?g3 ?g4 dS e1 e2 ?n1 ?n2 ?n3 ?n4 ?e3 ?e4 ?e5 hi hz y0 y1 ?hlen ?hzv ?hk0 ?hk1 ?mf ?mv ?m1 ?m2 ?m3 hD)
    case F => k_asm
    case N => k_asm
    case mf => tb_rel
    case mv => tb_rel
    case m1 => tb_rel
    case m2 => tb_rel
    case m3 => tb_rel
    case hx => tb_rel
    case hd => tb_rel
    case hli => tb_rel
    case g1 => tb_rel
    case g2 => tb_rel
    case g3 => tb_rel
    case g4 => tb_rel
    case n1 => first | assumption | exact Nat.ne_of_lt (lt_of_news (by with_reducible assumption) (by tb_rel))
    case n2 => first | assumption | exact Nat.ne_of_lt (lt_of_news (by with_reducible assumption) (by tb_rel))
    case n3 => first | assumption | exact Nat.ne_of_lt (lt_of_news (by with_reducible assumption) (by tb_rel))
    case n4 => first | assumption | exact Nat.ne_of_lt (lt_of_news (by with_reducible assumption) (by tb_rel))
    case e3 => exact lt_of_news (by with_reducible assumption) (by tb_rel)
    case e4 => exact lt_of_news (by with_reducible assumption) (by tb_rel)
    case e5 => assumption
    case hlen => first | assumption | omega
    case hzv => (refine Nat.ble_eq_true_of_le ?_; omega)
    case hk0 => omega
    case hk1 => omega
  · skip
    iterate 4 (rename [_, _, _, _, _, _, _, _][_]? = some _ => hq; have eq := Option.some.inj hq; clear hq; subst eq)
    (refine' s_C1_6 K0 ?F X ?N T ?hx ?hd ?hli ?g1 ?g2 ?g3 ?g4 dS e1 e2 ?n1 ?n2 ?n3 ?n4 ?e3 ?e4 ?e5 hi hz y0 y1 ?hlen ?hzv ?hk0 ?hk1 ?mf ?mv ?m1 ?m2 ?m3 hD)
    case F => k_asm
    case N => k_asm
    case mf => tb_rel
    case mv => tb_rel
    case m1 => tb_rel
    case m2 => tb_rel
    case m3 => tb_rel
    case hx => tb_rel
    case hd => tb_rel
    case hli => tb_rel
    case g1 => tb_rel
    case g2 => tb_rel
    case g3 => tb_rel
    case g4 => tb_rel
    case n1 => first | assumption | exact Nat.ne_of_lt (lt_of_news (by with_reducible assumption) (by tb_rel))
    case n2 => first | assumption | exact Nat.ne_of_lt (lt_of_news (by with_reducible assumption) (by tb_rel))
    case n3 => first | assumption | exact Nat.ne_of_lt (lt_of_news (by with_reducible assumption) (by tb_rel))
    case n4 => first | assumption | exact Nat.ne_of_lt (lt_of_news (by with_reducible assumption) (by tb_rel))
    case e3 => exact lt_of_news (by with_reducible assumption) (by tb_rel)
    case e4 => exact lt_of_news (by with_reducible assumption) (by tb_rel)
    case e5 => assumption
    case hlen => first | assumption | omega
    case hzv => (refine Nat.ble_eq_true_of_le ?_; omega)
    case hk0 => omega
    case hk1 => omega
  · skip
    iterate 4 (rename [_, _, _, _, _, _, _, _][_]? = some _ => hq; have eq := Option.some.inj hq; clear hq; subst eq)
    (refine' s_C1_7 K0 ?F X ?N T ?hx ?hd ?hli ?g1 ?g2 ?g3 ?g4 dS e1 e2 ?n1 ?n2 ?n3 ?n4 ?e3 ?e4 ?e5 hi hz y0 y1 ?hlen ?hzv ?hk0 ?hk1 ?mf ?mv ?m1 ?m2 ?m3 hD)
    case F => k_asm
    case N => k_asm
    case mf => tb_rel
    case mv => tb_rel
    case m1 => tb_rel
    case m2 => tb_rel
    case m3 => tb_rel
    case hx => tb_rel
    case hd => tb_rel
    case hli => tb_rel
    case g1 => tb_rel
    case g2 => tb_rel
    case g3 => tb_rel
    case g4 => tb_rel
    case n1 => first | assumption | exact Nat.ne_of_lt (lt_of_news (by with_reducible assumption) (by tb_rel))
    case n2 => first | assumption | exact Nat.ne_of_lt (lt_of_news (by with_reducible assumption) (by tb_rel))
    case n3 => first | assumption | exact Nat.ne_of_lt (lt_of_news (by with_reducible assumption) (by tb_rel))
    case n4 => first | assumption | exact Nat.ne_of_lt (lt_of_news (by with_reducible assumption) (by tb_rel))
    case e3 => exact lt_of_news (by with_reducible assumption) (by tb_rel)
    case e4 => exact lt_of_news (by with_reducible assumption) (by tb_rel)
    case e5 => assumption
    case hlen => first | assumption | omega
    case hzv => (refine Nat.ble_eq_true_of_le ?_; omega)
    case hk0 => omega
    case hk1 => omega
end

end
section
variable {w : World} {p : Program} {loose : List Str} {mean : ExcName → Option Value} {mg mb : Str → Option Value} {h₀ : Heap} {L f : Addr} {cd : Value}
    {m : Str → Option Value} {Q : Flow → Shared → Prop} {E : Value → Shared → Prop} {news : List (Addr × Obj)} {h : Heap} {gs : Array GenState} {d : Drawn} {tk : Nat} {os : OsState} {src l : Addr} {oM oS : Obj}
theorem s_D1 (K0 : Below callerA h₀ [] h₀) (F : Fr h₀ L h m) (X : (frag w.params).In h₀) (N : News h₀ L h news) (T : Top p loose mean mg mb h₀) (hs : SrcIn L src l oM oS news) (dS : oS.data = .cell (some (.ref src))) (dM : oM.data = .cell none) (e1 : @LT.lt Nat _ (L + 2) l) (e2 : @LT.lt Nat _ l src)
    (hR : ∀ (h' : Heap) (tk' : Nat) (nv : Value) (x0 y : Int) (tx ty : Tok) (n k0 : Nat) (us : List Value) (ns : List Int), isNS nv = true → Fr h₀ L h' (fun z => if z = Str.ofString "name" then some nv else m z) → News h₀ L h' [(src, listOf #[.ref l, .int x0 tx, .int y ty] n), (l, listOf us.toArray k0), (L + 2, oM), (L + 1, oS)] → IntsAre us ns → us.length ≤ 63 → 0 ≤ y → y < 2147483563 →
      wpAny (model pw w) (lawA L f cd) (execs stD2 (lawX L f cd)) Q E ⟨h', gs, d, tk', os⟩) :
    wpAny (model pw w) (lawA L f cd) (execs stD (lawX L f cd)) Q E ⟨h, gs, d, tk, os⟩ := by
  w_on
  obtain ⟨x0, y, tx, ty, n, k0, us, ns, g1, g2, g3, g4, hi, hz, y0, y1⟩ := hs
  have N1 := news4 N g1 g2 g3 g4
  clear N g1 g2 g3 g4
  repeat' (first | ((with_reducible show wpAny _ _ (call (Value.ref 514) _) _ _ _); refine Stop.out ?_) | tb_start | walk1)
  refine Stop.inn ?_
  (refine' take_any ?k1 ?k2 ?k3 ?k4 ?k5 ?k6 ?i1 ?i2 ?R ?ne ?hi ?hz ?y0 ?y1 ?m0 ?m8 ?hd ?hu ?_)
  case k1 => exact K0
  case k2 => k_asm
  case k3 => k_asm
  case k4 => k_asm
  case k5 => k_asm
  case k6 => kernel_rfl
  case i1 => tb_rel
  case i2 => tb_rel
  case ne => k_ne
  case R => tb_rel
  case hi => assumption
  case hz => assumption
  case y0 => assumption
  case y1 => assumption
  case m0 => decide
  case m8 => decide
  case hd => exact Nat.le_of_ble_eq_true rfl
  case hu => exact Nat.le_of_ble_eq_true rfl
  intro r' x' y' t' tx' ty' n' k' us' ns' h' tk' c1 c2 hI' hZ' hY0' hY1' F' N'
  (try dsimp only at N')
  k_sweep
  clear hi hz y0 y1

  repeat' (first | ((with_reducible show wpAny _ _ (execs (Stmt.Assign [Expr.Name (Str.ofString "rows") _] _ _ :: _) _) _ _ _); refine Stop.out ?_) | tb_start | walk1)
  refine Stop.inn ?_
  rename [_, _, _, _][_]? = some _ => hq
  (refine' hR _ _ _ _ _ _ _ _ _ _ _ (ns_get ?a hq) ?F ?N hI' hZ' hY0' hY1')
  case a => rfl
  case F => k_asm
  case N => refine news4 (by k_asm) ?_ ?_ ?_ ?_ <;> tb_rel
end
section
variable {w : World} {p : Program} {loose : List Str} {mean : ExcName → Option Value} {mg mb : Str → Option Value} {h₀ : Heap} {L f : Addr} {cd : Value}
    {m : Str → Option Value} {Q : Flow → Shared → Prop} {E : Value → Shared → Prop} {news : List (Addr × Obj)} {h : Heap} {gs : Array GenState} {d : Drawn} {tk : Nat} {os : OsState} {src l : Addr} {oM oS : Obj}
theorem s_D2 {x0 y : Int} {tx ty : Tok} {n k0 : Nat} {us : List Value} {ns : List Int} (K0 : Below callerA h₀ [] h₀) (F : Fr h₀ L h m) (X : (frag w.params).In h₀) (N : News h₀ L h [(src, listOf #[.ref l, .int x0 tx, .int y ty] n), (l, listOf us.toArray k0), (L + 2, oM), (L + 1, oS)]) (T : Top p loose mean mg mb h₀) (dS : oS.data = .cell (some (.ref src))) (dM : oM.data = .cell none) (e1 : @LT.lt Nat _ (L + 2) l) (e2 : @LT.lt Nat _ l src)
    (hi : IntsAre us ns) (hz : us.length ≤ 63) (y0 : 0 ≤ y) (y1 : y < 2147483563)
    (hR : ∀ (h' : Heap) (tk' : Nat) (R : Addr) (ys : List Value) (c : Nat) (rest : List (Addr × Obj)), Fr h₀ L h' (fun z => if z = Str.ofString "rows" then some (.ref R) else m z) → News h₀ L h' ((R, listOf ys.toArray c) :: (L + 2, oM) :: rest) → ys.length ≤ 2 → (∀ y ∈ ys, RowOk w rest y) →
      wpAny (model pw w) (lawA L f cd) (execs stD3 (lawX L f cd)) Q E ⟨h', gs, d, tk', os⟩) :
    wpAny (model pw w) (lawA L f cd) (execs stD2 (lawX L f cd)) Q E ⟨h, gs, d, tk, os⟩ := by
  w_on
  refine x_cons ?_
  intro tk0
  refine LCg.Assign_ListComp_U (F₀ := by k_asm) (cl := [(Str.ofString "source", L + 1)]) rfl (by kernel_rfl) (by kernel_rfl) (by decide) rfl (by decide) rfl rfl rfl ?_ (fun _ => by kernel_rfl)
  repeat' (first | ((with_reducible show wpAny _ _ (call (Value.ref 514) _) _ _ _); refine Stop.out ?_) | tb_start | walk1)
  refine Stop.inn ?_
  (refine' take_any ?k1 ?k2 ?k3 ?k4 ?k5 ?k6 ?i1 ?i2 ?R ?ne ?hi ?hz ?y0 ?y1 ?m0 ?m8 ?hd ?hu ?_)
  case k1 => exact K0
  case k2 => k_asm
  case k3 => k_asm
  case k4 => k_asm
  case k5 => k_asm
  case k6 => kernel_rfl
  case i1 => tb_rel
  case i2 => tb_rel
  case ne => k_ne
  case R => tb_rel
  case hi => assumption
  case hz => assumption
  case y0 => assumption
  case y1 => assumption
  case m0 => decide
  case m8 => decide
  case hd => exact Nat.le_of_ble_eq_true rfl
  case hu => exact Nat.le_of_ble_eq_true rfl
  intro r' x' y' t' tx' ty' n' k' us' ns' h' tk' c1 c2 hI' hZ' hY0' hY1' F' N'
  (try dsimp only at N')
  k_sweep
  clear hi hz y0 y1

  iterate 1 (tb_start)
  walk1
  rename_i hG F1 N1 _
  k_sweep
  have hc : r' = 0 ∨ r' = 1 ∨ r' = 2 := by omega
  refine LCg.CompSrc.range (n := r'.toNat) rfl F1 N1 hG (by rcases hc with rfl | rfl | rfl <;> rfl) (by rcases hc with rfl | rfl | rfl <;> rfl) (by rw [sizeLine_eq]; omega) fun g => ?_
  clear F1 N1 hG
  refine rest_inv (n := r'.toNat) (Inv := RowsInv w src l L oM oS) ?Z ?step _ _ _ _ ⟨rfl, x', y', tx', ty', n', k', us', ns', [], rfl, (fun _ h => nomatch h), (fun _ h => nomatch h), hI', hZ', hY0', hY1', fun _ h => nomatch h⟩ (by omega)
  case Z =>
    clear hI' hZ' hY0' hY1'
    intro ys news inv
    obtain ⟨hl, x1, y1, tx1, ty1, n1, k1, us1, ns1, rest, rfl, r1, r2, hI', hZ', hY0', hY1', hr⟩ := inv
    intro D h' tk' F' N' off
    refine x_next ?_
    refine' hR _ _ D ys ys.length rest F' ?zN (by omega) hr
    intro q hq
    refine N' q ?_
    simp only [List.mem_cons] at hq ⊢
    rcases hq with h | h | h <;> simp [h]
  case step =>
    clear hI' hZ' hY0' hY1'
    intro i ys news v I oI C oC D m₂ h1' tk1' E' R hlt inv hP hC hx F' N' off ne hR
    obtain ⟨hl, x1, y1, tx1, ty1, n1, k1, us1, ns1, rest, rfl, r1, r2, hi, hz, y0, y1, hr⟩ := inv
    obtain ⟨t, rfl⟩ := hP
    have off' := off
    simp only [LCg.Off3] at off'
    dsimp only
    repeat' (first | ((with_reducible show wpAny _ _ (call (Value.ref 514) _) _ _ _); refine Stop.out ?_) | ((with_reducible show LCg.CompEnd _ _ _ _ _ _ _ _ _ _ _ _ _ _); refine Stop.out ?_) | tb_start | walk1)
    refine Stop.inn ?_
    (refine' take_any ?k1 ?k2 ?k3 ?k4 ?k5 ?k6 ?i1 ?i2 ?R ?ne ?hi ?hz ?y0 ?y1 ?m0 ?m8 ?hd ?hu ?_)
    case k1 => exact K0
    case k2 => k_asm
    case k3 => k_asm
    case k4 => k_asm
    case k5 => k_asm
    case k6 => kernel_rfl
    case i1 => tb_rel
    case i2 => tb_rel
    case ne => k_ne
    case R => tb_rel
    case hi => assumption
    case hz => assumption
    case y0 => assumption
    case y1 => assumption
    case m0 => decide
    case m8 => decide
    case hd => exact Nat.le_of_ble_eq_true rfl
    case hu => exact Nat.le_of_ble_eq_true rfl
    intro r2' x2' y2' t2' tx2' ty2' n2' k2' us2' ns2' h2' tk2' c3 c4 hI' hZ' hY0' hY1' F' N'
    (try dsimp only at N')
    k_sweep
    clear hi hz y0 y1
  
    repeat' (first | ((with_reducible show LCg.CompEnd _ _ _ _ _ _ _ _ _ _ _ _ _ _); refine Stop.out ?_) | tb_start | walk1)
    refine Stop.inn ?_
    rename [_, _][_]? = some _ => hq
    (refine' row_end rfl rfl rfl ?eF ?eN (tag_get ?ea hq) ?b1 ?b2 ?b3 ?b4 ?off hl r1 r2 hI' hZ' hY0' hY1' hr hR)
    case eF => k_asm
    case eN => k_asm
    case ea => kernel_rfl
    case b1 => k_asm
    case b2 => exact lt_head1 (by with_reducible assumption)
    case b3 => k_asm
    case b4 => exact lt_head1 (by with_reducible assumption)
    case off => exact off
end
section
variable {w : World} {p : Program} {loose : List Str} {mean : ExcName → Option Value} {mg mb : Str → Option Value} {dp un : Nat} {gd : Option (List Code)} {cn : Str} {cs : Scope} {a : Addr} {ccd : Value} {cl : List (Str × Addr)} {outer : List Env} {A₀ : Around} {base h₀ : Heap} {L : Addr}
    {m : Str → Option Value} {Q E : Value → Shared → Prop} {news : List (Addr × Obj)} {h : Heap} {gs : Array GenState} {d : Drawn} {tk : Nat} {os : OsState}
theorem c_share {x dx li : Addr} {b : Bool} {u1 u2 u3 u4 u5 u6 : Tok} (B : Below A₀ base outer h₀) (F : Fr h₀ L h m) (X : (frag w.params).In h₀) (N : News h₀ L h news) (T : Top p loose mean mg mb h₀) (hk : cs.kind = .function) (hdp : dp + 30 < recursionLimit) (hu : un + 460 < cLine) (hx : (x, instObj 255 dx) ∈ news) (hd : (dx, intD w li b u1 u2 u3 u4 u5 u6) ∈ news)
    (ret : ∀ (h' : Heap) (tk' : Nat), Fr h₀ L h' m → News h₀ L h' (updL dx (intD w li true u1 u2 u3 u4 u5 u6) news) → Q (.ref x) ⟨h', gs, d, tk', os⟩) :
    wpAny (model pw w) (ktrTop dp un gd cn cs L a ccd cl outer) (call (.ref 379) [.ref x]) Q E ⟨h, gs, d, tk, os⟩ := by
  w_on
  repeat' (first | ((with_reducible show wpAny _ _ (setAttr _ _ _) _ _ _); refine Stop.out ?_) | tb_start | walk1)
  refine Stop.inn ?_
  (refine' f_setG ?k1 ?k2 ?k3 hx hd ?k6 ?k7 ?k8 ?k9 ?k10 ?k11 ?k13 ?_)
  case k1 => k_asm
  case k2 => k_asm
  case k3 => k_asm
  case k6 => k_is
  case k7 => k_is
  case k8 => k_is
  case k9 => k_is
  case k10 => k_get
  case k11 => k_put
  case k13 => exact Nat.le_of_ble_eq_true rfl
  intro h1' tk1' F1 N1
  k_sweep
  repeat' (first | tb_start | walk1)
  exact ret _ _ (by k_asm) (by k_asm)
end
section
variable {w : World} {p : Program} {loose : List Str} {mean : ExcName → Option Value} {mg mb : Str → Option Value} {dp un : Nat} {gd : Option (List Code)} {cn : Str} {cs : Scope} {a : Addr} {ccd : Value} {cl : List (Str × Addr)} {outer : List Env} {A₀ : Around} {base h₀ : Heap} {L : Addr}
    {m : Str → Option Value} {Q E : Value → Shared → Prop} {news : List (Addr × Obj)} {h : Heap} {gs : Array GenState} {d : Drawn} {tk : Nat} {os : OsState}
theorem c_call_with {hd zl : Addr} {zs : List Value} {c : Nat} {ts : List Dt} (B : Below A₀ base outer h₀) (F : Fr h₀ L h m) (X : (frag w.params).In h₀) (N : News h₀ L h news) (T : Top p loose mean mg mb h₀) (hk : cs.kind = .function) (hdp : dp + 30 < recursionLimit) (hu : un + 460 < cLine) (hzl : (zl, listOf zs.toArray c) ∈ news) (hp : PairsAre (fun t => .ref t.x) news zs ts) (hln : zs.length ≤ 2)
    (ret : ∀ (x dx il tl : Addr) (h' : Heap) (tk' : Nat) (t1 t2 t3 t4 t5 t6 : Tok) (news' : List (Addr × Obj)), Fr h₀ L h' m → News h₀ L h' news' → (∀ q ∈ news, q ∈ news') → (x, instObj 298 dx) ∈ news' → (dx, dictOf [ent w "kind" t1 (.str (Str.ofString "language") t2), ent w "items" t3 (.ref il), ent w "tags" t4 (.ref tl), ent w "attrs" t5 .none, ent w "code" t6 .none] 5) ∈ news' → (il, listOf (.ref hd :: ts.map (fun t => Value.ref t.x)).toArray 0) ∈ news' → (tl, listOf (.none :: ts.map (fun t => t.v)).toArray 0) ∈ news' → Q (.ref x) ⟨h', gs, d, tk', os⟩) :
    wpAny (model pw w) (ktrTop dp un gd cn cs L a ccd cl outer) (call (.ref 502) [.ref hd, .ref zl]) Q E ⟨h, gs, d, tk, os⟩ := by
  w_on
  have hln' := hp.len
  repeat' (first | ((with_reducible show wpAny _ _ (eval (PySem.Expr.ListComp _ _ _ _) _) _ _ _); refine Stop.out ?_) | tb_start | walk1)
  refine Stop.inn ?_
  refine LCp.ListComp_P (F₀ := by k_asm) (cl := []) (by kernel_rfl) (by decide) rfl (by decide) rfl rfl (by decide) ?_ (fun _ => by kernel_rfl)
  tb_start
  refine LCp.SrcLP.ledger rfl (by k_asm) (by k_asm) (mem_tl hzl) (by rw [sizeLine_eq, List.size_toArray]; omega) fun g1 => ?_
  refine pairs_pure (f := fun t => Value.ref t.x) (hp.kept (Kept.of (w := w) fun q hq => mem_tl hq)) (mem_tl hzl) ?e1 ?z1
  case e1 =>
    intro t C oC m₂ h1' tk1' E' Q' nw a1 a2 a3 F' N' hm hQ'
    dsimp only at a3 ⊢
    tb_start
    exact hQ' _
  case z1 =>
    intro D1 h1' tk1' F1 N1 o1
    dsimp only
    k_sweep
    repeat' (first | ((with_reducible show wpAny _ _ (eval (PySem.Expr.ListComp _ _ _ _) _) _ _ _); refine Stop.out ?_) | tb_start | walk1)
    refine Stop.inn ?_
    refine LCp.ListComp_P (F₀ := by k_asm) (cl := []) (by kernel_rfl) (by decide) rfl (by decide) rfl rfl (by decide) ?_ (fun _ => by kernel_rfl)
    tb_start
    refine LCp.SrcLP.ledger rfl (by k_asm) (by k_asm) (k := c) (its := zs.toArray) (by tb_rel) (by rw [sizeLine_eq, List.size_toArray]; omega) fun g2 => ?_
    refine pairs_pure (f := fun t => t.v) (hp.kept (Kept.of (w := w) fun q hq => by repeat (first | exact hq | refine mem_tl ?_))) (c := c) (by tb_rel) ?e2 ?z2
    case e2 =>
      intro t C oC m₂ h1' tk1' E' Q' nw a1 a2 a3 F' N' hm hQ'
      dsimp only at a3 ⊢
      tb_start
      exact hQ' _
    case z2 =>
      intro D2 h2' tk2' F2 N2 o2
      dsimp only
      k_sweep
      repeat' (first | tb_start | walk1)
      (refine' ret _ _ _ _ _ _ _ _ _ _ _ _ _ ?F ?N ?S ?a ?b ?c ?d)
      case F => k_asm
      case N => k_asm
      case S => exact fun q hq => by repeat (first | exact hq | refine mem_tl ?_)
      case a => tb_rel
      case b => tb_rel
      case c => tb_rel
      case d => tb_rel
end
section
variable {w : World} {p : Program} {loose : List Str} {mean : ExcName → Option Value} {mg mb : Str → Option Value} {dp un : Nat} {gd : Option (List Code)} {cn : Str} {cs : Scope} {a : Addr} {ccd : Value} {cl : List (Str × Addr)} {outer : List Env} {A₀ : Around} {base h₀ : Heap} {L : Addr}
    {m : Str → Option Value} {Q E : Value → Shared → Prop} {news : List (Addr × Obj)} {h : Heap} {gs : Array GenState} {d : Drawn} {tk : Nat} {os : OsState}
theorem c_b_call {al t0 vx vd vi : Addr} {ys : List Value} {nv : Value} {ca cv : Nat} {ts : List Dt} {s1 s2 s3 s4 s5 s6 : Tok} (B : Below A₀ base outer h₀) (F : Fr h₀ L h m) (X : (frag w.params).In h₀) (N : News h₀ L h news) (T : Top p loose mean mg mb h₀) (hk : cs.kind = .function) (hdp : dp + 80 < recursionLimit) (hu : un + 560 < cLine) (hal : (al, listOf (.ref t0 :: ys).toArray ca) ∈ news) (ht0 : (t0, tupOf [.none, .ref vx]) ∈ news) (hvx : (vx, instObj 255 vd) ∈ news) (hvd : (vd, dictOf [ent w "kind" s1 (.str (Str.ofString "character") s2), ent w "items" s3 (.ref vi), ent w "attrs" s4 .none, ent w "shared" s5 (.bool false), ent w "loose" s6 (.bool false)] 5) ∈ news) (hvi : (vi, listOf [nv].toArray cv) ∈ news) (hnv : isNS nv = true)
    (hp : PairsAre (fun t => .ref t.x) news ys ts) (hv : ∀ t ∈ ts, VecAt w news t) (hln : ys.length ≤ 2)
    (ret : ∀ (x dx il tl hd dh : Addr) (nm : Value) (h' : Heap) (tk' : Nat) (t1 t2 t3 t4 t5 t6 r1 r2 r3 r4 : Tok) (news' : List (Addr × Obj)), Fr h₀ L h' m → News h₀ L h' news' → Kept w news news' → (∀ t ∈ ts, VecAt w news' t) → (x, instObj 298 dx) ∈ news' → (dx, dictOf [ent w "kind" t1 (.str (Str.ofString "language") t2), ent w "items" t3 (.ref il), ent w "tags" t4 (.ref tl), ent w "attrs" t5 .none, ent w "code" t6 .none] 5) ∈ news' → (il, listOf (.ref hd :: ts.map (fun t => Value.ref t.x)).toArray 0) ∈ news' → (tl, listOf (.none :: ts.map (fun t => t.v)).toArray 0) ∈ news' → (hd, instObj 276 dh) ∈ news' → (dh, dictOf [ent w "kind" r1 (.str (Str.ofString "symbol") r2), ent w "name" r3 nm, ent w "attrs" r4 .none] 3) ∈ news' → NmOk nv nm → Q (.ref x) ⟨h', gs, d, tk', os⟩) :
    wpAny (model pw w) (ktrTop dp un gd cn cs L a ccd cl outer) (call (.ref 507) [.none, .ref al, .none]) Q E ⟨h, gs, d, tk, os⟩ := by
  w_on
  have hln' := hp.len
  have hz3 : Nat.ble (.ref t0 :: ys : List Value).length 1000 = true := Nat.ble_eq_true_of_le (by rw [List.length_cons]; omega)
  repeat' (first | ((with_reducible show wpAny _ _ (eval (PySem.Expr.ListComp _ _ _ _) _) _ _ _); refine Stop.out ?_) | ((with_reducible show wpAny _ _ (exec (Stmt.Assign _ (PySem.Expr.ListComp _ _ _ _) _) _) _ _ _); refine Stop.out ?_) | tb_start | walk1)
  refine Stop.inn ?_
  refine LCp.Assign_ListComp_P (F₀ := by k_asm) (cl := []) rfl (by kernel_rfl) (by kernel_rfl) (by decide) rfl (by decide) rfl rfl (by decide) rfl rfl ?_ (fun _ => by kernel_rfl)
  repeat' (first | ((with_reducible show wpAny _ _ (subscriptTail _ (PySem.Expr.Slice _ _ _ _) _ _) _ _ _); refine Stop.out ?_) | tb_start | walk1)
  refine Stop.inn ?_
  (refine' kms_slice_lit ?F ?N ?l (IsPart.int _ _) IsPart.none pick_tail ?_ ?s ?t ?z)
  case F => k_asm
  case N => k_asm
  case l => exact News.isList (by k_asm) hal
  case s => kernel_rfl
  case t => exact fun _ => by kernel_rfl
  case z => (rw [sizeLine_eq, List.size_toArray, List.length_cons]; omega)
  intro S1 h1' F1 N1 l1
  k_sweep
  refine LCp.SrcLP.ledger rfl (by k_asm) (by k_asm) (.head _) (by rw [sizeLine_eq, List.size_toArray]; omega) fun g1 => ?_
  refine pairs_share (c := 0) (hp.kept (Kept.of (w := w) fun q hq => mem_tl hq)) (.head _) (fun t ht => (hv t ht).mono fun q hq => mem_tl hq) ?e1 ?z1
  case e1 =>
    intro t C oC m₂ h1' tk1' E' Q' nw dx b t1 t2 t3 t4 t5 t6 a1 a2 a3 F' N' hm k1 k2 hQ'
    dsimp only at a3 ⊢
    repeat' (first | ((with_reducible show wpAny _ _ (call (Value.ref 379) _) _ _ _); refine Stop.out ?_) | tb_start | walk1)
    refine Stop.inn ?_
    (refine' c_share ?k1 ?k2 ?k3 ?k4 ?k5 ?k6 ?d1 ?d2 k1 k2 ?_)
    case k1 => k_asm
    case k2 => k_asm
    case k3 => k_asm
    case k4 => k_asm
    case k5 => k_asm
    case k6 => kernel_rfl
    case d1 => omega
    case d2 => omega
    intro h2' tk2' F2 N2
    k_sweep
    repeat' (first | tb_start | walk1)
    exact hQ' _ _ _ (by k_asm) (by k_asm) (by k_asm)
  case z1 =>
    intro acc nw p1 K1 v1
    intro D1 h1' tk1' F1 N1 o1
    clear hp hv
    dsimp only
    k_sweep
    have f1 := K1 _ (.tail _ hal) no_list
    have f2 := K1 _ (.tail _ ht0) no_tup
    have f3 := K1 _ (.tail _ hvx) no_inst
    have f4 := K1 _ (.tail _ hvd) no_char
    have f5 := K1 _ (.tail _ hvi) no_list
    have K2 : Kept w news nw := fun q hq n => K1 q (.tail _ hq) n
    have hal' := p1.len
    clear hal ht0 hvx hvd hvi K1
    rcases isNS_cases hnv with rfl | ⟨xn, tn, rfl⟩
    · repeat' (first | ((with_reducible show wpAny _ _ (call (Value.ref 502) _) _ _ _); refine Stop.out ?_) | tb_start | walk1)
      refine Stop.inn ?_
      (refine' c_call_with ?pk1 ?pk2 ?pk3 ?pk4 ?pk5 ?pk6 ?pd1 ?pd2 ?phz ?php ?phl ?_)
      case pk1 => k_asm
      case pk2 => k_asm
      case pk3 => k_asm
      case pk4 => k_asm
      case pk5 => k_asm
      case pk6 => kernel_rfl
      case pd1 => omega
      case pd2 => omega
      case phz => tb_rel
      case php => exact p1.kept (Kept.of (w := w) fun q hq => by repeat (first | exact hq | refine mem_tl ?_))
      case phl => omega
      intro x dx il tl h3' tk3' t1 t2 t3 t4 t5 t6 news' F3 N3 S3 b0 b1 b2 b3
      have S4 : ∀ q ∈ nw, q ∈ news' := fun q hq => S3 q (by repeat (first | exact hq | refine mem_tl ?_))
      k_sweep
      repeat' (first | tb_start | walk1)
      (refine' ret _ _ _ _ _ _ _ _ _ _ _ _ _ _ _ _ _ _ _ _ ?pF ?pN (K2.trans (Kept.of (w := w) S4)) (fun t ht => (v1 t ht).mono S4) b0 b1 b2 b3 (S3 _ ?pa) (S3 _ ?pb) (.inl ⟨rfl, _, rfl⟩))
      case pF => k_asm
      case pN => k_asm
      case pa => tb_rel
      case pb => tb_rel
    · repeat' (first | ((with_reducible show wpAny _ _ (call (Value.ref 502) _) _ _ _); refine Stop.out ?_) | tb_start | walk1)
      refine Stop.inn ?_
      (refine' c_call_with ?qk1 ?qk2 ?qk3 ?qk4 ?qk5 ?qk6 ?qd1 ?qd2 ?qhz ?qhp ?qhl ?_)
      case qk1 => k_asm
      case qk2 => k_asm
      case qk3 => k_asm
      case qk4 => k_asm
      case qk5 => k_asm
      case qk6 => kernel_rfl
      case qd1 => omega
      case qd2 => omega
      case qhz => tb_rel
      case qhp => exact p1.kept (Kept.of (w := w) fun q hq => by repeat (first | exact hq | refine mem_tl ?_))
      case qhl => omega
      intro x dx il tl h3' tk3' t1 t2 t3 t4 t5 t6 news' F3 N3 S3 b0 b1 b2 b3
      have S4 : ∀ q ∈ nw, q ∈ news' := fun q hq => S3 q (by repeat (first | exact hq | refine mem_tl ?_))
      k_sweep
      repeat' (first | tb_start | walk1)
      (refine' ret _ _ _ _ _ _ _ _ _ _ _ _ _ _ _ _ _ _ _ _ ?qF ?qN (K2.trans (Kept.of (w := w) S4)) (fun t ht => (v1 t ht).mono S4) b0 b1 b2 b3 (S3 _ ?qa) (S3 _ ?qb) (.inr ⟨_, _, rfl, rfl⟩))
      case qF => k_asm
      case qN => k_asm
      case qa => tb_rel
      case qb => tb_rel
end
section
variable {w : World} {p : Program} {loose : List Str} {mean : ExcName → Option Value} {mg mb : Str → Option Value} {h₀ : Heap} {L f : Addr} {cd : Value}
    {m : Str → Option Value} {Q : Flow → Shared → Prop} {E : Value → Shared → Prop} {news : List (Addr × Obj)} {h : Heap} {gs : Array GenState} {d : Drawn} {tk : Nat} {os : OsState} {src l : Addr} {oM oS : Obj}
theorem s_D5 {x dx il tl hd R : Addr} {ys : List Value} {c : Nat} {ts : List Dt} {t1 t2 t3 t4 t5 t6 : Tok} {o2 : Obj} (K0 : Below callerA h₀ [] h₀) (F : Fr h₀ L h m) (X : (frag w.params).In h₀) (N : News h₀ L h news) (T : Top p loose mean mg mb h₀) (g0 : (L + 2, o2) ∈ news) (d2 : o2.data = .cell (some (.ref x))) (gx : (x, instObj 298 dx) ∈ news) (gd : (dx, dictOf [ent w "kind" t1 (.str (Str.ofString "language") t2), ent w "items" t3 (.ref il), ent w "tags" t4 (.ref tl), ent w "attrs" t5 .none, ent w "code" t6 .none] 5) ∈ news) (gi : (il, listOf (.ref hd :: ts.map (fun t => Value.ref t.x)).toArray 0) ∈ news) (gt : (tl, listOf (.none :: ts.map (fun t => t.v)).toArray 0) ∈ news) (gR : (R, listOf ys.toArray c) ∈ news) (hp : PairsAre (fun t => .ref t.x) news ys ts) (hv : ∀ t ∈ ts, VecAt w news t) (hln : ys.length ≤ 2) (mr : m (Str.ofString "rows") = some (.ref R)) (hQ : ∀ m' h' tk', Fr h₀ L h' m' → Q (.ret (.bool true)) ⟨h', gs, d, tk', os⟩) :
    wpAny (model pw w) (lawA L f cd) (execs stD5 (lawX L f cd)) Q E ⟨h, gs, d, tk, os⟩ := by
  w_on
  have hln' := hp.len
  repeat' (first | ((with_reducible show wpAny _ _ (eval (PySem.Expr.ListComp _ _ _ _) _) _ _ _); refine Stop.out ?_) | tb_start | walk1)
  refine Stop.inn ?_
  refine LCg.ListComp_U (F₀ := by k_asm) (cl := [(Str.ofString "made", L + 2)]) (by kernel_rfl) (by decide) rfl (by decide) rfl ?_ (fun _ => by kernel_rfl)
  repeat' (first | ((with_reducible show wpAny _ _ (call (Value.type "range") _) _ _ _); refine Stop.out ?_) | tb_start | walk1)
  refine Stop.inn ?_
  walk1
  rename_i hG F1 N1 _
  k_sweep
  have hc : ys.length = 0 ∨ ys.length = 1 ∨ ys.length = 2 := by omega
  refine LCg.CompSrc.range (n := ys.length) rfl F1 N1 hG (by rcases hc with e | e | e <;> simp only [e] <;> rfl) (by rcases hc with e | e | e <;> simp only [e] <;> rfl) (by rw [sizeLine_eq]; omega) fun g => ?_
  clear hG F1 N1
  refine range_pairs (ts := ts) hln'.symm ?e1 ?z1
  case e1 =>
    intro i t u C oC m₂ h1' tk1' E' Q' nw ht a1 a2 F' N' hm sub hQ'
    have hi : i < ts.length := by
      rcases Nat.lt_or_ge i ts.length with q | q
      · exact q
      · rw [List.getElem?_eq_none q] at ht; cases ht
    have ix : 0 ≤ 0 + (i : Int) + 1 := by omega
    have ix2 : 0 + (i : Int) + 1 < 1000 := by omega
    have it : (0 + (i : Int) + 1).toNat = i + 1 := by omega
    have gT : (Value.none :: ts.map (fun t => t.v))[(0 + (i : Int) + 1).toNat]? = some t.v := by rw [it, List.getElem?_cons_succ, List.getElem?_map, ht]; rfl
    have gI : (Value.ref hd :: ts.map (fun t => Value.ref t.x))[(0 + (i : Int) + 1).toNat]? = some (.ref t.x) := by rw [it, List.getElem?_cons_succ, List.getElem?_map, ht]; rfl
    obtain ⟨ev, dv, ta, u1, u2, u3, u4, u5, u6, b, k1, k2, k3⟩ := hv t (List.mem_of_getElem? ht)
    have g0 := sub _ g0
    have gx := sub _ gx
    have gd := sub _ gd
    have gi := sub _ gi
    have gt := sub _ gt
    have k1 := sub _ k1
    have k2 := sub _ k2
    dsimp only
    repeat' (first | tb_start | walk1)
    exact hQ' _ _ _ (by k_asm) (by k_asm) (by k_asm)
  case z1 =>
    intro acc nw pa sub
    intro D1 h1' tk1' F1 N1 o1
    have g0 := sub _ g0
    have gx := sub _ gx
    have gd := sub _ gd
    have gi := sub _ gi
    have gt := sub _ gt
    have gR := sub _ gR
    have hp := hp.kept (Kept.of (w := w) sub)
    have hv : ∀ t ∈ ts, VecAt w nw t := fun t ht => (hv t ht).mono sub
    dsimp only
    k_sweep
    repeat' (first | ((with_reducible show wpAny _ _ (eval (PySem.Expr.ListComp _ _ _ _) _) _ _ _); refine Stop.out ?_) | tb_start | walk1)
    refine Stop.inn ?_
    refine LCp.ListComp_P (F₀ := by k_asm) (cl := []) (by kernel_rfl) (by decide) rfl (by decide) rfl rfl (by decide) ?_ (fun _ => by kernel_rfl)
    tb_start
    refine LCp.SrcLP.ledger rfl (by k_asm) (by k_asm) (mem_tl gR) (by rw [sizeLine_eq, List.size_toArray]; omega) fun g2 => ?_
    refine pairs_tup (c := c) (hp.kept (Kept.of (w := w) fun q hq => mem_tl hq)) (mem_tl gR) ?e2 ?z2
    case e2 =>
      intro t C oC m₂ h1' tk1' E' Q' nw2 ht a1 a2 a3 F' N' hm sub2 hQ'
      obtain ⟨ev, dv, ta, u1, u2, u3, u4, u5, u6, b, k1, k2, k3⟩ := hv t ht
      have k1 := sub2 _ (mem_tl k1)
      have k2 := sub2 _ (mem_tl k2)
      dsimp only at a3 ⊢
      repeat' (first | tb_start | walk1)
      exact hQ' _ _ _ (by k_asm) (by k_asm) (by k_asm)
    case z2 =>
      intro acc2 nw2 pb sub2
      intro D2 h2' tk2' F2 N2 o2'
      dsimp only
      k_sweep
      refine eq_pairs (by k_asm) (.tail _ (sub2 _ (.head _))) (.head _) (pa.kept (Kept.of (w := w) fun q hq => .tail _ (sub2 _ (.tail _ hq)))) (pb.kept (Kept.of (w := w) fun q hq => .tail _ hq)) (fun t ht => (hv t ht).mono fun q hq => .tail _ (sub2 _ (.tail _ hq))) (Nat.le_of_ble_eq_true rfl) ?_
      have g0 := sub2 _ (mem_tl g0)
      have gx := sub2 _ (mem_tl gx)
      have gd := sub2 _ (mem_tl gd)
      have gi := sub2 _ (mem_tl gi)
      have gR := sub2 _ (mem_tl gR)
      repeat' (first | tb_start | walk1)
      rw [show (((((Value.ref hd :: ts.map (fun t => Value.ref t.x)) : List Value).length : Nat) : Int) == 1 + ((ys.length : Nat) : Int)) = true from by rw [beq_iff_eq, List.length_cons, List.length_map]; omega]
      exact hQ _ _ _ (by k_asm)
end
section
variable {w : World} {p : Program} {loose : List Str} {mean : ExcName → Option Value} {mg mb : Str → Option Value} {h₀ : Heap} {L f : Addr} {cd : Value}
    {m : Str → Option Value} {Q : Flow → Shared → Prop} {E : Value → Shared → Prop} {news : List (Addr × Obj)} {h : Heap} {gs : Array GenState} {d : Drawn} {tk : Nat} {os : OsState} {src l : Addr} {oM oS : Obj}
theorem s_D4 {x dx il tl hd R : Addr} {ys : List Value} {c : Nat} {ts : List Dt} {t1 t2 t3 t4 t5 t6 : Tok} {o2 : Obj} {dh : Addr} {nv nm : Value} {r1 r2 r3 r4 : Tok} (K0 : Below callerA h₀ [] h₀) (F : Fr h₀ L h m) (X : (frag w.params).In h₀) (N : News h₀ L h news) (T : Top p loose mean mg mb h₀) (g0 : (L + 2, o2) ∈ news) (d2 : o2.data = .cell (some (.ref x))) (gx : (x, instObj 298 dx) ∈ news) (gd : (dx, dictOf [ent w "kind" t1 (.str (Str.ofString "language") t2), ent w "items" t3 (.ref il), ent w "tags" t4 (.ref tl), ent w "attrs" t5 .none, ent w "code" t6 .none] 5) ∈ news) (gi : (il, listOf (.ref hd :: ts.map (fun t => Value.ref t.x)).toArray 0) ∈ news) (gt : (tl, listOf (.none :: ts.map (fun t => t.v)).toArray 0) ∈ news) (gR : (R, listOf ys.toArray c) ∈ news) (hp : PairsAre (fun t => .ref t.x) news ys ts) (hv : ∀ t ∈ ts, VecAt w news t) (hln : ys.length ≤ 2) (mr : m (Str.ofString "rows") = some (.ref R)) (ghd : (hd, instObj 276 dh) ∈ news) (gdh : (dh, dictOf [ent w "kind" r1 (.str (Str.ofString "symbol") r2), ent w "name" r3 nm, ent w "attrs" r4 .none] 3) ∈ news) (hnm : NmOk nv nm) (mn : m (Str.ofString "name") = some nv) (hQ : ∀ m' h' tk', Fr h₀ L h' m' → Q (.ret (.bool true)) ⟨h', gs, d, tk', os⟩) :
    wpAny (model pw w) (lawA L f cd) (execs stD4 (lawX L f cd)) Q E ⟨h, gs, d, tk, os⟩ := by
  w_on
  have hln' := hp.len
  rcases hnm with ⟨rfl, tn, rfl⟩ | ⟨xn, tn, rfl, rfl⟩
  all_goals repeat' (first | ((with_reducible show wpAny _ _ (execs (Stmt.Return _ _ :: _) _) _ _ _); refine Stop.out ?_) | tb_start | walk1)
  all_goals (refine Stop.inn ?_)
  all_goals exact s_D5 K0 (by k_asm) X (by k_asm) T g0 d2 gx gd gi gt gR hp hv hln mr hQ
end
section
variable {w : World} {p : Program} {loose : List Str} {mean : ExcName → Option Value} {mg mb : Str → Option Value} {h₀ : Heap} {L f : Addr} {cd : Value}
    {m : Str → Option Value} {Q : Flow → Shared → Prop} {E : Value → Shared → Prop} {news : List (Addr × Obj)} {h : Heap} {gs : Array GenState} {d : Drawn} {tk : Nat} {os : OsState} {src l : Addr} {oM oS : Obj}
theorem s_D3 {R : Addr} {ys : List Value} {c : Nat} {rest : List (Addr × Obj)} {nv : Value} (K0 : Below callerA h₀ [] h₀) (F : Fr h₀ L h m) (X : (frag w.params).In h₀) (N : News h₀ L h ((R, listOf ys.toArray c) :: (L + 2, oM) :: rest)) (T : Top p loose mean mg mb h₀) (dM : oM.data = .cell none) (hln : ys.length ≤ 2) (hr : ∀ y ∈ ys, RowOk w rest y) (hnv : isNS nv = true) (mn : m (Str.ofString "name") = some nv) (mr : m (Str.ofString "rows") = some (.ref R)) (hQ : ∀ m' h' tk', Fr h₀ L h' m' → Q (.ret (.bool true)) ⟨h', gs, d, tk', os⟩) :
    wpAny (model pw w) (lawA L f cd) (execs stD3 (lawX L f cd)) Q E ⟨h, gs, d, tk, os⟩ := by
  w_on
  obtain ⟨ts, hp, hv⟩ := rows_dt hr
  have hln' := hp.len
  repeat' (first | ((with_reducible show wpAny _ _ (call (Value.ref 507) _) _ _ _); refine Stop.out ?_) | tb_start | walk1)
  refine Stop.inn ?_
  (refine' c_b_call (ys := ys) (ts := ts) (nv := nv) ?k1 ?k2 ?k3 ?k4 ?k5 ?k6 ?d1 ?d2 ?hal ?ht0 ?hvx ?hvd ?hvi hnv ?hp ?hv hln ?_)
  case k1 => exact K0
  case k2 => k_asm
  case k3 => k_asm
  case k4 => k_asm
  case k5 => k_asm
  case k6 => kernel_rfl
  case d1 => exact Nat.le_of_ble_eq_true rfl
  case d2 => exact Nat.le_of_ble_eq_true rfl
  case hal => tb_rel
  case ht0 => tb_rel
  case hvx => tb_rel
  case hvd => tb_rel
  case hvi => tb_rel
  case hp => exact hp.kept (Kept.of (w := w) fun q hq => by repeat (first | exact hq | refine mem_tl ?_))
  case hv => exact fun t ht => (hv t ht).mono fun q hq => by repeat (first | exact hq | refine mem_tl ?_)
  intro x dx il tl hd dh nm h' tk' t1 t2 t3 t4 t5 t6 r1 r2 r3 r4 news' F' N' K' v' b0 b1 b2 b3 b4 b5 hnm
  k_sweep
  have gM := K' (L + 2, oM) (by repeat (first | exact mem_hd | refine mem_tl ?_)) (no_cell dM)
  have gR := K' (R, listOf ys.toArray c) (by repeat (first | exact mem_hd | refine mem_tl ?_)) no_list
  have hp := hp.kept (show Kept w rest news' from fun q hq n => K' q (by repeat (first | exact hq | refine mem_tl ?_)) n)
  clear K'
  (refine' f_storeC ?k1 ?k2 ?k3 gM dM ?_ ?k4 ?k5)
  case k1 => k_asm
  case k2 => k_asm
  case k3 => tb_rel
  case k4 => kernel_rfl
  case k5 => kernel_rfl
  intro h2' o2 F2 N2 d2
  have U := updL_cell (o' := o2) N' gM dM
  k_sweep
  refine x_next ?_
  exact s_D4 K0 (by k_asm) X (by k_asm) T (.head _) d2 (U _ b0 fun v h => by cases h) (U _ b1 fun v h => by cases h) (U _ b2 fun v h => by cases h) (U _ b3 fun v h => by cases h) (U _ gR fun v h => by cases h) (hp.cell U) (fun t ht => (v' t ht).cell U) hln (by tb_rel) (U _ b4 fun v h => by cases h) (U _ b5 fun v h => by cases h) hnm (by tb_rel) hQ
end
section
variable {w : World} {p : Program} {loose : List Str} {mean : ExcName → Option Value} {mg mb : Str → Option Value} {h₀ : Heap} {L f : Addr} {cd : Value}
    {m : Str → Option Value} {Q : Flow → Shared → Prop} {E : Value → Shared → Prop} {news : List (Addr × Obj)} {h : Heap} {gs : Array GenState} {d : Drawn} {tk : Nat} {os : OsState} {src l : Addr} {oM oS : Obj}
theorem s_D (K0 : Below callerA h₀ [] h₀) (X : (frag w.params).In h₀) (T : Top p loose mean mg mb h₀) (dS : oS.data = .cell (some (.ref src))) (dM : oM.data = .cell none) (e1 : @LT.lt Nat _ (L + 2) l) (e2 : @LT.lt Nat _ l src) (hQ : ∀ m' h' tk', Fr h₀ L h' m' → Q (.ret (.bool true)) ⟨h', gs, d, tk', os⟩) : ToSt stD w h₀ L f cd src l oM oS gs d os Q E := by
  intro m' h' tk' news' F N hs
  refine s_D1 K0 F X N T hs dS dM e1 e2 fun h1 tk1 nv x0 y tx ty n k0 us ns hnv F1 N1 hi hz y0 y1 => ?_
  refine s_D2 K0 F1 X N1 T dS dM e1 e2 hi hz y0 y1 fun h2 tk2 R ys c rest F2 N2 hln hr => ?_
  exact s_D3 K0 F2 X N2 T dM hln hr hnv (look_skip (by decide +kernel) look_here) look_here hQ
end
noncomputable section
@[reducible] noncomputable def stZ1 : List Stmt := by
  refine (fun (o : List Stmt) (_ : lawBody.drop 1 = o) => o) ?_ ?h
  rotate_left
  conv => lhs; whnf
end
section
variable {w : World} {p : Program} {loose : List Str} {mean : ExcName → Option Value} {mg mb : Str → Option Value} {h₀ : Heap} {L f : Addr} {cd : Value}
    {m : Str → Option Value} {Q : Flow → Shared → Prop} {E : Value → Shared → Prop} {news : List (Addr × Obj)} {h : Heap} {gs : Array GenState} {d : Drawn} {tk : Nat} {os : OsState} {src l : Addr} {oM oS : Obj}
theorem s_A2 {x0 y : Int} {tx ty : Tok} {n k0 : Nat} {us : List Value} {ns : List Int} (K0 : Below callerA h₀ [] h₀) (F : Fr h₀ L h m) (X : (frag w.params).In h₀) (N : News h₀ L h [(src, listOf #[.ref l, .int x0 tx, .int y ty] n), (l, listOf us.toArray k0), (L + 2, oM), (L + 1, oS)]) (T : Top p loose mean mg mb h₀) (dS : oS.data = .cell (some (.ref src))) (dM : oM.data = .cell none) (e1 : @LT.lt Nat _ (L + 2) l) (e2 : @LT.lt Nat _ l src) (hi : IntsAre us ns) (hz : us.length ≤ 63) (y0 : 0 ≤ y) (y1 : y < 2147483563) (hQ : ∀ m' h' tk', Fr h₀ L h' m' → Q (.ret (.bool true)) ⟨h', gs, d, tk', os⟩) :
    wpAny (model pw w) (lawA L f cd) (execs stZ1 (lawX L f cd)) Q E ⟨h, gs, d, tk, os⟩ := by
  w_on
  repeat' (first | ((with_reducible show wpAny _ _ (call (Value.ref 514) _) _ _ _); refine Stop.out ?_) | tb_start | walk1)
  refine Stop.inn ?_
  (refine' take_any ?k1 ?k2 ?k3 ?k4 ?k5 ?k6 ?i1 ?i2 ?R ?ne ?hi ?hz ?y0 ?y1 ?m0 ?m8 ?hd ?hu ?_)
  case k1 => exact K0
  case k2 => k_asm
  case k3 => k_asm
  case k4 => k_asm
  case k5 => k_asm
  case k6 => kernel_rfl
  case i1 => tb_rel
  case i2 => tb_rel
  case ne => k_ne
  case R => tb_rel
  case hi => assumption
  case hz => assumption
  case y0 => assumption
  case y1 => assumption
  case m0 => decide
  case m8 => decide
  case hd => exact Nat.le_of_ble_eq_true rfl
  case hu => exact Nat.le_of_ble_eq_true rfl
  intro r' x' y' t' tx' ty' n' k' us' ns' h' tk' c1 c2 hI' hZ' hY0' hY1' F' N'
  (try dsimp only at N')
  k_sweep
  clear hi hz y0 y1

  repeat' (first | ((with_reducible show wpAny _ _ (call (Value.ref 514) _) _ _ _); refine Stop.out ?_) | tb_start | walk1)
  refine Stop.inn ?_
  (refine' take_any ?k1 ?k2 ?k3 ?k4 ?k5 ?k6 ?i1 ?i2 ?R ?ne ?hi ?hz ?y0 ?y1 ?m0 ?m8 ?hd ?hu ?_)
  case k1 => exact K0
  case k2 => k_asm
  case k3 => k_asm
  case k4 => k_asm
  case k5 => k_asm
  case k6 => kernel_rfl
  case i1 => tb_rel
  case i2 => tb_rel
  case ne => k_ne
  case R => tb_rel
  case hi => exact hI'
  case hz => assumption
  case y0 => assumption
  case y1 => assumption
  case m0 => decide
  case m8 => decide
  case hd => exact Nat.le_of_ble_eq_true rfl
  case hu => exact Nat.le_of_ble_eq_true rfl
  intro r2 x2 y2 t2 tx2 ty2 n2 k2 us2 ns2 h2' tk2' c3 c4 hi hz y0 y1 F2 N2
  (try dsimp only at N2)
  k_sweep


  repeat' (first | ((with_reducible show wpAny _ _ (execs (Stmt.Assign [Expr.Name (Str.ofString "items") _] _ _ :: _) _) _ _ _); refine Stop.out ?_) | tb_start | walk1)
  refine Stop.inn ?_
  refine s_B1 (many := r2) (tm := t2) (tf := t2) (ns := ns2) K0 (by k_asm) X (by k_asm) T dS dM e1 e2 ?mm ?a0 ?a3 fun h3 tk3 I vs nI F3 N3 hlen n1 => ?_
  case mm => tb_rel
  case a0 => assumption
  case a3 => assumption
  (refine' s_B2 (many := r2) (tm := t2) (form := r') (tf := t') K0 F3 X N3 T dS dM e1 e2 n1.1 n1.2.1 n1.2.2.1 n1.2.2.2 hi hz y0 y1 ?mm ?mf look_here ?a0 ?a3 ?f0 ?f7 hlen (s_D K0 X T dS dM e1 e2 hQ))
  case mm => tb_rel
  case mf => tb_rel
  case a0 => assumption
  case a3 => assumption
  case f0 => assumption
  case f7 => assumption
end
noncomputable section
@[reducible] noncomputable def stZ : List Stmt := by
  refine (fun (o : List Stmt) (_ : lawBody = o) => o) ?_ ?h
  rotate_left
  conv => lhs; whnf
end
theorem lawBody_eq : lawBody = stZ := rfl
section
variable {w : World} {p : Program} {loose : List Str} {mean : ExcName → Option Value} {mg mb : Str → Option Value} {h₀ : Heap} {L f : Addr} {cd : Value}
    {m : Str → Option Value} {Q : Flow → Shared → Prop} {E : Value → Shared → Prop} {news : List (Addr × Obj)} {h : Heap} {gs : Array GenState} {d : Drawn} {tk : Nat} {os : OsState} {src l : Addr} {oM oS : Obj}
theorem s_A {a : Addr} {vs : List Value} {ns : List Int} (K0 : Below callerA h₀ [] h₀) (F : Fr h₀ L h m) (X : (frag w.params).In h₀) (N : News h₀ L h [(L + 2, oM), (L + 1, oS)]) (T : Top p loose mean mg mb h₀) (dM : oM.data = .cell none) (dS : oS.data = .cell none) (ms : m (Str.ofString "script") = some (.ref a)) (hl : h₀.IsList a vs.toArray) (hi : IntsAre vs ns) (hz : ns.length ≤ 63) (hQ : ∀ m' h' tk', Fr h₀ L h' m' → Q (.ret (.bool true)) ⟨h', gs, d, tk', os⟩) :
    wpAny (model pw w) (lawA L f cd) (execs stZ (lawX L f cd)) Q E ⟨h, gs, d, tk, os⟩ := by
  w_on
  repeat' (first | ((with_reducible show wpAny _ _ (storeName _ _ _) _ _ _); refine Stop.out ?_) | tb_start | walk1)
  refine Stop.inn ?_
  rename News _ _ _ _ => N0
  rename ∀ p, p ∈ _ → _ => l0
  (refine' f_storeC ?k1 ?k2 ?k3 (c := L + 1) (o := oS) ?gS dS ?_ ?k4 ?k5)
  case k1 => k_asm
  case k2 => k_asm
  case k3 => tb_rel
  case gS => tb_rel
  case k4 => kernel_rfl
  case k5 => kernel_rfl
  intro h1' o1 F1 N1 d1
  have U := updL_cell (o' := o1) N0 (show (L + 1, oS) ∈ _ from by repeat (first | exact mem_hd | refine mem_tl ?_)) dS
  refine x_next ?_
  clear hi
  (refine' s_A2 K0 (by k_asm) X (news4 (by k_asm) (U _ (.head _) fun v h => by cases h) (U _ ?gl fun v h => by cases h) (mem_updL ?gM ?nM) (.head _)) T d1 dM ?e1 ?e2 ?hi ?hz ?y0 ?y1 hQ)
  case gl => exact .tail _ (.tail _ (.head _))
  case hi => k_asm
  case gM => repeat (first | exact mem_hd | refine mem_tl ?_)
  case nM => show @Ne Nat (L + 2) (L + 1); omega
  case e1 => (rename _ ∧ _ => q1; rename _ ∧ _ => q2; first | exact q2.2.1 | (show @LT.lt Nat _ _ _; omega))
  case e2 => exact lt_of_news l0 (.tail _ (.head _))
  case hz => exact take_len (by k_asm)
  case y0 => exact y_ok.1
  case y1 => exact y_ok.2
end
section
variable {w : World} {p : Program} {loose : List Str} {mean : ExcName → Option Value} {mg mb : Str → Option Value} {h₀ : Heap} {L f : Addr} {cd : Value}
    {m : Str → Option Value} {Q : Flow → Shared → Prop} {E : Value → Shared → Prop} {news : List (Addr × Obj)} {h : Heap} {gs : Array GenState} {d : Drawn} {tk : Nat} {os : OsState} {src l : Addr} {oM oS : Obj}
theorem s_A0 {a : Addr} {vs : List Value} {ns : List Int} (K0 : Below callerA h₀ [] h₀) (F : Fr h₀ L h m) (X : (frag w.params).In h₀) (N : News h₀ L h [(L + 2, oM), (L + 1, oS)]) (T : Top p loose mean mg mb h₀) (dM : oM.data = .cell none) (dS : oS.data = .cell none) (ms : m (Str.ofString "script") = some (.ref a)) (hl : h₀.IsList a vs.toArray) (hi : IntsAre vs ns) (hz : ns.length ≤ 63) (hQ : ∀ m' h' tk', Fr h₀ L h' m' → Q (.ret (.bool true)) ⟨h', gs, d, tk', os⟩) :
    wpAny (model pw w) (callerA.deeper (lawEnv L f cd)) (execs lawBody (lawEnv L f cd)) Q E ⟨h, gs, d, tk, os⟩ := by
  rw [lawA_eq, lawEnv_eq, lawBody_eq]
  exact s_A K0 F X N T dM dS ms hl hi hz hQ
end
end
end Mine
open Mine
theorem PySem.Challenge.cw_qd0172_01_holds : PySem.Challenge.rw_qd0172_01.Holds := by
  exact top_of s_A0
