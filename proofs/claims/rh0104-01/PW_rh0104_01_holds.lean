import PyProof.Rows.All
import Wide.All
import OpenK.AllK
import Wide.FinOn
import Lean
import PySem.Challenge.RW_rh0104_01
open PySem PySem.W PyProof.Rows PySem.Calls
set_option Elab.async false
set_option maxRecDepth 100000
set_option maxHeartbeats 8000000
set_option linter.unusedVariables false
namespace Mine
noncomputable abbrev pg : Program := Challenge.pw_rh0104_01
noncomputable def nth : List Stmt → Nat → Stmt
  | [], _ => .Pass ⟨0, 0, 0, 0⟩
  | x :: _, 0 => x
  | _ :: l, n + 1 => nth l n
noncomputable def kids : Stmt → List Stmt
  | .ClassDef _ _ _ b _ _ _ _ _ _ _ => b
  | _ => []
noncomputable def fa : Stmt → Arguments
  | .FunctionDef _ a _ _ _ _ _ _ _ _ => a
  | _ => ⟨[], [], none, [], [], none, []⟩
noncomputable def fb : Stmt → List Stmt
  | .FunctionDef _ _ b _ _ _ _ _ _ _ => b
  | _ => []
noncomputable def fs : Stmt → Scope
  | .FunctionDef _ _ _ _ _ _ s _ _ _ => s
  | _ => pg.main.scope
noncomputable def fa0 : Arguments := fa (nth pg.main.body 0)
noncomputable def fb0 : List Stmt := fb (nth pg.main.body 0)
noncomputable def fs0 : Scope := fs (nth pg.main.body 0)
noncomputable def fa3x0 : Arguments := fa (nth (kids (nth pg.main.body 3)) 0)
noncomputable def fb3x0 : List Stmt := fb (nth (kids (nth pg.main.body 3)) 0)
noncomputable def fs3x0 : Scope := fs (nth (kids (nth pg.main.body 3)) 0)
noncomputable def fa7 : Arguments := fa (nth pg.main.body 7)
noncomputable def fb7 : List Stmt := fb (nth pg.main.body 7)
noncomputable def fs7 : Scope := fs (nth pg.main.body 7)
noncomputable def fb8 : List Stmt := fb (nth pg.main.body 8)
noncomputable def fa9x0 : Arguments := fa (nth (kids (nth pg.main.body 9)) 0)
noncomputable def fb9x0 : List Stmt := fb (nth (kids (nth pg.main.body 9)) 0)
noncomputable def fs9x0 : Scope := fs (nth (kids (nth pg.main.body 9)) 0)
noncomputable def fa9x1 : Arguments := fa (nth (kids (nth pg.main.body 9)) 1)
noncomputable def fb9x1 : List Stmt := fb (nth (kids (nth pg.main.body 9)) 1)
noncomputable def fs9x1 : Scope := fs (nth (kids (nth pg.main.body 9)) 1)
noncomputable def fa9x2 : Arguments := fa (nth (kids (nth pg.main.body 9)) 2)
noncomputable def fb9x2 : List Stmt := fb (nth (kids (nth pg.main.body 9)) 2)
noncomputable def fs9x2 : Scope := fs (nth (kids (nth pg.main.body 9)) 2)
noncomputable def fa9x3 : Arguments := fa (nth (kids (nth pg.main.body 9)) 3)
noncomputable def fb9x3 : List Stmt := fb (nth (kids (nth pg.main.body 9)) 3)
noncomputable def fs9x3 : Scope := fs (nth (kids (nth pg.main.body 9)) 3)
noncomputable def fa9x4 : Arguments := fa (nth (kids (nth pg.main.body 9)) 4)
noncomputable def fb9x4 : List Stmt := fb (nth (kids (nth pg.main.body 9)) 4)
noncomputable def fs9x4 : Scope := fs (nth (kids (nth pg.main.body 9)) 4)
noncomputable def fa9x5 : Arguments := fa (nth (kids (nth pg.main.body 9)) 5)
noncomputable def fb9x5 : List Stmt := fb (nth (kids (nth pg.main.body 9)) 5)
noncomputable def fs9x5 : Scope := fs (nth (kids (nth pg.main.body 9)) 5)
noncomputable def fa9x6 : Arguments := fa (nth (kids (nth pg.main.body 9)) 6)
noncomputable def fb9x6 : List Stmt := fb (nth (kids (nth pg.main.body 9)) 6)
noncomputable def fa9x7 : Arguments := fa (nth (kids (nth pg.main.body 9)) 7)
noncomputable def fb9x7 : List Stmt := fb (nth (kids (nth pg.main.body 9)) 7)
noncomputable def fs9x7 : Scope := fs (nth (kids (nth pg.main.body 9)) 7)
noncomputable def fa9x8 : Arguments := fa (nth (kids (nth pg.main.body 9)) 8)
noncomputable def fb9x8 : List Stmt := fb (nth (kids (nth pg.main.body 9)) 8)
noncomputable def fs9x8 : Scope := fs (nth (kids (nth pg.main.body 9)) 8)
noncomputable def fa9x9 : Arguments := fa (nth (kids (nth pg.main.body 9)) 9)
noncomputable def fb9x9 : List Stmt := fb (nth (kids (nth pg.main.body 9)) 9)
noncomputable def fs9x9 : Scope := fs (nth (kids (nth pg.main.body 9)) 9)
noncomputable def fa9x10 : Arguments := fa (nth (kids (nth pg.main.body 9)) 10)
noncomputable def fb9x10 : List Stmt := fb (nth (kids (nth pg.main.body 9)) 10)
noncomputable def fs9x10 : Scope := fs (nth (kids (nth pg.main.body 9)) 10)
noncomputable def fa11 : Arguments := fa (nth pg.main.body 11)
noncomputable def fb11 : List Stmt := fb (nth pg.main.body 11)
noncomputable def fs11 : Scope := fs (nth pg.main.body 11)
noncomputable def fa12 : Arguments := fa (nth pg.main.body 12)
noncomputable def fb12 : List Stmt := fb (nth pg.main.body 12)
noncomputable def fs12 : Scope := fs (nth pg.main.body 12)
noncomputable def fa13 : Arguments := fa (nth pg.main.body 13)
noncomputable def fb13 : List Stmt := fb (nth pg.main.body 13)
noncomputable def fs13 : Scope := fs (nth pg.main.body 13)
noncomputable def fa25x0 : Arguments := fa (nth (kids (nth pg.main.body 25)) 0)
noncomputable def fb25x0 : List Stmt := fb (nth (kids (nth pg.main.body 25)) 0)
noncomputable def fs25x0 : Scope := fs (nth (kids (nth pg.main.body 25)) 0)
noncomputable def fa25x1 : Arguments := fa (nth (kids (nth pg.main.body 25)) 1)
noncomputable def fb25x1 : List Stmt := fb (nth (kids (nth pg.main.body 25)) 1)
noncomputable def fs25x1 : Scope := fs (nth (kids (nth pg.main.body 25)) 1)
noncomputable def fa25x2 : Arguments := fa (nth (kids (nth pg.main.body 25)) 2)
noncomputable def fb25x2 : List Stmt := fb (nth (kids (nth pg.main.body 25)) 2)
noncomputable def fs25x2 : Scope := fs (nth (kids (nth pg.main.body 25)) 2)
noncomputable def fa25x3 : Arguments := fa (nth (kids (nth pg.main.body 25)) 3)
noncomputable def fb25x3 : List Stmt := fb (nth (kids (nth pg.main.body 25)) 3)
noncomputable def fs25x3 : Scope := fs (nth (kids (nth pg.main.body 25)) 3)
noncomputable def fa25x4 : Arguments := fa (nth (kids (nth pg.main.body 25)) 4)
noncomputable def fb25x4 : List Stmt := fb (nth (kids (nth pg.main.body 25)) 4)
noncomputable def fs25x4 : Scope := fs (nth (kids (nth pg.main.body 25)) 4)
noncomputable def fa25x5 : Arguments := fa (nth (kids (nth pg.main.body 25)) 5)
noncomputable def fb25x5 : List Stmt := fb (nth (kids (nth pg.main.body 25)) 5)
noncomputable def fs25x5 : Scope := fs (nth (kids (nth pg.main.body 25)) 5)
noncomputable def fa25x6 : Arguments := fa (nth (kids (nth pg.main.body 25)) 6)
noncomputable def fb25x6 : List Stmt := fb (nth (kids (nth pg.main.body 25)) 6)
noncomputable def fs25x6 : Scope := fs (nth (kids (nth pg.main.body 25)) 6)
noncomputable def fa25x7 : Arguments := fa (nth (kids (nth pg.main.body 25)) 7)
noncomputable def fb25x7 : List Stmt := fb (nth (kids (nth pg.main.body 25)) 7)
noncomputable def fs25x7 : Scope := fs (nth (kids (nth pg.main.body 25)) 7)
noncomputable def fa25x8 : Arguments := fa (nth (kids (nth pg.main.body 25)) 8)
noncomputable def fb25x8 : List Stmt := fb (nth (kids (nth pg.main.body 25)) 8)
noncomputable def fs25x8 : Scope := fs (nth (kids (nth pg.main.body 25)) 8)
noncomputable def fa25x9 : Arguments := fa (nth (kids (nth pg.main.body 25)) 9)
noncomputable def fb25x9 : List Stmt := fb (nth (kids (nth pg.main.body 25)) 9)
noncomputable def fs25x9 : Scope := fs (nth (kids (nth pg.main.body 25)) 9)
noncomputable def fa25x10 : Arguments := fa (nth (kids (nth pg.main.body 25)) 10)
noncomputable def fb25x10 : List Stmt := fb (nth (kids (nth pg.main.body 25)) 10)
noncomputable def fa25x11 : Arguments := fa (nth (kids (nth pg.main.body 25)) 11)
noncomputable def fb25x11 : List Stmt := fb (nth (kids (nth pg.main.body 25)) 11)
noncomputable def fs25x11 : Scope := fs (nth (kids (nth pg.main.body 25)) 11)
noncomputable def fa25x12 : Arguments := fa (nth (kids (nth pg.main.body 25)) 12)
noncomputable def fb25x12 : List Stmt := fb (nth (kids (nth pg.main.body 25)) 12)
noncomputable def fs25x12 : Scope := fs (nth (kids (nth pg.main.body 25)) 12)
noncomputable def fa25x13 : Arguments := fa (nth (kids (nth pg.main.body 25)) 13)
noncomputable def fb25x13 : List Stmt := fb (nth (kids (nth pg.main.body 25)) 13)
noncomputable def fs25x13 : Scope := fs (nth (kids (nth pg.main.body 25)) 13)
noncomputable def fa25x14 : Arguments := fa (nth (kids (nth pg.main.body 25)) 14)
noncomputable def fb25x14 : List Stmt := fb (nth (kids (nth pg.main.body 25)) 14)
noncomputable def fs25x14 : Scope := fs (nth (kids (nth pg.main.body 25)) 14)
noncomputable def fa25x15 : Arguments := fa (nth (kids (nth pg.main.body 25)) 15)
noncomputable def fb25x15 : List Stmt := fb (nth (kids (nth pg.main.body 25)) 15)
noncomputable def fs25x15 : Scope := fs (nth (kids (nth pg.main.body 25)) 15)
noncomputable def fa25x16 : Arguments := fa (nth (kids (nth pg.main.body 25)) 16)
noncomputable def fb25x16 : List Stmt := fb (nth (kids (nth pg.main.body 25)) 16)
noncomputable def fs25x16 : Scope := fs (nth (kids (nth pg.main.body 25)) 16)
noncomputable def fa25x17 : Arguments := fa (nth (kids (nth pg.main.body 25)) 17)
noncomputable def fb25x17 : List Stmt := fb (nth (kids (nth pg.main.body 25)) 17)
noncomputable def fs25x17 : Scope := fs (nth (kids (nth pg.main.body 25)) 17)
noncomputable def fa25x18 : Arguments := fa (nth (kids (nth pg.main.body 25)) 18)
noncomputable def fb25x18 : List Stmt := fb (nth (kids (nth pg.main.body 25)) 18)
noncomputable def fs25x18 : Scope := fs (nth (kids (nth pg.main.body 25)) 18)
noncomputable def fa26x0 : Arguments := fa (nth (kids (nth pg.main.body 26)) 0)
noncomputable def fb26x0 : List Stmt := fb (nth (kids (nth pg.main.body 26)) 0)
noncomputable def fs26x0 : Scope := fs (nth (kids (nth pg.main.body 26)) 0)
noncomputable def fa26x1 : Arguments := fa (nth (kids (nth pg.main.body 26)) 1)
noncomputable def fb26x1 : List Stmt := fb (nth (kids (nth pg.main.body 26)) 1)
noncomputable def fs26x1 : Scope := fs (nth (kids (nth pg.main.body 26)) 1)
noncomputable def fa26x2 : Arguments := fa (nth (kids (nth pg.main.body 26)) 2)
noncomputable def fb26x2 : List Stmt := fb (nth (kids (nth pg.main.body 26)) 2)
noncomputable def fa26x3 : Arguments := fa (nth (kids (nth pg.main.body 26)) 3)
noncomputable def fb26x3 : List Stmt := fb (nth (kids (nth pg.main.body 26)) 3)
noncomputable def fs26x3 : Scope := fs (nth (kids (nth pg.main.body 26)) 3)
noncomputable def fa26x4 : Arguments := fa (nth (kids (nth pg.main.body 26)) 4)
noncomputable def fb26x4 : List Stmt := fb (nth (kids (nth pg.main.body 26)) 4)
noncomputable def fs26x4 : Scope := fs (nth (kids (nth pg.main.body 26)) 4)
noncomputable def fa26x5 : Arguments := fa (nth (kids (nth pg.main.body 26)) 5)
noncomputable def fb26x5 : List Stmt := fb (nth (kids (nth pg.main.body 26)) 5)
noncomputable def fs26x5 : Scope := fs (nth (kids (nth pg.main.body 26)) 5)
noncomputable def fa29x0 : Arguments := fa (nth (kids (nth pg.main.body 29)) 0)
noncomputable def fb29x0 : List Stmt := fb (nth (kids (nth pg.main.body 29)) 0)
noncomputable def fs29x0 : Scope := fs (nth (kids (nth pg.main.body 29)) 0)
noncomputable def fa29x1 : Arguments := fa (nth (kids (nth pg.main.body 29)) 1)
noncomputable def fb29x1 : List Stmt := fb (nth (kids (nth pg.main.body 29)) 1)
noncomputable def fs29x1 : Scope := fs (nth (kids (nth pg.main.body 29)) 1)
noncomputable def fa29x2 : Arguments := fa (nth (kids (nth pg.main.body 29)) 2)
noncomputable def fb29x2 : List Stmt := fb (nth (kids (nth pg.main.body 29)) 2)
noncomputable def fs29x2 : Scope := fs (nth (kids (nth pg.main.body 29)) 2)
noncomputable def fa29x3 : Arguments := fa (nth (kids (nth pg.main.body 29)) 3)
noncomputable def fb29x3 : List Stmt := fb (nth (kids (nth pg.main.body 29)) 3)
noncomputable def fs29x3 : Scope := fs (nth (kids (nth pg.main.body 29)) 3)
noncomputable def fa29x4 : Arguments := fa (nth (kids (nth pg.main.body 29)) 4)
noncomputable def fb29x4 : List Stmt := fb (nth (kids (nth pg.main.body 29)) 4)
noncomputable def fs29x4 : Scope := fs (nth (kids (nth pg.main.body 29)) 4)
noncomputable def fa29x5 : Arguments := fa (nth (kids (nth pg.main.body 29)) 5)
noncomputable def fb29x5 : List Stmt := fb (nth (kids (nth pg.main.body 29)) 5)
noncomputable def fa29x6 : Arguments := fa (nth (kids (nth pg.main.body 29)) 6)
noncomputable def fb29x6 : List Stmt := fb (nth (kids (nth pg.main.body 29)) 6)
noncomputable def fa29x7 : Arguments := fa (nth (kids (nth pg.main.body 29)) 7)
noncomputable def fb29x7 : List Stmt := fb (nth (kids (nth pg.main.body 29)) 7)
noncomputable def fs29x7 : Scope := fs (nth (kids (nth pg.main.body 29)) 7)
noncomputable def fa29x8 : Arguments := fa (nth (kids (nth pg.main.body 29)) 8)
noncomputable def fb29x8 : List Stmt := fb (nth (kids (nth pg.main.body 29)) 8)
noncomputable def fa29x9 : Arguments := fa (nth (kids (nth pg.main.body 29)) 9)
noncomputable def fb29x9 : List Stmt := fb (nth (kids (nth pg.main.body 29)) 9)
noncomputable def fs29x9 : Scope := fs (nth (kids (nth pg.main.body 29)) 9)
noncomputable def fa29x10 : Arguments := fa (nth (kids (nth pg.main.body 29)) 10)
noncomputable def fb29x10 : List Stmt := fb (nth (kids (nth pg.main.body 29)) 10)
noncomputable def fa29x11 : Arguments := fa (nth (kids (nth pg.main.body 29)) 11)
noncomputable def fb29x11 : List Stmt := fb (nth (kids (nth pg.main.body 29)) 11)
noncomputable def fs29x11 : Scope := fs (nth (kids (nth pg.main.body 29)) 11)
noncomputable def fa29x12 : Arguments := fa (nth (kids (nth pg.main.body 29)) 12)
noncomputable def fb29x12 : List Stmt := fb (nth (kids (nth pg.main.body 29)) 12)
noncomputable def fs29x12 : Scope := fs (nth (kids (nth pg.main.body 29)) 12)
noncomputable def fa29x13 : Arguments := fa (nth (kids (nth pg.main.body 29)) 13)
noncomputable def fb29x13 : List Stmt := fb (nth (kids (nth pg.main.body 29)) 13)
noncomputable def fs29x13 : Scope := fs (nth (kids (nth pg.main.body 29)) 13)
noncomputable def fa29x14 : Arguments := fa (nth (kids (nth pg.main.body 29)) 14)
noncomputable def fb29x14 : List Stmt := fb (nth (kids (nth pg.main.body 29)) 14)
noncomputable def fs29x14 : Scope := fs (nth (kids (nth pg.main.body 29)) 14)
noncomputable def fa29x15 : Arguments := fa (nth (kids (nth pg.main.body 29)) 15)
noncomputable def fb29x15 : List Stmt := fb (nth (kids (nth pg.main.body 29)) 15)
noncomputable def fs29x15 : Scope := fs (nth (kids (nth pg.main.body 29)) 15)
noncomputable def fa29x16 : Arguments := fa (nth (kids (nth pg.main.body 29)) 16)
noncomputable def fb29x16 : List Stmt := fb (nth (kids (nth pg.main.body 29)) 16)
noncomputable def fa29x17 : Arguments := fa (nth (kids (nth pg.main.body 29)) 17)
noncomputable def fb29x17 : List Stmt := fb (nth (kids (nth pg.main.body 29)) 17)
noncomputable def fa29x18 : Arguments := fa (nth (kids (nth pg.main.body 29)) 18)
noncomputable def fb29x18 : List Stmt := fb (nth (kids (nth pg.main.body 29)) 18)
noncomputable def fa29x19 : Arguments := fa (nth (kids (nth pg.main.body 29)) 19)
noncomputable def fb29x19 : List Stmt := fb (nth (kids (nth pg.main.body 29)) 19)
noncomputable def fa29x20 : Arguments := fa (nth (kids (nth pg.main.body 29)) 20)
noncomputable def fb29x20 : List Stmt := fb (nth (kids (nth pg.main.body 29)) 20)
noncomputable def fa31 : Arguments := fa (nth pg.main.body 31)
noncomputable def fb31 : List Stmt := fb (nth pg.main.body 31)
noncomputable def fs31 : Scope := fs (nth pg.main.body 31)
noncomputable def fa32 : Arguments := fa (nth pg.main.body 32)
noncomputable def fb32 : List Stmt := fb (nth pg.main.body 32)
noncomputable def fs32 : Scope := fs (nth pg.main.body 32)
noncomputable def o11 (P : Params) : Obj := Obj.mk (Value.type "tuple") Option.none (Data.seq #[]) #[]
noncomputable def o12 (P : Params) : Obj := Obj.mk Value.none Option.none (Data.fields #[]) #[]
noncomputable def o13 (P : Params) : Obj := Obj.mk (Value.type "code") Option.none (Data.fields #[Value.str (Str.ofString "<module>") 182, Value.str (Str.ofString "<module>") 183, Value.str (Str.ofString "/claim/cut.py") 184, Value.int 1 0, Value.int 0 0, Value.int 0 0, Value.int 0 0, Value.int 0 0, Value.ref 11, Value.bool Bool.false, Value.int 181 0, Value.ref 12, Value.none, Value.none, Value.none, Value.none, Value.int 185 0, Value.int 1 0, Value.str (Str.ofString "/claim/cut.py") 186]) #[]
noncomputable def o14 (P : Params) : Obj := Obj.mk (Value.type "frame") Option.none Data.plain #[Option.some (Value.ref 13), Option.some (Value.ref 3), Option.some (Value.ref 3), Option.none, Option.some (Value.str (Str.ofString "__main__") 164), Option.none, Option.some (Value.ref 0)]
noncomputable def o2 (P : Params) : Obj := Obj.mk Value.none Option.none (Data.dict #[DictEntry.mk (PyData.keyHash P (Str.ofString "type.__subclasses__.Exception.0")) (Value.str (Str.ofString "type.__subclasses__.Exception.0") 212) (Value.int 31 0), DictEntry.mk (PyData.keyHash P (Str.ofString "type.__subclasses__.Exception.n")) (Value.str (Str.ofString "type.__subclasses__.Exception.n") 213) (Value.int 1 0)] 2) #[]
noncomputable def o3 (P : Params) : Obj := Obj.mk (Value.type "dict") Option.none (Data.dict #[DictEntry.mk (PyData.keyHash P (Str.ofString "__name__")) (Value.str (Str.ofString "__name__") 165) (Value.str (Str.ofString "clausemill.symbols") 194), DictEntry.mk (PyData.keyHash P (Str.ofString "__doc__")) (Value.str (Str.ofString "__doc__") 166) Value.none, DictEntry.mk (PyData.keyHash P (Str.ofString "__package__")) (Value.str (Str.ofString "__package__") 167) Value.none, DictEntry.mk (PyData.keyHash P (Str.ofString "__loader__")) (Value.str (Str.ofString "__loader__") 168) (Value.builtin "__main__.__loader__#opaque"), DictEntry.mk (PyData.keyHash P (Str.ofString "__spec__")) (Value.str (Str.ofString "__spec__") 169) Value.none, DictEntry.mk (PyData.keyHash P (Str.ofString "__annotations__")) (Value.str (Str.ofString "__annotations__") 170) (Value.ref 6), DictEntry.mk (PyData.keyHash P (Str.ofString "__builtins__")) (Value.str (Str.ofString "__builtins__") 171) (Value.ref 4), DictEntry.mk (PyData.keyHash P (Str.ofString "__file__")) (Value.str (Str.ofString "__file__") 173) (Value.str (Str.ofString "/claim/cut.py") 172), DictEntry.mk (PyData.keyHash P (Str.ofString "__cached__")) (Value.str (Str.ofString "__cached__") 174) Value.none, DictEntry.mk (PyData.keyHash P (Str.ofString "_wall")) (Value.str (Str.ofString "_wall") 193) (Value.ref 21), DictEntry.mk (PyData.keyHash P (Str.ofString "ClausemillError")) (Value.str (Str.ofString "ClausemillError") 215) (Value.ref 31), DictEntry.mk (PyData.keyHash P (Str.ofString "PrologError")) (Value.str (Str.ofString "PrologError") 240) (Value.ref 51), DictEntry.mk (PyData.keyHash P (Str.ofString "A_SYSTEM")) (Value.str (Str.ofString "A_SYSTEM") 242) (Value.int 25 241), DictEntry.mk (PyData.keyHash P (Str.ofString "F_DOT")) (Value.str (Str.ofString "F_DOT") 244) (Value.int 0 243), DictEntry.mk (PyData.keyHash P (Str.ofString "F_ERROR")) (Value.str (Str.ofString "F_ERROR") 246) (Value.int 16 245), DictEntry.mk (PyData.keyHash P (Str.ofString "fixed_atoms")) (Value.str (Str.ofString "fixed_atoms") 252) (Value.ref 60), DictEntry.mk (PyData.keyHash P (Str.ofString "fixed_functors")) (Value.str (Str.ofString "fixed_functors") 258) (Value.ref 67)] 17) #[]
noncomputable def o12v1 (P : Params) : Obj := Obj.mk Value.none Option.none (Data.fields #[Value.int 1 0, Value.int 0 0, Value.ref 20, Value.int 5 0, Value.int 0 0, Value.ref 27, Value.int 7 0, Value.int 0 0, Value.ref 40, Value.int 14 0, Value.int 0 0, Value.ref 59, Value.int 16 0, Value.int 0 0, Value.ref 66]) #[]
noncomputable def o15 (P : Params) : Obj := Obj.mk (Value.type "tuple") Option.none (Data.seq #[]) #[]
noncomputable def o16 (P : Params) : Obj := Obj.mk Value.none Option.none (Data.fields #[]) #[]
noncomputable def o17 (P : Params) : Obj := Obj.mk (Value.type "tuple") Option.none (Data.seq #[Value.str (Str.ofString "k") 190]) #[]
noncomputable def o18 (P : Params) : Obj := Obj.mk (Value.type "tuple") Option.none (Data.seq #[]) #[]
noncomputable def o19 (P : Params) : Obj := Obj.mk Value.none Option.none (Data.func (FuncData.mk (Str.ofString "_wall") (Str.ofString "_wall") fa0 (FuncBody.stmts fb0) fs0 0 [] Value.none Value.none Value.none Value.none Option.none Value.none Value.none 0)) #[]
noncomputable def o20 (P : Params) : Obj := Obj.mk (Value.type "code") Option.none (Data.fields #[Value.str (Str.ofString "_wall") 187, Value.str (Str.ofString "_wall") 188, Value.str (Str.ofString "/claim/cut.py") 189, Value.int 1 0, Value.int 1 0, Value.int 0 0, Value.int 0 0, Value.int 3 0, Value.ref 15, Value.bool Bool.true, Value.int 181 0, Value.ref 16, Value.none, Value.ref 17, Value.ref 18, Value.ref 19, Value.int 191 0, Value.int 1 0, Value.str (Str.ofString "/claim/cut.py") 192]) #[]
noncomputable def o21 (P : Params) : Obj := Obj.mk (Value.type "function") Option.none (Data.func (FuncData.mk (Str.ofString "_wall") (Str.ofString "_wall") fa0 (FuncBody.stmts fb0) fs0 3 [] Value.none Value.none Value.none (Value.str (Str.ofString "__main__") 164) Option.none (Value.ref 20) Value.none 0)) #[]
noncomputable def o22 (P : Params) : Obj := Obj.mk (Value.type "tuple") Option.none (Data.seq #[Value.type "Exception"]) #[]
noncomputable def o23 (P : Params) : Obj := Obj.mk (Value.type "builtin_function_or_method") Option.none (Data.fields #[Value.builtin "type.__prepare__", Value.type "type"]) #[]
noncomputable def o24 (P : Params) : Obj := Obj.mk (Value.type "dict") Option.none (Data.dict #[DictEntry.mk (PyData.keyHash P (Str.ofString "__module__")) (Value.str (Str.ofString "__module__") 203) (Value.str (Str.ofString "clausemill.symbols") 194), DictEntry.mk (PyData.keyHash P (Str.ofString "__qualname__")) (Value.str (Str.ofString "__qualname__") 205) (Value.str (Str.ofString "ClausemillError") 204), DictEntry.mk (PyData.keyHash P (Str.ofString "__firstlineno__")) (Value.str (Str.ofString "__firstlineno__") 207) (Value.int 5 206), DictEntry.mk (PyData.keyHash P (Str.ofString "__static_attributes__")) (Value.str (Str.ofString "__static_attributes__") 208) (Value.ref 29)] 4) #[]
noncomputable def o25 (P : Params) : Obj := Obj.mk (Value.type "tuple") Option.none (Data.seq #[]) #[]
noncomputable def o26 (P : Params) : Obj := Obj.mk Value.none Option.none (Data.fields #[]) #[]
noncomputable def o27 (P : Params) : Obj := Obj.mk (Value.type "code") Option.none (Data.fields #[Value.str (Str.ofString "ClausemillError") 198, Value.str (Str.ofString "ClausemillError") 199, Value.str (Str.ofString "/claim/cut.py") 200, Value.int 5 0, Value.int 0 0, Value.int 0 0, Value.int 0 0, Value.int 0 0, Value.ref 25, Value.bool Bool.false, Value.int 181 0, Value.ref 26, Value.none, Value.none, Value.none, Value.none, Value.int 201 0, Value.int 5 0, Value.str (Str.ofString "/claim/cut.py") 202]) #[]
noncomputable def o28 (P : Params) : Obj := Obj.mk (Value.type "frame") Option.none Data.plain #[Option.some (Value.ref 27), Option.some (Value.ref 3), Option.some (Value.ref 24), Option.none, Option.some (Value.str (Str.ofString "clausemill.symbols") 194), Option.none, Option.some (Value.ref 0)]
noncomputable def o29 (P : Params) : Obj := Obj.mk (Value.type "tuple") Option.none (Data.seq #[]) #[]
noncomputable def o30 (P : Params) : Obj := Obj.mk (Value.type "dict") Option.none (Data.dict #[DictEntry.mk (PyData.keyHash P (Str.ofString "__module__")) (Value.str (Str.ofString "__module__") 203) (Value.str (Str.ofString "clausemill.symbols") 194), DictEntry.mk (PyData.keyHash P (Str.ofString "__firstlineno__")) (Value.str (Str.ofString "__firstlineno__") 207) (Value.int 5 206), DictEntry.mk (PyData.keyHash P (Str.ofString "__static_attributes__")) (Value.str (Str.ofString "__static_attributes__") 208) (Value.ref 29), DictEntry.mk (PyData.keyHash P (Str.ofString "__weakref__")) (Value.str (Str.ofString "__weakref__") 210) (Value.ref 32), DictEntry.mk (PyData.keyHash P (Str.ofString "__doc__")) (Value.str (Str.ofString "__doc__") 211) Value.none] 3) #[]
noncomputable def o31 (P : Params) : Obj := Obj.mk (Value.type "type") Option.none (Data.cls (ClassData.mk (Str.ofString "ClausemillError") [Value.type "Exception"] [Value.ref 31, Value.type "Exception", Value.type "BaseException", Value.type "object"] 30 (Str.ofString "ClausemillError") Bool.true [] [Value.ref 51] Bool.false Option.none Bool.false)) #[Option.some (Value.ref 22), Option.none, Option.some (Value.str (Str.ofString "ClausemillError") 196), Option.some (Value.str (Str.ofString "ClausemillError") 204), Option.some (Value.builtin "Exception.__new__"), Option.some (Value.bool Bool.true)]
noncomputable def o32 (P : Params) : Obj := Obj.mk (Value.type "getset_descriptor") Option.none (Data.fields #[Value.str (Str.ofString "__weakref__") 209, Value.ref 31, Value.builtin "ExceptionGroup.__weakref__", Value.none]) #[]
noncomputable def o33 (P : Params) : Obj := Obj.mk (Value.type "super") Option.none (Data.fields #[Value.ref 31, Value.ref 31, Value.ref 31]) #[]
noncomputable def o34 (P : Params) : Obj := Obj.mk (Value.type "builtin_function_or_method") Option.none (Data.fields #[Value.builtin "object.__init_subclass__", Value.ref 31]) #[]
noncomputable def o35 (P : Params) : Obj := Obj.mk (Value.type "tuple") Option.none (Data.seq #[Value.ref 31]) #[]
noncomputable def o36 (P : Params) : Obj := Obj.mk (Value.type "builtin_function_or_method") Option.none (Data.fields #[Value.builtin "type.__prepare__", Value.type "type"]) #[]
noncomputable def o37 (P : Params) : Obj := Obj.mk (Value.type "dict") Option.none (Data.dict #[DictEntry.mk (PyData.keyHash P (Str.ofString "__module__")) (Value.str (Str.ofString "__module__") 223) (Value.str (Str.ofString "clausemill.symbols") 194), DictEntry.mk (PyData.keyHash P (Str.ofString "__qualname__")) (Value.str (Str.ofString "__qualname__") 225) (Value.str (Str.ofString "PrologError") 224), DictEntry.mk (PyData.keyHash P (Str.ofString "__firstlineno__")) (Value.str (Str.ofString "__firstlineno__") 227) (Value.int 7 226), DictEntry.mk (PyData.keyHash P (Str.ofString "__init__")) (Value.str (Str.ofString "__init__") 235) (Value.ref 48), DictEntry.mk (PyData.keyHash P (Str.ofString "__static_attributes__")) (Value.str (Str.ofString "__static_attributes__") 237) (Value.ref 49)] 5) #[]
noncomputable def o38 (P : Params) : Obj := Obj.mk (Value.type "tuple") Option.none (Data.seq #[]) #[]
noncomputable def o39 (P : Params) : Obj := Obj.mk Value.none Option.none (Data.fields #[Value.int 9 0, Value.int 4 0, Value.ref 47]) #[]
noncomputable def o40 (P : Params) : Obj := Obj.mk (Value.type "code") Option.none (Data.fields #[Value.str (Str.ofString "PrologError") 218, Value.str (Str.ofString "PrologError") 219, Value.str (Str.ofString "/claim/cut.py") 220, Value.int 7 0, Value.int 0 0, Value.int 0 0, Value.int 0 0, Value.int 0 0, Value.ref 38, Value.bool Bool.false, Value.int 181 0, Value.ref 39, Value.none, Value.none, Value.none, Value.none, Value.int 221 0, Value.int 7 0, Value.str (Str.ofString "/claim/cut.py") 222]) #[]
noncomputable def o41 (P : Params) : Obj := Obj.mk (Value.type "frame") Option.none Data.plain #[Option.some (Value.ref 40), Option.some (Value.ref 3), Option.some (Value.ref 37), Option.none, Option.some (Value.str (Str.ofString "clausemill.symbols") 194), Option.none, Option.some (Value.ref 0)]
noncomputable def o42 (P : Params) : Obj := Obj.mk (Value.type "tuple") Option.none (Data.seq #[]) #[]
noncomputable def o43 (P : Params) : Obj := Obj.mk Value.none Option.none (Data.fields #[]) #[]
noncomputable def o44 (P : Params) : Obj := Obj.mk (Value.type "tuple") Option.none (Data.seq #[Value.str (Str.ofString "self") 231, Value.str (Str.ofString "ball") 232]) #[]
noncomputable def o45 (P : Params) : Obj := Obj.mk (Value.type "tuple") Option.none (Data.seq #[]) #[]
noncomputable def o46 (P : Params) : Obj := Obj.mk Value.none Option.none (Data.func (FuncData.mk (Str.ofString "__init__") (Str.ofString "PrologError.__init__") fa3x0 (FuncBody.stmts fb3x0) fs3x0 0 [] Value.none Value.none Value.none Value.none Option.none Value.none Value.none 0)) #[]
noncomputable def o47 (P : Params) : Obj := Obj.mk (Value.type "code") Option.none (Data.fields #[Value.str (Str.ofString "__init__") 228, Value.str (Str.ofString "PrologError.__init__") 229, Value.str (Str.ofString "/claim/cut.py") 230, Value.int 9 0, Value.int 2 0, Value.int 0 0, Value.int 0 0, Value.int 3 0, Value.ref 42, Value.bool Bool.true, Value.int 181 0, Value.ref 43, Value.none, Value.ref 44, Value.ref 45, Value.ref 46, Value.int 233 0, Value.int 9 0, Value.str (Str.ofString "/claim/cut.py") 234]) #[]
noncomputable def o48 (P : Params) : Obj := Obj.mk (Value.type "function") Option.none (Data.func (FuncData.mk (Str.ofString "__init__") (Str.ofString "PrologError.__init__") fa3x0 (FuncBody.stmts fb3x0) fs3x0 3 [] Value.none Value.none Value.none (Value.str (Str.ofString "clausemill.symbols") 194) Option.none (Value.ref 47) Value.none 0)) #[]
noncomputable def o49 (P : Params) : Obj := Obj.mk (Value.type "tuple") Option.none (Data.seq #[Value.str (Str.ofString "ball") 236]) #[]
noncomputable def o50 (P : Params) : Obj := Obj.mk (Value.type "dict") Option.none (Data.dict #[DictEntry.mk (PyData.keyHash P (Str.ofString "__module__")) (Value.str (Str.ofString "__module__") 223) (Value.str (Str.ofString "clausemill.symbols") 194), DictEntry.mk (PyData.keyHash P (Str.ofString "__firstlineno__")) (Value.str (Str.ofString "__firstlineno__") 227) (Value.int 7 226), DictEntry.mk (PyData.keyHash P (Str.ofString "__init__")) (Value.str (Str.ofString "__init__") 235) (Value.ref 48), DictEntry.mk (PyData.keyHash P (Str.ofString "__static_attributes__")) (Value.str (Str.ofString "__static_attributes__") 237) (Value.ref 49), DictEntry.mk (PyData.keyHash P (Str.ofString "__doc__")) (Value.str (Str.ofString "__doc__") 238) Value.none] 2) #[]
noncomputable def o51 (P : Params) : Obj := Obj.mk (Value.type "type") Option.none (Data.cls (ClassData.mk (Str.ofString "PrologError") [Value.ref 31] [Value.ref 51, Value.ref 31, Value.type "Exception", Value.type "BaseException", Value.type "object"] 50 (Str.ofString "PrologError") Bool.true [] [] Bool.false Option.none Bool.false)) #[Option.some (Value.ref 35), Option.none, Option.some (Value.str (Str.ofString "PrologError") 216), Option.some (Value.str (Str.ofString "PrologError") 224), Option.some (Value.builtin "Exception.__new__"), Option.some (Value.bool Bool.true)]
noncomputable def o52 (P : Params) : Obj := Obj.mk (Value.type "super") Option.none (Data.fields #[Value.ref 51, Value.ref 51, Value.ref 51]) #[]
noncomputable def o53 (P : Params) : Obj := Obj.mk (Value.type "builtin_function_or_method") Option.none (Data.fields #[Value.builtin "object.__init_subclass__", Value.ref 51]) #[]
noncomputable def o54 (P : Params) : Obj := Obj.mk (Value.type "tuple") Option.none (Data.seq #[]) #[]
noncomputable def o55 (P : Params) : Obj := Obj.mk Value.none Option.none (Data.fields #[]) #[]
noncomputable def o56 (P : Params) : Obj := Obj.mk (Value.type "tuple") Option.none (Data.seq #[]) #[]
noncomputable def o57 (P : Params) : Obj := Obj.mk (Value.type "tuple") Option.none (Data.seq #[]) #[]
noncomputable def o58 (P : Params) : Obj := Obj.mk Value.none Option.none (Data.func (FuncData.mk (Str.ofString "fixed_atoms") (Str.ofString "fixed_atoms") fa7 (FuncBody.stmts fb7) fs7 0 [] Value.none Value.none Value.none Value.none Option.none Value.none Value.none 0)) #[]
noncomputable def o59 (P : Params) : Obj := Obj.mk (Value.type "code") Option.none (Data.fields #[Value.str (Str.ofString "fixed_atoms") 247, Value.str (Str.ofString "fixed_atoms") 248, Value.str (Str.ofString "/claim/cut.py") 249, Value.int 14 0, Value.int 0 0, Value.int 0 0, Value.int 0 0, Value.int 3 0, Value.ref 54, Value.bool Bool.true, Value.int 181 0, Value.ref 55, Value.none, Value.ref 56, Value.ref 57, Value.ref 58, Value.int 250 0, Value.int 14 0, Value.str (Str.ofString "/claim/cut.py") 251]) #[]
noncomputable def o60 (P : Params) : Obj := Obj.mk (Value.type "function") Option.none (Data.func (FuncData.mk (Str.ofString "fixed_atoms") (Str.ofString "fixed_atoms") fa7 (FuncBody.stmts fb7) fs7 3 [] Value.none Value.none Value.none (Value.str (Str.ofString "clausemill.symbols") 194) Option.none (Value.ref 59) Value.none 0)) #[]
noncomputable def o61 (P : Params) : Obj := Obj.mk (Value.type "tuple") Option.none (Data.seq #[]) #[]
noncomputable def o62 (P : Params) : Obj := Obj.mk Value.none Option.none (Data.fields #[]) #[]
noncomputable def o63 (P : Params) : Obj := Obj.mk (Value.type "tuple") Option.none (Data.seq #[]) #[]
noncomputable def o64 (P : Params) : Obj := Obj.mk (Value.type "tuple") Option.none (Data.seq #[]) #[]
noncomputable def o65 (P : Params) : Obj := Obj.mk Value.none Option.none (Data.func (FuncData.mk (Str.ofString "fixed_functors") (Str.ofString "fixed_functors") fa7 (FuncBody.stmts fb8) fs7 0 [] Value.none Value.none Value.none Value.none Option.none Value.none Value.none 0)) #[]
noncomputable def o66 (P : Params) : Obj := Obj.mk (Value.type "code") Option.none (Data.fields #[Value.str (Str.ofString "fixed_functors") 253, Value.str (Str.ofString "fixed_functors") 254, Value.str (Str.ofString "/claim/cut.py") 255, Value.int 16 0, Value.int 0 0, Value.int 0 0, Value.int 0 0, Value.int 3 0, Value.ref 61, Value.bool Bool.true, Value.int 181 0, Value.ref 62, Value.none, Value.ref 63, Value.ref 64, Value.ref 65, Value.int 256 0, Value.int 16 0, Value.str (Str.ofString "/claim/cut.py") 257]) #[]
noncomputable def o67 (P : Params) : Obj := Obj.mk (Value.type "function") Option.none (Data.func (FuncData.mk (Str.ofString "fixed_functors") (Str.ofString "fixed_functors") fa7 (FuncBody.stmts fb8) fs7 3 [] Value.none Value.none Value.none (Value.str (Str.ofString "clausemill.symbols") 194) Option.none (Value.ref 66) Value.none 0)) #[]
noncomputable def o3v1 (P : Params) : Obj := Obj.mk (Value.type "dict") Option.none (Data.dict #[DictEntry.mk (PyData.keyHash P (Str.ofString "__name__")) (Value.str (Str.ofString "__name__") 165) (Value.str (Str.ofString "clausemill.symbols") 194), DictEntry.mk (PyData.keyHash P (Str.ofString "__doc__")) (Value.str (Str.ofString "__doc__") 166) Value.none, DictEntry.mk (PyData.keyHash P (Str.ofString "__package__")) (Value.str (Str.ofString "__package__") 167) Value.none, DictEntry.mk (PyData.keyHash P (Str.ofString "__loader__")) (Value.str (Str.ofString "__loader__") 168) (Value.builtin "__main__.__loader__#opaque"), DictEntry.mk (PyData.keyHash P (Str.ofString "__spec__")) (Value.str (Str.ofString "__spec__") 169) Value.none, DictEntry.mk (PyData.keyHash P (Str.ofString "__annotations__")) (Value.str (Str.ofString "__annotations__") 170) (Value.ref 6), DictEntry.mk (PyData.keyHash P (Str.ofString "__builtins__")) (Value.str (Str.ofString "__builtins__") 171) (Value.ref 4), DictEntry.mk (PyData.keyHash P (Str.ofString "__file__")) (Value.str (Str.ofString "__file__") 173) (Value.str (Str.ofString "/claim/cut.py") 172), DictEntry.mk (PyData.keyHash P (Str.ofString "__cached__")) (Value.str (Str.ofString "__cached__") 174) Value.none, DictEntry.mk (PyData.keyHash P (Str.ofString "_wall")) (Value.str (Str.ofString "_wall") 193) (Value.ref 21), DictEntry.mk (PyData.keyHash P (Str.ofString "ClausemillError")) (Value.str (Str.ofString "ClausemillError") 215) (Value.ref 31), DictEntry.mk (PyData.keyHash P (Str.ofString "PrologError")) (Value.str (Str.ofString "PrologError") 240) (Value.ref 51), DictEntry.mk (PyData.keyHash P (Str.ofString "A_SYSTEM")) (Value.str (Str.ofString "A_SYSTEM") 242) (Value.int 25 241), DictEntry.mk (PyData.keyHash P (Str.ofString "F_DOT")) (Value.str (Str.ofString "F_DOT") 244) (Value.int 0 243), DictEntry.mk (PyData.keyHash P (Str.ofString "F_ERROR")) (Value.str (Str.ofString "F_ERROR") 246) (Value.int 16 245), DictEntry.mk (PyData.keyHash P (Str.ofString "fixed_atoms")) (Value.str (Str.ofString "fixed_atoms") 252) (Value.ref 60), DictEntry.mk (PyData.keyHash P (Str.ofString "fixed_functors")) (Value.str (Str.ofString "fixed_functors") 258) (Value.ref 67), DictEntry.mk (PyData.keyHash P (Str.ofString "Symbols")) (Value.str (Str.ofString "Symbols") 378) (Value.ref 154)] 18) #[]
noncomputable def o12v2 (P : Params) : Obj := Obj.mk Value.none Option.none (Data.fields #[Value.int 1 0, Value.int 0 0, Value.ref 20, Value.int 5 0, Value.int 0 0, Value.ref 27, Value.int 7 0, Value.int 0 0, Value.ref 40, Value.int 14 0, Value.int 0 0, Value.ref 59, Value.int 16 0, Value.int 0 0, Value.ref 66, Value.int 18 0, Value.int 0 0, Value.ref 73]) #[]
noncomputable def o68 (P : Params) : Obj := Obj.mk (Value.type "tuple") Option.none (Data.seq #[]) #[]
noncomputable def o69 (P : Params) : Obj := Obj.mk (Value.type "builtin_function_or_method") Option.none (Data.fields #[Value.builtin "type.__prepare__", Value.type "type"]) #[]
noncomputable def o70 (P : Params) : Obj := Obj.mk (Value.type "dict") Option.none (Data.dict #[DictEntry.mk (PyData.keyHash P (Str.ofString "__module__")) (Value.str (Str.ofString "__module__") 266) (Value.str (Str.ofString "clausemill.symbols") 194), DictEntry.mk (PyData.keyHash P (Str.ofString "__qualname__")) (Value.str (Str.ofString "__qualname__") 268) (Value.str (Str.ofString "Symbols") 267), DictEntry.mk (PyData.keyHash P (Str.ofString "__firstlineno__")) (Value.str (Str.ofString "__firstlineno__") 270) (Value.int 18 269), DictEntry.mk (PyData.keyHash P (Str.ofString "__init__")) (Value.str (Str.ofString "__init__") 279) (Value.ref 81), DictEntry.mk (PyData.keyHash P (Str.ofString "atom")) (Value.str (Str.ofString "atom") 289) (Value.ref 88), DictEntry.mk (PyData.keyHash P (Str.ofString "text")) (Value.str (Str.ofString "text") 297) (Value.ref 95), DictEntry.mk (PyData.keyHash P (Str.ofString "functor")) (Value.str (Str.ofString "functor") 309) (Value.ref 102), DictEntry.mk (PyData.keyHash P (Str.ofString "func")) (Value.str (Str.ofString "func") 318) (Value.ref 109), DictEntry.mk (PyData.keyHash P (Str.ofString "name")) (Value.str (Str.ofString "name") 326) (Value.ref 116), DictEntry.mk (PyData.keyHash P (Str.ofString "arity")) (Value.str (Str.ofString "arity") 334) (Value.ref 123), DictEntry.mk (PyData.keyHash P (Str.ofString "label")) (Value.str (Str.ofString "label") 342) (Value.ref 130), DictEntry.mk (PyData.keyHash P (Str.ofString "count")) (Value.str (Str.ofString "count") 349) (Value.ref 137), DictEntry.mk (PyData.keyHash P (Str.ofString "functor_count")) (Value.str (Str.ofString "functor_count") 356) (Value.ref 144), DictEntry.mk (PyData.keyHash P (Str.ofString "known")) (Value.str (Str.ofString "known") 366) (Value.ref 151), DictEntry.mk (PyData.keyHash P (Str.ofString "__static_attributes__")) (Value.str (Str.ofString "__static_attributes__") 371) (Value.ref 152)] 15) #[]
noncomputable def o71 (P : Params) : Obj := Obj.mk (Value.type "tuple") Option.none (Data.seq #[]) #[]
noncomputable def o72 (P : Params) : Obj := Obj.mk Value.none Option.none (Data.fields #[Value.int 20 0, Value.int 4 0, Value.ref 80, Value.int 30 0, Value.int 4 0, Value.ref 87, Value.int 39 0, Value.int 4 0, Value.ref 94, Value.int 42 0, Value.int 4 0, Value.ref 101, Value.int 52 0, Value.int 4 0, Value.ref 108, Value.int 55 0, Value.int 4 0, Value.ref 115, Value.int 58 0, Value.int 4 0, Value.ref 122, Value.int 61 0, Value.int 4 0, Value.ref 129, Value.int 64 0, Value.int 4 0, Value.ref 136, Value.int 67 0, Value.int 4 0, Value.ref 143, Value.int 70 0, Value.int 4 0, Value.ref 150]) #[]
noncomputable def o73 (P : Params) : Obj := Obj.mk (Value.type "code") Option.none (Data.fields #[Value.str (Str.ofString "Symbols") 261, Value.str (Str.ofString "Symbols") 262, Value.str (Str.ofString "/claim/cut.py") 263, Value.int 18 0, Value.int 0 0, Value.int 0 0, Value.int 0 0, Value.int 0 0, Value.ref 71, Value.bool Bool.false, Value.int 181 0, Value.ref 72, Value.none, Value.none, Value.none, Value.none, Value.int 264 0, Value.int 18 0, Value.str (Str.ofString "/claim/cut.py") 265]) #[]
noncomputable def o74 (P : Params) : Obj := Obj.mk (Value.type "frame") Option.none Data.plain #[Option.some (Value.ref 73), Option.some (Value.ref 3), Option.some (Value.ref 70), Option.none, Option.some (Value.str (Str.ofString "clausemill.symbols") 194), Option.none, Option.some (Value.ref 0)]
noncomputable def o75 (P : Params) : Obj := Obj.mk (Value.type "tuple") Option.none (Data.seq #[]) #[]
noncomputable def o76 (P : Params) : Obj := Obj.mk Value.none Option.none (Data.fields #[]) #[]
noncomputable def o77 (P : Params) : Obj := Obj.mk (Value.type "tuple") Option.none (Data.seq #[Value.str (Str.ofString "self") 274, Value.str (Str.ofString "text") 275, Value.str (Str.ofString "row") 276]) #[]
noncomputable def o78 (P : Params) : Obj := Obj.mk (Value.type "tuple") Option.none (Data.seq #[]) #[]
noncomputable def o79 (P : Params) : Obj := Obj.mk Value.none Option.none (Data.func (FuncData.mk (Str.ofString "__init__") (Str.ofString "Symbols.__init__") fa9x0 (FuncBody.stmts fb9x0) fs9x0 0 [] Value.none Value.none Value.none Value.none Option.none Value.none Value.none 0)) #[]
noncomputable def o80 (P : Params) : Obj := Obj.mk (Value.type "code") Option.none (Data.fields #[Value.str (Str.ofString "__init__") 271, Value.str (Str.ofString "Symbols.__init__") 272, Value.str (Str.ofString "/claim/cut.py") 273, Value.int 20 0, Value.int 1 0, Value.int 0 0, Value.int 0 0, Value.int 3 0, Value.ref 75, Value.bool Bool.true, Value.int 181 0, Value.ref 76, Value.none, Value.ref 77, Value.ref 78, Value.ref 79, Value.int 277 0, Value.int 20 0, Value.str (Str.ofString "/claim/cut.py") 278]) #[]
noncomputable def o81 (P : Params) : Obj := Obj.mk (Value.type "function") Option.none (Data.func (FuncData.mk (Str.ofString "__init__") (Str.ofString "Symbols.__init__") fa9x0 (FuncBody.stmts fb9x0) fs9x0 3 [] Value.none Value.none Value.none (Value.str (Str.ofString "clausemill.symbols") 194) Option.none (Value.ref 80) Value.none 0)) #[]
noncomputable def o82 (P : Params) : Obj := Obj.mk (Value.type "tuple") Option.none (Data.seq #[]) #[]
noncomputable def o83 (P : Params) : Obj := Obj.mk Value.none Option.none (Data.fields #[]) #[]
noncomputable def o84 (P : Params) : Obj := Obj.mk (Value.type "tuple") Option.none (Data.seq #[Value.str (Str.ofString "self") 283, Value.str (Str.ofString "text") 284, Value.str (Str.ofString "found") 285, Value.str (Str.ofString "number") 286]) #[]
noncomputable def o85 (P : Params) : Obj := Obj.mk (Value.type "tuple") Option.none (Data.seq #[]) #[]
noncomputable def o86 (P : Params) : Obj := Obj.mk Value.none Option.none (Data.func (FuncData.mk (Str.ofString "atom") (Str.ofString "Symbols.atom") fa9x1 (FuncBody.stmts fb9x1) fs9x1 0 [] Value.none Value.none Value.none Value.none Option.none Value.none Value.none 0)) #[]
noncomputable def o87 (P : Params) : Obj := Obj.mk (Value.type "code") Option.none (Data.fields #[Value.str (Str.ofString "atom") 280, Value.str (Str.ofString "Symbols.atom") 281, Value.str (Str.ofString "/claim/cut.py") 282, Value.int 30 0, Value.int 2 0, Value.int 0 0, Value.int 0 0, Value.int 3 0, Value.ref 82, Value.bool Bool.true, Value.int 181 0, Value.ref 83, Value.none, Value.ref 84, Value.ref 85, Value.ref 86, Value.int 287 0, Value.int 30 0, Value.str (Str.ofString "/claim/cut.py") 288]) #[]
noncomputable def o88 (P : Params) : Obj := Obj.mk (Value.type "function") Option.none (Data.func (FuncData.mk (Str.ofString "atom") (Str.ofString "Symbols.atom") fa9x1 (FuncBody.stmts fb9x1) fs9x1 3 [] Value.none Value.none Value.none (Value.str (Str.ofString "clausemill.symbols") 194) Option.none (Value.ref 87) Value.none 0)) #[]
noncomputable def o89 (P : Params) : Obj := Obj.mk (Value.type "tuple") Option.none (Data.seq #[]) #[]
noncomputable def o90 (P : Params) : Obj := Obj.mk Value.none Option.none (Data.fields #[]) #[]
noncomputable def o91 (P : Params) : Obj := Obj.mk (Value.type "tuple") Option.none (Data.seq #[Value.str (Str.ofString "self") 293, Value.str (Str.ofString "number") 294]) #[]
noncomputable def o92 (P : Params) : Obj := Obj.mk (Value.type "tuple") Option.none (Data.seq #[]) #[]
noncomputable def o93 (P : Params) : Obj := Obj.mk Value.none Option.none (Data.func (FuncData.mk (Str.ofString "text") (Str.ofString "Symbols.text") fa9x2 (FuncBody.stmts fb9x2) fs9x2 0 [] Value.none Value.none Value.none Value.none Option.none Value.none Value.none 0)) #[]
noncomputable def o94 (P : Params) : Obj := Obj.mk (Value.type "code") Option.none (Data.fields #[Value.str (Str.ofString "text") 290, Value.str (Str.ofString "Symbols.text") 291, Value.str (Str.ofString "/claim/cut.py") 292, Value.int 39 0, Value.int 2 0, Value.int 0 0, Value.int 0 0, Value.int 3 0, Value.ref 89, Value.bool Bool.true, Value.int 181 0, Value.ref 90, Value.none, Value.ref 91, Value.ref 92, Value.ref 93, Value.int 295 0, Value.int 39 0, Value.str (Str.ofString "/claim/cut.py") 296]) #[]
noncomputable def o95 (P : Params) : Obj := Obj.mk (Value.type "function") Option.none (Data.func (FuncData.mk (Str.ofString "text") (Str.ofString "Symbols.text") fa9x2 (FuncBody.stmts fb9x2) fs9x2 3 [] Value.none Value.none Value.none (Value.str (Str.ofString "clausemill.symbols") 194) Option.none (Value.ref 94) Value.none 0)) #[]
noncomputable def o96 (P : Params) : Obj := Obj.mk (Value.type "tuple") Option.none (Data.seq #[]) #[]
noncomputable def o97 (P : Params) : Obj := Obj.mk Value.none Option.none (Data.fields #[]) #[]
noncomputable def o98 (P : Params) : Obj := Obj.mk (Value.type "tuple") Option.none (Data.seq #[Value.str (Str.ofString "self") 301, Value.str (Str.ofString "atom") 302, Value.str (Str.ofString "arity") 303, Value.str (Str.ofString "key") 304, Value.str (Str.ofString "found") 305, Value.str (Str.ofString "number") 306]) #[]
noncomputable def o99 (P : Params) : Obj := Obj.mk (Value.type "tuple") Option.none (Data.seq #[]) #[]
noncomputable def o100 (P : Params) : Obj := Obj.mk Value.none Option.none (Data.func (FuncData.mk (Str.ofString "functor") (Str.ofString "Symbols.functor") fa9x3 (FuncBody.stmts fb9x3) fs9x3 0 [] Value.none Value.none Value.none Value.none Option.none Value.none Value.none 0)) #[]
noncomputable def o101 (P : Params) : Obj := Obj.mk (Value.type "code") Option.none (Data.fields #[Value.str (Str.ofString "functor") 298, Value.str (Str.ofString "Symbols.functor") 299, Value.str (Str.ofString "/claim/cut.py") 300, Value.int 42 0, Value.int 3 0, Value.int 0 0, Value.int 0 0, Value.int 3 0, Value.ref 96, Value.bool Bool.true, Value.int 181 0, Value.ref 97, Value.none, Value.ref 98, Value.ref 99, Value.ref 100, Value.int 307 0, Value.int 42 0, Value.str (Str.ofString "/claim/cut.py") 308]) #[]
noncomputable def o102 (P : Params) : Obj := Obj.mk (Value.type "function") Option.none (Data.func (FuncData.mk (Str.ofString "functor") (Str.ofString "Symbols.functor") fa9x3 (FuncBody.stmts fb9x3) fs9x3 3 [] Value.none Value.none Value.none (Value.str (Str.ofString "clausemill.symbols") 194) Option.none (Value.ref 101) Value.none 0)) #[]
noncomputable def o103 (P : Params) : Obj := Obj.mk (Value.type "tuple") Option.none (Data.seq #[]) #[]
noncomputable def o104 (P : Params) : Obj := Obj.mk Value.none Option.none (Data.fields #[]) #[]
noncomputable def o105 (P : Params) : Obj := Obj.mk (Value.type "tuple") Option.none (Data.seq #[Value.str (Str.ofString "self") 313, Value.str (Str.ofString "text") 314, Value.str (Str.ofString "arity") 315]) #[]
noncomputable def o106 (P : Params) : Obj := Obj.mk (Value.type "tuple") Option.none (Data.seq #[]) #[]
noncomputable def o107 (P : Params) : Obj := Obj.mk Value.none Option.none (Data.func (FuncData.mk (Str.ofString "func") (Str.ofString "Symbols.func") fa9x4 (FuncBody.stmts fb9x4) fs9x4 0 [] Value.none Value.none Value.none Value.none Option.none Value.none Value.none 0)) #[]
noncomputable def o108 (P : Params) : Obj := Obj.mk (Value.type "code") Option.none (Data.fields #[Value.str (Str.ofString "func") 310, Value.str (Str.ofString "Symbols.func") 311, Value.str (Str.ofString "/claim/cut.py") 312, Value.int 52 0, Value.int 3 0, Value.int 0 0, Value.int 0 0, Value.int 3 0, Value.ref 103, Value.bool Bool.true, Value.int 181 0, Value.ref 104, Value.none, Value.ref 105, Value.ref 106, Value.ref 107, Value.int 316 0, Value.int 52 0, Value.str (Str.ofString "/claim/cut.py") 317]) #[]
noncomputable def o109 (P : Params) : Obj := Obj.mk (Value.type "function") Option.none (Data.func (FuncData.mk (Str.ofString "func") (Str.ofString "Symbols.func") fa9x4 (FuncBody.stmts fb9x4) fs9x4 3 [] Value.none Value.none Value.none (Value.str (Str.ofString "clausemill.symbols") 194) Option.none (Value.ref 108) Value.none 0)) #[]
noncomputable def o110 (P : Params) : Obj := Obj.mk (Value.type "tuple") Option.none (Data.seq #[]) #[]
noncomputable def o111 (P : Params) : Obj := Obj.mk Value.none Option.none (Data.fields #[]) #[]
noncomputable def o112 (P : Params) : Obj := Obj.mk (Value.type "tuple") Option.none (Data.seq #[Value.str (Str.ofString "self") 322, Value.str (Str.ofString "functor") 323]) #[]
noncomputable def o113 (P : Params) : Obj := Obj.mk (Value.type "tuple") Option.none (Data.seq #[]) #[]
noncomputable def o114 (P : Params) : Obj := Obj.mk Value.none Option.none (Data.func (FuncData.mk (Str.ofString "name") (Str.ofString "Symbols.name") fa9x5 (FuncBody.stmts fb9x5) fs9x5 0 [] Value.none Value.none Value.none Value.none Option.none Value.none Value.none 0)) #[]
noncomputable def o115 (P : Params) : Obj := Obj.mk (Value.type "code") Option.none (Data.fields #[Value.str (Str.ofString "name") 319, Value.str (Str.ofString "Symbols.name") 320, Value.str (Str.ofString "/claim/cut.py") 321, Value.int 55 0, Value.int 2 0, Value.int 0 0, Value.int 0 0, Value.int 3 0, Value.ref 110, Value.bool Bool.true, Value.int 181 0, Value.ref 111, Value.none, Value.ref 112, Value.ref 113, Value.ref 114, Value.int 324 0, Value.int 55 0, Value.str (Str.ofString "/claim/cut.py") 325]) #[]
noncomputable def o116 (P : Params) : Obj := Obj.mk (Value.type "function") Option.none (Data.func (FuncData.mk (Str.ofString "name") (Str.ofString "Symbols.name") fa9x5 (FuncBody.stmts fb9x5) fs9x5 3 [] Value.none Value.none Value.none (Value.str (Str.ofString "clausemill.symbols") 194) Option.none (Value.ref 115) Value.none 0)) #[]
noncomputable def o117 (P : Params) : Obj := Obj.mk (Value.type "tuple") Option.none (Data.seq #[]) #[]
noncomputable def o118 (P : Params) : Obj := Obj.mk Value.none Option.none (Data.fields #[]) #[]
noncomputable def o119 (P : Params) : Obj := Obj.mk (Value.type "tuple") Option.none (Data.seq #[Value.str (Str.ofString "self") 330, Value.str (Str.ofString "functor") 331]) #[]
noncomputable def o120 (P : Params) : Obj := Obj.mk (Value.type "tuple") Option.none (Data.seq #[]) #[]
noncomputable def o121 (P : Params) : Obj := Obj.mk Value.none Option.none (Data.func (FuncData.mk (Str.ofString "arity") (Str.ofString "Symbols.arity") fa9x6 (FuncBody.stmts fb9x6) fs9x5 0 [] Value.none Value.none Value.none Value.none Option.none Value.none Value.none 0)) #[]
noncomputable def o122 (P : Params) : Obj := Obj.mk (Value.type "code") Option.none (Data.fields #[Value.str (Str.ofString "arity") 327, Value.str (Str.ofString "Symbols.arity") 328, Value.str (Str.ofString "/claim/cut.py") 329, Value.int 58 0, Value.int 2 0, Value.int 0 0, Value.int 0 0, Value.int 3 0, Value.ref 117, Value.bool Bool.true, Value.int 181 0, Value.ref 118, Value.none, Value.ref 119, Value.ref 120, Value.ref 121, Value.int 332 0, Value.int 58 0, Value.str (Str.ofString "/claim/cut.py") 333]) #[]
noncomputable def o123 (P : Params) : Obj := Obj.mk (Value.type "function") Option.none (Data.func (FuncData.mk (Str.ofString "arity") (Str.ofString "Symbols.arity") fa9x6 (FuncBody.stmts fb9x6) fs9x5 3 [] Value.none Value.none Value.none (Value.str (Str.ofString "clausemill.symbols") 194) Option.none (Value.ref 122) Value.none 0)) #[]
noncomputable def o124 (P : Params) : Obj := Obj.mk (Value.type "tuple") Option.none (Data.seq #[]) #[]
noncomputable def o125 (P : Params) : Obj := Obj.mk Value.none Option.none (Data.fields #[]) #[]
noncomputable def o126 (P : Params) : Obj := Obj.mk (Value.type "tuple") Option.none (Data.seq #[Value.str (Str.ofString "self") 338, Value.str (Str.ofString "functor") 339]) #[]
noncomputable def o127 (P : Params) : Obj := Obj.mk (Value.type "tuple") Option.none (Data.seq #[]) #[]
noncomputable def o128 (P : Params) : Obj := Obj.mk Value.none Option.none (Data.func (FuncData.mk (Str.ofString "label") (Str.ofString "Symbols.label") fa9x7 (FuncBody.stmts fb9x7) fs9x7 0 [] Value.none Value.none Value.none Value.none Option.none Value.none Value.none 0)) #[]
noncomputable def o129 (P : Params) : Obj := Obj.mk (Value.type "code") Option.none (Data.fields #[Value.str (Str.ofString "label") 335, Value.str (Str.ofString "Symbols.label") 336, Value.str (Str.ofString "/claim/cut.py") 337, Value.int 61 0, Value.int 2 0, Value.int 0 0, Value.int 0 0, Value.int 3 0, Value.ref 124, Value.bool Bool.true, Value.int 181 0, Value.ref 125, Value.none, Value.ref 126, Value.ref 127, Value.ref 128, Value.int 340 0, Value.int 61 0, Value.str (Str.ofString "/claim/cut.py") 341]) #[]
noncomputable def o130 (P : Params) : Obj := Obj.mk (Value.type "function") Option.none (Data.func (FuncData.mk (Str.ofString "label") (Str.ofString "Symbols.label") fa9x7 (FuncBody.stmts fb9x7) fs9x7 3 [] Value.none Value.none Value.none (Value.str (Str.ofString "clausemill.symbols") 194) Option.none (Value.ref 129) Value.none 0)) #[]
noncomputable def o131 (P : Params) : Obj := Obj.mk (Value.type "tuple") Option.none (Data.seq #[]) #[]
noncomputable def o132 (P : Params) : Obj := Obj.mk Value.none Option.none (Data.fields #[]) #[]
noncomputable def o133 (P : Params) : Obj := Obj.mk (Value.type "tuple") Option.none (Data.seq #[Value.str (Str.ofString "self") 346]) #[]
noncomputable def o134 (P : Params) : Obj := Obj.mk (Value.type "tuple") Option.none (Data.seq #[]) #[]
noncomputable def o135 (P : Params) : Obj := Obj.mk Value.none Option.none (Data.func (FuncData.mk (Str.ofString "count") (Str.ofString "Symbols.count") fa9x8 (FuncBody.stmts fb9x8) fs9x8 0 [] Value.none Value.none Value.none Value.none Option.none Value.none Value.none 0)) #[]
noncomputable def o136 (P : Params) : Obj := Obj.mk (Value.type "code") Option.none (Data.fields #[Value.str (Str.ofString "count") 343, Value.str (Str.ofString "Symbols.count") 344, Value.str (Str.ofString "/claim/cut.py") 345, Value.int 64 0, Value.int 1 0, Value.int 0 0, Value.int 0 0, Value.int 3 0, Value.ref 131, Value.bool Bool.true, Value.int 181 0, Value.ref 132, Value.none, Value.ref 133, Value.ref 134, Value.ref 135, Value.int 347 0, Value.int 64 0, Value.str (Str.ofString "/claim/cut.py") 348]) #[]
noncomputable def o137 (P : Params) : Obj := Obj.mk (Value.type "function") Option.none (Data.func (FuncData.mk (Str.ofString "count") (Str.ofString "Symbols.count") fa9x8 (FuncBody.stmts fb9x8) fs9x8 3 [] Value.none Value.none Value.none (Value.str (Str.ofString "clausemill.symbols") 194) Option.none (Value.ref 136) Value.none 0)) #[]
noncomputable def o138 (P : Params) : Obj := Obj.mk (Value.type "tuple") Option.none (Data.seq #[]) #[]
noncomputable def o139 (P : Params) : Obj := Obj.mk Value.none Option.none (Data.fields #[]) #[]
noncomputable def o140 (P : Params) : Obj := Obj.mk (Value.type "tuple") Option.none (Data.seq #[Value.str (Str.ofString "self") 353]) #[]
noncomputable def o141 (P : Params) : Obj := Obj.mk (Value.type "tuple") Option.none (Data.seq #[]) #[]
noncomputable def o142 (P : Params) : Obj := Obj.mk Value.none Option.none (Data.func (FuncData.mk (Str.ofString "functor_count") (Str.ofString "Symbols.functor_count") fa9x9 (FuncBody.stmts fb9x9) fs9x9 0 [] Value.none Value.none Value.none Value.none Option.none Value.none Value.none 0)) #[]
noncomputable def o143 (P : Params) : Obj := Obj.mk (Value.type "code") Option.none (Data.fields #[Value.str (Str.ofString "functor_count") 350, Value.str (Str.ofString "Symbols.functor_count") 351, Value.str (Str.ofString "/claim/cut.py") 352, Value.int 67 0, Value.int 1 0, Value.int 0 0, Value.int 0 0, Value.int 3 0, Value.ref 138, Value.bool Bool.true, Value.int 181 0, Value.ref 139, Value.none, Value.ref 140, Value.ref 141, Value.ref 142, Value.int 354 0, Value.int 67 0, Value.str (Str.ofString "/claim/cut.py") 355]) #[]
noncomputable def o144 (P : Params) : Obj := Obj.mk (Value.type "function") Option.none (Data.func (FuncData.mk (Str.ofString "functor_count") (Str.ofString "Symbols.functor_count") fa9x9 (FuncBody.stmts fb9x9) fs9x9 3 [] Value.none Value.none Value.none (Value.str (Str.ofString "clausemill.symbols") 194) Option.none (Value.ref 143) Value.none 0)) #[]
noncomputable def o145 (P : Params) : Obj := Obj.mk (Value.type "tuple") Option.none (Data.seq #[]) #[]
noncomputable def o146 (P : Params) : Obj := Obj.mk Value.none Option.none (Data.fields #[]) #[]
noncomputable def o147 (P : Params) : Obj := Obj.mk (Value.type "tuple") Option.none (Data.seq #[Value.str (Str.ofString "self") 360, Value.str (Str.ofString "text") 361, Value.str (Str.ofString "arity") 362, Value.str (Str.ofString "atom") 363]) #[]
noncomputable def o148 (P : Params) : Obj := Obj.mk (Value.type "tuple") Option.none (Data.seq #[]) #[]
noncomputable def o149 (P : Params) : Obj := Obj.mk Value.none Option.none (Data.func (FuncData.mk (Str.ofString "known") (Str.ofString "Symbols.known") fa9x10 (FuncBody.stmts fb9x10) fs9x10 0 [] Value.none Value.none Value.none Value.none Option.none Value.none Value.none 0)) #[]
noncomputable def o150 (P : Params) : Obj := Obj.mk (Value.type "code") Option.none (Data.fields #[Value.str (Str.ofString "known") 357, Value.str (Str.ofString "Symbols.known") 358, Value.str (Str.ofString "/claim/cut.py") 359, Value.int 70 0, Value.int 3 0, Value.int 0 0, Value.int 0 0, Value.int 3 0, Value.ref 145, Value.bool Bool.true, Value.int 181 0, Value.ref 146, Value.none, Value.ref 147, Value.ref 148, Value.ref 149, Value.int 364 0, Value.int 70 0, Value.str (Str.ofString "/claim/cut.py") 365]) #[]
noncomputable def o151 (P : Params) : Obj := Obj.mk (Value.type "function") Option.none (Data.func (FuncData.mk (Str.ofString "known") (Str.ofString "Symbols.known") fa9x10 (FuncBody.stmts fb9x10) fs9x10 3 [] Value.none Value.none Value.none (Value.str (Str.ofString "clausemill.symbols") 194) Option.none (Value.ref 150) Value.none 0)) #[]
noncomputable def o152 (P : Params) : Obj := Obj.mk (Value.type "tuple") Option.none (Data.seq #[Value.str (Str.ofString "atom_numbers") 367, Value.str (Str.ofString "functor_numbers") 368, Value.str (Str.ofString "functors") 369, Value.str (Str.ofString "texts") 370]) #[]
noncomputable def o153 (P : Params) : Obj := Obj.mk (Value.type "dict") Option.none (Data.dict #[DictEntry.mk (PyData.keyHash P (Str.ofString "__module__")) (Value.str (Str.ofString "__module__") 266) (Value.str (Str.ofString "clausemill.symbols") 194), DictEntry.mk (PyData.keyHash P (Str.ofString "__firstlineno__")) (Value.str (Str.ofString "__firstlineno__") 270) (Value.int 18 269), DictEntry.mk (PyData.keyHash P (Str.ofString "__init__")) (Value.str (Str.ofString "__init__") 279) (Value.ref 81), DictEntry.mk (PyData.keyHash P (Str.ofString "atom")) (Value.str (Str.ofString "atom") 289) (Value.ref 88), DictEntry.mk (PyData.keyHash P (Str.ofString "text")) (Value.str (Str.ofString "text") 297) (Value.ref 95), DictEntry.mk (PyData.keyHash P (Str.ofString "functor")) (Value.str (Str.ofString "functor") 309) (Value.ref 102), DictEntry.mk (PyData.keyHash P (Str.ofString "func")) (Value.str (Str.ofString "func") 318) (Value.ref 109), DictEntry.mk (PyData.keyHash P (Str.ofString "name")) (Value.str (Str.ofString "name") 326) (Value.ref 116), DictEntry.mk (PyData.keyHash P (Str.ofString "arity")) (Value.str (Str.ofString "arity") 334) (Value.ref 123), DictEntry.mk (PyData.keyHash P (Str.ofString "label")) (Value.str (Str.ofString "label") 342) (Value.ref 130), DictEntry.mk (PyData.keyHash P (Str.ofString "count")) (Value.str (Str.ofString "count") 349) (Value.ref 137), DictEntry.mk (PyData.keyHash P (Str.ofString "functor_count")) (Value.str (Str.ofString "functor_count") 356) (Value.ref 144), DictEntry.mk (PyData.keyHash P (Str.ofString "known")) (Value.str (Str.ofString "known") 366) (Value.ref 151), DictEntry.mk (PyData.keyHash P (Str.ofString "__static_attributes__")) (Value.str (Str.ofString "__static_attributes__") 371) (Value.ref 152), DictEntry.mk (PyData.keyHash P (Str.ofString "__dict__")) (Value.str (Str.ofString "__dict__") 373) (Value.ref 155), DictEntry.mk (PyData.keyHash P (Str.ofString "__weakref__")) (Value.str (Str.ofString "__weakref__") 375) (Value.ref 156), DictEntry.mk (PyData.keyHash P (Str.ofString "__doc__")) (Value.str (Str.ofString "__doc__") 376) Value.none] 4) #[]
noncomputable def o154 (P : Params) : Obj := Obj.mk (Value.type "type") Option.none (Data.cls (ClassData.mk (Str.ofString "Symbols") [Value.type "object"] [Value.ref 154, Value.type "object"] 153 (Str.ofString "Symbols") Bool.true [] [] Bool.false Option.none Bool.false)) #[Option.none, Option.none, Option.some (Value.str (Str.ofString "Symbols") 259), Option.some (Value.str (Str.ofString "Symbols") 267), Option.some (Value.builtin "object.__new__"), Option.some (Value.bool Bool.true)]
noncomputable def o155 (P : Params) : Obj := Obj.mk (Value.type "getset_descriptor") Option.none (Data.fields #[Value.str (Str.ofString "__dict__") 372, Value.ref 154, Value.builtin "function.__dict__", Value.builtin "function.__dict__#set"]) #[]
noncomputable def o156 (P : Params) : Obj := Obj.mk (Value.type "getset_descriptor") Option.none (Data.fields #[Value.str (Str.ofString "__weakref__") 374, Value.ref 154, Value.builtin "ExceptionGroup.__weakref__", Value.none]) #[]
noncomputable def o157 (P : Params) : Obj := Obj.mk (Value.type "super") Option.none (Data.fields #[Value.ref 154, Value.ref 154, Value.ref 154]) #[]
noncomputable def o158 (P : Params) : Obj := Obj.mk (Value.type "builtin_function_or_method") Option.none (Data.fields #[Value.builtin "object.__init_subclass__", Value.ref 154]) #[]
noncomputable def o3v2 (P : Params) : Obj := Obj.mk (Value.type "dict") Option.none (Data.dict #[DictEntry.mk (PyData.keyHash P (Str.ofString "__name__")) (Value.str (Str.ofString "__name__") 165) (Value.str (Str.ofString "clausemill.store") 407), DictEntry.mk (PyData.keyHash P (Str.ofString "__doc__")) (Value.str (Str.ofString "__doc__") 166) Value.none, DictEntry.mk (PyData.keyHash P (Str.ofString "__package__")) (Value.str (Str.ofString "__package__") 167) Value.none, DictEntry.mk (PyData.keyHash P (Str.ofString "__loader__")) (Value.str (Str.ofString "__loader__") 168) (Value.builtin "__main__.__loader__#opaque"), DictEntry.mk (PyData.keyHash P (Str.ofString "__spec__")) (Value.str (Str.ofString "__spec__") 169) Value.none, DictEntry.mk (PyData.keyHash P (Str.ofString "__annotations__")) (Value.str (Str.ofString "__annotations__") 170) (Value.ref 6), DictEntry.mk (PyData.keyHash P (Str.ofString "__builtins__")) (Value.str (Str.ofString "__builtins__") 171) (Value.ref 4), DictEntry.mk (PyData.keyHash P (Str.ofString "__file__")) (Value.str (Str.ofString "__file__") 173) (Value.str (Str.ofString "/claim/cut.py") 172), DictEntry.mk (PyData.keyHash P (Str.ofString "__cached__")) (Value.str (Str.ofString "__cached__") 174) Value.none, DictEntry.mk (PyData.keyHash P (Str.ofString "_wall")) (Value.str (Str.ofString "_wall") 193) (Value.ref 21), DictEntry.mk (PyData.keyHash P (Str.ofString "ClausemillError")) (Value.str (Str.ofString "ClausemillError") 215) (Value.ref 31), DictEntry.mk (PyData.keyHash P (Str.ofString "PrologError")) (Value.str (Str.ofString "PrologError") 240) (Value.ref 51), DictEntry.mk (PyData.keyHash P (Str.ofString "A_SYSTEM")) (Value.str (Str.ofString "A_SYSTEM") 242) (Value.int 25 241), DictEntry.mk (PyData.keyHash P (Str.ofString "F_DOT")) (Value.str (Str.ofString "F_DOT") 244) (Value.int 0 243), DictEntry.mk (PyData.keyHash P (Str.ofString "F_ERROR")) (Value.str (Str.ofString "F_ERROR") 246) (Value.int 16 245), DictEntry.mk (PyData.keyHash P (Str.ofString "fixed_atoms")) (Value.str (Str.ofString "fixed_atoms") 252) (Value.ref 60), DictEntry.mk (PyData.keyHash P (Str.ofString "fixed_functors")) (Value.str (Str.ofString "fixed_functors") 258) (Value.ref 67), DictEntry.mk (PyData.keyHash P (Str.ofString "Symbols")) (Value.str (Str.ofString "Symbols") 378) (Value.ref 154), DictEntry.mk (PyData.keyHash P (Str.ofString "system_error")) (Value.str (Str.ofString "system_error") 387) (Value.ref 165), DictEntry.mk (PyData.keyHash P (Str.ofString "formal_of")) (Value.str (Str.ofString "formal_of") 398) (Value.ref 172), DictEntry.mk (PyData.keyHash P (Str.ofString "resource_error")) (Value.str (Str.ofString "resource_error") 406) (Value.ref 179), DictEntry.mk (PyData.keyHash P (Str.ofString "REF")) (Value.str (Str.ofString "REF") 410) (Value.int 0 409), DictEntry.mk (PyData.keyHash P (Str.ofString "SRF")) (Value.str (Str.ofString "SRF") 412) (Value.int 1 411), DictEntry.mk (PyData.keyHash P (Str.ofString "STR")) (Value.str (Str.ofString "STR") 414) (Value.int 2 413), DictEntry.mk (PyData.keyHash P (Str.ofString "LIS")) (Value.str (Str.ofString "LIS") 416) (Value.int 3 415), DictEntry.mk (PyData.keyHash P (Str.ofString "CON")) (Value.str (Str.ofString "CON") 418) (Value.int 4 417), DictEntry.mk (PyData.keyHash P (Str.ofString "INT")) (Value.str (Str.ofString "INT") 420) (Value.int 5 419), DictEntry.mk (PyData.keyHash P (Str.ofString "FUN")) (Value.str (Str.ofString "FUN") 422) (Value.int 6 421), DictEntry.mk (PyData.keyHash P (Str.ofString "VOID")) (Value.str (Str.ofString "VOID") 424) (Value.ref 180), DictEntry.mk (PyData.keyHash P (Str.ofString "VISIT")) (Value.str (Str.ofString "VISIT") 426) (Value.int 0 425), DictEntry.mk (PyData.keyHash P (Str.ofString "BUILD")) (Value.str (Str.ofString "BUILD") 428) (Value.int 1 427)] 31) #[]
noncomputable def o12v3 (P : Params) : Obj := Obj.mk Value.none Option.none (Data.fields #[Value.int 1 0, Value.int 0 0, Value.ref 20, Value.int 5 0, Value.int 0 0, Value.ref 27, Value.int 7 0, Value.int 0 0, Value.ref 40, Value.int 14 0, Value.int 0 0, Value.ref 59, Value.int 16 0, Value.int 0 0, Value.ref 66, Value.int 18 0, Value.int 0 0, Value.ref 73, Value.int 76 0, Value.int 0 0, Value.ref 164, Value.int 78 0, Value.int 0 0, Value.ref 171, Value.int 83 0, Value.int 0 0, Value.ref 178]) #[]
noncomputable def o159 (P : Params) : Obj := Obj.mk (Value.type "tuple") Option.none (Data.seq #[]) #[]
noncomputable def o160 (P : Params) : Obj := Obj.mk Value.none Option.none (Data.fields #[]) #[]
noncomputable def o161 (P : Params) : Obj := Obj.mk (Value.type "tuple") Option.none (Data.seq #[Value.str (Str.ofString "formal") 384]) #[]
noncomputable def o162 (P : Params) : Obj := Obj.mk (Value.type "tuple") Option.none (Data.seq #[]) #[]
noncomputable def o163 (P : Params) : Obj := Obj.mk Value.none Option.none (Data.func (FuncData.mk (Str.ofString "system_error") (Str.ofString "system_error") fa11 (FuncBody.stmts fb11) fs11 0 [] Value.none Value.none Value.none Value.none Option.none Value.none Value.none 0)) #[]
noncomputable def o164 (P : Params) : Obj := Obj.mk (Value.type "code") Option.none (Data.fields #[Value.str (Str.ofString "system_error") 381, Value.str (Str.ofString "system_error") 382, Value.str (Str.ofString "/claim/cut.py") 383, Value.int 76 0, Value.int 1 0, Value.int 0 0, Value.int 0 0, Value.int 3 0, Value.ref 159, Value.bool Bool.true, Value.int 181 0, Value.ref 160, Value.none, Value.ref 161, Value.ref 162, Value.ref 163, Value.int 385 0, Value.int 76 0, Value.str (Str.ofString "/claim/cut.py") 386]) #[]
noncomputable def o165 (P : Params) : Obj := Obj.mk (Value.type "function") Option.none (Data.func (FuncData.mk (Str.ofString "system_error") (Str.ofString "system_error") fa11 (FuncBody.stmts fb11) fs11 3 [] Value.none Value.none Value.none (Value.str (Str.ofString "clausemill.terms") 379) Option.none (Value.ref 164) Value.none 0)) #[]
noncomputable def o166 (P : Params) : Obj := Obj.mk (Value.type "tuple") Option.none (Data.seq #[]) #[]
noncomputable def o167 (P : Params) : Obj := Obj.mk Value.none Option.none (Data.fields #[]) #[]
noncomputable def o168 (P : Params) : Obj := Obj.mk (Value.type "tuple") Option.none (Data.seq #[Value.str (Str.ofString "symbols") 391, Value.str (Str.ofString "name") 392, Value.str (Str.ofString "parts") 393, Value.str (Str.ofString "args") 394, Value.str (Str.ofString "part") 395]) #[]
noncomputable def o169 (P : Params) : Obj := Obj.mk (Value.type "tuple") Option.none (Data.seq #[]) #[]
noncomputable def o170 (P : Params) : Obj := Obj.mk Value.none Option.none (Data.func (FuncData.mk (Str.ofString "formal_of") (Str.ofString "formal_of") fa12 (FuncBody.stmts fb12) fs12 0 [] Value.none Value.none Value.none Value.none Option.none Value.none Value.none 0)) #[]
noncomputable def o171 (P : Params) : Obj := Obj.mk (Value.type "code") Option.none (Data.fields #[Value.str (Str.ofString "formal_of") 388, Value.str (Str.ofString "formal_of") 389, Value.str (Str.ofString "/claim/cut.py") 390, Value.int 78 0, Value.int 3 0, Value.int 0 0, Value.int 0 0, Value.int 3 0, Value.ref 166, Value.bool Bool.true, Value.int 181 0, Value.ref 167, Value.none, Value.ref 168, Value.ref 169, Value.ref 170, Value.int 396 0, Value.int 78 0, Value.str (Str.ofString "/claim/cut.py") 397]) #[]
noncomputable def o172 (P : Params) : Obj := Obj.mk (Value.type "function") Option.none (Data.func (FuncData.mk (Str.ofString "formal_of") (Str.ofString "formal_of") fa12 (FuncBody.stmts fb12) fs12 3 [] Value.none Value.none Value.none (Value.str (Str.ofString "clausemill.terms") 379) Option.none (Value.ref 171) Value.none 0)) #[]
noncomputable def o173 (P : Params) : Obj := Obj.mk (Value.type "tuple") Option.none (Data.seq #[]) #[]
noncomputable def o174 (P : Params) : Obj := Obj.mk Value.none Option.none (Data.fields #[]) #[]
noncomputable def o175 (P : Params) : Obj := Obj.mk (Value.type "tuple") Option.none (Data.seq #[Value.str (Str.ofString "symbols") 402, Value.str (Str.ofString "what") 403]) #[]
noncomputable def o176 (P : Params) : Obj := Obj.mk (Value.type "tuple") Option.none (Data.seq #[]) #[]
noncomputable def o177 (P : Params) : Obj := Obj.mk Value.none Option.none (Data.func (FuncData.mk (Str.ofString "resource_error") (Str.ofString "resource_error") fa13 (FuncBody.stmts fb13) fs13 0 [] Value.none Value.none Value.none Value.none Option.none Value.none Value.none 0)) #[]
noncomputable def o178 (P : Params) : Obj := Obj.mk (Value.type "code") Option.none (Data.fields #[Value.str (Str.ofString "resource_error") 399, Value.str (Str.ofString "resource_error") 400, Value.str (Str.ofString "/claim/cut.py") 401, Value.int 83 0, Value.int 2 0, Value.int 0 0, Value.int 0 0, Value.int 3 0, Value.ref 173, Value.bool Bool.true, Value.int 181 0, Value.ref 174, Value.none, Value.ref 175, Value.ref 176, Value.ref 177, Value.int 404 0, Value.int 83 0, Value.str (Str.ofString "/claim/cut.py") 405]) #[]
noncomputable def o179 (P : Params) : Obj := Obj.mk (Value.type "function") Option.none (Data.func (FuncData.mk (Str.ofString "resource_error") (Str.ofString "resource_error") fa13 (FuncBody.stmts fb13) fs13 3 [] Value.none Value.none Value.none (Value.str (Str.ofString "clausemill.terms") 379) Option.none (Value.ref 178) Value.none 0)) #[]
noncomputable def o180 (P : Params) : Obj := Obj.mk (Value.type "tuple") Option.none (Data.seq #[Value.int 5 419, Value.int 0 423]) #[]
noncomputable def o3v3 (P : Params) : Obj := Obj.mk (Value.type "dict") Option.none (Data.dict #[DictEntry.mk (PyData.keyHash P (Str.ofString "__name__")) (Value.str (Str.ofString "__name__") 165) (Value.str (Str.ofString "clausemill.store") 407), DictEntry.mk (PyData.keyHash P (Str.ofString "__doc__")) (Value.str (Str.ofString "__doc__") 166) Value.none, DictEntry.mk (PyData.keyHash P (Str.ofString "__package__")) (Value.str (Str.ofString "__package__") 167) Value.none, DictEntry.mk (PyData.keyHash P (Str.ofString "__loader__")) (Value.str (Str.ofString "__loader__") 168) (Value.builtin "__main__.__loader__#opaque"), DictEntry.mk (PyData.keyHash P (Str.ofString "__spec__")) (Value.str (Str.ofString "__spec__") 169) Value.none, DictEntry.mk (PyData.keyHash P (Str.ofString "__annotations__")) (Value.str (Str.ofString "__annotations__") 170) (Value.ref 6), DictEntry.mk (PyData.keyHash P (Str.ofString "__builtins__")) (Value.str (Str.ofString "__builtins__") 171) (Value.ref 4), DictEntry.mk (PyData.keyHash P (Str.ofString "__file__")) (Value.str (Str.ofString "__file__") 173) (Value.str (Str.ofString "/claim/cut.py") 172), DictEntry.mk (PyData.keyHash P (Str.ofString "__cached__")) (Value.str (Str.ofString "__cached__") 174) Value.none, DictEntry.mk (PyData.keyHash P (Str.ofString "_wall")) (Value.str (Str.ofString "_wall") 193) (Value.ref 21), DictEntry.mk (PyData.keyHash P (Str.ofString "ClausemillError")) (Value.str (Str.ofString "ClausemillError") 215) (Value.ref 31), DictEntry.mk (PyData.keyHash P (Str.ofString "PrologError")) (Value.str (Str.ofString "PrologError") 240) (Value.ref 51), DictEntry.mk (PyData.keyHash P (Str.ofString "A_SYSTEM")) (Value.str (Str.ofString "A_SYSTEM") 242) (Value.int 25 241), DictEntry.mk (PyData.keyHash P (Str.ofString "F_DOT")) (Value.str (Str.ofString "F_DOT") 244) (Value.int 0 243), DictEntry.mk (PyData.keyHash P (Str.ofString "F_ERROR")) (Value.str (Str.ofString "F_ERROR") 246) (Value.int 16 245), DictEntry.mk (PyData.keyHash P (Str.ofString "fixed_atoms")) (Value.str (Str.ofString "fixed_atoms") 252) (Value.ref 60), DictEntry.mk (PyData.keyHash P (Str.ofString "fixed_functors")) (Value.str (Str.ofString "fixed_functors") 258) (Value.ref 67), DictEntry.mk (PyData.keyHash P (Str.ofString "Symbols")) (Value.str (Str.ofString "Symbols") 378) (Value.ref 154), DictEntry.mk (PyData.keyHash P (Str.ofString "system_error")) (Value.str (Str.ofString "system_error") 387) (Value.ref 165), DictEntry.mk (PyData.keyHash P (Str.ofString "formal_of")) (Value.str (Str.ofString "formal_of") 398) (Value.ref 172), DictEntry.mk (PyData.keyHash P (Str.ofString "resource_error")) (Value.str (Str.ofString "resource_error") 406) (Value.ref 179), DictEntry.mk (PyData.keyHash P (Str.ofString "REF")) (Value.str (Str.ofString "REF") 410) (Value.int 0 409), DictEntry.mk (PyData.keyHash P (Str.ofString "SRF")) (Value.str (Str.ofString "SRF") 412) (Value.int 1 411), DictEntry.mk (PyData.keyHash P (Str.ofString "STR")) (Value.str (Str.ofString "STR") 414) (Value.int 2 413), DictEntry.mk (PyData.keyHash P (Str.ofString "LIS")) (Value.str (Str.ofString "LIS") 416) (Value.int 3 415), DictEntry.mk (PyData.keyHash P (Str.ofString "CON")) (Value.str (Str.ofString "CON") 418) (Value.int 4 417), DictEntry.mk (PyData.keyHash P (Str.ofString "INT")) (Value.str (Str.ofString "INT") 420) (Value.int 5 419), DictEntry.mk (PyData.keyHash P (Str.ofString "FUN")) (Value.str (Str.ofString "FUN") 422) (Value.int 6 421), DictEntry.mk (PyData.keyHash P (Str.ofString "VOID")) (Value.str (Str.ofString "VOID") 424) (Value.ref 180), DictEntry.mk (PyData.keyHash P (Str.ofString "VISIT")) (Value.str (Str.ofString "VISIT") 426) (Value.int 0 425), DictEntry.mk (PyData.keyHash P (Str.ofString "BUILD")) (Value.str (Str.ofString "BUILD") 428) (Value.int 1 427), DictEntry.mk (PyData.keyHash P (Str.ofString "Cells")) (Value.str (Str.ofString "Cells") 622) (Value.ref 324)] 32) #[]
noncomputable def o12v4 (P : Params) : Obj := Obj.mk Value.none Option.none (Data.fields #[Value.int 1 0, Value.int 0 0, Value.ref 20, Value.int 5 0, Value.int 0 0, Value.ref 27, Value.int 7 0, Value.int 0 0, Value.ref 40, Value.int 14 0, Value.int 0 0, Value.ref 59, Value.int 16 0, Value.int 0 0, Value.ref 66, Value.int 18 0, Value.int 0 0, Value.ref 73, Value.int 76 0, Value.int 0 0, Value.ref 164, Value.int 78 0, Value.int 0 0, Value.ref 171, Value.int 83 0, Value.int 0 0, Value.ref 178, Value.int 96 0, Value.int 0 0, Value.ref 186]) #[]
noncomputable def o181 (P : Params) : Obj := Obj.mk (Value.type "tuple") Option.none (Data.seq #[]) #[]
noncomputable def o182 (P : Params) : Obj := Obj.mk (Value.type "builtin_function_or_method") Option.none (Data.fields #[Value.builtin "type.__prepare__", Value.type "type"]) #[]
noncomputable def o183 (P : Params) : Obj := Obj.mk (Value.type "dict") Option.none (Data.dict #[DictEntry.mk (PyData.keyHash P (Str.ofString "__module__")) (Value.str (Str.ofString "__module__") 436) (Value.str (Str.ofString "clausemill.store") 407), DictEntry.mk (PyData.keyHash P (Str.ofString "__qualname__")) (Value.str (Str.ofString "__qualname__") 438) (Value.str (Str.ofString "Cells") 437), DictEntry.mk (PyData.keyHash P (Str.ofString "__firstlineno__")) (Value.str (Str.ofString "__firstlineno__") 440) (Value.int 96 439), DictEntry.mk (PyData.keyHash P (Str.ofString "__init__")) (Value.str (Str.ofString "__init__") 450) (Value.ref 195), DictEntry.mk (PyData.keyHash P (Str.ofString "push")) (Value.str (Str.ofString "push") 459) (Value.ref 202), DictEntry.mk (PyData.keyHash P (Str.ofString "new_var")) (Value.str (Str.ofString "new_var") 467) (Value.ref 209), DictEntry.mk (PyData.keyHash P (Str.ofString "reserve")) (Value.str (Str.ofString "reserve") 477) (Value.ref 216), DictEntry.mk (PyData.keyHash P (Str.ofString "trim")) (Value.str (Str.ofString "trim") 485) (Value.ref 223), DictEntry.mk (PyData.keyHash P (Str.ofString "deref")) (Value.str (Str.ofString "deref") 495) (Value.ref 230), DictEntry.mk (PyData.keyHash P (Str.ofString "is_unbound")) (Value.str (Str.ofString "is_unbound") 503) (Value.ref 237), DictEntry.mk (PyData.keyHash P (Str.ofString "bind")) (Value.str (Str.ofString "bind") 513) (Value.ref 244), DictEntry.mk (PyData.keyHash P (Str.ofString "bind_pair")) (Value.str (Str.ofString "bind_pair") 522) (Value.ref 251), DictEntry.mk (PyData.keyHash P (Str.ofString "globalise")) (Value.str (Str.ofString "globalise") 531) (Value.ref 258), DictEntry.mk (PyData.keyHash P (Str.ofString "mark")) (Value.str (Str.ofString "mark") 538) (Value.ref 265), DictEntry.mk (PyData.keyHash P (Str.ofString "undo_to")) (Value.str (Str.ofString "undo_to") 546) (Value.ref 272), DictEntry.mk (PyData.keyHash P (Str.ofString "stack_put")) (Value.str (Str.ofString "stack_put") 555) (Value.ref 279), DictEntry.mk (PyData.keyHash P (Str.ofString "is_compound")) (Value.str (Str.ofString "is_compound") 563) (Value.ref 286), DictEntry.mk (PyData.keyHash P (Str.ofString "functor_of")) (Value.str (Str.ofString "functor_of") 572) (Value.ref 293), DictEntry.mk (PyData.keyHash P (Str.ofString "width")) (Value.str (Str.ofString "width") 581) (Value.ref 300), DictEntry.mk (PyData.keyHash P (Str.ofString "base")) (Value.str (Str.ofString "base") 589) (Value.ref 307), DictEntry.mk (PyData.keyHash P (Str.ofString "arg")) (Value.str (Str.ofString "arg") 598) (Value.ref 314), DictEntry.mk (PyData.keyHash P (Str.ofString "new_block")) (Value.str (Str.ofString "new_block") 607) (Value.ref 321), DictEntry.mk (PyData.keyHash P (Str.ofString "__static_attributes__")) (Value.str (Str.ofString "__static_attributes__") 615) (Value.ref 322)] 23) #[]
noncomputable def o184 (P : Params) : Obj := Obj.mk (Value.type "tuple") Option.none (Data.seq #[]) #[]
noncomputable def o185 (P : Params) : Obj := Obj.mk Value.none Option.none (Data.fields #[Value.int 98 0, Value.int 4 0, Value.ref 194, Value.int 107 0, Value.int 4 0, Value.ref 201, Value.int 114 0, Value.int 4 0, Value.ref 208, Value.int 119 0, Value.int 4 0, Value.ref 215, Value.int 127 0, Value.int 4 0, Value.ref 222, Value.int 130 0, Value.int 4 0, Value.ref 229, Value.int 143 0, Value.int 4 0, Value.ref 236, Value.int 146 0, Value.int 4 0, Value.ref 243, Value.int 157 0, Value.int 4 0, Value.ref 250, Value.int 160 0, Value.int 4 0, Value.ref 257, Value.int 168 0, Value.int 4 0, Value.ref 264, Value.int 171 0, Value.int 4 0, Value.ref 271, Value.int 174 0, Value.int 4 0, Value.ref 278, Value.int 177 0, Value.int 4 0, Value.ref 285, Value.int 180 0, Value.int 4 0, Value.ref 292, Value.int 190 0, Value.int 4 0, Value.ref 299, Value.int 198 0, Value.int 4 0, Value.ref 306, Value.int 203 0, Value.int 4 0, Value.ref 313, Value.int 206 0, Value.int 4 0, Value.ref 320]) #[]
noncomputable def o186 (P : Params) : Obj := Obj.mk (Value.type "code") Option.none (Data.fields #[Value.str (Str.ofString "Cells") 431, Value.str (Str.ofString "Cells") 432, Value.str (Str.ofString "/claim/cut.py") 433, Value.int 96 0, Value.int 0 0, Value.int 0 0, Value.int 0 0, Value.int 0 0, Value.ref 184, Value.bool Bool.false, Value.int 181 0, Value.ref 185, Value.none, Value.none, Value.none, Value.none, Value.int 434 0, Value.int 96 0, Value.str (Str.ofString "/claim/cut.py") 435]) #[]
noncomputable def o187 (P : Params) : Obj := Obj.mk (Value.type "frame") Option.none Data.plain #[Option.some (Value.ref 186), Option.some (Value.ref 3), Option.some (Value.ref 183), Option.none, Option.some (Value.str (Str.ofString "clausemill.store") 407), Option.none, Option.some (Value.ref 0)]
noncomputable def o188 (P : Params) : Obj := Obj.mk (Value.type "tuple") Option.none (Data.seq #[Value.int 100000 441]) #[]
noncomputable def o189 (P : Params) : Obj := Obj.mk (Value.type "tuple") Option.none (Data.seq #[]) #[]
noncomputable def o190 (P : Params) : Obj := Obj.mk Value.none Option.none (Data.fields #[]) #[]
noncomputable def o191 (P : Params) : Obj := Obj.mk (Value.type "tuple") Option.none (Data.seq #[Value.str (Str.ofString "self") 445, Value.str (Str.ofString "symbols") 446, Value.str (Str.ofString "max_heap") 447]) #[]
noncomputable def o192 (P : Params) : Obj := Obj.mk (Value.type "tuple") Option.none (Data.seq #[]) #[]
noncomputable def o193 (P : Params) : Obj := Obj.mk Value.none Option.none (Data.func (FuncData.mk (Str.ofString "__init__") (Str.ofString "Cells.__init__") fa25x0 (FuncBody.stmts fb25x0) fs25x0 0 [] Value.none Value.none Value.none Value.none Option.none Value.none Value.none 0)) #[]
noncomputable def o194 (P : Params) : Obj := Obj.mk (Value.type "code") Option.none (Data.fields #[Value.str (Str.ofString "__init__") 442, Value.str (Str.ofString "Cells.__init__") 443, Value.str (Str.ofString "/claim/cut.py") 444, Value.int 98 0, Value.int 3 0, Value.int 0 0, Value.int 0 0, Value.int 3 0, Value.ref 189, Value.bool Bool.true, Value.int 181 0, Value.ref 190, Value.none, Value.ref 191, Value.ref 192, Value.ref 193, Value.int 448 0, Value.int 98 0, Value.str (Str.ofString "/claim/cut.py") 449]) #[]
noncomputable def o195 (P : Params) : Obj := Obj.mk (Value.type "function") Option.none (Data.func (FuncData.mk (Str.ofString "__init__") (Str.ofString "Cells.__init__") fa25x0 (FuncBody.stmts fb25x0) fs25x0 3 [] (Value.ref 188) Value.none Value.none (Value.str (Str.ofString "clausemill.store") 407) Option.none (Value.ref 194) Value.none 0)) #[]
noncomputable def o196 (P : Params) : Obj := Obj.mk (Value.type "tuple") Option.none (Data.seq #[]) #[]
noncomputable def o197 (P : Params) : Obj := Obj.mk Value.none Option.none (Data.fields #[]) #[]
noncomputable def o198 (P : Params) : Obj := Obj.mk (Value.type "tuple") Option.none (Data.seq #[Value.str (Str.ofString "self") 454, Value.str (Str.ofString "cell") 455, Value.str (Str.ofString "address") 456]) #[]
noncomputable def o199 (P : Params) : Obj := Obj.mk (Value.type "tuple") Option.none (Data.seq #[]) #[]
noncomputable def o200 (P : Params) : Obj := Obj.mk Value.none Option.none (Data.func (FuncData.mk (Str.ofString "push") (Str.ofString "Cells.push") fa25x1 (FuncBody.stmts fb25x1) fs25x1 0 [] Value.none Value.none Value.none Value.none Option.none Value.none Value.none 0)) #[]
noncomputable def o201 (P : Params) : Obj := Obj.mk (Value.type "code") Option.none (Data.fields #[Value.str (Str.ofString "push") 451, Value.str (Str.ofString "Cells.push") 452, Value.str (Str.ofString "/claim/cut.py") 453, Value.int 107 0, Value.int 2 0, Value.int 0 0, Value.int 0 0, Value.int 3 0, Value.ref 196, Value.bool Bool.true, Value.int 181 0, Value.ref 197, Value.none, Value.ref 198, Value.ref 199, Value.ref 200, Value.int 457 0, Value.int 107 0, Value.str (Str.ofString "/claim/cut.py") 458]) #[]
noncomputable def o202 (P : Params) : Obj := Obj.mk (Value.type "function") Option.none (Data.func (FuncData.mk (Str.ofString "push") (Str.ofString "Cells.push") fa25x1 (FuncBody.stmts fb25x1) fs25x1 3 [] Value.none Value.none Value.none (Value.str (Str.ofString "clausemill.store") 407) Option.none (Value.ref 201) Value.none 0)) #[]
noncomputable def o203 (P : Params) : Obj := Obj.mk (Value.type "tuple") Option.none (Data.seq #[]) #[]
noncomputable def o204 (P : Params) : Obj := Obj.mk Value.none Option.none (Data.fields #[]) #[]
noncomputable def o205 (P : Params) : Obj := Obj.mk (Value.type "tuple") Option.none (Data.seq #[Value.str (Str.ofString "self") 463, Value.str (Str.ofString "cell") 464]) #[]
noncomputable def o206 (P : Params) : Obj := Obj.mk (Value.type "tuple") Option.none (Data.seq #[]) #[]
noncomputable def o207 (P : Params) : Obj := Obj.mk Value.none Option.none (Data.func (FuncData.mk (Str.ofString "new_var") (Str.ofString "Cells.new_var") fa25x2 (FuncBody.stmts fb25x2) fs25x2 0 [] Value.none Value.none Value.none Value.none Option.none Value.none Value.none 0)) #[]
noncomputable def o208 (P : Params) : Obj := Obj.mk (Value.type "code") Option.none (Data.fields #[Value.str (Str.ofString "new_var") 460, Value.str (Str.ofString "Cells.new_var") 461, Value.str (Str.ofString "/claim/cut.py") 462, Value.int 114 0, Value.int 1 0, Value.int 0 0, Value.int 0 0, Value.int 3 0, Value.ref 203, Value.bool Bool.true, Value.int 181 0, Value.ref 204, Value.none, Value.ref 205, Value.ref 206, Value.ref 207, Value.int 465 0, Value.int 114 0, Value.str (Str.ofString "/claim/cut.py") 466]) #[]
noncomputable def o209 (P : Params) : Obj := Obj.mk (Value.type "function") Option.none (Data.func (FuncData.mk (Str.ofString "new_var") (Str.ofString "Cells.new_var") fa25x2 (FuncBody.stmts fb25x2) fs25x2 3 [] Value.none Value.none Value.none (Value.str (Str.ofString "clausemill.store") 407) Option.none (Value.ref 208) Value.none 0)) #[]
noncomputable def o210 (P : Params) : Obj := Obj.mk (Value.type "tuple") Option.none (Data.seq #[]) #[]
noncomputable def o211 (P : Params) : Obj := Obj.mk Value.none Option.none (Data.fields #[]) #[]
noncomputable def o212 (P : Params) : Obj := Obj.mk (Value.type "tuple") Option.none (Data.seq #[Value.str (Str.ofString "self") 471, Value.str (Str.ofString "count") 472, Value.str (Str.ofString "first") 473, Value.str (Str.ofString "step") 474]) #[]
noncomputable def o213 (P : Params) : Obj := Obj.mk (Value.type "tuple") Option.none (Data.seq #[]) #[]
noncomputable def o214 (P : Params) : Obj := Obj.mk Value.none Option.none (Data.func (FuncData.mk (Str.ofString "reserve") (Str.ofString "Cells.reserve") fa25x3 (FuncBody.stmts fb25x3) fs25x3 0 [] Value.none Value.none Value.none Value.none Option.none Value.none Value.none 0)) #[]
noncomputable def o215 (P : Params) : Obj := Obj.mk (Value.type "code") Option.none (Data.fields #[Value.str (Str.ofString "reserve") 468, Value.str (Str.ofString "Cells.reserve") 469, Value.str (Str.ofString "/claim/cut.py") 470, Value.int 119 0, Value.int 2 0, Value.int 0 0, Value.int 0 0, Value.int 3 0, Value.ref 210, Value.bool Bool.true, Value.int 181 0, Value.ref 211, Value.none, Value.ref 212, Value.ref 213, Value.ref 214, Value.int 475 0, Value.int 119 0, Value.str (Str.ofString "/claim/cut.py") 476]) #[]
noncomputable def o216 (P : Params) : Obj := Obj.mk (Value.type "function") Option.none (Data.func (FuncData.mk (Str.ofString "reserve") (Str.ofString "Cells.reserve") fa25x3 (FuncBody.stmts fb25x3) fs25x3 3 [] Value.none Value.none Value.none (Value.str (Str.ofString "clausemill.store") 407) Option.none (Value.ref 215) Value.none 0)) #[]
noncomputable def o217 (P : Params) : Obj := Obj.mk (Value.type "tuple") Option.none (Data.seq #[]) #[]
noncomputable def o218 (P : Params) : Obj := Obj.mk Value.none Option.none (Data.fields #[]) #[]
noncomputable def o219 (P : Params) : Obj := Obj.mk (Value.type "tuple") Option.none (Data.seq #[Value.str (Str.ofString "self") 481, Value.str (Str.ofString "h") 482]) #[]
noncomputable def o220 (P : Params) : Obj := Obj.mk (Value.type "tuple") Option.none (Data.seq #[]) #[]
noncomputable def o221 (P : Params) : Obj := Obj.mk Value.none Option.none (Data.func (FuncData.mk (Str.ofString "trim") (Str.ofString "Cells.trim") fa25x4 (FuncBody.stmts fb25x4) fs25x4 0 [] Value.none Value.none Value.none Value.none Option.none Value.none Value.none 0)) #[]
noncomputable def o222 (P : Params) : Obj := Obj.mk (Value.type "code") Option.none (Data.fields #[Value.str (Str.ofString "trim") 478, Value.str (Str.ofString "Cells.trim") 479, Value.str (Str.ofString "/claim/cut.py") 480, Value.int 127 0, Value.int 2 0, Value.int 0 0, Value.int 0 0, Value.int 3 0, Value.ref 217, Value.bool Bool.true, Value.int 181 0, Value.ref 218, Value.none, Value.ref 219, Value.ref 220, Value.ref 221, Value.int 483 0, Value.int 127 0, Value.str (Str.ofString "/claim/cut.py") 484]) #[]
noncomputable def o223 (P : Params) : Obj := Obj.mk (Value.type "function") Option.none (Data.func (FuncData.mk (Str.ofString "trim") (Str.ofString "Cells.trim") fa25x4 (FuncBody.stmts fb25x4) fs25x4 3 [] Value.none Value.none Value.none (Value.str (Str.ofString "clausemill.store") 407) Option.none (Value.ref 222) Value.none 0)) #[]
noncomputable def o224 (P : Params) : Obj := Obj.mk (Value.type "tuple") Option.none (Data.seq #[]) #[]
noncomputable def o225 (P : Params) : Obj := Obj.mk Value.none Option.none (Data.fields #[]) #[]
noncomputable def o226 (P : Params) : Obj := Obj.mk (Value.type "tuple") Option.none (Data.seq #[Value.str (Str.ofString "self") 489, Value.str (Str.ofString "cell") 490, Value.str (Str.ofString "tag") 491, Value.str (Str.ofString "found") 492]) #[]
noncomputable def o227 (P : Params) : Obj := Obj.mk (Value.type "tuple") Option.none (Data.seq #[]) #[]
noncomputable def o228 (P : Params) : Obj := Obj.mk Value.none Option.none (Data.func (FuncData.mk (Str.ofString "deref") (Str.ofString "Cells.deref") fa25x5 (FuncBody.stmts fb25x5) fs25x5 0 [] Value.none Value.none Value.none Value.none Option.none Value.none Value.none 0)) #[]
noncomputable def o229 (P : Params) : Obj := Obj.mk (Value.type "code") Option.none (Data.fields #[Value.str (Str.ofString "deref") 486, Value.str (Str.ofString "Cells.deref") 487, Value.str (Str.ofString "/claim/cut.py") 488, Value.int 130 0, Value.int 2 0, Value.int 0 0, Value.int 0 0, Value.int 3 0, Value.ref 224, Value.bool Bool.true, Value.int 181 0, Value.ref 225, Value.none, Value.ref 226, Value.ref 227, Value.ref 228, Value.int 493 0, Value.int 130 0, Value.str (Str.ofString "/claim/cut.py") 494]) #[]
noncomputable def o230 (P : Params) : Obj := Obj.mk (Value.type "function") Option.none (Data.func (FuncData.mk (Str.ofString "deref") (Str.ofString "Cells.deref") fa25x5 (FuncBody.stmts fb25x5) fs25x5 3 [] Value.none Value.none Value.none (Value.str (Str.ofString "clausemill.store") 407) Option.none (Value.ref 229) Value.none 0)) #[]
noncomputable def o231 (P : Params) : Obj := Obj.mk (Value.type "tuple") Option.none (Data.seq #[]) #[]
noncomputable def o232 (P : Params) : Obj := Obj.mk Value.none Option.none (Data.fields #[]) #[]
noncomputable def o233 (P : Params) : Obj := Obj.mk (Value.type "tuple") Option.none (Data.seq #[Value.str (Str.ofString "self") 499, Value.str (Str.ofString "cell") 500]) #[]
noncomputable def o234 (P : Params) : Obj := Obj.mk (Value.type "tuple") Option.none (Data.seq #[]) #[]
noncomputable def o235 (P : Params) : Obj := Obj.mk Value.none Option.none (Data.func (FuncData.mk (Str.ofString "is_unbound") (Str.ofString "Cells.is_unbound") fa25x6 (FuncBody.stmts fb25x6) fs25x6 0 [] Value.none Value.none Value.none Value.none Option.none Value.none Value.none 0)) #[]
noncomputable def o236 (P : Params) : Obj := Obj.mk (Value.type "code") Option.none (Data.fields #[Value.str (Str.ofString "is_unbound") 496, Value.str (Str.ofString "Cells.is_unbound") 497, Value.str (Str.ofString "/claim/cut.py") 498, Value.int 143 0, Value.int 2 0, Value.int 0 0, Value.int 0 0, Value.int 3 0, Value.ref 231, Value.bool Bool.true, Value.int 181 0, Value.ref 232, Value.none, Value.ref 233, Value.ref 234, Value.ref 235, Value.int 501 0, Value.int 143 0, Value.str (Str.ofString "/claim/cut.py") 502]) #[]
noncomputable def o237 (P : Params) : Obj := Obj.mk (Value.type "function") Option.none (Data.func (FuncData.mk (Str.ofString "is_unbound") (Str.ofString "Cells.is_unbound") fa25x6 (FuncBody.stmts fb25x6) fs25x6 3 [] Value.none Value.none Value.none (Value.str (Str.ofString "clausemill.store") 407) Option.none (Value.ref 236) Value.none 0)) #[]
noncomputable def o238 (P : Params) : Obj := Obj.mk (Value.type "tuple") Option.none (Data.seq #[]) #[]
noncomputable def o239 (P : Params) : Obj := Obj.mk Value.none Option.none (Data.fields #[]) #[]
noncomputable def o240 (P : Params) : Obj := Obj.mk (Value.type "tuple") Option.none (Data.seq #[Value.str (Str.ofString "self") 507, Value.str (Str.ofString "cell") 508, Value.str (Str.ofString "value") 509, Value.str (Str.ofString "place") 510]) #[]
noncomputable def o241 (P : Params) : Obj := Obj.mk (Value.type "tuple") Option.none (Data.seq #[]) #[]
noncomputable def o242 (P : Params) : Obj := Obj.mk Value.none Option.none (Data.func (FuncData.mk (Str.ofString "bind") (Str.ofString "Cells.bind") fa25x7 (FuncBody.stmts fb25x7) fs25x7 0 [] Value.none Value.none Value.none Value.none Option.none Value.none Value.none 0)) #[]
noncomputable def o243 (P : Params) : Obj := Obj.mk (Value.type "code") Option.none (Data.fields #[Value.str (Str.ofString "bind") 504, Value.str (Str.ofString "Cells.bind") 505, Value.str (Str.ofString "/claim/cut.py") 506, Value.int 146 0, Value.int 3 0, Value.int 0 0, Value.int 0 0, Value.int 3 0, Value.ref 238, Value.bool Bool.true, Value.int 181 0, Value.ref 239, Value.none, Value.ref 240, Value.ref 241, Value.ref 242, Value.int 511 0, Value.int 146 0, Value.str (Str.ofString "/claim/cut.py") 512]) #[]
noncomputable def o244 (P : Params) : Obj := Obj.mk (Value.type "function") Option.none (Data.func (FuncData.mk (Str.ofString "bind") (Str.ofString "Cells.bind") fa25x7 (FuncBody.stmts fb25x7) fs25x7 3 [] Value.none Value.none Value.none (Value.str (Str.ofString "clausemill.store") 407) Option.none (Value.ref 243) Value.none 0)) #[]
noncomputable def o245 (P : Params) : Obj := Obj.mk (Value.type "tuple") Option.none (Data.seq #[]) #[]
noncomputable def o246 (P : Params) : Obj := Obj.mk Value.none Option.none (Data.fields #[]) #[]
noncomputable def o247 (P : Params) : Obj := Obj.mk (Value.type "tuple") Option.none (Data.seq #[Value.str (Str.ofString "self") 517, Value.str (Str.ofString "c1") 518, Value.str (Str.ofString "c2") 519]) #[]
noncomputable def o248 (P : Params) : Obj := Obj.mk (Value.type "tuple") Option.none (Data.seq #[]) #[]
noncomputable def o249 (P : Params) : Obj := Obj.mk Value.none Option.none (Data.func (FuncData.mk (Str.ofString "bind_pair") (Str.ofString "Cells.bind_pair") fa25x8 (FuncBody.stmts fb25x8) fs25x8 0 [] Value.none Value.none Value.none Value.none Option.none Value.none Value.none 0)) #[]
noncomputable def o250 (P : Params) : Obj := Obj.mk (Value.type "code") Option.none (Data.fields #[Value.str (Str.ofString "bind_pair") 514, Value.str (Str.ofString "Cells.bind_pair") 515, Value.str (Str.ofString "/claim/cut.py") 516, Value.int 157 0, Value.int 3 0, Value.int 0 0, Value.int 0 0, Value.int 3 0, Value.ref 245, Value.bool Bool.true, Value.int 181 0, Value.ref 246, Value.none, Value.ref 247, Value.ref 248, Value.ref 249, Value.int 520 0, Value.int 157 0, Value.str (Str.ofString "/claim/cut.py") 521]) #[]
noncomputable def o251 (P : Params) : Obj := Obj.mk (Value.type "function") Option.none (Data.func (FuncData.mk (Str.ofString "bind_pair") (Str.ofString "Cells.bind_pair") fa25x8 (FuncBody.stmts fb25x8) fs25x8 3 [] Value.none Value.none Value.none (Value.str (Str.ofString "clausemill.store") 407) Option.none (Value.ref 250) Value.none 0)) #[]
noncomputable def o252 (P : Params) : Obj := Obj.mk (Value.type "tuple") Option.none (Data.seq #[]) #[]
noncomputable def o253 (P : Params) : Obj := Obj.mk Value.none Option.none (Data.fields #[]) #[]
noncomputable def o254 (P : Params) : Obj := Obj.mk (Value.type "tuple") Option.none (Data.seq #[Value.str (Str.ofString "self") 526, Value.str (Str.ofString "cell") 527, Value.str (Str.ofString "fresh") 528]) #[]
noncomputable def o255 (P : Params) : Obj := Obj.mk (Value.type "tuple") Option.none (Data.seq #[]) #[]
noncomputable def o256 (P : Params) : Obj := Obj.mk Value.none Option.none (Data.func (FuncData.mk (Str.ofString "globalise") (Str.ofString "Cells.globalise") fa25x9 (FuncBody.stmts fb25x9) fs25x9 0 [] Value.none Value.none Value.none Value.none Option.none Value.none Value.none 0)) #[]
noncomputable def o257 (P : Params) : Obj := Obj.mk (Value.type "code") Option.none (Data.fields #[Value.str (Str.ofString "globalise") 523, Value.str (Str.ofString "Cells.globalise") 524, Value.str (Str.ofString "/claim/cut.py") 525, Value.int 160 0, Value.int 2 0, Value.int 0 0, Value.int 0 0, Value.int 3 0, Value.ref 252, Value.bool Bool.true, Value.int 181 0, Value.ref 253, Value.none, Value.ref 254, Value.ref 255, Value.ref 256, Value.int 529 0, Value.int 160 0, Value.str (Str.ofString "/claim/cut.py") 530]) #[]
noncomputable def o258 (P : Params) : Obj := Obj.mk (Value.type "function") Option.none (Data.func (FuncData.mk (Str.ofString "globalise") (Str.ofString "Cells.globalise") fa25x9 (FuncBody.stmts fb25x9) fs25x9 3 [] Value.none Value.none Value.none (Value.str (Str.ofString "clausemill.store") 407) Option.none (Value.ref 257) Value.none 0)) #[]
noncomputable def o259 (P : Params) : Obj := Obj.mk (Value.type "tuple") Option.none (Data.seq #[]) #[]
noncomputable def o260 (P : Params) : Obj := Obj.mk Value.none Option.none (Data.fields #[]) #[]
noncomputable def o261 (P : Params) : Obj := Obj.mk (Value.type "tuple") Option.none (Data.seq #[Value.str (Str.ofString "self") 535]) #[]
noncomputable def o262 (P : Params) : Obj := Obj.mk (Value.type "tuple") Option.none (Data.seq #[]) #[]
noncomputable def o263 (P : Params) : Obj := Obj.mk Value.none Option.none (Data.func (FuncData.mk (Str.ofString "mark") (Str.ofString "Cells.mark") fa25x10 (FuncBody.stmts fb25x10) fs9x9 0 [] Value.none Value.none Value.none Value.none Option.none Value.none Value.none 0)) #[]
noncomputable def o264 (P : Params) : Obj := Obj.mk (Value.type "code") Option.none (Data.fields #[Value.str (Str.ofString "mark") 532, Value.str (Str.ofString "Cells.mark") 533, Value.str (Str.ofString "/claim/cut.py") 534, Value.int 168 0, Value.int 1 0, Value.int 0 0, Value.int 0 0, Value.int 3 0, Value.ref 259, Value.bool Bool.true, Value.int 181 0, Value.ref 260, Value.none, Value.ref 261, Value.ref 262, Value.ref 263, Value.int 536 0, Value.int 168 0, Value.str (Str.ofString "/claim/cut.py") 537]) #[]
noncomputable def o265 (P : Params) : Obj := Obj.mk (Value.type "function") Option.none (Data.func (FuncData.mk (Str.ofString "mark") (Str.ofString "Cells.mark") fa25x10 (FuncBody.stmts fb25x10) fs9x9 3 [] Value.none Value.none Value.none (Value.str (Str.ofString "clausemill.store") 407) Option.none (Value.ref 264) Value.none 0)) #[]
noncomputable def o266 (P : Params) : Obj := Obj.mk (Value.type "tuple") Option.none (Data.seq #[]) #[]
noncomputable def o267 (P : Params) : Obj := Obj.mk Value.none Option.none (Data.fields #[]) #[]
noncomputable def o268 (P : Params) : Obj := Obj.mk (Value.type "tuple") Option.none (Data.seq #[Value.str (Str.ofString "self") 542, Value.str (Str.ofString "mark") 543]) #[]
noncomputable def o269 (P : Params) : Obj := Obj.mk (Value.type "tuple") Option.none (Data.seq #[]) #[]
noncomputable def o270 (P : Params) : Obj := Obj.mk Value.none Option.none (Data.func (FuncData.mk (Str.ofString "undo_to") (Str.ofString "Cells.undo_to") fa25x11 (FuncBody.stmts fb25x11) fs25x11 0 [] Value.none Value.none Value.none Value.none Option.none Value.none Value.none 0)) #[]
noncomputable def o271 (P : Params) : Obj := Obj.mk (Value.type "code") Option.none (Data.fields #[Value.str (Str.ofString "undo_to") 539, Value.str (Str.ofString "Cells.undo_to") 540, Value.str (Str.ofString "/claim/cut.py") 541, Value.int 171 0, Value.int 2 0, Value.int 0 0, Value.int 0 0, Value.int 3 0, Value.ref 266, Value.bool Bool.true, Value.int 181 0, Value.ref 267, Value.none, Value.ref 268, Value.ref 269, Value.ref 270, Value.int 544 0, Value.int 171 0, Value.str (Str.ofString "/claim/cut.py") 545]) #[]
noncomputable def o272 (P : Params) : Obj := Obj.mk (Value.type "function") Option.none (Data.func (FuncData.mk (Str.ofString "undo_to") (Str.ofString "Cells.undo_to") fa25x11 (FuncBody.stmts fb25x11) fs25x11 3 [] Value.none Value.none Value.none (Value.str (Str.ofString "clausemill.store") 407) Option.none (Value.ref 271) Value.none 0)) #[]
noncomputable def o273 (P : Params) : Obj := Obj.mk (Value.type "tuple") Option.none (Data.seq #[]) #[]
noncomputable def o274 (P : Params) : Obj := Obj.mk Value.none Option.none (Data.fields #[]) #[]
noncomputable def o275 (P : Params) : Obj := Obj.mk (Value.type "tuple") Option.none (Data.seq #[Value.str (Str.ofString "self") 550, Value.str (Str.ofString "i") 551, Value.str (Str.ofString "value") 552]) #[]
noncomputable def o276 (P : Params) : Obj := Obj.mk (Value.type "tuple") Option.none (Data.seq #[]) #[]
noncomputable def o277 (P : Params) : Obj := Obj.mk Value.none Option.none (Data.func (FuncData.mk (Str.ofString "stack_put") (Str.ofString "Cells.stack_put") fa25x12 (FuncBody.stmts fb25x12) fs25x12 0 [] Value.none Value.none Value.none Value.none Option.none Value.none Value.none 0)) #[]
noncomputable def o278 (P : Params) : Obj := Obj.mk (Value.type "code") Option.none (Data.fields #[Value.str (Str.ofString "stack_put") 547, Value.str (Str.ofString "Cells.stack_put") 548, Value.str (Str.ofString "/claim/cut.py") 549, Value.int 174 0, Value.int 3 0, Value.int 0 0, Value.int 0 0, Value.int 3 0, Value.ref 273, Value.bool Bool.true, Value.int 181 0, Value.ref 274, Value.none, Value.ref 275, Value.ref 276, Value.ref 277, Value.int 553 0, Value.int 174 0, Value.str (Str.ofString "/claim/cut.py") 554]) #[]
noncomputable def o279 (P : Params) : Obj := Obj.mk (Value.type "function") Option.none (Data.func (FuncData.mk (Str.ofString "stack_put") (Str.ofString "Cells.stack_put") fa25x12 (FuncBody.stmts fb25x12) fs25x12 3 [] Value.none Value.none Value.none (Value.str (Str.ofString "clausemill.store") 407) Option.none (Value.ref 278) Value.none 0)) #[]
noncomputable def o280 (P : Params) : Obj := Obj.mk (Value.type "tuple") Option.none (Data.seq #[]) #[]
noncomputable def o281 (P : Params) : Obj := Obj.mk Value.none Option.none (Data.fields #[]) #[]
noncomputable def o282 (P : Params) : Obj := Obj.mk (Value.type "tuple") Option.none (Data.seq #[Value.str (Str.ofString "self") 559, Value.str (Str.ofString "cell") 560]) #[]
noncomputable def o283 (P : Params) : Obj := Obj.mk (Value.type "tuple") Option.none (Data.seq #[]) #[]
noncomputable def o284 (P : Params) : Obj := Obj.mk Value.none Option.none (Data.func (FuncData.mk (Str.ofString "is_compound") (Str.ofString "Cells.is_compound") fa25x13 (FuncBody.stmts fb25x13) fs25x13 0 [] Value.none Value.none Value.none Value.none Option.none Value.none Value.none 0)) #[]
noncomputable def o285 (P : Params) : Obj := Obj.mk (Value.type "code") Option.none (Data.fields #[Value.str (Str.ofString "is_compound") 556, Value.str (Str.ofString "Cells.is_compound") 557, Value.str (Str.ofString "/claim/cut.py") 558, Value.int 177 0, Value.int 2 0, Value.int 0 0, Value.int 0 0, Value.int 3 0, Value.ref 280, Value.bool Bool.true, Value.int 181 0, Value.ref 281, Value.none, Value.ref 282, Value.ref 283, Value.ref 284, Value.int 561 0, Value.int 177 0, Value.str (Str.ofString "/claim/cut.py") 562]) #[]
noncomputable def o286 (P : Params) : Obj := Obj.mk (Value.type "function") Option.none (Data.func (FuncData.mk (Str.ofString "is_compound") (Str.ofString "Cells.is_compound") fa25x13 (FuncBody.stmts fb25x13) fs25x13 3 [] Value.none Value.none Value.none (Value.str (Str.ofString "clausemill.store") 407) Option.none (Value.ref 285) Value.none 0)) #[]
noncomputable def o287 (P : Params) : Obj := Obj.mk (Value.type "tuple") Option.none (Data.seq #[]) #[]
noncomputable def o288 (P : Params) : Obj := Obj.mk Value.none Option.none (Data.fields #[]) #[]
noncomputable def o289 (P : Params) : Obj := Obj.mk (Value.type "tuple") Option.none (Data.seq #[Value.str (Str.ofString "self") 567, Value.str (Str.ofString "cell") 568, Value.str (Str.ofString "tag") 569]) #[]
noncomputable def o290 (P : Params) : Obj := Obj.mk (Value.type "tuple") Option.none (Data.seq #[]) #[]
noncomputable def o291 (P : Params) : Obj := Obj.mk Value.none Option.none (Data.func (FuncData.mk (Str.ofString "functor_of") (Str.ofString "Cells.functor_of") fa25x14 (FuncBody.stmts fb25x14) fs25x14 0 [] Value.none Value.none Value.none Value.none Option.none Value.none Value.none 0)) #[]
noncomputable def o292 (P : Params) : Obj := Obj.mk (Value.type "code") Option.none (Data.fields #[Value.str (Str.ofString "functor_of") 564, Value.str (Str.ofString "Cells.functor_of") 565, Value.str (Str.ofString "/claim/cut.py") 566, Value.int 180 0, Value.int 2 0, Value.int 0 0, Value.int 0 0, Value.int 3 0, Value.ref 287, Value.bool Bool.true, Value.int 181 0, Value.ref 288, Value.none, Value.ref 289, Value.ref 290, Value.ref 291, Value.int 570 0, Value.int 180 0, Value.str (Str.ofString "/claim/cut.py") 571]) #[]
noncomputable def o293 (P : Params) : Obj := Obj.mk (Value.type "function") Option.none (Data.func (FuncData.mk (Str.ofString "functor_of") (Str.ofString "Cells.functor_of") fa25x14 (FuncBody.stmts fb25x14) fs25x14 3 [] Value.none Value.none Value.none (Value.str (Str.ofString "clausemill.store") 407) Option.none (Value.ref 292) Value.none 0)) #[]
noncomputable def o294 (P : Params) : Obj := Obj.mk (Value.type "tuple") Option.none (Data.seq #[]) #[]
noncomputable def o295 (P : Params) : Obj := Obj.mk Value.none Option.none (Data.fields #[]) #[]
noncomputable def o296 (P : Params) : Obj := Obj.mk (Value.type "tuple") Option.none (Data.seq #[Value.str (Str.ofString "self") 576, Value.str (Str.ofString "cell") 577, Value.str (Str.ofString "tag") 578]) #[]
noncomputable def o297 (P : Params) : Obj := Obj.mk (Value.type "tuple") Option.none (Data.seq #[]) #[]
noncomputable def o298 (P : Params) : Obj := Obj.mk Value.none Option.none (Data.func (FuncData.mk (Str.ofString "width") (Str.ofString "Cells.width") fa25x15 (FuncBody.stmts fb25x15) fs25x15 0 [] Value.none Value.none Value.none Value.none Option.none Value.none Value.none 0)) #[]
noncomputable def o299 (P : Params) : Obj := Obj.mk (Value.type "code") Option.none (Data.fields #[Value.str (Str.ofString "width") 573, Value.str (Str.ofString "Cells.width") 574, Value.str (Str.ofString "/claim/cut.py") 575, Value.int 190 0, Value.int 2 0, Value.int 0 0, Value.int 0 0, Value.int 3 0, Value.ref 294, Value.bool Bool.true, Value.int 181 0, Value.ref 295, Value.none, Value.ref 296, Value.ref 297, Value.ref 298, Value.int 579 0, Value.int 190 0, Value.str (Str.ofString "/claim/cut.py") 580]) #[]
noncomputable def o300 (P : Params) : Obj := Obj.mk (Value.type "function") Option.none (Data.func (FuncData.mk (Str.ofString "width") (Str.ofString "Cells.width") fa25x15 (FuncBody.stmts fb25x15) fs25x15 3 [] Value.none Value.none Value.none (Value.str (Str.ofString "clausemill.store") 407) Option.none (Value.ref 299) Value.none 0)) #[]
noncomputable def o301 (P : Params) : Obj := Obj.mk (Value.type "tuple") Option.none (Data.seq #[]) #[]
noncomputable def o302 (P : Params) : Obj := Obj.mk Value.none Option.none (Data.fields #[]) #[]
noncomputable def o303 (P : Params) : Obj := Obj.mk (Value.type "tuple") Option.none (Data.seq #[Value.str (Str.ofString "self") 585, Value.str (Str.ofString "cell") 586]) #[]
noncomputable def o304 (P : Params) : Obj := Obj.mk (Value.type "tuple") Option.none (Data.seq #[]) #[]
noncomputable def o305 (P : Params) : Obj := Obj.mk Value.none Option.none (Data.func (FuncData.mk (Str.ofString "base") (Str.ofString "Cells.base") fa25x16 (FuncBody.stmts fb25x16) fs25x16 0 [] Value.none Value.none Value.none Value.none Option.none Value.none Value.none 0)) #[]
noncomputable def o306 (P : Params) : Obj := Obj.mk (Value.type "code") Option.none (Data.fields #[Value.str (Str.ofString "base") 582, Value.str (Str.ofString "Cells.base") 583, Value.str (Str.ofString "/claim/cut.py") 584, Value.int 198 0, Value.int 2 0, Value.int 0 0, Value.int 0 0, Value.int 3 0, Value.ref 301, Value.bool Bool.true, Value.int 181 0, Value.ref 302, Value.none, Value.ref 303, Value.ref 304, Value.ref 305, Value.int 587 0, Value.int 198 0, Value.str (Str.ofString "/claim/cut.py") 588]) #[]
noncomputable def o307 (P : Params) : Obj := Obj.mk (Value.type "function") Option.none (Data.func (FuncData.mk (Str.ofString "base") (Str.ofString "Cells.base") fa25x16 (FuncBody.stmts fb25x16) fs25x16 3 [] Value.none Value.none Value.none (Value.str (Str.ofString "clausemill.store") 407) Option.none (Value.ref 306) Value.none 0)) #[]
noncomputable def o308 (P : Params) : Obj := Obj.mk (Value.type "tuple") Option.none (Data.seq #[]) #[]
noncomputable def o309 (P : Params) : Obj := Obj.mk Value.none Option.none (Data.fields #[]) #[]
noncomputable def o310 (P : Params) : Obj := Obj.mk (Value.type "tuple") Option.none (Data.seq #[Value.str (Str.ofString "self") 593, Value.str (Str.ofString "cell") 594, Value.str (Str.ofString "i") 595]) #[]
noncomputable def o311 (P : Params) : Obj := Obj.mk (Value.type "tuple") Option.none (Data.seq #[]) #[]
noncomputable def o312 (P : Params) : Obj := Obj.mk Value.none Option.none (Data.func (FuncData.mk (Str.ofString "arg") (Str.ofString "Cells.arg") fa25x17 (FuncBody.stmts fb25x17) fs25x17 0 [] Value.none Value.none Value.none Value.none Option.none Value.none Value.none 0)) #[]
noncomputable def o313 (P : Params) : Obj := Obj.mk (Value.type "code") Option.none (Data.fields #[Value.str (Str.ofString "arg") 590, Value.str (Str.ofString "Cells.arg") 591, Value.str (Str.ofString "/claim/cut.py") 592, Value.int 203 0, Value.int 3 0, Value.int 0 0, Value.int 0 0, Value.int 3 0, Value.ref 308, Value.bool Bool.true, Value.int 181 0, Value.ref 309, Value.none, Value.ref 310, Value.ref 311, Value.ref 312, Value.int 596 0, Value.int 203 0, Value.str (Str.ofString "/claim/cut.py") 597]) #[]
noncomputable def o314 (P : Params) : Obj := Obj.mk (Value.type "function") Option.none (Data.func (FuncData.mk (Str.ofString "arg") (Str.ofString "Cells.arg") fa25x17 (FuncBody.stmts fb25x17) fs25x17 3 [] Value.none Value.none Value.none (Value.str (Str.ofString "clausemill.store") 407) Option.none (Value.ref 313) Value.none 0)) #[]
noncomputable def o315 (P : Params) : Obj := Obj.mk (Value.type "tuple") Option.none (Data.seq #[]) #[]
noncomputable def o316 (P : Params) : Obj := Obj.mk Value.none Option.none (Data.fields #[]) #[]
noncomputable def o317 (P : Params) : Obj := Obj.mk (Value.type "tuple") Option.none (Data.seq #[Value.str (Str.ofString "self") 602, Value.str (Str.ofString "f") 603, Value.str (Str.ofString "start") 604]) #[]
noncomputable def o318 (P : Params) : Obj := Obj.mk (Value.type "tuple") Option.none (Data.seq #[]) #[]
noncomputable def o319 (P : Params) : Obj := Obj.mk Value.none Option.none (Data.func (FuncData.mk (Str.ofString "new_block") (Str.ofString "Cells.new_block") fa25x18 (FuncBody.stmts fb25x18) fs25x18 0 [] Value.none Value.none Value.none Value.none Option.none Value.none Value.none 0)) #[]
noncomputable def o320 (P : Params) : Obj := Obj.mk (Value.type "code") Option.none (Data.fields #[Value.str (Str.ofString "new_block") 599, Value.str (Str.ofString "Cells.new_block") 600, Value.str (Str.ofString "/claim/cut.py") 601, Value.int 206 0, Value.int 2 0, Value.int 0 0, Value.int 0 0, Value.int 3 0, Value.ref 315, Value.bool Bool.true, Value.int 181 0, Value.ref 316, Value.none, Value.ref 317, Value.ref 318, Value.ref 319, Value.int 605 0, Value.int 206 0, Value.str (Str.ofString "/claim/cut.py") 606]) #[]
noncomputable def o321 (P : Params) : Obj := Obj.mk (Value.type "function") Option.none (Data.func (FuncData.mk (Str.ofString "new_block") (Str.ofString "Cells.new_block") fa25x18 (FuncBody.stmts fb25x18) fs25x18 3 [] Value.none Value.none Value.none (Value.str (Str.ofString "clausemill.store") 407) Option.none (Value.ref 320) Value.none 0)) #[]
noncomputable def o322 (P : Params) : Obj := Obj.mk (Value.type "tuple") Option.none (Data.seq #[Value.str (Str.ofString "bb") 608, Value.str (Str.ofString "hb") 609, Value.str (Str.ofString "heap") 610, Value.str (Str.ofString "max_heap") 611, Value.str (Str.ofString "stack") 612, Value.str (Str.ofString "symbols") 613, Value.str (Str.ofString "trail") 614]) #[]
noncomputable def o323 (P : Params) : Obj := Obj.mk (Value.type "dict") Option.none (Data.dict #[DictEntry.mk (PyData.keyHash P (Str.ofString "__module__")) (Value.str (Str.ofString "__module__") 436) (Value.str (Str.ofString "clausemill.store") 407), DictEntry.mk (PyData.keyHash P (Str.ofString "__firstlineno__")) (Value.str (Str.ofString "__firstlineno__") 440) (Value.int 96 439), DictEntry.mk (PyData.keyHash P (Str.ofString "__init__")) (Value.str (Str.ofString "__init__") 450) (Value.ref 195), DictEntry.mk (PyData.keyHash P (Str.ofString "push")) (Value.str (Str.ofString "push") 459) (Value.ref 202), DictEntry.mk (PyData.keyHash P (Str.ofString "new_var")) (Value.str (Str.ofString "new_var") 467) (Value.ref 209), DictEntry.mk (PyData.keyHash P (Str.ofString "reserve")) (Value.str (Str.ofString "reserve") 477) (Value.ref 216), DictEntry.mk (PyData.keyHash P (Str.ofString "trim")) (Value.str (Str.ofString "trim") 485) (Value.ref 223), DictEntry.mk (PyData.keyHash P (Str.ofString "deref")) (Value.str (Str.ofString "deref") 495) (Value.ref 230), DictEntry.mk (PyData.keyHash P (Str.ofString "is_unbound")) (Value.str (Str.ofString "is_unbound") 503) (Value.ref 237), DictEntry.mk (PyData.keyHash P (Str.ofString "bind")) (Value.str (Str.ofString "bind") 513) (Value.ref 244), DictEntry.mk (PyData.keyHash P (Str.ofString "bind_pair")) (Value.str (Str.ofString "bind_pair") 522) (Value.ref 251), DictEntry.mk (PyData.keyHash P (Str.ofString "globalise")) (Value.str (Str.ofString "globalise") 531) (Value.ref 258), DictEntry.mk (PyData.keyHash P (Str.ofString "mark")) (Value.str (Str.ofString "mark") 538) (Value.ref 265), DictEntry.mk (PyData.keyHash P (Str.ofString "undo_to")) (Value.str (Str.ofString "undo_to") 546) (Value.ref 272), DictEntry.mk (PyData.keyHash P (Str.ofString "stack_put")) (Value.str (Str.ofString "stack_put") 555) (Value.ref 279), DictEntry.mk (PyData.keyHash P (Str.ofString "is_compound")) (Value.str (Str.ofString "is_compound") 563) (Value.ref 286), DictEntry.mk (PyData.keyHash P (Str.ofString "functor_of")) (Value.str (Str.ofString "functor_of") 572) (Value.ref 293), DictEntry.mk (PyData.keyHash P (Str.ofString "width")) (Value.str (Str.ofString "width") 581) (Value.ref 300), DictEntry.mk (PyData.keyHash P (Str.ofString "base")) (Value.str (Str.ofString "base") 589) (Value.ref 307), DictEntry.mk (PyData.keyHash P (Str.ofString "arg")) (Value.str (Str.ofString "arg") 598) (Value.ref 314), DictEntry.mk (PyData.keyHash P (Str.ofString "new_block")) (Value.str (Str.ofString "new_block") 607) (Value.ref 321), DictEntry.mk (PyData.keyHash P (Str.ofString "__static_attributes__")) (Value.str (Str.ofString "__static_attributes__") 615) (Value.ref 322), DictEntry.mk (PyData.keyHash P (Str.ofString "__dict__")) (Value.str (Str.ofString "__dict__") 617) (Value.ref 325), DictEntry.mk (PyData.keyHash P (Str.ofString "__weakref__")) (Value.str (Str.ofString "__weakref__") 619) (Value.ref 326), DictEntry.mk (PyData.keyHash P (Str.ofString "__doc__")) (Value.str (Str.ofString "__doc__") 620) Value.none] 4) #[]
noncomputable def o324 (P : Params) : Obj := Obj.mk (Value.type "type") Option.none (Data.cls (ClassData.mk (Str.ofString "Cells") [Value.type "object"] [Value.ref 324, Value.type "object"] 323 (Str.ofString "Cells") Bool.true [] [] Bool.false Option.none Bool.false)) #[Option.none, Option.none, Option.some (Value.str (Str.ofString "Cells") 429), Option.some (Value.str (Str.ofString "Cells") 437), Option.some (Value.builtin "object.__new__"), Option.some (Value.bool Bool.true)]
noncomputable def o325 (P : Params) : Obj := Obj.mk (Value.type "getset_descriptor") Option.none (Data.fields #[Value.str (Str.ofString "__dict__") 616, Value.ref 324, Value.builtin "function.__dict__", Value.builtin "function.__dict__#set"]) #[]
noncomputable def o326 (P : Params) : Obj := Obj.mk (Value.type "getset_descriptor") Option.none (Data.fields #[Value.str (Str.ofString "__weakref__") 618, Value.ref 324, Value.builtin "ExceptionGroup.__weakref__", Value.none]) #[]
noncomputable def o327 (P : Params) : Obj := Obj.mk (Value.type "super") Option.none (Data.fields #[Value.ref 324, Value.ref 324, Value.ref 324]) #[]
noncomputable def o328 (P : Params) : Obj := Obj.mk (Value.type "builtin_function_or_method") Option.none (Data.fields #[Value.builtin "object.__init_subclass__", Value.ref 324]) #[]
noncomputable def o3v4 (P : Params) : Obj := Obj.mk (Value.type "dict") Option.none (Data.dict #[DictEntry.mk (PyData.keyHash P (Str.ofString "__name__")) (Value.str (Str.ofString "__name__") 165) (Value.str (Str.ofString "clausemill.areas") 712), DictEntry.mk (PyData.keyHash P (Str.ofString "__doc__")) (Value.str (Str.ofString "__doc__") 166) Value.none, DictEntry.mk (PyData.keyHash P (Str.ofString "__package__")) (Value.str (Str.ofString "__package__") 167) Value.none, DictEntry.mk (PyData.keyHash P (Str.ofString "__loader__")) (Value.str (Str.ofString "__loader__") 168) (Value.builtin "__main__.__loader__#opaque"), DictEntry.mk (PyData.keyHash P (Str.ofString "__spec__")) (Value.str (Str.ofString "__spec__") 169) Value.none, DictEntry.mk (PyData.keyHash P (Str.ofString "__annotations__")) (Value.str (Str.ofString "__annotations__") 170) (Value.ref 6), DictEntry.mk (PyData.keyHash P (Str.ofString "__builtins__")) (Value.str (Str.ofString "__builtins__") 171) (Value.ref 4), DictEntry.mk (PyData.keyHash P (Str.ofString "__file__")) (Value.str (Str.ofString "__file__") 173) (Value.str (Str.ofString "/claim/cut.py") 172), DictEntry.mk (PyData.keyHash P (Str.ofString "__cached__")) (Value.str (Str.ofString "__cached__") 174) Value.none, DictEntry.mk (PyData.keyHash P (Str.ofString "_wall")) (Value.str (Str.ofString "_wall") 193) (Value.ref 21), DictEntry.mk (PyData.keyHash P (Str.ofString "ClausemillError")) (Value.str (Str.ofString "ClausemillError") 215) (Value.ref 31), DictEntry.mk (PyData.keyHash P (Str.ofString "PrologError")) (Value.str (Str.ofString "PrologError") 240) (Value.ref 51), DictEntry.mk (PyData.keyHash P (Str.ofString "A_SYSTEM")) (Value.str (Str.ofString "A_SYSTEM") 242) (Value.int 25 241), DictEntry.mk (PyData.keyHash P (Str.ofString "F_DOT")) (Value.str (Str.ofString "F_DOT") 244) (Value.int 0 243), DictEntry.mk (PyData.keyHash P (Str.ofString "F_ERROR")) (Value.str (Str.ofString "F_ERROR") 246) (Value.int 16 245), DictEntry.mk (PyData.keyHash P (Str.ofString "fixed_atoms")) (Value.str (Str.ofString "fixed_atoms") 252) (Value.ref 60), DictEntry.mk (PyData.keyHash P (Str.ofString "fixed_functors")) (Value.str (Str.ofString "fixed_functors") 258) (Value.ref 67), DictEntry.mk (PyData.keyHash P (Str.ofString "Symbols")) (Value.str (Str.ofString "Symbols") 378) (Value.ref 154), DictEntry.mk (PyData.keyHash P (Str.ofString "system_error")) (Value.str (Str.ofString "system_error") 387) (Value.ref 165), DictEntry.mk (PyData.keyHash P (Str.ofString "formal_of")) (Value.str (Str.ofString "formal_of") 398) (Value.ref 172), DictEntry.mk (PyData.keyHash P (Str.ofString "resource_error")) (Value.str (Str.ofString "resource_error") 406) (Value.ref 179), DictEntry.mk (PyData.keyHash P (Str.ofString "REF")) (Value.str (Str.ofString "REF") 410) (Value.int 0 409), DictEntry.mk (PyData.keyHash P (Str.ofString "SRF")) (Value.str (Str.ofString "SRF") 412) (Value.int 1 411), DictEntry.mk (PyData.keyHash P (Str.ofString "STR")) (Value.str (Str.ofString "STR") 414) (Value.int 2 413), DictEntry.mk (PyData.keyHash P (Str.ofString "LIS")) (Value.str (Str.ofString "LIS") 416) (Value.int 3 415), DictEntry.mk (PyData.keyHash P (Str.ofString "CON")) (Value.str (Str.ofString "CON") 418) (Value.int 4 417), DictEntry.mk (PyData.keyHash P (Str.ofString "INT")) (Value.str (Str.ofString "INT") 420) (Value.int 5 419), DictEntry.mk (PyData.keyHash P (Str.ofString "FUN")) (Value.str (Str.ofString "FUN") 422) (Value.int 6 421), DictEntry.mk (PyData.keyHash P (Str.ofString "VOID")) (Value.str (Str.ofString "VOID") 424) (Value.ref 180), DictEntry.mk (PyData.keyHash P (Str.ofString "VISIT")) (Value.str (Str.ofString "VISIT") 426) (Value.int 0 425), DictEntry.mk (PyData.keyHash P (Str.ofString "BUILD")) (Value.str (Str.ofString "BUILD") 428) (Value.int 1 427), DictEntry.mk (PyData.keyHash P (Str.ofString "Cells")) (Value.str (Str.ofString "Cells") 622) (Value.ref 324), DictEntry.mk (PyData.keyHash P (Str.ofString "Store")) (Value.str (Str.ofString "Store") 711) (Value.ref 381), DictEntry.mk (PyData.keyHash P (Str.ofString "READ")) (Value.str (Str.ofString "READ") 715) (Value.str (Str.ofString "read") 714)] 34) #[]
noncomputable def o12v5 (P : Params) : Obj := Obj.mk Value.none Option.none (Data.fields #[Value.int 1 0, Value.int 0 0, Value.ref 20, Value.int 5 0, Value.int 0 0, Value.ref 27, Value.int 7 0, Value.int 0 0, Value.ref 40, Value.int 14 0, Value.int 0 0, Value.ref 59, Value.int 16 0, Value.int 0 0, Value.ref 66, Value.int 18 0, Value.int 0 0, Value.ref 73, Value.int 76 0, Value.int 0 0, Value.ref 164, Value.int 78 0, Value.int 0 0, Value.ref 171, Value.int 83 0, Value.int 0 0, Value.ref 178, Value.int 96 0, Value.int 0 0, Value.ref 186, Value.int 212 0, Value.int 0 0, Value.ref 334]) #[]
noncomputable def o324v1 (P : Params) : Obj := Obj.mk (Value.type "type") Option.none (Data.cls (ClassData.mk (Str.ofString "Cells") [Value.type "object"] [Value.ref 324, Value.type "object"] 323 (Str.ofString "Cells") Bool.true [] [Value.ref 381] Bool.false Option.none Bool.false)) #[Option.none, Option.none, Option.some (Value.str (Str.ofString "Cells") 429), Option.some (Value.str (Str.ofString "Cells") 437), Option.some (Value.builtin "object.__new__"), Option.some (Value.bool Bool.true)]
noncomputable def o329 (P : Params) : Obj := Obj.mk (Value.type "tuple") Option.none (Data.seq #[Value.ref 324]) #[]
noncomputable def o330 (P : Params) : Obj := Obj.mk (Value.type "builtin_function_or_method") Option.none (Data.fields #[Value.builtin "type.__prepare__", Value.type "type"]) #[]
noncomputable def o331 (P : Params) : Obj := Obj.mk (Value.type "dict") Option.none (Data.dict #[DictEntry.mk (PyData.keyHash P (Str.ofString "__module__")) (Value.str (Str.ofString "__module__") 630) (Value.str (Str.ofString "clausemill.store") 407), DictEntry.mk (PyData.keyHash P (Str.ofString "__qualname__")) (Value.str (Str.ofString "__qualname__") 632) (Value.str (Str.ofString "Store") 631), DictEntry.mk (PyData.keyHash P (Str.ofString "__firstlineno__")) (Value.str (Str.ofString "__firstlineno__") 634) (Value.int 212 633), DictEntry.mk (PyData.keyHash P (Str.ofString "new_struct")) (Value.str (Str.ofString "new_struct") 648) (Value.ref 342), DictEntry.mk (PyData.keyHash P (Str.ofString "build_list")) (Value.str (Str.ofString "build_list") 657) (Value.ref 350), DictEntry.mk (PyData.keyHash P (Str.ofString "list_cells")) (Value.str (Str.ofString "list_cells") 665) (Value.ref 357), DictEntry.mk (PyData.keyHash P (Str.ofString "put_term")) (Value.str (Str.ofString "put_term") 674) (Value.ref 364), DictEntry.mk (PyData.keyHash P (Str.ofString "whole_size")) (Value.str (Str.ofString "whole_size") 687) (Value.ref 371), DictEntry.mk (PyData.keyHash P (Str.ofString "take_term")) (Value.str (Str.ofString "take_term") 707) (Value.ref 378), DictEntry.mk (PyData.keyHash P (Str.ofString "__static_attributes__")) (Value.str (Str.ofString "__static_attributes__") 708) (Value.ref 379)] 10) #[]
noncomputable def o332 (P : Params) : Obj := Obj.mk (Value.type "tuple") Option.none (Data.seq #[]) #[]
noncomputable def o333 (P : Params) : Obj := Obj.mk Value.none Option.none (Data.fields #[Value.int 214 0, Value.int 4 0, Value.ref 341, Value.int 227 0, Value.int 4 0, Value.ref 349, Value.int 230 0, Value.int 4 0, Value.ref 356, Value.int 233 0, Value.int 4 0, Value.ref 363, Value.int 236 0, Value.int 4 0, Value.ref 370, Value.int 247 0, Value.int 4 0, Value.ref 377]) #[]
noncomputable def o334 (P : Params) : Obj := Obj.mk (Value.type "code") Option.none (Data.fields #[Value.str (Str.ofString "Store") 625, Value.str (Str.ofString "Store") 626, Value.str (Str.ofString "/claim/cut.py") 627, Value.int 212 0, Value.int 0 0, Value.int 0 0, Value.int 0 0, Value.int 0 0, Value.ref 332, Value.bool Bool.false, Value.int 181 0, Value.ref 333, Value.none, Value.none, Value.none, Value.none, Value.int 628 0, Value.int 212 0, Value.str (Str.ofString "/claim/cut.py") 629]) #[]
noncomputable def o335 (P : Params) : Obj := Obj.mk (Value.type "frame") Option.none Data.plain #[Option.some (Value.ref 334), Option.some (Value.ref 3), Option.some (Value.ref 331), Option.none, Option.some (Value.str (Str.ofString "clausemill.store") 407), Option.none, Option.some (Value.ref 0)]
noncomputable def o336 (P : Params) : Obj := Obj.mk (Value.type "tuple") Option.none (Data.seq #[]) #[]
noncomputable def o337 (P : Params) : Obj := Obj.mk Value.none Option.none (Data.fields #[]) #[]
noncomputable def o338 (P : Params) : Obj := Obj.mk (Value.type "tuple") Option.none (Data.seq #[Value.str (Str.ofString "self") 638, Value.str (Str.ofString "f") 639, Value.str (Str.ofString "cells") 640, Value.str (Str.ofString "values") 641, Value.str (Str.ofString "cell") 642, Value.str (Str.ofString "made") 643, Value.str (Str.ofString "place") 644, Value.str (Str.ofString "value") 645]) #[]
noncomputable def o339 (P : Params) : Obj := Obj.mk (Value.type "tuple") Option.none (Data.seq #[]) #[]
noncomputable def o340 (P : Params) : Obj := Obj.mk Value.none Option.none (Data.func (FuncData.mk (Str.ofString "new_struct") (Str.ofString "Store.new_struct") fa26x0 (FuncBody.stmts fb26x0) fs26x0 0 [] Value.none Value.none Value.none Value.none Option.none Value.none Value.none 0)) #[]
noncomputable def o341 (P : Params) : Obj := Obj.mk (Value.type "code") Option.none (Data.fields #[Value.str (Str.ofString "new_struct") 635, Value.str (Str.ofString "Store.new_struct") 636, Value.str (Str.ofString "/claim/cut.py") 637, Value.int 214 0, Value.int 3 0, Value.int 0 0, Value.int 0 0, Value.int 3 0, Value.ref 336, Value.bool Bool.true, Value.int 181 0, Value.ref 337, Value.none, Value.ref 338, Value.ref 339, Value.ref 340, Value.int 646 0, Value.int 214 0, Value.str (Str.ofString "/claim/cut.py") 647]) #[]
noncomputable def o342 (P : Params) : Obj := Obj.mk (Value.type "function") Option.none (Data.func (FuncData.mk (Str.ofString "new_struct") (Str.ofString "Store.new_struct") fa26x0 (FuncBody.stmts fb26x0) fs26x0 3 [] Value.none Value.none Value.none (Value.str (Str.ofString "clausemill.store") 407) Option.none (Value.ref 341) Value.none 0)) #[]
noncomputable def o343 (P : Params) : Obj := Obj.mk (Value.type "tuple") Option.none (Data.seq #[Value.none]) #[]
noncomputable def o344 (P : Params) : Obj := Obj.mk (Value.type "tuple") Option.none (Data.seq #[]) #[]
noncomputable def o345 (P : Params) : Obj := Obj.mk Value.none Option.none (Data.fields #[]) #[]
noncomputable def o346 (P : Params) : Obj := Obj.mk (Value.type "tuple") Option.none (Data.seq #[Value.str (Str.ofString "self") 652, Value.str (Str.ofString "cells") 653, Value.str (Str.ofString "tail") 654]) #[]
noncomputable def o347 (P : Params) : Obj := Obj.mk (Value.type "tuple") Option.none (Data.seq #[]) #[]
noncomputable def o348 (P : Params) : Obj := Obj.mk Value.none Option.none (Data.func (FuncData.mk (Str.ofString "build_list") (Str.ofString "Store.build_list") fa26x1 (FuncBody.stmts fb26x1) fs26x1 0 [] Value.none Value.none Value.none Value.none Option.none Value.none Value.none 0)) #[]
noncomputable def o349 (P : Params) : Obj := Obj.mk (Value.type "code") Option.none (Data.fields #[Value.str (Str.ofString "build_list") 649, Value.str (Str.ofString "Store.build_list") 650, Value.str (Str.ofString "/claim/cut.py") 651, Value.int 227 0, Value.int 3 0, Value.int 0 0, Value.int 0 0, Value.int 3 0, Value.ref 344, Value.bool Bool.true, Value.int 181 0, Value.ref 345, Value.none, Value.ref 346, Value.ref 347, Value.ref 348, Value.int 655 0, Value.int 227 0, Value.str (Str.ofString "/claim/cut.py") 656]) #[]
noncomputable def o350 (P : Params) : Obj := Obj.mk (Value.type "function") Option.none (Data.func (FuncData.mk (Str.ofString "build_list") (Str.ofString "Store.build_list") fa26x1 (FuncBody.stmts fb26x1) fs26x1 3 [] (Value.ref 343) Value.none Value.none (Value.str (Str.ofString "clausemill.store") 407) Option.none (Value.ref 349) Value.none 0)) #[]
noncomputable def o351 (P : Params) : Obj := Obj.mk (Value.type "tuple") Option.none (Data.seq #[]) #[]
noncomputable def o352 (P : Params) : Obj := Obj.mk Value.none Option.none (Data.fields #[]) #[]
noncomputable def o353 (P : Params) : Obj := Obj.mk (Value.type "tuple") Option.none (Data.seq #[Value.str (Str.ofString "self") 661, Value.str (Str.ofString "cell") 662]) #[]
noncomputable def o354 (P : Params) : Obj := Obj.mk (Value.type "tuple") Option.none (Data.seq #[]) #[]
noncomputable def o355 (P : Params) : Obj := Obj.mk Value.none Option.none (Data.func (FuncData.mk (Str.ofString "list_cells") (Str.ofString "Store.list_cells") fa26x2 (FuncBody.stmts fb26x2) fs25x6 0 [] Value.none Value.none Value.none Value.none Option.none Value.none Value.none 0)) #[]
noncomputable def o356 (P : Params) : Obj := Obj.mk (Value.type "code") Option.none (Data.fields #[Value.str (Str.ofString "list_cells") 658, Value.str (Str.ofString "Store.list_cells") 659, Value.str (Str.ofString "/claim/cut.py") 660, Value.int 230 0, Value.int 2 0, Value.int 0 0, Value.int 0 0, Value.int 3 0, Value.ref 351, Value.bool Bool.true, Value.int 181 0, Value.ref 352, Value.none, Value.ref 353, Value.ref 354, Value.ref 355, Value.int 663 0, Value.int 230 0, Value.str (Str.ofString "/claim/cut.py") 664]) #[]
noncomputable def o357 (P : Params) : Obj := Obj.mk (Value.type "function") Option.none (Data.func (FuncData.mk (Str.ofString "list_cells") (Str.ofString "Store.list_cells") fa26x2 (FuncBody.stmts fb26x2) fs25x6 3 [] Value.none Value.none Value.none (Value.str (Str.ofString "clausemill.store") 407) Option.none (Value.ref 356) Value.none 0)) #[]
noncomputable def o358 (P : Params) : Obj := Obj.mk (Value.type "tuple") Option.none (Data.seq #[]) #[]
noncomputable def o359 (P : Params) : Obj := Obj.mk Value.none Option.none (Data.fields #[]) #[]
noncomputable def o360 (P : Params) : Obj := Obj.mk (Value.type "tuple") Option.none (Data.seq #[Value.str (Str.ofString "self") 669, Value.str (Str.ofString "term") 670, Value.str (Str.ofString "table") 671]) #[]
noncomputable def o361 (P : Params) : Obj := Obj.mk (Value.type "tuple") Option.none (Data.seq #[]) #[]
noncomputable def o362 (P : Params) : Obj := Obj.mk Value.none Option.none (Data.func (FuncData.mk (Str.ofString "put_term") (Str.ofString "Store.put_term") fa26x3 (FuncBody.stmts fb26x3) fs26x3 0 [] Value.none Value.none Value.none Value.none Option.none Value.none Value.none 0)) #[]
noncomputable def o363 (P : Params) : Obj := Obj.mk (Value.type "code") Option.none (Data.fields #[Value.str (Str.ofString "put_term") 666, Value.str (Str.ofString "Store.put_term") 667, Value.str (Str.ofString "/claim/cut.py") 668, Value.int 233 0, Value.int 3 0, Value.int 0 0, Value.int 0 0, Value.int 3 0, Value.ref 358, Value.bool Bool.true, Value.int 181 0, Value.ref 359, Value.none, Value.ref 360, Value.ref 361, Value.ref 362, Value.int 672 0, Value.int 233 0, Value.str (Str.ofString "/claim/cut.py") 673]) #[]
noncomputable def o364 (P : Params) : Obj := Obj.mk (Value.type "function") Option.none (Data.func (FuncData.mk (Str.ofString "put_term") (Str.ofString "Store.put_term") fa26x3 (FuncBody.stmts fb26x3) fs26x3 3 [] Value.none Value.none Value.none (Value.str (Str.ofString "clausemill.store") 407) Option.none (Value.ref 363) Value.none 0)) #[]
noncomputable def o365 (P : Params) : Obj := Obj.mk (Value.type "tuple") Option.none (Data.seq #[]) #[]
noncomputable def o366 (P : Params) : Obj := Obj.mk Value.none Option.none (Data.fields #[]) #[]
noncomputable def o367 (P : Params) : Obj := Obj.mk (Value.type "tuple") Option.none (Data.seq #[Value.str (Str.ofString "self") 678, Value.str (Str.ofString "cell") 679, Value.str (Str.ofString "sizes") 680, Value.str (Str.ofString "size") 681, Value.str (Str.ofString "place") 682, Value.str (Str.ofString "step") 683, Value.str (Str.ofString "part") 684]) #[]
noncomputable def o368 (P : Params) : Obj := Obj.mk (Value.type "tuple") Option.none (Data.seq #[]) #[]
noncomputable def o369 (P : Params) : Obj := Obj.mk Value.none Option.none (Data.func (FuncData.mk (Str.ofString "whole_size") (Str.ofString "Store.whole_size") fa26x4 (FuncBody.stmts fb26x4) fs26x4 0 [] Value.none Value.none Value.none Value.none Option.none Value.none Value.none 0)) #[]
noncomputable def o370 (P : Params) : Obj := Obj.mk (Value.type "code") Option.none (Data.fields #[Value.str (Str.ofString "whole_size") 675, Value.str (Str.ofString "Store.whole_size") 676, Value.str (Str.ofString "/claim/cut.py") 677, Value.int 236 0, Value.int 3 0, Value.int 0 0, Value.int 0 0, Value.int 3 0, Value.ref 365, Value.bool Bool.true, Value.int 181 0, Value.ref 366, Value.none, Value.ref 367, Value.ref 368, Value.ref 369, Value.int 685 0, Value.int 236 0, Value.str (Str.ofString "/claim/cut.py") 686]) #[]
noncomputable def o371 (P : Params) : Obj := Obj.mk (Value.type "function") Option.none (Data.func (FuncData.mk (Str.ofString "whole_size") (Str.ofString "Store.whole_size") fa26x4 (FuncBody.stmts fb26x4) fs26x4 3 [] Value.none Value.none Value.none (Value.str (Str.ofString "clausemill.store") 407) Option.none (Value.ref 370) Value.none 0)) #[]
noncomputable def o372 (P : Params) : Obj := Obj.mk (Value.type "tuple") Option.none (Data.seq #[]) #[]
noncomputable def o373 (P : Params) : Obj := Obj.mk Value.none Option.none (Data.fields #[]) #[]
noncomputable def o374 (P : Params) : Obj := Obj.mk (Value.type "tuple") Option.none (Data.seq #[Value.str (Str.ofString "self") 691, Value.str (Str.ofString "cell") 692, Value.str (Str.ofString "table") 693, Value.str (Str.ofString "known") 694, Value.str (Str.ofString "sizes") 695, Value.str (Str.ofString "results") 696, Value.str (Str.ofString "work") 697, Value.str (Str.ofString "what") 698, Value.str (Str.ofString "f") 699, Value.str (Str.ofString "first") 700, Value.str (Str.ofString "term") 701, Value.str (Str.ofString "tag") 702, Value.str (Str.ofString "place") 703, Value.str (Str.ofString "step") 704]) #[]
noncomputable def o375 (P : Params) : Obj := Obj.mk (Value.type "tuple") Option.none (Data.seq #[]) #[]
noncomputable def o376 (P : Params) : Obj := Obj.mk Value.none Option.none (Data.func (FuncData.mk (Str.ofString "take_term") (Str.ofString "Store.take_term") fa26x5 (FuncBody.stmts fb26x5) fs26x5 0 [] Value.none Value.none Value.none Value.none Option.none Value.none Value.none 0)) #[]
noncomputable def o377 (P : Params) : Obj := Obj.mk (Value.type "code") Option.none (Data.fields #[Value.str (Str.ofString "take_term") 688, Value.str (Str.ofString "Store.take_term") 689, Value.str (Str.ofString "/claim/cut.py") 690, Value.int 247 0, Value.int 3 0, Value.int 0 0, Value.int 0 0, Value.int 3 0, Value.ref 372, Value.bool Bool.true, Value.int 181 0, Value.ref 373, Value.none, Value.ref 374, Value.ref 375, Value.ref 376, Value.int 705 0, Value.int 247 0, Value.str (Str.ofString "/claim/cut.py") 706]) #[]
noncomputable def o378 (P : Params) : Obj := Obj.mk (Value.type "function") Option.none (Data.func (FuncData.mk (Str.ofString "take_term") (Str.ofString "Store.take_term") fa26x5 (FuncBody.stmts fb26x5) fs26x5 3 [] Value.none Value.none Value.none (Value.str (Str.ofString "clausemill.store") 407) Option.none (Value.ref 377) Value.none 0)) #[]
noncomputable def o379 (P : Params) : Obj := Obj.mk (Value.type "tuple") Option.none (Data.seq #[]) #[]
noncomputable def o380 (P : Params) : Obj := Obj.mk (Value.type "dict") Option.none (Data.dict #[DictEntry.mk (PyData.keyHash P (Str.ofString "__module__")) (Value.str (Str.ofString "__module__") 630) (Value.str (Str.ofString "clausemill.store") 407), DictEntry.mk (PyData.keyHash P (Str.ofString "__firstlineno__")) (Value.str (Str.ofString "__firstlineno__") 634) (Value.int 212 633), DictEntry.mk (PyData.keyHash P (Str.ofString "new_struct")) (Value.str (Str.ofString "new_struct") 648) (Value.ref 342), DictEntry.mk (PyData.keyHash P (Str.ofString "build_list")) (Value.str (Str.ofString "build_list") 657) (Value.ref 350), DictEntry.mk (PyData.keyHash P (Str.ofString "list_cells")) (Value.str (Str.ofString "list_cells") 665) (Value.ref 357), DictEntry.mk (PyData.keyHash P (Str.ofString "put_term")) (Value.str (Str.ofString "put_term") 674) (Value.ref 364), DictEntry.mk (PyData.keyHash P (Str.ofString "whole_size")) (Value.str (Str.ofString "whole_size") 687) (Value.ref 371), DictEntry.mk (PyData.keyHash P (Str.ofString "take_term")) (Value.str (Str.ofString "take_term") 707) (Value.ref 378), DictEntry.mk (PyData.keyHash P (Str.ofString "__static_attributes__")) (Value.str (Str.ofString "__static_attributes__") 708) (Value.ref 379), DictEntry.mk (PyData.keyHash P (Str.ofString "__doc__")) (Value.str (Str.ofString "__doc__") 709) Value.none] 2) #[]
noncomputable def o381 (P : Params) : Obj := Obj.mk (Value.type "type") Option.none (Data.cls (ClassData.mk (Str.ofString "Store") [Value.ref 324] [Value.ref 381, Value.ref 324, Value.type "object"] 380 (Str.ofString "Store") Bool.true [] [] Bool.false Option.none Bool.false)) #[Option.some (Value.ref 329), Option.none, Option.some (Value.str (Str.ofString "Store") 623), Option.some (Value.str (Str.ofString "Store") 631), Option.some (Value.builtin "object.__new__"), Option.some (Value.bool Bool.true)]
noncomputable def o382 (P : Params) : Obj := Obj.mk (Value.type "super") Option.none (Data.fields #[Value.ref 381, Value.ref 381, Value.ref 381]) #[]
noncomputable def o383 (P : Params) : Obj := Obj.mk (Value.type "builtin_function_or_method") Option.none (Data.fields #[Value.builtin "object.__init_subclass__", Value.ref 381]) #[]
noncomputable def o3v5 (P : Params) : Obj := Obj.mk (Value.type "dict") Option.none (Data.dict #[DictEntry.mk (PyData.keyHash P (Str.ofString "__name__")) (Value.str (Str.ofString "__name__") 165) (Value.str (Str.ofString "clausemill.areas") 712), DictEntry.mk (PyData.keyHash P (Str.ofString "__doc__")) (Value.str (Str.ofString "__doc__") 166) Value.none, DictEntry.mk (PyData.keyHash P (Str.ofString "__package__")) (Value.str (Str.ofString "__package__") 167) Value.none, DictEntry.mk (PyData.keyHash P (Str.ofString "__loader__")) (Value.str (Str.ofString "__loader__") 168) (Value.builtin "__main__.__loader__#opaque"), DictEntry.mk (PyData.keyHash P (Str.ofString "__spec__")) (Value.str (Str.ofString "__spec__") 169) Value.none, DictEntry.mk (PyData.keyHash P (Str.ofString "__annotations__")) (Value.str (Str.ofString "__annotations__") 170) (Value.ref 6), DictEntry.mk (PyData.keyHash P (Str.ofString "__builtins__")) (Value.str (Str.ofString "__builtins__") 171) (Value.ref 4), DictEntry.mk (PyData.keyHash P (Str.ofString "__file__")) (Value.str (Str.ofString "__file__") 173) (Value.str (Str.ofString "/claim/cut.py") 172), DictEntry.mk (PyData.keyHash P (Str.ofString "__cached__")) (Value.str (Str.ofString "__cached__") 174) Value.none, DictEntry.mk (PyData.keyHash P (Str.ofString "_wall")) (Value.str (Str.ofString "_wall") 193) (Value.ref 21), DictEntry.mk (PyData.keyHash P (Str.ofString "ClausemillError")) (Value.str (Str.ofString "ClausemillError") 215) (Value.ref 31), DictEntry.mk (PyData.keyHash P (Str.ofString "PrologError")) (Value.str (Str.ofString "PrologError") 240) (Value.ref 51), DictEntry.mk (PyData.keyHash P (Str.ofString "A_SYSTEM")) (Value.str (Str.ofString "A_SYSTEM") 242) (Value.int 25 241), DictEntry.mk (PyData.keyHash P (Str.ofString "F_DOT")) (Value.str (Str.ofString "F_DOT") 244) (Value.int 0 243), DictEntry.mk (PyData.keyHash P (Str.ofString "F_ERROR")) (Value.str (Str.ofString "F_ERROR") 246) (Value.int 16 245), DictEntry.mk (PyData.keyHash P (Str.ofString "fixed_atoms")) (Value.str (Str.ofString "fixed_atoms") 252) (Value.ref 60), DictEntry.mk (PyData.keyHash P (Str.ofString "fixed_functors")) (Value.str (Str.ofString "fixed_functors") 258) (Value.ref 67), DictEntry.mk (PyData.keyHash P (Str.ofString "Symbols")) (Value.str (Str.ofString "Symbols") 378) (Value.ref 154), DictEntry.mk (PyData.keyHash P (Str.ofString "system_error")) (Value.str (Str.ofString "system_error") 387) (Value.ref 165), DictEntry.mk (PyData.keyHash P (Str.ofString "formal_of")) (Value.str (Str.ofString "formal_of") 398) (Value.ref 172), DictEntry.mk (PyData.keyHash P (Str.ofString "resource_error")) (Value.str (Str.ofString "resource_error") 406) (Value.ref 179), DictEntry.mk (PyData.keyHash P (Str.ofString "REF")) (Value.str (Str.ofString "REF") 410) (Value.int 0 409), DictEntry.mk (PyData.keyHash P (Str.ofString "SRF")) (Value.str (Str.ofString "SRF") 412) (Value.int 1 411), DictEntry.mk (PyData.keyHash P (Str.ofString "STR")) (Value.str (Str.ofString "STR") 414) (Value.int 2 413), DictEntry.mk (PyData.keyHash P (Str.ofString "LIS")) (Value.str (Str.ofString "LIS") 416) (Value.int 3 415), DictEntry.mk (PyData.keyHash P (Str.ofString "CON")) (Value.str (Str.ofString "CON") 418) (Value.int 4 417), DictEntry.mk (PyData.keyHash P (Str.ofString "INT")) (Value.str (Str.ofString "INT") 420) (Value.int 5 419), DictEntry.mk (PyData.keyHash P (Str.ofString "FUN")) (Value.str (Str.ofString "FUN") 422) (Value.int 6 421), DictEntry.mk (PyData.keyHash P (Str.ofString "VOID")) (Value.str (Str.ofString "VOID") 424) (Value.ref 180), DictEntry.mk (PyData.keyHash P (Str.ofString "VISIT")) (Value.str (Str.ofString "VISIT") 426) (Value.int 0 425), DictEntry.mk (PyData.keyHash P (Str.ofString "BUILD")) (Value.str (Str.ofString "BUILD") 428) (Value.int 1 427), DictEntry.mk (PyData.keyHash P (Str.ofString "Cells")) (Value.str (Str.ofString "Cells") 622) (Value.ref 324), DictEntry.mk (PyData.keyHash P (Str.ofString "Store")) (Value.str (Str.ofString "Store") 711) (Value.ref 381), DictEntry.mk (PyData.keyHash P (Str.ofString "READ")) (Value.str (Str.ofString "READ") 715) (Value.str (Str.ofString "read") 714), DictEntry.mk (PyData.keyHash P (Str.ofString "Areas")) (Value.str (Str.ofString "Areas") 923) (Value.ref 541)] 35) #[]
noncomputable def o12v6 (P : Params) : Obj := Obj.mk Value.none Option.none (Data.fields #[Value.int 1 0, Value.int 0 0, Value.ref 20, Value.int 5 0, Value.int 0 0, Value.ref 27, Value.int 7 0, Value.int 0 0, Value.ref 40, Value.int 14 0, Value.int 0 0, Value.ref 59, Value.int 16 0, Value.int 0 0, Value.ref 66, Value.int 18 0, Value.int 0 0, Value.ref 73, Value.int 76 0, Value.int 0 0, Value.ref 164, Value.int 78 0, Value.int 0 0, Value.ref 171, Value.int 83 0, Value.int 0 0, Value.ref 178, Value.int 96 0, Value.int 0 0, Value.ref 186, Value.int 212 0, Value.int 0 0, Value.ref 334, Value.int 289 0, Value.int 0 0, Value.ref 389]) #[]
noncomputable def o384 (P : Params) : Obj := Obj.mk (Value.type "tuple") Option.none (Data.seq #[]) #[]
noncomputable def o385 (P : Params) : Obj := Obj.mk (Value.type "builtin_function_or_method") Option.none (Data.fields #[Value.builtin "type.__prepare__", Value.type "type"]) #[]
noncomputable def o386 (P : Params) : Obj := Obj.mk (Value.type "dict") Option.none (Data.dict #[DictEntry.mk (PyData.keyHash P (Str.ofString "__module__")) (Value.str (Str.ofString "__module__") 723) (Value.str (Str.ofString "clausemill.areas") 712), DictEntry.mk (PyData.keyHash P (Str.ofString "__qualname__")) (Value.str (Str.ofString "__qualname__") 725) (Value.str (Str.ofString "Areas") 724), DictEntry.mk (PyData.keyHash P (Str.ofString "__firstlineno__")) (Value.str (Str.ofString "__firstlineno__") 727) (Value.int 289 726), DictEntry.mk (PyData.keyHash P (Str.ofString "__init__")) (Value.str (Str.ofString "__init__") 741) (Value.ref 398), DictEntry.mk (PyData.keyHash P (Str.ofString "reset")) (Value.str (Str.ofString "reset") 748) (Value.ref 405), DictEntry.mk (PyData.keyHash P (Str.ofString "set_x")) (Value.str (Str.ofString "set_x") 757) (Value.ref 412), DictEntry.mk (PyData.keyHash P (Str.ofString "set_arguments")) (Value.str (Str.ofString "set_arguments") 765) (Value.ref 419), DictEntry.mk (PyData.keyHash P (Str.ofString "arg")) (Value.str (Str.ofString "arg") 773) (Value.ref 426), DictEntry.mk (PyData.keyHash P (Str.ofString "unify")) (Value.str (Str.ofString "unify") 782) (Value.ref 433), DictEntry.mk (PyData.keyHash P (Str.ofString "take")) (Value.str (Str.ofString "take") 790) (Value.ref 440), DictEntry.mk (PyData.keyHash P (Str.ofString "put")) (Value.str (Str.ofString "put") 798) (Value.ref 447), DictEntry.mk (PyData.keyHash P (Str.ofString "top")) (Value.str (Str.ofString "top") 805) (Value.ref 454), DictEntry.mk (PyData.keyHash P (Str.ofString "push_environment")) (Value.str (Str.ofString "push_environment") 813) (Value.ref 461), DictEntry.mk (PyData.keyHash P (Str.ofString "pop_environment")) (Value.str (Str.ofString "pop_environment") 820) (Value.ref 468), DictEntry.mk (PyData.keyHash P (Str.ofString "in_chain")) (Value.str (Str.ofString "in_chain") 828) (Value.ref 475), DictEntry.mk (PyData.keyHash P (Str.ofString "set_choice")) (Value.str (Str.ofString "set_choice") 836) (Value.ref 482), DictEntry.mk (PyData.keyHash P (Str.ofString "push_choice")) (Value.str (Str.ofString "push_choice") 845) (Value.ref 489), DictEntry.mk (PyData.keyHash P (Str.ofString "set_alternative")) (Value.str (Str.ofString "set_alternative") 853) (Value.ref 496), DictEntry.mk (PyData.keyHash P (Str.ofString "choice_part")) (Value.str (Str.ofString "choice_part") 861) (Value.ref 503), DictEntry.mk (PyData.keyHash P (Str.ofString "restore_choice")) (Value.str (Str.ofString "restore_choice") 868) (Value.ref 510), DictEntry.mk (PyData.keyHash P (Str.ofString "pop_choice")) (Value.str (Str.ofString "pop_choice") 875) (Value.ref 517), DictEntry.mk (PyData.keyHash P (Str.ofString "cut_back")) (Value.str (Str.ofString "cut_back") 883) (Value.ref 524), DictEntry.mk (PyData.keyHash P (Str.ofString "choices")) (Value.str (Str.ofString "choices") 890) (Value.ref 531), DictEntry.mk (PyData.keyHash P (Str.ofString "environments")) (Value.str (Str.ofString "environments") 897) (Value.ref 538), DictEntry.mk (PyData.keyHash P (Str.ofString "__static_attributes__")) (Value.str (Str.ofString "__static_attributes__") 916) (Value.ref 539)] 25) #[]
noncomputable def o387 (P : Params) : Obj := Obj.mk (Value.type "tuple") Option.none (Data.seq #[]) #[]
noncomputable def o388 (P : Params) : Obj := Obj.mk Value.none Option.none (Data.fields #[Value.int 291 0, Value.int 4 0, Value.ref 397, Value.int 299 0, Value.int 4 0, Value.ref 404, Value.int 314 0, Value.int 4 0, Value.ref 411, Value.int 317 0, Value.int 4 0, Value.ref 418, Value.int 320 0, Value.int 4 0, Value.ref 425, Value.int 323 0, Value.int 4 0, Value.ref 432, Value.int 326 0, Value.int 4 0, Value.ref 439, Value.int 329 0, Value.int 4 0, Value.ref 446, Value.int 332 0, Value.int 4 0, Value.ref 453, Value.int 335 0, Value.int 4 0, Value.ref 460, Value.int 338 0, Value.int 4 0, Value.ref 467, Value.int 341 0, Value.int 4 0, Value.ref 474, Value.int 344 0, Value.int 4 0, Value.ref 481, Value.int 347 0, Value.int 4 0, Value.ref 488, Value.int 350 0, Value.int 4 0, Value.ref 495, Value.int 353 0, Value.int 4 0, Value.ref 502, Value.int 356 0, Value.int 4 0, Value.ref 509, Value.int 359 0, Value.int 4 0, Value.ref 516, Value.int 362 0, Value.int 4 0, Value.ref 523, Value.int 365 0, Value.int 4 0, Value.ref 530, Value.int 368 0, Value.int 4 0, Value.ref 537]) #[]
noncomputable def o389 (P : Params) : Obj := Obj.mk (Value.type "code") Option.none (Data.fields #[Value.str (Str.ofString "Areas") 718, Value.str (Str.ofString "Areas") 719, Value.str (Str.ofString "/claim/cut.py") 720, Value.int 289 0, Value.int 0 0, Value.int 0 0, Value.int 0 0, Value.int 0 0, Value.ref 387, Value.bool Bool.false, Value.int 181 0, Value.ref 388, Value.none, Value.none, Value.none, Value.none, Value.int 721 0, Value.int 289 0, Value.str (Str.ofString "/claim/cut.py") 722]) #[]
noncomputable def o390 (P : Params) : Obj := Obj.mk (Value.type "frame") Option.none Data.plain #[Option.some (Value.ref 389), Option.some (Value.ref 3), Option.some (Value.ref 386), Option.none, Option.some (Value.str (Str.ofString "clausemill.areas") 712), Option.none, Option.some (Value.ref 0)]
noncomputable def o391 (P : Params) : Obj := Obj.mk (Value.type "tuple") Option.none (Data.seq #[Value.int 100000 728, Value.bool Bool.true, Value.int 4096 729]) #[]
noncomputable def o392 (P : Params) : Obj := Obj.mk (Value.type "tuple") Option.none (Data.seq #[]) #[]
noncomputable def o393 (P : Params) : Obj := Obj.mk Value.none Option.none (Data.fields #[]) #[]
noncomputable def o394 (P : Params) : Obj := Obj.mk (Value.type "tuple") Option.none (Data.seq #[Value.str (Str.ofString "self") 733, Value.str (Str.ofString "symbols") 734, Value.str (Str.ofString "code") 735, Value.str (Str.ofString "max_heap") 736, Value.str (Str.ofString "occurs") 737, Value.str (Str.ofString "max_bits") 738]) #[]
noncomputable def o395 (P : Params) : Obj := Obj.mk (Value.type "tuple") Option.none (Data.seq #[]) #[]
noncomputable def o396 (P : Params) : Obj := Obj.mk Value.none Option.none (Data.func (FuncData.mk (Str.ofString "__init__") (Str.ofString "Areas.__init__") fa29x0 (FuncBody.stmts fb29x0) fs29x0 0 [] Value.none Value.none Value.none Value.none Option.none Value.none Value.none 0)) #[]
noncomputable def o397 (P : Params) : Obj := Obj.mk (Value.type "code") Option.none (Data.fields #[Value.str (Str.ofString "__init__") 730, Value.str (Str.ofString "Areas.__init__") 731, Value.str (Str.ofString "/claim/cut.py") 732, Value.int 291 0, Value.int 6 0, Value.int 0 0, Value.int 0 0, Value.int 3 0, Value.ref 392, Value.bool Bool.true, Value.int 181 0, Value.ref 393, Value.none, Value.ref 394, Value.ref 395, Value.ref 396, Value.int 739 0, Value.int 291 0, Value.str (Str.ofString "/claim/cut.py") 740]) #[]
noncomputable def o398 (P : Params) : Obj := Obj.mk (Value.type "function") Option.none (Data.func (FuncData.mk (Str.ofString "__init__") (Str.ofString "Areas.__init__") fa29x0 (FuncBody.stmts fb29x0) fs29x0 3 [] (Value.ref 391) Value.none Value.none (Value.str (Str.ofString "clausemill.areas") 712) Option.none (Value.ref 397) Value.none 0)) #[]
noncomputable def o399 (P : Params) : Obj := Obj.mk (Value.type "tuple") Option.none (Data.seq #[]) #[]
noncomputable def o400 (P : Params) : Obj := Obj.mk Value.none Option.none (Data.fields #[]) #[]
noncomputable def o401 (P : Params) : Obj := Obj.mk (Value.type "tuple") Option.none (Data.seq #[Value.str (Str.ofString "self") 745]) #[]
noncomputable def o402 (P : Params) : Obj := Obj.mk (Value.type "tuple") Option.none (Data.seq #[]) #[]
noncomputable def o403 (P : Params) : Obj := Obj.mk Value.none Option.none (Data.func (FuncData.mk (Str.ofString "reset") (Str.ofString "Areas.reset") fa29x1 (FuncBody.stmts fb29x1) fs29x1 0 [] Value.none Value.none Value.none Value.none Option.none Value.none Value.none 0)) #[]
noncomputable def o404 (P : Params) : Obj := Obj.mk (Value.type "code") Option.none (Data.fields #[Value.str (Str.ofString "reset") 742, Value.str (Str.ofString "Areas.reset") 743, Value.str (Str.ofString "/claim/cut.py") 744, Value.int 299 0, Value.int 1 0, Value.int 0 0, Value.int 0 0, Value.int 3 0, Value.ref 399, Value.bool Bool.true, Value.int 181 0, Value.ref 400, Value.none, Value.ref 401, Value.ref 402, Value.ref 403, Value.int 746 0, Value.int 299 0, Value.str (Str.ofString "/claim/cut.py") 747]) #[]
noncomputable def o405 (P : Params) : Obj := Obj.mk (Value.type "function") Option.none (Data.func (FuncData.mk (Str.ofString "reset") (Str.ofString "Areas.reset") fa29x1 (FuncBody.stmts fb29x1) fs29x1 3 [] Value.none Value.none Value.none (Value.str (Str.ofString "clausemill.areas") 712) Option.none (Value.ref 404) Value.none 0)) #[]
noncomputable def o406 (P : Params) : Obj := Obj.mk (Value.type "tuple") Option.none (Data.seq #[]) #[]
noncomputable def o407 (P : Params) : Obj := Obj.mk Value.none Option.none (Data.fields #[]) #[]
noncomputable def o408 (P : Params) : Obj := Obj.mk (Value.type "tuple") Option.none (Data.seq #[Value.str (Str.ofString "self") 752, Value.str (Str.ofString "number") 753, Value.str (Str.ofString "cell") 754]) #[]
noncomputable def o409 (P : Params) : Obj := Obj.mk (Value.type "tuple") Option.none (Data.seq #[]) #[]
noncomputable def o410 (P : Params) : Obj := Obj.mk Value.none Option.none (Data.func (FuncData.mk (Str.ofString "set_x") (Str.ofString "Areas.set_x") fa29x2 (FuncBody.stmts fb29x2) fs29x2 0 [] Value.none Value.none Value.none Value.none Option.none Value.none Value.none 0)) #[]
noncomputable def o411 (P : Params) : Obj := Obj.mk (Value.type "code") Option.none (Data.fields #[Value.str (Str.ofString "set_x") 749, Value.str (Str.ofString "Areas.set_x") 750, Value.str (Str.ofString "/claim/cut.py") 751, Value.int 314 0, Value.int 3 0, Value.int 0 0, Value.int 0 0, Value.int 3 0, Value.ref 406, Value.bool Bool.true, Value.int 181 0, Value.ref 407, Value.none, Value.ref 408, Value.ref 409, Value.ref 410, Value.int 755 0, Value.int 314 0, Value.str (Str.ofString "/claim/cut.py") 756]) #[]
noncomputable def o412 (P : Params) : Obj := Obj.mk (Value.type "function") Option.none (Data.func (FuncData.mk (Str.ofString "set_x") (Str.ofString "Areas.set_x") fa29x2 (FuncBody.stmts fb29x2) fs29x2 3 [] Value.none Value.none Value.none (Value.str (Str.ofString "clausemill.areas") 712) Option.none (Value.ref 411) Value.none 0)) #[]
noncomputable def o413 (P : Params) : Obj := Obj.mk (Value.type "tuple") Option.none (Data.seq #[]) #[]
noncomputable def o414 (P : Params) : Obj := Obj.mk Value.none Option.none (Data.fields #[]) #[]
noncomputable def o415 (P : Params) : Obj := Obj.mk (Value.type "tuple") Option.none (Data.seq #[Value.str (Str.ofString "self") 761, Value.str (Str.ofString "cells") 762]) #[]
noncomputable def o416 (P : Params) : Obj := Obj.mk (Value.type "tuple") Option.none (Data.seq #[]) #[]
noncomputable def o417 (P : Params) : Obj := Obj.mk Value.none Option.none (Data.func (FuncData.mk (Str.ofString "set_arguments") (Str.ofString "Areas.set_arguments") fa29x3 (FuncBody.stmts fb29x3) fs29x3 0 [] Value.none Value.none Value.none Value.none Option.none Value.none Value.none 0)) #[]
noncomputable def o418 (P : Params) : Obj := Obj.mk (Value.type "code") Option.none (Data.fields #[Value.str (Str.ofString "set_arguments") 758, Value.str (Str.ofString "Areas.set_arguments") 759, Value.str (Str.ofString "/claim/cut.py") 760, Value.int 317 0, Value.int 2 0, Value.int 0 0, Value.int 0 0, Value.int 3 0, Value.ref 413, Value.bool Bool.true, Value.int 181 0, Value.ref 414, Value.none, Value.ref 415, Value.ref 416, Value.ref 417, Value.int 763 0, Value.int 317 0, Value.str (Str.ofString "/claim/cut.py") 764]) #[]
noncomputable def o419 (P : Params) : Obj := Obj.mk (Value.type "function") Option.none (Data.func (FuncData.mk (Str.ofString "set_arguments") (Str.ofString "Areas.set_arguments") fa29x3 (FuncBody.stmts fb29x3) fs29x3 3 [] Value.none Value.none Value.none (Value.str (Str.ofString "clausemill.areas") 712) Option.none (Value.ref 418) Value.none 0)) #[]
noncomputable def o420 (P : Params) : Obj := Obj.mk (Value.type "tuple") Option.none (Data.seq #[]) #[]
noncomputable def o421 (P : Params) : Obj := Obj.mk Value.none Option.none (Data.fields #[]) #[]
noncomputable def o422 (P : Params) : Obj := Obj.mk (Value.type "tuple") Option.none (Data.seq #[Value.str (Str.ofString "self") 769, Value.str (Str.ofString "i") 770]) #[]
noncomputable def o423 (P : Params) : Obj := Obj.mk (Value.type "tuple") Option.none (Data.seq #[]) #[]
noncomputable def o424 (P : Params) : Obj := Obj.mk Value.none Option.none (Data.func (FuncData.mk (Str.ofString "arg") (Str.ofString "Areas.arg") fa29x4 (FuncBody.stmts fb29x4) fs29x4 0 [] Value.none Value.none Value.none Value.none Option.none Value.none Value.none 0)) #[]
noncomputable def o425 (P : Params) : Obj := Obj.mk (Value.type "code") Option.none (Data.fields #[Value.str (Str.ofString "arg") 766, Value.str (Str.ofString "Areas.arg") 767, Value.str (Str.ofString "/claim/cut.py") 768, Value.int 320 0, Value.int 2 0, Value.int 0 0, Value.int 0 0, Value.int 3 0, Value.ref 420, Value.bool Bool.true, Value.int 181 0, Value.ref 421, Value.none, Value.ref 422, Value.ref 423, Value.ref 424, Value.int 771 0, Value.int 320 0, Value.str (Str.ofString "/claim/cut.py") 772]) #[]
noncomputable def o426 (P : Params) : Obj := Obj.mk (Value.type "function") Option.none (Data.func (FuncData.mk (Str.ofString "arg") (Str.ofString "Areas.arg") fa29x4 (FuncBody.stmts fb29x4) fs29x4 3 [] Value.none Value.none Value.none (Value.str (Str.ofString "clausemill.areas") 712) Option.none (Value.ref 425) Value.none 0)) #[]
noncomputable def o427 (P : Params) : Obj := Obj.mk (Value.type "tuple") Option.none (Data.seq #[]) #[]
noncomputable def o428 (P : Params) : Obj := Obj.mk Value.none Option.none (Data.fields #[]) #[]
noncomputable def o429 (P : Params) : Obj := Obj.mk (Value.type "tuple") Option.none (Data.seq #[Value.str (Str.ofString "self") 777, Value.str (Str.ofString "c1") 778, Value.str (Str.ofString "c2") 779]) #[]
noncomputable def o430 (P : Params) : Obj := Obj.mk (Value.type "tuple") Option.none (Data.seq #[]) #[]
noncomputable def o431 (P : Params) : Obj := Obj.mk Value.none Option.none (Data.func (FuncData.mk (Str.ofString "unify") (Str.ofString "Areas.unify") fa29x5 (FuncBody.stmts fb29x5) fs25x8 0 [] Value.none Value.none Value.none Value.none Option.none Value.none Value.none 0)) #[]
noncomputable def o432 (P : Params) : Obj := Obj.mk (Value.type "code") Option.none (Data.fields #[Value.str (Str.ofString "unify") 774, Value.str (Str.ofString "Areas.unify") 775, Value.str (Str.ofString "/claim/cut.py") 776, Value.int 323 0, Value.int 3 0, Value.int 0 0, Value.int 0 0, Value.int 3 0, Value.ref 427, Value.bool Bool.true, Value.int 181 0, Value.ref 428, Value.none, Value.ref 429, Value.ref 430, Value.ref 431, Value.int 780 0, Value.int 323 0, Value.str (Str.ofString "/claim/cut.py") 781]) #[]
noncomputable def o433 (P : Params) : Obj := Obj.mk (Value.type "function") Option.none (Data.func (FuncData.mk (Str.ofString "unify") (Str.ofString "Areas.unify") fa29x5 (FuncBody.stmts fb29x5) fs25x8 3 [] Value.none Value.none Value.none (Value.str (Str.ofString "clausemill.areas") 712) Option.none (Value.ref 432) Value.none 0)) #[]
noncomputable def o434 (P : Params) : Obj := Obj.mk (Value.type "tuple") Option.none (Data.seq #[]) #[]
noncomputable def o435 (P : Params) : Obj := Obj.mk Value.none Option.none (Data.fields #[]) #[]
noncomputable def o436 (P : Params) : Obj := Obj.mk (Value.type "tuple") Option.none (Data.seq #[Value.str (Str.ofString "self") 786, Value.str (Str.ofString "cell") 787]) #[]
noncomputable def o437 (P : Params) : Obj := Obj.mk (Value.type "tuple") Option.none (Data.seq #[]) #[]
noncomputable def o438 (P : Params) : Obj := Obj.mk Value.none Option.none (Data.func (FuncData.mk (Str.ofString "take") (Str.ofString "Areas.take") fa29x6 (FuncBody.stmts fb29x6) fs25x6 0 [] Value.none Value.none Value.none Value.none Option.none Value.none Value.none 0)) #[]
noncomputable def o439 (P : Params) : Obj := Obj.mk (Value.type "code") Option.none (Data.fields #[Value.str (Str.ofString "take") 783, Value.str (Str.ofString "Areas.take") 784, Value.str (Str.ofString "/claim/cut.py") 785, Value.int 326 0, Value.int 2 0, Value.int 0 0, Value.int 0 0, Value.int 3 0, Value.ref 434, Value.bool Bool.true, Value.int 181 0, Value.ref 435, Value.none, Value.ref 436, Value.ref 437, Value.ref 438, Value.int 788 0, Value.int 326 0, Value.str (Str.ofString "/claim/cut.py") 789]) #[]
noncomputable def o440 (P : Params) : Obj := Obj.mk (Value.type "function") Option.none (Data.func (FuncData.mk (Str.ofString "take") (Str.ofString "Areas.take") fa29x6 (FuncBody.stmts fb29x6) fs25x6 3 [] Value.none Value.none Value.none (Value.str (Str.ofString "clausemill.areas") 712) Option.none (Value.ref 439) Value.none 0)) #[]
noncomputable def o441 (P : Params) : Obj := Obj.mk (Value.type "tuple") Option.none (Data.seq #[]) #[]
noncomputable def o442 (P : Params) : Obj := Obj.mk Value.none Option.none (Data.fields #[]) #[]
noncomputable def o443 (P : Params) : Obj := Obj.mk (Value.type "tuple") Option.none (Data.seq #[Value.str (Str.ofString "self") 794, Value.str (Str.ofString "term") 795]) #[]
noncomputable def o444 (P : Params) : Obj := Obj.mk (Value.type "tuple") Option.none (Data.seq #[]) #[]
noncomputable def o445 (P : Params) : Obj := Obj.mk Value.none Option.none (Data.func (FuncData.mk (Str.ofString "put") (Str.ofString "Areas.put") fa29x7 (FuncBody.stmts fb29x7) fs29x7 0 [] Value.none Value.none Value.none Value.none Option.none Value.none Value.none 0)) #[]
noncomputable def o446 (P : Params) : Obj := Obj.mk (Value.type "code") Option.none (Data.fields #[Value.str (Str.ofString "put") 791, Value.str (Str.ofString "Areas.put") 792, Value.str (Str.ofString "/claim/cut.py") 793, Value.int 329 0, Value.int 2 0, Value.int 0 0, Value.int 0 0, Value.int 3 0, Value.ref 441, Value.bool Bool.true, Value.int 181 0, Value.ref 442, Value.none, Value.ref 443, Value.ref 444, Value.ref 445, Value.int 796 0, Value.int 329 0, Value.str (Str.ofString "/claim/cut.py") 797]) #[]
noncomputable def o447 (P : Params) : Obj := Obj.mk (Value.type "function") Option.none (Data.func (FuncData.mk (Str.ofString "put") (Str.ofString "Areas.put") fa29x7 (FuncBody.stmts fb29x7) fs29x7 3 [] Value.none Value.none Value.none (Value.str (Str.ofString "clausemill.areas") 712) Option.none (Value.ref 446) Value.none 0)) #[]
noncomputable def o448 (P : Params) : Obj := Obj.mk (Value.type "tuple") Option.none (Data.seq #[]) #[]
noncomputable def o449 (P : Params) : Obj := Obj.mk Value.none Option.none (Data.fields #[]) #[]
noncomputable def o450 (P : Params) : Obj := Obj.mk (Value.type "tuple") Option.none (Data.seq #[Value.str (Str.ofString "self") 802]) #[]
noncomputable def o451 (P : Params) : Obj := Obj.mk (Value.type "tuple") Option.none (Data.seq #[]) #[]
noncomputable def o452 (P : Params) : Obj := Obj.mk Value.none Option.none (Data.func (FuncData.mk (Str.ofString "top") (Str.ofString "Areas.top") fa29x8 (FuncBody.stmts fb29x8) fs9x9 0 [] Value.none Value.none Value.none Value.none Option.none Value.none Value.none 0)) #[]
noncomputable def o453 (P : Params) : Obj := Obj.mk (Value.type "code") Option.none (Data.fields #[Value.str (Str.ofString "top") 799, Value.str (Str.ofString "Areas.top") 800, Value.str (Str.ofString "/claim/cut.py") 801, Value.int 332 0, Value.int 1 0, Value.int 0 0, Value.int 0 0, Value.int 3 0, Value.ref 448, Value.bool Bool.true, Value.int 181 0, Value.ref 449, Value.none, Value.ref 450, Value.ref 451, Value.ref 452, Value.int 803 0, Value.int 332 0, Value.str (Str.ofString "/claim/cut.py") 804]) #[]
noncomputable def o454 (P : Params) : Obj := Obj.mk (Value.type "function") Option.none (Data.func (FuncData.mk (Str.ofString "top") (Str.ofString "Areas.top") fa29x8 (FuncBody.stmts fb29x8) fs9x9 3 [] Value.none Value.none Value.none (Value.str (Str.ofString "clausemill.areas") 712) Option.none (Value.ref 453) Value.none 0)) #[]
noncomputable def o455 (P : Params) : Obj := Obj.mk (Value.type "tuple") Option.none (Data.seq #[]) #[]
noncomputable def o456 (P : Params) : Obj := Obj.mk Value.none Option.none (Data.fields #[]) #[]
noncomputable def o457 (P : Params) : Obj := Obj.mk (Value.type "tuple") Option.none (Data.seq #[Value.str (Str.ofString "self") 809, Value.str (Str.ofString "size") 810]) #[]
noncomputable def o458 (P : Params) : Obj := Obj.mk (Value.type "tuple") Option.none (Data.seq #[]) #[]
noncomputable def o459 (P : Params) : Obj := Obj.mk Value.none Option.none (Data.func (FuncData.mk (Str.ofString "push_environment") (Str.ofString "Areas.push_environment") fa29x9 (FuncBody.stmts fb29x9) fs29x9 0 [] Value.none Value.none Value.none Value.none Option.none Value.none Value.none 0)) #[]
noncomputable def o460 (P : Params) : Obj := Obj.mk (Value.type "code") Option.none (Data.fields #[Value.str (Str.ofString "push_environment") 806, Value.str (Str.ofString "Areas.push_environment") 807, Value.str (Str.ofString "/claim/cut.py") 808, Value.int 335 0, Value.int 2 0, Value.int 0 0, Value.int 0 0, Value.int 3 0, Value.ref 455, Value.bool Bool.true, Value.int 181 0, Value.ref 456, Value.none, Value.ref 457, Value.ref 458, Value.ref 459, Value.int 811 0, Value.int 335 0, Value.str (Str.ofString "/claim/cut.py") 812]) #[]
noncomputable def o461 (P : Params) : Obj := Obj.mk (Value.type "function") Option.none (Data.func (FuncData.mk (Str.ofString "push_environment") (Str.ofString "Areas.push_environment") fa29x9 (FuncBody.stmts fb29x9) fs29x9 3 [] Value.none Value.none Value.none (Value.str (Str.ofString "clausemill.areas") 712) Option.none (Value.ref 460) Value.none 0)) #[]
noncomputable def o462 (P : Params) : Obj := Obj.mk (Value.type "tuple") Option.none (Data.seq #[]) #[]
noncomputable def o463 (P : Params) : Obj := Obj.mk Value.none Option.none (Data.fields #[]) #[]
noncomputable def o464 (P : Params) : Obj := Obj.mk (Value.type "tuple") Option.none (Data.seq #[Value.str (Str.ofString "self") 817]) #[]
noncomputable def o465 (P : Params) : Obj := Obj.mk (Value.type "tuple") Option.none (Data.seq #[]) #[]
noncomputable def o466 (P : Params) : Obj := Obj.mk Value.none Option.none (Data.func (FuncData.mk (Str.ofString "pop_environment") (Str.ofString "Areas.pop_environment") fa29x10 (FuncBody.stmts fb29x10) fs9x9 0 [] Value.none Value.none Value.none Value.none Option.none Value.none Value.none 0)) #[]
noncomputable def o467 (P : Params) : Obj := Obj.mk (Value.type "code") Option.none (Data.fields #[Value.str (Str.ofString "pop_environment") 814, Value.str (Str.ofString "Areas.pop_environment") 815, Value.str (Str.ofString "/claim/cut.py") 816, Value.int 338 0, Value.int 1 0, Value.int 0 0, Value.int 0 0, Value.int 3 0, Value.ref 462, Value.bool Bool.true, Value.int 181 0, Value.ref 463, Value.none, Value.ref 464, Value.ref 465, Value.ref 466, Value.int 818 0, Value.int 338 0, Value.str (Str.ofString "/claim/cut.py") 819]) #[]
noncomputable def o468 (P : Params) : Obj := Obj.mk (Value.type "function") Option.none (Data.func (FuncData.mk (Str.ofString "pop_environment") (Str.ofString "Areas.pop_environment") fa29x10 (FuncBody.stmts fb29x10) fs9x9 3 [] Value.none Value.none Value.none (Value.str (Str.ofString "clausemill.areas") 712) Option.none (Value.ref 467) Value.none 0)) #[]
noncomputable def o469 (P : Params) : Obj := Obj.mk (Value.type "tuple") Option.none (Data.seq #[]) #[]
noncomputable def o470 (P : Params) : Obj := Obj.mk Value.none Option.none (Data.fields #[]) #[]
noncomputable def o471 (P : Params) : Obj := Obj.mk (Value.type "tuple") Option.none (Data.seq #[Value.str (Str.ofString "self") 824, Value.str (Str.ofString "index") 825]) #[]
noncomputable def o472 (P : Params) : Obj := Obj.mk (Value.type "tuple") Option.none (Data.seq #[]) #[]
noncomputable def o473 (P : Params) : Obj := Obj.mk Value.none Option.none (Data.func (FuncData.mk (Str.ofString "in_chain") (Str.ofString "Areas.in_chain") fa29x11 (FuncBody.stmts fb29x11) fs29x11 0 [] Value.none Value.none Value.none Value.none Option.none Value.none Value.none 0)) #[]
noncomputable def o474 (P : Params) : Obj := Obj.mk (Value.type "code") Option.none (Data.fields #[Value.str (Str.ofString "in_chain") 821, Value.str (Str.ofString "Areas.in_chain") 822, Value.str (Str.ofString "/claim/cut.py") 823, Value.int 341 0, Value.int 2 0, Value.int 0 0, Value.int 0 0, Value.int 3 0, Value.ref 469, Value.bool Bool.true, Value.int 181 0, Value.ref 470, Value.none, Value.ref 471, Value.ref 472, Value.ref 473, Value.int 826 0, Value.int 341 0, Value.str (Str.ofString "/claim/cut.py") 827]) #[]
noncomputable def o475 (P : Params) : Obj := Obj.mk (Value.type "function") Option.none (Data.func (FuncData.mk (Str.ofString "in_chain") (Str.ofString "Areas.in_chain") fa29x11 (FuncBody.stmts fb29x11) fs29x11 3 [] Value.none Value.none Value.none (Value.str (Str.ofString "clausemill.areas") 712) Option.none (Value.ref 474) Value.none 0)) #[]
noncomputable def o476 (P : Params) : Obj := Obj.mk (Value.type "tuple") Option.none (Data.seq #[]) #[]
noncomputable def o477 (P : Params) : Obj := Obj.mk Value.none Option.none (Data.fields #[]) #[]
noncomputable def o478 (P : Params) : Obj := Obj.mk (Value.type "tuple") Option.none (Data.seq #[Value.str (Str.ofString "self") 832, Value.str (Str.ofString "b") 833]) #[]
noncomputable def o479 (P : Params) : Obj := Obj.mk (Value.type "tuple") Option.none (Data.seq #[]) #[]
noncomputable def o480 (P : Params) : Obj := Obj.mk Value.none Option.none (Data.func (FuncData.mk (Str.ofString "set_choice") (Str.ofString "Areas.set_choice") fa29x12 (FuncBody.stmts fb29x12) fs29x12 0 [] Value.none Value.none Value.none Value.none Option.none Value.none Value.none 0)) #[]
noncomputable def o481 (P : Params) : Obj := Obj.mk (Value.type "code") Option.none (Data.fields #[Value.str (Str.ofString "set_choice") 829, Value.str (Str.ofString "Areas.set_choice") 830, Value.str (Str.ofString "/claim/cut.py") 831, Value.int 344 0, Value.int 2 0, Value.int 0 0, Value.int 0 0, Value.int 3 0, Value.ref 476, Value.bool Bool.true, Value.int 181 0, Value.ref 477, Value.none, Value.ref 478, Value.ref 479, Value.ref 480, Value.int 834 0, Value.int 344 0, Value.str (Str.ofString "/claim/cut.py") 835]) #[]
noncomputable def o482 (P : Params) : Obj := Obj.mk (Value.type "function") Option.none (Data.func (FuncData.mk (Str.ofString "set_choice") (Str.ofString "Areas.set_choice") fa29x12 (FuncBody.stmts fb29x12) fs29x12 3 [] Value.none Value.none Value.none (Value.str (Str.ofString "clausemill.areas") 712) Option.none (Value.ref 481) Value.none 0)) #[]
noncomputable def o483 (P : Params) : Obj := Obj.mk (Value.type "tuple") Option.none (Data.seq #[]) #[]
noncomputable def o484 (P : Params) : Obj := Obj.mk Value.none Option.none (Data.fields #[]) #[]
noncomputable def o485 (P : Params) : Obj := Obj.mk (Value.type "tuple") Option.none (Data.seq #[Value.str (Str.ofString "self") 840, Value.str (Str.ofString "cells") 841, Value.str (Str.ofString "alternative") 842]) #[]
noncomputable def o486 (P : Params) : Obj := Obj.mk (Value.type "tuple") Option.none (Data.seq #[]) #[]
noncomputable def o487 (P : Params) : Obj := Obj.mk Value.none Option.none (Data.func (FuncData.mk (Str.ofString "push_choice") (Str.ofString "Areas.push_choice") fa29x13 (FuncBody.stmts fb29x13) fs29x13 0 [] Value.none Value.none Value.none Value.none Option.none Value.none Value.none 0)) #[]
noncomputable def o488 (P : Params) : Obj := Obj.mk (Value.type "code") Option.none (Data.fields #[Value.str (Str.ofString "push_choice") 837, Value.str (Str.ofString "Areas.push_choice") 838, Value.str (Str.ofString "/claim/cut.py") 839, Value.int 347 0, Value.int 3 0, Value.int 0 0, Value.int 0 0, Value.int 3 0, Value.ref 483, Value.bool Bool.true, Value.int 181 0, Value.ref 484, Value.none, Value.ref 485, Value.ref 486, Value.ref 487, Value.int 843 0, Value.int 347 0, Value.str (Str.ofString "/claim/cut.py") 844]) #[]
noncomputable def o489 (P : Params) : Obj := Obj.mk (Value.type "function") Option.none (Data.func (FuncData.mk (Str.ofString "push_choice") (Str.ofString "Areas.push_choice") fa29x13 (FuncBody.stmts fb29x13) fs29x13 3 [] Value.none Value.none Value.none (Value.str (Str.ofString "clausemill.areas") 712) Option.none (Value.ref 488) Value.none 0)) #[]
noncomputable def o490 (P : Params) : Obj := Obj.mk (Value.type "tuple") Option.none (Data.seq #[]) #[]
noncomputable def o491 (P : Params) : Obj := Obj.mk Value.none Option.none (Data.fields #[]) #[]
noncomputable def o492 (P : Params) : Obj := Obj.mk (Value.type "tuple") Option.none (Data.seq #[Value.str (Str.ofString "self") 849, Value.str (Str.ofString "address") 850]) #[]
noncomputable def o493 (P : Params) : Obj := Obj.mk (Value.type "tuple") Option.none (Data.seq #[]) #[]
noncomputable def o494 (P : Params) : Obj := Obj.mk Value.none Option.none (Data.func (FuncData.mk (Str.ofString "set_alternative") (Str.ofString "Areas.set_alternative") fa29x14 (FuncBody.stmts fb29x14) fs29x14 0 [] Value.none Value.none Value.none Value.none Option.none Value.none Value.none 0)) #[]
noncomputable def o495 (P : Params) : Obj := Obj.mk (Value.type "code") Option.none (Data.fields #[Value.str (Str.ofString "set_alternative") 846, Value.str (Str.ofString "Areas.set_alternative") 847, Value.str (Str.ofString "/claim/cut.py") 848, Value.int 350 0, Value.int 2 0, Value.int 0 0, Value.int 0 0, Value.int 3 0, Value.ref 490, Value.bool Bool.true, Value.int 181 0, Value.ref 491, Value.none, Value.ref 492, Value.ref 493, Value.ref 494, Value.int 851 0, Value.int 350 0, Value.str (Str.ofString "/claim/cut.py") 852]) #[]
noncomputable def o496 (P : Params) : Obj := Obj.mk (Value.type "function") Option.none (Data.func (FuncData.mk (Str.ofString "set_alternative") (Str.ofString "Areas.set_alternative") fa29x14 (FuncBody.stmts fb29x14) fs29x14 3 [] Value.none Value.none Value.none (Value.str (Str.ofString "clausemill.areas") 712) Option.none (Value.ref 495) Value.none 0)) #[]
noncomputable def o497 (P : Params) : Obj := Obj.mk (Value.type "tuple") Option.none (Data.seq #[]) #[]
noncomputable def o498 (P : Params) : Obj := Obj.mk Value.none Option.none (Data.fields #[]) #[]
noncomputable def o499 (P : Params) : Obj := Obj.mk (Value.type "tuple") Option.none (Data.seq #[Value.str (Str.ofString "self") 857, Value.str (Str.ofString "part") 858]) #[]
noncomputable def o500 (P : Params) : Obj := Obj.mk (Value.type "tuple") Option.none (Data.seq #[]) #[]
noncomputable def o501 (P : Params) : Obj := Obj.mk Value.none Option.none (Data.func (FuncData.mk (Str.ofString "choice_part") (Str.ofString "Areas.choice_part") fa29x15 (FuncBody.stmts fb29x15) fs29x15 0 [] Value.none Value.none Value.none Value.none Option.none Value.none Value.none 0)) #[]
noncomputable def o502 (P : Params) : Obj := Obj.mk (Value.type "code") Option.none (Data.fields #[Value.str (Str.ofString "choice_part") 854, Value.str (Str.ofString "Areas.choice_part") 855, Value.str (Str.ofString "/claim/cut.py") 856, Value.int 353 0, Value.int 2 0, Value.int 0 0, Value.int 0 0, Value.int 3 0, Value.ref 497, Value.bool Bool.true, Value.int 181 0, Value.ref 498, Value.none, Value.ref 499, Value.ref 500, Value.ref 501, Value.int 859 0, Value.int 353 0, Value.str (Str.ofString "/claim/cut.py") 860]) #[]
noncomputable def o503 (P : Params) : Obj := Obj.mk (Value.type "function") Option.none (Data.func (FuncData.mk (Str.ofString "choice_part") (Str.ofString "Areas.choice_part") fa29x15 (FuncBody.stmts fb29x15) fs29x15 3 [] Value.none Value.none Value.none (Value.str (Str.ofString "clausemill.areas") 712) Option.none (Value.ref 502) Value.none 0)) #[]
noncomputable def o504 (P : Params) : Obj := Obj.mk (Value.type "tuple") Option.none (Data.seq #[]) #[]
noncomputable def o505 (P : Params) : Obj := Obj.mk Value.none Option.none (Data.fields #[]) #[]
noncomputable def o506 (P : Params) : Obj := Obj.mk (Value.type "tuple") Option.none (Data.seq #[Value.str (Str.ofString "self") 865]) #[]
noncomputable def o507 (P : Params) : Obj := Obj.mk (Value.type "tuple") Option.none (Data.seq #[]) #[]
noncomputable def o508 (P : Params) : Obj := Obj.mk Value.none Option.none (Data.func (FuncData.mk (Str.ofString "restore_choice") (Str.ofString "Areas.restore_choice") fa29x16 (FuncBody.stmts fb29x16) fs9x9 0 [] Value.none Value.none Value.none Value.none Option.none Value.none Value.none 0)) #[]
noncomputable def o509 (P : Params) : Obj := Obj.mk (Value.type "code") Option.none (Data.fields #[Value.str (Str.ofString "restore_choice") 862, Value.str (Str.ofString "Areas.restore_choice") 863, Value.str (Str.ofString "/claim/cut.py") 864, Value.int 356 0, Value.int 1 0, Value.int 0 0, Value.int 0 0, Value.int 3 0, Value.ref 504, Value.bool Bool.true, Value.int 181 0, Value.ref 505, Value.none, Value.ref 506, Value.ref 507, Value.ref 508, Value.int 866 0, Value.int 356 0, Value.str (Str.ofString "/claim/cut.py") 867]) #[]
noncomputable def o510 (P : Params) : Obj := Obj.mk (Value.type "function") Option.none (Data.func (FuncData.mk (Str.ofString "restore_choice") (Str.ofString "Areas.restore_choice") fa29x16 (FuncBody.stmts fb29x16) fs9x9 3 [] Value.none Value.none Value.none (Value.str (Str.ofString "clausemill.areas") 712) Option.none (Value.ref 509) Value.none 0)) #[]
noncomputable def o511 (P : Params) : Obj := Obj.mk (Value.type "tuple") Option.none (Data.seq #[]) #[]
noncomputable def o512 (P : Params) : Obj := Obj.mk Value.none Option.none (Data.fields #[]) #[]
noncomputable def o513 (P : Params) : Obj := Obj.mk (Value.type "tuple") Option.none (Data.seq #[Value.str (Str.ofString "self") 872]) #[]
noncomputable def o514 (P : Params) : Obj := Obj.mk (Value.type "tuple") Option.none (Data.seq #[]) #[]
noncomputable def o515 (P : Params) : Obj := Obj.mk Value.none Option.none (Data.func (FuncData.mk (Str.ofString "pop_choice") (Str.ofString "Areas.pop_choice") fa29x17 (FuncBody.stmts fb29x17) fs9x9 0 [] Value.none Value.none Value.none Value.none Option.none Value.none Value.none 0)) #[]
noncomputable def o516 (P : Params) : Obj := Obj.mk (Value.type "code") Option.none (Data.fields #[Value.str (Str.ofString "pop_choice") 869, Value.str (Str.ofString "Areas.pop_choice") 870, Value.str (Str.ofString "/claim/cut.py") 871, Value.int 359 0, Value.int 1 0, Value.int 0 0, Value.int 0 0, Value.int 3 0, Value.ref 511, Value.bool Bool.true, Value.int 181 0, Value.ref 512, Value.none, Value.ref 513, Value.ref 514, Value.ref 515, Value.int 873 0, Value.int 359 0, Value.str (Str.ofString "/claim/cut.py") 874]) #[]
noncomputable def o517 (P : Params) : Obj := Obj.mk (Value.type "function") Option.none (Data.func (FuncData.mk (Str.ofString "pop_choice") (Str.ofString "Areas.pop_choice") fa29x17 (FuncBody.stmts fb29x17) fs9x9 3 [] Value.none Value.none Value.none (Value.str (Str.ofString "clausemill.areas") 712) Option.none (Value.ref 516) Value.none 0)) #[]
noncomputable def o518 (P : Params) : Obj := Obj.mk (Value.type "tuple") Option.none (Data.seq #[]) #[]
noncomputable def o519 (P : Params) : Obj := Obj.mk Value.none Option.none (Data.fields #[]) #[]
noncomputable def o520 (P : Params) : Obj := Obj.mk (Value.type "tuple") Option.none (Data.seq #[Value.str (Str.ofString "self") 879, Value.str (Str.ofString "b") 880]) #[]
noncomputable def o521 (P : Params) : Obj := Obj.mk (Value.type "tuple") Option.none (Data.seq #[]) #[]
noncomputable def o522 (P : Params) : Obj := Obj.mk Value.none Option.none (Data.func (FuncData.mk (Str.ofString "cut_back") (Str.ofString "Areas.cut_back") fa29x18 (FuncBody.stmts fb29x18) fs29x12 0 [] Value.none Value.none Value.none Value.none Option.none Value.none Value.none 0)) #[]
noncomputable def o523 (P : Params) : Obj := Obj.mk (Value.type "code") Option.none (Data.fields #[Value.str (Str.ofString "cut_back") 876, Value.str (Str.ofString "Areas.cut_back") 877, Value.str (Str.ofString "/claim/cut.py") 878, Value.int 362 0, Value.int 2 0, Value.int 0 0, Value.int 0 0, Value.int 3 0, Value.ref 518, Value.bool Bool.true, Value.int 181 0, Value.ref 519, Value.none, Value.ref 520, Value.ref 521, Value.ref 522, Value.int 881 0, Value.int 362 0, Value.str (Str.ofString "/claim/cut.py") 882]) #[]
noncomputable def o524 (P : Params) : Obj := Obj.mk (Value.type "function") Option.none (Data.func (FuncData.mk (Str.ofString "cut_back") (Str.ofString "Areas.cut_back") fa29x18 (FuncBody.stmts fb29x18) fs29x12 3 [] Value.none Value.none Value.none (Value.str (Str.ofString "clausemill.areas") 712) Option.none (Value.ref 523) Value.none 0)) #[]
noncomputable def o525 (P : Params) : Obj := Obj.mk (Value.type "tuple") Option.none (Data.seq #[]) #[]
noncomputable def o526 (P : Params) : Obj := Obj.mk Value.none Option.none (Data.fields #[]) #[]
noncomputable def o527 (P : Params) : Obj := Obj.mk (Value.type "tuple") Option.none (Data.seq #[Value.str (Str.ofString "self") 887]) #[]
noncomputable def o528 (P : Params) : Obj := Obj.mk (Value.type "tuple") Option.none (Data.seq #[]) #[]
noncomputable def o529 (P : Params) : Obj := Obj.mk Value.none Option.none (Data.func (FuncData.mk (Str.ofString "choices") (Str.ofString "Areas.choices") fa29x19 (FuncBody.stmts fb29x19) fs9x9 0 [] Value.none Value.none Value.none Value.none Option.none Value.none Value.none 0)) #[]
noncomputable def o530 (P : Params) : Obj := Obj.mk (Value.type "code") Option.none (Data.fields #[Value.str (Str.ofString "choices") 884, Value.str (Str.ofString "Areas.choices") 885, Value.str (Str.ofString "/claim/cut.py") 886, Value.int 365 0, Value.int 1 0, Value.int 0 0, Value.int 0 0, Value.int 3 0, Value.ref 525, Value.bool Bool.true, Value.int 181 0, Value.ref 526, Value.none, Value.ref 527, Value.ref 528, Value.ref 529, Value.int 888 0, Value.int 365 0, Value.str (Str.ofString "/claim/cut.py") 889]) #[]
noncomputable def o531 (P : Params) : Obj := Obj.mk (Value.type "function") Option.none (Data.func (FuncData.mk (Str.ofString "choices") (Str.ofString "Areas.choices") fa29x19 (FuncBody.stmts fb29x19) fs9x9 3 [] Value.none Value.none Value.none (Value.str (Str.ofString "clausemill.areas") 712) Option.none (Value.ref 530) Value.none 0)) #[]
noncomputable def o532 (P : Params) : Obj := Obj.mk (Value.type "tuple") Option.none (Data.seq #[]) #[]
noncomputable def o533 (P : Params) : Obj := Obj.mk Value.none Option.none (Data.fields #[]) #[]
noncomputable def o534 (P : Params) : Obj := Obj.mk (Value.type "tuple") Option.none (Data.seq #[Value.str (Str.ofString "self") 894]) #[]
noncomputable def o535 (P : Params) : Obj := Obj.mk (Value.type "tuple") Option.none (Data.seq #[]) #[]
noncomputable def o536 (P : Params) : Obj := Obj.mk Value.none Option.none (Data.func (FuncData.mk (Str.ofString "environments") (Str.ofString "Areas.environments") fa29x20 (FuncBody.stmts fb29x20) fs9x9 0 [] Value.none Value.none Value.none Value.none Option.none Value.none Value.none 0)) #[]
noncomputable def o537 (P : Params) : Obj := Obj.mk (Value.type "code") Option.none (Data.fields #[Value.str (Str.ofString "environments") 891, Value.str (Str.ofString "Areas.environments") 892, Value.str (Str.ofString "/claim/cut.py") 893, Value.int 368 0, Value.int 1 0, Value.int 0 0, Value.int 0 0, Value.int 3 0, Value.ref 532, Value.bool Bool.true, Value.int 181 0, Value.ref 533, Value.none, Value.ref 534, Value.ref 535, Value.ref 536, Value.int 895 0, Value.int 368 0, Value.str (Str.ofString "/claim/cut.py") 896]) #[]
noncomputable def o538 (P : Params) : Obj := Obj.mk (Value.type "function") Option.none (Data.func (FuncData.mk (Str.ofString "environments") (Str.ofString "Areas.environments") fa29x20 (FuncBody.stmts fb29x20) fs9x9 3 [] Value.none Value.none Value.none (Value.str (Str.ofString "clausemill.areas") 712) Option.none (Value.ref 537) Value.none 0)) #[]
noncomputable def o539 (P : Params) : Obj := Obj.mk (Value.type "tuple") Option.none (Data.seq #[Value.str (Str.ofString "b") 898, Value.str (Str.ofString "b0") 899, Value.str (Str.ofString "bags") 900, Value.str (Str.ofString "code") 901, Value.str (Str.ofString "collect_wanted") 902, Value.str (Str.ofString "cp") 903, Value.str (Str.ofString "e") 904, Value.str (Str.ofString "guard") 905, Value.str (Str.ofString "max_bits") 906, Value.str (Str.ofString "max_heap") 907, Value.str (Str.ofString "mode") 908, Value.str (Str.ofString "occurs") 909, Value.str (Str.ofString "p") 910, Value.str (Str.ofString "roots") 911, Value.str (Str.ofString "s") 912, Value.str (Str.ofString "store") 913, Value.str (Str.ofString "symbols") 914, Value.str (Str.ofString "x") 915]) #[]
noncomputable def o540 (P : Params) : Obj := Obj.mk (Value.type "dict") Option.none (Data.dict #[DictEntry.mk (PyData.keyHash P (Str.ofString "__module__")) (Value.str (Str.ofString "__module__") 723) (Value.str (Str.ofString "clausemill.areas") 712), DictEntry.mk (PyData.keyHash P (Str.ofString "__firstlineno__")) (Value.str (Str.ofString "__firstlineno__") 727) (Value.int 289 726), DictEntry.mk (PyData.keyHash P (Str.ofString "__init__")) (Value.str (Str.ofString "__init__") 741) (Value.ref 398), DictEntry.mk (PyData.keyHash P (Str.ofString "reset")) (Value.str (Str.ofString "reset") 748) (Value.ref 405), DictEntry.mk (PyData.keyHash P (Str.ofString "set_x")) (Value.str (Str.ofString "set_x") 757) (Value.ref 412), DictEntry.mk (PyData.keyHash P (Str.ofString "set_arguments")) (Value.str (Str.ofString "set_arguments") 765) (Value.ref 419), DictEntry.mk (PyData.keyHash P (Str.ofString "arg")) (Value.str (Str.ofString "arg") 773) (Value.ref 426), DictEntry.mk (PyData.keyHash P (Str.ofString "unify")) (Value.str (Str.ofString "unify") 782) (Value.ref 433), DictEntry.mk (PyData.keyHash P (Str.ofString "take")) (Value.str (Str.ofString "take") 790) (Value.ref 440), DictEntry.mk (PyData.keyHash P (Str.ofString "put")) (Value.str (Str.ofString "put") 798) (Value.ref 447), DictEntry.mk (PyData.keyHash P (Str.ofString "top")) (Value.str (Str.ofString "top") 805) (Value.ref 454), DictEntry.mk (PyData.keyHash P (Str.ofString "push_environment")) (Value.str (Str.ofString "push_environment") 813) (Value.ref 461), DictEntry.mk (PyData.keyHash P (Str.ofString "pop_environment")) (Value.str (Str.ofString "pop_environment") 820) (Value.ref 468), DictEntry.mk (PyData.keyHash P (Str.ofString "in_chain")) (Value.str (Str.ofString "in_chain") 828) (Value.ref 475), DictEntry.mk (PyData.keyHash P (Str.ofString "set_choice")) (Value.str (Str.ofString "set_choice") 836) (Value.ref 482), DictEntry.mk (PyData.keyHash P (Str.ofString "push_choice")) (Value.str (Str.ofString "push_choice") 845) (Value.ref 489), DictEntry.mk (PyData.keyHash P (Str.ofString "set_alternative")) (Value.str (Str.ofString "set_alternative") 853) (Value.ref 496), DictEntry.mk (PyData.keyHash P (Str.ofString "choice_part")) (Value.str (Str.ofString "choice_part") 861) (Value.ref 503), DictEntry.mk (PyData.keyHash P (Str.ofString "restore_choice")) (Value.str (Str.ofString "restore_choice") 868) (Value.ref 510), DictEntry.mk (PyData.keyHash P (Str.ofString "pop_choice")) (Value.str (Str.ofString "pop_choice") 875) (Value.ref 517), DictEntry.mk (PyData.keyHash P (Str.ofString "cut_back")) (Value.str (Str.ofString "cut_back") 883) (Value.ref 524), DictEntry.mk (PyData.keyHash P (Str.ofString "choices")) (Value.str (Str.ofString "choices") 890) (Value.ref 531), DictEntry.mk (PyData.keyHash P (Str.ofString "environments")) (Value.str (Str.ofString "environments") 897) (Value.ref 538), DictEntry.mk (PyData.keyHash P (Str.ofString "__static_attributes__")) (Value.str (Str.ofString "__static_attributes__") 916) (Value.ref 539), DictEntry.mk (PyData.keyHash P (Str.ofString "__dict__")) (Value.str (Str.ofString "__dict__") 918) (Value.ref 542), DictEntry.mk (PyData.keyHash P (Str.ofString "__weakref__")) (Value.str (Str.ofString "__weakref__") 920) (Value.ref 543), DictEntry.mk (PyData.keyHash P (Str.ofString "__doc__")) (Value.str (Str.ofString "__doc__") 921) Value.none] 4) #[]
noncomputable def o541 (P : Params) : Obj := Obj.mk (Value.type "type") Option.none (Data.cls (ClassData.mk (Str.ofString "Areas") [Value.type "object"] [Value.ref 541, Value.type "object"] 540 (Str.ofString "Areas") Bool.true [] [] Bool.false Option.none Bool.false)) #[Option.none, Option.none, Option.some (Value.str (Str.ofString "Areas") 716), Option.some (Value.str (Str.ofString "Areas") 724), Option.some (Value.builtin "object.__new__"), Option.some (Value.bool Bool.true)]
noncomputable def o542 (P : Params) : Obj := Obj.mk (Value.type "getset_descriptor") Option.none (Data.fields #[Value.str (Str.ofString "__dict__") 917, Value.ref 541, Value.builtin "function.__dict__", Value.builtin "function.__dict__#set"]) #[]
noncomputable def o543 (P : Params) : Obj := Obj.mk (Value.type "getset_descriptor") Option.none (Data.fields #[Value.str (Str.ofString "__weakref__") 919, Value.ref 541, Value.builtin "ExceptionGroup.__weakref__", Value.none]) #[]
noncomputable def o544 (P : Params) : Obj := Obj.mk (Value.type "super") Option.none (Data.fields #[Value.ref 541, Value.ref 541, Value.ref 541]) #[]
noncomputable def o545 (P : Params) : Obj := Obj.mk (Value.type "builtin_function_or_method") Option.none (Data.fields #[Value.builtin "object.__init_subclass__", Value.ref 541]) #[]
noncomputable def o3v6 (P : Params) : Obj := Obj.mk (Value.type "dict") Option.none (Data.dict #[DictEntry.mk (PyData.keyHash P (Str.ofString "__name__")) (Value.str (Str.ofString "__name__") 165) (Value.str (Str.ofString "law_rh0104_01") 924), DictEntry.mk (PyData.keyHash P (Str.ofString "__doc__")) (Value.str (Str.ofString "__doc__") 166) Value.none, DictEntry.mk (PyData.keyHash P (Str.ofString "__package__")) (Value.str (Str.ofString "__package__") 167) Value.none, DictEntry.mk (PyData.keyHash P (Str.ofString "__loader__")) (Value.str (Str.ofString "__loader__") 168) (Value.builtin "__main__.__loader__#opaque"), DictEntry.mk (PyData.keyHash P (Str.ofString "__spec__")) (Value.str (Str.ofString "__spec__") 169) Value.none, DictEntry.mk (PyData.keyHash P (Str.ofString "__annotations__")) (Value.str (Str.ofString "__annotations__") 170) (Value.ref 6), DictEntry.mk (PyData.keyHash P (Str.ofString "__builtins__")) (Value.str (Str.ofString "__builtins__") 171) (Value.ref 4), DictEntry.mk (PyData.keyHash P (Str.ofString "__file__")) (Value.str (Str.ofString "__file__") 173) (Value.str (Str.ofString "/claim/cut.py") 172), DictEntry.mk (PyData.keyHash P (Str.ofString "__cached__")) (Value.str (Str.ofString "__cached__") 174) Value.none, DictEntry.mk (PyData.keyHash P (Str.ofString "_wall")) (Value.str (Str.ofString "_wall") 193) (Value.ref 21), DictEntry.mk (PyData.keyHash P (Str.ofString "ClausemillError")) (Value.str (Str.ofString "ClausemillError") 215) (Value.ref 31), DictEntry.mk (PyData.keyHash P (Str.ofString "PrologError")) (Value.str (Str.ofString "PrologError") 240) (Value.ref 51), DictEntry.mk (PyData.keyHash P (Str.ofString "A_SYSTEM")) (Value.str (Str.ofString "A_SYSTEM") 242) (Value.int 25 241), DictEntry.mk (PyData.keyHash P (Str.ofString "F_DOT")) (Value.str (Str.ofString "F_DOT") 244) (Value.int 0 243), DictEntry.mk (PyData.keyHash P (Str.ofString "F_ERROR")) (Value.str (Str.ofString "F_ERROR") 246) (Value.int 16 245), DictEntry.mk (PyData.keyHash P (Str.ofString "fixed_atoms")) (Value.str (Str.ofString "fixed_atoms") 252) (Value.ref 60), DictEntry.mk (PyData.keyHash P (Str.ofString "fixed_functors")) (Value.str (Str.ofString "fixed_functors") 258) (Value.ref 67), DictEntry.mk (PyData.keyHash P (Str.ofString "Symbols")) (Value.str (Str.ofString "Symbols") 378) (Value.ref 154), DictEntry.mk (PyData.keyHash P (Str.ofString "system_error")) (Value.str (Str.ofString "system_error") 387) (Value.ref 165), DictEntry.mk (PyData.keyHash P (Str.ofString "formal_of")) (Value.str (Str.ofString "formal_of") 398) (Value.ref 172), DictEntry.mk (PyData.keyHash P (Str.ofString "resource_error")) (Value.str (Str.ofString "resource_error") 406) (Value.ref 179), DictEntry.mk (PyData.keyHash P (Str.ofString "REF")) (Value.str (Str.ofString "REF") 410) (Value.int 0 409), DictEntry.mk (PyData.keyHash P (Str.ofString "SRF")) (Value.str (Str.ofString "SRF") 412) (Value.int 1 411), DictEntry.mk (PyData.keyHash P (Str.ofString "STR")) (Value.str (Str.ofString "STR") 414) (Value.int 2 413), DictEntry.mk (PyData.keyHash P (Str.ofString "LIS")) (Value.str (Str.ofString "LIS") 416) (Value.int 3 415), DictEntry.mk (PyData.keyHash P (Str.ofString "CON")) (Value.str (Str.ofString "CON") 418) (Value.int 4 417), DictEntry.mk (PyData.keyHash P (Str.ofString "INT")) (Value.str (Str.ofString "INT") 420) (Value.int 5 419), DictEntry.mk (PyData.keyHash P (Str.ofString "FUN")) (Value.str (Str.ofString "FUN") 422) (Value.int 6 421), DictEntry.mk (PyData.keyHash P (Str.ofString "VOID")) (Value.str (Str.ofString "VOID") 424) (Value.ref 180), DictEntry.mk (PyData.keyHash P (Str.ofString "VISIT")) (Value.str (Str.ofString "VISIT") 426) (Value.int 0 425), DictEntry.mk (PyData.keyHash P (Str.ofString "BUILD")) (Value.str (Str.ofString "BUILD") 428) (Value.int 1 427), DictEntry.mk (PyData.keyHash P (Str.ofString "Cells")) (Value.str (Str.ofString "Cells") 622) (Value.ref 324), DictEntry.mk (PyData.keyHash P (Str.ofString "Store")) (Value.str (Str.ofString "Store") 711) (Value.ref 381), DictEntry.mk (PyData.keyHash P (Str.ofString "READ")) (Value.str (Str.ofString "READ") 715) (Value.str (Str.ofString "read") 714), DictEntry.mk (PyData.keyHash P (Str.ofString "Areas")) (Value.str (Str.ofString "Areas") 923) (Value.ref 541), DictEntry.mk (PyData.keyHash P (Str.ofString "_law_scoop")) (Value.str (Str.ofString "_law_scoop") 933) (Value.ref 552), DictEntry.mk (PyData.keyHash P (Str.ofString "law")) (Value.str (Str.ofString "law") 958) (Value.ref 559)] 37) #[]
noncomputable def o12v7 (P : Params) : Obj := Obj.mk Value.none Option.none (Data.fields #[Value.int 1 0, Value.int 0 0, Value.ref 20, Value.int 5 0, Value.int 0 0, Value.ref 27, Value.int 7 0, Value.int 0 0, Value.ref 40, Value.int 14 0, Value.int 0 0, Value.ref 59, Value.int 16 0, Value.int 0 0, Value.ref 66, Value.int 18 0, Value.int 0 0, Value.ref 73, Value.int 76 0, Value.int 0 0, Value.ref 164, Value.int 78 0, Value.int 0 0, Value.ref 171, Value.int 83 0, Value.int 0 0, Value.ref 178, Value.int 96 0, Value.int 0 0, Value.ref 186, Value.int 212 0, Value.int 0 0, Value.ref 334, Value.int 289 0, Value.int 0 0, Value.ref 389, Value.int 371 0, Value.int 0 0, Value.ref 551, Value.int 376 0, Value.int 0 0, Value.ref 558]) #[]
noncomputable def o546 (P : Params) : Obj := Obj.mk (Value.type "tuple") Option.none (Data.seq #[]) #[]
noncomputable def o547 (P : Params) : Obj := Obj.mk Value.none Option.none (Data.fields #[]) #[]
noncomputable def o548 (P : Params) : Obj := Obj.mk (Value.type "tuple") Option.none (Data.seq #[Value.str (Str.ofString "keg") 929, Value.str (Str.ofString "limit") 930]) #[]
noncomputable def o549 (P : Params) : Obj := Obj.mk (Value.type "tuple") Option.none (Data.seq #[]) #[]
noncomputable def o550 (P : Params) : Obj := Obj.mk Value.none Option.none (Data.func (FuncData.mk (Str.ofString "_law_scoop") (Str.ofString "_law_scoop") fa31 (FuncBody.stmts fb31) fs31 0 [] Value.none Value.none Value.none Value.none Option.none Value.none Value.none 0)) #[]
noncomputable def o551 (P : Params) : Obj := Obj.mk (Value.type "code") Option.none (Data.fields #[Value.str (Str.ofString "_law_scoop") 926, Value.str (Str.ofString "_law_scoop") 927, Value.str (Str.ofString "/claim/cut.py") 928, Value.int 371 0, Value.int 2 0, Value.int 0 0, Value.int 0 0, Value.int 3 0, Value.ref 546, Value.bool Bool.true, Value.int 181 0, Value.ref 547, Value.none, Value.ref 548, Value.ref 549, Value.ref 550, Value.int 931 0, Value.int 371 0, Value.str (Str.ofString "/claim/cut.py") 932]) #[]
noncomputable def o552 (P : Params) : Obj := Obj.mk (Value.type "function") Option.none (Data.func (FuncData.mk (Str.ofString "_law_scoop") (Str.ofString "_law_scoop") fa31 (FuncBody.stmts fb31) fs31 3 [] Value.none Value.none Value.none (Value.str (Str.ofString "law_rh0104_01") 924) Option.none (Value.ref 551) Value.none 0)) #[]
noncomputable def o553 (P : Params) : Obj := Obj.mk (Value.type "tuple") Option.none (Data.seq #[]) #[]
noncomputable def o554 (P : Params) : Obj := Obj.mk Value.none Option.none (Data.fields #[]) #[]
noncomputable def o555 (P : Params) : Obj := Obj.mk (Value.type "tuple") Option.none (Data.seq #[Value.str (Str.ofString "script") 937, Value.str (Str.ofString "keg") 938, Value.str (Str.ofString "names") 939, Value.str (Str.ofString "count") 940, Value.str (Str.ofString "room_for") 941, Value.str (Str.ofString "m") 942, Value.str (Str.ofString "way") 943, Value.str (Str.ofString "atom_number") 944, Value.str (Str.ofString "leaf") 945, Value.str (Str.ofString "shown") 946, Value.str (Str.ofString "cell") 947, Value.str (Str.ofString "term") 948, Value.str (Str.ofString "parts") 949, Value.str (Str.ofString "fits") 950, Value.str (Str.ofString "lap") 951, Value.str (Str.ofString "twice") 952, Value.str (Str.ofString "functor") 953, Value.str (Str.ofString "told") 954, Value.str (Str.ofString "error") 955]) #[]
noncomputable def o556 (P : Params) : Obj := Obj.mk (Value.type "tuple") Option.none (Data.seq #[]) #[]
noncomputable def o557 (P : Params) : Obj := Obj.mk Value.none Option.none (Data.func (FuncData.mk (Str.ofString "law") (Str.ofString "law") fa32 (FuncBody.stmts fb32) fs32 0 [] Value.none Value.none Value.none Value.none Option.none Value.none Value.none 0)) #[]
noncomputable def o558 (P : Params) : Obj := Obj.mk (Value.type "code") Option.none (Data.fields #[Value.str (Str.ofString "law") 934, Value.str (Str.ofString "law") 935, Value.str (Str.ofString "/claim/cut.py") 936, Value.int 376 0, Value.int 1 0, Value.int 0 0, Value.int 0 0, Value.int 3 0, Value.ref 553, Value.bool Bool.true, Value.int 181 0, Value.ref 554, Value.none, Value.ref 555, Value.ref 556, Value.ref 557, Value.int 956 0, Value.int 376 0, Value.str (Str.ofString "/claim/cut.py") 957]) #[]
noncomputable def o559 (P : Params) : Obj := Obj.mk (Value.type "function") Option.none (Data.func (FuncData.mk (Str.ofString "law") (Str.ofString "law") fa32 (FuncBody.stmts fb32) fs32 3 [] Value.none Value.none Value.none (Value.str (Str.ofString "law_rh0104_01") 924) Option.none (Value.ref 558) Value.none 0)) #[]
noncomputable def ha (P : Params) : Heap := Heap.mk ⟨boot_o_0 P :: boot_o_1 P :: boot_o_2 P :: boot_o_3 P :: boot_o_4 P :: boot_o_5 P :: boot_o_6 P :: boot_o_7 P :: boot_o_8 P :: boot_o_9 P :: boot_o_10 P :: o11 P :: o12 P :: o13 P :: o14 P :: []⟩ (Life.mk [] [] [] 0 [] [] Bool.false #[] [] 0 Bool.false Bool.false Bool.false 0 [2000, 10, 10] Bool.false 0 Bool.true [] [] 0 Bool.false)
noncomputable def tb (P : Params) : BT := (BT.node (boot_o_0 P) (BT.node (boot_o_1 P) (BT.node (boot_o_3 P) (BT.node (boot_o_7 P) BT.nil BT.nil) (BT.node (o11 P) BT.nil BT.nil)) (BT.node (boot_o_5 P) (BT.node (boot_o_9 P) BT.nil BT.nil) (BT.node (o13 P) BT.nil BT.nil))) (BT.node (boot_o_2 P) (BT.node (boot_o_4 P) (BT.node (boot_o_8 P) BT.nil BT.nil) (BT.node (o12 P) BT.nil BT.nil)) (BT.node (boot_o_6 P) (BT.node (boot_o_10 P) BT.nil BT.nil) (BT.node (o14 P) BT.nil BT.nil))))
noncomputable def t1 (P : Params) : BT := (BT.node (boot_o_0 P) (BT.node (boot_o_1 P) (BT.node (o3 P) (BT.node (boot_o_7 P) (BT.node (o15 P) (BT.node (o31 P) (BT.node (o63 P) BT.nil BT.nil) BT.nil) (BT.node (o47 P) BT.nil BT.nil)) (BT.node (o23 P) (BT.node (o39 P) BT.nil BT.nil) (BT.node (o55 P) BT.nil BT.nil))) (BT.node (o11 P) (BT.node (o19 P) (BT.node (o35 P) (BT.node (o67 P) BT.nil BT.nil) BT.nil) (BT.node (o51 P) BT.nil BT.nil)) (BT.node (o27 P) (BT.node (o43 P) BT.nil BT.nil) (BT.node (o59 P) BT.nil BT.nil)))) (BT.node (boot_o_5 P) (BT.node (boot_o_9 P) (BT.node (o17 P) (BT.node (o33 P) (BT.node (o65 P) BT.nil BT.nil) BT.nil) (BT.node (o49 P) BT.nil BT.nil)) (BT.node (o25 P) (BT.node (o41 P) BT.nil BT.nil) (BT.node (o57 P) BT.nil BT.nil))) (BT.node (o13 P) (BT.node (o21 P) (BT.node (o37 P) BT.nil BT.nil) (BT.node (o53 P) BT.nil BT.nil)) (BT.node (o29 P) (BT.node (o45 P) BT.nil BT.nil) (BT.node (o61 P) BT.nil BT.nil))))) (BT.node (o2 P) (BT.node (boot_o_4 P) (BT.node (boot_o_8 P) (BT.node (o16 P) (BT.node (o32 P) (BT.node (o64 P) BT.nil BT.nil) BT.nil) (BT.node (o48 P) BT.nil BT.nil)) (BT.node (o24 P) (BT.node (o40 P) BT.nil BT.nil) (BT.node (o56 P) BT.nil BT.nil))) (BT.node (o12v1 P) (BT.node (o20 P) (BT.node (o36 P) BT.nil BT.nil) (BT.node (o52 P) BT.nil BT.nil)) (BT.node (o28 P) (BT.node (o44 P) BT.nil BT.nil) (BT.node (o60 P) BT.nil BT.nil)))) (BT.node (boot_o_6 P) (BT.node (boot_o_10 P) (BT.node (o18 P) (BT.node (o34 P) (BT.node (o66 P) BT.nil BT.nil) BT.nil) (BT.node (o50 P) BT.nil BT.nil)) (BT.node (o26 P) (BT.node (o42 P) BT.nil BT.nil) (BT.node (o58 P) BT.nil BT.nil))) (BT.node (o14 P) (BT.node (o22 P) (BT.node (o38 P) BT.nil BT.nil) (BT.node (o54 P) BT.nil BT.nil)) (BT.node (o30 P) (BT.node (o46 P) BT.nil BT.nil) (BT.node (o62 P) BT.nil BT.nil))))))
noncomputable def t2 (P : Params) : BT := (BT.node (boot_o_0 P) (BT.node (boot_o_1 P) (BT.node (o3v1 P) (BT.node (boot_o_7 P) (BT.node (o15 P) (BT.node (o31 P) (BT.node (o63 P) (BT.node (o127 P) BT.nil BT.nil) BT.nil) (BT.node (o95 P) BT.nil BT.nil)) (BT.node (o47 P) (BT.node (o79 P) (BT.node (o143 P) BT.nil BT.nil) BT.nil) (BT.node (o111 P) BT.nil BT.nil))) (BT.node (o23 P) (BT.node (o39 P) (BT.node (o71 P) (BT.node (o135 P) BT.nil BT.nil) BT.nil) (BT.node (o103 P) BT.nil BT.nil)) (BT.node (o55 P) (BT.node (o87 P) (BT.node (o151 P) BT.nil BT.nil) BT.nil) (BT.node (o119 P) BT.nil BT.nil)))) (BT.node (o11 P) (BT.node (o19 P) (BT.node (o35 P) (BT.node (o67 P) (BT.node (o131 P) BT.nil BT.nil) BT.nil) (BT.node (o99 P) BT.nil BT.nil)) (BT.node (o51 P) (BT.node (o83 P) (BT.node (o147 P) BT.nil BT.nil) BT.nil) (BT.node (o115 P) BT.nil BT.nil))) (BT.node (o27 P) (BT.node (o43 P) (BT.node (o75 P) (BT.node (o139 P) BT.nil BT.nil) BT.nil) (BT.node (o107 P) BT.nil BT.nil)) (BT.node (o59 P) (BT.node (o91 P) (BT.node (o155 P) BT.nil BT.nil) BT.nil) (BT.node (o123 P) BT.nil BT.nil))))) (BT.node (boot_o_5 P) (BT.node (boot_o_9 P) (BT.node (o17 P) (BT.node (o33 P) (BT.node (o65 P) (BT.node (o129 P) BT.nil BT.nil) BT.nil) (BT.node (o97 P) BT.nil BT.nil)) (BT.node (o49 P) (BT.node (o81 P) (BT.node (o145 P) BT.nil BT.nil) BT.nil) (BT.node (o113 P) BT.nil BT.nil))) (BT.node (o25 P) (BT.node (o41 P) (BT.node (o73 P) (BT.node (o137 P) BT.nil BT.nil) BT.nil) (BT.node (o105 P) BT.nil BT.nil)) (BT.node (o57 P) (BT.node (o89 P) (BT.node (o153 P) BT.nil BT.nil) BT.nil) (BT.node (o121 P) BT.nil BT.nil)))) (BT.node (o13 P) (BT.node (o21 P) (BT.node (o37 P) (BT.node (o69 P) (BT.node (o133 P) BT.nil BT.nil) BT.nil) (BT.node (o101 P) BT.nil BT.nil)) (BT.node (o53 P) (BT.node (o85 P) (BT.node (o149 P) BT.nil BT.nil) BT.nil) (BT.node (o117 P) BT.nil BT.nil))) (BT.node (o29 P) (BT.node (o45 P) (BT.node (o77 P) (BT.node (o141 P) BT.nil BT.nil) BT.nil) (BT.node (o109 P) BT.nil BT.nil)) (BT.node (o61 P) (BT.node (o93 P) (BT.node (o157 P) BT.nil BT.nil) BT.nil) (BT.node (o125 P) BT.nil BT.nil)))))) (BT.node (o2 P) (BT.node (boot_o_4 P) (BT.node (boot_o_8 P) (BT.node (o16 P) (BT.node (o32 P) (BT.node (o64 P) (BT.node (o128 P) BT.nil BT.nil) BT.nil) (BT.node (o96 P) BT.nil BT.nil)) (BT.node (o48 P) (BT.node (o80 P) (BT.node (o144 P) BT.nil BT.nil) BT.nil) (BT.node (o112 P) BT.nil BT.nil))) (BT.node (o24 P) (BT.node (o40 P) (BT.node (o72 P) (BT.node (o136 P) BT.nil BT.nil) BT.nil) (BT.node (o104 P) BT.nil BT.nil)) (BT.node (o56 P) (BT.node (o88 P) (BT.node (o152 P) BT.nil BT.nil) BT.nil) (BT.node (o120 P) BT.nil BT.nil)))) (BT.node (o12v2 P) (BT.node (o20 P) (BT.node (o36 P) (BT.node (o68 P) (BT.node (o132 P) BT.nil BT.nil) BT.nil) (BT.node (o100 P) BT.nil BT.nil)) (BT.node (o52 P) (BT.node (o84 P) (BT.node (o148 P) BT.nil BT.nil) BT.nil) (BT.node (o116 P) BT.nil BT.nil))) (BT.node (o28 P) (BT.node (o44 P) (BT.node (o76 P) (BT.node (o140 P) BT.nil BT.nil) BT.nil) (BT.node (o108 P) BT.nil BT.nil)) (BT.node (o60 P) (BT.node (o92 P) (BT.node (o156 P) BT.nil BT.nil) BT.nil) (BT.node (o124 P) BT.nil BT.nil))))) (BT.node (boot_o_6 P) (BT.node (boot_o_10 P) (BT.node (o18 P) (BT.node (o34 P) (BT.node (o66 P) (BT.node (o130 P) BT.nil BT.nil) BT.nil) (BT.node (o98 P) BT.nil BT.nil)) (BT.node (o50 P) (BT.node (o82 P) (BT.node (o146 P) BT.nil BT.nil) BT.nil) (BT.node (o114 P) BT.nil BT.nil))) (BT.node (o26 P) (BT.node (o42 P) (BT.node (o74 P) (BT.node (o138 P) BT.nil BT.nil) BT.nil) (BT.node (o106 P) BT.nil BT.nil)) (BT.node (o58 P) (BT.node (o90 P) (BT.node (o154 P) BT.nil BT.nil) BT.nil) (BT.node (o122 P) BT.nil BT.nil)))) (BT.node (o14 P) (BT.node (o22 P) (BT.node (o38 P) (BT.node (o70 P) (BT.node (o134 P) BT.nil BT.nil) BT.nil) (BT.node (o102 P) BT.nil BT.nil)) (BT.node (o54 P) (BT.node (o86 P) (BT.node (o150 P) BT.nil BT.nil) BT.nil) (BT.node (o118 P) BT.nil BT.nil))) (BT.node (o30 P) (BT.node (o46 P) (BT.node (o78 P) (BT.node (o142 P) BT.nil BT.nil) BT.nil) (BT.node (o110 P) BT.nil BT.nil)) (BT.node (o62 P) (BT.node (o94 P) (BT.node (o158 P) BT.nil BT.nil) BT.nil) (BT.node (o126 P) BT.nil BT.nil)))))))
noncomputable def t3 (P : Params) : BT := (BT.node (boot_o_0 P) (BT.node (boot_o_1 P) (BT.node (o3v2 P) (BT.node (boot_o_7 P) (BT.node (o15 P) (BT.node (o31 P) (BT.node (o63 P) (BT.node (o127 P) BT.nil BT.nil) BT.nil) (BT.node (o95 P) (BT.node (o159 P) BT.nil BT.nil) BT.nil)) (BT.node (o47 P) (BT.node (o79 P) (BT.node (o143 P) BT.nil BT.nil) BT.nil) (BT.node (o111 P) (BT.node (o175 P) BT.nil BT.nil) BT.nil))) (BT.node (o23 P) (BT.node (o39 P) (BT.node (o71 P) (BT.node (o135 P) BT.nil BT.nil) BT.nil) (BT.node (o103 P) (BT.node (o167 P) BT.nil BT.nil) BT.nil)) (BT.node (o55 P) (BT.node (o87 P) (BT.node (o151 P) BT.nil BT.nil) BT.nil) (BT.node (o119 P) BT.nil BT.nil)))) (BT.node (o11 P) (BT.node (o19 P) (BT.node (o35 P) (BT.node (o67 P) (BT.node (o131 P) BT.nil BT.nil) BT.nil) (BT.node (o99 P) (BT.node (o163 P) BT.nil BT.nil) BT.nil)) (BT.node (o51 P) (BT.node (o83 P) (BT.node (o147 P) BT.nil BT.nil) BT.nil) (BT.node (o115 P) (BT.node (o179 P) BT.nil BT.nil) BT.nil))) (BT.node (o27 P) (BT.node (o43 P) (BT.node (o75 P) (BT.node (o139 P) BT.nil BT.nil) BT.nil) (BT.node (o107 P) (BT.node (o171 P) BT.nil BT.nil) BT.nil)) (BT.node (o59 P) (BT.node (o91 P) (BT.node (o155 P) BT.nil BT.nil) BT.nil) (BT.node (o123 P) BT.nil BT.nil))))) (BT.node (boot_o_5 P) (BT.node (boot_o_9 P) (BT.node (o17 P) (BT.node (o33 P) (BT.node (o65 P) (BT.node (o129 P) BT.nil BT.nil) BT.nil) (BT.node (o97 P) (BT.node (o161 P) BT.nil BT.nil) BT.nil)) (BT.node (o49 P) (BT.node (o81 P) (BT.node (o145 P) BT.nil BT.nil) BT.nil) (BT.node (o113 P) (BT.node (o177 P) BT.nil BT.nil) BT.nil))) (BT.node (o25 P) (BT.node (o41 P) (BT.node (o73 P) (BT.node (o137 P) BT.nil BT.nil) BT.nil) (BT.node (o105 P) (BT.node (o169 P) BT.nil BT.nil) BT.nil)) (BT.node (o57 P) (BT.node (o89 P) (BT.node (o153 P) BT.nil BT.nil) BT.nil) (BT.node (o121 P) BT.nil BT.nil)))) (BT.node (o13 P) (BT.node (o21 P) (BT.node (o37 P) (BT.node (o69 P) (BT.node (o133 P) BT.nil BT.nil) BT.nil) (BT.node (o101 P) (BT.node (o165 P) BT.nil BT.nil) BT.nil)) (BT.node (o53 P) (BT.node (o85 P) (BT.node (o149 P) BT.nil BT.nil) BT.nil) (BT.node (o117 P) BT.nil BT.nil))) (BT.node (o29 P) (BT.node (o45 P) (BT.node (o77 P) (BT.node (o141 P) BT.nil BT.nil) BT.nil) (BT.node (o109 P) (BT.node (o173 P) BT.nil BT.nil) BT.nil)) (BT.node (o61 P) (BT.node (o93 P) (BT.node (o157 P) BT.nil BT.nil) BT.nil) (BT.node (o125 P) BT.nil BT.nil)))))) (BT.node (o2 P) (BT.node (boot_o_4 P) (BT.node (boot_o_8 P) (BT.node (o16 P) (BT.node (o32 P) (BT.node (o64 P) (BT.node (o128 P) BT.nil BT.nil) BT.nil) (BT.node (o96 P) (BT.node (o160 P) BT.nil BT.nil) BT.nil)) (BT.node (o48 P) (BT.node (o80 P) (BT.node (o144 P) BT.nil BT.nil) BT.nil) (BT.node (o112 P) (BT.node (o176 P) BT.nil BT.nil) BT.nil))) (BT.node (o24 P) (BT.node (o40 P) (BT.node (o72 P) (BT.node (o136 P) BT.nil BT.nil) BT.nil) (BT.node (o104 P) (BT.node (o168 P) BT.nil BT.nil) BT.nil)) (BT.node (o56 P) (BT.node (o88 P) (BT.node (o152 P) BT.nil BT.nil) BT.nil) (BT.node (o120 P) BT.nil BT.nil)))) (BT.node (o12v3 P) (BT.node (o20 P) (BT.node (o36 P) (BT.node (o68 P) (BT.node (o132 P) BT.nil BT.nil) BT.nil) (BT.node (o100 P) (BT.node (o164 P) BT.nil BT.nil) BT.nil)) (BT.node (o52 P) (BT.node (o84 P) (BT.node (o148 P) BT.nil BT.nil) BT.nil) (BT.node (o116 P) (BT.node (o180 P) BT.nil BT.nil) BT.nil))) (BT.node (o28 P) (BT.node (o44 P) (BT.node (o76 P) (BT.node (o140 P) BT.nil BT.nil) BT.nil) (BT.node (o108 P) (BT.node (o172 P) BT.nil BT.nil) BT.nil)) (BT.node (o60 P) (BT.node (o92 P) (BT.node (o156 P) BT.nil BT.nil) BT.nil) (BT.node (o124 P) BT.nil BT.nil))))) (BT.node (boot_o_6 P) (BT.node (boot_o_10 P) (BT.node (o18 P) (BT.node (o34 P) (BT.node (o66 P) (BT.node (o130 P) BT.nil BT.nil) BT.nil) (BT.node (o98 P) (BT.node (o162 P) BT.nil BT.nil) BT.nil)) (BT.node (o50 P) (BT.node (o82 P) (BT.node (o146 P) BT.nil BT.nil) BT.nil) (BT.node (o114 P) (BT.node (o178 P) BT.nil BT.nil) BT.nil))) (BT.node (o26 P) (BT.node (o42 P) (BT.node (o74 P) (BT.node (o138 P) BT.nil BT.nil) BT.nil) (BT.node (o106 P) (BT.node (o170 P) BT.nil BT.nil) BT.nil)) (BT.node (o58 P) (BT.node (o90 P) (BT.node (o154 P) BT.nil BT.nil) BT.nil) (BT.node (o122 P) BT.nil BT.nil)))) (BT.node (o14 P) (BT.node (o22 P) (BT.node (o38 P) (BT.node (o70 P) (BT.node (o134 P) BT.nil BT.nil) BT.nil) (BT.node (o102 P) (BT.node (o166 P) BT.nil BT.nil) BT.nil)) (BT.node (o54 P) (BT.node (o86 P) (BT.node (o150 P) BT.nil BT.nil) BT.nil) (BT.node (o118 P) BT.nil BT.nil))) (BT.node (o30 P) (BT.node (o46 P) (BT.node (o78 P) (BT.node (o142 P) BT.nil BT.nil) BT.nil) (BT.node (o110 P) (BT.node (o174 P) BT.nil BT.nil) BT.nil)) (BT.node (o62 P) (BT.node (o94 P) (BT.node (o158 P) BT.nil BT.nil) BT.nil) (BT.node (o126 P) BT.nil BT.nil)))))))
noncomputable def t4 (P : Params) : BT := (BT.node (boot_o_0 P) (BT.node (boot_o_1 P) (BT.node (o3v3 P) (BT.node (boot_o_7 P) (BT.node (o15 P) (BT.node (o31 P) (BT.node (o63 P) (BT.node (o127 P) (BT.node (o255 P) BT.nil BT.nil) BT.nil) (BT.node (o191 P) (BT.node (o319 P) BT.nil BT.nil) BT.nil)) (BT.node (o95 P) (BT.node (o159 P) (BT.node (o287 P) BT.nil BT.nil) BT.nil) (BT.node (o223 P) BT.nil BT.nil))) (BT.node (o47 P) (BT.node (o79 P) (BT.node (o143 P) (BT.node (o271 P) BT.nil BT.nil) BT.nil) (BT.node (o207 P) BT.nil BT.nil)) (BT.node (o111 P) (BT.node (o175 P) (BT.node (o303 P) BT.nil BT.nil) BT.nil) (BT.node (o239 P) BT.nil BT.nil)))) (BT.node (o23 P) (BT.node (o39 P) (BT.node (o71 P) (BT.node (o135 P) (BT.node (o263 P) BT.nil BT.nil) BT.nil) (BT.node (o199 P) (BT.node (o327 P) BT.nil BT.nil) BT.nil)) (BT.node (o103 P) (BT.node (o167 P) (BT.node (o295 P) BT.nil BT.nil) BT.nil) (BT.node (o231 P) BT.nil BT.nil))) (BT.node (o55 P) (BT.node (o87 P) (BT.node (o151 P) (BT.node (o279 P) BT.nil BT.nil) BT.nil) (BT.node (o215 P) BT.nil BT.nil)) (BT.node (o119 P) (BT.node (o183 P) (BT.node (o311 P) BT.nil BT.nil) BT.nil) (BT.node (o247 P) BT.nil BT.nil))))) (BT.node (o11 P) (BT.node (o19 P) (BT.node (o35 P) (BT.node (o67 P) (BT.node (o131 P) (BT.node (o259 P) BT.nil BT.nil) BT.nil) (BT.node (o195 P) (BT.node (o323 P) BT.nil BT.nil) BT.nil)) (BT.node (o99 P) (BT.node (o163 P) (BT.node (o291 P) BT.nil BT.nil) BT.nil) (BT.node (o227 P) BT.nil BT.nil))) (BT.node (o51 P) (BT.node (o83 P) (BT.node (o147 P) (BT.node (o275 P) BT.nil BT.nil) BT.nil) (BT.node (o211 P) BT.nil BT.nil)) (BT.node (o115 P) (BT.node (o179 P) (BT.node (o307 P) BT.nil BT.nil) BT.nil) (BT.node (o243 P) BT.nil BT.nil)))) (BT.node (o27 P) (BT.node (o43 P) (BT.node (o75 P) (BT.node (o139 P) (BT.node (o267 P) BT.nil BT.nil) BT.nil) (BT.node (o203 P) BT.nil BT.nil)) (BT.node (o107 P) (BT.node (o171 P) (BT.node (o299 P) BT.nil BT.nil) BT.nil) (BT.node (o235 P) BT.nil BT.nil))) (BT.node (o59 P) (BT.node (o91 P) (BT.node (o155 P) (BT.node (o283 P) BT.nil BT.nil) BT.nil) (BT.node (o219 P) BT.nil BT.nil)) (BT.node (o123 P) (BT.node (o187 P) (BT.node (o315 P) BT.nil BT.nil) BT.nil) (BT.node (o251 P) BT.nil BT.nil)))))) (BT.node (boot_o_5 P) (BT.node (boot_o_9 P) (BT.node (o17 P) (BT.node (o33 P) (BT.node (o65 P) (BT.node (o129 P) (BT.node (o257 P) BT.nil BT.nil) BT.nil) (BT.node (o193 P) (BT.node (o321 P) BT.nil BT.nil) BT.nil)) (BT.node (o97 P) (BT.node (o161 P) (BT.node (o289 P) BT.nil BT.nil) BT.nil) (BT.node (o225 P) BT.nil BT.nil))) (BT.node (o49 P) (BT.node (o81 P) (BT.node (o145 P) (BT.node (o273 P) BT.nil BT.nil) BT.nil) (BT.node (o209 P) BT.nil BT.nil)) (BT.node (o113 P) (BT.node (o177 P) (BT.node (o305 P) BT.nil BT.nil) BT.nil) (BT.node (o241 P) BT.nil BT.nil)))) (BT.node (o25 P) (BT.node (o41 P) (BT.node (o73 P) (BT.node (o137 P) (BT.node (o265 P) BT.nil BT.nil) BT.nil) (BT.node (o201 P) BT.nil BT.nil)) (BT.node (o105 P) (BT.node (o169 P) (BT.node (o297 P) BT.nil BT.nil) BT.nil) (BT.node (o233 P) BT.nil BT.nil))) (BT.node (o57 P) (BT.node (o89 P) (BT.node (o153 P) (BT.node (o281 P) BT.nil BT.nil) BT.nil) (BT.node (o217 P) BT.nil BT.nil)) (BT.node (o121 P) (BT.node (o185 P) (BT.node (o313 P) BT.nil BT.nil) BT.nil) (BT.node (o249 P) BT.nil BT.nil))))) (BT.node (o13 P) (BT.node (o21 P) (BT.node (o37 P) (BT.node (o69 P) (BT.node (o133 P) (BT.node (o261 P) BT.nil BT.nil) BT.nil) (BT.node (o197 P) (BT.node (o325 P) BT.nil BT.nil) BT.nil)) (BT.node (o101 P) (BT.node (o165 P) (BT.node (o293 P) BT.nil BT.nil) BT.nil) (BT.node (o229 P) BT.nil BT.nil))) (BT.node (o53 P) (BT.node (o85 P) (BT.node (o149 P) (BT.node (o277 P) BT.nil BT.nil) BT.nil) (BT.node (o213 P) BT.nil BT.nil)) (BT.node (o117 P) (BT.node (o181 P) (BT.node (o309 P) BT.nil BT.nil) BT.nil) (BT.node (o245 P) BT.nil BT.nil)))) (BT.node (o29 P) (BT.node (o45 P) (BT.node (o77 P) (BT.node (o141 P) (BT.node (o269 P) BT.nil BT.nil) BT.nil) (BT.node (o205 P) BT.nil BT.nil)) (BT.node (o109 P) (BT.node (o173 P) (BT.node (o301 P) BT.nil BT.nil) BT.nil) (BT.node (o237 P) BT.nil BT.nil))) (BT.node (o61 P) (BT.node (o93 P) (BT.node (o157 P) (BT.node (o285 P) BT.nil BT.nil) BT.nil) (BT.node (o221 P) BT.nil BT.nil)) (BT.node (o125 P) (BT.node (o189 P) (BT.node (o317 P) BT.nil BT.nil) BT.nil) (BT.node (o253 P) BT.nil BT.nil))))))) (BT.node (o2 P) (BT.node (boot_o_4 P) (BT.node (boot_o_8 P) (BT.node (o16 P) (BT.node (o32 P) (BT.node (o64 P) (BT.node (o128 P) (BT.node (o256 P) BT.nil BT.nil) BT.nil) (BT.node (o192 P) (BT.node (o320 P) BT.nil BT.nil) BT.nil)) (BT.node (o96 P) (BT.node (o160 P) (BT.node (o288 P) BT.nil BT.nil) BT.nil) (BT.node (o224 P) BT.nil BT.nil))) (BT.node (o48 P) (BT.node (o80 P) (BT.node (o144 P) (BT.node (o272 P) BT.nil BT.nil) BT.nil) (BT.node (o208 P) BT.nil BT.nil)) (BT.node (o112 P) (BT.node (o176 P) (BT.node (o304 P) BT.nil BT.nil) BT.nil) (BT.node (o240 P) BT.nil BT.nil)))) (BT.node (o24 P) (BT.node (o40 P) (BT.node (o72 P) (BT.node (o136 P) (BT.node (o264 P) BT.nil BT.nil) BT.nil) (BT.node (o200 P) (BT.node (o328 P) BT.nil BT.nil) BT.nil)) (BT.node (o104 P) (BT.node (o168 P) (BT.node (o296 P) BT.nil BT.nil) BT.nil) (BT.node (o232 P) BT.nil BT.nil))) (BT.node (o56 P) (BT.node (o88 P) (BT.node (o152 P) (BT.node (o280 P) BT.nil BT.nil) BT.nil) (BT.node (o216 P) BT.nil BT.nil)) (BT.node (o120 P) (BT.node (o184 P) (BT.node (o312 P) BT.nil BT.nil) BT.nil) (BT.node (o248 P) BT.nil BT.nil))))) (BT.node (o12v4 P) (BT.node (o20 P) (BT.node (o36 P) (BT.node (o68 P) (BT.node (o132 P) (BT.node (o260 P) BT.nil BT.nil) BT.nil) (BT.node (o196 P) (BT.node (o324 P) BT.nil BT.nil) BT.nil)) (BT.node (o100 P) (BT.node (o164 P) (BT.node (o292 P) BT.nil BT.nil) BT.nil) (BT.node (o228 P) BT.nil BT.nil))) (BT.node (o52 P) (BT.node (o84 P) (BT.node (o148 P) (BT.node (o276 P) BT.nil BT.nil) BT.nil) (BT.node (o212 P) BT.nil BT.nil)) (BT.node (o116 P) (BT.node (o180 P) (BT.node (o308 P) BT.nil BT.nil) BT.nil) (BT.node (o244 P) BT.nil BT.nil)))) (BT.node (o28 P) (BT.node (o44 P) (BT.node (o76 P) (BT.node (o140 P) (BT.node (o268 P) BT.nil BT.nil) BT.nil) (BT.node (o204 P) BT.nil BT.nil)) (BT.node (o108 P) (BT.node (o172 P) (BT.node (o300 P) BT.nil BT.nil) BT.nil) (BT.node (o236 P) BT.nil BT.nil))) (BT.node (o60 P) (BT.node (o92 P) (BT.node (o156 P) (BT.node (o284 P) BT.nil BT.nil) BT.nil) (BT.node (o220 P) BT.nil BT.nil)) (BT.node (o124 P) (BT.node (o188 P) (BT.node (o316 P) BT.nil BT.nil) BT.nil) (BT.node (o252 P) BT.nil BT.nil)))))) (BT.node (boot_o_6 P) (BT.node (boot_o_10 P) (BT.node (o18 P) (BT.node (o34 P) (BT.node (o66 P) (BT.node (o130 P) (BT.node (o258 P) BT.nil BT.nil) BT.nil) (BT.node (o194 P) (BT.node (o322 P) BT.nil BT.nil) BT.nil)) (BT.node (o98 P) (BT.node (o162 P) (BT.node (o290 P) BT.nil BT.nil) BT.nil) (BT.node (o226 P) BT.nil BT.nil))) (BT.node (o50 P) (BT.node (o82 P) (BT.node (o146 P) (BT.node (o274 P) BT.nil BT.nil) BT.nil) (BT.node (o210 P) BT.nil BT.nil)) (BT.node (o114 P) (BT.node (o178 P) (BT.node (o306 P) BT.nil BT.nil) BT.nil) (BT.node (o242 P) BT.nil BT.nil)))) (BT.node (o26 P) (BT.node (o42 P) (BT.node (o74 P) (BT.node (o138 P) (BT.node (o266 P) BT.nil BT.nil) BT.nil) (BT.node (o202 P) BT.nil BT.nil)) (BT.node (o106 P) (BT.node (o170 P) (BT.node (o298 P) BT.nil BT.nil) BT.nil) (BT.node (o234 P) BT.nil BT.nil))) (BT.node (o58 P) (BT.node (o90 P) (BT.node (o154 P) (BT.node (o282 P) BT.nil BT.nil) BT.nil) (BT.node (o218 P) BT.nil BT.nil)) (BT.node (o122 P) (BT.node (o186 P) (BT.node (o314 P) BT.nil BT.nil) BT.nil) (BT.node (o250 P) BT.nil BT.nil))))) (BT.node (o14 P) (BT.node (o22 P) (BT.node (o38 P) (BT.node (o70 P) (BT.node (o134 P) (BT.node (o262 P) BT.nil BT.nil) BT.nil) (BT.node (o198 P) (BT.node (o326 P) BT.nil BT.nil) BT.nil)) (BT.node (o102 P) (BT.node (o166 P) (BT.node (o294 P) BT.nil BT.nil) BT.nil) (BT.node (o230 P) BT.nil BT.nil))) (BT.node (o54 P) (BT.node (o86 P) (BT.node (o150 P) (BT.node (o278 P) BT.nil BT.nil) BT.nil) (BT.node (o214 P) BT.nil BT.nil)) (BT.node (o118 P) (BT.node (o182 P) (BT.node (o310 P) BT.nil BT.nil) BT.nil) (BT.node (o246 P) BT.nil BT.nil)))) (BT.node (o30 P) (BT.node (o46 P) (BT.node (o78 P) (BT.node (o142 P) (BT.node (o270 P) BT.nil BT.nil) BT.nil) (BT.node (o206 P) BT.nil BT.nil)) (BT.node (o110 P) (BT.node (o174 P) (BT.node (o302 P) BT.nil BT.nil) BT.nil) (BT.node (o238 P) BT.nil BT.nil))) (BT.node (o62 P) (BT.node (o94 P) (BT.node (o158 P) (BT.node (o286 P) BT.nil BT.nil) BT.nil) (BT.node (o222 P) BT.nil BT.nil)) (BT.node (o126 P) (BT.node (o190 P) (BT.node (o318 P) BT.nil BT.nil) BT.nil) (BT.node (o254 P) BT.nil BT.nil))))))))
noncomputable def t5 (P : Params) : BT := (BT.node (boot_o_0 P) (BT.node (boot_o_1 P) (BT.node (o3v4 P) (BT.node (boot_o_7 P) (BT.node (o15 P) (BT.node (o31 P) (BT.node (o63 P) (BT.node (o127 P) (BT.node (o255 P) BT.nil BT.nil) (BT.node (o383 P) BT.nil BT.nil)) (BT.node (o191 P) (BT.node (o319 P) BT.nil BT.nil) BT.nil)) (BT.node (o95 P) (BT.node (o159 P) (BT.node (o287 P) BT.nil BT.nil) BT.nil) (BT.node (o223 P) (BT.node (o351 P) BT.nil BT.nil) BT.nil))) (BT.node (o47 P) (BT.node (o79 P) (BT.node (o143 P) (BT.node (o271 P) BT.nil BT.nil) BT.nil) (BT.node (o207 P) (BT.node (o335 P) BT.nil BT.nil) BT.nil)) (BT.node (o111 P) (BT.node (o175 P) (BT.node (o303 P) BT.nil BT.nil) BT.nil) (BT.node (o239 P) (BT.node (o367 P) BT.nil BT.nil) BT.nil)))) (BT.node (o23 P) (BT.node (o39 P) (BT.node (o71 P) (BT.node (o135 P) (BT.node (o263 P) BT.nil BT.nil) BT.nil) (BT.node (o199 P) (BT.node (o327 P) BT.nil BT.nil) BT.nil)) (BT.node (o103 P) (BT.node (o167 P) (BT.node (o295 P) BT.nil BT.nil) BT.nil) (BT.node (o231 P) (BT.node (o359 P) BT.nil BT.nil) BT.nil))) (BT.node (o55 P) (BT.node (o87 P) (BT.node (o151 P) (BT.node (o279 P) BT.nil BT.nil) BT.nil) (BT.node (o215 P) (BT.node (o343 P) BT.nil BT.nil) BT.nil)) (BT.node (o119 P) (BT.node (o183 P) (BT.node (o311 P) BT.nil BT.nil) BT.nil) (BT.node (o247 P) (BT.node (o375 P) BT.nil BT.nil) BT.nil))))) (BT.node (o11 P) (BT.node (o19 P) (BT.node (o35 P) (BT.node (o67 P) (BT.node (o131 P) (BT.node (o259 P) BT.nil BT.nil) BT.nil) (BT.node (o195 P) (BT.node (o323 P) BT.nil BT.nil) BT.nil)) (BT.node (o99 P) (BT.node (o163 P) (BT.node (o291 P) BT.nil BT.nil) BT.nil) (BT.node (o227 P) (BT.node (o355 P) BT.nil BT.nil) BT.nil))) (BT.node (o51 P) (BT.node (o83 P) (BT.node (o147 P) (BT.node (o275 P) BT.nil BT.nil) BT.nil) (BT.node (o211 P) (BT.node (o339 P) BT.nil BT.nil) BT.nil)) (BT.node (o115 P) (BT.node (o179 P) (BT.node (o307 P) BT.nil BT.nil) BT.nil) (BT.node (o243 P) (BT.node (o371 P) BT.nil BT.nil) BT.nil)))) (BT.node (o27 P) (BT.node (o43 P) (BT.node (o75 P) (BT.node (o139 P) (BT.node (o267 P) BT.nil BT.nil) BT.nil) (BT.node (o203 P) (BT.node (o331 P) BT.nil BT.nil) BT.nil)) (BT.node (o107 P) (BT.node (o171 P) (BT.node (o299 P) BT.nil BT.nil) BT.nil) (BT.node (o235 P) (BT.node (o363 P) BT.nil BT.nil) BT.nil))) (BT.node (o59 P) (BT.node (o91 P) (BT.node (o155 P) (BT.node (o283 P) BT.nil BT.nil) BT.nil) (BT.node (o219 P) (BT.node (o347 P) BT.nil BT.nil) BT.nil)) (BT.node (o123 P) (BT.node (o187 P) (BT.node (o315 P) BT.nil BT.nil) BT.nil) (BT.node (o251 P) (BT.node (o379 P) BT.nil BT.nil) BT.nil)))))) (BT.node (boot_o_5 P) (BT.node (boot_o_9 P) (BT.node (o17 P) (BT.node (o33 P) (BT.node (o65 P) (BT.node (o129 P) (BT.node (o257 P) BT.nil BT.nil) BT.nil) (BT.node (o193 P) (BT.node (o321 P) BT.nil BT.nil) BT.nil)) (BT.node (o97 P) (BT.node (o161 P) (BT.node (o289 P) BT.nil BT.nil) BT.nil) (BT.node (o225 P) (BT.node (o353 P) BT.nil BT.nil) BT.nil))) (BT.node (o49 P) (BT.node (o81 P) (BT.node (o145 P) (BT.node (o273 P) BT.nil BT.nil) BT.nil) (BT.node (o209 P) (BT.node (o337 P) BT.nil BT.nil) BT.nil)) (BT.node (o113 P) (BT.node (o177 P) (BT.node (o305 P) BT.nil BT.nil) BT.nil) (BT.node (o241 P) (BT.node (o369 P) BT.nil BT.nil) BT.nil)))) (BT.node (o25 P) (BT.node (o41 P) (BT.node (o73 P) (BT.node (o137 P) (BT.node (o265 P) BT.nil BT.nil) BT.nil) (BT.node (o201 P) (BT.node (o329 P) BT.nil BT.nil) BT.nil)) (BT.node (o105 P) (BT.node (o169 P) (BT.node (o297 P) BT.nil BT.nil) BT.nil) (BT.node (o233 P) (BT.node (o361 P) BT.nil BT.nil) BT.nil))) (BT.node (o57 P) (BT.node (o89 P) (BT.node (o153 P) (BT.node (o281 P) BT.nil BT.nil) BT.nil) (BT.node (o217 P) (BT.node (o345 P) BT.nil BT.nil) BT.nil)) (BT.node (o121 P) (BT.node (o185 P) (BT.node (o313 P) BT.nil BT.nil) BT.nil) (BT.node (o249 P) (BT.node (o377 P) BT.nil BT.nil) BT.nil))))) (BT.node (o13 P) (BT.node (o21 P) (BT.node (o37 P) (BT.node (o69 P) (BT.node (o133 P) (BT.node (o261 P) BT.nil BT.nil) BT.nil) (BT.node (o197 P) (BT.node (o325 P) BT.nil BT.nil) BT.nil)) (BT.node (o101 P) (BT.node (o165 P) (BT.node (o293 P) BT.nil BT.nil) BT.nil) (BT.node (o229 P) (BT.node (o357 P) BT.nil BT.nil) BT.nil))) (BT.node (o53 P) (BT.node (o85 P) (BT.node (o149 P) (BT.node (o277 P) BT.nil BT.nil) BT.nil) (BT.node (o213 P) (BT.node (o341 P) BT.nil BT.nil) BT.nil)) (BT.node (o117 P) (BT.node (o181 P) (BT.node (o309 P) BT.nil BT.nil) BT.nil) (BT.node (o245 P) (BT.node (o373 P) BT.nil BT.nil) BT.nil)))) (BT.node (o29 P) (BT.node (o45 P) (BT.node (o77 P) (BT.node (o141 P) (BT.node (o269 P) BT.nil BT.nil) BT.nil) (BT.node (o205 P) (BT.node (o333 P) BT.nil BT.nil) BT.nil)) (BT.node (o109 P) (BT.node (o173 P) (BT.node (o301 P) BT.nil BT.nil) BT.nil) (BT.node (o237 P) (BT.node (o365 P) BT.nil BT.nil) BT.nil))) (BT.node (o61 P) (BT.node (o93 P) (BT.node (o157 P) (BT.node (o285 P) BT.nil BT.nil) BT.nil) (BT.node (o221 P) (BT.node (o349 P) BT.nil BT.nil) BT.nil)) (BT.node (o125 P) (BT.node (o189 P) (BT.node (o317 P) BT.nil BT.nil) BT.nil) (BT.node (o253 P) (BT.node (o381 P) BT.nil BT.nil) BT.nil))))))) (BT.node (o2 P) (BT.node (boot_o_4 P) (BT.node (boot_o_8 P) (BT.node (o16 P) (BT.node (o32 P) (BT.node (o64 P) (BT.node (o128 P) (BT.node (o256 P) BT.nil BT.nil) BT.nil) (BT.node (o192 P) (BT.node (o320 P) BT.nil BT.nil) BT.nil)) (BT.node (o96 P) (BT.node (o160 P) (BT.node (o288 P) BT.nil BT.nil) BT.nil) (BT.node (o224 P) (BT.node (o352 P) BT.nil BT.nil) BT.nil))) (BT.node (o48 P) (BT.node (o80 P) (BT.node (o144 P) (BT.node (o272 P) BT.nil BT.nil) BT.nil) (BT.node (o208 P) (BT.node (o336 P) BT.nil BT.nil) BT.nil)) (BT.node (o112 P) (BT.node (o176 P) (BT.node (o304 P) BT.nil BT.nil) BT.nil) (BT.node (o240 P) (BT.node (o368 P) BT.nil BT.nil) BT.nil)))) (BT.node (o24 P) (BT.node (o40 P) (BT.node (o72 P) (BT.node (o136 P) (BT.node (o264 P) BT.nil BT.nil) BT.nil) (BT.node (o200 P) (BT.node (o328 P) BT.nil BT.nil) BT.nil)) (BT.node (o104 P) (BT.node (o168 P) (BT.node (o296 P) BT.nil BT.nil) BT.nil) (BT.node (o232 P) (BT.node (o360 P) BT.nil BT.nil) BT.nil))) (BT.node (o56 P) (BT.node (o88 P) (BT.node (o152 P) (BT.node (o280 P) BT.nil BT.nil) BT.nil) (BT.node (o216 P) (BT.node (o344 P) BT.nil BT.nil) BT.nil)) (BT.node (o120 P) (BT.node (o184 P) (BT.node (o312 P) BT.nil BT.nil) BT.nil) (BT.node (o248 P) (BT.node (o376 P) BT.nil BT.nil) BT.nil))))) (BT.node (o12v5 P) (BT.node (o20 P) (BT.node (o36 P) (BT.node (o68 P) (BT.node (o132 P) (BT.node (o260 P) BT.nil BT.nil) BT.nil) (BT.node (o196 P) (BT.node (o324v1 P) BT.nil BT.nil) BT.nil)) (BT.node (o100 P) (BT.node (o164 P) (BT.node (o292 P) BT.nil BT.nil) BT.nil) (BT.node (o228 P) (BT.node (o356 P) BT.nil BT.nil) BT.nil))) (BT.node (o52 P) (BT.node (o84 P) (BT.node (o148 P) (BT.node (o276 P) BT.nil BT.nil) BT.nil) (BT.node (o212 P) (BT.node (o340 P) BT.nil BT.nil) BT.nil)) (BT.node (o116 P) (BT.node (o180 P) (BT.node (o308 P) BT.nil BT.nil) BT.nil) (BT.node (o244 P) (BT.node (o372 P) BT.nil BT.nil) BT.nil)))) (BT.node (o28 P) (BT.node (o44 P) (BT.node (o76 P) (BT.node (o140 P) (BT.node (o268 P) BT.nil BT.nil) BT.nil) (BT.node (o204 P) (BT.node (o332 P) BT.nil BT.nil) BT.nil)) (BT.node (o108 P) (BT.node (o172 P) (BT.node (o300 P) BT.nil BT.nil) BT.nil) (BT.node (o236 P) (BT.node (o364 P) BT.nil BT.nil) BT.nil))) (BT.node (o60 P) (BT.node (o92 P) (BT.node (o156 P) (BT.node (o284 P) BT.nil BT.nil) BT.nil) (BT.node (o220 P) (BT.node (o348 P) BT.nil BT.nil) BT.nil)) (BT.node (o124 P) (BT.node (o188 P) (BT.node (o316 P) BT.nil BT.nil) BT.nil) (BT.node (o252 P) (BT.node (o380 P) BT.nil BT.nil) BT.nil)))))) (BT.node (boot_o_6 P) (BT.node (boot_o_10 P) (BT.node (o18 P) (BT.node (o34 P) (BT.node (o66 P) (BT.node (o130 P) (BT.node (o258 P) BT.nil BT.nil) BT.nil) (BT.node (o194 P) (BT.node (o322 P) BT.nil BT.nil) BT.nil)) (BT.node (o98 P) (BT.node (o162 P) (BT.node (o290 P) BT.nil BT.nil) BT.nil) (BT.node (o226 P) (BT.node (o354 P) BT.nil BT.nil) BT.nil))) (BT.node (o50 P) (BT.node (o82 P) (BT.node (o146 P) (BT.node (o274 P) BT.nil BT.nil) BT.nil) (BT.node (o210 P) (BT.node (o338 P) BT.nil BT.nil) BT.nil)) (BT.node (o114 P) (BT.node (o178 P) (BT.node (o306 P) BT.nil BT.nil) BT.nil) (BT.node (o242 P) (BT.node (o370 P) BT.nil BT.nil) BT.nil)))) (BT.node (o26 P) (BT.node (o42 P) (BT.node (o74 P) (BT.node (o138 P) (BT.node (o266 P) BT.nil BT.nil) BT.nil) (BT.node (o202 P) (BT.node (o330 P) BT.nil BT.nil) BT.nil)) (BT.node (o106 P) (BT.node (o170 P) (BT.node (o298 P) BT.nil BT.nil) BT.nil) (BT.node (o234 P) (BT.node (o362 P) BT.nil BT.nil) BT.nil))) (BT.node (o58 P) (BT.node (o90 P) (BT.node (o154 P) (BT.node (o282 P) BT.nil BT.nil) BT.nil) (BT.node (o218 P) (BT.node (o346 P) BT.nil BT.nil) BT.nil)) (BT.node (o122 P) (BT.node (o186 P) (BT.node (o314 P) BT.nil BT.nil) BT.nil) (BT.node (o250 P) (BT.node (o378 P) BT.nil BT.nil) BT.nil))))) (BT.node (o14 P) (BT.node (o22 P) (BT.node (o38 P) (BT.node (o70 P) (BT.node (o134 P) (BT.node (o262 P) BT.nil BT.nil) BT.nil) (BT.node (o198 P) (BT.node (o326 P) BT.nil BT.nil) BT.nil)) (BT.node (o102 P) (BT.node (o166 P) (BT.node (o294 P) BT.nil BT.nil) BT.nil) (BT.node (o230 P) (BT.node (o358 P) BT.nil BT.nil) BT.nil))) (BT.node (o54 P) (BT.node (o86 P) (BT.node (o150 P) (BT.node (o278 P) BT.nil BT.nil) BT.nil) (BT.node (o214 P) (BT.node (o342 P) BT.nil BT.nil) BT.nil)) (BT.node (o118 P) (BT.node (o182 P) (BT.node (o310 P) BT.nil BT.nil) BT.nil) (BT.node (o246 P) (BT.node (o374 P) BT.nil BT.nil) BT.nil)))) (BT.node (o30 P) (BT.node (o46 P) (BT.node (o78 P) (BT.node (o142 P) (BT.node (o270 P) BT.nil BT.nil) BT.nil) (BT.node (o206 P) (BT.node (o334 P) BT.nil BT.nil) BT.nil)) (BT.node (o110 P) (BT.node (o174 P) (BT.node (o302 P) BT.nil BT.nil) BT.nil) (BT.node (o238 P) (BT.node (o366 P) BT.nil BT.nil) BT.nil))) (BT.node (o62 P) (BT.node (o94 P) (BT.node (o158 P) (BT.node (o286 P) BT.nil BT.nil) BT.nil) (BT.node (o222 P) (BT.node (o350 P) BT.nil BT.nil) BT.nil)) (BT.node (o126 P) (BT.node (o190 P) (BT.node (o318 P) BT.nil BT.nil) BT.nil) (BT.node (o254 P) (BT.node (o382 P) BT.nil BT.nil) BT.nil))))))))
noncomputable def t6 (P : Params) : BT := (BT.node (boot_o_0 P) (BT.node (boot_o_1 P) (BT.node (o3v5 P) (BT.node (boot_o_7 P) (BT.node (o15 P) (BT.node (o31 P) (BT.node (o63 P) (BT.node (o127 P) (BT.node (o255 P) (BT.node (o511 P) BT.nil BT.nil) BT.nil) (BT.node (o383 P) BT.nil BT.nil)) (BT.node (o191 P) (BT.node (o319 P) BT.nil BT.nil) (BT.node (o447 P) BT.nil BT.nil))) (BT.node (o95 P) (BT.node (o159 P) (BT.node (o287 P) (BT.node (o543 P) BT.nil BT.nil) BT.nil) (BT.node (o415 P) BT.nil BT.nil)) (BT.node (o223 P) (BT.node (o351 P) BT.nil BT.nil) (BT.node (o479 P) BT.nil BT.nil)))) (BT.node (o47 P) (BT.node (o79 P) (BT.node (o143 P) (BT.node (o271 P) (BT.node (o527 P) BT.nil BT.nil) BT.nil) (BT.node (o399 P) BT.nil BT.nil)) (BT.node (o207 P) (BT.node (o335 P) BT.nil BT.nil) (BT.node (o463 P) BT.nil BT.nil))) (BT.node (o111 P) (BT.node (o175 P) (BT.node (o303 P) BT.nil BT.nil) (BT.node (o431 P) BT.nil BT.nil)) (BT.node (o239 P) (BT.node (o367 P) BT.nil BT.nil) (BT.node (o495 P) BT.nil BT.nil))))) (BT.node (o23 P) (BT.node (o39 P) (BT.node (o71 P) (BT.node (o135 P) (BT.node (o263 P) (BT.node (o519 P) BT.nil BT.nil) BT.nil) (BT.node (o391 P) BT.nil BT.nil)) (BT.node (o199 P) (BT.node (o327 P) BT.nil BT.nil) (BT.node (o455 P) BT.nil BT.nil))) (BT.node (o103 P) (BT.node (o167 P) (BT.node (o295 P) BT.nil BT.nil) (BT.node (o423 P) BT.nil BT.nil)) (BT.node (o231 P) (BT.node (o359 P) BT.nil BT.nil) (BT.node (o487 P) BT.nil BT.nil)))) (BT.node (o55 P) (BT.node (o87 P) (BT.node (o151 P) (BT.node (o279 P) (BT.node (o535 P) BT.nil BT.nil) BT.nil) (BT.node (o407 P) BT.nil BT.nil)) (BT.node (o215 P) (BT.node (o343 P) BT.nil BT.nil) (BT.node (o471 P) BT.nil BT.nil))) (BT.node (o119 P) (BT.node (o183 P) (BT.node (o311 P) BT.nil BT.nil) (BT.node (o439 P) BT.nil BT.nil)) (BT.node (o247 P) (BT.node (o375 P) BT.nil BT.nil) (BT.node (o503 P) BT.nil BT.nil)))))) (BT.node (o11 P) (BT.node (o19 P) (BT.node (o35 P) (BT.node (o67 P) (BT.node (o131 P) (BT.node (o259 P) (BT.node (o515 P) BT.nil BT.nil) BT.nil) (BT.node (o387 P) BT.nil BT.nil)) (BT.node (o195 P) (BT.node (o323 P) BT.nil BT.nil) (BT.node (o451 P) BT.nil BT.nil))) (BT.node (o99 P) (BT.node (o163 P) (BT.node (o291 P) BT.nil BT.nil) (BT.node (o419 P) BT.nil BT.nil)) (BT.node (o227 P) (BT.node (o355 P) BT.nil BT.nil) (BT.node (o483 P) BT.nil BT.nil)))) (BT.node (o51 P) (BT.node (o83 P) (BT.node (o147 P) (BT.node (o275 P) (BT.node (o531 P) BT.nil BT.nil) BT.nil) (BT.node (o403 P) BT.nil BT.nil)) (BT.node (o211 P) (BT.node (o339 P) BT.nil BT.nil) (BT.node (o467 P) BT.nil BT.nil))) (BT.node (o115 P) (BT.node (o179 P) (BT.node (o307 P) BT.nil BT.nil) (BT.node (o435 P) BT.nil BT.nil)) (BT.node (o243 P) (BT.node (o371 P) BT.nil BT.nil) (BT.node (o499 P) BT.nil BT.nil))))) (BT.node (o27 P) (BT.node (o43 P) (BT.node (o75 P) (BT.node (o139 P) (BT.node (o267 P) (BT.node (o523 P) BT.nil BT.nil) BT.nil) (BT.node (o395 P) BT.nil BT.nil)) (BT.node (o203 P) (BT.node (o331 P) BT.nil BT.nil) (BT.node (o459 P) BT.nil BT.nil))) (BT.node (o107 P) (BT.node (o171 P) (BT.node (o299 P) BT.nil BT.nil) (BT.node (o427 P) BT.nil BT.nil)) (BT.node (o235 P) (BT.node (o363 P) BT.nil BT.nil) (BT.node (o491 P) BT.nil BT.nil)))) (BT.node (o59 P) (BT.node (o91 P) (BT.node (o155 P) (BT.node (o283 P) (BT.node (o539 P) BT.nil BT.nil) BT.nil) (BT.node (o411 P) BT.nil BT.nil)) (BT.node (o219 P) (BT.node (o347 P) BT.nil BT.nil) (BT.node (o475 P) BT.nil BT.nil))) (BT.node (o123 P) (BT.node (o187 P) (BT.node (o315 P) BT.nil BT.nil) (BT.node (o443 P) BT.nil BT.nil)) (BT.node (o251 P) (BT.node (o379 P) BT.nil BT.nil) (BT.node (o507 P) BT.nil BT.nil))))))) (BT.node (boot_o_5 P) (BT.node (boot_o_9 P) (BT.node (o17 P) (BT.node (o33 P) (BT.node (o65 P) (BT.node (o129 P) (BT.node (o257 P) (BT.node (o513 P) BT.nil BT.nil) BT.nil) (BT.node (o385 P) BT.nil BT.nil)) (BT.node (o193 P) (BT.node (o321 P) BT.nil BT.nil) (BT.node (o449 P) BT.nil BT.nil))) (BT.node (o97 P) (BT.node (o161 P) (BT.node (o289 P) (BT.node (o545 P) BT.nil BT.nil) BT.nil) (BT.node (o417 P) BT.nil BT.nil)) (BT.node (o225 P) (BT.node (o353 P) BT.nil BT.nil) (BT.node (o481 P) BT.nil BT.nil)))) (BT.node (o49 P) (BT.node (o81 P) (BT.node (o145 P) (BT.node (o273 P) (BT.node (o529 P) BT.nil BT.nil) BT.nil) (BT.node (o401 P) BT.nil BT.nil)) (BT.node (o209 P) (BT.node (o337 P) BT.nil BT.nil) (BT.node (o465 P) BT.nil BT.nil))) (BT.node (o113 P) (BT.node (o177 P) (BT.node (o305 P) BT.nil BT.nil) (BT.node (o433 P) BT.nil BT.nil)) (BT.node (o241 P) (BT.node (o369 P) BT.nil BT.nil) (BT.node (o497 P) BT.nil BT.nil))))) (BT.node (o25 P) (BT.node (o41 P) (BT.node (o73 P) (BT.node (o137 P) (BT.node (o265 P) (BT.node (o521 P) BT.nil BT.nil) BT.nil) (BT.node (o393 P) BT.nil BT.nil)) (BT.node (o201 P) (BT.node (o329 P) BT.nil BT.nil) (BT.node (o457 P) BT.nil BT.nil))) (BT.node (o105 P) (BT.node (o169 P) (BT.node (o297 P) BT.nil BT.nil) (BT.node (o425 P) BT.nil BT.nil)) (BT.node (o233 P) (BT.node (o361 P) BT.nil BT.nil) (BT.node (o489 P) BT.nil BT.nil)))) (BT.node (o57 P) (BT.node (o89 P) (BT.node (o153 P) (BT.node (o281 P) (BT.node (o537 P) BT.nil BT.nil) BT.nil) (BT.node (o409 P) BT.nil BT.nil)) (BT.node (o217 P) (BT.node (o345 P) BT.nil BT.nil) (BT.node (o473 P) BT.nil BT.nil))) (BT.node (o121 P) (BT.node (o185 P) (BT.node (o313 P) BT.nil BT.nil) (BT.node (o441 P) BT.nil BT.nil)) (BT.node (o249 P) (BT.node (o377 P) BT.nil BT.nil) (BT.node (o505 P) BT.nil BT.nil)))))) (BT.node (o13 P) (BT.node (o21 P) (BT.node (o37 P) (BT.node (o69 P) (BT.node (o133 P) (BT.node (o261 P) (BT.node (o517 P) BT.nil BT.nil) BT.nil) (BT.node (o389 P) BT.nil BT.nil)) (BT.node (o197 P) (BT.node (o325 P) BT.nil BT.nil) (BT.node (o453 P) BT.nil BT.nil))) (BT.node (o101 P) (BT.node (o165 P) (BT.node (o293 P) BT.nil BT.nil) (BT.node (o421 P) BT.nil BT.nil)) (BT.node (o229 P) (BT.node (o357 P) BT.nil BT.nil) (BT.node (o485 P) BT.nil BT.nil)))) (BT.node (o53 P) (BT.node (o85 P) (BT.node (o149 P) (BT.node (o277 P) (BT.node (o533 P) BT.nil BT.nil) BT.nil) (BT.node (o405 P) BT.nil BT.nil)) (BT.node (o213 P) (BT.node (o341 P) BT.nil BT.nil) (BT.node (o469 P) BT.nil BT.nil))) (BT.node (o117 P) (BT.node (o181 P) (BT.node (o309 P) BT.nil BT.nil) (BT.node (o437 P) BT.nil BT.nil)) (BT.node (o245 P) (BT.node (o373 P) BT.nil BT.nil) (BT.node (o501 P) BT.nil BT.nil))))) (BT.node (o29 P) (BT.node (o45 P) (BT.node (o77 P) (BT.node (o141 P) (BT.node (o269 P) (BT.node (o525 P) BT.nil BT.nil) BT.nil) (BT.node (o397 P) BT.nil BT.nil)) (BT.node (o205 P) (BT.node (o333 P) BT.nil BT.nil) (BT.node (o461 P) BT.nil BT.nil))) (BT.node (o109 P) (BT.node (o173 P) (BT.node (o301 P) BT.nil BT.nil) (BT.node (o429 P) BT.nil BT.nil)) (BT.node (o237 P) (BT.node (o365 P) BT.nil BT.nil) (BT.node (o493 P) BT.nil BT.nil)))) (BT.node (o61 P) (BT.node (o93 P) (BT.node (o157 P) (BT.node (o285 P) (BT.node (o541 P) BT.nil BT.nil) BT.nil) (BT.node (o413 P) BT.nil BT.nil)) (BT.node (o221 P) (BT.node (o349 P) BT.nil BT.nil) (BT.node (o477 P) BT.nil BT.nil))) (BT.node (o125 P) (BT.node (o189 P) (BT.node (o317 P) BT.nil BT.nil) (BT.node (o445 P) BT.nil BT.nil)) (BT.node (o253 P) (BT.node (o381 P) BT.nil BT.nil) (BT.node (o509 P) BT.nil BT.nil)))))))) (BT.node (o2 P) (BT.node (boot_o_4 P) (BT.node (boot_o_8 P) (BT.node (o16 P) (BT.node (o32 P) (BT.node (o64 P) (BT.node (o128 P) (BT.node (o256 P) (BT.node (o512 P) BT.nil BT.nil) BT.nil) (BT.node (o384 P) BT.nil BT.nil)) (BT.node (o192 P) (BT.node (o320 P) BT.nil BT.nil) (BT.node (o448 P) BT.nil BT.nil))) (BT.node (o96 P) (BT.node (o160 P) (BT.node (o288 P) (BT.node (o544 P) BT.nil BT.nil) BT.nil) (BT.node (o416 P) BT.nil BT.nil)) (BT.node (o224 P) (BT.node (o352 P) BT.nil BT.nil) (BT.node (o480 P) BT.nil BT.nil)))) (BT.node (o48 P) (BT.node (o80 P) (BT.node (o144 P) (BT.node (o272 P) (BT.node (o528 P) BT.nil BT.nil) BT.nil) (BT.node (o400 P) BT.nil BT.nil)) (BT.node (o208 P) (BT.node (o336 P) BT.nil BT.nil) (BT.node (o464 P) BT.nil BT.nil))) (BT.node (o112 P) (BT.node (o176 P) (BT.node (o304 P) BT.nil BT.nil) (BT.node (o432 P) BT.nil BT.nil)) (BT.node (o240 P) (BT.node (o368 P) BT.nil BT.nil) (BT.node (o496 P) BT.nil BT.nil))))) (BT.node (o24 P) (BT.node (o40 P) (BT.node (o72 P) (BT.node (o136 P) (BT.node (o264 P) (BT.node (o520 P) BT.nil BT.nil) BT.nil) (BT.node (o392 P) BT.nil BT.nil)) (BT.node (o200 P) (BT.node (o328 P) BT.nil BT.nil) (BT.node (o456 P) BT.nil BT.nil))) (BT.node (o104 P) (BT.node (o168 P) (BT.node (o296 P) BT.nil BT.nil) (BT.node (o424 P) BT.nil BT.nil)) (BT.node (o232 P) (BT.node (o360 P) BT.nil BT.nil) (BT.node (o488 P) BT.nil BT.nil)))) (BT.node (o56 P) (BT.node (o88 P) (BT.node (o152 P) (BT.node (o280 P) (BT.node (o536 P) BT.nil BT.nil) BT.nil) (BT.node (o408 P) BT.nil BT.nil)) (BT.node (o216 P) (BT.node (o344 P) BT.nil BT.nil) (BT.node (o472 P) BT.nil BT.nil))) (BT.node (o120 P) (BT.node (o184 P) (BT.node (o312 P) BT.nil BT.nil) (BT.node (o440 P) BT.nil BT.nil)) (BT.node (o248 P) (BT.node (o376 P) BT.nil BT.nil) (BT.node (o504 P) BT.nil BT.nil)))))) (BT.node (o12v6 P) (BT.node (o20 P) (BT.node (o36 P) (BT.node (o68 P) (BT.node (o132 P) (BT.node (o260 P) (BT.node (o516 P) BT.nil BT.nil) BT.nil) (BT.node (o388 P) BT.nil BT.nil)) (BT.node (o196 P) (BT.node (o324v1 P) BT.nil BT.nil) (BT.node (o452 P) BT.nil BT.nil))) (BT.node (o100 P) (BT.node (o164 P) (BT.node (o292 P) BT.nil BT.nil) (BT.node (o420 P) BT.nil BT.nil)) (BT.node (o228 P) (BT.node (o356 P) BT.nil BT.nil) (BT.node (o484 P) BT.nil BT.nil)))) (BT.node (o52 P) (BT.node (o84 P) (BT.node (o148 P) (BT.node (o276 P) (BT.node (o532 P) BT.nil BT.nil) BT.nil) (BT.node (o404 P) BT.nil BT.nil)) (BT.node (o212 P) (BT.node (o340 P) BT.nil BT.nil) (BT.node (o468 P) BT.nil BT.nil))) (BT.node (o116 P) (BT.node (o180 P) (BT.node (o308 P) BT.nil BT.nil) (BT.node (o436 P) BT.nil BT.nil)) (BT.node (o244 P) (BT.node (o372 P) BT.nil BT.nil) (BT.node (o500 P) BT.nil BT.nil))))) (BT.node (o28 P) (BT.node (o44 P) (BT.node (o76 P) (BT.node (o140 P) (BT.node (o268 P) (BT.node (o524 P) BT.nil BT.nil) BT.nil) (BT.node (o396 P) BT.nil BT.nil)) (BT.node (o204 P) (BT.node (o332 P) BT.nil BT.nil) (BT.node (o460 P) BT.nil BT.nil))) (BT.node (o108 P) (BT.node (o172 P) (BT.node (o300 P) BT.nil BT.nil) (BT.node (o428 P) BT.nil BT.nil)) (BT.node (o236 P) (BT.node (o364 P) BT.nil BT.nil) (BT.node (o492 P) BT.nil BT.nil)))) (BT.node (o60 P) (BT.node (o92 P) (BT.node (o156 P) (BT.node (o284 P) (BT.node (o540 P) BT.nil BT.nil) BT.nil) (BT.node (o412 P) BT.nil BT.nil)) (BT.node (o220 P) (BT.node (o348 P) BT.nil BT.nil) (BT.node (o476 P) BT.nil BT.nil))) (BT.node (o124 P) (BT.node (o188 P) (BT.node (o316 P) BT.nil BT.nil) (BT.node (o444 P) BT.nil BT.nil)) (BT.node (o252 P) (BT.node (o380 P) BT.nil BT.nil) (BT.node (o508 P) BT.nil BT.nil))))))) (BT.node (boot_o_6 P) (BT.node (boot_o_10 P) (BT.node (o18 P) (BT.node (o34 P) (BT.node (o66 P) (BT.node (o130 P) (BT.node (o258 P) (BT.node (o514 P) BT.nil BT.nil) BT.nil) (BT.node (o386 P) BT.nil BT.nil)) (BT.node (o194 P) (BT.node (o322 P) BT.nil BT.nil) (BT.node (o450 P) BT.nil BT.nil))) (BT.node (o98 P) (BT.node (o162 P) (BT.node (o290 P) BT.nil BT.nil) (BT.node (o418 P) BT.nil BT.nil)) (BT.node (o226 P) (BT.node (o354 P) BT.nil BT.nil) (BT.node (o482 P) BT.nil BT.nil)))) (BT.node (o50 P) (BT.node (o82 P) (BT.node (o146 P) (BT.node (o274 P) (BT.node (o530 P) BT.nil BT.nil) BT.nil) (BT.node (o402 P) BT.nil BT.nil)) (BT.node (o210 P) (BT.node (o338 P) BT.nil BT.nil) (BT.node (o466 P) BT.nil BT.nil))) (BT.node (o114 P) (BT.node (o178 P) (BT.node (o306 P) BT.nil BT.nil) (BT.node (o434 P) BT.nil BT.nil)) (BT.node (o242 P) (BT.node (o370 P) BT.nil BT.nil) (BT.node (o498 P) BT.nil BT.nil))))) (BT.node (o26 P) (BT.node (o42 P) (BT.node (o74 P) (BT.node (o138 P) (BT.node (o266 P) (BT.node (o522 P) BT.nil BT.nil) BT.nil) (BT.node (o394 P) BT.nil BT.nil)) (BT.node (o202 P) (BT.node (o330 P) BT.nil BT.nil) (BT.node (o458 P) BT.nil BT.nil))) (BT.node (o106 P) (BT.node (o170 P) (BT.node (o298 P) BT.nil BT.nil) (BT.node (o426 P) BT.nil BT.nil)) (BT.node (o234 P) (BT.node (o362 P) BT.nil BT.nil) (BT.node (o490 P) BT.nil BT.nil)))) (BT.node (o58 P) (BT.node (o90 P) (BT.node (o154 P) (BT.node (o282 P) (BT.node (o538 P) BT.nil BT.nil) BT.nil) (BT.node (o410 P) BT.nil BT.nil)) (BT.node (o218 P) (BT.node (o346 P) BT.nil BT.nil) (BT.node (o474 P) BT.nil BT.nil))) (BT.node (o122 P) (BT.node (o186 P) (BT.node (o314 P) BT.nil BT.nil) (BT.node (o442 P) BT.nil BT.nil)) (BT.node (o250 P) (BT.node (o378 P) BT.nil BT.nil) (BT.node (o506 P) BT.nil BT.nil)))))) (BT.node (o14 P) (BT.node (o22 P) (BT.node (o38 P) (BT.node (o70 P) (BT.node (o134 P) (BT.node (o262 P) (BT.node (o518 P) BT.nil BT.nil) BT.nil) (BT.node (o390 P) BT.nil BT.nil)) (BT.node (o198 P) (BT.node (o326 P) BT.nil BT.nil) (BT.node (o454 P) BT.nil BT.nil))) (BT.node (o102 P) (BT.node (o166 P) (BT.node (o294 P) BT.nil BT.nil) (BT.node (o422 P) BT.nil BT.nil)) (BT.node (o230 P) (BT.node (o358 P) BT.nil BT.nil) (BT.node (o486 P) BT.nil BT.nil)))) (BT.node (o54 P) (BT.node (o86 P) (BT.node (o150 P) (BT.node (o278 P) (BT.node (o534 P) BT.nil BT.nil) BT.nil) (BT.node (o406 P) BT.nil BT.nil)) (BT.node (o214 P) (BT.node (o342 P) BT.nil BT.nil) (BT.node (o470 P) BT.nil BT.nil))) (BT.node (o118 P) (BT.node (o182 P) (BT.node (o310 P) BT.nil BT.nil) (BT.node (o438 P) BT.nil BT.nil)) (BT.node (o246 P) (BT.node (o374 P) BT.nil BT.nil) (BT.node (o502 P) BT.nil BT.nil))))) (BT.node (o30 P) (BT.node (o46 P) (BT.node (o78 P) (BT.node (o142 P) (BT.node (o270 P) (BT.node (o526 P) BT.nil BT.nil) BT.nil) (BT.node (o398 P) BT.nil BT.nil)) (BT.node (o206 P) (BT.node (o334 P) BT.nil BT.nil) (BT.node (o462 P) BT.nil BT.nil))) (BT.node (o110 P) (BT.node (o174 P) (BT.node (o302 P) BT.nil BT.nil) (BT.node (o430 P) BT.nil BT.nil)) (BT.node (o238 P) (BT.node (o366 P) BT.nil BT.nil) (BT.node (o494 P) BT.nil BT.nil)))) (BT.node (o62 P) (BT.node (o94 P) (BT.node (o158 P) (BT.node (o286 P) (BT.node (o542 P) BT.nil BT.nil) BT.nil) (BT.node (o414 P) BT.nil BT.nil)) (BT.node (o222 P) (BT.node (o350 P) BT.nil BT.nil) (BT.node (o478 P) BT.nil BT.nil))) (BT.node (o126 P) (BT.node (o190 P) (BT.node (o318 P) BT.nil BT.nil) (BT.node (o446 P) BT.nil BT.nil)) (BT.node (o254 P) (BT.node (o382 P) BT.nil BT.nil) (BT.node (o510 P) BT.nil BT.nil)))))))))
noncomputable def t7 (P : Params) : BT := (BT.node (boot_o_0 P) (BT.node (boot_o_1 P) (BT.node (o3v6 P) (BT.node (boot_o_7 P) (BT.node (o15 P) (BT.node (o31 P) (BT.node (o63 P) (BT.node (o127 P) (BT.node (o255 P) (BT.node (o511 P) BT.nil BT.nil) BT.nil) (BT.node (o383 P) BT.nil BT.nil)) (BT.node (o191 P) (BT.node (o319 P) BT.nil BT.nil) (BT.node (o447 P) BT.nil BT.nil))) (BT.node (o95 P) (BT.node (o159 P) (BT.node (o287 P) (BT.node (o543 P) BT.nil BT.nil) BT.nil) (BT.node (o415 P) BT.nil BT.nil)) (BT.node (o223 P) (BT.node (o351 P) BT.nil BT.nil) (BT.node (o479 P) BT.nil BT.nil)))) (BT.node (o47 P) (BT.node (o79 P) (BT.node (o143 P) (BT.node (o271 P) (BT.node (o527 P) BT.nil BT.nil) BT.nil) (BT.node (o399 P) BT.nil BT.nil)) (BT.node (o207 P) (BT.node (o335 P) BT.nil BT.nil) (BT.node (o463 P) BT.nil BT.nil))) (BT.node (o111 P) (BT.node (o175 P) (BT.node (o303 P) (BT.node (o559 P) BT.nil BT.nil) BT.nil) (BT.node (o431 P) BT.nil BT.nil)) (BT.node (o239 P) (BT.node (o367 P) BT.nil BT.nil) (BT.node (o495 P) BT.nil BT.nil))))) (BT.node (o23 P) (BT.node (o39 P) (BT.node (o71 P) (BT.node (o135 P) (BT.node (o263 P) (BT.node (o519 P) BT.nil BT.nil) BT.nil) (BT.node (o391 P) BT.nil BT.nil)) (BT.node (o199 P) (BT.node (o327 P) BT.nil BT.nil) (BT.node (o455 P) BT.nil BT.nil))) (BT.node (o103 P) (BT.node (o167 P) (BT.node (o295 P) (BT.node (o551 P) BT.nil BT.nil) BT.nil) (BT.node (o423 P) BT.nil BT.nil)) (BT.node (o231 P) (BT.node (o359 P) BT.nil BT.nil) (BT.node (o487 P) BT.nil BT.nil)))) (BT.node (o55 P) (BT.node (o87 P) (BT.node (o151 P) (BT.node (o279 P) (BT.node (o535 P) BT.nil BT.nil) BT.nil) (BT.node (o407 P) BT.nil BT.nil)) (BT.node (o215 P) (BT.node (o343 P) BT.nil BT.nil) (BT.node (o471 P) BT.nil BT.nil))) (BT.node (o119 P) (BT.node (o183 P) (BT.node (o311 P) BT.nil BT.nil) (BT.node (o439 P) BT.nil BT.nil)) (BT.node (o247 P) (BT.node (o375 P) BT.nil BT.nil) (BT.node (o503 P) BT.nil BT.nil)))))) (BT.node (o11 P) (BT.node (o19 P) (BT.node (o35 P) (BT.node (o67 P) (BT.node (o131 P) (BT.node (o259 P) (BT.node (o515 P) BT.nil BT.nil) BT.nil) (BT.node (o387 P) BT.nil BT.nil)) (BT.node (o195 P) (BT.node (o323 P) BT.nil BT.nil) (BT.node (o451 P) BT.nil BT.nil))) (BT.node (o99 P) (BT.node (o163 P) (BT.node (o291 P) (BT.node (o547 P) BT.nil BT.nil) BT.nil) (BT.node (o419 P) BT.nil BT.nil)) (BT.node (o227 P) (BT.node (o355 P) BT.nil BT.nil) (BT.node (o483 P) BT.nil BT.nil)))) (BT.node (o51 P) (BT.node (o83 P) (BT.node (o147 P) (BT.node (o275 P) (BT.node (o531 P) BT.nil BT.nil) BT.nil) (BT.node (o403 P) BT.nil BT.nil)) (BT.node (o211 P) (BT.node (o339 P) BT.nil BT.nil) (BT.node (o467 P) BT.nil BT.nil))) (BT.node (o115 P) (BT.node (o179 P) (BT.node (o307 P) BT.nil BT.nil) (BT.node (o435 P) BT.nil BT.nil)) (BT.node (o243 P) (BT.node (o371 P) BT.nil BT.nil) (BT.node (o499 P) BT.nil BT.nil))))) (BT.node (o27 P) (BT.node (o43 P) (BT.node (o75 P) (BT.node (o139 P) (BT.node (o267 P) (BT.node (o523 P) BT.nil BT.nil) BT.nil) (BT.node (o395 P) BT.nil BT.nil)) (BT.node (o203 P) (BT.node (o331 P) BT.nil BT.nil) (BT.node (o459 P) BT.nil BT.nil))) (BT.node (o107 P) (BT.node (o171 P) (BT.node (o299 P) (BT.node (o555 P) BT.nil BT.nil) BT.nil) (BT.node (o427 P) BT.nil BT.nil)) (BT.node (o235 P) (BT.node (o363 P) BT.nil BT.nil) (BT.node (o491 P) BT.nil BT.nil)))) (BT.node (o59 P) (BT.node (o91 P) (BT.node (o155 P) (BT.node (o283 P) (BT.node (o539 P) BT.nil BT.nil) BT.nil) (BT.node (o411 P) BT.nil BT.nil)) (BT.node (o219 P) (BT.node (o347 P) BT.nil BT.nil) (BT.node (o475 P) BT.nil BT.nil))) (BT.node (o123 P) (BT.node (o187 P) (BT.node (o315 P) BT.nil BT.nil) (BT.node (o443 P) BT.nil BT.nil)) (BT.node (o251 P) (BT.node (o379 P) BT.nil BT.nil) (BT.node (o507 P) BT.nil BT.nil))))))) (BT.node (boot_o_5 P) (BT.node (boot_o_9 P) (BT.node (o17 P) (BT.node (o33 P) (BT.node (o65 P) (BT.node (o129 P) (BT.node (o257 P) (BT.node (o513 P) BT.nil BT.nil) BT.nil) (BT.node (o385 P) BT.nil BT.nil)) (BT.node (o193 P) (BT.node (o321 P) BT.nil BT.nil) (BT.node (o449 P) BT.nil BT.nil))) (BT.node (o97 P) (BT.node (o161 P) (BT.node (o289 P) (BT.node (o545 P) BT.nil BT.nil) BT.nil) (BT.node (o417 P) BT.nil BT.nil)) (BT.node (o225 P) (BT.node (o353 P) BT.nil BT.nil) (BT.node (o481 P) BT.nil BT.nil)))) (BT.node (o49 P) (BT.node (o81 P) (BT.node (o145 P) (BT.node (o273 P) (BT.node (o529 P) BT.nil BT.nil) BT.nil) (BT.node (o401 P) BT.nil BT.nil)) (BT.node (o209 P) (BT.node (o337 P) BT.nil BT.nil) (BT.node (o465 P) BT.nil BT.nil))) (BT.node (o113 P) (BT.node (o177 P) (BT.node (o305 P) BT.nil BT.nil) (BT.node (o433 P) BT.nil BT.nil)) (BT.node (o241 P) (BT.node (o369 P) BT.nil BT.nil) (BT.node (o497 P) BT.nil BT.nil))))) (BT.node (o25 P) (BT.node (o41 P) (BT.node (o73 P) (BT.node (o137 P) (BT.node (o265 P) (BT.node (o521 P) BT.nil BT.nil) BT.nil) (BT.node (o393 P) BT.nil BT.nil)) (BT.node (o201 P) (BT.node (o329 P) BT.nil BT.nil) (BT.node (o457 P) BT.nil BT.nil))) (BT.node (o105 P) (BT.node (o169 P) (BT.node (o297 P) (BT.node (o553 P) BT.nil BT.nil) BT.nil) (BT.node (o425 P) BT.nil BT.nil)) (BT.node (o233 P) (BT.node (o361 P) BT.nil BT.nil) (BT.node (o489 P) BT.nil BT.nil)))) (BT.node (o57 P) (BT.node (o89 P) (BT.node (o153 P) (BT.node (o281 P) (BT.node (o537 P) BT.nil BT.nil) BT.nil) (BT.node (o409 P) BT.nil BT.nil)) (BT.node (o217 P) (BT.node (o345 P) BT.nil BT.nil) (BT.node (o473 P) BT.nil BT.nil))) (BT.node (o121 P) (BT.node (o185 P) (BT.node (o313 P) BT.nil BT.nil) (BT.node (o441 P) BT.nil BT.nil)) (BT.node (o249 P) (BT.node (o377 P) BT.nil BT.nil) (BT.node (o505 P) BT.nil BT.nil)))))) (BT.node (o13 P) (BT.node (o21 P) (BT.node (o37 P) (BT.node (o69 P) (BT.node (o133 P) (BT.node (o261 P) (BT.node (o517 P) BT.nil BT.nil) BT.nil) (BT.node (o389 P) BT.nil BT.nil)) (BT.node (o197 P) (BT.node (o325 P) BT.nil BT.nil) (BT.node (o453 P) BT.nil BT.nil))) (BT.node (o101 P) (BT.node (o165 P) (BT.node (o293 P) (BT.node (o549 P) BT.nil BT.nil) BT.nil) (BT.node (o421 P) BT.nil BT.nil)) (BT.node (o229 P) (BT.node (o357 P) BT.nil BT.nil) (BT.node (o485 P) BT.nil BT.nil)))) (BT.node (o53 P) (BT.node (o85 P) (BT.node (o149 P) (BT.node (o277 P) (BT.node (o533 P) BT.nil BT.nil) BT.nil) (BT.node (o405 P) BT.nil BT.nil)) (BT.node (o213 P) (BT.node (o341 P) BT.nil BT.nil) (BT.node (o469 P) BT.nil BT.nil))) (BT.node (o117 P) (BT.node (o181 P) (BT.node (o309 P) BT.nil BT.nil) (BT.node (o437 P) BT.nil BT.nil)) (BT.node (o245 P) (BT.node (o373 P) BT.nil BT.nil) (BT.node (o501 P) BT.nil BT.nil))))) (BT.node (o29 P) (BT.node (o45 P) (BT.node (o77 P) (BT.node (o141 P) (BT.node (o269 P) (BT.node (o525 P) BT.nil BT.nil) BT.nil) (BT.node (o397 P) BT.nil BT.nil)) (BT.node (o205 P) (BT.node (o333 P) BT.nil BT.nil) (BT.node (o461 P) BT.nil BT.nil))) (BT.node (o109 P) (BT.node (o173 P) (BT.node (o301 P) (BT.node (o557 P) BT.nil BT.nil) BT.nil) (BT.node (o429 P) BT.nil BT.nil)) (BT.node (o237 P) (BT.node (o365 P) BT.nil BT.nil) (BT.node (o493 P) BT.nil BT.nil)))) (BT.node (o61 P) (BT.node (o93 P) (BT.node (o157 P) (BT.node (o285 P) (BT.node (o541 P) BT.nil BT.nil) BT.nil) (BT.node (o413 P) BT.nil BT.nil)) (BT.node (o221 P) (BT.node (o349 P) BT.nil BT.nil) (BT.node (o477 P) BT.nil BT.nil))) (BT.node (o125 P) (BT.node (o189 P) (BT.node (o317 P) BT.nil BT.nil) (BT.node (o445 P) BT.nil BT.nil)) (BT.node (o253 P) (BT.node (o381 P) BT.nil BT.nil) (BT.node (o509 P) BT.nil BT.nil)))))))) (BT.node (o2 P) (BT.node (boot_o_4 P) (BT.node (boot_o_8 P) (BT.node (o16 P) (BT.node (o32 P) (BT.node (o64 P) (BT.node (o128 P) (BT.node (o256 P) (BT.node (o512 P) BT.nil BT.nil) BT.nil) (BT.node (o384 P) BT.nil BT.nil)) (BT.node (o192 P) (BT.node (o320 P) BT.nil BT.nil) (BT.node (o448 P) BT.nil BT.nil))) (BT.node (o96 P) (BT.node (o160 P) (BT.node (o288 P) (BT.node (o544 P) BT.nil BT.nil) BT.nil) (BT.node (o416 P) BT.nil BT.nil)) (BT.node (o224 P) (BT.node (o352 P) BT.nil BT.nil) (BT.node (o480 P) BT.nil BT.nil)))) (BT.node (o48 P) (BT.node (o80 P) (BT.node (o144 P) (BT.node (o272 P) (BT.node (o528 P) BT.nil BT.nil) BT.nil) (BT.node (o400 P) BT.nil BT.nil)) (BT.node (o208 P) (BT.node (o336 P) BT.nil BT.nil) (BT.node (o464 P) BT.nil BT.nil))) (BT.node (o112 P) (BT.node (o176 P) (BT.node (o304 P) BT.nil BT.nil) (BT.node (o432 P) BT.nil BT.nil)) (BT.node (o240 P) (BT.node (o368 P) BT.nil BT.nil) (BT.node (o496 P) BT.nil BT.nil))))) (BT.node (o24 P) (BT.node (o40 P) (BT.node (o72 P) (BT.node (o136 P) (BT.node (o264 P) (BT.node (o520 P) BT.nil BT.nil) BT.nil) (BT.node (o392 P) BT.nil BT.nil)) (BT.node (o200 P) (BT.node (o328 P) BT.nil BT.nil) (BT.node (o456 P) BT.nil BT.nil))) (BT.node (o104 P) (BT.node (o168 P) (BT.node (o296 P) (BT.node (o552 P) BT.nil BT.nil) BT.nil) (BT.node (o424 P) BT.nil BT.nil)) (BT.node (o232 P) (BT.node (o360 P) BT.nil BT.nil) (BT.node (o488 P) BT.nil BT.nil)))) (BT.node (o56 P) (BT.node (o88 P) (BT.node (o152 P) (BT.node (o280 P) (BT.node (o536 P) BT.nil BT.nil) BT.nil) (BT.node (o408 P) BT.nil BT.nil)) (BT.node (o216 P) (BT.node (o344 P) BT.nil BT.nil) (BT.node (o472 P) BT.nil BT.nil))) (BT.node (o120 P) (BT.node (o184 P) (BT.node (o312 P) BT.nil BT.nil) (BT.node (o440 P) BT.nil BT.nil)) (BT.node (o248 P) (BT.node (o376 P) BT.nil BT.nil) (BT.node (o504 P) BT.nil BT.nil)))))) (BT.node (o12v7 P) (BT.node (o20 P) (BT.node (o36 P) (BT.node (o68 P) (BT.node (o132 P) (BT.node (o260 P) (BT.node (o516 P) BT.nil BT.nil) BT.nil) (BT.node (o388 P) BT.nil BT.nil)) (BT.node (o196 P) (BT.node (o324v1 P) BT.nil BT.nil) (BT.node (o452 P) BT.nil BT.nil))) (BT.node (o100 P) (BT.node (o164 P) (BT.node (o292 P) (BT.node (o548 P) BT.nil BT.nil) BT.nil) (BT.node (o420 P) BT.nil BT.nil)) (BT.node (o228 P) (BT.node (o356 P) BT.nil BT.nil) (BT.node (o484 P) BT.nil BT.nil)))) (BT.node (o52 P) (BT.node (o84 P) (BT.node (o148 P) (BT.node (o276 P) (BT.node (o532 P) BT.nil BT.nil) BT.nil) (BT.node (o404 P) BT.nil BT.nil)) (BT.node (o212 P) (BT.node (o340 P) BT.nil BT.nil) (BT.node (o468 P) BT.nil BT.nil))) (BT.node (o116 P) (BT.node (o180 P) (BT.node (o308 P) BT.nil BT.nil) (BT.node (o436 P) BT.nil BT.nil)) (BT.node (o244 P) (BT.node (o372 P) BT.nil BT.nil) (BT.node (o500 P) BT.nil BT.nil))))) (BT.node (o28 P) (BT.node (o44 P) (BT.node (o76 P) (BT.node (o140 P) (BT.node (o268 P) (BT.node (o524 P) BT.nil BT.nil) BT.nil) (BT.node (o396 P) BT.nil BT.nil)) (BT.node (o204 P) (BT.node (o332 P) BT.nil BT.nil) (BT.node (o460 P) BT.nil BT.nil))) (BT.node (o108 P) (BT.node (o172 P) (BT.node (o300 P) (BT.node (o556 P) BT.nil BT.nil) BT.nil) (BT.node (o428 P) BT.nil BT.nil)) (BT.node (o236 P) (BT.node (o364 P) BT.nil BT.nil) (BT.node (o492 P) BT.nil BT.nil)))) (BT.node (o60 P) (BT.node (o92 P) (BT.node (o156 P) (BT.node (o284 P) (BT.node (o540 P) BT.nil BT.nil) BT.nil) (BT.node (o412 P) BT.nil BT.nil)) (BT.node (o220 P) (BT.node (o348 P) BT.nil BT.nil) (BT.node (o476 P) BT.nil BT.nil))) (BT.node (o124 P) (BT.node (o188 P) (BT.node (o316 P) BT.nil BT.nil) (BT.node (o444 P) BT.nil BT.nil)) (BT.node (o252 P) (BT.node (o380 P) BT.nil BT.nil) (BT.node (o508 P) BT.nil BT.nil))))))) (BT.node (boot_o_6 P) (BT.node (boot_o_10 P) (BT.node (o18 P) (BT.node (o34 P) (BT.node (o66 P) (BT.node (o130 P) (BT.node (o258 P) (BT.node (o514 P) BT.nil BT.nil) BT.nil) (BT.node (o386 P) BT.nil BT.nil)) (BT.node (o194 P) (BT.node (o322 P) BT.nil BT.nil) (BT.node (o450 P) BT.nil BT.nil))) (BT.node (o98 P) (BT.node (o162 P) (BT.node (o290 P) (BT.node (o546 P) BT.nil BT.nil) BT.nil) (BT.node (o418 P) BT.nil BT.nil)) (BT.node (o226 P) (BT.node (o354 P) BT.nil BT.nil) (BT.node (o482 P) BT.nil BT.nil)))) (BT.node (o50 P) (BT.node (o82 P) (BT.node (o146 P) (BT.node (o274 P) (BT.node (o530 P) BT.nil BT.nil) BT.nil) (BT.node (o402 P) BT.nil BT.nil)) (BT.node (o210 P) (BT.node (o338 P) BT.nil BT.nil) (BT.node (o466 P) BT.nil BT.nil))) (BT.node (o114 P) (BT.node (o178 P) (BT.node (o306 P) BT.nil BT.nil) (BT.node (o434 P) BT.nil BT.nil)) (BT.node (o242 P) (BT.node (o370 P) BT.nil BT.nil) (BT.node (o498 P) BT.nil BT.nil))))) (BT.node (o26 P) (BT.node (o42 P) (BT.node (o74 P) (BT.node (o138 P) (BT.node (o266 P) (BT.node (o522 P) BT.nil BT.nil) BT.nil) (BT.node (o394 P) BT.nil BT.nil)) (BT.node (o202 P) (BT.node (o330 P) BT.nil BT.nil) (BT.node (o458 P) BT.nil BT.nil))) (BT.node (o106 P) (BT.node (o170 P) (BT.node (o298 P) (BT.node (o554 P) BT.nil BT.nil) BT.nil) (BT.node (o426 P) BT.nil BT.nil)) (BT.node (o234 P) (BT.node (o362 P) BT.nil BT.nil) (BT.node (o490 P) BT.nil BT.nil)))) (BT.node (o58 P) (BT.node (o90 P) (BT.node (o154 P) (BT.node (o282 P) (BT.node (o538 P) BT.nil BT.nil) BT.nil) (BT.node (o410 P) BT.nil BT.nil)) (BT.node (o218 P) (BT.node (o346 P) BT.nil BT.nil) (BT.node (o474 P) BT.nil BT.nil))) (BT.node (o122 P) (BT.node (o186 P) (BT.node (o314 P) BT.nil BT.nil) (BT.node (o442 P) BT.nil BT.nil)) (BT.node (o250 P) (BT.node (o378 P) BT.nil BT.nil) (BT.node (o506 P) BT.nil BT.nil)))))) (BT.node (o14 P) (BT.node (o22 P) (BT.node (o38 P) (BT.node (o70 P) (BT.node (o134 P) (BT.node (o262 P) (BT.node (o518 P) BT.nil BT.nil) BT.nil) (BT.node (o390 P) BT.nil BT.nil)) (BT.node (o198 P) (BT.node (o326 P) BT.nil BT.nil) (BT.node (o454 P) BT.nil BT.nil))) (BT.node (o102 P) (BT.node (o166 P) (BT.node (o294 P) (BT.node (o550 P) BT.nil BT.nil) BT.nil) (BT.node (o422 P) BT.nil BT.nil)) (BT.node (o230 P) (BT.node (o358 P) BT.nil BT.nil) (BT.node (o486 P) BT.nil BT.nil)))) (BT.node (o54 P) (BT.node (o86 P) (BT.node (o150 P) (BT.node (o278 P) (BT.node (o534 P) BT.nil BT.nil) BT.nil) (BT.node (o406 P) BT.nil BT.nil)) (BT.node (o214 P) (BT.node (o342 P) BT.nil BT.nil) (BT.node (o470 P) BT.nil BT.nil))) (BT.node (o118 P) (BT.node (o182 P) (BT.node (o310 P) BT.nil BT.nil) (BT.node (o438 P) BT.nil BT.nil)) (BT.node (o246 P) (BT.node (o374 P) BT.nil BT.nil) (BT.node (o502 P) BT.nil BT.nil))))) (BT.node (o30 P) (BT.node (o46 P) (BT.node (o78 P) (BT.node (o142 P) (BT.node (o270 P) (BT.node (o526 P) BT.nil BT.nil) BT.nil) (BT.node (o398 P) BT.nil BT.nil)) (BT.node (o206 P) (BT.node (o334 P) BT.nil BT.nil) (BT.node (o462 P) BT.nil BT.nil))) (BT.node (o110 P) (BT.node (o174 P) (BT.node (o302 P) (BT.node (o558 P) BT.nil BT.nil) BT.nil) (BT.node (o430 P) BT.nil BT.nil)) (BT.node (o238 P) (BT.node (o366 P) BT.nil BT.nil) (BT.node (o494 P) BT.nil BT.nil)))) (BT.node (o62 P) (BT.node (o94 P) (BT.node (o158 P) (BT.node (o286 P) (BT.node (o542 P) BT.nil BT.nil) BT.nil) (BT.node (o414 P) BT.nil BT.nil)) (BT.node (o222 P) (BT.node (o350 P) BT.nil BT.nil) (BT.node (o478 P) BT.nil BT.nil))) (BT.node (o126 P) (BT.node (o190 P) (BT.node (o318 P) BT.nil BT.nil) (BT.node (o446 P) BT.nil BT.nil)) (BT.node (o254 P) (BT.node (o382 P) BT.nil BT.nil) (BT.node (o510 P) BT.nil BT.nil)))))))))
noncomputable def hf (P : Params) : Heap := Heap.mk ⟨boot_o_0 P :: boot_o_1 P :: o2 P :: o3v6 P :: boot_o_4 P :: boot_o_5 P :: boot_o_6 P :: boot_o_7 P :: boot_o_8 P :: boot_o_9 P :: boot_o_10 P :: o11 P :: o12v7 P :: o13 P :: o14 P :: o15 P :: o16 P :: o17 P :: o18 P :: o19 P :: o20 P :: o21 P :: o22 P :: o23 P :: o24 P :: o25 P :: o26 P :: o27 P :: o28 P :: o29 P :: o30 P :: o31 P :: o32 P :: o33 P :: o34 P :: o35 P :: o36 P :: o37 P :: o38 P :: o39 P :: o40 P :: o41 P :: o42 P :: o43 P :: o44 P :: o45 P :: o46 P :: o47 P :: o48 P :: o49 P :: o50 P :: o51 P :: o52 P :: o53 P :: o54 P :: o55 P :: o56 P :: o57 P :: o58 P :: o59 P :: o60 P :: o61 P :: o62 P :: o63 P :: o64 P :: o65 P :: o66 P :: o67 P :: o68 P :: o69 P :: o70 P :: o71 P :: o72 P :: o73 P :: o74 P :: o75 P :: o76 P :: o77 P :: o78 P :: o79 P :: o80 P :: o81 P :: o82 P :: o83 P :: o84 P :: o85 P :: o86 P :: o87 P :: o88 P :: o89 P :: o90 P :: o91 P :: o92 P :: o93 P :: o94 P :: o95 P :: o96 P :: o97 P :: o98 P :: o99 P :: o100 P :: o101 P :: o102 P :: o103 P :: o104 P :: o105 P :: o106 P :: o107 P :: o108 P :: o109 P :: o110 P :: o111 P :: o112 P :: o113 P :: o114 P :: o115 P :: o116 P :: o117 P :: o118 P :: o119 P :: o120 P :: o121 P :: o122 P :: o123 P :: o124 P :: o125 P :: o126 P :: o127 P :: o128 P :: o129 P :: o130 P :: o131 P :: o132 P :: o133 P :: o134 P :: o135 P :: o136 P :: o137 P :: o138 P :: o139 P :: o140 P :: o141 P :: o142 P :: o143 P :: o144 P :: o145 P :: o146 P :: o147 P :: o148 P :: o149 P :: o150 P :: o151 P :: o152 P :: o153 P :: o154 P :: o155 P :: o156 P :: o157 P :: o158 P :: o159 P :: o160 P :: o161 P :: o162 P :: o163 P :: o164 P :: o165 P :: o166 P :: o167 P :: o168 P :: o169 P :: o170 P :: o171 P :: o172 P :: o173 P :: o174 P :: o175 P :: o176 P :: o177 P :: o178 P :: o179 P :: o180 P :: o181 P :: o182 P :: o183 P :: o184 P :: o185 P :: o186 P :: o187 P :: o188 P :: o189 P :: o190 P :: o191 P :: o192 P :: o193 P :: o194 P :: o195 P :: o196 P :: o197 P :: o198 P :: o199 P :: o200 P :: o201 P :: o202 P :: o203 P :: o204 P :: o205 P :: o206 P :: o207 P :: o208 P :: o209 P :: o210 P :: o211 P :: o212 P :: o213 P :: o214 P :: o215 P :: o216 P :: o217 P :: o218 P :: o219 P :: o220 P :: o221 P :: o222 P :: o223 P :: o224 P :: o225 P :: o226 P :: o227 P :: o228 P :: o229 P :: o230 P :: o231 P :: o232 P :: o233 P :: o234 P :: o235 P :: o236 P :: o237 P :: o238 P :: o239 P :: o240 P :: o241 P :: o242 P :: o243 P :: o244 P :: o245 P :: o246 P :: o247 P :: o248 P :: o249 P :: o250 P :: o251 P :: o252 P :: o253 P :: o254 P :: o255 P :: o256 P :: o257 P :: o258 P :: o259 P :: o260 P :: o261 P :: o262 P :: o263 P :: o264 P :: o265 P :: o266 P :: o267 P :: o268 P :: o269 P :: o270 P :: o271 P :: o272 P :: o273 P :: o274 P :: o275 P :: o276 P :: o277 P :: o278 P :: o279 P :: o280 P :: o281 P :: o282 P :: o283 P :: o284 P :: o285 P :: o286 P :: o287 P :: o288 P :: o289 P :: o290 P :: o291 P :: o292 P :: o293 P :: o294 P :: o295 P :: o296 P :: o297 P :: o298 P :: o299 P :: o300 P :: o301 P :: o302 P :: o303 P :: o304 P :: o305 P :: o306 P :: o307 P :: o308 P :: o309 P :: o310 P :: o311 P :: o312 P :: o313 P :: o314 P :: o315 P :: o316 P :: o317 P :: o318 P :: o319 P :: o320 P :: o321 P :: o322 P :: o323 P :: o324v1 P :: o325 P :: o326 P :: o327 P :: o328 P :: o329 P :: o330 P :: o331 P :: o332 P :: o333 P :: o334 P :: o335 P :: o336 P :: o337 P :: o338 P :: o339 P :: o340 P :: o341 P :: o342 P :: o343 P :: o344 P :: o345 P :: o346 P :: o347 P :: o348 P :: o349 P :: o350 P :: o351 P :: o352 P :: o353 P :: o354 P :: o355 P :: o356 P :: o357 P :: o358 P :: o359 P :: o360 P :: o361 P :: o362 P :: o363 P :: o364 P :: o365 P :: o366 P :: o367 P :: o368 P :: o369 P :: o370 P :: o371 P :: o372 P :: o373 P :: o374 P :: o375 P :: o376 P :: o377 P :: o378 P :: o379 P :: o380 P :: o381 P :: o382 P :: o383 P :: o384 P :: o385 P :: o386 P :: o387 P :: o388 P :: o389 P :: o390 P :: o391 P :: o392 P :: o393 P :: o394 P :: o395 P :: o396 P :: o397 P :: o398 P :: o399 P :: o400 P :: o401 P :: o402 P :: o403 P :: o404 P :: o405 P :: o406 P :: o407 P :: o408 P :: o409 P :: o410 P :: o411 P :: o412 P :: o413 P :: o414 P :: o415 P :: o416 P :: o417 P :: o418 P :: o419 P :: o420 P :: o421 P :: o422 P :: o423 P :: o424 P :: o425 P :: o426 P :: o427 P :: o428 P :: o429 P :: o430 P :: o431 P :: o432 P :: o433 P :: o434 P :: o435 P :: o436 P :: o437 P :: o438 P :: o439 P :: o440 P :: o441 P :: o442 P :: o443 P :: o444 P :: o445 P :: o446 P :: o447 P :: o448 P :: o449 P :: o450 P :: o451 P :: o452 P :: o453 P :: o454 P :: o455 P :: o456 P :: o457 P :: o458 P :: o459 P :: o460 P :: o461 P :: o462 P :: o463 P :: o464 P :: o465 P :: o466 P :: o467 P :: o468 P :: o469 P :: o470 P :: o471 P :: o472 P :: o473 P :: o474 P :: o475 P :: o476 P :: o477 P :: o478 P :: o479 P :: o480 P :: o481 P :: o482 P :: o483 P :: o484 P :: o485 P :: o486 P :: o487 P :: o488 P :: o489 P :: o490 P :: o491 P :: o492 P :: o493 P :: o494 P :: o495 P :: o496 P :: o497 P :: o498 P :: o499 P :: o500 P :: o501 P :: o502 P :: o503 P :: o504 P :: o505 P :: o506 P :: o507 P :: o508 P :: o509 P :: o510 P :: o511 P :: o512 P :: o513 P :: o514 P :: o515 P :: o516 P :: o517 P :: o518 P :: o519 P :: o520 P :: o521 P :: o522 P :: o523 P :: o524 P :: o525 P :: o526 P :: o527 P :: o528 P :: o529 P :: o530 P :: o531 P :: o532 P :: o533 P :: o534 P :: o535 P :: o536 P :: o537 P :: o538 P :: o539 P :: o540 P :: o541 P :: o542 P :: o543 P :: o544 P :: o545 P :: o546 P :: o547 P :: o548 P :: o549 P :: o550 P :: o551 P :: o552 P :: o553 P :: o554 P :: o555 P :: o556 P :: o557 P :: o558 P :: o559 P :: []⟩ (Life.mk [] [] [] 0 [] [] Bool.false #[] [] 0 Bool.false Bool.false Bool.false 0 [2000, 10, 10] Bool.false 0 Bool.true [] [] 0 Bool.false)
noncomputable def kf : Params → Frag := fun P => (nat_lit 2, o2 P) :: (nat_lit 3, o3v6 P) :: (nat_lit 15, o15 P) :: (nat_lit 17, o17 P) :: (nat_lit 18, o18 P) :: (nat_lit 20, o20 P) :: (nat_lit 21, o21 P) :: (nat_lit 22, o22 P) :: (nat_lit 29, o29 P) :: (nat_lit 30, o30 P) :: (nat_lit 31, o31 P) :: (nat_lit 32, o32 P) :: (nat_lit 35, o35 P) :: (nat_lit 42, o42 P) :: (nat_lit 44, o44 P) :: (nat_lit 45, o45 P) :: (nat_lit 47, o47 P) :: (nat_lit 48, o48 P) :: (nat_lit 49, o49 P) :: (nat_lit 50, o50 P) :: (nat_lit 51, o51 P) :: (nat_lit 54, o54 P) :: (nat_lit 56, o56 P) :: (nat_lit 57, o57 P) :: (nat_lit 59, o59 P) :: (nat_lit 60, o60 P) :: (nat_lit 61, o61 P) :: (nat_lit 63, o63 P) :: (nat_lit 64, o64 P) :: (nat_lit 66, o66 P) :: (nat_lit 67, o67 P) :: (nat_lit 75, o75 P) :: (nat_lit 77, o77 P) :: (nat_lit 78, o78 P) :: (nat_lit 80, o80 P) :: (nat_lit 81, o81 P) :: (nat_lit 82, o82 P) :: (nat_lit 84, o84 P) :: (nat_lit 85, o85 P) :: (nat_lit 87, o87 P) :: (nat_lit 88, o88 P) :: (nat_lit 89, o89 P) :: (nat_lit 91, o91 P) :: (nat_lit 92, o92 P) :: (nat_lit 94, o94 P) :: (nat_lit 95, o95 P) :: (nat_lit 96, o96 P) :: (nat_lit 98, o98 P) :: (nat_lit 99, o99 P) :: (nat_lit 101, o101 P) :: (nat_lit 102, o102 P) :: (nat_lit 103, o103 P) :: (nat_lit 105, o105 P) :: (nat_lit 106, o106 P) :: (nat_lit 108, o108 P) :: (nat_lit 109, o109 P) :: (nat_lit 110, o110 P) :: (nat_lit 112, o112 P) :: (nat_lit 113, o113 P) :: (nat_lit 115, o115 P) :: (nat_lit 116, o116 P) :: (nat_lit 117, o117 P) :: (nat_lit 119, o119 P) :: (nat_lit 120, o120 P) :: (nat_lit 122, o122 P) :: (nat_lit 123, o123 P) :: (nat_lit 124, o124 P) :: (nat_lit 126, o126 P) :: (nat_lit 127, o127 P) :: (nat_lit 129, o129 P) :: (nat_lit 130, o130 P) :: (nat_lit 131, o131 P) :: (nat_lit 133, o133 P) :: (nat_lit 134, o134 P) :: (nat_lit 136, o136 P) :: (nat_lit 137, o137 P) :: (nat_lit 138, o138 P) :: (nat_lit 140, o140 P) :: (nat_lit 141, o141 P) :: (nat_lit 143, o143 P) :: (nat_lit 144, o144 P) :: (nat_lit 145, o145 P) :: (nat_lit 147, o147 P) :: (nat_lit 148, o148 P) :: (nat_lit 150, o150 P) :: (nat_lit 151, o151 P) :: (nat_lit 152, o152 P) :: (nat_lit 153, o153 P) :: (nat_lit 154, o154 P) :: (nat_lit 155, o155 P) :: (nat_lit 156, o156 P) :: (nat_lit 159, o159 P) :: (nat_lit 161, o161 P) :: (nat_lit 162, o162 P) :: (nat_lit 164, o164 P) :: (nat_lit 165, o165 P) :: (nat_lit 166, o166 P) :: (nat_lit 168, o168 P) :: (nat_lit 169, o169 P) :: (nat_lit 171, o171 P) :: (nat_lit 172, o172 P) :: (nat_lit 173, o173 P) :: (nat_lit 175, o175 P) :: (nat_lit 176, o176 P) :: (nat_lit 178, o178 P) :: (nat_lit 179, o179 P) :: (nat_lit 180, o180 P) :: (nat_lit 188, o188 P) :: (nat_lit 189, o189 P) :: (nat_lit 191, o191 P) :: (nat_lit 192, o192 P) :: (nat_lit 194, o194 P) :: (nat_lit 195, o195 P) :: (nat_lit 196, o196 P) :: (nat_lit 198, o198 P) :: (nat_lit 199, o199 P) :: (nat_lit 201, o201 P) :: (nat_lit 202, o202 P) :: (nat_lit 203, o203 P) :: (nat_lit 205, o205 P) :: (nat_lit 206, o206 P) :: (nat_lit 208, o208 P) :: (nat_lit 209, o209 P) :: (nat_lit 210, o210 P) :: (nat_lit 212, o212 P) :: (nat_lit 213, o213 P) :: (nat_lit 215, o215 P) :: (nat_lit 216, o216 P) :: (nat_lit 217, o217 P) :: (nat_lit 219, o219 P) :: (nat_lit 220, o220 P) :: (nat_lit 222, o222 P) :: (nat_lit 223, o223 P) :: (nat_lit 224, o224 P) :: (nat_lit 226, o226 P) :: (nat_lit 227, o227 P) :: (nat_lit 229, o229 P) :: (nat_lit 230, o230 P) :: (nat_lit 231, o231 P) :: (nat_lit 233, o233 P) :: (nat_lit 234, o234 P) :: (nat_lit 236, o236 P) :: (nat_lit 237, o237 P) :: (nat_lit 238, o238 P) :: (nat_lit 240, o240 P) :: (nat_lit 241, o241 P) :: (nat_lit 243, o243 P) :: (nat_lit 244, o244 P) :: (nat_lit 245, o245 P) :: (nat_lit 247, o247 P) :: (nat_lit 248, o248 P) :: (nat_lit 250, o250 P) :: (nat_lit 251, o251 P) :: (nat_lit 252, o252 P) :: (nat_lit 254, o254 P) :: (nat_lit 255, o255 P) :: (nat_lit 257, o257 P) :: (nat_lit 258, o258 P) :: (nat_lit 259, o259 P) :: (nat_lit 261, o261 P) :: (nat_lit 262, o262 P) :: (nat_lit 264, o264 P) :: (nat_lit 265, o265 P) :: (nat_lit 266, o266 P) :: (nat_lit 268, o268 P) :: (nat_lit 269, o269 P) :: (nat_lit 271, o271 P) :: (nat_lit 272, o272 P) :: (nat_lit 273, o273 P) :: (nat_lit 275, o275 P) :: (nat_lit 276, o276 P) :: (nat_lit 278, o278 P) :: (nat_lit 279, o279 P) :: (nat_lit 280, o280 P) :: (nat_lit 282, o282 P) :: (nat_lit 283, o283 P) :: (nat_lit 285, o285 P) :: (nat_lit 286, o286 P) :: (nat_lit 287, o287 P) :: (nat_lit 289, o289 P) :: (nat_lit 290, o290 P) :: (nat_lit 292, o292 P) :: (nat_lit 293, o293 P) :: (nat_lit 294, o294 P) :: (nat_lit 296, o296 P) :: (nat_lit 297, o297 P) :: (nat_lit 299, o299 P) :: (nat_lit 300, o300 P) :: (nat_lit 301, o301 P) :: (nat_lit 303, o303 P) :: (nat_lit 304, o304 P) :: (nat_lit 306, o306 P) :: (nat_lit 307, o307 P) :: (nat_lit 308, o308 P) :: (nat_lit 310, o310 P) :: (nat_lit 311, o311 P) :: (nat_lit 313, o313 P) :: (nat_lit 314, o314 P) :: (nat_lit 315, o315 P) :: (nat_lit 317, o317 P) :: (nat_lit 318, o318 P) :: (nat_lit 320, o320 P) :: (nat_lit 321, o321 P) :: (nat_lit 322, o322 P) :: (nat_lit 323, o323 P) :: (nat_lit 324, o324v1 P) :: (nat_lit 325, o325 P) :: (nat_lit 326, o326 P) :: (nat_lit 329, o329 P) :: (nat_lit 336, o336 P) :: (nat_lit 338, o338 P) :: (nat_lit 339, o339 P) :: (nat_lit 341, o341 P) :: (nat_lit 342, o342 P) :: (nat_lit 343, o343 P) :: (nat_lit 344, o344 P) :: (nat_lit 346, o346 P) :: (nat_lit 347, o347 P) :: (nat_lit 349, o349 P) :: (nat_lit 350, o350 P) :: (nat_lit 351, o351 P) :: (nat_lit 353, o353 P) :: (nat_lit 354, o354 P) :: (nat_lit 356, o356 P) :: (nat_lit 357, o357 P) :: (nat_lit 358, o358 P) :: (nat_lit 360, o360 P) :: (nat_lit 361, o361 P) :: (nat_lit 363, o363 P) :: (nat_lit 364, o364 P) :: (nat_lit 365, o365 P) :: (nat_lit 367, o367 P) :: (nat_lit 368, o368 P) :: (nat_lit 370, o370 P) :: (nat_lit 371, o371 P) :: (nat_lit 372, o372 P) :: (nat_lit 374, o374 P) :: (nat_lit 375, o375 P) :: (nat_lit 377, o377 P) :: (nat_lit 378, o378 P) :: (nat_lit 379, o379 P) :: (nat_lit 380, o380 P) :: (nat_lit 381, o381 P) :: (nat_lit 391, o391 P) :: (nat_lit 392, o392 P) :: (nat_lit 394, o394 P) :: (nat_lit 395, o395 P) :: (nat_lit 397, o397 P) :: (nat_lit 398, o398 P) :: (nat_lit 399, o399 P) :: (nat_lit 401, o401 P) :: (nat_lit 402, o402 P) :: (nat_lit 404, o404 P) :: (nat_lit 405, o405 P) :: (nat_lit 406, o406 P) :: (nat_lit 408, o408 P) :: (nat_lit 409, o409 P) :: (nat_lit 411, o411 P) :: (nat_lit 412, o412 P) :: (nat_lit 413, o413 P) :: (nat_lit 415, o415 P) :: (nat_lit 416, o416 P) :: (nat_lit 418, o418 P) :: (nat_lit 419, o419 P) :: (nat_lit 420, o420 P) :: (nat_lit 422, o422 P) :: (nat_lit 423, o423 P) :: (nat_lit 425, o425 P) :: (nat_lit 426, o426 P) :: (nat_lit 427, o427 P) :: (nat_lit 429, o429 P) :: (nat_lit 430, o430 P) :: (nat_lit 432, o432 P) :: (nat_lit 433, o433 P) :: (nat_lit 434, o434 P) :: (nat_lit 436, o436 P) :: (nat_lit 437, o437 P) :: (nat_lit 439, o439 P) :: (nat_lit 440, o440 P) :: (nat_lit 441, o441 P) :: (nat_lit 443, o443 P) :: (nat_lit 444, o444 P) :: (nat_lit 446, o446 P) :: (nat_lit 447, o447 P) :: (nat_lit 448, o448 P) :: (nat_lit 450, o450 P) :: (nat_lit 451, o451 P) :: (nat_lit 453, o453 P) :: (nat_lit 454, o454 P) :: (nat_lit 455, o455 P) :: (nat_lit 457, o457 P) :: (nat_lit 458, o458 P) :: (nat_lit 460, o460 P) :: (nat_lit 461, o461 P) :: (nat_lit 462, o462 P) :: (nat_lit 464, o464 P) :: (nat_lit 465, o465 P) :: (nat_lit 467, o467 P) :: (nat_lit 468, o468 P) :: (nat_lit 469, o469 P) :: (nat_lit 471, o471 P) :: (nat_lit 472, o472 P) :: (nat_lit 474, o474 P) :: (nat_lit 475, o475 P) :: (nat_lit 476, o476 P) :: (nat_lit 478, o478 P) :: (nat_lit 479, o479 P) :: (nat_lit 481, o481 P) :: (nat_lit 482, o482 P) :: (nat_lit 483, o483 P) :: (nat_lit 485, o485 P) :: (nat_lit 486, o486 P) :: (nat_lit 488, o488 P) :: (nat_lit 489, o489 P) :: (nat_lit 490, o490 P) :: (nat_lit 492, o492 P) :: (nat_lit 493, o493 P) :: (nat_lit 495, o495 P) :: (nat_lit 496, o496 P) :: (nat_lit 497, o497 P) :: (nat_lit 499, o499 P) :: (nat_lit 500, o500 P) :: (nat_lit 502, o502 P) :: (nat_lit 503, o503 P) :: (nat_lit 504, o504 P) :: (nat_lit 506, o506 P) :: (nat_lit 507, o507 P) :: (nat_lit 509, o509 P) :: (nat_lit 510, o510 P) :: (nat_lit 511, o511 P) :: (nat_lit 513, o513 P) :: (nat_lit 514, o514 P) :: (nat_lit 516, o516 P) :: (nat_lit 517, o517 P) :: (nat_lit 518, o518 P) :: (nat_lit 520, o520 P) :: (nat_lit 521, o521 P) :: (nat_lit 523, o523 P) :: (nat_lit 524, o524 P) :: (nat_lit 525, o525 P) :: (nat_lit 527, o527 P) :: (nat_lit 528, o528 P) :: (nat_lit 530, o530 P) :: (nat_lit 531, o531 P) :: (nat_lit 532, o532 P) :: (nat_lit 534, o534 P) :: (nat_lit 535, o535 P) :: (nat_lit 537, o537 P) :: (nat_lit 538, o538 P) :: (nat_lit 539, o539 P) :: (nat_lit 540, o540 P) :: (nat_lit 541, o541 P) :: (nat_lit 542, o542 P) :: (nat_lit 543, o543 P) :: (nat_lit 546, o546 P) :: (nat_lit 548, o548 P) :: (nat_lit 549, o549 P) :: (nat_lit 551, o551 P) :: (nat_lit 552, o552 P) :: (nat_lit 553, o553 P) :: (nat_lit 555, o555 P) :: (nat_lit 556, o556 P) :: (nat_lit 558, o558 P) :: (nat_lit 559, o559 P) :: []
noncomputable def kas : List Addr := nat_lit 2 :: nat_lit 3 :: nat_lit 15 :: nat_lit 17 :: nat_lit 18 :: nat_lit 20 :: nat_lit 21 :: nat_lit 22 :: nat_lit 29 :: nat_lit 30 :: nat_lit 31 :: nat_lit 32 :: nat_lit 35 :: nat_lit 42 :: nat_lit 44 :: nat_lit 45 :: nat_lit 47 :: nat_lit 48 :: nat_lit 49 :: nat_lit 50 :: nat_lit 51 :: nat_lit 54 :: nat_lit 56 :: nat_lit 57 :: nat_lit 59 :: nat_lit 60 :: nat_lit 61 :: nat_lit 63 :: nat_lit 64 :: nat_lit 66 :: nat_lit 67 :: nat_lit 75 :: nat_lit 77 :: nat_lit 78 :: nat_lit 80 :: nat_lit 81 :: nat_lit 82 :: nat_lit 84 :: nat_lit 85 :: nat_lit 87 :: nat_lit 88 :: nat_lit 89 :: nat_lit 91 :: nat_lit 92 :: nat_lit 94 :: nat_lit 95 :: nat_lit 96 :: nat_lit 98 :: nat_lit 99 :: nat_lit 101 :: nat_lit 102 :: nat_lit 103 :: nat_lit 105 :: nat_lit 106 :: nat_lit 108 :: nat_lit 109 :: nat_lit 110 :: nat_lit 112 :: nat_lit 113 :: nat_lit 115 :: nat_lit 116 :: nat_lit 117 :: nat_lit 119 :: nat_lit 120 :: nat_lit 122 :: nat_lit 123 :: nat_lit 124 :: nat_lit 126 :: nat_lit 127 :: nat_lit 129 :: nat_lit 130 :: nat_lit 131 :: nat_lit 133 :: nat_lit 134 :: nat_lit 136 :: nat_lit 137 :: nat_lit 138 :: nat_lit 140 :: nat_lit 141 :: nat_lit 143 :: nat_lit 144 :: nat_lit 145 :: nat_lit 147 :: nat_lit 148 :: nat_lit 150 :: nat_lit 151 :: nat_lit 152 :: nat_lit 153 :: nat_lit 154 :: nat_lit 155 :: nat_lit 156 :: nat_lit 159 :: nat_lit 161 :: nat_lit 162 :: nat_lit 164 :: nat_lit 165 :: nat_lit 166 :: nat_lit 168 :: nat_lit 169 :: nat_lit 171 :: nat_lit 172 :: nat_lit 173 :: nat_lit 175 :: nat_lit 176 :: nat_lit 178 :: nat_lit 179 :: nat_lit 180 :: nat_lit 188 :: nat_lit 189 :: nat_lit 191 :: nat_lit 192 :: nat_lit 194 :: nat_lit 195 :: nat_lit 196 :: nat_lit 198 :: nat_lit 199 :: nat_lit 201 :: nat_lit 202 :: nat_lit 203 :: nat_lit 205 :: nat_lit 206 :: nat_lit 208 :: nat_lit 209 :: nat_lit 210 :: nat_lit 212 :: nat_lit 213 :: nat_lit 215 :: nat_lit 216 :: nat_lit 217 :: nat_lit 219 :: nat_lit 220 :: nat_lit 222 :: nat_lit 223 :: nat_lit 224 :: nat_lit 226 :: nat_lit 227 :: nat_lit 229 :: nat_lit 230 :: nat_lit 231 :: nat_lit 233 :: nat_lit 234 :: nat_lit 236 :: nat_lit 237 :: nat_lit 238 :: nat_lit 240 :: nat_lit 241 :: nat_lit 243 :: nat_lit 244 :: nat_lit 245 :: nat_lit 247 :: nat_lit 248 :: nat_lit 250 :: nat_lit 251 :: nat_lit 252 :: nat_lit 254 :: nat_lit 255 :: nat_lit 257 :: nat_lit 258 :: nat_lit 259 :: nat_lit 261 :: nat_lit 262 :: nat_lit 264 :: nat_lit 265 :: nat_lit 266 :: nat_lit 268 :: nat_lit 269 :: nat_lit 271 :: nat_lit 272 :: nat_lit 273 :: nat_lit 275 :: nat_lit 276 :: nat_lit 278 :: nat_lit 279 :: nat_lit 280 :: nat_lit 282 :: nat_lit 283 :: nat_lit 285 :: nat_lit 286 :: nat_lit 287 :: nat_lit 289 :: nat_lit 290 :: nat_lit 292 :: nat_lit 293 :: nat_lit 294 :: nat_lit 296 :: nat_lit 297 :: nat_lit 299 :: nat_lit 300 :: nat_lit 301 :: nat_lit 303 :: nat_lit 304 :: nat_lit 306 :: nat_lit 307 :: nat_lit 308 :: nat_lit 310 :: nat_lit 311 :: nat_lit 313 :: nat_lit 314 :: nat_lit 315 :: nat_lit 317 :: nat_lit 318 :: nat_lit 320 :: nat_lit 321 :: nat_lit 322 :: nat_lit 323 :: nat_lit 324 :: nat_lit 325 :: nat_lit 326 :: nat_lit 329 :: nat_lit 336 :: nat_lit 338 :: nat_lit 339 :: nat_lit 341 :: nat_lit 342 :: nat_lit 343 :: nat_lit 344 :: nat_lit 346 :: nat_lit 347 :: nat_lit 349 :: nat_lit 350 :: nat_lit 351 :: nat_lit 353 :: nat_lit 354 :: nat_lit 356 :: nat_lit 357 :: nat_lit 358 :: nat_lit 360 :: nat_lit 361 :: nat_lit 363 :: nat_lit 364 :: nat_lit 365 :: nat_lit 367 :: nat_lit 368 :: nat_lit 370 :: nat_lit 371 :: nat_lit 372 :: nat_lit 374 :: nat_lit 375 :: nat_lit 377 :: nat_lit 378 :: nat_lit 379 :: nat_lit 380 :: nat_lit 381 :: nat_lit 391 :: nat_lit 392 :: nat_lit 394 :: nat_lit 395 :: nat_lit 397 :: nat_lit 398 :: nat_lit 399 :: nat_lit 401 :: nat_lit 402 :: nat_lit 404 :: nat_lit 405 :: nat_lit 406 :: nat_lit 408 :: nat_lit 409 :: nat_lit 411 :: nat_lit 412 :: nat_lit 413 :: nat_lit 415 :: nat_lit 416 :: nat_lit 418 :: nat_lit 419 :: nat_lit 420 :: nat_lit 422 :: nat_lit 423 :: nat_lit 425 :: nat_lit 426 :: nat_lit 427 :: nat_lit 429 :: nat_lit 430 :: nat_lit 432 :: nat_lit 433 :: nat_lit 434 :: nat_lit 436 :: nat_lit 437 :: nat_lit 439 :: nat_lit 440 :: nat_lit 441 :: nat_lit 443 :: nat_lit 444 :: nat_lit 446 :: nat_lit 447 :: nat_lit 448 :: nat_lit 450 :: nat_lit 451 :: nat_lit 453 :: nat_lit 454 :: nat_lit 455 :: nat_lit 457 :: nat_lit 458 :: nat_lit 460 :: nat_lit 461 :: nat_lit 462 :: nat_lit 464 :: nat_lit 465 :: nat_lit 467 :: nat_lit 468 :: nat_lit 469 :: nat_lit 471 :: nat_lit 472 :: nat_lit 474 :: nat_lit 475 :: nat_lit 476 :: nat_lit 478 :: nat_lit 479 :: nat_lit 481 :: nat_lit 482 :: nat_lit 483 :: nat_lit 485 :: nat_lit 486 :: nat_lit 488 :: nat_lit 489 :: nat_lit 490 :: nat_lit 492 :: nat_lit 493 :: nat_lit 495 :: nat_lit 496 :: nat_lit 497 :: nat_lit 499 :: nat_lit 500 :: nat_lit 502 :: nat_lit 503 :: nat_lit 504 :: nat_lit 506 :: nat_lit 507 :: nat_lit 509 :: nat_lit 510 :: nat_lit 511 :: nat_lit 513 :: nat_lit 514 :: nat_lit 516 :: nat_lit 517 :: nat_lit 518 :: nat_lit 520 :: nat_lit 521 :: nat_lit 523 :: nat_lit 524 :: nat_lit 525 :: nat_lit 527 :: nat_lit 528 :: nat_lit 530 :: nat_lit 531 :: nat_lit 532 :: nat_lit 534 :: nat_lit 535 :: nat_lit 537 :: nat_lit 538 :: nat_lit 539 :: nat_lit 540 :: nat_lit 541 :: nat_lit 542 :: nat_lit 543 :: nat_lit 546 :: nat_lit 548 :: nat_lit 549 :: nat_lit 551 :: nat_lit 552 :: nat_lit 553 :: nat_lit 555 :: nat_lit 556 :: nat_lit 558 :: nat_lit 559 :: []
noncomputable def lf : Life := Life.mk [] [] [] 0 [] [] Bool.false #[] [] 0 Bool.false Bool.false Bool.false 0 [2000, 10, 10] Bool.false 0 Bool.true [] [] 0 Bool.false
noncomputable def dr : Drawn := Drawn.mk 0 0 0 0
noncomputable def bE : List Stmt := behindTheImports pg
noncomputable def q0 : Pos := ⟨0, 0, 0, 0⟩
noncomputable def eE : Env := { scope := pg.main.scope, locals := mainNs, globals := mainNs, cells := [], code := .ref 13, frame := some 14 }
noncomputable def cE : Code := .body bE eE
noncomputable def an0 : Option Value := some (.ref 6)
noncomputable abbrev bs : List Frame := [topFrame q0]
noncomputable def slice (a n : Nat) (l : List Stmt) : List Stmt := (l.drop a).take n
noncomputable def st1 : List Stmt := slice 0 9 bE
noncomputable def st2 : List Stmt := slice 9 1 bE
noncomputable def st3 : List Stmt := slice 10 15 bE
noncomputable def st4 : List Stmt := slice 25 1 bE
noncomputable def st5 : List Stmt := slice 26 3 bE
noncomputable def st6 : List Stmt := slice 29 1 bE
noncomputable def st7 : List Stmt := slice 30 3 bE
theorem hd_pre (w : World) : (fun os => topGo treeTable pg w 11 an0 12 ⟨boot_heap w.params, #[], boot_drawn, boot_toks, os⟩ (topStub pg)) = fun os => some (⟨ha w.params, #[], dr, 187, os⟩, ⟨denote treeTable cE, cE, q0, bs⟩) := by kernel_rfl
theorem hd_block (w : World) : (fun os => segRun treeTable pg w 11 an0 1 1 ⟨ha w.params, #[], dr, 187, os⟩ (blockOf bE eE cE q0 bs)) = fun os => some (Flow.next, SharedT.abs (⟨tb w.params, 15, lf, #[], dr, 187, os⟩ : SharedT), cE, q0) := by kernel_rfl
theorem hd_1 (w : World) : (fun os => segRunT treeTable pg w 11 an0 1 563 (⟨tb w.params, 15, lf, #[], dr, 187, os⟩ : SharedT) (piecesOf st1 eE cE q0 bs)) = fun os => some (Flow.next, (⟨t1 w.params, 68, lf, #[], dr, 259, os⟩ : SharedT), cE, ⟨16, 0, 17, 389⟩) := by kernel_rfl
theorem hd_2 (w : World) : (fun os => segRunT treeTable pg w 11 an0 1 554 (⟨t1 w.params, 68, lf, #[], dr, 259, os⟩ : SharedT) (piecesOf st2 eE cE ⟨16, 0, 17, 389⟩ bs)) = fun os => some (Flow.next, (⟨t2 w.params, 159, lf, #[], dr, 379, os⟩ : SharedT), cE, ⟨18, 0, 74, 58⟩) := by kernel_rfl
theorem hd_3 (w : World) : (fun os => segRunT treeTable pg w 11 an0 1 205 (⟨t2 w.params, 159, lf, #[], dr, 379, os⟩ : SharedT) (piecesOf st3 eE cE ⟨18, 0, 74, 58⟩ bs)) = fun os => some (Flow.next, (⟨t3 w.params, 181, lf, #[], dr, 429, os⟩ : SharedT), cE, ⟨95, 0, 95, 5⟩) := by kernel_rfl
theorem hd_4 (w : World) : (fun os => segRunT treeTable pg w 11 an0 1 821 (⟨t3 w.params, 181, lf, #[], dr, 429, os⟩ : SharedT) (piecesOf st4 eE cE ⟨95, 0, 95, 5⟩ bs)) = fun os => some (Flow.next, (⟨t4 w.params, 329, lf, #[], dr, 623, os⟩ : SharedT), cE, ⟨96, 0, 211, 27⟩) := by kernel_rfl
theorem hd_5 (w : World) : (fun os => segRunT treeTable pg w 11 an0 1 449 (⟨t4 w.params, 329, lf, #[], dr, 623, os⟩ : SharedT) (piecesOf st5 eE cE ⟨96, 0, 211, 27⟩ bs)) = fun os => some (Flow.next, (⟨t5 w.params, 384, lf, #[], dr, 716, os⟩ : SharedT), cE, ⟨288, 0, 288, 4⟩) := by kernel_rfl
theorem hd_6 (w : World) : (fun os => segRunT treeTable pg w 11 an0 1 883 (⟨t5 w.params, 384, lf, #[], dr, 716, os⟩ : SharedT) (piecesOf st6 eE cE ⟨288, 0, 288, 4⟩ bs)) = fun os => some (Flow.next, (⟨t6 w.params, 546, lf, #[], dr, 924, os⟩ : SharedT), cE, ⟨289, 0, 369, 17⟩) := by kernel_rfl
theorem hd_7 (w : World) : (fun os => segRunT treeTable pg w 11 an0 1 87 (⟨t6 w.params, 546, lf, #[], dr, 924, os⟩ : SharedT) (piecesOf st7 eE cE ⟨289, 0, 369, 17⟩ bs)) = fun os => some (Flow.next, (⟨t7 w.params, 560, lf, #[], dr, 959, os⟩ : SharedT), cE, ⟨376, 0, 402, 32⟩) := by kernel_rfl
theorem hd_fin (w : World) : (fun os => topRun treeTable pg w 11 an0 2 (SharedT.abs (⟨t7 w.params, 560, lf, #[], dr, 959, os⟩ : SharedT)) ⟨doneF .next, cE, ⟨376, 0, 402, 32⟩, bs⟩) = fun os => some (⟨hf w.params, #[], dr, 959, os⟩ : Shared) := by kernel_rfl
theorem hd_body : bE = (st1 ++ (st2 ++ (st3 ++ (st4 ++ (st5 ++ (st6 ++ (st7 ++ []))))))) := by kernel_rfl
theorem hd_run (w : World) (os : OsState) : topRun treeTable pg w 11 an0 (12 + (1 + (563 + (554 + (205 + (821 + (449 + (883 + (87 + 2))))))))) ⟨boot_heap w.params, #[], boot_drawn, boot_toks, os⟩ (topStub pg) = some ⟨hf w.params, #[], dr, 959, os⟩ :=
  go_top (congrFun (hd_pre w) os) (piece_block (congrFun (hd_block w) os) (Eq.mp (congrArg (fun l => topRun treeTable pg w 11 an0 (563 + (554 + (205 + (821 + (449 + (883 + (87 + 2))))))) (SharedT.abs (⟨tb w.params, 15, lf, #[], dr, 187, os⟩ : SharedT)) (restOf l eE cE q0 bs) = some ⟨hf w.params, #[], dr, 959, os⟩) hd_body.symm) (piece_app (segRun_of (congrFun (hd_1 w) os)) (piece_app (segRun_of (congrFun (hd_2 w) os)) (piece_app (segRun_of (congrFun (hd_3 w) os)) (piece_app (segRun_of (congrFun (hd_4 w) os)) (piece_app (segRun_of (congrFun (hd_5 w) os)) (piece_app (segRun_of (congrFun (hd_6 w) os)) (piece_app (segRun_of (congrFun (hd_7 w) os)) (congrFun (hd_fin w) os))))))))))
theorem hd_open : ∀ w : World, (fencedOpening treeTable pg w 7236).map (fun s => (s.heap, s.gens, s.drawn, s.toks)) = some (boot_heap w.params, Array.mk [], boot_drawn, boot_toks) :=
  boot_open (by kernel_rfl) (by decide) (fun s => by kernel_rfl)
theorem hd_size : ∀ w : World, ((boot_heap w.params).isNs mainGlobals && (#[] : Array GenState).size == 0, (boot_heap w.params).objs.size, (boot_heap w.params).nsMap mainGlobals "__annotations__") = (true, 11, an0) := fun w => by kernel_rfl
noncomputable def pick (l : List Stmt) : List Nat → List Stmt := fun is => is.map (nth l)
noncomputable def view : Program := { pg with main := { pg.main with body := pick pg.main.body [0, 2, 3, 4, 5, 6, 7, 8, 9, 11, 12, 13, 15, 16, 17, 18, 19, 20, 21, 22, 23, 24, 25, 26, 28, 29, 31, 32] } }
noncomputable def loose0 : List Str := [Str.ofString "VOID", Str.ofString "Store"]
noncomputable def lv0 : List (Str × WData) := [(Str.ofString "VOID", WData.tuple [WData.int 5, WData.int 0])]
theorem said_a : namesResolve PySem.Challenge.rw_rh0104_01.row.prog = true := by kernel_rfl
theorem said_b : noRoadLSs { strict := !(importedModules PySem.Challenge.rw_rh0104_01.row.prog.main.body).all cThrough.contains, foot := none, bare := List.filter (readsOut PySem.Challenge.rw_rh0104_01.row.prog PySem.Challenge.rw_rh0104_01.row.prog.main.body) [Str.ofString "vars", Str.ofString "dir", Str.ofString "locals"] } PySem.Challenge.rw_rh0104_01.row.prog.main.body = true := by kernel_rfl
theorem said_c : (namesMeet PySem.Challenge.rw_rh0104_01.row.prog PySem.Challenge.rw_rh0104_01.row.prog.main.body fun _ n => attrL n) = true := by kernel_rfl
theorem said_d : (namesMeet PySem.Challenge.rw_rh0104_01.prog PySem.Challenge.rw_rh0104_01.above fun _ n => !PySem.Challenge.rw_rh0104_01.own.contains n) = true := by kernel_rfl
theorem said_e : noRoadLSs { strict := true, foot := some PySem.Challenge.rw_rh0104_01.bound', writes := PySem.Challenge.rw_rh0104_01.writes, may := PySem.Challenge.rw_rh0104_01.may } PySem.Challenge.rw_rh0104_01.footing = true := by kernel_rfl
theorem said0 : PySem.Challenge.rw_rh0104_01.wellSaid = true := by
  delta OpenLaw.wellSaid
  repeat' (first | with_reducible refine look_both ?_ ?_ | (delta OpenRow.wellSaid; with_reducible refine look_both ?_ ?_) | (delta OpenRow.partSaid; with_reducible refine look_both ?_ ?_) | (delta looksOpen; with_reducible refine look_both ?_ ?_))
  all_goals first | with_reducible exact said_a | with_reducible exact said_b | with_reducible exact said_c | with_reducible exact said_d | with_reducible exact said_e | kernel_rfl
theorem kas_eq (P : Params) : kas = (kf P).map (·.1) := by kernel_rfl
noncomputable abbrev hk0 : Hook := kHook kf kas kas_eq
noncomputable def sf (w : World) (os : OsState) : Shared := ⟨hf w.params, #[], dr, 959, os⟩
theorem lk1 (w : World) : (fun os : OsState => staticsOk (importedModules pg.main.body) (boot_heap w.params) (hf w.params) && namesBound pg (hf w.params) && gensDone (sf w os) && laidKept (boot_heap w.params) (hf w.params)) = fun _ => true := by kernel_rfl
theorem lk2 (w : World) : (fun os : OsState => openSeen view loose0 (importedModules pg.main.body) (fun s => xlAt view lv0 s && recOk (RowW.records PySem.Challenge.rw_rh0104_01.row.toRowW) s) true (sf w os)) = fun _ => openGood view loose0 := by kernel_rfl
theorem lk3 (w : World) : (fun os : OsState => Hook.obs hk0 (sf w os)) = fun _ => Hook.val hk0 w := by kernel_rfl
theorem hd_left : LeftO PySem.Challenge.rw_rh0104_01.row.prog view loose0 (fun s => xlAt view lv0 s && recOk (RowW.records PySem.Challenge.rw_rh0104_01.row.toRowW) s) (Hook.obs hk0) (Hook.val hk0) 7236 :=
  LeftO.of_pieces (p := pg) hd_open hd_size hd_run (by decide) (fun w => funext fun os => Prod.ext (congrFun (lk1 w) os) (Prod.ext (congrFun (lk2 w) os) (congrFun (lk3 w) os)))
end Mine
example (w : World) (h₀ : Heap) : (Mine.kf w.params).In h₀ → PySem.Challenge.rw_rh0104_01.prog = PySem.Challenge.rw_rh0104_01.prog := by
  k_fill
  w_top off
  intro _; rfl
namespace Mine
noncomputable abbrev tup (vs : List Value) : Obj := { cls := .type "tuple", data := .seq vs.toArray }
noncomputable abbrev ent (P : Params) (x : String) (t : Nat) (v : Value) : DictEntry := ⟨PyData.keyHash P (Str.ofString x), .str (Str.ofString x) t, v⟩
noncomputable abbrev storeD (P : Params) (sy hp sk tr : Addr) (R : Int) (t1 t2 t3 t4 t5 t6 t7 u1 u2 u3 : Nat) : List DictEntry :=
  [ent P "symbols" t1 (.ref sy), ent P "max_heap" t2 (.int R u1), ent P "heap" t3 (.ref hp), ent P "stack" t4 (.ref sk), ent P "trail" t5 (.ref tr), ent P "hb" t6 (.int 0 u2), ent P "bb" t7 (.int 0 u3)]

theorem item_sym {prog : Program} {w : World} {A : Around} {E : Value → Shared → Prop} {s : Shared} {value slice : PySem.Expr} {h₀ : Heap} {L : Addr} {news : List (Addr × Obj)} {l : Addr} {vs : List Value} {nn : Nat} {k : Int} {u : Tok} {v : Value} {Q : Value → Shared → Prop}
    (N : News h₀ L s.heap news) (hm : (l, listOf vs.toArray nn) ∈ news) (h0 : 0 ≤ k) (hhi : k < 1000000) (hx : vs[k.toNat]? = some v) (h : Q v s)
    (hs : subscripted slice false (.ref l) (.int k u) = operate [.ref l, .int k u] (getItem (.ref l) (.int k u)) := by with_unfolding_all rfl) :
    wpAny (model prog w) A (subscriptTail value slice (.ref l) (.int k u)) Q E s :=
  have hl : s.heap.IsList l vs.toArray := ⟨_, (N _ hm).1, rfl, nn, rfl⟩
  tail_any hl.typeIs slot_list_getitem.lookup (wpAny_getItem_list hl h0 (Int.lt_trans hhi (by decide)) (by simpa using hx) h) hs
theorem cell_eq {prog : Program} {w : World} {A : Around} {E : Value → Shared → Prop} {s : Shared} {h₀ : Heap} {L : Addr} {news : List (Addr × Obj)} {c : Addr} {i k : Int} {t1 t2 : Nat} {Q : Value → Shared → Prop}
    (N : News h₀ L s.heap news) (hm : (c, tup [.int i t1, .int k t2]) ∈ news) (hu : A.units + 5 < cLine) (h : Q (.bool true) s) :
    wpAny (model prog w) A (compareOp .Eq (.ref c) (.ref c)) Q E s := by
  have r : Reads s.heap (.ref c) (.tuple [.int i, .int k]) ([] ++ ([] ++ [])) := reads_tuple_at (N.get hm) rfl rfl (by simpa using ReadsAll.cons (Reads.int i t1) (ReadsAll.cons (Reads.int k t2) ReadsAll.nil))
  refine SeqAt.compareEq_reads r r rfl rfl ?_ (by simpa [PyData.eqv, PyData.eqvAll] using h)
  have : min (PyData.tuple [PyData.int i, PyData.int k]).depth (PyData.tuple [PyData.int i, PyData.int k]).depth ≤ 5 := by
    rw [Nat.min_self]; simp [PyData.depth, PyData.depthAll]
  omega
noncomputable abbrev symD (P : Params) (tx an fs fn : Addr) (t1 t2 t3 t4 : Nat) : List DictEntry :=
  [ent P "texts" t1 (.ref tx), ent P "atom_numbers" t2 (.ref an), ent P "functors" t3 (.ref fs), ent P "functor_numbers" t4 (.ref fn)]
theorem allLt_mem {d : Addr} : ∀ {l : List (Addr × Obj)}, AllLt d l → ∀ p ∈ l, p.1 < d
  | [], _, _, h => nomatch h
  | _ :: _, x, p, h => by
    rcases List.mem_cons.mp h with rfl | h
    · exact x.1
    · exact allLt_mem x.2 p h
theorem le2 {u a c : Nat} (h : Nat.ble a c = true) : u + a ≤ u + c := Nat.add_le_add_left (Nat.le_of_ble_eq_true h) u
theorem le3 {u a b c : Nat} (h : Nat.ble (a + b) c = true) : u + a + b ≤ u + c := by rw [Nat.add_assoc]; exact le2 h
theorem le4 {u a b d c : Nat} (h : Nat.ble (a + (b + d)) c = true) : u + a + b + d ≤ u + c := by rw [Nat.add_assoc, Nat.add_assoc]; exact le2 h
theorem sz0 {n b : Nat} (h : n < b) (e : Nat.ble b 1000000 = true) : n < 1000000 := Nat.lt_of_lt_of_le h (Nat.le_of_ble_eq_true e)
theorem sz1 {n k b : Nat} (h : n < b) (e : Nat.ble (b + k) 1000000 = true) : n + k < 1000000 := Nat.lt_of_lt_of_le (Nat.add_lt_add_right h k) (Nat.le_of_ble_eq_true e)
theorem pickLt {a b x : Nat} {r : Prop} (h : x < b ∧ r) (k : x < b ∧ r → a < b) : a < b := k h
theorem ite_T {b : Bool} {p q : Prop} (h : b = true) (hp : p) : if b = true then p else q := by rw [h]; exact hp
theorem allLt_ne {d : Addr} : ∀ {l : List (Addr × Obj)}, AllLt d l → ∀ p ∈ l, p.1 ≠ d
  | [], _, _, h => nomatch h
  | _ :: _, x, p, h => by
    rcases List.mem_cons.mp h with rfl | h
    · exact Nat.ne_of_lt x.1
    · exact allLt_ne x.2 p h
theorem units_under_make {A : Around} {args : Args} : (A.under (.builtin "type.__call__" args)).units = A.units + 1 := rfl
noncomputable def Hold (P : Prop) : Prop := P
theorem stopCall {M : Model} {A : Around} {t : Sem Value} {Q E : Value → Shared → Prop} {s : Shared} (h : Hold (wpAny M A t Q E s)) : wpAny M A t Q E s := h
theorem subL1 {a : Addr × Obj} {l : List (Addr × Obj)} (h : a ∈ l) : SubL [a] l := ⟨h, trivial⟩
theorem sub_tail {α : Type} {a : α} {l l' : List α} (h : ∀ q ∈ l, q ∈ l') : ∀ q ∈ l, q ∈ a :: l' := fun q hq => .tail _ (h q hq)
noncomputable def offOf (d : Addr) (led : List (Addr × Obj)) : List (Addr × Obj) := led.filter fun q => !decide (q.1 = d)
theorem offOf_off (d : Addr) (led : List (Addr × Obj)) : OwnOff (offOf d led) [d] := by
  intro q hq b hb
  rw [List.mem_singleton.mp hb]
  have := (List.mem_filter.mp hq).2
  simpa using this
theorem offOf_sub {d : Addr} {led : List (Addr × Obj)} : ∀ q ∈ offOf d led, q ∈ led := fun q hq => (List.mem_filter.mp hq).1
theorem offOf_in {d a : Addr} {o : Obj} {led : List (Addr × Obj)} (h : (a, o) ∈ led) (hne : a ≠ d) : (a, o) ∈ offOf d led := List.mem_filter.mpr ⟨h, by simpa using hne⟩
theorem upd_mem {d : Addr} {o o' : Obj} {led led' : List (Addr × Obj)} (U : Upd d o o' led led') : (d, o) ∈ led := by
  obtain ⟨pre, post, rfl, rfl, _, _⟩ := U.split
  exact List.mem_append.mpr (.inr (.head _))
theorem upd_out {d : Addr} {o o' : Obj} {led led' : List (Addr × Obj)} (U : Upd d o o' led led') : ∀ q ∈ led', q ∈ (d, o') :: offOf d led := by
  obtain ⟨pre, post, rfl, rfl, a, b⟩ := U.split
  intro q hq
  rcases List.mem_append.mp hq with h | h
  · exact .tail _ (offOf_in (List.mem_append.mpr (.inl h)) (a q h))
  · rcases List.mem_cons.mp h with rfl | h
    · exact .head _
    · exact .tail _ (offOf_in (List.mem_append.mpr (.inr (.tail _ h))) (b q h))
theorem upd_sub {d : Addr} {o o' : Obj} {led led' : List (Addr × Obj)} (U : Upd d o o' led led') : ∀ q ∈ (d, o) :: offOf d led, q ∈ led := fun q hq => (List.mem_cons.mp hq).elim (fun e => e ▸ upd_mem U) (offOf_sub q)
theorem off_lt {d k : Addr} {led : List (Addr × Obj)} (h : ∀ q ∈ offOf d led, q.1 < k) (hd : d < k) : ∀ q ∈ led, q.1 < k := by
  intro q hq
  by_cases e : q.1 = d
  · exact e ▸ hd
  · exact h q (offOf_in (o := q.2) hq e)
theorem ne_of_cls {h₀ h : Heap} {L a b : Addr} {oa ob : Obj} {led : List (Addr × Obj)} (N : News h₀ L h led) (ha : (a, oa) ∈ led) (hb : (b, ob) ∈ led) (hc : oa.cls ≠ ob.cls) : a ≠ b := by
  intro e
  subst e
  have := (N _ ha).1.symm.trans (N _ hb).1
  exact hc (congrArg Obj.cls (Option.some.inj this))
section
variable {h₀ h' : Heap} {L I : Addr} {it : Obj} {rest : (Str → Option Value) → List (Addr × Obj) → Prop} {s₁ : Shared} {tk : Nat} {m' : Str → Option Value} {news' : List (Addr × Obj)} {p1 p2 p3 p4 : Addr × Obj}
theorem unr0 (F : Fr h₀ L h' m') (N : News h₀ L h' ((I, it) :: news')) (off : ∀ p ∈ news', p.1 ≠ I) (r : rest m' news') : UnrEnd h₀ L s₁ I it rest { s₁ with heap := h', toks := tk } := UnrEnd.intro F N news' (fun _ h => h) off r
theorem unr1 (F : Fr h₀ L h' m') (N : News h₀ L h' (p1 :: (I, it) :: news')) (off : ∀ p ∈ news', p.1 ≠ I) (r : rest m' news') : UnrEnd h₀ L s₁ I it rest { s₁ with heap := h', toks := tk } := UnrEnd.intro F N news' (fun _ h => .tail _ h) off r
theorem unr2 (F : Fr h₀ L h' m') (N : News h₀ L h' (p1 :: p2 :: (I, it) :: news')) (off : ∀ p ∈ news', p.1 ≠ I) (r : rest m' news') : UnrEnd h₀ L s₁ I it rest { s₁ with heap := h', toks := tk } := UnrEnd.intro F N news' (fun _ h => .tail _ (.tail _ h)) off r
theorem unr3 (F : Fr h₀ L h' m') (N : News h₀ L h' (p1 :: p2 :: p3 :: (I, it) :: news')) (off : ∀ p ∈ news', p.1 ≠ I) (r : rest m' news') : UnrEnd h₀ L s₁ I it rest { s₁ with heap := h', toks := tk } := UnrEnd.intro F N news' (fun _ h => .tail _ (.tail _ (.tail _ h))) off r
end
structure AtI (i : Nat) (cells : List Value) (z : Int) (v : Value) : Prop where
  h : 0 ≤ z ∧ z < 1000000 ∧ cells[z.toNat]? = some v
theorem AtI.use {i : Nat} {cells : List Value} {z k : Int} {v : Value} (h : AtI i cells z v) (e : k = z) : 0 ≤ k ∧ k < 1000000 ∧ cells[k.toNat]? = some v := e ▸ h.h
theorem item_at {prog : Program} {w : World} {A : Around} {E : Value → Shared → Prop} {s : Shared} {value slice : PySem.Expr} {h₀ : Heap} {L : Addr} {news : List (Addr × Obj)} {l : Addr} {vs : List Value} {nn : Nat} {k : Int} {u : Tok} {v : Value} {Q : Value → Shared → Prop}
    (N : News h₀ L s.heap news) (hm : (l, listOf vs.toArray nn) ∈ news) (hx : 0 ≤ k ∧ k < 1000000 ∧ vs[k.toNat]? = some v) (h : Q v s)
    (hs : subscripted slice false (.ref l) (.int k u) = operate [.ref l, .int k u] (getItem (.ref l) (.int k u))) :
    wpAny (model prog w) A (subscriptTail value slice (.ref l) (.int k u)) Q E s := item_sym N hm hx.1 hx.2.1 hx.2.2 h hs
section
variable {prog : Program} {w : World} {A : Around} {E : Value → Shared → Prop} {s : Shared} {h₀ : Heap} {L D : Addr} {m : Str → Option Value} {news news' : List (Addr × Obj)} {vs : List Value} {n : Nat} {k : Int} {t : Tok} {x : Value}
theorem len_sym {Q : Value → Shared → Prop} {j : Nat} (N : News h₀ L s.heap news) (hm : (D, listOf vs.toArray n) ∈ news) (hj : vs.length = j) (hb : j < 1000000)
    (h : Q (.int j (s.toks + 1)) { s with toks := s.toks + 1 + 1 }) : wpAny (model prog w) A (call (.builtin "len") [.ref D]) Q E s := by
  subst hj
  exact len_list (items := vs.toArray) ⟨_, (N _ hm).1, rfl, n, rfl⟩ (by rw [List.size_toArray]; omega) (by rw [List.size_toArray]; exact h)
theorem append_sym {Q : Value → Shared → Prop} (F : Fr h₀ L s.heap m) (N : News h₀ L s.heap news) (U : Upd D (listOf vs.toArray n) (listOf (vs ++ [x]).toArray (n + 1)) news news') (hb : vs.length < 1000000)
    (h : ∀ h', Fr h₀ L h' m → News h₀ L h' news' → Q .none { s with heap := h' }) : wpAny (model prog w) A (call (.builtin "list.append") [.ref D, x]) Q E s :=
  append_K F N (its := vs.toArray) (by simpa using U) h (by rw [List.size_toArray, sizeLine_eq]; omega)
theorem set_sym {Q : Unit → Shared → Prop} (F : Fr h₀ L s.heap m) (N : News h₀ L s.heap news) (U : Upd D (listOf vs.toArray n) (listOf (vs.set k.toNat x).toArray n) news news') (h0 : 0 ≤ k) (h1 : k < vs.length) (hb : vs.length < 1000000)
    (h : ∀ h', Fr h₀ L h' m → News h₀ L h' news' → Q () { s with heap := h' }) : wpAny (model prog w) A (setItem (.ref D) (.int k t) x) Q E s := by
  obtain ⟨pre, post, rfl, rfl, a, b⟩ := U.split
  have z := N (D, listOf vs.toArray n) (List.mem_append.mpr (.inr (.head _)))
  have hs : vs.toArray.size = vs.length := List.size_toArray
  refine ki_setAt z.1 h0 (by omega) (by omega) (h _ (F.change (Heap.SameBut.update ..) z.2.1 z.2.2) (ki_turn _ N a b ?_ ?_))
  · show vs.toArray.setIfInBounds k.toNat x = (vs.set k.toNat x).toArray
    apply Array.toList_inj.mp
    simp
  · simp
end
end Mine
local macro_rules | `(tactic| walk_at $s:str) => `(tactic| k_extra $s)
example : True := by
  k_with "call ref" => (k_here; (first | (with_reducible show wpAny _ _ (call (Value.ref 88) _ _) _ _ _) | (with_reducible show wpAny _ _ (call (Value.ref 102) _ _) _ _ _) | (with_reducible show wpAny _ _ (call (Value.ref 109) _ _) _ _ _) | (with_reducible show wpAny _ _ (call (Value.ref 123) _ _) _ _ _) | (with_reducible show wpAny _ _ (call (Value.ref 216) _ _) _ _ _) | (with_reducible show wpAny _ _ (call (Value.ref 230) _ _) _ _ _) | (with_reducible show wpAny _ _ (call (Value.ref 258) _ _) _ _ _) | (with_reducible show wpAny _ _ (call (Value.ref 286) _ _) _ _ _) | (with_reducible show wpAny _ _ (call (Value.ref 293) _ _) _ _ _) | (with_reducible show wpAny _ _ (call (Value.ref 300) _ _) _ _ _) | (with_reducible show wpAny _ _ (call (Value.ref 307) _ _) _ _ _) | (with_reducible show wpAny _ _ (call (Value.ref 321) _ _) _ _ _) | (with_reducible show wpAny _ _ (call (Value.ref 342) _ _) _ _ _) | (with_reducible show wpAny _ _ (call (Value.ref 371) _ _) _ _ _) | (with_reducible show wpAny _ _ (call (Value.ref 378) _ _) _ _ _) | (with_reducible show wpAny _ _ (call (Value.ref 60) _ _) _ _ _) | (with_reducible show wpAny _ _ (call (Value.ref 67) _ _) _ _ _) | (with_reducible show wpAny _ _ (call (Value.ref 154) _ _) _ _ _) | (with_reducible show wpAny _ _ (call (Value.ref 552) _ _) _ _ _) | (with_reducible show wpAny _ _ (call (Value.ref 179) _ _) _ _ _) | (with_reducible show wpAny _ _ (call (Value.ref 172) _ _) _ _ _) | (with_reducible show wpAny _ _ (call (Value.ref 165) _ _) _ _ _)); refine Mine.stopCall ?_)
  k_with "exec While Constant cons nil" => (k_here; k_dflt (refine whl_start 5 ?_))
  k_with "subscriptTail" => (k_here; (with_reducible show wpAny _ _ (subscriptTail _ _ (Value.ref _) (Value.int _ _)) _ _ _); k_dflt (refine' Mine.item_sym ?N ?hm ?h0 ?hhi ?hx ?_ ?hs; (case N => k_asm); (case hm => k_mem); (case hx => assumption); (case h0 => first | assumption | omega); (case hhi => first | assumption | omega); (case hs => with_unfolding_all rfl); k_whole))
  k_with "compareOp Eq ref ref" => (k_here; (with_reducible show wpAny _ _ (compareOp CmpOp.Eq (Value.ref _) (Value.ref _)) _ _ _); k_dflt (refine' Mine.cell_eq ?N ?hm ?hu ?_; (case N => k_asm); (case hm => k_mem); (case hu => ktr_units); k_whole))
  k_with "REL" => (first | assumption | (refine' And.right ?kx; (case kx => assumption)) | (refine' And.right (And.right ?kx); (case kx => assumption)) | (refine' And.right (And.right (And.right ?kx)); (case kx => assumption)) | (refine' And.right (And.right (And.right (And.right ?kx))); (case kx => assumption)) | (refine' And.right (And.right (And.right (And.right (And.right ?kx)))); (case kx => assumption)) | (refine' And.right (And.right (And.right (And.right (And.right (And.right ?kx))))); (case kx => assumption)) | (refine' And.right (And.right (And.right (And.right (And.right (And.right (And.right ?kx)))))); (case kx => assumption)) | (refine' And.right (And.right (And.right (And.right (And.right (And.right (And.right (And.right ?kx))))))); (case kx => assumption)) | (refine' And.right (And.right (And.right (And.right (And.right (And.right (And.right (And.right (And.right ?kx)))))))); (case kx => assumption)) | (refine' And.right (And.right (And.right (And.right (And.right (And.right (And.right (And.right (And.right (And.right ?kx))))))))); (case kx => assumption)) | (refine' And.right (And.right (And.right (And.right (And.right (And.right (And.right (And.right (And.right (And.right (And.right ?kx)))))))))); (case kx => assumption)) | (refine' And.right (And.right (And.right (And.right (And.right (And.right (And.right (And.right (And.right (And.right (And.right (And.right ?kx))))))))))); (case kx => assumption)) | (refine' And.right (And.right (And.right (And.right (And.right (And.right (And.right (And.right (And.right (And.right (And.right (And.right (And.right ?kx)))))))))))); (case kx => assumption)))
  trivial
local macro_rules | `(tactic| k_mem) => `(tactic| first | ktr_member | exact List.mem_cons_self | (refine List.mem_cons_of_mem _ ?_; k_mem))
example : True := by
  k_with "subscriptTail Name Constant ref int" => (k_here; k_dflt (refine' item_tupleT ?t ?a ?b ?c ?d ?_; (case t => exact News.isTup (by k_asm) (by k_mem)); (case a => decide); (case b => decide); (case c => rfl); (case d => rfl); k_whole))
  k_with "call builtin:len" => (k_here; (with_reducible show wpAny _ _ (call (Value.builtin "len") [Value.ref _]) _ _ _); k_dflt (refine' Mine.len_sym ?N ?hm ?hj ?hb ?_; (case N => k_asm); (case hm => k_mem); (case hj => first | (exact (rfl : _ = 0)) | (exact (rfl : _ = 1)) | (exact (rfl : _ = 2)) | (exact (rfl : _ = 3)) | exact rfl); (case hb => k_extra "SZ"); k_whole))
  k_with "call builtin:list.append" => (k_here; k_dflt (refine' Mine.append_sym ?F ?N ?U ?hb ?_; (case F => k_asm); (case N => k_asm); (case U => k_upd); (case hb => k_extra "SZ"); k_whole); intro _ _ _; (try k_sweep))
  k_with "setItem ref int" => (k_here; k_dflt (refine' Mine.set_sym ?F ?N ?U ?h0 ?h1 ?hb ?_; (case F => k_asm); (case N => k_asm); (case U => k_upd); (case h0 => first | assumption | omega); (case h1 => first | assumption | omega | ((try simp only [List.length_append, List.length_cons, List.length_nil, List.length_set]); omega)); (case hb => k_extra "SZ"); k_whole); intro _ _ _; (try k_sweep))
  trivial
local macro_rules | `(tactic| kwd_rel) => `(tactic| k_extra "REL")
local macro_rules | `(tactic| k_all) => `(tactic| (refine Mine.allLt_ne ?_; kwd_rel))
example : True := by
  k_with "UnrEnd" => (k_dflt first | (refine' Mine.unr0 ?F ?N ?o ?_; (case F => assumption); (case N => assumption); (case o => k_all)) | (refine' Mine.unr1 ?F ?N ?o ?_; (case F => assumption); (case N => assumption); (case o => k_all)) | (refine' Mine.unr2 ?F ?N ?o ?_; (case F => assumption); (case N => assumption); (case o => k_all)) | (refine' Mine.unr3 ?F ?N ?o ?_; (case F => assumption); (case N => assumption); (case o => k_all)))
  k_with "ite" => (k_here; first | (refine Mine.ite_T (decide_eq_true (by omega)) ?_) | (refine PySem.W.ite_isFalse (decide_eq_false (by omega)) ?_))
  k_with "exec For Name Name cons nil" => (k_here; (rename Fr _ _ _ _ => lF'); (with_unfolding_all refine' For_invVF lF' ?k1 ?k2 ?_; (case k1 => exact rfl); (case k2 => exact rfl); k_whole))
  k_with "pyIter ref" => (k_here; (with_reducible show wpAny _ _ (pyIter (Value.ref _)) (fun it s₂ => LoopAtV _ _ _ _ _ _ _ _ _ it s₂) _ _); (with_unfolding_all refine' iter_listUnr ?hh ?F ?N ?hm ?hc ?hd ?_; (case hh => rfl); (case F => k_asm); (case N => k_asm); (case hm => k_mem); (case hc => rfl); (case hd => rfl)); intro _ zl1; (try k_lt zl1))
  trivial
local macro_rules | `(tactic| k_upd) => `(tactic| assumption)
local macro_rules | `(tactic| ktr_units) => `(tactic| ((simp only [units_in1, units_deeper, Around.mark_units, Mine.units_under_make]); (try dsimp only [ktrTop]); k_extra "ROOM"))
example : True := by
  k_with "LT" => (first | (with_reducible assumption) | (refine' Mine.pickLt ?kx ?_; (case kx => with_reducible assumption); intro kx; first | exact kx.1 | exact kx.2.1 | exact kx.2.2.1 | exact kx.2.2.2.1 | exact kx.2.2.2.2.1 | exact kx.2.2.2.2.2.1 | exact kx.2.2.2.2.2.2.1 | exact kx.2.2.2.2.2.2.2.1 | exact kx.2.2.2.2.2.2.2.2.1 | exact kx.2.2.2.2.2.2.2.2.2.1 | exact kx.2.2.2.2.2.2.2.2.2.2.1 | exact kx.2.2.2.2.2.2.2.2.2.2.2.1 | exact kx.2.2.2.2.2.2.2.2.2.2.2.2.1 | exact kx.2.2.2.2.2.2.2.2.2.2.2.2.2.1 | exact kx.2.2.2.2.2.2.2.2.2.2.2.2.2.2.1 | exact kx.2.2.2.2.2.2.2.2.2.2.2.2.2.2.2.1 | exact kx.2.2.2.2.2.2.2.2.2.2.2.2.2.2.2.2.1 | exact kx.2.2.2.2.2.2.2.2.2.2.2.2.2.2.2.2.2.1 | exact kx.2.2.2.2.2.2.2.2.2.2.2.2.2.2.2.2.2.2.1 | exact kx.2.2.2.2.2.2.2.2.2.2.2.2.2.2.2.2.2.2.2.1 | exact kx.2.2.2.2.2.2.2.2.2.2.2.2.2.2.2.2.2.2.2.2.1 | exact kx.2.2.2.2.2.2.2.2.2.2.2.2.2.2.2.2.2.2.2.2.2.1 | exact kx.2.2.2.2.2.2.2.2.2.2.2.2.2.2.2.2.2.2.2.2.2.2.1 | exact kx.2.2.2.2.2.2.2.2.2.2.2.2.2.2.2.2.2.2.2.2.2.2.2.1 | exact kx.2.2.2.2.2.2.2.2.2.2.2.2.2.2.2.2.2.2.2.2.2.2.2.2.1 | exact kx.2.2.2.2.2.2.2.2.2.2.2.2.2.2.2.2.2.2.2.2.2.2.2.2.2.1 | exact kx.2.2.2.2.2.2.2.2.2.2.2.2.2.2.2.2.2.2.2.2.2.2.2.2.2.2.1 | exact kx.2.2.2.2.2.2.2.2.2.2.2.2.2.2.2.2.2.2.2.2.2.2.2.2.2.2.2.1 | exact kx.2.2.2.2.2.2.2.2.2.2.2.2.2.2.2.2.2.2.2.2.2.2.2.2.2.2.2.2.1 | exact kx.2.2.2.2.2.2.2.2.2.2.2.2.2.2.2.2.2.2.2.2.2.2.2.2.2.2.2.2.2.1 | exact kx.2.2.2.2.2.2.2.2.2.2.2.2.2.2.2.2.2.2.2.2.2.2.2.2.2.2.2.2.2.2.1 | exact kx.2.2.2.2.2.2.2.2.2.2.2.2.2.2.2.2.2.2.2.2.2.2.2.2.2.2.2.2.2.2.2.1 | exact kx.2.2.2.2.2.2.2.2.2.2.2.2.2.2.2.2.2.2.2.2.2.2.2.2.2.2.2.2.2.2.2.2.1 | exact kx.2.2.2.2.2.2.2.2.2.2.2.2.2.2.2.2.2.2.2.2.2.2.2.2.2.2.2.2.2.2.2.2.2.1 | exact kx.2.2.2.2.2.2.2.2.2.2.2.2.2.2.2.2.2.2.2.2.2.2.2.2.2.2.2.2.2.2.2.2.2.2.1 | exact kx.2.2.2.2.2.2.2.2.2.2.2.2.2.2.2.2.2.2.2.2.2.2.2.2.2.2.2.2.2.2.2.2.2.2.2.1 | exact kx.2.2.2.2.2.2.2.2.2.2.2.2.2.2.2.2.2.2.2.2.2.2.2.2.2.2.2.2.2.2.2.2.2.2.2.2.1 | exact kx.2.2.2.2.2.2.2.2.2.2.2.2.2.2.2.2.2.2.2.2.2.2.2.2.2.2.2.2.2.2.2.2.2.2.2.2.2.1 | exact kx.2.2.2.2.2.2.2.2.2.2.2.2.2.2.2.2.2.2.2.2.2.2.2.2.2.2.2.2.2.2.2.2.2.2.2.2.2.2.1 | exact kx.2.2.2.2.2.2.2.2.2.2.2.2.2.2.2.2.2.2.2.2.2.2.2.2.2.2.2.2.2.2.2.2.2.2.2.2.2.2.2.1 | exact kx.2 | exact kx.2.2 | exact kx.2.2.2 | exact kx.2.2.2.2 | exact kx.2.2.2.2.2 | exact kx.2.2.2.2.2.2 | exact kx.2.2.2.2.2.2.2 | exact kx.2.2.2.2.2.2.2.2 | exact kx.2.2.2.2.2.2.2.2.2 | exact kx.2.2.2.2.2.2.2.2.2.2 | exact kx.2.2.2.2.2.2.2.2.2.2.2 | exact kx.2.2.2.2.2.2.2.2.2.2.2.2))
  k_with "LTO" => (first | k_extra "LT" | omega)
  k_with "NE" => (first | (with_reducible assumption) | (with_reducible refine' Ne.symm ?kx; (case kx => with_reducible assumption)) | (refine Nat.ne_of_lt ?_; k_extra "LT") | (refine Nat.ne_of_gt ?_; k_extra "LT") | omega)
  k_with "ROOM" => (first | (with_reducible assumption) | (refine' Nat.lt_of_le_of_lt ?ke ?kx; (case kx => with_reducible assumption); (case ke => first | exact Nat.le_add_right _ _ | exact Mine.le4 rfl | exact Mine.le3 rfl | exact Mine.le2 rfl)) | omega)
  k_with "SZ" => (first | assumption | exact Mine.sz0 (by assumption) rfl | exact Mine.sz1 (by assumption) rfl | omega | ((try simp only [List.length_append, List.length_cons, List.length_nil, List.length_set]); omega))
  trivial
local macro_rules | `(tactic| k_ne) => `(tactic| (refine neN ?_; (try dsimp only); k_extra "NE"))
local macro_rules | `(tactic| k_lt $h:ident) => `(tactic| (replace $h := allLt_of $h; dsimp only [AllLt] at $h:ident))
local macro_rules | `(tactic| ktr_room) => `(tactic| first | ((simp only [depth_under_make, depth_under_kw, depth_in1, depth_deeper, depth_caller]); k_extra "ROOM") | k_extra "ROOM")
namespace Mine
section
variable {prog : Program} {w : World} {A : Around} {E : Value → Shared → Prop} {s : Shared} {h₀ : Heap} {L d : Addr} {led : List (Addr × Obj)} {o : Obj}
theorem getM_dict {name : Str} {id : String} {pl : Sem Bool} {Q : Value × List Value → Shared → Prop} (N : News h₀ L s.heap led) (hm : (d, o) ∈ led) (D : o.ExactDict) (slot : Slot "dict" name id) (hty : typeOf (.builtin id) = pure (.type "method_descriptor"))
    (h : Q (.builtin id, [.ref d]) s) : wpAny (model prog w) A (getMethod (.ref d) name pl) Q E s :=
  getMethod_builtin ⟨_, (N _ hm).1, D.1⟩ PySem.F.plainAttrs_dict slot hty (fun a e => by cases e; exact ⟨_, (N _ hm).1, D.2.1⟩) h
end
section
variable {prog : Program} {w : World} {K : Type} [DecidableEq K] {knd : KeyKind prog w K}
noncomputable def DIs (knd : KeyKind prog w K) (o : Obj) (kvs : List (K × Value)) : Prop := o.ExactDict ∧ ∃ es ep, o.data = .dict es ep ∧ KeysOf knd es ∧ Pairs knd es.toList kvs ∧ (kvs.map (·.1)).Nodup
theorem DIs.nil : DIs knd (dictOf [] 0) [] := ⟨⟨rfl, rfl, rfl⟩, #[], 0, rfl, fun _ he => by simp at he, Pairs.nil, List.nodup_nil⟩
theorem DIs.of {h₀ h : Heap} {L d : Addr} {o : Obj} {led : List (Addr × Obj)} {kvs : List (K × Value)} (N : News h₀ L h led) (hm : (d, o) ∈ led) (D : DIs knd o kvs) : h.DictOf knd d kvs := by
  obtain ⟨hc, es, ep, a, b, c, e⟩ := D
  exact ⟨o, es, ep, (N _ hm).1, hc, a, b, c, e⟩
section
variable {A : Around} {E : Value → Shared → Prop} {s : Shared} {h₀ : Heap} {L d : Addr} {m : Str → Option Value} {led : List (Addr × Obj)} {o : Obj} {kvs : List (K × Value)} {k : K} {key dflt v : Value}
theorem dget_sym {Q : Value → Shared → Prop} (N : News h₀ L s.heap led) (hm : (d, o) ∈ led) (D : DIs knd o kvs) (hk : knd.is k key = true) (lo : (d == sysModules) = false)
    (h : Q ((valueAt kvs k).getD dflt) { s with toks := s.toks + 1 }) : wpAny (model prog w) A (call (.builtin "dict.get") [.ref d, key, dflt]) Q E s :=
  call_meetsIn PySem.F.slot_dict_get (D.of N hm).typeIs PySem.F.entry_dict_get (PySem.F.args_dict_get_3 _ _ _) (meets_dict_get_default knd d hk lo dflt) ⟨_, (D.of N hm).mapOf, h⟩
theorem din_sym {Q : Value → Shared → Prop} (N : News h₀ L s.heap led) (hm : (d, o) ∈ led) (D : DIs knd o kvs) (hk : knd.is k key = true) (lo : (d == sysModules) = false)
    (h : Q (.bool (valueAt kvs k).isSome) { s with toks := s.toks + 1 }) : wpAny (model prog w) A (compareOp .In key (.ref d)) Q E s := wpAny_in_of hk lo (D.of N hm).mapOf h
theorem dnotin_sym {Q : Value → Shared → Prop} (N : News h₀ L s.heap led) (hm : (d, o) ∈ led) (D : DIs knd o kvs) (hk : knd.is k key = true) (lo : (d == sysModules) = false)
    (h : Q (.bool (!(valueAt kvs k).isSome)) { s with toks := s.toks + 1 }) : wpAny (model prog w) A (compareOp .NotIn key (.ref d)) Q E s := wpAny_notIn_of hk lo (D.of N hm).mapOf h
theorem ditem_sym {value slice : PySem.Expr} {Q : Value → Shared → Prop} (N : News h₀ L s.heap led) (hm : (d, o) ∈ led) (D : DIs knd o kvs) (hk : knd.is k key = true) (hv : valueAt kvs k = some v)
    (h : Q v { s with toks := s.toks + 1 }) (hs : subscripted slice false (.ref d) key = operate [.ref d, key] (getItem (.ref d) key)) : wpAny (model prog w) A (subscriptTail value slice (.ref d) key) Q E s :=
  tail_any (D.of N hm).typeIs slot_dict_getitem.lookup (wpAny_getItem_of hk (D.of N hm).mapOf hv h) hs
theorem dset_sym {led' : Obj → List (Addr × Obj)} {Q : Unit → Shared → Prop} (F : Fr h₀ L s.heap m) (N : News h₀ L s.heap led) (U : ∀ o', Upd d o o' led (led' o')) (D : DIs knd o kvs) (hk : knd.is k key = true) (hb : kvs.length < 1000000)
    (h : ∀ h' o', Fr h₀ L h' m → News h₀ L h' (led' o') → DIs knd o' (stored kvs k v) → Q () { s with heap := h', toks := s.toks + 1 }) : wpAny (model prog w) A (setItem (.ref d) key v) Q E s := by
  have hm := upd_mem (U default)
  refine wpAny_setItem_pairs hk (D.of N hm) (fun h' hd hs => ?_) (by rw [sizeLine_eq]; omega)
  obtain ⟨o', es, ep, ho', hc, a, b, c, e⟩ := hd
  obtain ⟨pre, post, e1, e2, x, y⟩ := (U o').split
  have N2 := N
  rw [e1] at N2
  have z := N2 (d, o) (List.mem_append.mpr (.inr (.head _)))
  refine h h' o' (F.change hs z.2.1 z.2.2) ?_ ⟨hc, es, ep, a, b, c, e⟩
  rw [e2]
  exact news_set N2 x y hs ho'
theorem dget_some {Q : Value → Shared → Prop} (N : News h₀ L s.heap led) (hm : (d, o) ∈ led) (D : DIs knd o kvs) (hk : knd.is k key = true) (lo : (d == sysModules) = false) (hv : valueAt kvs k = some v)
    (h : Q v { s with toks := s.toks + 1 }) : wpAny (model prog w) A (call (.builtin "dict.get") [.ref d, key, dflt]) Q E s := dget_sym N hm D hk lo (by rw [hv]; exact h)
theorem dget_none {Q : Value → Shared → Prop} (N : News h₀ L s.heap led) (hm : (d, o) ∈ led) (D : DIs knd o kvs) (hk : knd.is k key = true) (lo : (d == sysModules) = false) (hv : valueAt kvs k = none)
    (h : Q dflt { s with toks := s.toks + 1 }) : wpAny (model prog w) A (call (.builtin "dict.get") [.ref d, key, dflt]) Q E s := dget_sym N hm D hk lo (by rw [hv]; exact h)
theorem dlen_sym {j : Nat} {Q : Value → Shared → Prop} (N : News h₀ L s.heap led) (hm : (d, o) ∈ led) (D : DIs knd o kvs) (lo : (d == sysModules) = false) (hj : kvs.length = j) (hb : j < 1000000)
    (h : Q (.int j (s.toks + 1)) { s with toks := s.toks + 1 + 1 }) : wpAny (model prog w) A (call (.builtin "len") [.ref d]) Q E s := by
  subst hj
  exact call_len_dict lo (D.of N hm) (by omega) h
end
end
section
variable {prog : Program} {w : World}
noncomputable def DIsH (prog : Program) (w : World) (o : Obj) (xs : List (List Int × Addr × Value)) : Prop := o.ExactDict ∧ ∃ es ep, o.data = .dict es ep ∧ es.toList = xs.map (entryOfKey (tupleKind (intKind prog w))) ∧ (xs.map (·.1)).Nodup
noncomputable def KeysIn (led : List (Addr × Obj)) (xs : List (List Int × Addr × Value)) : Prop := ∀ x ∈ xs, ∃ i j t u, x.1 = [i, j] ∧ (x.2.1, tup [.int i t, .int j u]) ∈ led
theorem KeysIn.mono {led led' : List (Addr × Obj)} {xs : List (List Int × Addr × Value)} (h : KeysIn led xs) (hs : ∀ q ∈ led, q ∈ led') : KeysIn led' xs := fun x hx => (h x hx).imp fun _ h => h.imp fun _ h => h.imp fun _ h => h.imp fun _ h => ⟨h.1, hs _ h.2⟩
theorem tupKey_is {h₀ h : Heap} {L a : Addr} {led : List (Addr × Obj)} {i j : Int} {t u : Nat} (N : News h₀ L h led) (hm : (a, tup [.int i t, .int j u]) ∈ led) : (tupleKind (intKind prog w)).is h [i, j] a :=
  ⟨_, _, 0, (N _ hm).1, rfl, rfl, .cons (by simp [intKind, Value.isInt]) (.cons (by simp [intKind, Value.isInt]) .nil)⟩
theorem DIsH.nil : DIsH prog w (dictOf [] 0) [] := ⟨⟨rfl, rfl, rfl⟩, #[], 0, rfl, rfl, List.nodup_nil⟩
theorem DIsH.of {h₀ h : Heap} {L d : Addr} {o : Obj} {led : List (Addr × Obj)} {xs : List (List Int × Addr × Value)} (N : News h₀ L h led) (hm : (d, o) ∈ led) (D : DIsH prog w o xs) (KI : KeysIn led xs) : h.DictOfH (tupleKind (intKind prog w)) d xs := by
  obtain ⟨hc, es, ep, a, b, c⟩ := D
  refine ⟨o, es, ep, (N _ hm).1, hc, a, b, fun x hx => ?_, c⟩
  obtain ⟨i, j, t, u, e, hm'⟩ := KI x hx
  rw [e]
  exact tupKey_is N hm'
section
variable {A : Around} {E : Value → Shared → Prop} {s : Shared} {h₀ : Heap} {L d a : Addr} {m : Str → Option Value} {led : List (Addr × Obj)} {o : Obj} {xs : List (List Int × Addr × Value)} {dflt v : Value} {i j : Int} {t u : Nat}
theorem dgetH_some {p : Addr × Value} {Q : Value → Shared → Prop} (N : News h₀ L s.heap led) (hm : (d, o) ∈ led) (D : DIsH prog w o xs) (KI : KeysIn led xs) (ha : (a, tup [.int i t, .int j u]) ∈ led) (lo : (d == sysModules) = false) (hu : A.units + 5 < cLine) (hv : atKey xs [i, j] = some p)
    (h : ∀ tk, Q p.2 { s with toks := tk }) : wpAny (model prog w) A (call (.builtin "dict.get") [.ref d, .ref a, dflt]) Q E s :=
  call_meetsIn PySem.F.slot_dict_get (D.of N hm KI).typeIs PySem.F.entry_dict_get (PySem.F.args_dict_get_3 _ _ _) (meetsH_dict_get_default _ d a lo dflt) ⟨tupleKind_room_in1 (by omega), [i, j], xs, tupKey_is N ha, D.of N hm KI, by rw [hv]; exact h _⟩
theorem dgetH_none {Q : Value → Shared → Prop} (N : News h₀ L s.heap led) (hm : (d, o) ∈ led) (D : DIsH prog w o xs) (KI : KeysIn led xs) (ha : (a, tup [.int i t, .int j u]) ∈ led) (lo : (d == sysModules) = false) (hu : A.units + 5 < cLine) (hv : atKey xs [i, j] = none)
    (h : ∀ tk, Q dflt { s with toks := tk }) : wpAny (model prog w) A (call (.builtin "dict.get") [.ref d, .ref a, dflt]) Q E s :=
  call_meetsIn PySem.F.slot_dict_get (D.of N hm KI).typeIs PySem.F.entry_dict_get (PySem.F.args_dict_get_3 _ _ _) (meetsH_dict_get_default _ d a lo dflt) ⟨tupleKind_room_in1 (by omega), [i, j], xs, tupKey_is N ha, D.of N hm KI, by rw [hv]; exact h _⟩
theorem dsetH_sym {led' : Obj → List (Addr × Obj)} {Q : Unit → Shared → Prop} (F : Fr h₀ L s.heap m) (N : News h₀ L s.heap led) (U : ∀ o', Upd d o o' led (led' o')) (D : DIsH prog w o xs) (KI : KeysIn led xs) (ha : (a, tup [.int i t, .int j u]) ∈ led) (hu : A.units + 5 < cLine) (hb : xs.length < 1000000)
    (h : ∀ h' o' tk, Fr h₀ L h' m → News h₀ L h' (led' o') → DIsH prog w o' (storedH xs [i, j] a v) → Q () { s with heap := h', toks := tk }) : wpAny (model prog w) A (setItem (.ref d) (.ref a) v) Q E s := by
  have hm := upd_mem (U default)
  refine wpAny_setItem_heap (knd := tupleKind (intKind prog w)) (tupleKind_room_in1 (by omega)) (tupKey_is N ha) (D.of N hm KI) (fun h' hd hs => ?_) (by rw [sizeLine_eq]; omega)
  obtain ⟨o', es, ep, ho', hc, a', b, _, c⟩ := hd
  obtain ⟨pre, post, e1, e2, x, y⟩ := (U o').split
  have N2 := N
  rw [e1] at N2
  have z := N2 (d, o) (List.mem_append.mpr (.inr (.head _)))
  refine h h' o' _ (F.change hs z.2.1 z.2.2) ?_ ⟨hc, es, ep, a', b, c⟩
  rw [e2]
  exact news_set N2 x y hs ho'
end
end
section
noncomputable def AtomsRel (prog : Program) (w : World) (ts : List Str) (o : Obj) (tv : List Value) : Prop := ∃ kvs, DIs (strKind prog w) o kvs ∧ kvs.length = ts.length ∧ tv.length = ts.length ∧
  (∀ x ∈ ts, ∃ t, valueAt kvs x = some (.int (ts.idxOf x) t)) ∧ ∀ x, x ∉ ts → valueAt kvs x = none
noncomputable def FunRel (prog : Program) (w : World) (led : List (Addr × Obj)) (fl : List (Int × Int)) (o : Obj) (fv : List Value) : Prop := ∃ xs, DIsH prog w o xs ∧ KeysIn led xs ∧ xs.length = fl.length ∧ fv.length = fl.length ∧
  (∀ p ∈ fl, ∃ a t, atKey xs [p.1, p.2] = some (a, .int (fl.idxOf p) t)) ∧ (∀ p, p ∉ fl → atKey xs [p.1, p.2] = none) ∧ ∀ (i : Nat) p, fl[i]? = some p → ∃ ft t u, fv[i]? = some (.ref ft) ∧ (ft, tup [.int p.1 t, .int p.2 u]) ∈ led
noncomputable def atomT (ts : List Str) (x : Str) : List Str := if x ∈ ts then ts else ts ++ [x]
noncomputable def funT (fl : List (Int × Int)) (p : Int × Int) : List (Int × Int) := if p ∈ fl then fl else fl ++ [p]
theorem valueAt_snoc {K : Type} [DecidableEq K] {kvs : List (K × Value)} {k : K} {v : Value} (h : valueAt kvs k = none) (x : K) : valueAt (stored kvs k v) x = if x = k then some v else valueAt kvs x := by
  have hn : kvs.any (fun kv => decide (kv.1 = k)) = false := by
    unfold valueAt at h
    rw [Option.map_eq_none_iff, List.find?_eq_none] at h
    rw [List.any_eq_false]
    intro y hy
    simpa using h y hy
  unfold stored
  rw [hn]
  simp only [Bool.false_eq_true, if_false]
  unfold valueAt
  rw [List.find?_append]
  by_cases e : x = k
  · subst e
    unfold valueAt at h
    rw [Option.map_eq_none_iff] at h
    simp [h]
  · rw [if_neg e]
    cases hf : kvs.find? (fun kv => decide (kv.1 = x)) with
    | some y => simp
    | none => simp [Ne.symm e]
theorem stored_length {K : Type} [DecidableEq K] {kvs : List (K × Value)} {k : K} {v : Value} (h : valueAt kvs k = none) : (stored kvs k v).length = kvs.length + 1 := by
  have hn : kvs.any (fun kv => decide (kv.1 = k)) = false := by
    unfold valueAt at h
    rw [Option.map_eq_none_iff, List.find?_eq_none] at h
    rw [List.any_eq_false]
    intro y hy
    simpa using h y hy
  unfold stored
  rw [hn]
  simp
theorem idxOf_snoc_old {α : Type} [BEq α] [LawfulBEq α] {l : List α} {x y : α} (h : x ∈ l) : (l ++ [y]).idxOf x = l.idxOf x := by
  rw [List.idxOf_append, if_pos h]
theorem idxOf_snoc_new {α : Type} [BEq α] [LawfulBEq α] {l : List α} {x : α} (h : x ∉ l) : (l ++ [x]).idxOf x = l.length := by
  rw [List.idxOf_append, if_neg h]; simp
theorem AtomsRel.add {prog : Program} {w : World} {ts : List Str} {o' : Obj} {tv : List Value} {kvs : List (Str × Value)} {x : Str} {t : Nat} {y : Value} (hk : kvs.length = ts.length) (ht : tv.length = ts.length)
    (h1 : ∀ x ∈ ts, ∃ t, valueAt kvs x = some (.int (ts.idxOf x) t)) (h2 : ∀ x, x ∉ ts → valueAt kvs x = none) (hx : x ∉ ts) (D : DIs (strKind prog w) o' (stored kvs x (.int tv.length t))) : AtomsRel prog w (atomT ts x) o' (tv ++ [y]) := by
  unfold atomT
  rw [if_neg hx]
  refine ⟨_, D, by rw [stored_length (h2 x hx)]; simp [hk], by simp [ht], fun z hz => ?_, fun z hz => ?_⟩
  · rw [valueAt_snoc (h2 x hx)]
    by_cases e : z = x
    · subst e
      rw [if_pos rfl, idxOf_snoc_new hx, ht]
      exact ⟨t, rfl⟩
    · rw [if_neg e]
      have hz' : z ∈ ts := by simpa [e] using hz
      rw [idxOf_snoc_old hz']
      exact h1 z hz'
  · have hz' : z ∉ ts ∧ z ≠ x := by simpa using hz
    rw [valueAt_snoc (h2 x hx), if_neg hz'.2]
    exact h2 z hz'.1
theorem atKey_snoc {xs : List (List Int × Addr × Value)} {k : List Int} {a : Addr} {v : Value} (h : atKey xs k = none) (x : List Int) : atKey (storedH xs k a v) x = if x = k then some (a, v) else atKey xs x := by
  rw [storedH_new h]
  unfold atKey
  rw [List.find?_append]
  by_cases e : x = k
  · subst e
    unfold atKey at h
    rw [Option.map_eq_none_iff] at h
    simp [h]
  · rw [if_neg e]
    cases hf : xs.find? (fun y => decide (y.1 = x)) with
    | some y => simp
    | none => simp [Ne.symm e]
theorem FunRel.mono {prog : Program} {w : World} {led led' : List (Addr × Obj)} {fl : List (Int × Int)} {o : Obj} {fv : List Value} (h : FunRel prog w led fl o fv) (hs : ∀ i j : Int, ∀ t u : Nat, ∀ a, (a, tup [.int i t, .int j u]) ∈ led → (a, tup [.int i t, .int j u]) ∈ led') : FunRel prog w led' fl o fv := by
  obtain ⟨xs, D, KI, a, b, c, d, e⟩ := h
  refine ⟨xs, D, fun x hx => ?_, a, b, c, d, fun i p hp => ?_⟩
  · obtain ⟨i, j, t, u, e1, e2⟩ := KI x hx
    exact ⟨i, j, t, u, e1, hs _ _ _ _ _ e2⟩
  · obtain ⟨ft, t, u, e1, e2⟩ := e i p hp
    exact ⟨ft, t, u, e1, hs _ _ _ _ _ e2⟩
theorem FunRel.add {prog : Program} {w : World} {led : List (Addr × Obj)} {fl : List (Int × Int)} {o' : Obj} {fv : List Value} {xs : List (List Int × Addr × Value)} {i j : Int} {t u n : Nat} {a : Addr} (KI : KeysIn led xs) (hk : xs.length = fl.length) (hf : fv.length = fl.length)
    (h1 : ∀ p ∈ fl, ∃ a t, atKey xs [p.1, p.2] = some (a, .int (fl.idxOf p) t)) (h2 : ∀ p, p ∉ fl → atKey xs [p.1, p.2] = none) (h3 : ∀ (i : Nat) p, fl[i]? = some p → ∃ ft t u, fv[i]? = some (.ref ft) ∧ (ft, tup [.int p.1 t, .int p.2 u]) ∈ led)
    (hx : (i, j) ∉ fl) (ha : (a, tup [.int i t, .int j u]) ∈ led) (D : DIsH prog w o' (storedH xs [i, j] a (.int fv.length n))) : FunRel prog w led (funT fl (i, j)) o' (fv ++ [.ref a]) := by
  unfold funT
  rw [if_neg hx]
  have hn := h2 _ hx
  refine ⟨_, D, ?_, by rw [storedH_new hn]; simp [hk], by simp [hf], fun z hz => ?_, fun z hz => ?_, fun k p hp => ?_⟩
  · intro x hx'
    rw [storedH_new hn] at hx'
    rcases List.mem_append.mp hx' with h | h
    · exact KI x h
    · rw [List.mem_singleton.mp h]; exact ⟨i, j, t, u, rfl, ha⟩
  · rw [atKey_snoc hn]
    by_cases e : z = (i, j)
    · subst e
      rw [if_pos rfl, idxOf_snoc_new hx, hf]
      exact ⟨a, n, rfl⟩
    · have e' : ¬ [z.1, z.2] = [i, j] := fun h => e (by
        simp only [List.cons.injEq, and_true] at h
        exact Prod.ext h.1 h.2)
      rw [if_neg e']
      have hz' : z ∈ fl := by simpa [e] using hz
      rw [idxOf_snoc_old hz']
      exact h1 z hz'
  · have hz' : z ∉ fl ∧ z ≠ (i, j) := by simpa using hz
    have e' : ¬ [z.1, z.2] = [i, j] := fun h => hz'.2 (by
        simp only [List.cons.injEq, and_true] at h
        exact Prod.ext h.1 h.2)
    rw [atKey_snoc hn, if_neg e']
    exact h2 z hz'.1
  · by_cases e : k < fl.length
    · rw [List.getElem?_append_left e] at hp
      obtain ⟨ft, t', u', e1, e2⟩ := h3 k p hp
      exact ⟨ft, t', u', by rw [List.getElem?_append_left (by omega)]; exact e1, e2⟩
    · rw [List.getElem?_append_right (by omega)] at hp
      have hz : k - fl.length = 0 := by
        cases hq : k - fl.length with
        | zero => rfl
        | succ q => rw [hq] at hp; simp at hp
      rw [hz] at hp
      have hp' : (i, j) = p := by simpa using hp
      subst hp'
      exact ⟨a, t, u, by rw [List.getElem?_append_right (by omega), hf, hz]; rfl, ha⟩
theorem atoms_nil {prog : Program} {w : World} {o : Obj} (h : Obj.IsDictOf (strKind prog w) o []) : AtomsRel prog w [] o [] := by
  obtain ⟨es, ep, hc, a, b, c, d⟩ := h
  exact ⟨[], ⟨hc, es, ep, a, b, c, d⟩, rfl, rfl, fun _ h => (nomatch h), fun _ _ => rfl⟩
theorem fun_nil {prog : Program} {w : World} {o : Obj} (h : Obj.IsDictOf (intKind prog w) o []) : FunRel prog w [] [] o [] := by
  obtain ⟨es, ep, hc, a, b, c, d⟩ := h
  refine ⟨[], ⟨hc, es, ep, a, ?_, List.nodup_nil⟩, fun _ h => (nomatch h), rfl, rfl, fun _ h => (nomatch h), fun _ _ => rfl, fun i p hp => by simp at hp⟩
  cases hl : es.toList with
  | nil => rfl
  | cons e r => rw [hl] at c; cases c
end
end Mine
namespace Mine
section
variable {prog : Program} {w : World} {p : Program} {loose : List Str} {mean : ExcName → Option Value} {mg mb : Str → Option Value}
  {dp un : Nat} {gd : Option (List Code)} {cn : Str} {cs : Scope} {a : Addr} {ccd : Value} {cl : List (Str × Addr)} {outer : List Env} {A₀ : Around} {base h₀ : Heap} {L : Addr} {m : Str → Option Value} {news : List (Addr × Obj)} {s : Shared}
  {Q E : Value → Shared → Prop}
theorem deref_plain (B : Below A₀ base outer h₀) (F : Fr h₀ L s.heap m) (X : (Mine.kf w.params).In h₀) (N : News h₀ L s.heap news) (T : Top p loose mean mg mb h₀) (hk : cs.kind = .function)
  (hd : dp + 3 < recursionLimit) 
  {x c : Addr} {i k : Int} {t1 t2 : Nat} (h3 : (c, tup [.int i t1, .int k t2]) ∈ news) (hi : i = 2 ∨ i = 4 ∨ i = 5)
  (hret : ∀ h' tk', Fr h₀ L h' m → News h₀ L h' news → Q (.ref c) { s with heap := h', toks := tk' }) :
  wpAny (model prog w) (ktrTop dp un gd cn cs L a ccd cl outer) (call (.ref 230) [.ref x, .ref c]) Q E s := by
  rcases hi with hi | hi | hi <;> (subst hi; refine wpAny_call ?_; k_dflt ktr_enter; k_steps; exact hret _ _ (by assumption) (by assumption))
theorem deref_var (B : Below A₀ base outer h₀) (F : Fr h₀ L s.heap m) (X : (Mine.kf w.params).In h₀) (N : News h₀ L s.heap news) (T : Top p loose mean mg mb h₀) (hk : cs.kind = .function)
  (hd : dp + 3 < recursionLimit) (hu : un + 50 < cLine)
  {x dx c sy hp sk tr : Addr} {R : Int} {q1 q2 q3 q4 q5 q6 q7 u1 u2 u3 : Nat} {k : Int} {t1 t2 nn n : Nat} {cells : List Value} (h1 : (x, instObj 381 dx) ∈ news) (h2 : (dx, dictOf (storeD w.params sy hp sk tr R q1 q2 q3 q4 q5 q6 q7 u1 u2 u3) n) ∈ news)
  (h3 : (c, tup [.int 0 t1, .int k t2]) ∈ news) (h4 : (hp, listOf cells.toArray nn) ∈ news) (hk0 : 0 ≤ k) (hk1 : k < 1000000) (hk2 : cells[k.toNat]? = some (.ref c))
  (hret : ∀ h' tk', Fr h₀ L h' m → News h₀ L h' news → Q (.ref c) { s with heap := h', toks := tk' }) :
  wpAny (model prog w) (ktrTop dp un gd cn cs L a ccd cl outer) (call (.ref 230) [.ref x, .ref c]) Q E s := by
  refine wpAny_call ?_
  k_dflt ktr_enter
  k_steps
  exact hret _ _ (by assumption) (by assumption)
inductive CellOk (n₁ : List (Addr × Obj)) (cells : List Value) : Addr → Prop
  | plain {c : Addr} {i k : Int} {t1 t2 : Nat} : (i = 2 ∨ i = 4 ∨ i = 5) → (c, tup [.int i t1, .int k t2]) ∈ n₁ → CellOk n₁ cells c
  | var {c : Addr} {k : Int} {t1 t2 : Nat} : (c, tup [.int 0 t1, .int k t2]) ∈ n₁ → 0 ≤ k → k < 1000000 → cells[k.toNat]? = some (.ref c) → CellOk n₁ cells c
theorem deref_any (B : Below A₀ base outer h₀) (F : Fr h₀ L s.heap m) (X : (Mine.kf w.params).In h₀) (N : News h₀ L s.heap news) (T : Top p loose mean mg mb h₀) (hk : cs.kind = .function)
  (hd : dp + 3 < recursionLimit) (hu : un + 50 < cLine)
  {x dx c sy hp sk tr : Addr} {R : Int} {q1 q2 q3 q4 q5 q6 q7 u1 u2 u3 : Nat} {nn n : Nat} {cells : List Value} (h1 : (x, instObj 381 dx) ∈ news) (h2 : (dx, dictOf (storeD w.params sy hp sk tr R q1 q2 q3 q4 q5 q6 q7 u1 u2 u3) n) ∈ news)
  (h4 : (hp, listOf cells.toArray nn) ∈ news) {n₁ : List (Addr × Obj)} (ok : CellOk n₁ cells c) (hsub : ∀ q ∈ n₁, q ∈ news)
  (hret : ∀ h' tk', Fr h₀ L h' m → News h₀ L h' news → Q (.ref c) { s with heap := h', toks := tk' }) :
  wpAny (model prog w) (ktrTop dp un gd cn cs L a ccd cl outer) (call (.ref 230) [.ref x, .ref c]) Q E s := by
  cases ok with
  | plain hi hm => exact deref_plain B F X N T hk hd (hsub _ hm) hi hret
  | var hm h0 h1' h3 => exact deref_var B F X N T hk hd hu h1 h2 (hsub _ hm) h4 h0 h1' h3 hret
theorem CellOk.off {h₀ h : Heap} {L hp c : Addr} {nn : Nat} {cells : List Value} {n₁ led : List (Addr × Obj)} (N : News h₀ L h led) (hm : (hp, listOf cells.toArray nn) ∈ led) (ok : CellOk n₁ cells c) (hs : ∀ q ∈ n₁, q ∈ led) : CellOk (offOf hp led) cells c := by
  cases ok with
  | plain hi ht => exact .plain hi (offOf_in (hs _ ht) (ne_of_cls N (hs _ ht) hm (by intro e; exact absurd (Value.type.inj e) (by decide))))
  | var ht h0 h1 h2 => exact .var (offOf_in (hs _ ht) (ne_of_cls N (hs _ ht) hm (by intro e; exact absurd (Value.type.inj e) (by decide)))) h0 h1 h2
end
end Mine
example : True := by
  k_with "call ref" => (k_here; (with_reducible show wpAny _ _ (call (Value.ref 230) _ _) _ _ _); k_dflt (refine' Mine.deref_any ?B ?F ?X ?N ?T ?hk ?hd ?hu ?h1 ?h2 ?h4 ?ok ?hsub ?_; (case B => k_asm); (case F => k_asm); (case X => k_asm); (case N => k_asm); (case T => k_asm); (case hk => first | exact rfl | assumption); (case hd => ktr_room); (case hu => ktr_units); (case h1 => k_mem); (case h2 => k_mem); (case h4 => k_mem); (case ok => assumption); (case hsub => ktd_sub); k_whole); intro _ _ _ _; (try k_sweep))
  trivial
namespace Mine
section
variable {prog : Program} {w : World} {p : Program} {loose : List Str} {mean : ExcName → Option Value} {mg mb : Str → Option Value}
  {dp un : Nat} {gd : Option (List Code)} {cn : Str} {cs : Scope} {a : Addr} {ccd : Value} {cl : List (Str × Addr)} {outer : List Env} {A₀ : Around} {base h₀ : Heap} {L : Addr} {m : Str → Option Value} {news : List (Addr × Obj)} {s : Shared}
  {Q E : Value → Shared → Prop}
theorem globalise_any (B : Below A₀ base outer h₀) (F : Fr h₀ L s.heap m) (X : (Mine.kf w.params).In h₀) (N : News h₀ L s.heap news) (T : Top p loose mean mg mb h₀) (hk : cs.kind = .function)
  (hd : dp + 5 < recursionLimit) (hu : un + 60 < cLine)
  {x dx c sy hp sk tr : Addr} {R : Int} {q1 q2 q3 q4 q5 q6 q7 u1 u2 u3 : Nat} {nn n : Nat} {cells : List Value} (h1 : (x, instObj 381 dx) ∈ news) (h2 : (dx, dictOf (storeD w.params sy hp sk tr R q1 q2 q3 q4 q5 q6 q7 u1 u2 u3) n) ∈ news)
  (h4 : (hp, listOf cells.toArray nn) ∈ news) {n₁ : List (Addr × Obj)} (ok : CellOk n₁ cells c) (hsub : ∀ q ∈ n₁, q ∈ news)
  (hret : ∀ h' tk', Fr h₀ L h' m → News h₀ L h' news → Q (.ref c) { s with heap := h', toks := tk' }) :
  wpAny (model prog w) (ktrTop dp un gd cn cs L a ccd cl outer) (call (.ref 258) [.ref x, .ref c]) Q E s := by
  have ok2 : CellOk news cells c := by
    cases ok with
    | plain hi hm => exact .plain hi (hsub _ hm)
    | var hm h0 h1 h2 => exact .var (hsub _ hm) h0 h1 h2
  have hcell : ∃ i k t1 t2, (c, tup [.int i t1, .int k t2]) ∈ news ∧ i ≠ 1 := by
    cases ok2 with
    | plain hi hm => exact ⟨_, _, _, _, hm, by omega⟩
    | var hm h0 h1 h2 => exact ⟨_, _, _, _, hm, by omega⟩
  obtain ⟨i, k, t1, t2, hc, hi⟩ := hcell
  clear ok hsub
  refine wpAny_call ?_
  k_dflt ktr_enter
  k_steps
  exact hret _ _ (by assumption) (by assumption)
end
end Mine
example : True := by
  k_with "call ref" => (k_here; (with_reducible show wpAny _ _ (call (Value.ref 258) _ _) _ _ _); k_dflt (refine' Mine.globalise_any ?B ?F ?X ?N ?T ?hk ?hd ?hu ?h1 ?h2 ?h4 ?ok ?hsub ?_; (case B => k_asm); (case F => k_asm); (case X => k_asm); (case N => k_asm); (case T => k_asm); (case hk => first | exact rfl | assumption); (case hd => ktr_room); (case hu => ktr_units); (case h1 => k_mem); (case h2 => k_mem); (case h4 => k_mem); (case ok => assumption); (case hsub => ktd_sub); k_whole); intro _ _ _ _; (try k_sweep))
  trivial
namespace Mine
section
variable {prog : Program} {w : World} {p : Program} {loose : List Str} {mean : ExcName → Option Value} {mg mb : Str → Option Value}
  {dp un : Nat} {gd : Option (List Code)} {cn : Str} {cs : Scope} {a : Addr} {ccd : Value} {cl : List (Str × Addr)} {outer : List Env} {A₀ : Around} {base h₀ : Heap} {L : Addr} {m : Str → Option Value} {led : List (Addr × Obj)} {s : Shared}
  {Q E : Value → Shared → Prop}
theorem reserve3 (B : Below A₀ base outer h₀) (F : Fr h₀ L s.heap m) (X : (Mine.kf w.params).In h₀) (N : News h₀ L s.heap led) (T : Top p loose mean mg mb h₀) (hk : cs.kind = .function)
  (hd : dp + 3 < recursionLimit) (hu : un + 50 < cLine) {rest : List (Addr × Obj)} {u : Nat}
  {x dx sy hp sk tr : Addr} {R : Int} {q1 q2 q3 q4 q5 q6 q7 u1 u2 u3 : Nat} {nn n : Nat} {cells : List Value} (hoff : OwnOff rest [hp]) (h1 : (x, instObj 381 dx) ∈ rest) (h2 : (dx, dictOf (storeD w.params sy hp sk tr R q1 q2 q3 q4 q5 q6 q7 u1 u2 u3) n) ∈ rest)
  (hsub : ∀ q ∈ (hp, listOf cells.toArray nn) :: rest, q ∈ led) (hroom : cells.length + 3 ≤ R) (hR : R ≤ 1000)
  (hret : ∀ h' tk' v1 v2 v3 nn' t, Fr h₀ L h' m → News h₀ L h' ((hp, listOf (cells ++ [v1] ++ [v2] ++ [v3]).toArray nn') :: rest) → Q (.int cells.length t) { s with heap := h', toks := tk' }) :
  wpAny (model prog w) (ktrTop dp un gd cn cs L a ccd cl outer) (call (.ref 216) [.ref x, .int 3 u]) Q E s := by
  have N2 : News h₀ L s.heap ((hp, listOf cells.toArray nn) :: rest) := fun q hq => N q (hsub q hq)
  clear N hsub
  refine wpAny_call ?_
  k_dflt ktr_enter
  k_steps
  exact hret _ _ _ _ _ _ _ (by assumption) (by assumption)
theorem arity2 (B : Below A₀ base outer h₀) (F : Fr h₀ L s.heap m) (X : (Mine.kf w.params).In h₀) (N : News h₀ L s.heap led) (T : Top p loose mean mg mb h₀) (hk : cs.kind = .function)
  (hd : dp + 3 < recursionLimit) {x dx tx an fs fn ft : Addr} {q1 q2 q3 q4 n nn u : Nat} {f fa : Int} {ta tb : Nat} {fvals : List Value}
  (h1 : (x, instObj 154 dx) ∈ led) (h2 : (dx, dictOf (symD w.params tx an fs fn q1 q2 q3 q4) n) ∈ led) (h3 : (fs, listOf fvals.toArray nn) ∈ led) (h4 : fvals[f.toNat]? = some (.ref ft)) (h0 : 0 ≤ f) (h0' : f < 1000000)
  (h5 : (ft, tup [.int fa ta, .int 2 tb]) ∈ led)
  (hret : ∀ h' tk', Fr h₀ L h' m → News h₀ L h' led → Q (.int 2 tb) { s with heap := h', toks := tk' }) :
  wpAny (model prog w) (ktrTop dp un gd cn cs L a ccd cl outer) (call (.ref 123) [.ref x, .int f u]) Q E s := by
  refine wpAny_call ?_
  k_dflt ktr_enter
  k_steps
  exact hret _ _ (by assumption) (by assumption)
end
end Mine
example : True := by
  k_with "call ref" => (k_here; (with_reducible show wpAny _ _ (call (Value.ref 123) _ _) _ _ _); k_dflt (refine' Mine.arity2 ?B ?F ?X ?N ?T ?hk ?hd ?h1 ?h2 ?h3 ?h4 ?h0 ?h0' ?h5 ?_; (case B => k_asm); (case F => k_asm); (case X => k_asm); (case N => k_asm); (case T => k_asm); (case hk => first | exact rfl | assumption); (case hd => ktr_room); (case h1 => k_mem); (case h2 => k_mem); (case h3 => k_mem); (case h4 => assumption); (case h0 => first | assumption | omega); (case h0' => first | assumption | omega); (case h5 => k_mem); k_whole); intro _ _ _ _; (try k_sweep))
  k_with "call ref" => (k_here; (with_reducible show wpAny _ _ (call (Value.ref 216) _ _) _ _ _); k_dflt (refine' Mine.reserve3 ?B ?F ?X ?N ?T ?hk ?hd ?hu ?hoff ?h1 ?h2 ?hsub ?hroom ?hR ?_; (case B => k_asm); (case F => k_asm); (case X => k_asm); (case N => k_asm); (case T => k_asm); (case hk => first | exact rfl | assumption); (case hd => ktr_room); (case hu => ktr_units); (case hoff => assumption); (case h1 => k_mem); (case h2 => k_mem); (case hsub => (refine List.forall_mem_cons.mpr ⟨by k_mem, ?_⟩; ktd_sub)); (case hroom => assumption); (case hR => assumption); k_whole); intro _ _ _ _ _ _ _ _ _; (try k_sweep))
  trivial
namespace Mine
section
variable {prog : Program} {w : World} {p : Program} {loose : List Str} {mean : ExcName → Option Value} {mg mb : Str → Option Value}
  {dp un : Nat} {gd : Option (List Code)} {cn : Str} {cs : Scope} {a : Addr} {ccd : Value} {cl : List (Str × Addr)} {outer : List Env} {A₀ : Around} {base h₀ : Heap} {L : Addr} {m : Str → Option Value} {led : List (Addr × Obj)} {s : Shared}
  {Q E : Value → Shared → Prop}
theorem new_block2 (B : Below A₀ base outer h₀) (F : Fr h₀ L s.heap m) (X : (Mine.kf w.params).In h₀) (N : News h₀ L s.heap led) (T : Top p loose mean mg mb h₀) (hk : cs.kind = .function)
  (hd : dp + 5 < recursionLimit) (hu : un + 60 < cLine) {rest : List (Addr × Obj)} {u : Nat}
  {x dx sy hp sk tr : Addr} {R : Int} {q1 q2 q3 q4 q5 q6 q7 u1 u2 u3 : Nat} {nn n : Nat} {cells : List Value} (hoff : OwnOff rest [hp]) (h1 : (x, instObj 381 dx) ∈ rest) (h2 : (dx, dictOf (storeD w.params sy hp sk tr R q1 q2 q3 q4 q5 q6 q7 u1 u2 u3) n) ∈ rest)
  {sd tx an fs fn ft : Addr} {p1 p2 p3 p4 n2 nn2 : Nat} {f fa : Int} {ta tb : Nat} {fvals : List Value}
  (h3 : (sy, instObj 154 sd) ∈ rest) (h4 : (sd, dictOf (symD w.params tx an fs fn p1 p2 p3 p4) n2) ∈ rest) (h5 : (fs, listOf fvals.toArray nn2) ∈ rest) (h6 : fvals[f.toNat]? = some (.ref ft)) (h0 : 0 < f) (h0' : f < 1000000)
  (h7 : (ft, tup [.int fa ta, .int 2 tb]) ∈ rest)
  (hsub : ∀ q ∈ (hp, listOf cells.toArray nn) :: rest, q ∈ led) (hroom : cells.length + 3 ≤ R) (hR : R ≤ 1000)
  (hret : ∀ h' tk' v1 v2 v3 fc cc t nn' g1 g2, Fr h₀ L h' m → News h₀ L h' ((cc, tup [.int 2 g1, .int cells.length t]) :: (fc, tup [.int 6 g2, .int f u]) :: (hp, listOf ((cells ++ [v1] ++ [v2] ++ [v3]).set (cells.length : Int).toNat (.ref fc)).toArray nn') :: rest) →
    (∀ q ∈ rest, q.1 < fc) → (∀ q ∈ rest, q.1 < cc) → hp < fc → hp < cc → Q (.ref cc) { s with heap := h', toks := tk' }) :
  wpAny (model prog w) (ktrTop dp un gd cn cs L a ccd cl outer) (call (.ref 321) [.ref x, .int f u]) Q E s := by
  have N2 : News h₀ L s.heap ((hp, listOf cells.toArray nn) :: rest) := fun q hq => N q (hsub q hq)
  have hb : cells.length < 998 := by omega
  clear N hsub
  refine wpAny_call ?_
  k_dflt ktr_enter
  k_steps
  exact hret _ _ _ _ _ _ _ _ _ _ _ (by assumption) (by assumption) (Mine.allLt_mem (by first | assumption | (refine' And.right ?kx; (case kx => assumption)))) (Mine.allLt_mem (by first | assumption | (refine' And.right (And.right ?kx); (case kx => assumption)))) (ltN (by k_extra "LTO")) (ltN (by k_extra "LTO"))
theorem new_block2' (B : Below A₀ base outer h₀) (F : Fr h₀ L s.heap m) (X : (Mine.kf w.params).In h₀) (N : News h₀ L s.heap led) (T : Top p loose mean mg mb h₀) (hk : cs.kind = .function)
  (hd : dp + 5 < recursionLimit) (hu : un + 60 < cLine) {led' : Obj → List (Addr × Obj)} {u : Nat}
  {x dx sy hp sk tr : Addr} {R : Int} {q1 q2 q3 q4 q5 q6 q7 u1 u2 u3 : Nat} {nn n : Nat} {cells : List Value} (h1 : (x, instObj 381 dx) ∈ led) (h2 : (dx, dictOf (storeD w.params sy hp sk tr R q1 q2 q3 q4 q5 q6 q7 u1 u2 u3) n) ∈ led)
  (U : ∀ o', Upd hp (listOf cells.toArray nn) o' led (led' o'))
  {sd tx an fs fn ft : Addr} {p1 p2 p3 p4 n2 nn2 : Nat} {f fa : Int} {ta tb : Nat} {fvals : List Value}
  (h3 : (sy, instObj 154 sd) ∈ led) (h4 : (sd, dictOf (symD w.params tx an fs fn p1 p2 p3 p4) n2) ∈ led) (h5 : (fs, listOf fvals.toArray nn2) ∈ led) (h5' : fs ≠ hp) (h6 : fvals[f.toNat]? = some (.ref ft)) (h0 : 0 < f) (h0' : f < 1000000)
  (h7 : (ft, tup [.int fa ta, .int 2 tb]) ∈ led) (hroom : cells.length + 3 ≤ R) (hR : R ≤ 1000)
  (hret : ∀ h' tk' v1 v2 v3 fc cc t nn' g1 g2, Fr h₀ L h' m → News h₀ L h' ((cc, tup [.int 2 g1, .int cells.length t]) :: (fc, tup [.int 6 g2, .int f u]) :: led' (listOf ((cells ++ [v1] ++ [v2] ++ [v3]).set (cells.length : Int).toNat (.ref fc)).toArray nn')) →
    (∀ q ∈ led, q.1 < fc) → (∀ q ∈ led, q.1 < cc) → Q (.ref cc) { s with heap := h', toks := tk' }) :
  wpAny (model prog w) (ktrTop dp un gd cn cs L a ccd cl outer) (call (.ref 321) [.ref x, .int f u]) Q E s := by
  have hm := upd_mem (U default)
  have e1 : ∀ s₁ s₂ : String, (s₁ == s₂) = false → Value.type s₁ ≠ Value.type s₂ := fun s₁ s₂ h e => by rw [Value.type.inj e] at h; simp at h
  have d1 : ∀ (C : Addr) (s : String), Value.ref C ≠ Value.type s := fun _ _ e => by cases e
  refine new_block2 B F X N T hk hd hu (offOf_off hp led) (offOf_in h1 (ne_of_cls N h1 hm (d1 _ _))) (offOf_in h2 (ne_of_cls N h2 hm (e1 _ _ (by decide)))) (offOf_in h3 (ne_of_cls N h3 hm (d1 _ _))) (offOf_in h4 (ne_of_cls N h4 hm (e1 _ _ (by decide))))
    (offOf_in h5 h5') h6 h0 h0' (offOf_in h7 (ne_of_cls N h7 hm (e1 _ _ (by decide)))) (upd_sub (U default)) hroom hR fun h' tk' v1 v2 v3 fc cc t nn' g1 g2 F' N' l1 l2 l3 l4 => hret h' tk' v1 v2 v3 fc cc t nn' g1 g2 F' (fun q hq => ?_) (off_lt l1 l3) (off_lt l2 l4)
  rcases List.mem_cons.mp hq with h | h
  · exact N' q (h ▸ .head _)
  · rcases List.mem_cons.mp h with h | h
    · exact N' q (h ▸ .tail _ (.head _))
    · exact N' q (.tail _ (.tail _ (upd_out (U _) q h)))
end
end Mine

example : True := by
  k_with "call ref" => (k_here; (with_reducible show wpAny _ _ (call (Value.ref 321) _ _) _ _ _); k_dflt (refine' Mine.new_block2' ?B ?F ?X ?N ?T ?hk ?hd ?hu ?h1 ?h2 ?U ?h3 ?h4 ?h5 ?h5' ?h6 ?h0 ?h0' ?h7 ?hroom ?hR ?_; (case B => k_asm); (case F => k_asm); (case X => k_asm); (case N => k_asm); (case T => k_asm); (case hk => first | exact rfl | assumption); (case hd => ktr_room); (case hu => ktr_units); (case h1 => k_mem); (case h2 => k_mem); (case U => (intro o'; k_upd)); (case h3 => k_mem); (case h4 => k_mem); (case h5 => k_mem); (case h5' => first | assumption | k_ne); (case h6 => assumption); (case h0 => assumption); (case h0' => assumption); (case h7 => k_mem); (case hroom => assumption); (case hR => assumption); k_whole); intro _ _ _ _ _ _ _ _ _ _ _ _ _ ze1 ze2; (try k_lt ze1); (try k_lt ze2); (try k_sweep))
  k_with "UnrEnd" => (k_dflt first | (refine' Mine.unr0 ?F ?N ?o (And.intro ?q ?_); (case F => assumption); (case N => assumption); (case q => k_mem); (case o => k_all)) | (refine' Mine.unr1 ?F ?N ?o (And.intro ?q ?_); (case F => assumption); (case N => assumption); (case q => k_mem); (case o => k_all)) | (refine' Mine.unr2 ?F ?N ?o (And.intro ?q ?_); (case F => assumption); (case N => assumption); (case q => k_mem); (case o => k_all)) | (refine' Mine.unr3 ?F ?N ?o (And.intro ?q ?_); (case F => assumption); (case N => assumption); (case q => k_mem); (case o => k_all)))
  trivial
namespace Mine
section
variable {prog : Program} {w : World} {p : Program} {loose : List Str} {mean : ExcName → Option Value} {mg mb : Str → Option Value}
  {dp un : Nat} {gd : Option (List Code)} {cn : Str} {cs : Scope} {a : Addr} {ccd : Value} {cl : List (Str × Addr)} {outer : List Env} {A₀ : Around} {base h₀ : Heap} {L : Addr} {m : Str → Option Value} {led : List (Addr × Obj)} {s : Shared}
  {Q E : Value → Shared → Prop}
theorem base2 (B : Below A₀ base outer h₀) (F : Fr h₀ L s.heap m) (X : (Mine.kf w.params).In h₀) (N : News h₀ L s.heap led) (T : Top p loose mean mg mb h₀) (hk : cs.kind = .function)
  (hd : dp + 3 < recursionLimit) {x c : Addr} {k : Int} {t1 t2 : Nat} (h3 : (c, tup [.int 2 t1, .int k t2]) ∈ led)
  (hret : ∀ h' tk' t, Fr h₀ L h' m → News h₀ L h' led → Q (.int (k + 1) t) { s with heap := h', toks := tk' }) :
  wpAny (model prog w) (ktrTop dp un gd cn cs L a ccd cl outer) (call (.ref 307) [.ref x, .ref c]) Q E s := by
  refine wpAny_call ?_
  k_dflt ktr_enter
  k_steps
  exact hret _ _ _ (by assumption) (by assumption)
end
end Mine
example : True := by
  k_with "call ref" => (k_here; (with_reducible show wpAny _ _ (call (Value.ref 307) _ _) _ _ _); k_dflt (refine' Mine.base2 ?B ?F ?X ?N ?T ?hk ?hd ?h3 ?_; (case B => k_asm); (case F => k_asm); (case X => k_asm); (case N => k_asm); (case T => k_asm); (case hk => first | exact rfl | assumption); (case hd => ktr_room); (case h3 => k_mem); k_whole); intro _ _ _ _ _; (try k_sweep))
  trivial
namespace Mine
section
variable {prog : Program} {w : World} {p : Program} {loose : List Str} {mean : ExcName → Option Value} {mg mb : Str → Option Value}
  {dp un : Nat} {gd : Option (List Code)} {cn : Str} {cs : Scope} {a : Addr} {ccd : Value} {cl : List (Str × Addr)} {outer : List Env} {A₀ : Around} {base h₀ : Heap} {L : Addr} {m : Str → Option Value} {led : List (Addr × Obj)} {s : Shared}
  {Q E : Value → Shared → Prop}
theorem set3 (cells : List Value) (v1 v2 v3 x y z : Value) : (((cells ++ [v1] ++ [v2] ++ [v3]).set (cells.length : Int).toNat x).set ((cells.length : Int) + 1).toNat y).set ((cells.length : Int) + 1 + 1).toNat z = cells ++ [x, y, z] := by
  have e1 : (cells.length : Int).toNat = cells.length := by omega
  have e2 : ((cells.length : Int) + 1).toNat = cells.length + 1 := by omega
  have e3 : ((cells.length : Int) + 1 + 1).toNat = cells.length + 2 := by omega
  rw [e1, e2, e3]
  simp only [List.append_assoc, List.cons_append, List.nil_append]
  rw [List.set_append_right _ _ (Nat.le_refl _), Nat.sub_self, List.set_append_right _ _ (by omega), List.set_append_right _ _ (by omega)]
  have a : cells.length + 1 - cells.length = 1 := by omega
  have b : cells.length + 2 - cells.length = 2 := by omega
  rw [a, b]
  rfl
theorem news_skip2 {h₀ h : Heap} {L : Addr} {x y z t u : Addr × Obj} {r : List (Addr × Obj)} (N : News h₀ L h (x :: y :: z :: t :: u :: r)) : News h₀ L h (x :: y :: u :: r) := fun q hq => N q (by
  simp only [List.mem_cons] at hq ⊢
  rcases hq with h | h | h | h <;> simp [h])
theorem new_struct2 (B : Below A₀ base outer h₀) (F : Fr h₀ L s.heap m) (X : (Mine.kf w.params).In h₀) (N : News h₀ L s.heap led) (T : Top p loose mean mg mb h₀) (hk : cs.kind = .function)
  (hd : dp + 8 < recursionLimit) (hu : un + 80 < cLine) {rest : List (Addr × Obj)} {u : Nat}
  {x dx sy hp sk tr : Addr} {R : Int} {q1 q2 q3 q4 q5 q6 q7 u1 u2 u3 : Nat} {nn n : Nat} {cells : List Value} (hoff : OwnOff rest [hp]) (h1 : (x, instObj 381 dx) ∈ rest) (h2 : (dx, dictOf (storeD w.params sy hp sk tr R q1 q2 q3 q4 q5 q6 q7 u1 u2 u3) n) ∈ rest)
  {sd tx an fs fn ft : Addr} {p1 p2 p3 p4 n2 nn2 : Nat} {f fa : Int} {ta tb : Nat} {fvals : List Value}
  (h3 : (sy, instObj 154 sd) ∈ rest) (h4 : (sd, dictOf (symD w.params tx an fs fn p1 p2 p3 p4) n2) ∈ rest) (h5 : (fs, listOf fvals.toArray nn2) ∈ rest) (h6 : fvals[f.toNat]? = some (.ref ft)) (h0 : 0 < f) (h0' : f < 1000000)
  (h7 : (ft, tup [.int fa ta, .int 2 tb]) ∈ rest) {lc c1 c2 : Addr} {nl : Nat} (hl : (lc, listOf [Value.ref c1, Value.ref c2].toArray nl) ∈ led) (hne : lc ≠ hp)
  (ok1 : CellOk rest cells c1) (ok2 : CellOk rest cells c2)
  (hsub : ∀ q ∈ (hp, listOf cells.toArray nn) :: rest, q ∈ led) (hroom : cells.length + 3 ≤ R) (hR : R ≤ 1000)
  (hret : ∀ h' tk' fc cc t nn' g1 g2, Fr h₀ L h' m → News h₀ L h' ((cc, tup [.int 2 g1, .int cells.length t]) :: (fc, tup [.int 6 g2, .int f u]) :: (hp, listOf (cells ++ [Value.ref fc, Value.ref c1, Value.ref c2]).toArray nn') :: rest) →
    (∀ q ∈ rest, q.1 < fc) → (∀ q ∈ rest, q.1 < cc) → hp < fc → hp < cc → Q (.ref cc) { s with heap := h', toks := tk' }) :
  wpAny (model prog w) (ktrTop dp un gd cn cs L a ccd cl outer) (call (.ref 342) [.ref x, .int f u, .ref lc]) Q E s := by
  have N2 : News h₀ L s.heap ((lc, listOf [Value.ref c1, Value.ref c2].toArray nl) :: (hp, listOf cells.toArray nn) :: rest) := fun q hq => N q ((List.mem_cons.mp hq).elim (fun e => e ▸ hl) (hsub q))
  have hb : cells.length < 998 := by omega
  clear N hl
  have hfs : fs ≠ hp := hoff _ h5 _ (.head _)
  refine wpAny_call ?_
  k_dflt ktr_enter
  k_steps
  rename News h₀ L _ _ => kN
  rw [set3] at kN
  exact hret _ _ _ _ _ _ _ _ (by assumption) (news_skip2 kN) (Mine.allLt_mem (by first | assumption | (refine' And.right ?kx; (case kx => assumption)) | (refine' And.right (And.right ?kx); (case kx => assumption)) | (refine' And.right (And.right (And.right ?kx)); (case kx => assumption)))) (Mine.allLt_mem (by first | assumption | (refine' And.right ?kx; (case kx => assumption)) | (refine' And.right (And.right ?kx); (case kx => assumption)) | (refine' And.right (And.right (And.right ?kx)); (case kx => assumption)))) (ltN (by k_extra "LTO")) (ltN (by k_extra "LTO"))
end
end Mine

example : True := by
  k_with "getMethod ref" => (k_here; (with_reducible show wpAny _ _ (getMethod (Value.ref _) (PySem.Str.ofString "get") _) _ _ _); k_dflt (refine' Mine.getM_dict ?N ?hm ?D PySem.F.slot_dict_get PySem.F.type_dict_get ?_; (case D => assumption); (case N => k_asm); (case hm => k_mem)))
  k_with "call builtin:dict.get" => (k_here; k_dflt (first | (refine' Mine.dget_some (knd := strKind _ _) ?N ?hm ?D ?hk ?lo ?hv ?_; (case D => assumption); (case N => k_asm); (case hm => k_mem); (case hk => exact strKind_is _ _ _ _); (case lo => assumption); (case hv => assumption); k_whole) | (refine' Mine.dget_none (knd := strKind _ _) ?N ?hm ?D ?hk ?lo ?hv ?_; (case D => assumption); (case N => k_asm); (case hm => k_mem); (case hk => exact strKind_is _ _ _ _); (case lo => assumption); (case hv => assumption); k_whole)))
  k_with "setItem ref str" => (k_here; k_dflt (refine' Mine.dset_sym (knd := strKind _ _) ?F ?N ?U ?D ?hk ?hb ?_; (case D => assumption); (case F => k_asm); (case N => k_asm); (case U => (intro o'; k_upd)); (case hk => exact strKind_is _ _ _ _); (case hb => k_extra "SZ"); k_whole); intro _ _ _ _ _; (try k_sweep))
  trivial
namespace Mine
noncomputable abbrev topH (hnd : Option Value) (dp un : Nat) (gd : Option (List Code)) (cn : Str) (cs : Scope) (L a : Addr) (ccd : Value) (cl : List (Str × Addr)) (outer : List Env) : Around := { handled := hnd, depth := dp, frames := some (envX cn cs L a ccd cl :: outer), guards := gd, units := un }
section
variable {prog : Program} {w : World} {p : Program} {loose : List Str} {mean : ExcName → Option Value} {mg mb : Str → Option Value} {hnd : Option Value}
  {dp un : Nat} {gd : Option (List Code)} {cn : Str} {cs : Scope} {a : Addr} {ccd : Value} {cl : List (Str × Addr)} {outer : List Env} {A₀ : Around} {base h₀ : Heap} {L : Addr} {m : Str → Option Value} {led : List (Addr × Obj)} {s : Shared}
  {Q E : Value → Shared → Prop}
theorem atom_in (B : Below A₀ base outer h₀) (F : Fr h₀ L s.heap m) (X : (Mine.kf w.params).In h₀) (N : News h₀ L s.heap led) (T : Top p loose mean mg mb h₀) (hk : cs.kind = .function)
  (hd : dp + 3 < recursionLimit) (hu : un + 50 < cLine) {rest : List (Addr × Obj)} {u : Nat} {str : Str}
  {x dx tx an fs fn : Addr} {q1 q2 q3 q4 n n1 : Nat} {oA : Obj} {tv : List Value} {ts : List Str}
  (hoff : OwnOff rest [tx, an]) (hne : @Ne Nat tx an) (h1 : (x, instObj 154 dx) ∈ rest) (h2 : (dx, dictOf (symD w.params tx an fs fn q1 q2 q3 q4) n) ∈ rest)
  (hsub : ∀ q ∈ (tx, listOf tv.toArray n1) :: (an, oA) :: rest, q ∈ led) (R : AtomsRel prog w ts oA tv) (lo : (an == sysModules) = false) (hb : ts.length < 1000)
  (hret : ∀ h' tk' tv' n1' oA' t', Fr h₀ L h' m → News h₀ L h' ((tx, listOf tv'.toArray n1') :: (an, oA') :: rest) → AtomsRel prog w (atomT ts str) oA' tv' → Q (.int (ts.idxOf str) t') { s with heap := h', toks := tk' }) :
  wpAny (model prog w) (topH hnd dp un gd cn cs L a ccd cl outer) (call (.ref 88) [.ref x, .str str u]) Q E s := by
  have N2 : News h₀ L s.heap ((tx, listOf tv.toArray n1) :: (an, oA) :: rest) := fun q hq => N q (hsub q hq)
  clear N
  obtain ⟨kvs, D, hl, ht, r1, r2⟩ := R
  have hex := D.1
  by_cases hx : str ∈ ts
  · obtain ⟨t, hv⟩ := r1 str hx
    have e : atomT ts str = ts := by unfold atomT; rw [if_pos hx]
    have R' : AtomsRel prog w (atomT ts str) oA tv := by rw [e]; exact ⟨kvs, D, hl, ht, r1, r2⟩
    clear r1 r2
    refine wpAny_call ?_
    k_dflt ktr_enter
    k_steps
    exact hret _ _ _ _ _ _ (by assumption) (by assumption) R'
  · have hv := r2 str hx
    have hi : ts.idxOf str = tv.length := by rw [List.idxOf_eq_length hx, ht]
    have hadd := fun (o' : Obj) (t : Nat) (y : Value) (D' : DIs (strKind prog w) o' (stored kvs str (.int tv.length t))) => AtomsRel.add (y := y) hl ht r1 r2 hx D'
    have hb1 : tv.length < 1000 := by omega
    have hb2 : kvs.length < 1000 := by omega
    clear r1 r2
    rw [hi] at hret
    refine wpAny_call ?_
    k_dflt ktr_enter
    k_steps
    exact hret _ _ _ _ _ _ (by assumption) (by assumption) (hadd _ _ _ (by assumption))
end
end Mine
example : True := by
  k_with "call builtin:dict.get" => (k_here; (with_reducible show wpAny _ _ (call (Value.builtin _) [Value.ref _, Value.ref _, _]) _ _ _); k_dflt (first | (refine' Mine.dgetH_some ?N ?hm ?D ?KI ?ha ?lo ?hu ?hv ?_; (case D => assumption); (case N => k_asm); (case hm => k_mem); (case KI => exact Mine.KeysIn.mono (by assumption) (by ktd_sub)); (case ha => k_mem); (case lo => assumption); (case hu => ktr_units); (case hv => assumption); k_whole) | (refine' Mine.dgetH_none ?N ?hm ?D ?KI ?ha ?lo ?hu ?hv ?_; (case D => assumption); (case N => k_asm); (case hm => k_mem); (case KI => exact Mine.KeysIn.mono (by assumption) (by ktd_sub)); (case ha => k_mem); (case lo => assumption); (case hu => ktr_units); (case hv => assumption); k_whole)); intro _)
  k_with "setItem ref ref" => (k_here; k_dflt (refine' Mine.dsetH_sym ?F ?N ?U ?D ?KI ?ha ?hu ?hb ?_; (case D => assumption); (case F => k_asm); (case N => k_asm); (case U => (intro o'; k_upd)); (case KI => exact Mine.KeysIn.mono (by assumption) (by ktd_sub)); (case ha => k_mem); (case hu => ktr_units); (case hb => k_extra "SZ"); k_whole); intro _ _ _ _ _ _; (try k_sweep))
  trivial
namespace Mine
section
variable {prog : Program} {w : World} {p : Program} {loose : List Str} {mean : ExcName → Option Value} {mg mb : Str → Option Value} {hnd : Option Value}
  {dp un : Nat} {gd : Option (List Code)} {cn : Str} {cs : Scope} {a : Addr} {ccd : Value} {cl : List (Str × Addr)} {outer : List Env} {A₀ : Around} {base h₀ : Heap} {L : Addr} {m : Str → Option Value} {led : List (Addr × Obj)} {s : Shared}
  {Q E : Value → Shared → Prop}
theorem functor_in (B : Below A₀ base outer h₀) (F : Fr h₀ L s.heap m) (X : (Mine.kf w.params).In h₀) (N : News h₀ L s.heap led) (T : Top p loose mean mg mb h₀) (hk : cs.kind = .function)
  (hd : dp + 3 < recursionLimit) (hu : un + 50 < cLine) {rest n₁ : List (Addr × Obj)} {u1 u2 : Nat} {i j : Int}
  {x dx tx an fs fn : Addr} {q1 q2 q3 q4 n n1 : Nat} {oF : Obj} {fv : List Value} {fl : List (Int × Int)}
  (hoff : OwnOff rest [fs, fn]) (hne : @Ne Nat fs fn) (h1 : (x, instObj 154 dx) ∈ rest) (h2 : (dx, dictOf (symD w.params tx an fs fn q1 q2 q3 q4) n) ∈ rest)
  (hsub : ∀ q ∈ (fs, listOf fv.toArray n1) :: (fn, oF) :: rest, q ∈ led) (hn : ∀ q ∈ n₁, q ∈ rest) (R : FunRel prog w n₁ fl oF fv) (lo : (fn == sysModules) = false) (hb : fl.length < 1000)
  (hret : ∀ h' tk' fv' n1' oF' kt t', Fr h₀ L h' m → News h₀ L h' ((kt, tup [.int i u1, .int j u2]) :: (fs, listOf fv'.toArray n1') :: (fn, oF') :: rest) → FunRel prog w ((kt, tup [.int i u1, .int j u2]) :: n₁) (funT fl (i, j)) oF' fv' →
    (∀ q ∈ rest, q.1 < kt) → @LT.lt Nat _ fs kt → @LT.lt Nat _ fn kt → Q (.int (fl.idxOf (i, j)) t') { s with heap := h', toks := tk' }) :
  wpAny (model prog w) (topH hnd dp un gd cn cs L a ccd cl outer) (call (.ref 102) [.ref x, .int i u1, .int j u2]) Q E s := by
  have N2 : News h₀ L s.heap ((fs, listOf fv.toArray n1) :: (fn, oF) :: rest) := fun q hq => N q (hsub q hq)
  clear N
  have R0 := R
  obtain ⟨xs, D, KI0, hl, ht, r1, r2, r3⟩ := R
  have KI := KI0.mono hn
  have hex := D.1
  by_cases hx : (i, j) ∈ fl
  · obtain ⟨fa, t, hv⟩ := r1 _ hx
    have e : funT fl (i, j) = fl := by unfold funT; rw [if_pos hx]
    have hR : ∀ kt : Addr, FunRel prog w ((kt, tup [.int i u1, .int j u2]) :: n₁) (funT fl (i, j)) oF fv := fun kt => by rw [e]; exact R0.mono fun _ _ _ _ _ h => .tail _ h
    clear r1 r2 r3 R0 KI0
    refine wpAny_call ?_
    k_dflt ktr_enter
    k_steps
    exact hret _ _ _ _ _ _ _ (by assumption) (by assumption) (hR _) (Mine.allLt_mem (by first | assumption | (refine' And.right ?kx; (case kx => assumption)) | (refine' And.right (And.right ?kx); (case kx => assumption)))) (by omega) (by omega)
  · have hv := r2 _ hx
    have hi : fl.idxOf (i, j) = fv.length := by rw [List.idxOf_eq_length hx, ht]
    have hadd := fun (o' : Obj) (n : Nat) (kt : Addr) (D' : DIsH prog w o' (storedH xs [i, j] kt (.int fv.length n))) => FunRel.add (led := (kt, tup [.int i u1, .int j u2]) :: n₁) (t := u1) (u := u2) (KI0.mono fun _ h => .tail _ h) hl ht r1 r2 (fun i p hp => (r3 i p hp).imp fun _ h => h.imp fun _ h => h.imp fun _ h => ⟨h.1, .tail _ h.2⟩) hx (.head _) D'
    have hb1 : fv.length < 1000 := by omega
    have hb2 : xs.length < 1000 := by omega
    clear r1 r2 r3 R0 KI0
    rw [hi] at hret
    refine wpAny_call ?_
    k_dflt ktr_enter
    k_steps
    exact hret _ _ _ _ _ _ _ (by assumption) (by assumption) (hadd _ _ _ (by assumption)) (Mine.allLt_mem (by first | assumption | (refine' And.right ?kx; (case kx => assumption)) | (refine' And.right (And.right ?kx); (case kx => assumption)))) (by omega) (by omega)
noncomputable def Tups (n₁ : List (Addr × Obj)) : Prop := ∀ q ∈ n₁, q.2.cls = .type "tuple"
theorem tups_off {h₀ h : Heap} {L d : Addr} {o : Obj} {n₁ led : List (Addr × Obj)} (N : News h₀ L h led) (ht : Tups n₁) (hn : ∀ q ∈ n₁, q ∈ led) (hm : (d, o) ∈ led) (hc : o.cls ≠ .type "tuple") : ∀ q ∈ n₁, q.1 ≠ d :=
  fun q hq => ne_of_cls (oa := q.2) N (hn q hq) hm (by rw [ht q hq]; exact hc.symm)
theorem upd2_all {tx an : Addr} {oT oA : Obj} {led : List (Addr × Obj)} {mid : Obj → List (Addr × Obj)} {led' : Obj → Obj → List (Addr × Obj)} (U1 : ∀ o1, Upd tx oT o1 led (mid o1)) (U2 : ∀ o1 o2, Upd an oA o2 (mid o1) (led' o1 o2)) (hne : @Ne Nat tx an) :
    OwnOff (offOf an (offOf tx led)) [tx, an] ∧ (∀ q ∈ (tx, oT) :: (an, oA) :: offOf an (offOf tx led), q ∈ led) ∧ ∀ o1 o2, ∀ q ∈ led' o1 o2, q ∈ (tx, o1) :: (an, o2) :: offOf an (offOf tx led) := by
  have out1 := fun o1 => upd_out (U1 o1)
  have hA : (an, oA) ∈ led := by
    rcases List.mem_cons.mp (out1 default _ (upd_mem (U2 default default))) with h | h
    · exact absurd (congrArg Prod.fst h) hne.symm
    · exact offOf_sub _ h
  refine ⟨fun q hq b hb => ?_, fun q hq => ?_, fun o1 o2 q hq => ?_⟩
  · rcases List.mem_cons.mp hb with rfl | hb
    · exact offOf_off _ _ q (offOf_sub q hq) _ (.head _)
    · rw [List.mem_singleton.mp hb]; exact offOf_off _ _ q hq _ (.head _)
  · rcases List.mem_cons.mp hq with h | hq
    · rw [h]; exact upd_mem (U1 default)
    · rcases List.mem_cons.mp hq with h | hq
      · rw [h]; exact hA
      · exact offOf_sub q (offOf_sub q hq)
  · rcases List.mem_cons.mp (upd_out (U2 o1 o2) q hq) with h | h
    · exact h ▸ .tail _ (.head _)
    · rcases List.mem_cons.mp (out1 o1 q (offOf_sub q h)) with h' | h'
      · exact h' ▸ .head _
      · refine .tail _ (.tail _ ?_)
        have : q.1 ≠ an := offOf_off _ _ q h _ (.head _)
        exact offOf_in (o := q.2) h' this
theorem atom' (B : Below A₀ base outer h₀) (F : Fr h₀ L s.heap m) (X : (Mine.kf w.params).In h₀) (N : News h₀ L s.heap led) (T : Top p loose mean mg mb h₀) (hk : cs.kind = .function)
  (hd : dp + 3 < recursionLimit) (hu : un + 50 < cLine) {u : Nat} {str : Str} {mid : Obj → List (Addr × Obj)} {led' : Obj → Obj → List (Addr × Obj)}
  {x dx tx an fs fn : Addr} {q1 q2 q3 q4 n n1 : Nat} {oA : Obj} {tv : List Value} {ts : List Str}
  (h1 : (x, instObj 154 dx) ∈ led) (h2 : (dx, dictOf (symD w.params tx an fs fn q1 q2 q3 q4) n) ∈ led)
  (U1 : ∀ o1, Upd tx (listOf tv.toArray n1) o1 led (mid o1)) (R : AtomsRel prog w ts oA tv) (U2 : ∀ o1 o2, Upd an oA o2 (mid o1) (led' o1 o2)) (hne : @Ne Nat tx an) (hne2 : @Ne Nat dx an) (lo : (an == sysModules) = false) (hb : ts.length < 1000)
  (hret : ∀ h' tk' tv' n1' oA' t', Fr h₀ L h' m → News h₀ L h' (led' (listOf tv'.toArray n1') oA') → AtomsRel prog w (atomT ts str) oA' tv' → Q (.int (ts.idxOf str) t') { s with heap := h', toks := tk' }) :
  wpAny (model prog w) (topH hnd dp un gd cn cs L a ccd cl outer) (call (.ref 88) [.ref x, .str str u]) Q E s := by
  obtain ⟨a1, a2, a3⟩ := upd2_all U1 U2 hne
  have hT := upd_mem (U1 default)
  have hA := a2 _ (.tail _ (.head _))
  have d1 : ∀ (C : Addr) (s : String), Value.ref C ≠ Value.type s := fun _ _ e => by cases e
  have e1 : ∀ s₁ s₂ : String, (s₁ == s₂) = false → Value.type s₁ ≠ Value.type s₂ := fun s₁ s₂ h e => by rw [Value.type.inj e] at h; simp at h
  have cA : oA.cls = .type "dict" := by obtain ⟨_, D, _⟩ := R; exact D.1.1
  refine atom_in B F X N T hk hd hu a1 hne (offOf_in (offOf_in h1 (ne_of_cls N h1 hT (d1 _ _))) (ne_of_cls N h1 hA (by rw [cA]; exact d1 _ _))) (offOf_in (offOf_in h2 (ne_of_cls N h2 hT (e1 _ _ (by decide)))) hne2) a2 R lo hb
    fun h' tk' tv' n1' oA' t' F' N' R' => hret h' tk' tv' n1' oA' t' F' (fun q hq => N' q (a3 _ _ q hq)) R'
theorem functor' (B : Below A₀ base outer h₀) (F : Fr h₀ L s.heap m) (X : (Mine.kf w.params).In h₀) (N : News h₀ L s.heap led) (T : Top p loose mean mg mb h₀) (hk : cs.kind = .function)
  (hd : dp + 3 < recursionLimit) (hu : un + 50 < cLine) {u1 u2 : Nat} {i j : Int} {mid : Obj → List (Addr × Obj)} {led' : Obj → Obj → List (Addr × Obj)} {n₁ : List (Addr × Obj)}
  {x dx tx an fs fn : Addr} {q1 q2 q3 q4 n n1 : Nat} {oF : Obj} {fv : List Value} {fl : List (Int × Int)}
  (h1 : (x, instObj 154 dx) ∈ led) (h2 : (dx, dictOf (symD w.params tx an fs fn q1 q2 q3 q4) n) ∈ led)
  (U1 : ∀ o1, Upd fs (listOf fv.toArray n1) o1 led (mid o1)) (R : FunRel prog w n₁ fl oF fv) (U2 : ∀ o1 o2, Upd fn oF o2 (mid o1) (led' o1 o2)) (ht : Tups n₁) (hn : ∀ q ∈ n₁, q ∈ led) (hne : @Ne Nat fs fn) (hne2 : @Ne Nat dx fn) (lo : (fn == sysModules) = false) (hb : fl.length < 1000)
  (hret : ∀ h' tk' fv' n1' oF' kt t', Fr h₀ L h' m → News h₀ L h' ((kt, tup [.int i u1, .int j u2]) :: led' (listOf fv'.toArray n1') oF') → FunRel prog w ((kt, tup [.int i u1, .int j u2]) :: n₁) (funT fl (i, j)) oF' fv' →
    (∀ q ∈ led, q.1 < kt) → Q (.int (fl.idxOf (i, j)) t') { s with heap := h', toks := tk' }) :
  wpAny (model prog w) (topH hnd dp un gd cn cs L a ccd cl outer) (call (.ref 102) [.ref x, .int i u1, .int j u2]) Q E s := by
  obtain ⟨a1, a2, a3⟩ := upd2_all U1 U2 hne
  have hT := upd_mem (U1 default)
  have hA := a2 _ (.tail _ (.head _))
  have d1 : ∀ (C : Addr) (s : String), Value.ref C ≠ Value.type s := fun _ _ e => by cases e
  have e1 : ∀ s₁ s₂ : String, (s₁ == s₂) = false → Value.type s₁ ≠ Value.type s₂ := fun s₁ s₂ h e => by rw [Value.type.inj e] at h; simp at h
  have cA : oF.cls = .type "dict" := by obtain ⟨_, D, _⟩ := R; exact D.1.1
  have hn' : ∀ q ∈ n₁, q ∈ offOf fn (offOf fs led) := fun q hq => offOf_in (o := q.2) (offOf_in (hn q hq) (tups_off N ht hn hT (e1 _ _ (by decide)) q hq)) (tups_off N ht hn hA (by rw [cA]; exact e1 _ _ (by decide)) q hq)
  refine functor_in B F X N T hk hd hu a1 hne (offOf_in (offOf_in h1 (ne_of_cls N h1 hT (d1 _ _))) (ne_of_cls N h1 hA (by rw [cA]; exact d1 _ _))) (offOf_in (offOf_in h2 (ne_of_cls N h2 hT (e1 _ _ (by decide)))) hne2) a2 hn' R lo hb
    fun h' tk' fv' n1' oF' kt t' F' N' R' l1 l2 l3 => hret h' tk' fv' n1' oF' kt t' F' (fun q hq => ?_) R' (off_lt (off_lt l1 l3) l2)
  rcases List.mem_cons.mp hq with h | h
  · exact N' q (h ▸ .head _)
  · exact N' q (.tail _ (a3 _ _ q h))
end
end Mine
example : True := by
  k_with "call ref" => (k_here; (with_reducible show wpAny _ _ (call (Value.ref 88) _ _) _ _ _); k_dflt (refine' Mine.atom' ?B ?F ?X ?N ?T ?hk ?hd ?hu ?h1 ?h2 ?U1 ?R ?U2 ?hne ?hne2 ?lo ?hb ?_; (case B => k_asm); (case F => k_asm); (case X => k_asm); (case N => k_asm); (case T => k_asm); (case hk => first | exact rfl | assumption); (case hd => ktr_room); (case hu => ktr_units); (case h1 => k_mem); (case h2 => k_mem); (case U1 => (intro o'; k_upd)); (case R => assumption); (case U2 => (intro o1 o2; k_upd)); (case hne => first | assumption | omega); (case hne2 => first | assumption | omega); (case lo => assumption); (case hb => k_extra "SZ"); k_whole); intro _ _ _ _ _ _ _ _ _; (try k_sweep))
  k_with "call ref" => (k_here; (with_reducible show wpAny _ _ (call (Value.ref 102) _ _) _ _ _); k_dflt (refine' Mine.functor' ?B ?F ?X ?N ?T ?hk ?hd ?hu ?h1 ?h2 ?U1 ?R ?U2 ?ht ?hn ?hne ?hne2 ?lo ?hb ?_; (case B => k_asm); (case F => k_asm); (case X => k_asm); (case N => k_asm); (case T => k_asm); (case hk => first | exact rfl | assumption); (case hd => ktr_room); (case hu => ktr_units); (case h1 => k_mem); (case h2 => k_mem); (case U1 => (intro o'; k_upd)); (case R => assumption); (case U2 => (intro o1 o2; k_upd)); (case ht => assumption); (case hn => (repeat (first | assumption | ktd_sub | refine Mine.sub_tail ?_))); (case hne => first | assumption | omega); (case hne2 => first | assumption | omega); (case lo => assumption); (case hb => k_extra "SZ"); k_whole); intro _ _ _ _ _ _ _ _ _ _ zl1; (try k_lt zl1); (try k_sweep))
  trivial
namespace Mine
section
variable {prog : Program} {w : World} {p : Program} {loose : List Str} {mean : ExcName → Option Value} {mg mb : Str → Option Value} {hnd : Option Value}
  {dp un : Nat} {gd : Option (List Code)} {cn : Str} {cs : Scope} {a : Addr} {ccd : Value} {cl : List (Str × Addr)} {outer : List Env} {A₀ : Around} {base h₀ : Heap} {L : Addr} {m : Str → Option Value} {led : List (Addr × Obj)} {s : Shared}
  {Q E : Value → Shared → Prop}
theorem func_in (B : Below A₀ base outer h₀) (F : Fr h₀ L s.heap m) (X : (Mine.kf w.params).In h₀) (N : News h₀ L s.heap led) (T : Top p loose mean mg mb h₀) (hk : cs.kind = .function)
  (hd : dp + 5 < recursionLimit) (hu : un + 60 < cLine) {rest n₁ : List (Addr × Obj)} {u u2 : Nat} {str : Str} {j : Int}
  {x dx tx an fs fn : Addr} {q1 q2 q3 q4 n n1 n2 : Nat} {oA oF : Obj} {tv fv : List Value} {ts : List Str} {fl : List (Int × Int)}
  (hoff : OwnOff rest [tx, an, fs, fn]) (e1 : @Ne Nat tx an) (e2 : @Ne Nat tx fs) (e3 : @Ne Nat tx fn) (e4 : @Ne Nat an fs) (e5 : @Ne Nat an fn) (e6 : @Ne Nat fs fn) (h1 : (x, instObj 154 dx) ∈ rest) (h2 : (dx, dictOf (symD w.params tx an fs fn q1 q2 q3 q4) n) ∈ rest)
  (hsub : ∀ q ∈ (tx, listOf tv.toArray n1) :: (an, oA) :: (fs, listOf fv.toArray n2) :: (fn, oF) :: rest, q ∈ led) (R : AtomsRel prog w ts oA tv) (R2 : FunRel prog w n₁ fl oF fv) (ht : Tups n₁) (hn : ∀ q ∈ n₁, q ∈ rest)
  (lo : (an == sysModules) = false) (lo2 : (fn == sysModules) = false) (hb : ts.length < 1000) (hb2 : fl.length < 1000)
  (hret : ∀ h' tk' tv' n1' oA' fv' n2' oF' kt t' t2, Fr h₀ L h' m → News h₀ L h' ((kt, tup [.int (ts.idxOf str) t2, .int j u2]) :: (tx, listOf tv'.toArray n1') :: (an, oA') :: (fs, listOf fv'.toArray n2') :: (fn, oF') :: rest) →
    AtomsRel prog w (atomT ts str) oA' tv' → FunRel prog w ((kt, tup [.int (ts.idxOf str) t2, .int j u2]) :: n₁) (funT fl (ts.idxOf str, j)) oF' fv' →
    (∀ q ∈ rest, q.1 < kt) → @LT.lt Nat _ tx kt → @LT.lt Nat _ an kt → @LT.lt Nat _ fs kt → @LT.lt Nat _ fn kt → Q (.int (fl.idxOf ((ts.idxOf str : Int), j)) t') { s with heap := h', toks := tk' }) :
  wpAny (model prog w) (topH hnd dp un gd cn cs L a ccd cl outer) (call (.ref 109) [.ref x, .str str u, .int j u2]) Q E s := by
  have N2 : News h₀ L s.heap ((tx, listOf tv.toArray n1) :: (an, oA) :: (fs, listOf fv.toArray n2) :: (fn, oF) :: rest) := fun q hq => N q (hsub q hq)
  have dn1 : @Ne Nat dx an := hoff _ h2 _ (.tail _ (.head _))
  have dn2 : @Ne Nat dx fn := hoff _ h2 _ (.tail _ (.tail _ (.tail _ (.head _))))
  clear N hsub
  refine wpAny_call ?_
  k_dflt ktr_enter
  k_steps
  exact hret _ _ _ _ _ _ _ _ _ _ _ (by assumption) (by assumption) (by assumption) (by assumption) (Mine.allLt_mem (by first | assumption | (refine' And.right (And.right (And.right (And.right ?kx))); (case kx => assumption)))) (by omega) (by omega) (by omega) (by omega)
theorem upd4_all {tx an fs fn : Addr} {oT oA oS oF : Obj} {led : List (Addr × Obj)} {m1 : Obj → List (Addr × Obj)} {m2 : Obj → Obj → List (Addr × Obj)} {m3 : Obj → Obj → Obj → List (Addr × Obj)} {led' : Obj → Obj → Obj → Obj → List (Addr × Obj)}
    (U1 : ∀ o1, Upd tx oT o1 led (m1 o1)) (U2 : ∀ o1 o2, Upd an oA o2 (m1 o1) (m2 o1 o2)) (U3 : ∀ o1 o2 o3, Upd fs oS o3 (m2 o1 o2) (m3 o1 o2 o3)) (U4 : ∀ o1 o2 o3 o4, Upd fn oF o4 (m3 o1 o2 o3) (led' o1 o2 o3 o4))
    (e1 : @Ne Nat tx an) (e2 : @Ne Nat tx fs) (e3 : @Ne Nat tx fn) (e4 : @Ne Nat an fs) (e5 : @Ne Nat an fn) (e6 : @Ne Nat fs fn) :
    OwnOff (offOf fn (offOf fs (offOf an (offOf tx led)))) [tx, an, fs, fn] ∧ (∀ q ∈ (tx, oT) :: (an, oA) :: (fs, oS) :: (fn, oF) :: offOf fn (offOf fs (offOf an (offOf tx led))), q ∈ led) ∧
      ∀ o1 o2 o3 o4, ∀ q ∈ led' o1 o2 o3 o4, q ∈ (tx, o1) :: (an, o2) :: (fs, o3) :: (fn, o4) :: offOf fn (offOf fs (offOf an (offOf tx led))) := by
  obtain ⟨a1, a2, a3⟩ := upd2_all U1 U2 e1
  have back : ∀ b : Addr, ∀ o, (b, o) ∈ m2 default default → @Ne Nat tx b → @Ne Nat an b → (b, o) ∈ led := fun b o h h1 h2 => by
    rcases List.mem_cons.mp (a3 default default _ h) with e | e
    · exact absurd (congrArg Prod.fst e).symm h1
    · rcases List.mem_cons.mp e with e | e
      · exact absurd (congrArg Prod.fst e).symm h2
      · exact offOf_sub _ (offOf_sub _ e)
  have b := fun o1 o2 => upd2_all (U3 o1 o2) (U4 o1 o2) e6
  have hS : (fs, oS) ∈ led := back _ _ ((b default default).2.1 _ (.head _)) e2 e4
  have hF : (fn, oF) ∈ led := back _ _ ((b default default).2.1 _ (.tail _ (.head _))) e3 e5
  refine ⟨fun q hq b hb => ?_, fun q hq => ?_, fun o1 o2 o3 o4 q hq => ?_⟩
  · rcases List.mem_cons.mp hb with rfl | hb
    · exact a1 q (offOf_sub q (offOf_sub q hq)) _ (.head _)
    · rcases List.mem_cons.mp hb with rfl | hb
      · exact a1 q (offOf_sub q (offOf_sub q hq)) _ (.tail _ (.head _))
      · rcases List.mem_cons.mp hb with rfl | hb
        · exact offOf_off _ _ q (offOf_sub q hq) _ (.head _)
        · rw [List.mem_singleton.mp hb]; exact offOf_off _ _ q hq _ (.head _)
  · rcases List.mem_cons.mp hq with h | hq
    · rw [h]; exact a2 _ (.head _)
    · rcases List.mem_cons.mp hq with h | hq
      · rw [h]; exact a2 _ (.tail _ (.head _))
      · rcases List.mem_cons.mp hq with h | hq
        · exact h ▸ hS
        · rcases List.mem_cons.mp hq with h | hq
          · exact h ▸ hF
          · exact offOf_sub q (offOf_sub q (offOf_sub q (offOf_sub q hq)))
  · rcases List.mem_cons.mp ((b o1 o2).2.2 o3 o4 q hq) with h | h
    · exact h ▸ .tail _ (.tail _ (.head _))
    · rcases List.mem_cons.mp h with h | h
      · exact h ▸ .tail _ (.tail _ (.tail _ (.head _)))
      · have n1 : q.1 ≠ fs := (b o1 o2).1 q h _ (.head _)
        have n2 : q.1 ≠ fn := (b o1 o2).1 q h _ (.tail _ (.head _))
        rcases List.mem_cons.mp (a3 o1 o2 q (offOf_sub q (offOf_sub q h))) with h' | h'
        · exact h' ▸ .head _
        · rcases List.mem_cons.mp h' with h' | h'
          · exact h' ▸ .tail _ (.head _)
          · exact .tail _ (.tail _ (.tail _ (.tail _ (offOf_in (o := q.2) (offOf_in (o := q.2) h' n1) n2))))
theorem func' (B : Below A₀ base outer h₀) (F : Fr h₀ L s.heap m) (X : (Mine.kf w.params).In h₀) (N : News h₀ L s.heap led) (T : Top p loose mean mg mb h₀) (hk : cs.kind = .function)
  (hd : dp + 5 < recursionLimit) (hu : un + 60 < cLine) {n₁ : List (Addr × Obj)} {u u2 : Nat} {str : Str} {j : Int} {m1 : Obj → List (Addr × Obj)} {m2 : Obj → Obj → List (Addr × Obj)} {m3 : Obj → Obj → Obj → List (Addr × Obj)} {led' : Obj → Obj → Obj → Obj → List (Addr × Obj)}
  {x dx tx an fs fn : Addr} {q1 q2 q3 q4 n n1 n2 : Nat} {oA oF : Obj} {tv fv : List Value} {ts : List Str} {fl : List (Int × Int)}
  (h1 : (x, instObj 154 dx) ∈ led) (h2 : (dx, dictOf (symD w.params tx an fs fn q1 q2 q3 q4) n) ∈ led) (R : AtomsRel prog w ts oA tv) (R2 : FunRel prog w n₁ fl oF fv)
  (U1 : ∀ o1, Upd tx (listOf tv.toArray n1) o1 led (m1 o1)) (U2 : ∀ o1 o2, Upd an oA o2 (m1 o1) (m2 o1 o2)) (U3 : ∀ o1 o2 o3, Upd fs (listOf fv.toArray n2) o3 (m2 o1 o2) (m3 o1 o2 o3)) (U4 : ∀ o1 o2 o3 o4, Upd fn oF o4 (m3 o1 o2 o3) (led' o1 o2 o3 o4))
  (e1 : @Ne Nat tx an) (e2 : @Ne Nat tx fs) (e3 : @Ne Nat tx fn) (e4 : @Ne Nat an fs) (e5 : @Ne Nat an fn) (e6 : @Ne Nat fs fn) (e7 : @Ne Nat dx an) (e8 : @Ne Nat dx fn) (ht : Tups n₁) (hn : ∀ q ∈ n₁, q ∈ led)
  (lo : (an == sysModules) = false) (lo2 : (fn == sysModules) = false) (hb : ts.length < 1000) (hb2 : fl.length < 1000)
  (hret : ∀ h' tk' tv' n1' oA' fv' n2' oF' kt t' t2, Fr h₀ L h' m → News h₀ L h' ((kt, tup [.int (ts.idxOf str) t2, .int j u2]) :: led' (listOf tv'.toArray n1') oA' (listOf fv'.toArray n2') oF') →
    AtomsRel prog w (atomT ts str) oA' tv' → FunRel prog w ((kt, tup [.int (ts.idxOf str) t2, .int j u2]) :: n₁) (funT fl (ts.idxOf str, j)) oF' fv' →
    (∀ q ∈ led, q.1 < kt) → Q (.int (fl.idxOf ((ts.idxOf str : Int), j)) t') { s with heap := h', toks := tk' }) :
  wpAny (model prog w) (topH hnd dp un gd cn cs L a ccd cl outer) (call (.ref 109) [.ref x, .str str u, .int j u2]) Q E s := by
  obtain ⟨a1, a2, a3⟩ := upd4_all U1 U2 U3 U4 e1 e2 e3 e4 e5 e6
  have hT := a2 _ (.head _)
  have hA := a2 _ (.tail _ (.head _))
  have hS := a2 _ (.tail _ (.tail _ (.head _)))
  have hF := a2 _ (.tail _ (.tail _ (.tail _ (.head _))))
  have d1 : ∀ (C : Addr) (s : String), Value.ref C ≠ Value.type s := fun _ _ e => by cases e
  have y1 : ∀ s₁ s₂ : String, (s₁ == s₂) = false → Value.type s₁ ≠ Value.type s₂ := fun s₁ s₂ h e => by rw [Value.type.inj e] at h; simp at h
  have cA : oA.cls = .type "dict" := by obtain ⟨_, D, _⟩ := R; exact D.1.1
  have cF : oF.cls = .type "dict" := by obtain ⟨_, D, _⟩ := R2; exact D.1.1
  have hn' : ∀ q ∈ n₁, q ∈ offOf fn (offOf fs (offOf an (offOf tx led))) := fun q hq => offOf_in (o := q.2) (offOf_in (o := q.2) (offOf_in (o := q.2) (offOf_in (hn q hq) (tups_off N ht hn hT (y1 _ _ (by decide)) q hq)) (tups_off N ht hn hA (by rw [cA]; exact y1 _ _ (by decide)) q hq)) (tups_off N ht hn hS (y1 _ _ (by decide)) q hq)) (tups_off N ht hn hF (by rw [cF]; exact y1 _ _ (by decide)) q hq)
  refine func_in B F X N T hk hd hu a1 e1 e2 e3 e4 e5 e6
    (offOf_in (offOf_in (offOf_in (offOf_in h1 (ne_of_cls N h1 hT (d1 _ _))) (ne_of_cls N h1 hA (by rw [cA]; exact d1 _ _))) (ne_of_cls N h1 hS (d1 _ _))) (ne_of_cls N h1 hF (by rw [cF]; exact d1 _ _)))
    (offOf_in (offOf_in (offOf_in (offOf_in h2 (ne_of_cls N h2 hT (y1 _ _ (by decide)))) e7) (ne_of_cls N h2 hS (y1 _ _ (by decide)))) e8) a2 R R2 ht hn' lo lo2 hb hb2
    fun h' tk' tv' n1' oA' fv' n2' oF' kt t' t2 F' N' R' R2' l l1 l2 l3 l4 => hret h' tk' tv' n1' oA' fv' n2' oF' kt t' t2 F' (fun q hq => ?_) R' R2' (off_lt (off_lt (off_lt (off_lt l l4) l3) l2) l1)
  rcases List.mem_cons.mp hq with h | h
  · exact N' q (h ▸ .head _)
  · exact N' q (.tail _ (a3 _ _ _ _ q h))
end
end Mine
example : True := by
  k_with "exec For Name Call cons nil" => (k_here; (rename Fr _ _ _ _ => lF'); (with_unfolding_all refine' For_turns lF' ?_; k_whole))
  k_with "pyIter ref" => (k_here; (with_reducible show wpAny _ _ (pyIter (Value.ref _)) (fun it s₂ => TurnsAt _ _ _ _ _ _ _ _ _ it s₂) _ _); (with_unfolding_all refine' iter_tupTurns ?hh ?F ?N ?hm ?hc ?hd ?_; (case hh => rfl); (case F => k_asm); (case N => k_asm); (case hm => k_mem); (case hc => rfl); (case hd => rfl)); intro _ zl1; (try k_lt zl1))
  trivial
local macro_rules | `(tactic| k_room) => `(tactic| ktr_room)
namespace Mine
section
variable {prog : Program} {w : World} {p : Program} {loose : List Str} {mean : ExcName → Option Value} {mg mb : Str → Option Value}
  {dp un : Nat} {gd : Option (List Code)} {cn : Str} {cs : Scope} {a : Addr} {ccd : Value} {cl : List (Str × Addr)} {outer : List Env} {A₀ : Around} {base h₀ : Heap} {L : Addr} {m : Str → Option Value} {led : List (Addr × Obj)} {s : Shared}
  {Q E : Value → Shared → Prop}
noncomputable def atomL : List String := ["[]", ".", "{}", "-", "+", "*", "/", ",", "|", ";", "->", "\\+", ":-", "?-", "-->", "!", "true", "fail", "false", "call", "=", "^", "error", "", "end_of_file", "system", "$VAR", "catch", "throw"]
theorem fixed_atoms_in (B : Below A₀ base outer h₀) (F : Fr h₀ L s.heap m) (X : (Mine.kf w.params).In h₀) (N : News h₀ L s.heap led) (T : Top p loose mean mg mb h₀) (hk : cs.kind = .function)
  (hd : dp + 3 < recursionLimit)
  (hret : ∀ h' tk' D vs, Fr h₀ L h' m → News h₀ L h' ((D, tup vs) :: led) → StrsAre vs (atomL.map Str.ofString) → (∀ q ∈ led, q.1 < D) → Q (.ref D) { s with heap := h', toks := tk' }) :
  wpAny (model prog w) (ktrTop dp un gd cn cs L a ccd cl outer) (call (.ref 60) []) Q E s := by
  refine wpAny_call ?_
  k_dflt ktr_enter
  k_steps
  refine hret _ _ _ _ (by assumption) (by assumption) ?_ (by first | assumption | exact Mine.allLt_mem (by assumption))
  unfold atomL
  simp only [List.map]
  repeat' (first | exact StrsAre.nil | refine StrsAre.cons _ _ ?_)
noncomputable def rowL : List (String × Int) := [(".", 2), (",", 2), (";", 2), ("->", 2), ("\\+", 1), (":-", 2), (":-", 1), ("?-", 1), ("-->", 2), ("{}", 1), ("=", 2), ("^", 2), ("-", 1), ("-", 2), ("+", 2), ("/", 2), ("error", 2), ("$VAR", 1), ("catch", 3), ("throw", 1), ("!", 0), ("true", 0), ("fail", 0), ("false", 0), ("call", 1), ("call", 2), ("call", 3), ("call", 4), ("call", 5), ("call", 6), ("call", 7), ("call", 8)]
inductive RowsAre (n₁ : List (Addr × Obj)) : List Value → List (Str × Int) → Prop
  | nil : RowsAre n₁ [] []
  | cons {a : Addr} {x : Str} {t : Nat} {j : Int} {u : Nat} {vs : List Value} {rows : List (Str × Int)} : (a, tup [.str x t, .int j u]) ∈ n₁ → RowsAre n₁ vs rows → RowsAre n₁ (.ref a :: vs) ((x, j) :: rows)
theorem fin_rows {h₀ h : Heap} {L : Addr} {x : Addr × Obj} {l led : List (Addr × Obj)} {P : Prop} (k : Nat) (N : News h₀ L h (x :: l)) (hl : l.drop k = led) (hret : ∀ tl, tl = l.take k → News h₀ L h (x :: (led ++ tl)) → P) : P :=
  hret _ rfl fun q hq => N q ((List.mem_cons.mp hq).elim (fun e => e ▸ .head _) fun h => .tail _ ((List.mem_append.mp h).elim (fun h => List.mem_of_mem_drop (hl ▸ h)) List.mem_of_mem_take))
inductive RowE : List PySem.Expr → List (Str × Int) → Prop
  | nil : RowE [] []
  | cons {x : Str} {j : Int} {k1 k2 k : Nat} {p1 p2 pp : Pos} {es : List PySem.Expr} {rows : List (Str × Int)} : RowE es rows → RowE (.Tuple [.Constant (.str x) k1 p1, .Constant (.int j) k2 p2] k pp :: es) ((x, j) :: rows)
theorem RowsAre.len {n₁ : List (Addr × Obj)} {vs : List Value} {rows : List (Str × Int)} (h : RowsAre n₁ vs rows) : vs.length = rows.length := by
  induction h with
  | nil => rfl
  | cons _ _ ih => rw [List.length_cons, List.length_cons, ih]
theorem rows_spliced {M : Model} {A : Around} {env : Env} {pos : Pos} {es : List PySem.Expr} {rows : List (Str × Int)} (hE : RowE es rows) : ∀ {s : Shared} {tl : List (Addr × Obj)} {Q : List Value → Shared → Prop} {E : Value → Shared → Prop}, Fr h₀ L s.heap m → News h₀ L s.heap (tl ++ led) → Tups tl →
    (∀ h' tk' vs tl', Fr h₀ L h' m → News h₀ L h' (tl' ++ led) → (∀ q ∈ tl, q ∈ tl') → RowsAre tl' vs rows → Tups tl' → Q vs { s with heap := h', toks := tk' }) → wpAny M A (spliced (backTo pos (starEach es env))) Q E s := by
  induction hE with
  | nil => intro s tl Q E F N ht hret; exact args_nil (hret _ _ [] tl F N (fun _ h => h) .nil ht)
  | cons _ ih =>
    intro s tl Q E F N ht hret
    refine args_cons (Tuple_ (args_cons (PySem.Calls.Constant_str (args_cons (wpAny_Constant_int (args_nil (kup_newTuple (vs := [_, _]) F N (fun D h' F' N' _ => ?_) (by rw [sizeLine_eq]; exact Nat.le_of_ble_eq_true rfl))))))))
    refine ih (tl := (D, _) :: tl) F' N' (List.forall_mem_cons.mpr ⟨rfl, ht⟩) fun h'' tk'' vs tl' F'' N'' hs hR hT => ?_
    exact hret h'' tk'' (.ref D :: vs) tl' F'' N'' (fun q hq => hs q (.tail _ hq)) (.cons (hs _ (.head _)) hR) hT
theorem fixed_functors_in (B : Below A₀ base outer h₀) (F : Fr h₀ L s.heap m) (X : (Mine.kf w.params).In h₀) (N : News h₀ L s.heap led) (T : Top p loose mean mg mb h₀) (hk : cs.kind = .function)
  (hd : dp + 3 < recursionLimit)
  (hret : ∀ h' tk' D vs tl, Fr h₀ L h' m → News h₀ L h' ((D, tup vs) :: (led ++ tl)) → RowsAre tl vs (rowL.map fun r => (Str.ofString r.1, r.2)) → Tups tl → (∀ q ∈ led, q.1 < D) → Q (.ref D) { s with heap := h', toks := tk' }) :
  wpAny (model prog w) (ktrTop dp un gd cn cs L a ccd cl outer) (call (.ref 67) []) Q E s := by
  refine wpAny_call ?_
  k_dflt ktr_enter
  iterate 3 walk1
  with_reducible refine' rows_spliced (rows := rowL.map fun r => (Str.ofString r.1, r.2)) (tl := []) (led := led) ?hE ?hF ?hN ?ht ?_
  case hF => with_reducible assumption
  case hN => ((with_reducible rename News _ _ _ _ => kN); exact kN)
  case ht => exact (fun _ h => nomatch h)
  case hE =>
    unfold rowL
    simp only [List.map]
    repeat (first | exact RowE.nil | refine RowE.cons ?_)
  intro h' tk' vs tl F2 N2 _ hR hT
  k_sweep
  refine kup_newTuple F2 N2 (fun D h'' F3 N3 l1 => ?_) (by rw [hR.len, sizeLine_eq]; exact Nat.le_of_ble_eq_true rfl)
  k_steps
  refine hret _ _ D vs tl (by assumption) (fun q hq => ?_) hR hT (fun q hq => l1 q (List.mem_append_right _ hq))
  rename News h₀ L _ _ => kN
  exact kN q ((List.mem_cons.mp hq).elim (fun e => e ▸ .head _) fun h => .tail _ ((List.mem_append.mp h).elim (List.mem_append_right _) (List.mem_append_left _)))
end
end Mine
namespace Mine
section
variable {prog : Program} {w : World} {A : Around} {E : Value → Shared → Prop} {s : Shared} {env : Env} {h₀ : Heap} {target : PySem.Expr} {body : List Stmt} {Q : Flow → Shared → Prop}
theorem iter_tupStop {ax : Addr} {lo : Obj} {vs : List Value} {n : Nat} {m₀ : Str → Option Value} {news : List (Addr × Obj)}
    (hh : A.handled = none) (F : Fr h₀ env.locals s.heap m₀) (N : News h₀ env.locals s.heap news) (hm : (ax, lo) ∈ news) (hc : lo.cls = .type "tuple") (hd : lo.data = .seq vs.toArray n)
    (rest₀ : ∀ I : Addr, (∀ p ∈ news, p.1 < I) → Hold (ItemsRest prog w A E h₀ env target body Q s [(I, "tuple_iterator")] [(ax, lo)] (vs.map .val) m₀ news)) :
    wpAny (model prog w) A (pyIter (.ref ax)) (fun it s₂ => TurnsAt prog w A h₀ env target body Q E it s₂) E s := iter_tupTurns hh F N hm hc hd rest₀
theorem turns_ind {I : Addr} {keep : List (Addr × Obj)} (J : List Value → (Str → Option Value) → List (Addr × Obj) → Prop)
    (turn : ∀ v r m₁ n₁ it h tk, it.cls = .type "tuple_iterator" → J (v :: r) m₁ n₁ → Fr h₀ env.locals h m₁ → News h₀ env.locals h ((I, it) :: n₁) →
      wpAny (model prog w) A (assign target env v) (fun _ s₂ => wpAny (model prog w) A (execs body env) (fun f s' => Hold (UnrPostW h₀ env.locals { s with heap := h, toks := tk } [(I, it)] (fun m' n' => SubL keep n' ∧ J r m' n') Q f s')) E s₂) E { s with heap := h, toks := tk })
    (done : ∀ m₁ n₁ h tk, J [] m₁ n₁ → Fr h₀ env.locals h m₁ → News h₀ env.locals h n₁ → Q .next { s with heap := h, toks := tk }) :
    ∀ vs m₁ n₁, J vs m₁ n₁ → ItemsRest prog w A E h₀ env target body Q s [(I, "tuple_iterator")] keep (vs.map .val) m₁ n₁
  | [], m₁, n₁, hJ => fun h tk F N => done m₁ n₁ h tk hJ F N
  | v :: r, m₁, n₁, hJ => by
    refine ItemsRest.val fun h tk F => AllObj.cons fun it hit => AllObj.nil fun N => ?_
    refine wpAny_mono (turn v r m₁ n₁ it h tk hit hJ F N) (fun _ s₂ p => wpAny_mono p (fun f s₃ q => ?_) fun _ _ e => e) fun _ _ e => e
    have go : UnrEndW h₀ env.locals { s with heap := h, toks := tk } [(I, it)] (fun m' n' => SubL keep n' ∧ J r m' n') s₃ → UnrEndW h₀ env.locals { s with heap := h, toks := tk } [(I, it)] (fun m' n' => SubL keep n' ∧ ItemsRest prog w A E h₀ env target body Q s [(I, "tuple_iterator")] keep (r.map .val) m' n') s₃ := by
      rintro ⟨h', tk', m', n', e, F', N', off, sub, j⟩
      exact ⟨h', tk', m', n', e, F', N', off, sub, turns_ind J turn done r m' n' j⟩
    cases f with
    | ret v => exact q
    | brk => exact q
    | next => exact go q
    | cont => exact go q
theorem end_turn {I : Addr} {it : Obj} {keep : List (Addr × Obj)} {J : (Str → Option Value) → List (Addr × Obj) → Prop} {h' : Heap} {tk : Nat} {m' : Str → Option Value} {n' led : List (Addr × Obj)} {s₁ : Shared} (F : Fr h₀ env.locals h' m') (N : News h₀ env.locals h' led) (sub : ∀ q ∈ (I, it) :: n', q ∈ led) (off : ∀ p ∈ n', p.1 ≠ I) (hk : SubL keep n') (hJ : J m' n') :
    Hold (UnrPostW h₀ env.locals s₁ [(I, it)] (fun m' n' => SubL keep n' ∧ J m' n') Q .next { s₁ with heap := h', toks := tk }) :=
  ⟨h', tk, m', n', rfl, F, fun p hp => N p (sub p hp), fun p hp q hq => by rw [List.mem_singleton.mp hq]; exact off p hp, hk, hJ⟩
theorem loop_atoms {I D an tx : Addr} {p1 p2 : Addr × Obj} {vs : List Value} {R : List (Addr × Obj)} {m₀ : Str → Option Value} {x : Str} (TS : List Str)
    (turn : ∀ (u : Option Value) it str t ts tv n1 oA h tk, it.cls = .type "tuple_iterator" → AtomsRel prog w ts oA tv → ts.length < 1000 → Fr h₀ env.locals h (fun y => if y = x then u else m₀ y) → News h₀ env.locals h ((I, it) :: (D, tup vs) :: p1 :: p2 :: (an, oA) :: (tx, listOf tv.toArray n1) :: R) →
      wpAny (model prog w) A (assign target env (.str str t)) (fun _ s₂ => wpAny (model prog w) A (execs body env) (fun f s' => Hold (UnrPostW h₀ env.locals { s with heap := h, toks := tk } [(I, it)] (fun m' n' => SubL [(D, tup vs)] n' ∧
        ∃ u' tv' n1' oA', m' = (fun y => if y = x then u' else m₀ y) ∧ n' = (D, tup vs) :: p1 :: p2 :: (an, oA') :: (tx, listOf tv'.toArray n1') :: R ∧ AtomsRel prog w (atomT ts str) oA' tv') Q f s')) E s₂) E { s with heap := h, toks := tk })
    (done : ∀ (u : Option Value) tv n1 oA h tk, AtomsRel prog w TS oA tv → Fr h₀ env.locals h (fun y => if y = x then u else m₀ y) → News h₀ env.locals h ((D, tup vs) :: p1 :: p2 :: (an, oA) :: (tx, listOf tv.toArray n1) :: R) → Q .next { s with heap := h, toks := tk })
    {xs ts : List Str} {tv : List Value} {n1 : Nat} {oA : Obj} (hS : StrsAre vs xs) (hR : AtomsRel prog w ts oA tv) (hb : ts.length + xs.length < 1000) (hT : xs.foldl atomT ts = TS) :
    ItemsRest prog w A E h₀ env target body Q s [(I, "tuple_iterator")] [(D, tup vs)] (vs.map .val) m₀ ((D, tup vs) :: p1 :: p2 :: (an, oA) :: (tx, listOf tv.toArray n1) :: R) := by
  refine turns_ind (fun r m₁ n₁ => ∃ xs ts u tv n1 oA, StrsAre r xs ∧ AtomsRel prog w ts oA tv ∧ ts.length + xs.length < 1000 ∧ xs.foldl atomT ts = TS ∧ m₁ = (fun y => if y = x then u else m₀ y) ∧ n₁ = (D, tup vs) :: p1 :: p2 :: (an, oA) :: (tx, listOf tv.toArray n1) :: R) ?_ ?_ vs m₀ _
    ⟨xs, ts, m₀ x, tv, n1, oA, hS, hR, hb, hT, ?_, rfl⟩
  · rintro v r m₁ n₁ it h tk hit ⟨xs, ts, u, tv, n1, oA, hS, hR, hb, hT, rfl, rfl⟩ F N
    cases hS with
    | cons y t hS' =>
      rename_i ys
      rw [List.length_cons] at hb
      refine wpAny_mono (turn u it y t ts tv n1 oA h tk hit hR (by omega) F N) (fun _ s₂ p => wpAny_mono p (fun f s₃ q => ?_) fun _ _ e => e) fun _ _ e => e
      have go : UnrEndW h₀ env.locals { s with heap := h, toks := tk } [(I, it)] (fun m' n' => SubL [(D, tup vs)] n' ∧
        ∃ u' tv' n1' oA', m' = (fun y => if y = x then u' else m₀ y) ∧ n' = (D, tup vs) :: p1 :: p2 :: (an, oA') :: (tx, listOf tv'.toArray n1') :: R ∧ AtomsRel prog w (atomT ts y) oA' tv') s₃ → UnrEndW h₀ env.locals { s with heap := h, toks := tk } [(I, it)] (fun m' n' => SubL [(D, tup vs)] n' ∧
          ∃ xs ts u tv n1 oA, StrsAre r xs ∧ AtomsRel prog w ts oA tv ∧ ts.length + xs.length < 1000 ∧ xs.foldl atomT ts = TS ∧ m' = (fun y => if y = x then u else m₀ y) ∧ n' = (D, tup vs) :: p1 :: p2 :: (an, oA) :: (tx, listOf tv.toArray n1) :: R) s₃ := by
        rintro ⟨h', tk', m', n', e, F', N', off, sub, u', tv', n1', oA', e1, e2, hR'⟩
        refine ⟨h', tk', m', n', e, F', N', off, sub, ys, atomT ts y, u', tv', n1', oA', hS', hR', ?_, hT, e1, e2⟩
        have : (atomT ts y).length ≤ ts.length + 1 := by unfold atomT; split <;> simp
        omega
      cases f with
      | ret v => exact q
      | brk => exact q
      | next => exact go q
      | cont => exact go q
  · rintro m₁ n₁ h tk ⟨xs, ts, u, tv, n1, oA, hS, hR, hb, hT, rfl, rfl⟩ F N
    cases hS
    exact done u tv n1 oA h tk (by rw [← hT]; exact hR) F N
  · funext y
    by_cases e : y = x
    · rw [if_pos e, e]
    · rw [if_neg e]
noncomputable def nm1 (N : List Str × List (Int × Int)) (r : Str × Int) : List Str × List (Int × Int) := (atomT N.1 r.1, funT N.2 ((N.1.idxOf r.1 : Int), r.2))
theorem loop_rows {I D2 fn fs an tx : Addr} {p0 p3 p4 : Addr × Obj} {vs2 : List Value} {led tl : List (Addr × Obj)} {m₀ : Str → Option Value} {x : Str} (NM : List Str × List (Int × Int)) (hl : OwnOff led [tx, an, fs, fn]) (hlI : ∀ q ∈ led, q.1 ≠ I)
    (turn : ∀ (u : Option Value) it a str t j uu ts fl tv fv n1 n2 oA oF tail kts h tk, it.cls = .type "tuple_iterator" → (a, tup [.str str t, .int j uu]) ∈ led ++ tail → AtomsRel prog w ts oA tv → FunRel prog w kts fl oF fv → Tups kts → (∀ q ∈ kts, q ∈ led ++ tail) → OwnOff (led ++ tail) [tx, an, fs, fn] → (∀ q ∈ led ++ tail, q.1 ≠ I) → ts.length < 1000 → fl.length < 1000 →
      Fr h₀ env.locals h (fun y => if y = x then u else m₀ y) → News h₀ env.locals h ((I, it) :: (D2, tup vs2) :: p0 :: (fn, oF) :: (fs, listOf fv.toArray n2) :: (an, oA) :: (tx, listOf tv.toArray n1) :: p3 :: p4 :: (led ++ tail)) →
      wpAny (model prog w) A (assign target env (.ref a)) (fun _ s₂ => wpAny (model prog w) A (execs body env) (fun f s' => Hold (UnrPostW h₀ env.locals { s with heap := h, toks := tk } [(I, it)] (fun m' n' => SubL [(D2, tup vs2)] n' ∧
        ∃ u' tv' fv' n1' n2' oA' oF' kt t2, m' = (fun y => if y = x then u' else m₀ y) ∧ n' = (D2, tup vs2) :: p0 :: (fn, oF') :: (fs, listOf fv'.toArray n2') :: (an, oA') :: (tx, listOf tv'.toArray n1') :: p3 :: p4 :: (led ++ ((kt, tup [.int (ts.idxOf str) t2, .int j uu]) :: tail)) ∧
          AtomsRel prog w (atomT ts str) oA' tv' ∧ FunRel prog w ((kt, tup [.int (ts.idxOf str) t2, .int j uu]) :: kts) (funT fl ((ts.idxOf str : Int), j)) oF' fv') Q f s')) E s₂) E { s with heap := h, toks := tk })
    (done : ∀ (u : Option Value) tv fv n1 n2 oA oF tail kts h tk, AtomsRel prog w NM.1 oA tv → FunRel prog w kts NM.2 oF fv → Tups kts → (∀ q ∈ kts, q ∈ tail) → Fr h₀ env.locals h (fun y => if y = x then u else m₀ y) →
      News h₀ env.locals h ((D2, tup vs2) :: p0 :: (fn, oF) :: (fs, listOf fv.toArray n2) :: (an, oA) :: (tx, listOf tv.toArray n1) :: p3 :: p4 :: (led ++ tail)) → Q .next { s with heap := h, toks := tk })
    {rows : List (Str × Int)} {ts : List Str} {fl : List (Int × Int)} {tv fv : List Value} {n1 n2 : Nat} {oA oF : Obj} (hS : RowsAre tl vs2 rows) (htl : Tups tl) (hR : AtomsRel prog w ts oA tv) (hR2 : FunRel prog w [] fl oF fv) (hb : ts.length + rows.length < 1000) (hb2 : fl.length + rows.length < 1000) (hT : rows.foldl nm1 (ts, fl) = NM) :
    ItemsRest prog w A E h₀ env target body Q s [(I, "tuple_iterator")] [(D2, tup vs2)] (vs2.map .val) m₀ ((D2, tup vs2) :: p0 :: (fn, oF) :: (fs, listOf fv.toArray n2) :: (an, oA) :: (tx, listOf tv.toArray n1) :: p3 :: p4 :: (led ++ tl)) := by
  refine turns_ind (fun r m₁ n₁ => ∃ rows ts fl u tv fv n1 n2 oA oF tail kts, RowsAre tl r rows ∧ AtomsRel prog w ts oA tv ∧ FunRel prog w kts fl oF fv ∧ Tups kts ∧ (∀ q ∈ kts, q ∈ tail) ∧ (∀ q ∈ tl, q ∈ tail) ∧ Tups tail ∧ ts.length + rows.length < 1000 ∧ fl.length + rows.length < 1000 ∧ rows.foldl nm1 (ts, fl) = NM ∧
      m₁ = (fun y => if y = x then u else m₀ y) ∧ n₁ = (D2, tup vs2) :: p0 :: (fn, oF) :: (fs, listOf fv.toArray n2) :: (an, oA) :: (tx, listOf tv.toArray n1) :: p3 :: p4 :: (led ++ tail)) ?_ ?_ vs2 m₀ _
    ⟨rows, ts, fl, m₀ x, tv, fv, n1, n2, oA, oF, tl, [], hS, hR, hR2, fun _ h => (nomatch h), fun _ h => (nomatch h), fun _ h => h, htl, hb, hb2, hT, ?_, rfl⟩
  · rintro v r m₁ n₁ it h tk hit ⟨rows, ts, fl, u, tv, fv, n1, n2, oA, oF, tail, kts, hS, hR, hR2, hk1, hk2, hk3, hk4, hb, hb2, hT, rfl, rfl⟩ F N
    cases hS with
    | cons hm hS' =>
      rename_i a str t j uu rows'
      rw [List.length_cons] at hb hb2
      have y1 : ∀ s₁ s₂ : String, (s₁ == s₂) = false → Value.type s₁ ≠ Value.type s₂ := fun s₁ s₂ h e => by rw [Value.type.inj e] at h; simp at h
      have cA : oA.cls = .type "dict" := by obtain ⟨_, D, _⟩ := hR; exact D.1.1
      have cF : oF.cls = .type "dict" := by obtain ⟨_, D, _⟩ := hR2; exact D.1.1
      have hsub : ∀ q ∈ tail, q ∈ ((I, it) :: (D2, tup vs2) :: p0 :: (fn, oF) :: (fs, listOf fv.toArray n2) :: (an, oA) :: (tx, listOf tv.toArray n1) :: p3 :: p4 :: (led ++ tail)) := fun q hq => by simp [hq]
      have hoff : OwnOff (led ++ tail) [tx, an, fs, fn] := by
        intro q hq b hb
        rcases List.mem_append.mp hq with hq | hq
        · exact hl q hq b hb
        · simp only [List.mem_cons, List.not_mem_nil, or_false] at hb
          rcases hb with rfl | rfl | rfl | rfl
          · exact tups_off N hk4 hsub (o := listOf tv.toArray n1) (by simp) (y1 _ _ (by decide)) q hq
          · exact tups_off N hk4 hsub (o := oA) (by simp) (by rw [cA]; exact y1 _ _ (by decide)) q hq
          · exact tups_off N hk4 hsub (o := listOf fv.toArray n2) (by simp) (y1 _ _ (by decide)) q hq
          · exact tups_off N hk4 hsub (o := oF) (by simp) (by rw [cF]; exact y1 _ _ (by decide)) q hq
      have hoffI : ∀ q ∈ led ++ tail, q.1 ≠ I := by
        intro q hq
        rcases List.mem_append.mp hq with hq | hq
        · exact hlI q hq
        · exact tups_off N hk4 hsub (o := it) (by simp) (by rw [hit]; exact y1 _ _ (by decide)) q hq
      refine wpAny_mono (turn u it a str t j uu ts fl tv fv n1 n2 oA oF tail kts h tk hit (List.mem_append.mpr (.inr (hk3 _ hm))) hR hR2 hk1 (fun q hq => List.mem_append.mpr (.inr (hk2 q hq))) hoff hoffI (by omega) (by omega) F N) (fun _ s₂ p => wpAny_mono p (fun f s₃ q => ?_) fun _ _ e => e) fun _ _ e => e
      have go : UnrEndW h₀ env.locals { s with heap := h, toks := tk } [(I, it)] (fun m' n' => SubL [(D2, tup vs2)] n' ∧
        ∃ u' tv' fv' n1' n2' oA' oF' kt t2, m' = (fun y => if y = x then u' else m₀ y) ∧ n' = (D2, tup vs2) :: p0 :: (fn, oF') :: (fs, listOf fv'.toArray n2') :: (an, oA') :: (tx, listOf tv'.toArray n1') :: p3 :: p4 :: (led ++ ((kt, tup [.int (ts.idxOf str) t2, .int j uu]) :: tail)) ∧
          AtomsRel prog w (atomT ts str) oA' tv' ∧ FunRel prog w ((kt, tup [.int (ts.idxOf str) t2, .int j uu]) :: kts) (funT fl ((ts.idxOf str : Int), j)) oF' fv') s₃ →
          UnrEndW h₀ env.locals { s with heap := h, toks := tk } [(I, it)] (fun m' n' => SubL [(D2, tup vs2)] n' ∧ ∃ rows ts fl u tv fv n1 n2 oA oF tail kts, RowsAre tl r rows ∧ AtomsRel prog w ts oA tv ∧ FunRel prog w kts fl oF fv ∧ Tups kts ∧ (∀ q ∈ kts, q ∈ tail) ∧ (∀ q ∈ tl, q ∈ tail) ∧ Tups tail ∧ ts.length + rows.length < 1000 ∧ fl.length + rows.length < 1000 ∧ rows.foldl nm1 (ts, fl) = NM ∧
            m' = (fun y => if y = x then u else m₀ y) ∧ n' = (D2, tup vs2) :: p0 :: (fn, oF) :: (fs, listOf fv.toArray n2) :: (an, oA) :: (tx, listOf tv.toArray n1) :: p3 :: p4 :: (led ++ tail)) s₃ := by
        rintro ⟨h', tk', m', n', e, F', N', off, sub, u', tv', fv', n1', n2', oA', oF', kt, t2, e1, e2, hR', hR2'⟩
        refine ⟨h', tk', m', n', e, F', N', off, sub, rows', atomT ts str, funT fl ((ts.idxOf str : Int), j), u', tv', fv', n1', n2', oA', oF', (kt, tup [.int (ts.idxOf str) t2, .int j uu]) :: tail, (kt, tup [.int (ts.idxOf str) t2, .int j uu]) :: kts, hS', hR', hR2', ?_, ?_, ?_, ?_, ?_, ?_, hT, e1, e2⟩
        · intro q hq
          rcases List.mem_cons.mp hq with rfl | hq
          · rfl
          · exact hk1 q hq
        · intro q hq
          rcases List.mem_cons.mp hq with rfl | hq
          · exact .head _
          · exact .tail _ (hk2 q hq)
        · exact fun q hq => .tail _ (hk3 q hq)
        · intro q hq
          rcases List.mem_cons.mp hq with rfl | hq
          · rfl
          · exact hk4 q hq
        · have : (atomT ts str).length ≤ ts.length + 1 := by unfold atomT; split <;> simp
          omega
        · have : (funT fl ((ts.idxOf str : Int), j)).length ≤ fl.length + 1 := by unfold funT; split <;> simp
          omega
      cases f with
      | ret v => exact q
      | brk => exact q
      | next => exact go q
      | cont => exact go q
  · rintro m₁ n₁ h tk ⟨rows, ts, fl, u, tv, fv, n1, n2, oA, oF, tail, kts, hS, hR, hR2, hk1, hk2, hk3, hk4, hb, hb2, hT, rfl, rfl⟩ F N
    cases hS
    exact done u tv fv n1 n2 oA oF tail kts h tk (by rw [← hT]; exact hR) (by rw [← hT]; exact hR2) hk1 hk2 F N
  · funext y
    by_cases e : y = x
    · rw [if_pos e, e]
    · rw [if_neg e]
theorem facts8 {h : Heap} {L : Addr} {I D2 D fn fs an tx x dx : Addr} {o1 o2 o3 o4 o5 o6 o7 o8 o9 : Obj} {r : List (Addr × Obj)} (_ : News h₀ L h ((I, o1) :: (D2, o2) :: (D, o3) :: (fn, o4) :: (fs, o5) :: (an, o6) :: (tx, o7) :: (x, o8) :: (dx, o9) :: r))
    (c : @LT.lt Nat _ dx x ∧ @LT.lt Nat _ x tx ∧ @LT.lt Nat _ tx an ∧ @LT.lt Nat _ an fs ∧ @LT.lt Nat _ fs fn ∧ @LT.lt Nat _ fn D ∧ @LT.lt Nat _ D D2 ∧ @LT.lt Nat _ D2 I) : Hold (@LT.lt Nat _ dx x ∧ @LT.lt Nat _ dx tx ∧ @LT.lt Nat _ dx an ∧ @LT.lt Nat _ dx fs ∧ @LT.lt Nat _ dx fn ∧ @LT.lt Nat _ dx D ∧ @LT.lt Nat _ dx D2 ∧ @LT.lt Nat _ dx I ∧ @LT.lt Nat _ x tx ∧ @LT.lt Nat _ x an ∧ @LT.lt Nat _ x fs ∧ @LT.lt Nat _ x fn ∧ @LT.lt Nat _ x D ∧ @LT.lt Nat _ x D2 ∧ @LT.lt Nat _ x I ∧ @LT.lt Nat _ tx an ∧ @LT.lt Nat _ tx fs ∧ @LT.lt Nat _ tx fn ∧ @LT.lt Nat _ tx D ∧ @LT.lt Nat _ tx D2 ∧ @LT.lt Nat _ tx I ∧ @LT.lt Nat _ an fs ∧ @LT.lt Nat _ an fn ∧ @LT.lt Nat _ an D ∧ @LT.lt Nat _ an D2 ∧ @LT.lt Nat _ an I ∧ @LT.lt Nat _ fs fn ∧ @LT.lt Nat _ fs D ∧ @LT.lt Nat _ fs D2 ∧ @LT.lt Nat _ fs I ∧ @LT.lt Nat _ fn D ∧ @LT.lt Nat _ fn D2 ∧ @LT.lt Nat _ fn I ∧ @LT.lt Nat _ D D2 ∧ @LT.lt Nat _ D I ∧ @LT.lt Nat _ D2 I) := by
  obtain ⟨p0_1, p1_2, p2_3, p3_4, p4_5, p5_6, p6_7, p7_8⟩ := c
  have p0_2 := Nat.lt_trans p0_1 p1_2
  have p1_3 := Nat.lt_trans p1_2 p2_3
  have p2_4 := Nat.lt_trans p2_3 p3_4
  have p3_5 := Nat.lt_trans p3_4 p4_5
  have p4_6 := Nat.lt_trans p4_5 p5_6
  have p5_7 := Nat.lt_trans p5_6 p6_7
  have p6_8 := Nat.lt_trans p6_7 p7_8
  have p0_3 := Nat.lt_trans p0_2 p2_3
  have p1_4 := Nat.lt_trans p1_3 p3_4
  have p2_5 := Nat.lt_trans p2_4 p4_5
  have p3_6 := Nat.lt_trans p3_5 p5_6
  have p4_7 := Nat.lt_trans p4_6 p6_7
  have p5_8 := Nat.lt_trans p5_7 p7_8
  have p0_4 := Nat.lt_trans p0_3 p3_4
  have p1_5 := Nat.lt_trans p1_4 p4_5
  have p2_6 := Nat.lt_trans p2_5 p5_6
  have p3_7 := Nat.lt_trans p3_6 p6_7
  have p4_8 := Nat.lt_trans p4_7 p7_8
  have p0_5 := Nat.lt_trans p0_4 p4_5
  have p1_6 := Nat.lt_trans p1_5 p5_6
  have p2_7 := Nat.lt_trans p2_6 p6_7
  have p3_8 := Nat.lt_trans p3_7 p7_8
  have p0_6 := Nat.lt_trans p0_5 p5_6
  have p1_7 := Nat.lt_trans p1_6 p6_7
  have p2_8 := Nat.lt_trans p2_7 p7_8
  have p0_7 := Nat.lt_trans p0_6 p6_7
  have p1_8 := Nat.lt_trans p1_7 p7_8
  have p0_8 := Nat.lt_trans p0_7 p7_8
  exact ⟨p0_1, p0_2, p0_3, p0_4, p0_5, p0_6, p0_7, p0_8, p1_2, p1_3, p1_4, p1_5, p1_6, p1_7, p1_8, p2_3, p2_4, p2_5, p2_6, p2_7, p2_8, p3_4, p3_5, p3_6, p3_7, p3_8, p4_5, p4_6, p4_7, p4_8, p5_6, p5_7, p5_8, p6_7, p6_8, p7_8⟩
theorem end_rows {I kt : Addr} {it o : Obj} {keep : List (Addr × Obj)} {J : (Str → Option Value) → List (Addr × Obj) → Prop} {h' : Heap} {tk : Nat} {m' : Str → Option Value} {c1 c2 c3 c4 c5 c6 c7 c8 : Addr × Obj} {led tail : List (Addr × Obj)} {s₁ : Shared} (F : Fr h₀ env.locals h' m')
    (N : News h₀ env.locals h' ((kt, o) :: (I, it) :: c1 :: c2 :: c3 :: c4 :: c5 :: c6 :: c7 :: c8 :: (led ++ tail))) (off : ∀ p ∈ (kt, o) :: c1 :: c2 :: c3 :: c4 :: c5 :: c6 :: c7 :: c8 :: (led ++ tail), p.1 ≠ I)
    (hk : SubL keep (c1 :: c2 :: c3 :: c4 :: c5 :: c6 :: c7 :: c8 :: (led ++ ((kt, o) :: tail)))) (hJ : J m' (c1 :: c2 :: c3 :: c4 :: c5 :: c6 :: c7 :: c8 :: (led ++ ((kt, o) :: tail)))) :
    Hold (UnrPostW h₀ env.locals s₁ [(I, it)] (fun m' n' => SubL keep n' ∧ J m' n') Q .next { s₁ with heap := h', toks := tk }) :=
  end_turn F N (fun q hq => by
    simp only [List.mem_cons, List.mem_append] at hq ⊢
    rcases hq with h | h | h | h | h | h | h | h | h | h | h | h <;> simp [h]) (fun p hp => off p (by
    simp only [List.mem_cons, List.mem_append] at hp ⊢
    rcases hp with h | h | h | h | h | h | h | h | h | h | h <;> simp [h])) hk hJ
end
end Mine
example : True := by
  k_with "pyIter ref" => (k_here; (with_reducible show wpAny _ _ (pyIter (Value.ref _)) (fun it s₂ => TurnsAt _ _ _ _ _ _ _ _ _ it s₂) _ _); (with_unfolding_all refine' Mine.iter_tupStop ?hh ?F ?N ?hm ?hc ?hd ?_; (case hh => rfl); (case F => k_asm); (case N => k_asm); (case hm => k_mem); (case hc => rfl); (case hd => rfl)); intro _ zl1; (try k_lt zl1))
  k_with "call ref" => (k_here; (with_reducible show wpAny _ _ (call (Value.ref 60) _ _) _ _ _); k_dflt (refine' Mine.fixed_atoms_in ?B ?F ?X ?N ?T ?hk ?hd ?_; (case B => k_asm); (case F => k_asm); (case X => k_asm); (case N => k_asm); (case T => k_asm); (case hk => first | exact rfl | assumption); (case hd => ktr_room); k_whole); intro _ _ _ _ _ _ _ zl1; (try k_lt zl1); (try k_sweep))
  k_with "call ref" => (k_here; (with_reducible show wpAny _ _ (call (Value.ref 67) _ _) _ _ _); k_dflt (refine' Mine.fixed_functors_in ?B ?F ?X ?N ?T ?hk ?hd ?_; (case B => k_asm); (case F => k_asm); (case X => k_asm); (case N => k_asm); (case T => k_asm); (case hk => first | exact rfl | assumption); (case hd => ktr_room); k_whole); intro _ _ _ _ _ _ zN' _ _ zl1; (try k_lt zl1); (try simp only [List.cons_append, List.nil_append] at zN'); (try k_sweep))
  k_with "call ref" => (k_here; (with_reducible show wpAny _ _ (call (Value.ref 109) _ _) _ _ _); k_dflt (refine' Mine.func' ?B ?F ?X ?N ?T ?hk ?hd ?hu ?h1 ?h2 ?R ?R2 ?U1 ?U2 ?U3 ?U4 ?e1 ?e2 ?e3 ?e4 ?e5 ?e6 ?e7 ?e8 ?ht ?hn ?lo ?lo2 ?hb ?hb2 ?_; (case B => k_asm); (case F => k_asm); (case X => k_asm); (case N => k_asm); (case T => k_asm); (case hk => first | exact rfl | assumption); (case hd => ktr_room); (case hu => ktr_units); (case h1 => k_mem); (case h2 => k_mem); (case R => assumption); (case R2 => assumption); (case U1 => (intro o1; k_upd)); (case U2 => (intro o1 o2; k_upd)); (case U3 => (intro o1 o2 o3; k_upd)); (case U4 => (intro o1 o2 o3 o4; k_upd)); (case e1 => first | assumption | omega); (case e2 => first | assumption | omega); (case e3 => first | assumption | omega); (case e4 => first | assumption | omega); (case e5 => first | assumption | omega); (case e6 => first | assumption | omega); (case e7 => first | assumption | omega); (case e8 => first | assumption | omega); (case ht => assumption); (case hn => (repeat (first | assumption | ktd_sub | refine Mine.sub_tail ?_))); (case lo => assumption); (case lo2 => assumption); (case hb => k_extra "SZ"); (case hb2 => k_extra "SZ"); k_whole); intro _ _ _ _ _ _ _ _ _ _ _ _ _ _ _ zl1; (try k_lt zl1); (try k_sweep))
  trivial
namespace Mine
section
variable {prog : Program} {w : World} {p : Program} {loose : List Str} {mean : ExcName → Option Value} {mg mb : Str → Option Value}
  {dp un : Nat} {gd : Option (List Code)} {cn : Str} {cs : Scope} {a : Addr} {ccd : Value} {cl : List (Str × Addr)} {outer : List Env} {A₀ : Around} {base h₀ : Heap} {L : Addr} {m : Str → Option Value} {led : List (Addr × Obj)} {s : Shared}
  {Q E : Value → Shared → Prop}
noncomputable def atomS : List Str := atomL.map Str.ofString
noncomputable def rowS : List (Str × Int) := rowL.map fun r => (Str.ofString r.1, r.2)
noncomputable def NM0 : List Str × List (Int × Int) := rowS.foldl nm1 (atomS.foldl atomT [], [])
theorem same_map {m₀ : Str → Option Value} {x : Str} {u v : Option Value} : (fun y => if y = x then v else if y = x then u else m₀ y) = fun y => if y = x then v else m₀ y := by
  funext y
  by_cases e : y = x
  · rw [if_pos e, if_pos e]
  · rw [if_neg e, if_neg e, if_neg e]
theorem news_init {h₀ h : Heap} {L : Addr} {a b c d e f g k : Addr × Obj} {led tail kts : List (Addr × Obj)} (N : News h₀ L h (a :: b :: c :: d :: e :: f :: g :: k :: (led ++ tail))) (hk : ∀ q ∈ kts, q ∈ tail) : News h₀ L h (g :: k :: f :: e :: d :: c :: (kts ++ led)) := fun q hq => N q (by
  simp only [List.mem_cons, List.mem_append] at hq ⊢
  rcases hq with h | h | h | h | h | h | h | h
  all_goals first | (simp [h]; done) | simp [hk q h])
theorem init_sym (B : Below A₀ base outer h₀) (F : Fr h₀ L s.heap m) (X : (Mine.kf w.params).In h₀) (N : News h₀ L s.heap led) (T : Top p loose mean mg mb h₀) (hk : cs.kind = .function)
  (hd : dp + 9 < recursionLimit) (hu : un + 90 < cLine) 
  (hret : ∀ x dx tx an fs fn oA oF tv fv n n1 n2 q1 q2 q3 q4 kts h' tk', Fr h₀ L h' m → News h₀ L h' ((x, instObj 154 dx) :: (dx, dictOf (symD w.params tx an fs fn q1 q2 q3 q4) n) :: (tx, listOf tv.toArray n1) :: (an, oA) :: (fs, listOf fv.toArray n2) :: (fn, oF) :: (kts ++ led)) →
    AtomsRel prog w NM0.1 oA tv → FunRel prog w kts NM0.2 oF fv → Tups kts → (@LT.lt Nat _ dx x ∧ @LT.lt Nat _ x tx ∧ @LT.lt Nat _ tx an ∧ @LT.lt Nat _ an fs ∧ @LT.lt Nat _ fs fn) → AllLt dx led → (an == sysModules) = false → (fn == sysModules) = false → Q (.ref x) { s with heap := h', toks := tk' }) :
  wpAny (model prog w) (ktrTop dp un gd cn cs L a ccd cl outer) (call (.ref 154) []) Q E s := by
  k_dflt (refine' call_cls ?k1 ?k2 ?k3 ?k4 ?k5 ?k6 ?_; (case k1 => k_asm); (case k2 => k_asm); (case k3 => k_asm); (case k4 => k_is); (case k5 => k_is); (case k6 => k_is); k_whole; intro x' d' h' F' N' l1 l2; (try k_lt l1); (try k_lt2 l2))
  clear F N
  k_dflt ktr_enter
  k_steps
  unfold Hold
  refine loop_atoms (x := Str.ofString "text") (atomS.foldl atomT []) ?_ ?_ (by assumption) (atoms_nil (by assumption)) (by decide +kernel) rfl
  · intro u it str t ts tv n1 oA h tk hit hR hb F2 N2
    k_sweep
    k_steps
    refine end_turn (by assumption) (by assumption) (fun _ h => h) (by k_all) (subL1 List.mem_cons_self) ⟨_, _, _, _, same_map, rfl, by assumption⟩
  · intro u tv n1 oA h tk hR F2 N2
    k_sweep
    k_steps
    unfold Hold
    refine loop_rows (x := Str.ofString "row") NM0 ?hl ?hlI ?_ ?_ (by assumption) (by assumption) (by assumption) (fun_nil (by assumption)) (by decide +kernel) (by decide +kernel) rfl
    case hl =>
      intro q hq b hb
      simp only [List.mem_cons, List.not_mem_nil, or_false] at hb
      rcases hb with hb | hb | hb | hb <;> subst hb
      all_goals exact allLt_ne (by kwd_rel) q hq
    case hlI => exact fun q hq => allLt_ne (l := led ++ _) (by kwd_rel) q (List.mem_append_left _ hq)
    · intro u it aa str t j uu ts fl tv fv n1 n2 oA oF tail kts h tk hit hm hR hR2 hk1 hk2 hoff hoffI hb hb2 F2 N2
      have c := facts8 N2 (by refine ⟨?_, ?_, ?_, ?_, ?_, ?_, ?_, ?_⟩ <;> k_extra "LTO")
      repeat (with_reducible rename (_ : Nat) < _ ∧ _ => hc; clear hc)
      k_sweep
      unfold Hold at c
      repeat (with_reducible rename (_ : Nat) < _ ∧ _ => hc; obtain ⟨_, _⟩ := hc)
      k_steps
      refine end_rows (by assumption) (by assumption) ?_ (subL1 List.mem_cons_self) ⟨_, _, _, _, _, _, _, _, _, same_map, rfl, by assumption, by assumption⟩
      refine List.forall_mem_cons.mpr ⟨(by k_ne), ?_⟩
      repeat (refine List.forall_mem_cons.mpr ⟨(by k_ne), ?_⟩)
      exact hoffI
    · intro u tv fv n1 n2 oA oF tail kts h tk hR hR2 hk1 hk2 F2 N2
      k_sweep
      k_steps
      exact hret _ _ _ _ _ _ _ _ _ _ _ _ _ _ _ _ _ _ _ _ (by assumption) (news_init (by assumption) hk2) hR hR2 hk1 (by refine ⟨?_, ?_, ?_, ?_, ?_⟩ <;> k_extra "LTO") (by first | assumption | exact allLt_of (by assumption)) (by assumption) (by assumption)
end
end Mine
namespace Mine
section
variable {prog : Program} {w : World} {p : Program} {loose : List Str} {mean : ExcName → Option Value} {mg mb : Str → Option Value}
  {dp un : Nat} {gd : Option (List Code)} {cn : Str} {cs : Scope} {a : Addr} {ccd : Value} {cl : List (Str × Addr)} {outer : List Env} {A₀ : Around} {base h₀ : Heap} {L : Addr} {m : Str → Option Value} {led : List (Addr × Obj)} {s : Shared}
  {Q E : Value → Shared → Prop}
theorem compound_yes (B : Below A₀ base outer h₀) (F : Fr h₀ L s.heap m) (X : (Mine.kf w.params).In h₀) (N : News h₀ L s.heap led) (T : Top p loose mean mg mb h₀) (hk : cs.kind = .function)
  (hd : dp + 3 < recursionLimit) {x c : Addr} {k : Int} {t1 t2 : Nat} (h3 : (c, tup [.int 2 t1, .int k t2]) ∈ led)
  (hret : ∀ h' tk', Fr h₀ L h' m → News h₀ L h' led → Q (.bool true) { s with heap := h', toks := tk' }) :
  wpAny (model prog w) (ktrTop dp un gd cn cs L a ccd cl outer) (call (.ref 286) [.ref x, .ref c]) Q E s := by
  refine wpAny_call ?_
  k_dflt ktr_enter
  k_steps
  exact hret _ _ (by assumption) (by assumption)
theorem compound_no (B : Below A₀ base outer h₀) (F : Fr h₀ L s.heap m) (X : (Mine.kf w.params).In h₀) (N : News h₀ L s.heap led) (T : Top p loose mean mg mb h₀) (hk : cs.kind = .function)
  (hd : dp + 3 < recursionLimit) {x c : Addr} {i k : Int} {t1 t2 : Nat} (h3 : (c, tup [.int i t1, .int k t2]) ∈ led) (hi : i ≠ 2) (hi2 : i ≠ 3)
  (hret : ∀ h' tk', Fr h₀ L h' m → News h₀ L h' led → Q (.bool false) { s with heap := h', toks := tk' }) :
  wpAny (model prog w) (ktrTop dp un gd cn cs L a ccd cl outer) (call (.ref 286) [.ref x, .ref c]) Q E s := by
  refine wpAny_call ?_
  k_dflt ktr_enter
  k_steps
  have e : (i == 3) = false := beq_false_of_ne hi2
  rw [e]
  exact hret _ _ (by assumption) (by assumption)
theorem functor_of2 (B : Below A₀ base outer h₀) (F : Fr h₀ L s.heap m) (X : (Mine.kf w.params).In h₀) (N : News h₀ L s.heap led) (T : Top p loose mean mg mb h₀) (hk : cs.kind = .function)
  (hd : dp + 3 < recursionLimit) {x dx c sy hp sk tr fc : Addr} {R f : Int} {q1 q2 q3 q4 q5 q6 q7 u1 u2 u3 g1 u : Nat} {nn n : Nat} {cells : List Value} {k : Int} {t1 t2 : Nat} (h1 : (x, instObj 381 dx) ∈ led) (h2 : (dx, dictOf (storeD w.params sy hp sk tr R q1 q2 q3 q4 q5 q6 q7 u1 u2 u3) n) ∈ led)
  (h4 : (hp, listOf cells.toArray nn) ∈ led) (h3 : (c, tup [.int 2 t1, .int k t2]) ∈ led) (k0 : 0 ≤ k) (k1 : k < 1000000) (h5 : cells[k.toNat]? = some (.ref fc)) (h6 : (fc, tup [.int 6 g1, .int f u]) ∈ led)
  (hret : ∀ h' tk', Fr h₀ L h' m → News h₀ L h' led → Q (.int f u) { s with heap := h', toks := tk' }) :
  wpAny (model prog w) (ktrTop dp un gd cn cs L a ccd cl outer) (call (.ref 293) [.ref x, .ref c]) Q E s := by
  refine wpAny_call ?_
  k_dflt ktr_enter
  k_steps
  exact hret _ _ (by assumption) (by assumption)
theorem width2 (B : Below A₀ base outer h₀) (F : Fr h₀ L s.heap m) (X : (Mine.kf w.params).In h₀) (N : News h₀ L s.heap led) (T : Top p loose mean mg mb h₀) (hk : cs.kind = .function)
  (hd : dp + 5 < recursionLimit) {x dx c sy hp sk tr fc : Addr} {R f fa : Int} {q1 q2 q3 q4 q5 q6 q7 u1 u2 u3 g1 u : Nat} {nn n : Nat} {cells : List Value} {k : Int} {t1 t2 : Nat} (h1 : (x, instObj 381 dx) ∈ led) (h2 : (dx, dictOf (storeD w.params sy hp sk tr R q1 q2 q3 q4 q5 q6 q7 u1 u2 u3) n) ∈ led)
  (h4 : (hp, listOf cells.toArray nn) ∈ led) (h3 : (c, tup [.int 2 t1, .int k t2]) ∈ led) (k0 : 0 ≤ k) (k1 : k < 1000000) (h5 : cells[k.toNat]? = some (.ref fc)) (h6 : (fc, tup [.int 6 g1, .int f u]) ∈ led)
  {sd tx an fs fn ft : Addr} {p1 p2 p3 p4 n2 nn2 : Nat} {ta tb : Nat} {fvals : List Value}
  (h7 : (sy, instObj 154 sd) ∈ led) (h8 : (sd, dictOf (symD w.params tx an fs fn p1 p2 p3 p4) n2) ∈ led) (h9 : (fs, listOf fvals.toArray nn2) ∈ led) (h10 : fvals[f.toNat]? = some (.ref ft)) (h0 : 0 < f) (h0' : f < 1000000)
  (h11 : (ft, tup [.int fa ta, .int 2 tb]) ∈ led)
  (hret : ∀ h' tk' t, Fr h₀ L h' m → News h₀ L h' led → Q (.int 2 t) { s with heap := h', toks := tk' }) :
  wpAny (model prog w) (ktrTop dp un gd cn cs L a ccd cl outer) (call (.ref 300) [.ref x, .ref c]) Q E s := by
  refine wpAny_call ?_
  k_dflt ktr_enter
  k_steps
  exact hret _ _ _ (by assumption) (by assumption)
end
end Mine
example : True := by
  k_with "call ref" => (k_here; (with_reducible show wpAny _ _ (call (Value.ref 286) _ _) _ _ _); k_dflt (first | (refine' Mine.compound_yes ?B ?F ?X ?N ?T ?hk ?hd ?h3 ?_; (case B => k_asm); (case F => k_asm); (case X => k_asm); (case N => k_asm); (case h3 => k_mem); (case T => k_asm); (case hk => first | exact rfl | assumption); (case hd => ktr_room); k_whole) | (refine' Mine.compound_no ?B ?F ?X ?N ?T ?hk ?hd ?h3 ?hi ?hi2 ?_; (case B => k_asm); (case F => k_asm); (case X => k_asm); (case N => k_asm); (case h3 => k_mem); (case T => k_asm); (case hk => first | exact rfl | assumption); (case hd => ktr_room); (case hi => first | assumption | omega); (case hi2 => first | assumption | omega); k_whole)); intro _ _ _ _; (try k_sweep))
  k_with "call ref" => (k_here; (with_reducible show wpAny _ _ (call (Value.ref 293) _ _) _ _ _); k_dflt (refine' Mine.functor_of2 ?B ?F ?X ?N ?T ?hk ?hd ?h1 ?h2 ?h4 ?h3 ?k0 ?k1 ?h5 ?h6 ?_; (case B => k_asm); (case F => k_asm); (case X => k_asm); (case N => k_asm); (case T => k_asm); (case hk => first | exact rfl | assumption); (case hd => ktr_room); (case h1 => k_mem); (case h2 => k_mem); (case h4 => k_mem); (case h3 => k_mem); (case k0 => first | assumption | omega); (case k1 => first | assumption | omega); (case h5 => assumption); (case h6 => k_mem); k_whole); intro _ _ _ _; (try k_sweep))
  k_with "call ref" => (k_here; (with_reducible show wpAny _ _ (call (Value.ref 300) _ _) _ _ _); k_dflt (refine' Mine.width2 ?B ?F ?X ?N ?T ?hk ?hd ?h1 ?h2 ?h4 ?h3 ?k0 ?k1 ?h5 ?h6 ?h7 ?h8 ?h9 ?h10 ?h0 ?h0' ?h11 ?_; (case B => k_asm); (case F => k_asm); (case X => k_asm); (case N => k_asm); (case T => k_asm); (case hk => first | exact rfl | assumption); (case hd => ktr_room); (case h1 => k_mem); (case h2 => k_mem); (case h4 => k_mem); (case h3 => k_mem); (case k0 => first | assumption | omega); (case k1 => first | assumption | omega); (case h5 => assumption); (case h6 => k_mem); (case h7 => k_mem); (case h8 => k_mem); (case h9 => k_mem); (case h10 => assumption); (case h0 => assumption); (case h0' => assumption); (case h11 => k_mem); k_whole); intro _ _ _ _ _; (try k_sweep))
  k_with "subscriptTail" => (k_here; (with_reducible show wpAny _ _ (subscriptTail _ _ (Value.ref _) (Value.int _ _)) _ _ _); k_dflt (refine' Mine.ditem_sym (knd := intKind _ _) ?N ?hm ?D ?hk ?hv ?_ ?hs; (case N => k_asm); (case hk => exact intKind_is _ _ _ _); (case hv => assumption); (case D => assumption); (case hm => k_mem); (case hs => with_unfolding_all rfl); k_whole))
  k_with "subscriptTail" => (k_here; (with_reducible show wpAny _ _ (subscriptTail _ _ (Value.ref _) (Value.int _ _)) _ _ _); k_dflt (refine' Mine.item_at ?N ?hm ?atz ?_ ?hs; (case N => k_asm); (case atz => first | exact (Mine.AtI.use (i := 1) (by assumption) (by omega)) | exact (Mine.AtI.use (i := 2) (by assumption) (by omega))); (case hm => k_mem); (case hs => with_unfolding_all rfl); k_whole))
  k_with "exec For Name Call cons nil" => (k_here; (rename Fr _ _ _ _ => lF'); (with_unfolding_all refine' For_invVF lF' ?k1 ?k2 ?_; (case k1 => exact rfl); (case k2 => exact rfl); k_whole))
  trivial
namespace Mine
section
variable {prog : Program} {w : World} {p : Program} {loose : List Str} {mean : ExcName → Option Value} {mg mb : Str → Option Value}
  {dp un : Nat} {gd : Option (List Code)} {cn : Str} {cs : Scope} {a : Addr} {ccd : Value} {cl : List (Str × Addr)} {outer : List Env} {A₀ : Around} {base h₀ : Heap} {L : Addr} {m : Str → Option Value} {led : List (Addr × Obj)} {s : Shared}
  {Q E : Value → Shared → Prop}
inductive SizeOf (n₁ : List (Addr × Obj)) (kvs : List (Int × Value)) : Addr → Int → Prop
  | comp {c : Addr} {k z : Int} {t1 t2 t : Nat} : (c, tup [.int 2 t1, .int k t2]) ∈ n₁ → valueAt kvs k = some (.int z t) → SizeOf n₁ kvs c z
  | leaf {c : Addr} {i k : Int} {t1 t2 : Nat} : (c, tup [.int i t1, .int k t2]) ∈ n₁ → i ≠ 2 → i ≠ 3 → SizeOf n₁ kvs c 1
theorem SizeOf.mono {n₁ n₂ : List (Addr × Obj)} {kvs : List (Int × Value)} {c : Addr} {z : Int} (h : SizeOf n₁ kvs c z) (hs : ∀ q ∈ n₁, q ∈ n₂) : SizeOf n₂ kvs c z := by
  cases h with
  | comp a b => exact .comp (hs _ a) b
  | leaf a b c => exact .leaf (hs _ a) b c
theorem whole_size2 (B : Below A₀ base outer h₀) (F : Fr h₀ L s.heap m) (X : (Mine.kf w.params).In h₀) (N : News h₀ L s.heap led) (T : Top p loose mean mg mb h₀) (hk : cs.kind = .function)
  (hd : dp + 8 < recursionLimit) (hu : un + 90 < cLine) {x dx c sy hp sk tr fc c1 c2 sz : Addr} {R f fa za zb : Int} {q1 q2 q3 q4 q5 q6 q7 u1 u2 u3 g1 u : Nat} {nn n : Nat} {cells : List Value} {k : Int} {t1 t2 : Nat} {kvs : List (Int × Value)} {oS : Obj} {n₁ : List (Addr × Obj)} (h1 : (x, instObj 381 dx) ∈ led) (h2 : (dx, dictOf (storeD w.params sy hp sk tr R q1 q2 q3 q4 q5 q6 q7 u1 u2 u3) n) ∈ led)
  (h4 : (hp, listOf cells.toArray nn) ∈ led) (h3 : (c, tup [.int 2 t1, .int k t2]) ∈ led) (k0 : 0 ≤ k) (k1 : k < 1000000) (h5 : cells[k.toNat]? = some (.ref fc)) (at1 : AtI 1 cells (k + 1) (.ref c1)) (at2 : AtI 2 cells (k + 2) (.ref c2)) (h6 : (fc, tup [.int 6 g1, .int f u]) ∈ led)
  {sd tx an fs fn ft : Addr} {p1 p2 p3 p4 n2 nn2 : Nat} {ta tb : Nat} {fvals : List Value}
  (h7 : (sy, instObj 154 sd) ∈ led) (h8 : (sd, dictOf (symD w.params tx an fs fn p1 p2 p3 p4) n2) ∈ led) (h9 : (fs, listOf fvals.toArray nn2) ∈ led) (h10 : fvals[f.toNat]? = some (.ref ft)) (h0 : 0 < f) (h0' : f < 1000000)
  (h11 : (ft, tup [.int fa ta, .int 2 tb]) ∈ led) (h12 : (sz, oS) ∈ led) (D : DIs (intKind prog w) oS kvs) (ok1 : CellOk n₁ cells c1) (ok2 : CellOk n₁ cells c2) (s1 : SizeOf n₁ kvs c1 za) (s2 : SizeOf n₁ kvs c2 zb) (hn : ∀ q ∈ n₁, q ∈ led)
  (hret : ∀ h' tk' t, Fr h₀ L h' m → News h₀ L h' led → Q (.int (1 + za + zb) t) { s with heap := h', toks := tk' }) :
  wpAny (model prog w) (ktrTop dp un gd cn cs L a ccd cl outer) (call (.ref 371) [.ref x, .ref c, .ref sz]) Q E s := by
  have s1' := s1.mono hn
  have s2' := s2.mono hn
  clear s1 s2
  have ok1' : CellOk led cells c1 := by
    cases ok1 with
    | plain hi hm => exact .plain hi (hn _ hm)
    | var hm a b c => exact .var (hn _ hm) a b c
  have ok2' : CellOk led cells c2 := by
    cases ok2 with
    | plain hi hm => exact .plain hi (hn _ hm)
    | var hm a b c => exact .var (hn _ hm) a b c
  clear ok1 ok2 hn
  cases s1' with
  | comp m1 v1 =>
    cases s2' with
    | comp m2 v2 =>
      refine wpAny_call ?_
      k_dflt ktr_enter
      k_steps
      exact hret _ _ _ (by assumption) (by assumption)
    | leaf m2 i2 i3 =>
      refine wpAny_call ?_
      k_dflt ktr_enter
      k_steps
      exact hret _ _ _ (by assumption) (by assumption)
  | leaf m1 i1 i2 =>
    cases s2' with
    | comp m2 v2 =>
      refine wpAny_call ?_
      k_dflt ktr_enter
      k_steps
      exact hret _ _ _ (by assumption) (by assumption)
    | leaf m2 i3 i4 =>
      refine wpAny_call ?_
      k_dflt ktr_enter
      k_steps
      exact hret _ _ _ (by assumption) (by assumption)
end
end Mine
namespace Mine
structure NodeAt (n₁ : List (Addr × Obj)) (cells : List Value) (v f : Int) (j : Nat) (c c1 c2 : Addr) : Prop where
  hc : ∃ t1 t2, (c, tup [.int 2 t1, .int (v + 3 * j) t2]) ∈ n₁
  hf : ∃ fc g1 u, cells[(v + 3 * j).toNat]? = some (.ref fc) ∧ (fc, tup [.int 6 g1, .int f u]) ∈ n₁
  h1 : AtI 1 cells (v + 3 * j + 1) (.ref c1)
  h2 : AtI 2 cells (v + 3 * j + 2) (.ref c2)
inductive Dag (n₁ : List (Addr × Obj)) (cells : List Value) (v f : Int) (lf : Addr) : Nat → Addr → List Bool → Prop
  | leaf : Dag n₁ cells v f lf 0 lf []
  | node {j : Nat} {c c' : Addr} {ts : List Bool} {tw : Bool} : Dag n₁ cells v f lf j c ts → NodeAt n₁ cells v f j c' c (if tw then c else lf) → Dag n₁ cells v f lf (j + 1) c' (tw :: ts)
inductive LeafK (n₁ : List (Addr × Obj)) (cells : List Value) (lf : Addr) : Dat → Prop
  | var {t1 t2 : Nat} : (lf, tup [.int 0 t1, .int 0 t2]) ∈ n₁ → cells[0]? = some (.ref lf) → LeafK n₁ cells lf (.tuple [.str "v", .int 0])
  | con {k : Int} {t1 t2 : Nat} : (lf, tup [.int 4 t1, .int k t2]) ∈ n₁ → LeafK n₁ cells lf (.tuple [.str "a", .int k])
  | int {k : Int} {t1 t2 : Nat} : (lf, tup [.int 5 t1, .int k t2]) ∈ n₁ → LeafK n₁ cells lf (.tuple [.str "i", .int k])
noncomputable def termD (f : Int) (lD : Dat) : List Bool → Dat
  | [] => lD
  | tw :: ts => .tuple [.str "s", .int f, .tuple [termD f lD ts, if tw then termD f lD ts else lD]]
noncomputable def partsZ : List Bool → Int
  | [] => 1
  | tw :: ts => 1 + partsZ ts + (if tw then partsZ ts else 1)
inductive Pend (n₁ : List (Addr × Obj)) (cells : List Value) (v f : Int) (lf : Addr) (nw : List (Addr × Obj)) (n : Nat) (cn : Addr) (full : List Bool) : Nat → Addr → List Bool → List Value → Prop
  | top : Pend n₁ cells v f lf nw n cn full n cn full []
  | step {j : Nat} {c c' wb wv : Addr} {ts : List Bool} {tw : Bool} {ws : List Value} {g1 g2 : Nat} : Pend n₁ cells v f lf nw n cn full (j + 1) c' (tw :: ts) ws → NodeAt n₁ cells v f j c' c (if tw then c else lf) →
      (wb, tup [.int 1 g1, .ref c']) ∈ nw → (wv, tup [.int 0 g2, .ref (if tw then c else lf)]) ∈ nw → Pend n₁ cells v f lf nw n cn full j c ts (ws ++ [.ref wb] ++ [.ref wv])
theorem Pend.mono {n₁ nw nw' : List (Addr × Obj)} {cells : List Value} {v f : Int} {lf cn : Addr} {n : Nat} {full : List Bool} (hs : ∀ q ∈ nw, q ∈ nw') {j : Nat} {c : Addr} {ts : List Bool} {ws : List Value} (h : Pend n₁ cells v f lf nw n cn full j c ts ws) : Pend n₁ cells v f lf nw' n cn full j c ts ws := by
  induction h with
  | top => exact .top
  | step _ a b c ih => exact .step ih a (hs _ b) (hs _ c)
theorem Pend.len {n₁ nw : List (Addr × Obj)} {cells : List Value} {v f : Int} {lf cn : Addr} {n : Nat} {full : List Bool} {j : Nat} {c : Addr} {ts : List Bool} {ws : List Value} (h : Pend n₁ cells v f lf nw n cn full j c ts ws) : j ≤ n ∧ ws.length = 2 * (n - j) := by
  induction h with
  | top => simp
  | step _ a b c ih => obtain ⟨i1, i2⟩ := ih; refine ⟨by omega, ?_⟩; simp only [List.length_append, List.length_cons, List.length_nil, i2]; omega
theorem partsZ_pos : ∀ ts : List Bool, 1 ≤ partsZ ts
  | [] => by simp [partsZ]
  | tw :: ts => by
    have := partsZ_pos ts
    simp only [partsZ]
    split <;> omega
/-- the state between two turns -/
inductive TSt (n₁ : List (Addr × Obj)) (cells : List Value) (v f : Int) (lf : Addr) (lD : Dat) (n : Nat) (cn : Addr) (full : List Bool) (Rz : Int) : Nat → List (Addr × Obj) → List Value → List Value → List (Int × Value) → List (Int × Value) → List (Int × Value) → Prop
  | down {j : Nat} {c w0 : Addr} {ts : List Bool} {ws : List Value} {tail : List (Addr × Obj)} {kK kS kT : List (Int × Value)} {g : Nat} :
      Dag n₁ cells v f lf j c ts → Pend n₁ cells v f lf tail n cn full j c ts ws → (w0, tup [.int 0 g, .ref c]) ∈ tail → (∀ i : Nat, i < j → valueAt kK (v + 3 * i) = none) → kK.length + j = n → kT = [] → kS = [] →
      TSt n₁ cells v f lf lD n cn full Rz (2 * n + 2 + j) tail [] (ws ++ [.ref w0]) kK kS kT
  | up {j : Nat} {c t : Addr} {ts : List Bool} {ws : List Value} {tail : List (Addr × Obj)} {kK kS kT : List (Int × Value)} :
      Dag n₁ cells v f lf j c ts → Pend n₁ cells v f lf tail n cn full j c ts ws → DatIn tail (.ref t) (termD f lD ts) → (1 ≤ j → ∃ g, valueAt kK (v + 3 * (j - 1 : Nat)) = some (.ref t) ∧ valueAt kS (v + 3 * (j - 1 : Nat)) = some (.int (partsZ ts) g)) →
      partsZ ts ≤ Rz + 1 ∨ j = 0 → kK.length ≤ n + j → kS.length ≤ j → kT.length ≤ 1 → (∀ t1 t2, (lf, tup [.int 0 t1, .int 0 t2]) ∈ n₁ → ∃ g, valueAt kT 0 = some (.int 0 g)) →
      TSt n₁ cells v f lf lD n cn full Rz (2 * (n - j) + 1) tail [.ref t] ws kK kS kT
  | build {j : Nat} {c c' t t' wb : Addr} {ts : List Bool} {tw : Bool} {ws : List Value} {tail : List (Addr × Obj)} {kK kS kT : List (Int × Value)} {g : Nat} :
      Dag n₁ cells v f lf j c ts → Pend n₁ cells v f lf tail n cn full (j + 1) c' (tw :: ts) ws → NodeAt n₁ cells v f j c' c (if tw then c else lf) → (wb, tup [.int 1 g, .ref c']) ∈ tail → DatIn tail (.ref t) (termD f lD ts) → DatIn tail (.ref t') (if tw then termD f lD ts else lD) →
      (1 ≤ j → ∃ g, valueAt kS (v + 3 * (j - 1 : Nat)) = some (.int (partsZ ts) g)) → partsZ ts ≤ Rz + 1 ∨ j = 0 → kK.length ≤ n + j → kS.length ≤ j → kT.length ≤ 1 → (∀ t1 t2, (lf, tup [.int 0 t1, .int 0 t2]) ∈ n₁ → ∃ g, valueAt kT 0 = some (.int 0 g)) →
      TSt n₁ cells v f lf lD n cn full Rz (2 * (n - j)) tail [.ref t, .ref t'] (ws ++ [.ref wb]) kK kS kT
/-- the eight local names that a turn binds, over the names before the loop -/
noncomputable def mapU (m₀ : Str → Option Value) (u1 u2 u3 u4 u5 u6 u7 u8 : Option Value) : Str → Option Value := fun y => if y = Str.ofString "what" then u1 else if y = Str.ofString "cell" then u2 else if y = Str.ofString "f" then u3 else if y = Str.ofString "first" then u4 else if y = Str.ofString "term" then u5 else if y = Str.ofString "tag" then u6 else if y = Str.ofString "place" then u7 else if y = Str.ofString "step" then u8 else m₀ y
theorem mapU_of {m₀ m : Str → Option Value} (h : ∀ y, y ≠ Str.ofString "what" → y ≠ Str.ofString "cell" → y ≠ Str.ofString "f" → y ≠ Str.ofString "first" → y ≠ Str.ofString "term" → y ≠ Str.ofString "tag" → y ≠ Str.ofString "place" → y ≠ Str.ofString "step" → m y = m₀ y) :
    ∃ u1 u2 u3 u4 u5 u6 u7 u8, m = mapU m₀ u1 u2 u3 u4 u5 u6 u7 u8 := by
  refine ⟨m (Str.ofString "what"), m (Str.ofString "cell"), m (Str.ofString "f"), m (Str.ofString "first"), m (Str.ofString "term"), m (Str.ofString "tag"), m (Str.ofString "place"), m (Str.ofString "step"), funext fun y => ?_⟩
  unfold mapU
  by_cases e1 : y = Str.ofString "what"
  · rw [if_pos e1, e1]
  by_cases e2 : y = Str.ofString "cell"
  · rw [if_neg e1, if_pos e2, e2]
  by_cases e3 : y = Str.ofString "f"
  · rw [if_neg e1, if_neg e2, if_pos e3, e3]
  by_cases e4 : y = Str.ofString "first"
  · rw [if_neg e1, if_neg e2, if_neg e3, if_pos e4, e4]
  by_cases e5 : y = Str.ofString "term"
  · rw [if_neg e1, if_neg e2, if_neg e3, if_neg e4, if_pos e5, e5]
  by_cases e6 : y = Str.ofString "tag"
  · rw [if_neg e1, if_neg e2, if_neg e3, if_neg e4, if_neg e5, if_pos e6, e6]
  by_cases e7 : y = Str.ofString "place"
  · rw [if_neg e1, if_neg e2, if_neg e3, if_neg e4, if_neg e5, if_neg e6, if_pos e7, e7]
  by_cases e8 : y = Str.ofString "step"
  · rw [if_neg e1, if_neg e2, if_neg e3, if_neg e4, if_neg e5, if_neg e6, if_neg e7, if_pos e8, e8]
  rw [if_neg e1, if_neg e2, if_neg e3, if_neg e4, if_neg e5, if_neg e6, if_neg e7, if_neg e8, h y e1 e2 e3 e4 e5 e6 e7 e8]
inductive LoopJ (prog : Program) (w : World) (rest : List (Addr × Obj)) (cells : List Value) (v f : Int) (lf : Addr) (lD : Dat) (n : Nat) (cn : Addr) (full : List Bool) (Rz : Int) (rs wk kn sz tb : Addr) (m₀ : Str → Option Value) (k : Nat) (m₁ : Str → Option Value) (news₁ : List (Addr × Obj)) : Prop
  | mk {u1 u2 u3 u4 u5 u6 u7 u8 : Option Value} {rv wv : List Value} {i1 i2 : Nat} {oK oS oT : Obj} {kK kS kT : List (Int × Value)} {rt : List (Addr × Obj)} : TSt rest cells v f lf lD n cn full Rz k rt rv wv kK kS kT →
      DIs (intKind prog w) oK kK → DIs (intKind prog w) oS kS → DIs (intKind prog w) oT kT → OwnOff rt [rs, wk, kn, sz, tb] → (∀ q ∈ rest, q ∈ rt) →
      m₁ = mapU m₀ u1 u2 u3 u4 u5 u6 u7 u8 → news₁ = (rs, listOf rv.toArray i1) :: (wk, listOf wv.toArray i2) :: (kn, oK) :: (sz, oS) :: (tb, oT) :: rt → LoopJ prog w rest cells v f lf lD n cn full Rz rs wk kn sz tb m₀ k m₁ news₁
end Mine
namespace Mine
theorem stopFlow {M : Model} {A : Around} {t : Sem Flow} {Q : Flow → Shared → Prop} {E : Value → Shared → Prop} {s : Shared} (h : Hold (wpAny M A t Q E s)) : wpAny M A t Q E s := h
section
variable {prog : Program} {w : World} {A : Around} {E : Value → Shared → Prop} {s : Shared} {h₀ : Heap} {L D : Addr} {m : Str → Option Value} {news news' : List (Addr × Obj)} {vs : List Value} {n : Nat} {x : Value}
theorem pop_sym {Q : Value → Shared → Prop} (F : Fr h₀ L s.heap m) (N : News h₀ L s.heap news) (U : Upd D (listOf (vs ++ [x]).toArray n) (listOf vs.toArray (n + 1)) news news') (hb : vs.length < 1000)
    (h : ∀ h', Fr h₀ L h' m → News h₀ L h' news' → Q x { s with heap := h' }) : wpAny (model prog w) A (call (.builtin "list.pop") [.ref D]) Q E s :=
  kl_pop F N (its := (vs ++ [x]).toArray) (kpa_last x vs) U (by rw [sizeLine_eq]; simp; omega) h
end
section
variable {prog : Program} {w : World} {K : Type} [DecidableEq K] {knd : KeyKind prog w K} {A : Around} {E : Value → Shared → Prop} {s : Shared} {h₀ : Heap} {L d : Addr} {m : Str → Option Value} {led : List (Addr × Obj)} {o : Obj} {kvs : List (K × Value)} {k : K} {key v : Value}
theorem din_some {Q : Value → Shared → Prop} (N : News h₀ L s.heap led) (hm : (d, o) ∈ led) (D : DIs knd o kvs) (hk : knd.is k key = true) (lo : (d == sysModules) = false) (hv : valueAt kvs k = some v)
    (h : Q (.bool true) { s with toks := s.toks + 1 }) : wpAny (model prog w) A (compareOp .In key (.ref d)) Q E s := din_sym N hm D hk lo (by rw [hv]; exact h)
theorem din_none {Q : Value → Shared → Prop} (N : News h₀ L s.heap led) (hm : (d, o) ∈ led) (D : DIs knd o kvs) (hk : knd.is k key = true) (lo : (d == sysModules) = false) (hv : valueAt kvs k = none)
    (h : Q (.bool false) { s with toks := s.toks + 1 }) : wpAny (model prog w) A (compareOp .In key (.ref d)) Q E s := din_sym N hm D hk lo (by rw [hv]; exact h)
theorem dnin_some {Q : Value → Shared → Prop} (N : News h₀ L s.heap led) (hm : (d, o) ∈ led) (D : DIs knd o kvs) (hk : knd.is k key = true) (lo : (d == sysModules) = false) (hv : valueAt kvs k = some v)
    (h : Q (.bool false) { s with toks := s.toks + 1 }) : wpAny (model prog w) A (compareOp .NotIn key (.ref d)) Q E s := dnotin_sym N hm D hk lo (by rw [hv]; exact h)
theorem dnin_none {Q : Value → Shared → Prop} (N : News h₀ L s.heap led) (hm : (d, o) ∈ led) (D : DIs knd o kvs) (hk : knd.is k key = true) (lo : (d == sysModules) = false) (hv : valueAt kvs k = none)
    (h : Q (.bool true) { s with toks := s.toks + 1 }) : wpAny (model prog w) A (compareOp .NotIn key (.ref d)) Q E s := dnotin_sym N hm D hk lo (by rw [hv]; exact h)
end
end Mine
namespace Mine
section
variable {prog : Program} {w : World} {A : Around} {E : Value → Shared → Prop} {Q : Flow → Shared → Prop} {s : Shared} {env : Env} {g : Heap} {L : Addr}
  {rest : List (Addr × Obj)} {cells : List Value} {v f : Int} {lf : Addr} {lD : Dat} {n : Nat} {cn : Addr} {full : List Bool} {Rz : Int} {rs wk kn sz tb : Addr} {m₀ : Str → Option Value}
theorem take_inv {test : PySem.Expr} {body : List Stmt} {pos : Pos} {w0 : Addr} {g1 i1 i2 : Nat} {oK oS oT : Obj}
  (F : Fr g L s.heap m₀) (N : News g L s.heap ((wk, listOf #[.ref w0] i2) :: (w0, tup [.int 0 g1, .ref cn]) :: (rs, listOf [].toArray i1) :: (sz, oS) :: (kn, oK) :: (tb, oT) :: rest))
  (dag : Dag rest cells v f lf n cn full) (DK : DIs (intKind prog w) oK []) (DS : DIs (intKind prog w) oS []) (DT : DIs (intKind prog w) oT []) (off : OwnOff ((w0, tup [.int 0 g1, .ref cn]) :: rest) [rs, wk, kn, sz, tb])
  (turn : ∀ k u1 u2 u3 u4 u5 u6 u7 u8 rv wv i1 i2 oK oS oT kK kS kT rt h tk, TSt rest cells v f lf lD n cn full Rz k rt rv wv kK kS kT → DIs (intKind prog w) oK kK → DIs (intKind prog w) oS kS → DIs (intKind prog w) oT kT → OwnOff rt [rs, wk, kn, sz, tb] → (∀ q ∈ rest, q ∈ rt) →
    Fr g L h (mapU m₀ u1 u2 u3 u4 u5 u6 u7 u8) → News g L h ((rs, listOf rv.toArray i1) :: (wk, listOf wv.toArray i2) :: (kn, oK) :: (sz, oS) :: (tb, oT) :: rt) →
    wpAny (model prog w) A (isTrue test env (eval test env)) (fun b s₂ => if b = true then wpAny (model prog w) A (execs body env) (WhileStep2 g L s (LoopJ prog w rest cells v f lf lD n cn full Rz rs wk kn sz tb m₀) Q k) E s₂ else Q .next s₂) E { s with heap := h, toks := tk })
  (hE : PassesOwn (model prog w) A env E := by passes_own) :
  wpAny (model prog w) A (exec (.While test body [] pos) env) Q E s := by
  obtain ⟨u1, u2, u3, u4, u5, u6, u7, u8, hm⟩ := mapU_of (m₀ := m₀) (m := m₀) (fun _ _ _ _ _ _ _ _ _ => rfl)
  have N2 : News g L s.heap ((rs, listOf [].toArray i1) :: (wk, listOf [.ref w0].toArray i2) :: (kn, oK) :: (sz, oS) :: (tb, oT) :: (w0, tup [.int 0 g1, .ref cn]) :: rest) := fun q hq => N q (by
    simp only [List.mem_cons] at hq ⊢
    rcases hq with h | h | h | h | h | h | h <;> simp [h])
  refine While_inv2 (LoopJ prog w rest cells v f lf lD n cn full Rz rs wk kn sz tb m₀) (n₀ := 2 * n + 2 + n) F N2 ?_ ?_ hE
  · refine .mk (rv := []) (wv := [.ref w0]) (kK := []) (kS := []) (kT := []) (TSt.down (ws := []) dag .top List.mem_cons_self (fun _ _ => rfl) (Nat.zero_add _) rfl rfl) DK DS DT off (fun _ h => .tail _ h) hm rfl
  · intro k m₁ news₁ h₁ tk₁ F₁ N₁ J
    obtain ⟨st, d1, d2, d3, o, r, rfl, rfl⟩ := J
    exact turn _ _ _ _ _ _ _ _ _ _ _ _ _ _ _ _ _ _ _ _ _ _ st d1 d2 d3 o r F₁ N₁
theorem step_end {k k' : Nat} {h' : Heap} {tk : Nat} {m' : Str → Option Value} {led' : List (Addr × Obj)} {rv wv : List Value} {i1 i2 : Nat} {oK oS oT : Obj} {kK kS kT : List (Int × Value)} {rt : List (Addr × Obj)} (F : Fr g L h' m') (N : News g L h' led')
  (hs : ∀ q ∈ (rs, listOf rv.toArray i1) :: (wk, listOf wv.toArray i2) :: (kn, oK) :: (sz, oS) :: (tb, oT) :: rt, q ∈ led') (st : TSt rest cells v f lf lD n cn full Rz k' rt rv wv kK kS kT) (hk : k' < k) (DK : DIs (intKind prog w) oK kK) (DS : DIs (intKind prog w) oS kS) (DT : DIs (intKind prog w) oT kT)
  (off : OwnOff rt [rs, wk, kn, sz, tb]) (hr : ∀ q ∈ rest, q ∈ rt) (hm : ∀ y, y ≠ Str.ofString "what" → y ≠ Str.ofString "cell" → y ≠ Str.ofString "f" → y ≠ Str.ofString "first" → y ≠ Str.ofString "term" → y ≠ Str.ofString "tag" → y ≠ Str.ofString "place" → y ≠ Str.ofString "step" → m' y = m₀ y) :
  WhileStep2 g L s (LoopJ prog w rest cells v f lf lD n cn full Rz rs wk kn sz tb m₀) Q k .next { s with heap := h', toks := tk } := by
  obtain ⟨u1, u2, u3, u4, u5, u6, u7, u8, e⟩ := mapU_of hm
  exact ⟨h', tk, m', _, k', rfl, F, fun q hq => N q (hs q hq), hk, .mk st DK DS DT off hr e rfl⟩
theorem step_cont {k k' : Nat} {h' : Heap} {tk : Nat} {m' : Str → Option Value} {led' : List (Addr × Obj)} {rv wv : List Value} {i1 i2 : Nat} {oK oS oT : Obj} {kK kS kT : List (Int × Value)} {rt : List (Addr × Obj)} (F : Fr g L h' m') (N : News g L h' led')
  (hs : ∀ q ∈ (rs, listOf rv.toArray i1) :: (wk, listOf wv.toArray i2) :: (kn, oK) :: (sz, oS) :: (tb, oT) :: rt, q ∈ led') (st : TSt rest cells v f lf lD n cn full Rz k' rt rv wv kK kS kT) (hk : k' < k) (DK : DIs (intKind prog w) oK kK) (DS : DIs (intKind prog w) oS kS) (DT : DIs (intKind prog w) oT kT)
  (off : OwnOff rt [rs, wk, kn, sz, tb]) (hr : ∀ q ∈ rest, q ∈ rt) (hm : ∀ y, y ≠ Str.ofString "what" → y ≠ Str.ofString "cell" → y ≠ Str.ofString "f" → y ≠ Str.ofString "first" → y ≠ Str.ofString "term" → y ≠ Str.ofString "tag" → y ≠ Str.ofString "place" → y ≠ Str.ofString "step" → m' y = m₀ y) :
  WhileStep2 g L s (LoopJ prog w rest cells v f lf lD n cn full Rz rs wk kn sz tb m₀) Q k .cont { s with heap := h', toks := tk } := step_end (Q := Q) F N hs st hk DK DS DT off hr hm
section
variable {h' : Heap} {I : Addr} {it : Obj} {rest : (Str → Option Value) → List (Addr × Obj) → Prop} {s₁ : Shared} {tk : Nat} {m' : Str → Option Value} {news' : List (Addr × Obj)} {p1 : Addr × Obj}
theorem unr1k (F : Fr g L h' m') (N : News g L h' (p1 :: (I, it) :: news')) (off1 : p1.1 ≠ I) (off : ∀ p ∈ news', p.1 ≠ I) (r : rest m' (p1 :: news')) : UnrEnd g L s₁ I it rest { s₁ with heap := h', toks := tk } := UnrEnd.intro F N (p1 :: news') (fun q h => by
    simp only [List.mem_cons] at h ⊢
    rcases h with h | h | h <;> simp [h]) (List.forall_mem_cons.mpr ⟨off1, off⟩) r
end
theorem perm1 {a b c d e t1 : Addr × Obj} {rt : List (Addr × Obj)} : ∀ q ∈ a :: b :: c :: d :: e :: t1 :: rt, q ∈ t1 :: a :: b :: c :: d :: e :: rt := fun q hq => by
  simp only [List.mem_cons] at hq ⊢
  rcases hq with h | h | h | h | h | h | h <;> simp [h]
theorem perm2 {a b c d e t1 t2 : Addr × Obj} {rt : List (Addr × Obj)} : ∀ q ∈ a :: b :: c :: d :: e :: t1 :: t2 :: rt, q ∈ t1 :: t2 :: a :: b :: c :: d :: e :: rt := fun q hq => by
  simp only [List.mem_cons] at hq ⊢
  rcases hq with h | h | h | h | h | h | h | h <;> simp [h]
theorem perm3 {a b c d e t1 t2 t3 : Addr × Obj} {rt : List (Addr × Obj)} : ∀ q ∈ a :: b :: c :: d :: e :: t1 :: t2 :: t3 :: rt, q ∈ t1 :: t2 :: t3 :: a :: b :: c :: d :: e :: rt := fun q hq => by
  simp only [List.mem_cons] at hq ⊢
  rcases hq with h | h | h | h | h | h | h | h | h <;> simp [h]
theorem off_cons {q : Addr × Obj} {rt : List (Addr × Obj)} {a b c d e : Addr} (h1 : @LT.lt Nat _ a q.1) (h2 : @LT.lt Nat _ b q.1) (h3 : @LT.lt Nat _ c q.1) (h4 : @LT.lt Nat _ d q.1) (h5 : @LT.lt Nat _ e q.1) (h : OwnOff rt [a, b, c, d, e]) : OwnOff (q :: rt) [a, b, c, d, e] := by
  refine List.forall_mem_cons.mpr ⟨fun b hb => ?_, h⟩
  simp only [List.mem_cons, List.not_mem_nil, or_false] at hb
  rcases hb with hb | hb | hb | hb | hb <;> (subst hb; exact Nat.ne_of_gt (by assumption))
theorem valueAt_cons {K : Type} [DecidableEq K] (p : K × Value) (r : List (K × Value)) (x : K) : valueAt (p :: r) x = if p.1 = x then some p.2 else valueAt r x := by
  unfold valueAt
  rw [List.find?_cons]
  by_cases h : p.1 = x <;> simp [h]
theorem valueAt_map {K : Type} [DecidableEq K] (k x : K) (v : Value) : ∀ kvs : List (K × Value), valueAt (kvs.map fun kv => if kv.1 = k then (kv.1, v) else kv) x = if x = k then (if kvs.any (fun kv => decide (kv.1 = k)) = true then some v else none) else valueAt kvs x
  | [] => by by_cases h : x = k <;> simp [h, valueAt]
  | p :: r => by
    rw [List.map_cons, valueAt_cons, valueAt_cons, valueAt_map k x v r, List.any_cons]
    by_cases h : p.1 = k
    · by_cases hx : x = k
      · simp [h, hx]
      · have : ¬ k = x := fun e => hx e.symm
        simp [h, hx, this]
    · by_cases hx : x = k
      · subst hx
        rw [if_neg h, if_pos rfl, if_pos rfl, if_neg h, decide_eq_false h, Bool.false_or]
      · rw [if_neg h, if_neg hx, if_neg hx]
theorem valueAt_stored {K : Type} [DecidableEq K] (kvs : List (K × Value)) (k x : K) (v : Value) : valueAt (stored kvs k v) x = if x = k then some v else valueAt kvs x := by
  cases h : kvs.any (fun kv => decide (kv.1 = k)) with
  | true =>
    unfold stored
    rw [if_pos h, valueAt_map, h]
    by_cases hx : x = k <;> simp [hx]
  | false =>
    have hn : valueAt kvs k = none := by
      unfold valueAt
      rw [Option.map_eq_none_iff, List.find?_eq_none]
      intro y hy
      have := (List.any_eq_false.mp h) y hy
      simpa using this
    exact valueAt_snoc hn x
theorem valueAt_same {K : Type} [DecidableEq K] (kvs : List (K × Value)) (k : K) (v : Value) : valueAt (stored kvs k v) k = some v := by rw [valueAt_stored, if_pos rfl]
theorem stored_le {K : Type} [DecidableEq K] (kvs : List (K × Value)) (k : K) (v : Value) : (stored kvs k v).length ≤ kvs.length + 1 := by
  unfold stored
  split <;> simp
theorem news_uniq {h : Heap} {L a : Addr} {o1 o2 : Obj} {r : List (Addr × Obj)} (N : News g L h r) (h1 : (a, o1) ∈ r) (h2 : (a, o2) ∈ r) : o1 = o2 := Option.some.inj ((N _ h1).1.symm.trans (N _ h2).1)
theorem tup_tag {i j k l : Int} {t1 t2 t3 t4 : Nat} (h : tup [.int i t1, .int k t2] = tup [.int j t3, .int l t4]) : i = j ∧ k = l := by
  have := congrArg Obj.data h
  simp only [Data.seq.injEq, Array.mk.injEq, List.cons.injEq, Value.int.injEq] at this
  exact ⟨this.1.1.1, this.1.2.1.1⟩
theorem mem5 {a b c d e q : Addr × Obj} {rt : List (Addr × Obj)} (h : q ∈ rt) : q ∈ a :: b :: c :: d :: e :: rt := .tail _ (.tail _ (.tail _ (.tail _ (.tail _ h))))
theorem facts5 {h : Heap} {w0 : Addr} {o1 o2 o3 o4 o5 o6 : Obj} {r : List (Addr × Obj)} (_ : News g L h ((wk, o1) :: (w0, o2) :: (rs, o3) :: (sz, o4) :: (kn, o5) :: (tb, o6) :: r))
    (c : @LT.lt Nat _ tb kn ∧ @LT.lt Nat _ kn sz ∧ @LT.lt Nat _ sz rs ∧ @LT.lt Nat _ rs wk) : Hold (@LT.lt Nat _ tb kn ∧ @LT.lt Nat _ tb sz ∧ @LT.lt Nat _ tb rs ∧ @LT.lt Nat _ tb wk ∧ @LT.lt Nat _ kn sz ∧ @LT.lt Nat _ kn rs ∧ @LT.lt Nat _ kn wk ∧ @LT.lt Nat _ sz rs ∧ @LT.lt Nat _ sz wk ∧ @LT.lt Nat _ rs wk) := by
  obtain ⟨c1, c2, c3, c4⟩ := c
  exact ⟨c1, Nat.lt_trans c1 c2, Nat.lt_trans (Nat.lt_trans c1 c2) c3, Nat.lt_trans (Nat.lt_trans c1 c2) (Nat.lt_trans c3 c4), c2, Nat.lt_trans c2 c3, Nat.lt_trans c2 (Nat.lt_trans c3 c4), c3, Nat.lt_trans c3 c4, c4⟩
theorem dis_of_nil {o : Obj} (h : Obj.IsDictOf (intKind prog w) o []) : DIs (intKind prog w) o [] := by
  obtain ⟨es, ep, hc, a, b, c, d⟩ := h
  exact ⟨hc, es, ep, a, b, c, List.nodup_nil⟩
end
end Mine
namespace Mine
section
variable {prog : Program} {w : World} {A : Around} {E : Value → Shared → Prop} {s : Shared} {h₀ : Heap} {L D : Addr} {m : Str → Option Value} {news news' : List (Addr × Obj)} {n : Nat} {x y : Value} {k : Int} {u : Tok}
theorem del_slice2 {Q : Unit → Shared → Prop} (F : Fr h₀ L s.heap m) (N : News h₀ L s.heap news) (U : Upd D (listOf [x, y].toArray n) (listOf [].toArray (n + 1)) news news') (hk : k = 0)
    (h : ∀ h', Fr h₀ L h' m → News h₀ L h' news' → Q () { s with heap := h' }) :
    wpAny (model prog w) A (delItem (.ref D) (.ref s.heap.objs.size)) Q E { s with heap := s.heap.push { cls := .type "slice", data := .fields #[.int k u, .none, .none] } } := by
  subst hk
  have F1 := F.push { cls := .type "slice", data := .fields #[.int 0 u, .none, .none] }
  have N1 := N.pushKeep { cls := .type "slice", data := .fields #[.int 0 u, .none, .none] }
  have hs := Heap.IsSliceOf.new s.heap (.int 0 u) .none .none
  obtain ⟨os, hos, hcs, hds⟩ := id hs
  generalize hg : s.heap.push { cls := .type "slice", data := .fields #[.int 0 u, .none, .none] } = g at *
  obtain ⟨pre, post, rfl, rfl, a, b⟩ := U.split
  have z := N1 (D, listOf [x, y].toArray n) (List.mem_append.mpr (.inr (.head _)))
  have hTl : ({ s with heap := g } : Shared).TypeIs (.ref D) "list" := ⟨_, z.1, rfl⟩
  have hTs : ({ s with heap := g } : Shared).TypeIs (.ref s.heap.objs.size) "slice" := ⟨os, hos, hcs⟩
  unfold delItem
  try with_reducible refine wpAny_holding ?_
  refine wpAny_bind (wpAny_sequenceKey hTl (by decide) ?_)
  refine wpAny_bind (wpAny_callSpecial?_slot (name := Str.ofString "__delitem__") hTl PySem.F.slot_list_delitem
    (wpAny_call_entry PySem.F.slot_list_delitem hTl PySem.F.entry_list_delitem ?_ (PySem.F.args_list_delitem_2 _ _)))
  show wpAny _ _ (Builtin.List.listSubscript? (.ref s.heap.objs.size) >>= _) _ _ _
  refine wpAny_bind ?_
  unfold Builtin.List.listSubscript?
  refine wpAny_bind (wpAny_specialOf hTs slice_no_index ?_)
  simp only [Option.isNone_none, if_true]
  refine wpAny_pure ?_
  show wpAny _ _ (typeOf (.ref s.heap.objs.size) >>= _) _ _ _
  refine wpAny_bind (wpAny_typeOf hTs ?_)
  rw [if_neg (by decide)]
  rw [listSliceParts_eq]
  refine wpAny_bind (wpAny_bind (wpAny_field hos hds (x := .none) rfl (wpAny_bind (wpAny_listPart .none ?_))))
  rw [if_neg (show ¬ ((rawPart none == rawInt 0) = true) from Bool.false_ne_true)]
  refine wpAny_bind (wpAny_field hos hds (x := .int 0 u) rfl (wpAny_bind (wpAny_listPart (.int 0 u) ?_)))
  refine wpAny_bind (wpAny_field hos hds (x := .none) rfl (wpAny_bind (wpAny_listPart .none (wpAny_pure ?_))))
  refine wpAny_bind (m := Builtin.List.listItems (.ref D)) ?_
  unfold Builtin.List.listItems
  refine wpAny_bind (wpAny_seqItems z.1 rfl (wpAny_pure ?_))
  refine wpAny_bind (wpAny_of_eq (sliceIndices_raw (some 0) none none 2 (by decide)) ?_)
  refine wpAny_bind (wpAny_rule ?_)
  refine wpAny_bind (m := Builtin.List.listUpdate (.ref D) _) ?_
  unfold Builtin.List.listUpdate
  refine wpAny_updateSeq z.1 rfl ?_ (by rw [sizeLine_eq]; exact Nat.le_of_ble_eq_true rfl) ?_
  · refine wpAny_bind (wpAny_letGo ?_)
    refine wpAny_pure ⟨_, rfl, wpAny_pure ?_⟩
    exact h _ (F1.change (Heap.SameBut.update ..) z.2.1 z.2.2) (kl_turn _ N1 a b (by with_unfolding_all rfl) (by intro e; exact absurd (show 0 = 2 from e) (by decide)))
  · rw [sizeLine_eq]
    exact Nat.le_of_ble_eq_true (by with_unfolding_all rfl)
end
end Mine
example : True := by
  k_with "exec While Compare" => (k_here; k_dflt (refine Mine.stopFlow ?_))
  k_with "call builtin:list.pop" => (k_here; k_dflt (refine' Mine.pop_sym ?F ?N ?U ?hb ?_; (case F => k_asm); (case N => k_asm); (case U => k_upd); (case hb => k_extra "SZ"); k_whole); intro _ _ _; (try k_sweep))
  k_with "compareOp In int ref" => (k_here; k_dflt (first | (refine' Mine.din_some (knd := intKind _ _) ?N ?hm ?D ?hk ?lo ?hv ?_; (case N => k_asm); (case hm => k_mem); (case D => assumption); (case hk => exact intKind_is _ _ _ _); (case lo => assumption); (case hv => assumption); k_whole) | (refine' Mine.din_none (knd := intKind _ _) ?N ?hm ?D ?hk ?lo ?hv ?_; (case N => k_asm); (case hm => k_mem); (case D => assumption); (case hk => exact intKind_is _ _ _ _); (case lo => assumption); (case hv => assumption); k_whole)))
  k_with "compareOp NotIn int ref" => (k_here; k_dflt (first | (refine' Mine.dnin_some (knd := intKind _ _) ?N ?hm ?D ?hk ?lo ?hv ?_; (case N => k_asm); (case hm => k_mem); (case D => assumption); (case hk => exact intKind_is _ _ _ _); (case lo => assumption); (case hv => assumption); k_whole) | (refine' Mine.dnin_none (knd := intKind _ _) ?N ?hm ?D ?hk ?lo ?hv ?_; (case N => k_asm); (case hm => k_mem); (case D => assumption); (case hk => exact intKind_is _ _ _ _); (case lo => assumption); (case hv => assumption); k_whole)))
  k_with "setItem ref int" => (k_here; k_dflt (refine' Mine.dset_sym (knd := intKind _ _) ?F ?N ?U ?D ?hk ?hb ?_; (case F => k_asm); (case N => k_asm); (case U => (intro o'; k_upd)); (case D => assumption); (case hk => exact intKind_is _ _ _ _); (case hb => k_extra "SZ"); k_whole); intro _ _ _ _ _; (try k_sweep))
  k_with "call builtin:len" => (k_here; (with_reducible show wpAny _ _ (call (Value.builtin "len") [Value.ref _]) _ _ _); k_dflt (refine' Mine.len_sym ?N ?hm ?hj ?hb ?_; (case N => k_asm); (case hm => k_mem); (case hj => assumption); (case hb => k_extra "SZ"); k_whole))
  k_with "newTuple" => (k_here; k_dflt (refine' kup_newTuple ?F ?N ?_ ?z; (case F => k_asm); (case N => k_asm); (case z => kmk_size)); intro _ _ _ _ zl1; (try k_lt zl1); (try k_sweep))
  k_with "UnrEnd" => (k_dflt (refine' Mine.unr1k ?F ?N ?o1 ?o ?_; (case F => assumption); (case N => assumption); (case o1 => exact (by k_ne)); (case o => k_all)))
  k_with "call type:range" => (k_here; rw [show ((2 : Int) - 1) = 1 from rfl])
  k_with "call builtin:len" => (k_here; (with_reducible show wpAny _ _ (call (Value.builtin "len") [Value.ref _]) _ _ _); k_dflt (refine' Mine.dlen_sym (knd := intKind _ _) ?N ?hm ?D ?lo ?hj ?hb ?_; (case N => k_asm); (case hm => k_mem); (case D => assumption); (case lo => assumption); (case hj => assumption); (case hb => k_extra "SZ"); k_whole))
  k_with "subscriptTail" => (k_here; (with_reducible show wpAny _ _ (subscriptTail _ _ (Value.ref _) (Value.int _ _)) _ _ _); k_dflt (refine' Mine.ditem_sym (knd := intKind _ _) ?N ?hm ?D ?hk ?hv ?_ ?hs; (case N => k_asm); (case hm => k_mem); (case D => assumption); (case hk => exact intKind_is _ _ _ _); (case hv => first | assumption | exact Mine.valueAt_same _ _ _); (case hs => with_unfolding_all rfl); k_whole))
  k_with "call ref" => (k_here; (with_reducible show wpAny _ _ (call (Value.ref 371) _ _) _ _ _); k_dflt (refine' Mine.whole_size2 ?B ?F ?X ?N ?T ?hk ?hd ?hu ?h1 ?h2 ?h4 ?h3 ?k0 ?k1 ?h5 ?at1 ?at2 ?h6 ?h7 ?h8 ?h9 ?h10 ?h0 ?h0' ?h11 ?h12 ?D ?ok1 ?ok2 ?s1 ?s2 ?hn ?_; (case B => k_asm); (case F => k_asm); (case X => k_asm); (case N => k_asm); (case T => k_asm); (case hk => first | exact rfl | assumption); (case hd => ktr_room); (case hu => ktr_units); (case h1 => k_mem); (case h2 => k_mem); (case h4 => k_mem); (case h3 => k_mem); (case k0 => first | assumption | omega); (case k1 => first | assumption | omega); (case h5 => assumption); (case at1 => assumption); (case at2 => assumption); (case h6 => k_mem); (case h7 => k_mem); (case h8 => k_mem); (case h9 => k_mem); (case h10 => assumption); (case h0 => assumption); (case h0' => assumption); (case h11 => k_mem); (case h12 => k_mem); (case D => assumption); (case ok1 => assumption); (case ok2 => assumption); (case s1 => assumption); (case s2 => assumption); (case hn => ktd_sub); k_whole); intro _ _ _ _ _; (try k_sweep))
  k_with "delItem ref ref" => (k_here; k_dflt (refine' Mine.del_slice2 ?F ?N ?U ?hk ?_; (case F => k_asm); (case N => k_asm); (case U => k_upd); (case hk => first | rfl | omega); k_whole); intro _ _ _; (try k_sweep))
  trivial
namespace Mine
section
variable {prog : Program} {w : World} {A : Around} {E : Value → Shared → Prop} {h : Heap} {g : Array GenState} {d : Drawn} {t : Nat} {os : OsState}
variable {nm q : Str} {C N : Addr} {bs bm bmB : List Value} {hdct : Bool} {sn : List Str} {sub : List Value} {ab : Bool} {col : Option Bool} {dd : Option Addr} {k0 k1 k2 k3 k5 : Option Value} {B newId initId : String}
/-- a class of one's own, below another of one's own, with its own __init__ -/
theorem call_initT (F : ExcBaseFacts B newId initId bmB) (T : OwnTail h bmB bm) {mN : Str → Option Value} {rest : List Value} {fI : Addr} {oI : Obj} {Q : Value → Shared → Prop}
    (hC : h.get? C = some (excClassObj nm q C N bs bm hdct sn sub ab col dd k0 k1 k2 k3 k5 newId)) (hn : h.Ns N mN) (hi : mN "__init__" = some (.ref fI)) (hfI : h.get? fI = some oI) (hfc : oI.cls = .type "function")
    (hq : ∀ h' e, Heap.MadeExcOf h h' e (.ref C) rest →
      wpAny (model prog w) (A.under (.builtin "type.__call__" ⟨.ref C :: rest, []⟩)) (call (.ref fI) (.ref e :: rest)) (fun r s' => r = .none ∧ Q (.ref e) s') E ⟨h', g, d, t, os⟩) (hrest : rest.length ≤ sizeLine) :
    wpAny (model prog w) A (call (.ref C) rest) Q E ⟨h, g, d, t, os⟩ := by
  have f1 := tc_lookup
  have f2 := tc_bind (.ref C)
  have hT : (⟨h, g, d, t, os⟩ : Shared).TypeIs (.ref C) "type" := ⟨_, hC, rfl⟩
  refine wpAny_call (codeAny_of_tree ?_)
  show wpAny _ _ (callAny (.ref C) _) _ _ _
  repeat (any_goals (first | assumption | with_reducible refine wpAny_loadPart_at hC ?_ | wp_step))
  refine ⟨rfl, codeAny_call_builtin_at (Code.quiet_builtin _ (by decide +kernel)) entry_typeCall (wpAny_check_type_call_sub hC ?_)⟩
  repeat (first | with_reducible refine wpAny_loadPart_at hC ?_ | with_reducible refine wpAny_madeBy_exc hC ?_ | wp_step)
  refine codeAny_call_builtin_code (Code.quiet_builtin _ F.quiet) (wpAny_check_new_subT F T hC ?_)
  refine codeAny_exc_new_subT F T hC ?_ hrest
  show wpAny _ _ _ _ _ _
  have up : ∀ b o, h.get? b = some o → ((h.push { cls := .type "tuple", data := .seq rest.toArray }).push { cls := .ref C, data := .fields #[.ref h.objs.size, .none, .none, .none, .bool false, .none] }).get? b = some o :=
    fun b o e => Heap.get?_push_of_some _ (Heap.get?_push_of_some _ e)
  have hC₁ := up _ _ hC
  have hfI₁ := up _ _ hfI
  have hn₁ := hn.keeps up
  have hget : ((h.push { cls := .type "tuple", data := .seq rest.toArray }).push
      { cls := .ref C, data := .fields #[.ref h.objs.size, .none, .none, .none, .bool false, .none] }).get? (h.objs.size + 1) = some
      { cls := .ref C, data := .fields #[.ref h.objs.size, .none, .none, .none, .bool false, .none] } := by heap_get
  have hcC : (Value.ref C :: bm).contains (.ref C) = true := by simp
  unfold isInstance
  repeat (first | with_reducible refine wpAny_loadPart_at hget ?_ | wp_step)
  refine wpAny_isSubtype_exc hC₁ ?_
  rw [hcC]
  repeat wp_step
  show wpAny _ _ (typeLookup (.ref C) _) _ _ _
  rw [typeLookup_eq]
  refine wpAny_bind (wpAny_mroOf_exc hC₁ ?_)
  rw [lookupAlong_cons]
  refine wpAny_bind (wpAny_classOwn_exc hC₁ hn₁ ?_)
  rw [hi]
  refine wpAny_pure ?_
  refine wpAny_holding (wpAny_bind ?_)
  unfold bindSpecial
  refine wpAny_bind (wpAny_typeOf (T := "function") ⟨_, hfI₁, hfc⟩ ?_)
  rw [if_pos (by decide)]
  refine wpAny_pure (wpAny_bind (wpAny_mono (hq _ (h.objs.size + 1) ⟨up, Heap.get?_none_of_le (Nat.le_succ _), h.objs.size, hget, Heap.get?_none_of_le (Nat.le_refl _), ?_⟩) (fun r s' hr => ?_) fun _ _ x => x))
  · exact Heap.get?_push_of_some _ (Heap.get?_push_at rfl rfl)
  · obtain ⟨rfl, hQ⟩ := hr
    wp_walk
    exact hQ
end
end Mine
namespace Mine
theorem ns_some_of {K : Frag} {h : Heap} {N : Addr} {mg : Str → Option Value} {n : Str} {v : Value} (X : K.In h) (G : h.Ns N mg) (e : nsIn K N n = some (some v)) : mg n = some v := by
  obtain ⟨o, es, ep, ho, hd, _, hf⟩ := G
  unfold nsIn at e
  split at e
  · rename_i c d es' n' sl q
    have := X _ _ q
    rw [ho] at this
    cases this
    cases hd
    split at e
    · rename_i y he
      rw [← hf]
      unfold nsFind findBy
      rw [← Array.find?_toList, he]
      simpa using e
    · split at e <;> cases e
  · cases e
section
open Builtin Builtin.ObjectAttr
variable {prog : Program} {w : World} {A : Around} {E : Value → Shared → Prop} {h : Heap} {g : Array GenState} {d : Drawn} {t : Nat} {os : OsState}
variable {nm q : Str} {C N x : Addr} {bs : List Value} {sn : List Str} {sub : List Value} {ab : Bool} {col : Option Bool} {dd : Option Addr} {k0 k1 k2 k3 k5 : Option Value} {newId : String}
  {K : Frag} {name : Str} {v : Value} {C2 : Addr}
noncomputable abbrev bmE : List Value := [.type "Exception", .type "BaseException", .type "object"]
theorem exc_store {tk : Tok} {vs : Array Value} {Q : Fin → Shared → Prop} (X : K.In h)
    (hC : h.get? C = some (excClassObj nm q C N bs (.ref C2 :: bmE) true sn sub ab col dd k0 k1 k2 k3 k5 newId)) (hna : findIn K (.ref C) name = some none)
    (hx : h.get? x = some { cls := .ref C, data := .fields vs })
    (hq : ∀ h' tk', (∀ b o, b ≠ x → h.get? b = some o → h'.get? b = some o) → h'.get? x = some { cls := .ref C, dict := some h.objs.size, data := .fields vs } →
      h'.get? h.objs.size = some (dictOf [⟨PyData.keyHash w.params name, .str name t, v⟩] 1) → Q (.done (.ret .none)) ⟨h', g, d, tk', os⟩) :
    wpAny (model prog w) A (Builtin.«object.__setattr__» ⟨[.ref x, .str name tk, v], []⟩) Q E ⟨h, g, d, t, os⟩ := by
  have hpass := PySem.F.store_Exception.passes (.ref x)
  rw [osa_eq, refuse_eq]
  have L : Looks (model prog w) h (typeLookup (.ref C) name) none := looks_findIn X hna
  refine wpAny_bind (wpAny_bind ?_)
  repeat (first | (rw [refuseLoop_ref, refuseLoop_ref, hpass]) | (with_reducible refine wpAny_loadPart_at hx ?_) | with_reducible refine wpAny_mroOf_exc hC ?_ | wp_step)
  refine L.here ?_
  refine wpAny_bind (wpAny_pure ?_)
  show wpAny _ _ (storeInOwnDict (.ref x) (.ref C) (.str name tk) name v false) _ _ _
  unfold storeInOwnDict
  refine wpAny_bind (wpAny_pure ?_)
  rw [if_neg (by simp)]
  refine wpAny_bind ?_
  show wpAny _ _ (instanceDict x true) _ _ _
  unfold instanceDict
  refine wpAny_bind (wpAny_loadPart_at hx ?_)
  have hxs : x ≠ h.objs.size := Nat.ne_of_lt (Heap.lt_size hx)
  have hx₁ : (h.push { cls := .type "dict", data := .dict #[] }).get? x = some { cls := .ref C, data := .fields vs } := Heap.get?_push_of_some _ hx
  have hgd : ((h.push { cls := .type "dict", data := .dict #[] }).update x fun o => { cls := o.cls, dict := some h.objs.size, data := o.data, slots := o.slots }).get? h.objs.size
      = some { cls := .type "dict", data := .dict #[] } := (Heap.get?_update_ne _ _ _ _ hxs.symm).trans (Heap.get?_push_at rfl rfl)
  repeat (first | with_reducible refine wpAny_loadPart_at hC ?_ | (with_reducible refine wpAny_askSetting ?_) | wp_step)
  refine hq _ _ (fun b o hb e => ?_) ?_ ?_
  · exact (Heap.get?_update_ne _ _ _ _ (Nat.ne_of_lt (Heap.lt_size e))).trans ((Heap.get?_update_ne _ _ _ _ hb).trans (Heap.get?_push_of_some _ e))
  · exact (Heap.get?_update_ne _ _ _ _ hxs).trans (Heap.get?_update_self _ hx₁ rfl)
  · exact Heap.get?_update_self _ hgd rfl
theorem exc_setattr {vs : Array Value} {Q : Unit → Shared → Prop} (X : K.In h)
    (hC : h.get? C = some (excClassObj nm q C N bs (.ref C2 :: bmE) true sn sub ab col dd k0 k1 k2 k3 k5 newId)) (hsa : findIn K (.ref C) "__setattr__" = some (some (.builtin "object.__setattr__"))) (hna : findIn K (.ref C) name = some none)
    (hx : h.get? x = some { cls := .ref C, data := .fields vs })
    (hq : ∀ h' tk' u, (∀ b o, b ≠ x → h.get? b = some o → h'.get? b = some o) → h'.get? x = some { cls := .ref C, dict := some h.objs.size, data := .fields vs } →
      h'.get? h.objs.size = some (dictOf [⟨PyData.keyHash w.params name, .str name u, v⟩] 1) → Q () ⟨h', g, d, tk', os⟩) :
    wpAny (model prog w) A (setAttr (.ref x) name v) Q E ⟨h, g, d, t, os⟩ := by
  have SF := PySem.F.store_Exception
  have f3 := SF.slot.bind (.ref x)
  have L : Looks (model prog w) h (typeLookup (.ref C) "__setattr__") (some (.builtin "object.__setattr__")) := looks_findIn X hsa
  have hcB : (Value.ref C :: .ref C2 :: bmE).contains (.type "object") = true := by simp
  unfold setAttr callSpecial? specialOf
  refine wpAny_bind (wpAny_mkText ?_)
  have I : W.InstAt h x { cls := .ref C, data := .fields vs } C none := ⟨hx, rfl, rfl, trivial⟩
  refine wpAny_bind (wpAny_bind (wpAny_bind (I.type.here (L.here ?_))))
  refine wpAny_holding ?_
  rw [f3]
  refine wpAny_bind (wpAny_pure (wpAny_bind (wpAny_call (codeAny_call_builtin SF.slot.plain SF.entry ?_))))
  have hmro : Looks (model prog w) h (mroOf (.ref C)) (.ref C :: .ref C2 :: bmE) := fun A Q E s k q' => by
    obtain ⟨hh, g, d, tk, os⟩ := s
    exact wpAny_mroOf_exc (k _ _ hC) q'
  have sub : Looks (model prog w) h (isInstance (.ref x) (.type "object")) true := I.type.andThen (fun A Q E s k q' => by
    obtain ⟨hh, g, d, tk, os⟩ := s
    refine wpAny_isSubtype_exc (k _ _ hC) ?_
    rw [hcB]
    exact q')
  refine @check_slot (model prog w) _ _ ⟨h, g, d, t + 1, os⟩ "object.__setattr__" "object" "__setattr__" (.ref x) [.str name t, v] [] _ SF.kind SF.split sub (SF.args (.ref x) (.str name t) v) ?_
  refine exc_store X hC hna hx fun h' tk' a1 a2 a3 => ?_
  exact wpAny_pure (wpAny_pure (hq h' tk' _ a1 a2 a3))
end
section
variable {prog : Program} {w : World} {A : Around} {E : Value → Shared → Prop} {s : Shared} {h₀ : Heap} {L e : Addr} {m : Str → Option Value} {led : List (Addr × Obj)}
theorem exc_setK {name : Str} {v : Value} {vs : Array Value} {Q : Unit → Shared → Prop} (F : Fr h₀ L s.heap m) (N : News h₀ L s.heap ((e, { cls := .ref 51, data := .fields vs }) :: led)) (X : (Mine.kf w.params).In h₀) (off : ∀ p ∈ led, p.1 ≠ e)
    (hna : findIn (Mine.kf w.params) (.ref 51) name = some none)
    (hret : ∀ h' tk' d u, Fr h₀ L h' m → News h₀ L h' ((d, dictOf [⟨PyData.keyHash w.params name, .str name u, v⟩] 1) :: (e, { cls := .ref 51, dict := some d, data := .fields vs }) :: led) → @LT.lt Nat _ e d → AllLt d led → Q () { s with heap := h', toks := tk' }) :
    wpAny (model prog w) A (setAttr (.ref e) name v) Q E s := by
  have XF := X.keeps F.keep
  have z := N _ (.head _)
  have hC := XF 51 _ (by k_is)
  obtain ⟨hp, g, d, t, os⟩ := s
  refine exc_setattr XF hC (by k_is) hna z.1 fun h' tk' u a1 a2 a3 => ?_
  have nL : L ≠ e := fun q => z.2.1 q.symm
  have F2 : Fr h₀ L h' m := ⟨by obtain ⟨o, es, ep, q, r⟩ := F.ns; exact ⟨o, es, ep, a1 _ _ nL q, r⟩, fun b o q => a1 b o (fun c => by subst c; rw [z.2.2] at q; cases q) (F.keep b o q), F.above⟩
  have hlt : ∀ b o, hp.get? b = some o → b < hp.objs.size := fun b o q => Heap.lt_size q
  refine hret h' tk' _ u F2 ?_ (hlt _ _ z.1) (allLt_of fun p hp' => hlt _ _ (N p (.tail _ hp')).1)
  have hn : ∀ b, hp.get? b = none → h₀.get? b = none := fun b q => by
    cases c : h₀.get? b with
    | none => rfl
    | some o => rw [F.keep b o c] at q; cases q
  intro p hp'
  rcases List.mem_cons.mp hp' with rfl | hp'
  · refine ⟨a3, fun c => ?_, hn _ (Heap.get?_none_of_le (Nat.le_refl _))⟩
    obtain ⟨o, es, ep, q, r⟩ := F.ns
    have := hlt _ _ q
    exact absurd (c ▸ this) (Nat.lt_irrefl _)
  · rcases List.mem_cons.mp hp' with rfl | hp'
    · exact ⟨a2, z.2.1, z.2.2⟩
    · have y := N p (.tail _ hp')
      exact ⟨a1 _ _ (off p hp') y.1, y.2⟩
end
end Mine
example : True := by
  k_with "setAttr ref" => (k_here; (with_reducible show wpAny _ _ (setAttr (Value.ref _) (PySem.Str.ofString "ball") _) _ _ _); k_dflt (refine' Mine.exc_setK ?F ?N ?X ?off ?na ?_; (case F => assumption); (case N => assumption); (case X => assumption); (case off => assumption); (case na => k_is); k_whole); intro _ _ _ _ _ _ _ _; (try k_sweep))
  trivial
namespace Mine
noncomputable def excO (d ta : Addr) : Obj := { cls := .ref 51, dict := some d, data := .fields #[.ref ta, .none, .none, .none, .bool false, .none] }
noncomputable def ballD (w : World) (u : Nat) (v : Value) : Obj := dictOf [⟨PyData.keyHash w.params (Str.ofString "ball"), .str (Str.ofString "ball") u, v⟩] 1
section
variable {prog : Program} {w : World} {p : Program} {loose : List Str} {mean : ExcName → Option Value} {mg mb : Str → Option Value}
  {dp un : Nat} {gd : Option (List Code)} {cn : Str} {cs : Scope} {a : Addr} {ccd : Value} {cl : List (Str × Addr)} {outer : List Env} {A₀ : Around} {base h₀ : Heap} {L : Addr} {m : Str → Option Value} {led : List (Addr × Obj)} {s : Shared}
  {Q E : Value → Shared → Prop}
theorem prolog_error (B : Below A₀ base outer h₀) (F : Fr h₀ L s.heap m) (X : (Mine.kf w.params).In h₀) (N : News h₀ L s.heap led) (T : Top p loose mean mg mb h₀) (hk : cs.kind = .function)
  (hd : dp + 5 < recursionLimit) (hu : un + 60 < cLine) {v : Value}
  (hret : ∀ h' tk' e d ta u, Fr h₀ L h' m → News h₀ L h' ((d, ballD w u v) :: (e, excO d ta) :: (ta, tup [v]) :: led) → (∀ q ∈ (d, ballD w u v) :: (ta, tup [v]) :: led, q.1 ≠ e) → Q (.ref e) { s with heap := h', toks := tk' }) :
  wpAny (model prog w) (ktrTop dp un gd cn cs L a ccd cl outer) (call (.ref 51) [v]) Q E s := by
  have XF := X.keeps F.keep
  obtain ⟨hp, g, d, t, os⟩ := s
  have hC := XF 51 _ (by k_is)
  have hC31 := XF 31 _ (by k_is)
  have hf48 := XF 48 _ (by k_is)
  have hN30 : nsOkIn (Mine.kf w.params) 30 = true := by with_unfolding_all rfl
  have hN50 : nsOkIn (Mine.kf w.params) 50 = true := by with_unfolding_all rfl
  have i30 : nsIn (Mine.kf w.params) 30 (Str.ofString "__init__") = some none := by k_is
  have i50 : nsIn (Mine.kf w.params) 50 (Str.ofString "__init__") = some (some (.ref 48)) := by k_is
  have TT : OwnTail hp bmE (.ref 31 :: bmE) := .own hC31 (.of_isNs (isNs_of_in XF hN30)) (nsMap_none_of_in XF hN30 i30) .base
  refine call_initT PySem.F.excBase_Exception TT hC (.of_isNs (isNs_of_in XF hN50)) (ns_some_of XF (.of_isNs (isNs_of_in XF hN50)) i50) hf48 rfl ?_ (by rw [sizeLine_eq]; exact Nat.le_of_ble_eq_true rfl)
  intro h' e hm
  obtain ⟨ta, he, htn, hta⟩ := hm.there
  have F2 : Fr h₀ L h' m := ⟨by obtain ⟨o, es, ep, q, r⟩ := F.ns; exact ⟨o, es, ep, hm.keeps _ _ q, r⟩, fun b o q => hm.keeps b o (F.keep b o q), F.above⟩
  have hn : ∀ b, hp.get? b = none → h₀.get? b = none ∧ b ≠ L := fun b q => by
    refine ⟨?_, fun c => ?_⟩
    · cases c : h₀.get? b with
      | none => rfl
      | some o => rw [F.keep b o c] at q; cases q
    · obtain ⟨o, es, ep, q', r⟩ := F.ns
      rw [c, q'] at q; cases q
  have N2 : News h₀ L h' ((e, { cls := .ref 51, data := .fields #[.ref ta, .none, .none, .none, .bool false, .none] }) :: (ta, tup [v]) :: led) := by
    intro q hq
    rcases List.mem_cons.mp hq with rfl | hq
    · exact ⟨he, (hn _ hm.new).2, (hn _ hm.new).1⟩
    · rcases List.mem_cons.mp hq with rfl | hq
      · exact ⟨hta, (hn _ htn).2, (hn _ htn).1⟩
      · exact ⟨hm.keeps _ _ (N q hq).1, (N q hq).2⟩
  have off : ∀ q ∈ (ta, tup [v]) :: led, q.1 ≠ e := by
    intro q hq
    rcases List.mem_cons.mp hq with rfl | hq
    · intro c
      have c' : ta = e := c
      rw [c', he] at hta
      cases hta
    · intro c
      have := (N q hq).1
      rw [c, hm.new] at this
      cases this
  clear hn
  refine wpAny_call ?_
  clear F N XF hC hC31 hf48 TT he hta htn hm
  k_dflt ktr_enter
  k_steps
  refine hret _ _ _ _ _ _ (by assumption) (by assumption) ?_
  intro q hq
  rcases List.mem_cons.mp hq with rfl | hq
  · exact (by k_ne)
  · exact off q hq
end
end Mine
namespace Mine
/-- an exception in flight whose own dict is known -/
noncomputable def TrD (base : Heap) (e : Addr) (cls a0 fl : Value) (d : Addr) (h : Heap) : Prop :=
  ∃ oe vs T oT ts, h.get? e = some oe ∧ (oe.cls = cls ∧ oe.dict = some d ∧ vs[0]? = some a0) ∧ oe.data = .fields vs ∧ vs[1]? = some (.ref T) ∧ base.get? T = none ∧ T ≠ e ∧ h.get? T = some oT ∧ oT.data = .fields ts ∧ ts[3]? = some fl
noncomputable def FlyD (base : Heap) (l : List Env) (e : Addr) (cls a0 fl : Value) (d : Addr) (h : Heap) : Prop := base.StaysIn h ∧ base.get? e = none ∧ h.FunFrames base l ∧ TrD base e cls a0 fl d h
theorem FlyD.there {base h : Heap} {l : List Env} {e d : Addr} {cls a0 fl : Value} (x : FlyD base l e cls a0 fl d h) : ∃ ob, h.get? e = some ob ∧ ob.cls = cls := by
  obtain ⟨_, _, _, oe, _, _, _, _, he, hc, _⟩ := x
  exact ⟨oe, he, hc.1⟩
theorem FlyD.first {base h : Heap} {l : List Env} {e d : Addr} {cls a0 fl : Value} (x : FlyD base l e cls a0 fl d h) : ∃ oe vs, h.get? e = some oe ∧ oe.cls = cls ∧ oe.dict = some d ∧ oe.data = .fields vs ∧ vs[0]? = some a0 := by
  obtain ⟨_, _, _, oe, vs, _, _, _, he, hc, hd, _⟩ := x
  exact ⟨oe, vs, he, hc.1, hc.2.1, hd, hc.2.2⟩
theorem FlyD.base {base B h : Heap} {l : List Env} {e d : Addr} {cls a0 fl : Value} (k : base.StaysIn B) (x : FlyD B l e cls a0 fl d h) : FlyD base l e cls a0 fl d h := by
  obtain ⟨f1, f2, f3, oe, vs, T, oT, ts, a1, a2, a3, a4, a5, a6⟩ := x
  exact ⟨fun b o q => f1 b o (k b o q), fresh_of_stays k f2, funFrames_base k f3, oe, vs, T, oT, ts, a1, a2, a3, a4, fresh_of_stays k a5, a6⟩
theorem dict_mapFields (o : Obj) (f) : (o.mapFields f).dict = o.dict := by
  obtain ⟨c, d, dt, sl⟩ := o; cases dt <;> rfl
section
variable {M : Model} {A : Around} {E : Value → Shared → Prop} {s : Shared}
theorem entryD {base : Heap} {env : Env} {outer : List Env} {L e d : Addr} {oe : Obj} {vs : Array Value} {head a0 : Value} {hadNext : Bool} {Q : Unit → Shared → Prop}
    (hfr : A.frames = some (env :: outer)) (hl : s.heap.FunFrames base (env :: outer)) (hf : env.frame = some L)
    (he : s.heap.get? e = some oe) (hkb : base.StaysIn s.heap) (hen : base.get? e = none) (hd : oe.data = .fields vs) (hsz : 1 < vs.size) (h0 : vs[0]? = some a0) (hdi : oe.dict = some d)
    (h : ∀ h', FlyD base (env :: outer) e oe.cls a0 (rawInt L) d h' → s.heap.UpToSlots h' → Q () { s with heap := h' }) :
    wpAny M A (do let a ← frameOf env; let pl ← entryPlaceOf L hadNext; let b ← EntryCells.newEntry head a .none (rawInt L) .none pl; setField (.ref e) 1 b) Q E s := by
  have hene : e ∉ (env :: outer).filterMap (·.frame) := fun hm => by
    obtain ⟨_, o, ho, hnf⟩ := hl.mem hm
    rw [he] at ho; injection ho with ho; subst ho; exact hnf vs hd
  refine wpAny_bind (wpAny_frameOf_fun hfr hl hf fun h₁ hs₁ => ?_)
  refine wpAny_bind (wpAny_entryPlaceOf fun pl hpl => ?_)
  unfold EntryCells.newEntry newFields
  refine wpAny_bind (wpAny_newObj_type ?_ (hpl.sizeOk5 _ _ _ _ _))
  have he₁ : h₁.get? e = some oe := (hs₁.2.1 e hene).trans he
  have kb₁ : base.StaysIn h₁ := fun b o hbo => (hs₁.2.1 b fun hm => by rw [(hl.mem hm).1] at hbo; cases hbo).trans (hkb b o hbo)
  have he₂ := Heap.get?_push_of_some (h := h₁) { cls := .type "traceback", dict := none, data := .fields ([head, .ref L, .none, rawInt L, .none] ++ (if pl.isEmpty then List.replicate 6 Value.none else pl)).toArray } he₁
  have hTe : h₁.objs.size ≠ e := Nat.ne_of_gt (Heap.lt_size he₁)
  have hd₃ := Obj.data_mapFields hd (·.setIfInBounds 1 (Value.ref h₁.objs.size))
  have he₃ := Heap.get?_update_self (Obj.mapFields (·.setIfInBounds 1 (Value.ref h₁.objs.size))) he₂ (Obj.isFreed_of_fields hd₃)
  have hT₃ := (Heap.get?_update_other (h₁.push { cls := .type "traceback", dict := none, data := .fields ([head, .ref L, .none, rawInt L, .none] ++ (if pl.isEmpty then List.replicate 6 Value.none else pl)).toArray })
    (Obj.mapFields (·.setIfInBounds 1 (Value.ref h₁.objs.size))) (Ne.symm hTe)).trans (Heap.get?_push_size h₁ rfl)
  have keep : ∀ b o, b ≠ e → h₁.get? b = some o →
      ((h₁.push { cls := .type "traceback", dict := none, data := .fields ([head, .ref L, .none, rawInt L, .none] ++ (if pl.isEmpty then List.replicate 6 Value.none else pl)).toArray }).update e (Obj.mapFields (·.setIfInBounds 1 (Value.ref h₁.objs.size)))).get? b = some o :=
    fun b o hbe hb => by
      rw [Heap.get?_update_other _ _ (Ne.symm hbe)]
      exact Heap.get?_push_of_some _ hb
  have noRecord : ∀ b o, s.heap.get? b = some o → (∀ vs, o.data ≠ .fields vs) → b ≠ e := fun b o hb hnf q => by
    rw [q, he] at hb; injection hb with hb; subst hb; exact hnf vs hd
  refine wpAny_setField he₂ hd hsz (h _ ⟨fun b o hbo => keep b o (fun q => by rw [q, hen] at hbo; cases hbo) (kb₁ b o hbo), hen, hl.of_keeps fun b o hb hnf => ?_, ?_⟩ fun b o hb hnf => ?_)
  · obtain ⟨sl, hs⟩ := hs₁.2.2 b o hb
    exact ⟨_, keep b _ (noRecord b o hb hnf) hs, rfl⟩
  · exact ⟨_, _, h₁.objs.size, _, _, he₃, ⟨Obj.cls_mapFields _ _, (dict_mapFields _ _).trans hdi, by rw [Array.getElem?_setIfInBounds_ne (by decide)]; exact h0⟩, hd₃, by simp [hsz], kb₁.fresh, hTe, hT₃, rfl, by first | (simp; done) | (rcases hpl with rfl | ⟨_, _, _, _, _, _, _, rfl⟩ <;> simp)⟩
  · obtain ⟨sl, hs⟩ := hs₁.2.2 b o hb
    exact ⟨sl, keep b _ (noRecord b o hb hnf) hs⟩
theorem flightD {base : Heap} {l : List Env} {e d : Addr} {cls a0 fl : Value} {Q : Unit → Shared → Prop} (x : FlyD base l e cls a0 fl d s.heap)
    (h : ∀ h', FlyD base l e cls a0 .none d h' → s.heap.UpToSlots h' → Q () { s with heap := h' }) : wpAny M A (setFlight (.ref e) none) Q E s := by
  obtain ⟨hkb, hen, hl, oe, vs, T, oT, ts, he, hcls, hd, h1, hnT, hTe, hT, hdT, h3⟩ := x
  have hsz3 : 3 < ts.size := (Array.getElem?_eq_some_iff.mp h3).1
  have other : ∀ b, b ≠ T → (s.heap.update T (Obj.mapFields (·.setIfInBounds 3 ((none : Option Addr).elim Value.none fun f => rawInt f)))).get? b = s.heap.get? b :=
    fun b hb => Heap.get?_update_other _ _ (Ne.symm hb)
  have noRecord : ∀ b o, s.heap.get? b = some o → (∀ vs, o.data ≠ .fields vs) → b ≠ T := fun b o hb hnf q => by
    rw [q, hT] at hb; injection hb with hb; subst hb; exact hnf ts hdT
  unfold setFlight
  refine wpAny_bind (wpAny_field he hd h1 ?_)
  rw [if_pos (show (Value.ref T != Value.none) = true from by simp)]
  refine wpAny_setField hT hdT hsz3 (h _ ⟨fun b o hbo => (other b fun q => by rw [q, hnT] at hbo; cases hbo).trans (hkb b o hbo), hen,
    hl.of_keeps fun b o hb hnf => ⟨o, (other b (noRecord b o hb hnf)).trans hb, rfl⟩, ?_⟩ fun b o hb hnf => ⟨o.slots, (other b (noRecord b o hb hnf)).trans hb⟩)
  exact ⟨oe, vs, T, _, _, (other e (Ne.symm hTe)).trans he, hcls, hd, h1, hnT, hTe, Heap.get?_update_self _ hT (Obj.isFreed_of_fields (Obj.data_mapFields hdT _)), Obj.data_mapFields hdT _, by simp [hsz3]⟩
theorem leave_firstD {base : Heap} {env : Env} {outer : List Env} {L e d : Addr} {oe : Obj} {vs : Array Value} {a0 : Value} {Q : Unit → Shared → Prop}
    (hfr : A.frames = some (env :: outer)) (hl : s.heap.FunFrames base (env :: outer)) (hf : env.frame = some L)
    (he : s.heap.get? e = some oe) (hkb : base.StaysIn s.heap) (hen : base.get? e = none) (hd : oe.data = .fields vs) (h1 : vs[1]? = some .none) (h0 : vs[0]? = some a0) (hdi : oe.dict = some d)
    (h : ∀ h', FlyD base outer e oe.cls a0 .none d h' → s.heap.UpToSlots h' → Q () { s with heap := h' }) : wpAny M A (leaving env (.ref e)) Q E s := by
  unfold leaving noteFrame
  simp only [hf]
  refine wpAny_bind (wpAny_bind (wpAny_field he hd h1 ?_))
  rw [if_neg (by decide)]
  refine entryD hfr hl hf he hkb hen hd (Array.getElem?_eq_some_iff.mp h1).1 h0 hdi fun h' x1 x2 => ?_
  refine flightD x1 fun h'' y1 y2 => ?_
  obtain ⟨k1, k2, ⟨_, _, k3⟩, k4⟩ := y1
  exact h h'' ⟨k1, k2, k3, k4⟩ (x2.trans y2)
theorem noteD {base : Heap} {env : Env} {outer : List Env} {L e d : Addr} {cls a0 : Value} {Q : Unit → Shared → Prop}
    (hfr : A.frames = some (env :: outer)) (hf : env.frame = some L) (x : FlyD base (env :: outer) e cls a0 .none d s.heap)
    (h : ∀ h', FlyD base (env :: outer) e cls a0 (rawInt L) d h' → s.heap.UpToSlots h' → Q () { s with heap := h' }) : wpAny M A (noteFrame (.ref e) env) Q E s := by
  obtain ⟨hkb, hen, hl, oe, vs, T, oT, ts, he, ⟨hcls, hdi, h0⟩, hd, h1, hnT, hTe, hT, hdT, h3⟩ := x
  subst hcls
  unfold noteFrame
  simp only [hf]
  refine wpAny_bind (wpAny_field he hd h1 ?_)
  rw [if_pos (show (Value.ref T != Value.none) = true from by simp)]
  refine wpAny_bind (wpAny_field hT hdT h3 ?_)
  rw [if_neg (show ¬ ((Value.none == rawInt L) = true) from by simp [rawInt])]
  refine wpAny_bind (wpAny_setField hT hdT (Array.getElem?_eq_some_iff.mp h3).1 ?_)
  have other : ∀ b, b ≠ T → (s.heap.update T (Obj.mapFields (·.setIfInBounds 3 Value.none))).get? b = s.heap.get? b := fun b hb => Heap.get?_update_other _ _ (Ne.symm hb)
  have noRecord : ∀ b o, s.heap.get? b = some o → (∀ vs, o.data ≠ .fields vs) → b ≠ T := fun b o hb hnf q => by
    rw [q, hT] at hb; injection hb with hb; subst hb; exact hnf ts hdT
  exact entryD hfr (hl.of_keeps fun b o hb hnf => ⟨o, (other b (noRecord b o hb hnf)).trans hb, rfl⟩) hf ((other e (Ne.symm hTe)).trans he)
    (fun b o hbo => (other b fun q => by rw [q, hnT] at hbo; cases hbo).trans (hkb b o hbo)) hen hd (Array.getElem?_eq_some_iff.mp h1).1 h0 hdi
    fun h' x1 x4 => h h' x1 fun b o hb hnf => x4 b o ((other b (noRecord b o hb hnf)).trans hb) hnf
end
section
variable {g h' : Heap} {L I : Addr} {it : Obj} {rest : (Str → Option Value) → List (Addr × Obj) → Prop} {s₁ : Shared} {tk : Nat} {m' : Str → Option Value} {news' : List (Addr × Obj)} {p1 : Addr × Obj}
theorem unrw1 (F : Fr g L h' m') (N : News g L h' (p1 :: (I, it) :: news')) (off1 : p1.1 ≠ I) (off : ∀ p ∈ news', p.1 ≠ I) (r : rest m' (p1 :: news')) : UnrEndW g L s₁ [(I, it)] rest { s₁ with heap := h', toks := tk } :=
  ⟨h', tk, m', p1 :: news', rfl, F, fun q hq => N q (by
    simp only [List.cons_append, List.nil_append, List.mem_cons] at hq ⊢
    rcases hq with h | h | h <;> simp [h]), fun q hq q' hq' => by
    rw [List.mem_singleton.mp hq']
    rcases List.mem_cons.mp hq with rfl | h
    · exact off1
    · exact off q h, r⟩
end
end Mine
example : True := by
  k_with "call ref" => (k_here; (with_reducible show wpAny _ _ (call (Value.ref 51) _) _ _ _); k_dflt (refine' Mine.prolog_error ?B ?F ?X ?N ?T ?hk ?hd ?hu ?_; (case B => k_asm); (case F => k_asm); (case X => k_asm); (case N => k_asm); (case T => k_asm); (case hk => first | exact rfl | assumption); (case hd => ktr_room); (case hu => ktr_units); k_whole); intro _ _ _ _ _ _ _ _ _; (try k_sweep))
  k_with "exec For Name Name cons nil" => (k_here; (rename Fr _ _ _ _ => lF'); (with_unfolding_all refine' For_turns lF' ?_; k_whole))
  k_with "pyIter ref" => (k_here; (with_reducible show wpAny _ _ (pyIter (Value.ref _)) (fun it s₂ => TurnsAt _ _ _ _ _ _ _ _ _ it s₂) _ _); (with_unfolding_all refine' iter_tupTurns ?hh ?F ?N ?hm ?hc ?hd ?_; (case hh => rfl); (case F => k_asm); (case N => k_asm); (case hm => k_mem); (case hc => rfl); (case hd => rfl)); intro _ zl1; (try k_lt zl1))
  k_with "UnrEndW" => (k_dflt (refine' Mine.unrw1 ?F ?N ?o1 ?o (And.intro (And.intro ?hm trivial) ?_); (case F => assumption); (case N => assumption); (case o1 => exact (by k_ne)); (case o => k_all); (case hm => k_mem)))
  trivial
namespace Mine
noncomputable def formD (F A : Int) : Dat := .tuple [.str (Str.ofString "s"), .int F, .tuple [.tuple [.str (Str.ofString "a"), .int A]]]
noncomputable def ballOf (fD : Dat) : Dat := .tuple [.str (Str.ofString "s"), .int 16, .tuple [fD, .tuple [.str (Str.ofString "a"), .int 25]]]
/-- the names' state, all in the ledger -/
structure SymsIn (prog : Program) (w : World) (n : List (Addr × Obj)) (x : Addr) (ts : List Str) (fl : List (Int × Int)) (dx tx an fs fn : Addr) (q1 q2 q3 q4 nd n1 n2 : Nat) (oA oF : Obj) (tv fv : List Value) (n₁ : List (Addr × Obj)) : Prop where
  h1 : (x, instObj 154 dx) ∈ n
  h2 : (dx, dictOf (symD w.params tx an fs fn q1 q2 q3 q4) nd) ∈ n
  hT : (tx, listOf tv.toArray n1) ∈ n
  hA : (an, oA) ∈ n
  hS : (fs, listOf fv.toArray n2) ∈ n
  hF : (fn, oF) ∈ n
  e1 : @Ne Nat tx an
  e2 : @Ne Nat tx fs
  e3 : @Ne Nat tx fn
  e4 : @Ne Nat an fs
  e5 : @Ne Nat an fn
  e6 : @Ne Nat fs fn
  e7 : @Ne Nat dx an
  e8 : @Ne Nat dx fn
  R : AtomsRel prog w ts oA tv
  R2 : FunRel prog w n₁ fl oF fv
  ht : Tups n₁
  hn : ∀ q ∈ n₁, q ∈ n
  lo : (an == sysModules) = false
  lo2 : (fn == sysModules) = false
theorem SymsIn.mono {prog : Program} {w : World} {n n' : List (Addr × Obj)} {x : Addr} {ts : List Str} {fl : List (Int × Int)} {dx tx an fs fn : Addr} {q1 q2 q3 q4 nd n1 n2 : Nat} {oA oF : Obj} {tv fv : List Value} {n₁ : List (Addr × Obj)} (hs : ∀ q ∈ n, q ∈ n')
    (S : SymsIn prog w n x ts fl dx tx an fs fn q1 q2 q3 q4 nd n1 n2 oA oF tv fv n₁) : SymsIn prog w n' x ts fl dx tx an fs fn q1 q2 q3 q4 nd n1 n2 oA oF tv fv n₁ :=
  ⟨hs _ S.h1, hs _ S.h2, hs _ S.hT, hs _ S.hA, hs _ S.hS, hs _ S.hF, S.e1, S.e2, S.e3, S.e4, S.e5, S.e6, S.e7, S.e8, S.R, S.R2, S.ht, fun q h => hs _ (S.hn q h), S.lo, S.lo2⟩
noncomputable def off4 (tx an fs fn : Addr) (led : List (Addr × Obj)) : List (Addr × Obj) := offOf fn (offOf fs (offOf an (offOf tx led)))
theorem off4_off {tx an fs fn : Addr} {led : List (Addr × Obj)} : OwnOff (off4 tx an fs fn led) [tx, an, fs, fn] := fun q hq b hb => by
  simp only [List.mem_cons, List.not_mem_nil, or_false] at hb
  unfold off4 at hq
  rcases hb with rfl | rfl | rfl | rfl
  · exact offOf_off _ _ q (offOf_sub _ (offOf_sub _ (offOf_sub _ hq))) _ (.head _)
  · exact offOf_off _ _ q (offOf_sub _ (offOf_sub _ hq)) _ (.head _)
  · exact offOf_off _ _ q (offOf_sub _ hq) _ (.head _)
  · exact offOf_off _ _ q hq _ (.head _)
theorem off4_sub {tx an fs fn : Addr} {led : List (Addr × Obj)} : ∀ q ∈ off4 tx an fs fn led, q ∈ led := fun q hq => offOf_sub _ (offOf_sub _ (offOf_sub _ (offOf_sub _ hq)))
theorem off4_in {tx an fs fn a : Addr} {o : Obj} {led : List (Addr × Obj)} (h : (a, o) ∈ led) (k1 : a ≠ tx) (k2 : a ≠ an) (k3 : a ≠ fs) (k4 : a ≠ fn) : (a, o) ∈ off4 tx an fs fn led := offOf_in (offOf_in (offOf_in (offOf_in h k1) k2) k3) k4
theorem ref_ty (C : Addr) (s : String) : Value.ref C ≠ Value.type s := fun e => by cases e
theorem ty_ty {s₁ s₂ : String} (h : (s₁ == s₂) = false) : Value.type s₁ ≠ Value.type s₂ := fun e => by rw [Value.type.inj e] at h; simp at h
section
variable {prog : Program} {w : World} {x : Addr} {ts : List Str} {fl : List (Int × Int)} {dx tx an fs fn : Addr} {q1 q2 q3 q4 nd n1 n2 : Nat} {oA oF : Obj} {tv fv : List Value} {n₁ led : List (Addr × Obj)} {h₀ h : Heap} {L : Addr}
theorem SymsIn.clsA {n : List (Addr × Obj)} (S : SymsIn prog w n x ts fl dx tx an fs fn q1 q2 q3 q4 nd n1 n2 oA oF tv fv n₁) : oA.cls = .type "dict" := by obtain ⟨_, D, _⟩ := S.R; exact D.1.1
theorem SymsIn.clsF {n : List (Addr × Obj)} (S : SymsIn prog w n x ts fl dx tx an fs fn q1 q2 q3 q4 nd n1 n2 oA oF tv fv n₁) : oF.cls = .type "dict" := by obtain ⟨_, D, _⟩ := S.R2; exact D.1.1
/-- an object of neither lists nor dicts is none of the names' four -/
theorem SymsIn.off (S : SymsIn prog w led x ts fl dx tx an fs fn q1 q2 q3 q4 nd n1 n2 oA oF tv fv n₁) (N : News h₀ L h led) {a : Addr} {o : Obj} (ha : (a, o) ∈ led) (c1 : o.cls ≠ .type "list") (c2 : o.cls ≠ .type "dict") : (a, o) ∈ off4 tx an fs fn led :=
  off4_in ha (ne_of_cls N ha S.hT c1) (ne_of_cls N ha S.hA (by rw [S.clsA]; exact c2)) (ne_of_cls N ha S.hS c1) (ne_of_cls N ha S.hF (by rw [S.clsF]; exact c2))
theorem SymsIn.head (S : SymsIn prog w led x ts fl dx tx an fs fn q1 q2 q3 q4 nd n1 n2 oA oF tv fv n₁) : ∀ q ∈ (tx, listOf tv.toArray n1) :: (an, oA) :: (fs, listOf fv.toArray n2) :: (fn, oF) :: off4 tx an fs fn led, q ∈ led := fun q hq => by
  simp only [List.mem_cons] at hq
  rcases hq with rfl | rfl | rfl | rfl | hq
  · exact S.hT
  · exact S.hA
  · exact S.hS
  · exact S.hF
  · exact off4_sub q hq
end
section
variable {prog : Program} {w : World} {p : Program} {loose : List Str} {mean : ExcName → Option Value} {mg mb : Str → Option Value}
  {dp un : Nat} {gd : Option (List Code)} {cn : Str} {cs : Scope} {a : Addr} {ccd : Value} {cl : List (Str × Addr)} {outer : List Env} {A₀ : Around} {base h₀ : Heap} {L : Addr} {m : Str → Option Value} {led : List (Addr × Obj)} {s : Shared}
  {Q E : Value → Shared → Prop}
theorem system_error (B : Below A₀ base outer h₀) (F : Fr h₀ L s.heap m) (X : (Mine.kf w.params).In h₀) (N : News h₀ L s.heap led) (T : Top p loose mean mg mb h₀) (hk : cs.kind = .function)
  (hd : dp + 7 < recursionLimit) (hu : un + 80 < cLine) {f : Addr} {fD : Dat} (hf : DatIn led (.ref f) fD)
  (hret : ∀ h' tk' e d ta u b n3, Fr h₀ L h' m → News h₀ L h' ((d, ballD w u (.ref b)) :: (e, excO d ta) :: n3) → (∀ q ∈ (d, ballD w u (.ref b)) :: n3, q.1 ≠ e) → (∀ q ∈ led, q ∈ n3) → DatIn n3 (.ref b) (ballOf fD) → Q (.ref e) { s with heap := h', toks := tk' }) :
  wpAny (model prog w) (ktrTop dp un gd cn cs L a ccd cl outer) (call (.ref 165) [.ref f]) Q E s := by
  refine wpAny_call ?_
  k_dflt ktr_enter
  k_steps
  refine hret _ _ _ _ _ _ _ _ (by assumption) (by assumption) (by assumption) (fun q hq => .tail _ (.tail _ (.tail _ (.tail _ hq)))) ?_
  refine .tuple (n := 0) (vs := [_, _, _]) (.tail _ List.mem_cons_self) (.cons (.str _ _) (.cons (.int _ _) (.cons (.tuple (n := 0) (vs := [_, _]) (.tail _ (.tail _ List.mem_cons_self)) (.cons (hf.mono (fun q hq => .tail _ (.tail _ (.tail _ (.tail _ hq))))) (.cons (.tuple (n := 0) (vs := [_, _]) (.tail _ (.tail _ (.tail _ List.mem_cons_self))) (.cons (.str _ _) (.cons (.int _ _) .nil))) .nil))) .nil)))
theorem formal_of' (B : Below A₀ base outer h₀) (F : Fr h₀ L s.heap m) (X : (Mine.kf w.params).In h₀) (N : News h₀ L s.heap led) (T : Top p loose mean mg mb h₀) (hk : cs.kind = .function)
  (hd : dp + 7 < recursionLimit) (hu : un + 80 < cLine) {n₁ : List (Addr × Obj)} {ux um : Nat} {sx sm : Str} {pt : Addr}
  {x dx tx an fs fn : Addr} {q1 q2 q3 q4 n n1 n2 : Nat} {oA oF : Obj} {tv fv : List Value} {ts : List Str} {fl : List (Int × Int)}
  (S : SymsIn prog w led x ts fl dx tx an fs fn q1 q2 q3 q4 n n1 n2 oA oF tv fv n₁) (hp : (pt, tup [.str sm um]) ∈ led) (hb : ts.length < 900) (hb2 : fl.length < 900)
  (hret : ∀ h' tk' f n3 tv' n1' oA' fv' n2' oF' n₁', Fr h₀ L h' m → News h₀ L h' n3 → SymsIn prog w n3 x (atomT (atomT ts sm) sx) (funT fl ((atomT ts sm).idxOf sx, 1)) dx tx an fs fn q1 q2 q3 q4 n n1' n2' oA' oF' tv' fv' n₁' →
    DatIn n3 (.ref f) (formD (fl.idxOf (((atomT ts sm).idxOf sx : Int), (1 : Int))) (ts.idxOf sm)) → Q (.ref f) { s with heap := h', toks := tk' }) :
  wpAny (model prog w) (ktrTop dp un gd cn cs L a ccd cl outer) (call (.ref 172) [.ref x, .str sx ux, .ref pt]) Q E s := by
  have N2 : News h₀ L s.heap ((tx, listOf tv.toArray n1) :: (an, oA) :: (fs, listOf fv.toArray n2) :: (fn, oF) :: off4 tx an fs fn led) := fun q hq => N q (S.head q hq)
  have hoff : OwnOff (off4 tx an fs fn led) [tx, an, fs, fn] := off4_off
  have h1 := S.off N S.h1 (ref_ty _ _) (ref_ty _ _)
  have h2 : (dx, dictOf (symD w.params tx an fs fn q1 q2 q3 q4) n) ∈ off4 tx an fs fn led := off4_in S.h2 (ne_of_cls N S.h2 S.hT (ty_ty (by decide))) S.e7 (ne_of_cls N S.h2 S.hS (ty_ty (by decide))) S.e8
  have hp' := S.off N hp (ty_ty (by decide)) (ty_ty (by decide))
  have hn : ∀ q ∈ n₁, q ∈ off4 tx an fs fn led := fun q hq => S.off (a := q.1) (o := q.2) N (S.hn q hq) (by rw [S.ht q hq]; exact ty_ty (by decide)) (by rw [S.ht q hq]; exact ty_ty (by decide))
  obtain ⟨-, -, -, -, -, -, e1, e2, e3, e4, e5, e6, dn1, dn2, R, R2, ht, -, lo, lo2⟩ := S
  have hb3 : (atomT ts sm).length < 1000 := by unfold atomT; split <;> (try simp only [List.length_append, List.length_singleton]) <;> omega
  have hb4 : ts.length < 1000 := by omega
  have hb5 : fl.length < 1000 := by omega
  clear N hp
  generalize off4 tx an fs fn led = rest at *
  refine wpAny_call ?_
  k_dflt ktr_enter
  k_steps
  refine hret _ _ _ _ _ _ _ _ _ _ _ (by assumption) (by assumption) ⟨.tail _ (.tail _ (.tail _ (.tail _ (.tail _ (.tail _ (.tail _ (.tail _ (.tail _ h1)))))))), .tail _ (.tail _ (.tail _ (.tail _ (.tail _ (.tail _ (.tail _ (.tail _ (.tail _ h2)))))))), .tail _ (.tail _ (.tail _ (.tail _ (.tail _ List.mem_cons_self)))), .tail _ (.tail _ (.tail _ (.tail _ (.tail _ (.tail _ List.mem_cons_self))))),
    .tail _ (.tail _ (.tail _ (.tail _ (.tail _ (.tail _ (.tail _ List.mem_cons_self)))))), .tail _ (.tail _ (.tail _ (.tail _ (.tail _ (.tail _ (.tail _ (.tail _ List.mem_cons_self))))))), e1, e2, e3, e4, e5, e6, dn1, dn2, by assumption, by assumption, ?_, ?_, lo, lo2⟩ ?_
  · exact List.forall_mem_cons.mpr ⟨rfl, ht⟩
  · exact List.forall_mem_cons.mpr ⟨by k_mem, fun q hq => .tail _ (.tail _ (.tail _ (.tail _ (.tail _ (.tail _ (.tail _ (.tail _ (.tail _ (hn q hq)))))))))⟩
  · exact .tuple (n := 0) (vs := [_, _, _]) List.mem_cons_self (.cons (.str _ _) (.cons (.int _ _) (.cons (.tuple (n := 0) (vs := [_]) (.tail _ List.mem_cons_self) (.cons (.tuple (n := 0) (vs := [_, _]) (.tail _ (.tail _ (.tail _ List.mem_cons_self))) (.cons (.str _ _) (.cons (.int _ _) .nil))) .nil)) .nil)))
end
end Mine
example : True := by
  k_with "call ref" => (k_here; (with_reducible show wpAny _ _ (call (Value.ref 172) _) _ _ _); k_dflt (refine' Mine.formal_of' ?B ?F ?X ?N ?T ?hk ?hd ?hu (Mine.SymsIn.mono ?sub ?S) ?hp ?hb ?hb2 ?_; (case S => assumption); (case B => k_asm); (case F => k_asm); (case X => k_asm); (case N => k_asm); (case T => k_asm); (case hk => first | exact rfl | assumption); (case hd => ktr_room); (case hu => ktr_units); (case sub => (repeat (first | assumption | ktd_sub | refine Mine.sub_tail ?_))); (case hp => k_mem); (case hb => k_extra "SZ"); (case hb2 => k_extra "SZ"); k_whole); intro _ _ _ _ _ _ _ _ _ _ _ _ _ _ _; (try k_sweep))
  k_with "call ref" => (k_here; (with_reducible show wpAny _ _ (call (Value.ref 165) _) _ _ _); k_dflt (refine' Mine.system_error ?B ?F ?X ?N ?T ?hk ?hd ?hu ?hf ?_; (case B => k_asm); (case F => k_asm); (case X => k_asm); (case N => k_asm); (case T => k_asm); (case hk => first | exact rfl | assumption); (case hd => ktr_room); (case hu => ktr_units); (case hf => assumption); k_whole); intro _ _ _ _ _ _ _ _ _ _ _ _ _; (try k_sweep))
  trivial
namespace Mine
section
variable {prog : Program} {w : World} {p : Program} {loose : List Str} {mean : ExcName → Option Value} {mg mb : Str → Option Value}
  {dp un : Nat} {gd : Option (List Code)} {cn : Str} {cs : Scope} {a : Addr} {ccd : Value} {cl : List (Str × Addr)} {outer : List Env} {A₀ : Around} {base h₀ : Heap} {L : Addr} {m : Str → Option Value} {led : List (Addr × Obj)} {s : Shared}
  {Q E : Value → Shared → Prop}
theorem resource_error (B : Below A₀ base outer h₀) (F : Fr h₀ L s.heap m) (X : (Mine.kf w.params).In h₀) (N : News h₀ L s.heap led) (T : Top p loose mean mg mb h₀) (hk : cs.kind = .function)
  (hd : dp + 9 < recursionLimit) (hu : un + 100 < cLine) {n₁ : List (Addr × Obj)} {um : Nat} {sm : Str}
  {x dx tx an fs fn : Addr} {q1 q2 q3 q4 n n1 n2 : Nat} {oA oF : Obj} {tv fv : List Value} {ts : List Str} {fl : List (Int × Int)}
  (S : SymsIn prog w led x ts fl dx tx an fs fn q1 q2 q3 q4 n n1 n2 oA oF tv fv n₁) (hb : ts.length < 900) (hb2 : fl.length < 900) 
  (hret : ∀ h' tk' e d ta u b n4 tv' n1' oA' fv' n2' oF' n₁', Fr h₀ L h' m → News h₀ L h' ((d, ballD w u (.ref b)) :: (e, excO d ta) :: n4) → (∀ q ∈ (d, ballD w u (.ref b)) :: n4, q.1 ≠ e) → SymsIn prog w n4 x (atomT (atomT ts sm) (Str.ofString "resource_error")) (funT fl ((atomT ts sm).idxOf (Str.ofString "resource_error"), 1)) dx tx an fs fn q1 q2 q3 q4 n n1' n2' oA' oF' tv' fv' n₁' →
    DatIn n4 (.ref b) (ballOf (formD (fl.idxOf (((atomT ts sm).idxOf (Str.ofString "resource_error") : Int), (1 : Int))) (ts.idxOf sm))) → Q (.ref e) { s with heap := h', toks := tk' }) :
  wpAny (model prog w) (ktrTop dp un gd cn cs L a ccd cl outer) (call (.ref 179) [.ref x, .str sm um]) Q E s := by
  refine wpAny_call ?_
  k_dflt ktr_enter
  k_steps
  refine hret _ _ _ _ _ _ _ _ _ _ _ _ _ _ _ (by assumption) (by assumption) (by assumption) (SymsIn.mono (by assumption) (by assumption)) (by assumption)
end
end Mine
namespace Mine
noncomputable def RaisePost (w : World) (E : Value → Shared → Prop) (v : Value) (s₁ : Shared) : Prop := ∃ e d ta, v = .ref e ∧ s₁.heap.get? e = some (excO d ta) ∧ (Mine.kf w.params).In s₁.heap ∧ E (.ref e) s₁
section
variable {prog : Program} {w : World} {A : Around} {E : Value → Shared → Prop} {env : Env}
theorem raise_own {s : Shared} {ex : PySem.Expr} {pos : Pos} {Q : Flow → Shared → Prop} (hh : A.handled = none)
    (h : wpAny (model prog w) A (eval ex env) (fun v s₁ => RaisePost w E v s₁) E s) :
    wpAny (model prog w) A (exec (.Raise (some ex) none pos) env) Q E s := by
  rw [arm_exec_Raise]
  simp only [evalOpt, Option.map]
  refine wpAny_bind (wpAny_standAt ?_)
  unfold raiseStmt
  refine wpAny_bind (wpAny_mono (wpAny_bind (wpAny_mono h (fun v s₁ h₁ => wpAny_bind (wpAny_standAt (wpAny_pure h₁))) fun _ _ x => x)) (fun v s₁ h₁ => ?_) fun _ _ x => x)
  obtain ⟨e, d', ta, rfl, he, X, hE⟩ := h₁
  unfold excO at he
  have hC := X 51 _ (by k_is)
  unfold o51 at hC
  have hcB : (Value.ref 51 :: .ref 31 :: bmE).contains (.type "BaseException") = true := by simp
  obtain ⟨hp, g, d, tk, os⟩ := s₁
  repeat (first | with_reducible refine wpAny_loadPart_at he ?_ | with_reducible refine wpAny_loadPart_at hC ?_ | (with_reducible refine wpAny_isSubtype_exc hC ?_; rw [hcB]) | wp_step)
  exact wpAny_raiseNew_none hh hE
end
noncomputable def RaisedD (base : Heap) (l : List Env) (e d : Addr) (a0 : Value) (news : List (Addr × Obj)) (h : Heap) : Prop :=
  ∃ B, base.StaysIn B ∧ (∀ q ∈ news, B.get? q.1 = some q.2 ∧ base.get? q.1 = none) ∧ FlyD B l e (.ref 51) a0 .none d h
section
variable {M : Model} {A : Around} {E : Value → Shared → Prop} {s' : Shared} {base g : Heap} {outer : List Env} {L a e d ta : Addr} {m : Str → Option Value} {name : Str} {scope : Scope} {cd : Value} {Q : Unit → Shared → Prop} {led news : List (Addr × Obj)}
theorem leave_D (K : Below A base outer g) (F : Fr g L s'.heap m) (N : News g L s'.heap led) (he : (e, excO d ta) ∈ led) (sub : ∀ q ∈ news, q ∈ led) (off : ∀ q ∈ news, q.1 ≠ e)
    (hQ : ∀ h', RaisedD base outer e d (.ref ta) news h' → g.UpToSlots h' → Q () { s' with heap := h' }) (hk : scope.kind = .function := by rfl) :
    wpAny M (A.deeper (envOf name scope L a cd)) (leaving (envOf name scope L a cd) (.ref e)) Q E s' := by
  have K' := K.push (name := name) (a := a) (cd := cd) F hk
  have hin : ∀ env ∈ (envOf name scope L a cd :: outer), ∀ b, env.frame = some b → b ∈ e :: (envOf name scope L a cd :: outer).filterMap (·.frame) := fun env he b hb => .tail _ (List.mem_filterMap.mpr ⟨env, he, hb⟩)
  have hge := N _ he
  have hne : base.get? e = none := fresh_of_stays K.stays hge.2.2
  have st : base.StaysIn (hideAll s'.heap (e :: (envOf name scope L a cd :: outer).filterMap (·.frame))) := fun b o q => hideAll_get _ (K'.stays b o q) fun hm => by
    rcases List.mem_cons.mp hm with rfl | hm
    · rw [hne] at q; cases q
    · rw [(K'.frames.mem hm).1] at q; cases q
  have hl : ∀ q ∈ news, (hideAll s'.heap (e :: (envOf name scope L a cd :: outer).filterMap (·.frame))).get? q.1 = some q.2 ∧ base.get? q.1 = none := fun q hq => by
    have nq := N q (sub q hq)
    refine ⟨hideAll_get _ nq.1 fun hm => ?_, fresh_of_stays K.stays nq.2.2⟩
    rcases List.mem_cons.mp hm with hm | hm
    · exact off q hq hm
    · obtain ⟨env, he, hf⟩ := List.mem_filterMap.mp hm
      rcases List.mem_cons.mp he with rfl | he
      · exact nq.2.1 (Option.some.inj hf).symm
      · obtain ⟨o, ho, _⟩ := (K.frames.mem (List.mem_filterMap.mpr ⟨env, he, hf⟩)).2
        rw [nq.2.2] at ho; cases ho
  exact leave_firstD (oe := excO d ta) (a0 := .ref ta) K'.stack (funFrames_hide K'.frames hin) rfl hge.1 (fun b o q => of_hideAll _ q) (hideAll_none _ (.head _)) rfl rfl rfl rfl fun h' x1 x2 =>
    hQ h' ⟨_, st, hl, x1⟩ ((Heap.UpToSlots.of_keeps F.keep).trans x2)
end
section
variable {prog : Program} {w : World} {A₀ : Around} {E : Value → Shared → Prop} {s' : Shared} {h₀ h : Heap} {outer : List Env} {L a e d : Addr} {a0 : Value} {m : Str → Option Value} {name : Str} {scope : Scope} {cd : Value}
  {n : Str} {b₀ : Stmt} {suite : List Stmt} {pos np : Pos} {rest : List ExceptHandler} {Q : Flow → Shared → Prop} {news : List (Addr × Obj)} {p : Program} {loose : List Str} {mg mb : Str → Option Value}
theorem caught_D (K : Below A₀ h₀ outer h₀) (F : Fr h₀ L h m) (hsm : h.UpToSlots s'.heap) (R : RaisedD h₀ (envOf name scope L a cd :: outer) e d a0 news s'.heap)
    (X : (Mine.kf w.params).In h₀) (T : TopRead p loose mg mb h₀)
    (k : ∀ h' oe vs tk, Fr h₀ L h' (fun y => if y = n then some (.ref e) else m y) → News h₀ L h' ((e, oe) :: news) → oe.cls = .ref 51 → oe.dict = some d → oe.data = .fields vs → vs[0]? = some a0 →
      wpAny (model prog w) ((A₀.deeper (envOf name scope L a cd)).mark (some (.ref e))) (execs (b₀ :: suite) (envOf name scope L a cd))
        (fun f s₄ => wpAny (model prog w) (A₀.deeper (envOf name scope L a cd)) (do bindName (envOf name scope L a cd) n .none; unbindBehindTheSuite (envOf name scope L a cd) n pos) (fun _ s₅ => Q f s₅) E s₄)
        (AsSuiteRaised (model prog w) ((A₀.deeper (envOf name scope L a cd)).mark (some (.ref e))) (envOf name scope L a cd) n pos (notedBy (model prog w) ((A₀.deeper (envOf name scope L a cd)).mark (some (.ref e))) (envOf name scope L a cd) (cameBackBy (model prog w) (A₀.deeper (envOf name scope L a cd)) (envOf name scope L a cd) E)))
        { s' with heap := h', toks := tk })
    (hk : scope.kind = .function := by rfl) (hlo : (envOf name scope L a cd).kindOf n = some .local := by rfl) (hx : (envOf name scope L a cd).kindOf (Str.ofString "PrologError") = some .globalImplicit := by rfl) :
    wpAny (model prog w) (A₀.deeper (envOf name scope L a cd)) (noteFrame (.ref e) (envOf name scope L a cd))
      (fun _ s₂ => wpAny (model prog w) (A₀.deeper (envOf name scope L a cd)) (setFlight (.ref e) none) (fun _ s₃ =>
        wpAny (model prog w) (A₀.deeper (envOf name scope L a cd)) (handleBy (.ref e) (envOf name scope L a cd) (.ExceptHandler (some (.Name (Str.ofString "PrologError") np)) (some n) (b₀ :: suite) pos :: rest)) Q E s₃) E s₂) E s' := by
  obtain ⟨B, hB, hl, hfl⟩ := R
  have hL : B.get? L = none := by
    obtain ⟨_, ⟨L', _, hf, hn', _⟩, _⟩ := hfl.2.2.1
    obtain rfl : L = L' := Option.some.inj hf
    exact hn'
  refine noteD (Around.frames_deeper K.stack) rfl hfl fun h₄ hheld₄ hsm₄ => ?_
  refine flightD hheld₄ fun h₅ hheld hsm₅' => ?_
  have hsm₅ := hsm₄.trans hsm₅'
  have hheld' := FlyD.base hB hheld
  have F₅ := F.of_stays hheld'.1 (hsm.trans hsm₅)
  obtain ⟨ob, hob, hobc⟩ := hheld'.there
  refine wpAny_handleBy_cons (codeAny_handlers_test (name_K F₅ X T (by k_is : nsIn (Mine.kf w.params) mainGlobals (Str.ofString "PrologError") = some (some (.ref 51))) ?_ hk hx (by decide))) (by intro q; cases q)
  have hC := (X.keeps F₅.keep) 51 _ (by k_is)
  unfold o51 at hC
  have hcB : (Value.ref 31 :: bmE).contains (.type "BaseException") = true := by simp
  refine wpAny_excMatches_sub_self hC hob hobc hcB (codeAny_handlers_suite_as ?_)
  refine flightD hheld fun h₆ hfl₆ hsm₆ => ?_
  have hfl₆' := FlyD.base hB hfl₆
  have F₆ := F.of_stays hfl₆'.1 ((hsm.trans hsm₅).trans hsm₆)
  obtain ⟨oe, ws, hoe, hoec, hoedi, hoed, hoe0⟩ := hfl₆'.first
  have Nl : News h₀ L h₆ news := fun q hq => ⟨hfl₆.1 _ _ (hl q hq).1, (fun z => by have := (hl q hq).1; rw [z, hL] at this; cases this), (hl q hq).2⟩
  have Ne : News h₀ L h₆ ((e, oe) :: news) := by
    intro q hq
    rcases List.mem_cons.mp hq with rfl | hq
    · refine ⟨hoe, fun c => ?_, hfl₆'.2.1⟩
      obtain ⟨o, es, ep, q', r⟩ := F₆.ns
      have c' : e = L := c
      rw [← c', hoe] at q'
      cases q'
      rw [hoed] at r
      exact absurd r.1 (by intro z; cases z)
    · exact Nl q hq
  refine stN F₆ (news := (e, oe) :: news) Ne (fun h₇ F₇ N₇ => ?_) hk hlo
  exact k h₇ oe ws _ F₇ N₇ hoec hoedi hoed hoe0
end
end Mine
example : True := by
  k_with "exec Raise some none" => (k_here; k_dflt (refine Mine.raise_own rfl ?_))
  k_with "call ref" => (k_here; (with_reducible show wpAny _ _ (call (Value.ref 179) _) _ _ _); k_dflt (refine' Mine.resource_error ?B ?F ?X ?N ?T ?hk ?hd ?hu (Mine.SymsIn.mono ?sub ?S) ?hb ?hb2 ?_; (case S => assumption); (case B => k_asm); (case F => k_asm); (case X => k_asm); (case N => k_asm); (case T => k_asm); (case hk => first | exact rfl | assumption); (case hd => ktr_room); (case hu => ktr_units); (case sub => (repeat (first | assumption | ktd_sub | refine Mine.sub_tail ?_))); (case hb => assumption); (case hb2 => assumption); k_whole); intro _ _ _ _ _ _ _ _ _ _ _ _ _ _ _ _ _ _ _ _; (try k_sweep))
  trivial
namespace Mine
theorem Pend.parts {n₁ nw : List (Addr × Obj)} {cells : List Value} {v f : Int} {lf cn : Addr} {n : Nat} {full : List Bool} {j : Nat} {c : Addr} {ts : List Bool} {ws : List Value} (h : Pend n₁ cells v f lf nw n cn full j c ts ws) : partsZ ts ≤ partsZ full := by
  induction h with
  | top => exact Int.le_refl _
  | @step j c c' wb wv ts tw ws g1 g2 _ a b c ih =>
    simp only [partsZ] at ih
    have := partsZ_pos ts
    split at ih <;> omega
section
variable {prog : Program} {w : World} {p : Program} {loose : List Str} {mean : ExcName → Option Value} {mg mb : Str → Option Value}
  {dp un : Nat} {gd : Option (List Code)} {cn : Str} {cs : Scope} {a : Addr} {ccd : Value} {cl : List (Str × Addr)} {outer : List Env} {A₀ : Around} {base h₀ : Heap} {L : Addr} {m : Str → Option Value} {led : List (Addr × Obj)} {s : Shared}
  {Q E : Value → Shared → Prop}
theorem take_term2 (B : Below A₀ base outer h₀) (F : Fr h₀ L s.heap m) (X : (Mine.kf w.params).In h₀) (N : News h₀ L s.heap led) (T : Top p loose mean mg mb h₀) (hk : cs.kind = .function)
  (hd : dp + 16 < recursionLimit) (hu : un + 200 < cLine) {rest : List (Addr × Obj)} {tb cc lf : Addr} {oT : Obj}
  {x dx sy hp sk tr : Addr} {R v f : Int} {u : Nat} {q1 q2 q3 q4 q5 q6 q7 u1 u2 u3 : Nat} {nn n : Nat} {cells : List Value} (h1 : (x, instObj 381 dx) ∈ rest) (h2 : (dx, dictOf (storeD w.params sy hp sk tr R q1 q2 q3 q4 q5 q6 q7 u1 u2 u3) n) ∈ rest) (h4 : (hp, listOf cells.toArray nn) ∈ rest)
  {sd tx an fs fn ft : Addr} {p1 p2 p3 p4 n2 nn1 nn2 : Nat} {ta tt : Nat} {fa : Int} {oA oF : Obj} {tvals fvals : List Value} {ts0 : List Str} {fl0 : List (Int × Int)} {n₁ : List (Addr × Obj)}
  (S0 : SymsIn prog w rest sy ts0 fl0 sd tx an fs fn p1 p2 p3 p4 n2 nn1 nn2 oA oF tvals fvals n₁) (hts : ts0.length < 900) (hfl : fl0.length < 900) (h10 : fvals[f.toNat]? = some (.ref ft)) (h0 : 0 < f) (h0' : f < 1000000)
  (h11 : (ft, tup [.int fa ta, .int 2 tt]) ∈ rest) (D : DIs (intKind prog w) oT []) (loT : (tb == sysModules) = false) (offT : OwnOff rest [tb])
  {lD : Dat} {lv : Nat} {full : List Bool} (dag : Dag rest cells v f lf (lv + 1) cc full) (leaf : LeafK rest cells lf lD) (hv : 0 ≤ v) (hv1 : v < 1000) (hlv : lv < 40) (hlen : cells.length < 1000) (hR : R < 1000)
  (hsub : ∀ q ∈ (tb, oT) :: rest, q ∈ led)
  (hret : ∀ h' tk' t rt oT', partsZ full ≤ R + 1 → Fr h₀ L h' m → News h₀ L h' ((tb, oT') :: rt) → (∀ q ∈ rest, q ∈ rt) → DatIn rt (.ref t) (termD f lD full) → Q (.ref t) { s with heap := h', toks := tk' })
  (hexc : ∀ h' tk' e d ta u b n4 g' nn1' nn2' oA' oF' tv' fv' n₁', R + 1 < partsZ full → Fr h₀ L g' m → g'.UpToSlots h' → RaisedD base (envX cn cs L a ccd cl :: outer) e d (.ref ta) ((d, ballD w u (.ref b)) :: n4) h' →
    SymsIn prog w n4 sy (atomT (atomT ts0 (Str.ofString "memory")) (Str.ofString "resource_error")) (funT fl0 ((atomT ts0 (Str.ofString "memory")).idxOf (Str.ofString "resource_error"), 1)) sd tx an fs fn p1 p2 p3 p4 n2 nn1' nn2' oA' oF' tv' fv' n₁' →
    DatIn n4 (.ref b) (ballOf (formD (fl0.idxOf (((atomT ts0 (Str.ofString "memory")).idxOf (Str.ofString "resource_error") : Int), (1 : Int))) (ts0.idxOf (Str.ofString "memory")))) → E (.ref e) { s with heap := h', toks := tk' }) :
  wpAny (model prog w) (ktrTop dp un gd cn cs L a ccd cl outer) (call (.ref 378) [.ref x, .ref cc, .ref tb]) Q E s := by
  have N2 : News h₀ L s.heap ((tb, oT) :: rest) := fun q hq => N q (hsub q hq)
  clear N hsub
  have h7 := S0.h1
  have h8 := S0.h2
  have h9 := S0.hS
  have ok : CellOk rest cells cc := by
    cases dag with
    | node d na => obtain ⟨t1, t2, hc⟩ := na.hc; exact .plain (.inl rfl) hc
  refine wpAny_call ?_
  k_dflt ktr_enter
  k_steps
  have c := facts5 (by assumption) (by refine ⟨?_, ?_, ?_, ?_⟩ <;> k_extra "LTO")
  unfold Hold
  refine take_inv (Rz := R) (lD := lD) (by assumption) (by assumption) dag (dis_of_nil (by assumption)) (dis_of_nil (by assumption)) D ?off ?_
  case off =>
    refine List.forall_mem_cons.mpr ⟨fun b hb => ?_, fun q hq b hb => ?_⟩
    all_goals (simp only [List.mem_cons, List.not_mem_nil, or_false] at hb; rcases hb with hb | hb | hb | hb | hb <;> subst hb)
    all_goals first | exact (by k_ne) | exact offT q hq _ (List.mem_singleton.mpr rfl) | exact allLt_ne (by kwd_rel) q hq
  intro k w1 w2 w3 w4 w5 w6 w7 w8 rv wv i1 i2 oK oS oT kK kS kT rt h tk st DK DS DT off hr F2 N2
  repeat (with_reducible rename (_ : Nat) < _ ∧ _ => hc; clear hc)
  k_sweep
  unfold Hold at c
  obtain ⟨c1, c2, c3, c4, c5, c6, c7, c8, c9, c10⟩ := c
  unfold mapU at F2
  replace h1 := hr _ h1
  replace h2 := hr _ h2
  replace h4 := hr _ h4
  replace h7 := hr _ h7
  replace h8 := hr _ h8
  replace h9 := hr _ h9
  replace h11 := hr _ h11
  replace S0 := S0.mono hr
  cases st with
  | down dag2 pend hw hno hlen hT hS =>
    rename_i j c w0 ts ws g
    obtain ⟨e1, e2⟩ := pend.len
    have hwl : (ws ++ [Value.ref w0]).length = ws.length + 1 := by simp
    have hwl2 : ws.length < 1000 := by omega
    cases dag2 with
    | node d na =>
      rename_i j c1 ts tw
      obtain ⟨tt1, tt2, hc⟩ := na.hc
      obtain ⟨fc, g1, uu, hc2, hc3⟩ := na.hf
      have at1 := na.h1
      have at2 := na.h2
      have hkn := hno j (Nat.lt_succ_self _)
      have okc : CellOk rt cells c := .plain (.inl rfl) (hr _ hc)
      replace hc := hr _ hc
      replace hc3 := hr _ hc3
      (try ((with_reducible show wpAny _ _ _ _ _ _); k_fold)); k_steps
      refine' step_end (kT := kT) (by assumption) (by assumption) perm3 (TSt.down d (Pend.step (pend.mono ?s1) na ?s2 ?s3) ?s4 ?s5 ?s6 hT hS) (by omega) (by assumption) (by assumption) (by assumption) ?s7 ?s8 ?s9
      case s1 => exact fun q hq => .tail _ (.tail _ (.tail _ hq))
      case s4 => exact List.mem_cons_self
      case s3 => exact .tail _ List.mem_cons_self
      case s2 => exact .tail _ (.tail _ List.mem_cons_self)
      case s5 =>
        intro i hi
        rw [valueAt_snoc hkn, if_neg (by omega)]
        exact hno i (by omega)
      case s6 =>
        rw [stored_length hkn]
        omega
      case s7 => (repeat' (first | assumption | exact ltN (by dsimp only; k_extra "LTO") | refine Mine.off_cons ?_ ?_ ?_ ?_ ?_ ?_))
      case s8 => exact fun q hq => .tail _ (.tail _ (.tail _ (hr q hq)))
      case s9 => (intro y y1 y2 y3 y4 y5 y6 y7 y8; simp only [if_neg y1, if_neg y2, if_neg y3, if_neg y4, if_neg y5, if_neg y6, if_neg y7, if_neg y8])
    | leaf =>
      have hvT : valueAt kT 0 = none := by rw [hT]; rfl
      have hlT : kT.length = 0 := by rw [hT]; rfl
      have hlS : kS.length = 0 := by rw [hS]; rfl
      cases leaf with
      | var hm hc0 =>
        have okc : CellOk rt cells lf := .var (hr _ hm) (by decide) (by decide) hc0
        replace hm := hr _ hm
        (try ((with_reducible show wpAny _ _ _ _ _ _); k_fold)); k_steps
        refine' step_end (kK := kK) (kS := kS) (by assumption) (by assumption) perm1 (TSt.up .leaf (pend.mono ?s1) ?s2 (fun h => absurd h (by omega)) (.inr rfl) (by omega) (by omega) ?s5 ?s6) (by omega) (by assumption) (by assumption) (by assumption) ?s7 ?s8 ?s9
        case s1 => exact fun q hq => .tail _ hq
        case s2 => exact .tuple List.mem_cons_self (.cons (.str _ _) (.cons (.int _ _) .nil))
        case s5 => rw [stored_length hvT]; omega
        case s6 => exact fun _ _ _ => ⟨_, valueAt_same _ _ _⟩
        case s7 => (repeat' (first | assumption | exact ltN (by dsimp only; k_extra "LTO") | refine Mine.off_cons ?_ ?_ ?_ ?_ ?_ ?_))
        case s8 => exact fun q hq => .tail _ (hr q hq)
        case s9 => (intro y y1 y2 y3 y4 y5 y6 y7 y8; simp only [if_neg y1, if_neg y2, if_neg y3, if_neg y4, if_neg y5, if_neg y6, if_neg y7, if_neg y8])
      | con hm =>
        have hx := fun t1 t2 (h : (lf, tup [.int 0 t1, .int 0 t2]) ∈ rest) => tup_tag (news_uniq N2 (mem5 (hr _ h)) (mem5 (hr _ hm)))
        have okc : CellOk rt cells lf := .plain (.inr (.inl rfl)) (hr _ hm)
        replace hm := hr _ hm
        (try ((with_reducible show wpAny _ _ _ _ _ _); k_fold)); k_steps
        refine' step_end (kK := kK) (kS := kS) (by assumption) (by assumption) perm1 (TSt.up .leaf (pend.mono ?s1) ?s2 (fun h => absurd h (by omega)) (.inr rfl) (by omega) (by omega) ?s5 ?s6) (by omega) (by assumption) (by assumption) (by assumption) ?s7 ?s8 ?s9
        case s1 => exact fun q hq => .tail _ hq
        case s2 => exact .tuple List.mem_cons_self (.cons (.str _ _) (.cons (.int _ _) .nil))
        case s5 => omega
        case s6 => exact fun t1 t2 h => absurd (hx t1 t2 h).1 (by decide)
        case s7 => (repeat' (first | assumption | exact ltN (by dsimp only; k_extra "LTO") | refine Mine.off_cons ?_ ?_ ?_ ?_ ?_ ?_))
        case s8 => exact fun q hq => .tail _ (hr q hq)
        case s9 => (intro y y1 y2 y3 y4 y5 y6 y7 y8; simp only [if_neg y1, if_neg y2, if_neg y3, if_neg y4, if_neg y5, if_neg y6, if_neg y7, if_neg y8])
      | int hm =>
        have hx := fun t1 t2 (h : (lf, tup [.int 0 t1, .int 0 t2]) ∈ rest) => tup_tag (news_uniq N2 (mem5 (hr _ h)) (mem5 (hr _ hm)))
        have okc : CellOk rt cells lf := .plain (.inr (.inr rfl)) (hr _ hm)
        replace hm := hr _ hm
        (try ((with_reducible show wpAny _ _ _ _ _ _); k_fold)); k_steps
        refine' step_end (kK := kK) (kS := kS) (by assumption) (by assumption) perm1 (TSt.up .leaf (pend.mono ?s1) ?s2 (fun h => absurd h (by omega)) (.inr rfl) (by omega) (by omega) ?s5 ?s6) (by omega) (by assumption) (by assumption) (by assumption) ?s7 ?s8 ?s9
        case s1 => exact fun q hq => .tail _ hq
        case s2 => exact .tuple List.mem_cons_self (.cons (.str _ _) (.cons (.int _ _) .nil))
        case s5 => omega
        case s6 => exact fun t1 t2 h => absurd (hx t1 t2 h).1 (by decide)
        case s7 => (repeat' (first | assumption | exact ltN (by dsimp only; k_extra "LTO") | refine Mine.off_cons ?_ ?_ ?_ ?_ ?_ ?_))
        case s8 => exact fun q hq => .tail _ (hr q hq)
        case s9 => (intro y y1 y2 y3 y4 y5 y6 y7 y8; simp only [if_neg y1, if_neg y2, if_neg y3, if_neg y4, if_neg y5, if_neg y6, if_neg y7, if_neg y8])
  | up dag2 pend hdat hkn hp l1 l2 l3 hv0 =>
    rename_i j c t ts
    obtain ⟨e1, e2⟩ := pend.len
    cases pend with
    | top =>
      have hwl : ([] : List Value).length = 0 := rfl
      (try ((with_reducible show wpAny _ _ _ _ _ _); k_fold)); k_steps
      rename News h₀ L _ _ => kN
      exact hret _ _ t rt oT (hp.resolve_right (by omega)) (by assumption) (fun q hq => kN q (by
        simp only [List.mem_cons] at hq ⊢
        rcases hq with hq | hq <;> simp [hq])) hr hdat
    | step pend na hb hw =>
      rename_i c' wb wv tw ws g1 g2
      rw [List.length_append, List.length_append] at e2
      have hwl : (ws ++ [Value.ref wb] ++ [Value.ref wv]).length = ws.length + 2 := by simp
      have hwl2 : (ws ++ [Value.ref wb]).length < 1000 := by simp; omega
      have key : (∃ j', j = j' + 1 ∧ tw = true) ∨ ((if tw then c else lf) = lf ∧ (if tw then termD f lD ts else lD) = lD) := by
        cases tw with
        | false => exact .inr ⟨rfl, rfl⟩
        | true =>
          cases dag2 with
          | leaf => exact .inr ⟨rfl, rfl⟩
          | node => exact .inl ⟨_, rfl, rfl⟩
      rcases key with ⟨j', hj, htw⟩ | ⟨k1, k2⟩
      · subst hj htw
        replace hw : (wv, tup [.int 0 g2, .ref c]) ∈ rt := hw
        have hwl3 : ws.length < 999 := by omega
        obtain ⟨gg, hk1, hk2⟩ := hkn (by omega)
        rw [show j' + 1 - 1 = j' from rfl] at hk1 hk2
        have hc : ∃ t1 t2, (c, tup [.int 2 t1, .int (v + 3 * j') t2]) ∈ rest := by
          cases dag2 with
          | node d na => exact na.hc
        obtain ⟨tt1, tt2, hc⟩ := hc
        have okc : CellOk rt cells c := .plain (.inl rfl) (hr _ hc)
        replace hc := hr _ hc
        (try ((with_reducible show wpAny _ _ _ _ _ _); k_fold)); k_steps
        refine' step_end (kK := kK) (kS := kS) (kT := kT) (by assumption) (by assumption) (fun _ h => h) (TSt.build dag2 pend na hb hdat hdat (fun _ => ⟨gg, hk2⟩) hp l1 l2 l3 hv0) (by omega) (by assumption) (by assumption) (by assumption) off hr ?s9
        case s9 => (intro y y1 y2 y3 y4 y5 y6 y7 y8; simp only [if_neg y1, if_neg y2, if_neg y3, if_neg y4, if_neg y5, if_neg y6, if_neg y7, if_neg y8])
      · rw [k1] at hw
        have hwl3 : ws.length < 999 := by omega
        have fin : ∀ (t' : Addr) (rt' : List (Addr × Obj)), (∀ q ∈ rt, q ∈ rt') → DatIn rt' (.ref t') lD → TSt rest cells v f lf lD (lv + 1) cc full R (2 * (lv + 1 - j)) rt' [.ref t, .ref t'] (ws ++ [.ref wb]) kK kS kT := fun t' rt' hs hd => by
          refine TSt.build dag2 (pend.mono hs) na (hs _ hb) (hdat.mono hs) (by rw [k2]; exact hd) (fun h => ?_) hp l1 l2 l3 hv0
          obtain ⟨gg, hk1, hk2⟩ := hkn h
          exact ⟨gg, hk2⟩
        cases leaf with
        | var hm hc0 =>
          have okc : CellOk rt cells lf := .var (hr _ hm) (by decide) (by decide) hc0
          obtain ⟨gT, hvT⟩ := hv0 _ _ hm
          replace hm := hr _ hm
          (try ((with_reducible show wpAny _ _ _ _ _ _); k_fold)); k_steps
          refine' step_end (kK := kK) (kS := kS) (kT := kT) (by assumption) (by assumption) perm1 (fin _ _ ?s1 ?s2) (by omega) (by assumption) (by assumption) (by assumption) ?s7 ?s8 ?s9
          case s1 => exact fun q hq => .tail _ hq
          case s2 => exact .tuple List.mem_cons_self (.cons (.str _ _) (.cons (.int _ _) .nil))
          case s7 => (repeat' (first | assumption | exact ltN (by dsimp only; k_extra "LTO") | refine Mine.off_cons ?_ ?_ ?_ ?_ ?_ ?_))
          case s8 => exact fun q hq => .tail _ (hr q hq)
          case s9 => (intro y y1 y2 y3 y4 y5 y6 y7 y8; simp only [if_neg y1, if_neg y2, if_neg y3, if_neg y4, if_neg y5, if_neg y6, if_neg y7, if_neg y8])
        | con hm =>
          have okc : CellOk rt cells lf := .plain (.inr (.inl rfl)) (hr _ hm)
          replace hm := hr _ hm
          (try ((with_reducible show wpAny _ _ _ _ _ _); k_fold)); k_steps
          refine' step_end (kK := kK) (kS := kS) (kT := kT) (by assumption) (by assumption) perm1 (fin _ _ ?s1 ?s2) (by omega) (by assumption) (by assumption) (by assumption) ?s7 ?s8 ?s9
          case s1 => exact fun q hq => .tail _ hq
          case s2 => exact .tuple List.mem_cons_self (.cons (.str _ _) (.cons (.int _ _) .nil))
          case s7 => (repeat' (first | assumption | exact ltN (by dsimp only; k_extra "LTO") | refine Mine.off_cons ?_ ?_ ?_ ?_ ?_ ?_))
          case s8 => exact fun q hq => .tail _ (hr q hq)
          case s9 => (intro y y1 y2 y3 y4 y5 y6 y7 y8; simp only [if_neg y1, if_neg y2, if_neg y3, if_neg y4, if_neg y5, if_neg y6, if_neg y7, if_neg y8])
        | int hm =>
          have okc : CellOk rt cells lf := .plain (.inr (.inr rfl)) (hr _ hm)
          replace hm := hr _ hm
          (try ((with_reducible show wpAny _ _ _ _ _ _); k_fold)); k_steps
          refine' step_end (kK := kK) (kS := kS) (kT := kT) (by assumption) (by assumption) perm1 (fin _ _ ?s1 ?s2) (by omega) (by assumption) (by assumption) (by assumption) ?s7 ?s8 ?s9
          case s1 => exact fun q hq => .tail _ hq
          case s2 => exact .tuple List.mem_cons_self (.cons (.str _ _) (.cons (.int _ _) .nil))
          case s7 => (repeat' (first | assumption | exact ltN (by dsimp only; k_extra "LTO") | refine Mine.off_cons ?_ ?_ ?_ ?_ ?_ ?_))
          case s8 => exact fun q hq => .tail _ (hr q hq)
          case s9 => (intro y y1 y2 y3 y4 y5 y6 y7 y8; simp only [if_neg y1, if_neg y2, if_neg y3, if_neg y4, if_neg y5, if_neg y6, if_neg y7, if_neg y8])
  | build dag2 pend na hb hdat hdat' hS hp l1 l2 l3 hv0 =>
    rename_i j c c' t t' wb ts tw ws g
    obtain ⟨e1, e2⟩ := pend.len
    have hwl : (ws ++ [Value.ref wb]).length = ws.length + 1 := by simp
    have hwl2 : ws.length < 1000 := by omega
    obtain ⟨tt1, tt2, hc⟩ := na.hc
    obtain ⟨fc, g1, uu, hc2, hc3⟩ := na.hf
    have at1 := na.h1
    have at2 := na.h2
    have okL : CellOk rt cells lf ∧ ∃ i k t1 t2, (lf, tup [.int i t1, .int k t2]) ∈ rt ∧ i ≠ 2 ∧ i ≠ 3 := by
      cases leaf with
      | var hm hc0 => exact ⟨.var (hr _ hm) (by decide) (by decide) hc0, _, _, _, _, hr _ hm, by decide, by decide⟩
      | con hm => exact ⟨.plain (.inr (.inl rfl)) (hr _ hm), _, _, _, _, hr _ hm, by decide, by decide⟩
      | int hm => exact ⟨.plain (.inr (.inr rfl)) (hr _ hm), _, _, _, _, hr _ hm, by decide, by decide⟩
    obtain ⟨okL, li, lk, lt1, lt2, hlm, hli, hli3⟩ := okL
    have sL : SizeOf rt kS lf 1 := .leaf hlm hli hli3
    have okC : CellOk rt cells c ∧ SizeOf rt kS c (partsZ ts) := by
      cases dag2 with
      | leaf => exact ⟨okL, sL⟩
      | node d2 na2 =>
        obtain ⟨y1, y2, hc'⟩ := na2.hc
        obtain ⟨gg, hk2⟩ := hS (by omega)
        exact ⟨.plain (.inl rfl) (hr _ hc'), .comp (hr _ hc') hk2⟩
    obtain ⟨okC, sC⟩ := okC
    have okD : CellOk rt cells (if tw then c else lf) := by cases tw <;> assumption
    have sD : SizeOf rt kS (if tw then c else lf) (if tw then partsZ ts else 1) := by cases tw <;> assumption
    clear sL okL hlm hli hli3
    replace hc := hr _ hc
    replace hc3 := hr _ hc3
    generalize hcc : (if tw = true then c else lf) = c2 at *
    generalize hzz : (if tw = true then partsZ ts else 1) = zz at *
    (try ((with_reducible show wpAny _ _ _ _ _ _); k_fold)); k_steps
    · rename_i hh tk' e d ta u b n4 tv' n1' oA' fv' n2' oF' nn' F' N' o' S' D'
      have hpz := pend.parts
      have hz : partsZ (tw :: ts) = 1 + partsZ ts + zz := by rw [← hzz]; rfl
      refine ⟨e, d, ta, rfl, (N' _ (.tail _ List.mem_cons_self)).1, (by assumption : (Mine.kf w.params).In _).keeps F'.keep, ?_⟩
      show wpAny _ _ (leaving _ _) _ _ _
      refine leave_D (by assumption) F' N' (.tail _ List.mem_cons_self) (fun q hq => ?_) o' (fun h' x1 x2 => ?_)
      · rcases List.mem_cons.mp hq with rfl | hq
        · exact .head _
        · exact .tail _ (.tail _ hq)
      · exact hexc _ _ _ _ _ _ _ _ _ _ _ _ _ _ _ _ (by omega) (by assumption) x2 x1 S' D'
    · dsimp only
      subst hcc
      have hz : partsZ (tw :: ts) = 1 + partsZ ts + zz := by rw [← hzz]; rfl
      refine' step_cont (kT := kT) (by assumption) (by assumption) perm3 (TSt.up (.node dag2 na) (pend.mono ?s1) ?s2 ?s3 (.inl ?s4) ?s5 ?s6 l3 hv0) (by omega) (by assumption) (by assumption) (by assumption) ?s7 ?s8 ?s9
      case s1 => exact fun q hq => .tail _ (.tail _ (.tail _ hq))
      case s2 => exact .tuple List.mem_cons_self (.cons (.str _ _) (.cons (.int _ _) (.cons (.tuple (.tail _ List.mem_cons_self) (.cons (hdat.mono fun q hq => .tail _ (.tail _ (.tail _ hq))) (.cons (hdat'.mono fun q hq => .tail _ (.tail _ (.tail _ hq))) .nil))) .nil)))
      case s3 =>
        intro _
        rw [Nat.add_sub_cancel, hz]
        exact ⟨_, valueAt_same _ _ _, valueAt_same _ _ _⟩
      case s4 => rw [hz]; omega
      case s5 => exact Nat.le_trans (stored_le _ _ _) (by omega)
      case s6 => exact Nat.le_trans (stored_le _ _ _) (by omega)
      case s7 => (repeat' (first | assumption | exact ltN (by dsimp only; k_extra "LTO") | refine Mine.off_cons ?_ ?_ ?_ ?_ ?_ ?_))
      case s8 => exact fun q hq => .tail _ (.tail _ (.tail _ (hr q hq)))
      case s9 => (intro y y1 y2 y3 y4 y5 y6 y7 y8; simp only [if_neg y1, if_neg y2, if_neg y3, if_neg y4, if_neg y5, if_neg y6, if_neg y7, if_neg y8])
end
end Mine
namespace Mine
section
variable {prog : Program} {w : World} {p : Program} {loose : List Str} {mean : ExcName → Option Value} {mg mb : Str → Option Value}
  {dp un : Nat} {gd : Option (List Code)} {cn : Str} {cs : Scope} {a : Addr} {ccd : Value} {cl : List (Str × Addr)} {outer : List Env} {A₀ : Around} {base h₀ : Heap} {L : Addr} {m : Str → Option Value} {led : List (Addr × Obj)} {s : Shared}
  {Q E : Value → Shared → Prop}
theorem fmod_bounds (i lim : Int) (h : 0 < lim) : 0 ≤ i.fmod lim ∧ i.fmod lim < lim := by rw [Int.fmod_eq_emod_of_nonneg _ (Int.le_of_lt h)]; exact ⟨Int.emod_nonneg _ (Int.ne_of_gt h), Int.emod_lt_of_pos _ h⟩
theorem scoop_in (B : Below A₀ base outer h₀) (F : Fr h₀ L s.heap m) (X : (Mine.kf w.params).In h₀) (N : News h₀ L s.heap led) (T : Top p loose mean mg mb h₀) (hk : cs.kind = .function)
  (hd : dp + 4 < recursionLimit) (hu : un + 50 < cLine) {rest : List (Addr × Obj)} {kg D : Addr} {k lim : Int} {t u nn n1 : Nat} {ws : List Value} {is : List Int} (hw : IntsAre ws is) (hl : ws.length < 1000)
  (h1 : (D, listOf ws.toArray n1) ∈ rest) (off : OwnOff rest [kg]) (k0 : 0 ≤ k) (k1 : k < 1000) (l0 : 0 < lim) (l1 : lim < 1000) (hsub : ∀ q ∈ (kg, listOf [Value.ref D, Value.int k t].toArray nn) :: rest, q ∈ led)
  (hret : ∀ h' tk' nn' r t2 t3, Fr h₀ L h' m → News h₀ L h' ((kg, listOf [Value.ref D, Value.int (k + 1) t2].toArray nn') :: rest) → 0 ≤ r → r < lim → Q (.int r t3) { s with heap := h', toks := tk' }) :
  wpAny (model prog w) (ktrTop dp un gd cn cs L a ccd cl outer) (call (.ref 552) [.ref kg, .int lim u]) Q E s := by
  have N2 : News h₀ L s.heap ((kg, listOf [Value.ref D, Value.int k t].toArray nn) :: rest) := fun q hq => N q (hsub q hq)
  clear N hsub
  by_cases hx : k + 1 > ws.length
  · refine wpAny_call ?_
    k_dflt ktr_enter
    k_steps
    exact hret _ _ _ _ _ _ (by assumption) (by assumption) (Int.le_refl _) l0
  · have hg : ∃ i t', ws[(k + 1 - 1).toNat]? = some (.int i t') := by
      have hlt : (k + 1 - 1).toNat < ws.length := by omega
      obtain ⟨i, t', e, _⟩ := hw.at _ _ (List.getElem?_eq_getElem hlt)
      exact ⟨i, t', (List.getElem?_eq_getElem hlt).trans (congrArg some e)⟩
    obtain ⟨i, t', hg⟩ := hg
    refine wpAny_call ?_
    k_dflt ktr_enter
    k_steps
    exact hret _ _ _ _ _ _ (by assumption) (by assumption) (fmod_bounds _ _ l0).1 (fmod_bounds _ _ l0).2
theorem scoop' (B : Below A₀ base outer h₀) (F : Fr h₀ L s.heap m) (X : (Mine.kf w.params).In h₀) (N : News h₀ L s.heap led) (T : Top p loose mean mg mb h₀) (hk : cs.kind = .function)
  (hd : dp + 4 < recursionLimit) (hu : un + 50 < cLine) {led' : Obj → List (Addr × Obj)} {kg D : Addr} {k lim : Int} {t u nn n1 : Nat} {ws : List Value} {is : List Int}
  (U : ∀ o', Upd kg (listOf [Value.ref D, Value.int k t].toArray nn) o' led (led' o')) (hne : D ≠ kg) (h1 : (D, listOf ws.toArray n1) ∈ led) (hw : IntsAre ws is) (hl : ws.length < 1000) (k0 : 0 ≤ k) (k1 : k < 1000) (l0 : 0 < lim) (l1 : lim < 1000)
  (hret : ∀ h' tk' nn' r t2 t3, Fr h₀ L h' m → News h₀ L h' (led' (listOf [Value.ref D, Value.int (k + 1) t2].toArray nn')) → 0 ≤ r → r < lim → Q (.int r t3) { s with heap := h', toks := tk' }) :
  wpAny (model prog w) (ktrTop dp un gd cn cs L a ccd cl outer) (call (.ref 552) [.ref kg, .int lim u]) Q E s :=
  scoop_in B F X N T hk hd hu hw hl (offOf_in h1 hne) (offOf_off kg led) k0 k1 l0 l1 (upd_sub (U default)) fun h' tk' nn' r t2 t3 F' N' a1 a2 => hret h' tk' nn' r t2 t3 F' (fun q hq => N' q (upd_out (U _) q hq)) a1 a2
end
end Mine
example : True := by
  k_with "REL" => (first | assumption | (refine' And.right ?kx; (case kx => assumption)) | (refine' And.right (And.right ?kx); (case kx => assumption)) | (refine' And.right (And.right (And.right ?kx)); (case kx => assumption)) | (refine' And.right (And.right (And.right (And.right ?kx))); (case kx => assumption)) | (refine' And.right (And.right (And.right (And.right (And.right ?kx)))); (case kx => assumption)) | (refine' And.right (And.right (And.right (And.right (And.right (And.right ?kx))))); (case kx => assumption)) | (refine' And.right (And.right (And.right (And.right (And.right (And.right (And.right ?kx)))))); (case kx => assumption)) | (refine' And.right (And.right (And.right (And.right (And.right (And.right (And.right (And.right ?kx))))))); (case kx => assumption)) | (refine' And.right (And.right (And.right (And.right (And.right (And.right (And.right (And.right (And.right ?kx)))))))); (case kx => assumption)) | (refine' And.right (And.right (And.right (And.right (And.right (And.right (And.right (And.right (And.right (And.right ?kx))))))))); (case kx => assumption)) | (refine' And.right (And.right (And.right (And.right (And.right (And.right (And.right (And.right (And.right (And.right (And.right ?kx)))))))))); (case kx => assumption)) | (refine' And.right (And.right (And.right (And.right (And.right (And.right (And.right (And.right (And.right (And.right (And.right (And.right ?kx))))))))))); (case kx => assumption)) | (refine' And.right (And.right (And.right (And.right (And.right (And.right (And.right (And.right (And.right (And.right (And.right (And.right (And.right ?kx)))))))))))); (case kx => assumption)) | (refine' And.right (And.right (And.right (And.right (And.right (And.right (And.right (And.right (And.right (And.right (And.right (And.right (And.right (And.right ?kx))))))))))))); (case kx => assumption)) | (refine' And.right (And.right (And.right (And.right (And.right (And.right (And.right (And.right (And.right (And.right (And.right (And.right (And.right (And.right (And.right ?kx)))))))))))))); (case kx => assumption)) | (refine' And.right (And.right (And.right (And.right (And.right (And.right (And.right (And.right (And.right (And.right (And.right (And.right (And.right (And.right (And.right (And.right ?kx))))))))))))))); (case kx => assumption)) | (refine' And.right (And.right (And.right (And.right (And.right (And.right (And.right (And.right (And.right (And.right (And.right (And.right (And.right (And.right (And.right (And.right (And.right ?kx)))))))))))))))); (case kx => assumption)) | (refine' And.right (And.right (And.right (And.right (And.right (And.right (And.right (And.right (And.right (And.right (And.right (And.right (And.right (And.right (And.right (And.right (And.right (And.right ?kx))))))))))))))))); (case kx => assumption)) | fail "kwd_rel")
  trivial
namespace Mine
noncomputable abbrev areaD (P : Params) (st : Addr) (t1 t2 t3 t4 t5 t6 t7 t8 t9 t10 t11 t12 t13 t14 t15 t16 t17 t18 : Nat) (v1 v2 v3 v4 v5 v7 v8 v9 v10 v11 v12 v13 v14 v15 v16 v17 v18 : Value) : List DictEntry :=
  [ent P "symbols" t1 v1, ent P "code" t2 v2, ent P "max_heap" t3 v3, ent P "occurs" t4 v4, ent P "max_bits" t5 v5, ent P "store" t6 (.ref st), ent P "x" t7 v7, ent P "p" t8 v8, ent P "cp" t9 v9, ent P "e" t10 v10, ent P "b" t11 v11, ent P "b0" t12 v12, ent P "mode" t13 v13, ent P "s" t14 v14, ent P "guard" t15 v15, ent P "roots" t16 v16, ent P "bags" t17 v17, ent P "collect_wanted" t18 v18]
theorem news_areas {h₀ h : Heap} {L : Addr} {a b c d e f g i j k : Addr × Obj} {r : List (Addr × Obj)} (N : News h₀ L h (a :: b :: c :: d :: e :: f :: g :: i :: j :: k :: r)) : News h₀ L h (f :: ([a, b, c, d, e, g, i, j, k] ++ r)) := fun q hq => N q (by
  simp only [List.cons_append, List.nil_append, List.mem_cons] at hq ⊢
  rcases hq with h | h | h | h | h | h | h | h | h | h | h <;> simp [h])
section
variable {prog : Program} {w : World} {p : Program} {loose : List Str} {mean : ExcName → Option Value} {mg mb : Str → Option Value}
  {dp un : Nat} {gd : Option (List Code)} {cn : Str} {cs : Scope} {a : Addr} {ccd : Value} {cl : List (Str × Addr)} {outer : List Env} {A₀ : Around} {base h₀ : Heap} {L : Addr} {m : Str → Option Value} {led : List (Addr × Obj)} {s : Shared}
  {Q E : Value → Shared → Prop}
theorem init_areas (B : Below A₀ base outer h₀) (F : Fr h₀ L s.heap m) (X : (Mine.kf w.params).In h₀) (N : News h₀ L s.heap led) (T : Top p loose mean mg mb h₀) (hk : cs.kind = .function)
  (hd : dp + 12 < recursionLimit) (hu : un + 120 < cLine) {sy lc : Addr} {R : Int} {u : Nat}
  (hret : ∀ h' tk' am dm st ds hp sk tr q1 q2 q3 q4 q5 q6 q7 u2 u3 nw, Fr h₀ L h' m → News h₀ L h' ((hp, listOf ([] : List Value).toArray 0) :: (nw ++ led)) → (∃ t1 t2 t3 t4 t5 t6 t7 t8 t9 t10 t11 t12 t13 t14 t15 t16 t17 t18 v1 v2 v3 v4 v5 v7 v8 v9 v10 v11 v12 v13 v14 v15 v16 v17 v18, (dm, dictOf (areaD w.params st t1 t2 t3 t4 t5 t6 t7 t8 t9 t10 t11 t12 t13 t14 t15 t16 t17 t18 v1 v2 v3 v4 v5 v7 v8 v9 v10 v11 v12 v13 v14 v15 v16 v17 v18) 18) ∈ nw) → (am, instObj 541 dm) ∈ nw → (st, instObj 381 ds) ∈ nw → (ds, dictOf (storeD w.params sy hp sk tr R q1 q2 q3 q4 q5 q6 q7 u u2 u3) 7) ∈ nw →
    (∀ q ∈ led, q.1 < hp) → (∀ q ∈ nw, @Ne Nat q.1 hp ∧ ∀ r ∈ led, r.1 < q.1) → Q (.ref am) { s with heap := h', toks := tk' }) :
  wpAny (model prog w) (ktrTop dp un gd cn cs L a ccd cl outer) (call (.ref 541) [.ref sy, .ref lc, .int R u]) Q E s := by
  k_dflt (refine' call_cls ?k1 ?k2 ?k3 ?k4 ?k5 ?k6 ?_; (case k1 => k_asm); (case k2 => k_asm); (case k3 => k_asm); (case k4 => k_is); (case k5 => k_is); (case k6 => k_is); k_whole; intro x' d' h' F' N' l1 l2; (try k_lt l1); (try k_lt2 l2))
  clear F N
  k_dflt (refine' code_def ?k1 ?k2 ?k3 ?k4 ?k5 ?kA ?kF ?kK ?k6 ?k7 ?k8 ?k9 ?kB ?_ ?c2 ?c3 ?c4 ?c5; (case kA => exact rfl); (case kF => exact rfl); (case kK => assumption); (case k1 => k_asm); (case k2 => k_asm); (case k3 => k_asm); (case k4 => k_asm); (case k5 => k_asm); (case k6 => k_is); (case k7 => k_is); (case k8 => ktr_room); (case k9 => exact binds_K (by k_in) rfl (by k_is) rfl rfl rfl); (case c5 => decide); (case kB => exact locs rfl); (case c2 => exact rfl); (case c3 => exact rfl); (case c4 => exact rfl); k_whole; intro g' L' h' FG' F' N' B' X' T'; (try dsimp only); (try k_fold))
  k_steps
  rename News h₀ L _ _ => kN
  refine hret _ _ _ _ _ _ _ _ _ _ _ _ _ _ _ _ _ _ _ (by assumption) (news_areas kN) ⟨_, _, _, _, _, _, _, _, _, _, _, _, _, _, _, _, _, _, _, _, _, _, _, _, _, _, _, _, _, _, _, _, _, _, _, (.tail _ (.tail _ (.tail _ (.tail _ (.tail _ (.tail _ (.tail _ (.tail _ List.mem_cons_self))))))))⟩ (.tail _ (.tail _ (.tail _ (.tail _ (.tail _ (.tail _ (.tail _ List.mem_cons_self))))))) (.tail _ (.tail _ (.tail _ (.tail _ (.tail _ List.mem_cons_self))))) (.tail _ (.tail _ (.tail _ (.tail _ (.tail _ (.tail _ List.mem_cons_self)))))) ?g5 ?g6
  case g5 => exact allLt_mem (by kwd_rel)
  case g6 =>
    repeat (refine List.forall_mem_cons.mpr ⟨⟨by dsimp only; k_extra "NE", ?_⟩, ?_⟩; first | exact l1 | exact fun r hr => Nat.lt_trans (l1 r hr) l2 | exact fun r hr => Nat.lt_trans (allLt_mem (And.right (And.right ‹_ ∧ _ ∧ AllLt _ led›)) r hr) ‹_› | exact allLt_mem (by kwd_rel))
    exact fun _ h => nomatch h
end
end Mine
namespace Mine
section
variable {n₁ n₂ : List (Addr × Obj)} {cells ext : List Value} {v f : Int} {j : Nat} {c c1 c2 lf : Addr}
theorem getApp {l e : List Value} {i : Nat} {x : Value} (h : l[i]? = some x) : (l ++ e)[i]? = some x := by
  have hl : i < l.length := by
    rcases Nat.lt_or_ge i l.length with h' | h'
    · exact h'
    · rw [List.getElem?_eq_none h'] at h; cases h
  rw [List.getElem?_append_left hl]; exact h
theorem AtI.app {i : Nat} {z : Int} {x : Value} (h : AtI i cells z x) : AtI i (cells ++ ext) z x := ⟨h.h.1, h.h.2.1, getApp h.h.2.2⟩
theorem NodeAt.mono (hs : ∀ q ∈ n₁, q ∈ n₂) (h : NodeAt n₁ cells v f j c c1 c2) : NodeAt n₂ (cells ++ ext) v f j c c1 c2 := by
  obtain ⟨⟨t1, t2, a⟩, ⟨fc, g1, u, b, d⟩, e, g⟩ := h
  exact ⟨⟨t1, t2, hs _ a⟩, ⟨fc, g1, u, getApp b, hs _ d⟩, e.app, g.app⟩
theorem Dag.mono (hs : ∀ q ∈ n₁, q ∈ n₂) {fl : List Bool} (h : Dag n₁ cells v f lf j c fl) : Dag n₂ (cells ++ ext) v f lf j c fl := by
  induction h with
  | leaf => exact .leaf
  | node _ a ih => exact .node ih (a.mono hs)
theorem LeafK.mono (hs : ∀ q ∈ n₁, q ∈ n₂) {lD : Dat} (h : LeafK n₁ cells lf lD) : LeafK n₂ (cells ++ ext) lf lD := by
  cases h with
  | var a b => exact .var (hs _ a) (getApp b)
  | con a => exact .con (hs _ a)
  | int a => exact .int (hs _ a)
theorem LeafK.ok {lD : Dat} (h : LeafK n₁ cells lf lD) : CellOk n₁ cells lf := by
  cases h with
  | var a b => exact .var a (by decide) (by decide) b
  | con a => exact .plain (.inr (.inl rfl)) a
  | int a => exact .plain (.inr (.inr rfl)) a
theorem Dag.ok {lD : Dat} {fl : List Bool} (h : Dag n₁ cells v f lf j c fl) (l : LeafK n₁ cells lf lD) : CellOk n₁ cells c := by
  cases h with
  | leaf => exact l.ok
  | node _ a => obtain ⟨t1, t2, h⟩ := a.hc; exact .plain (.inl rfl) h
theorem CellOk.mono (hs : ∀ q ∈ n₁, q ∈ n₂) (h : CellOk n₁ cells c) : CellOk n₂ cells c := by
  cases h with
  | plain a b => exact .plain a (hs _ b)
  | var a b d e => exact .var (hs _ a) b d e
end
noncomputable def TSA : List Str := atomT NM0.1 (Str.ofString "leaf")
noncomputable def TSB : List Str := atomT TSA (Str.ofString "f")
noncomputable def FLB : List (Int × Int) := funT NM0.2 ((TSA.idxOf (Str.ofString "f") : Int), 2)
noncomputable def TSk (i : Nat) : List Str := if i = 0 then TSA else TSB
noncomputable def FLk (i : Nat) : List (Int × Int) := if i = 0 then NM0.2 else FLB
noncomputable def fN : Nat := NM0.2.idxOf ((TSA.idxOf (Str.ofString "f") : Int), (2 : Int))
theorem tsk_f (i : Nat) : atomT (TSk i) (Str.ofString "f") = TSB := by
  unfold TSk; split
  · rfl
  · decide +kernel
theorem flk_f (i : Nat) : funT (FLk i) (((TSk i).idxOf (Str.ofString "f") : Int), 2) = FLB := by
  unfold FLk TSk; split
  · rfl
  · decide +kernel
theorem fN_of (i : Nat) : (FLk i).idxOf (((TSk i).idxOf (Str.ofString "f") : Int), (2 : Int)) = fN := by
  unfold FLk TSk; split
  · rfl
  · decide +kernel
theorem tsk_len (i : Nat) : (TSk i).length < 800 := by
  unfold TSk; split <;> decide +kernel
theorem flk_len (i : Nat) : (FLk i).length < 800 := by
  unfold FLk; split <;> decide +kernel
theorem fN_at : FLB[fN]? = some ((TSA.idxOf (Str.ofString "f") : Int), (2 : Int)) := by decide +kernel
theorem fN_pos : (0 : Int) < ((fN : Nat) : Int) := by decide +kernel
theorem fN_lt : ((fN : Nat) : Int) < 1000000 := by decide +kernel
theorem fN_b : 0 < fN ∧ fN < 800 := by decide +kernel
section
variable {prog : Program} {w : World} {p : Program} {loose : List Str} {mean : ExcName → Option Value} {mg mb : Str → Option Value}
  {dp un : Nat} {gd : Option (List Code)} {cn : Str} {cs : Scope} {a : Addr} {ccd : Value} {cl : List (Str × Addr)} {outer : List Env} {A₀ : Around} {base h₀ : Heap} {L : Addr} {m : Str → Option Value} {led : List (Addr × Obj)} {s : Shared}
  {Q E : Value → Shared → Prop}
theorem func_f (B : Below A₀ base outer h₀) (F : Fr h₀ L s.heap m) (X : (Mine.kf w.params).In h₀) (N : News h₀ L s.heap led) (T : Top p loose mean mg mb h₀) (hk : cs.kind = .function)
  (hd : dp + 5 < recursionLimit) (hu : un + 60 < cLine) {n₁ : List (Addr × Obj)} {u u2 : Nat} {m1 : Obj → List (Addr × Obj)} {m2 : Obj → Obj → List (Addr × Obj)} {m3 : Obj → Obj → Obj → List (Addr × Obj)} {led' : Obj → Obj → Obj → Obj → List (Addr × Obj)}
  {x dx tx an fs fn : Addr} {q1 q2 q3 q4 n n1 n2 i : Nat} {oA oF : Obj} {tv fv : List Value}
  (h1 : (x, instObj 154 dx) ∈ led) (h2 : (dx, dictOf (symD w.params tx an fs fn q1 q2 q3 q4) n) ∈ led) (R : AtomsRel prog w (TSk i) oA tv) (R2 : FunRel prog w n₁ (FLk i) oF fv)
  (U1 : ∀ o1, Upd tx (listOf tv.toArray n1) o1 led (m1 o1)) (U2 : ∀ o1 o2, Upd an oA o2 (m1 o1) (m2 o1 o2)) (U3 : ∀ o1 o2 o3, Upd fs (listOf fv.toArray n2) o3 (m2 o1 o2) (m3 o1 o2 o3)) (U4 : ∀ o1 o2 o3 o4, Upd fn oF o4 (m3 o1 o2 o3) (led' o1 o2 o3 o4))
  (e1 : @Ne Nat tx an) (e2 : @Ne Nat tx fs) (e3 : @Ne Nat tx fn) (e4 : @Ne Nat an fs) (e5 : @Ne Nat an fn) (e6 : @Ne Nat fs fn) (e7 : @Ne Nat dx an) (e8 : @Ne Nat dx fn) (ht : Tups n₁) (hn : ∀ q ∈ n₁, q ∈ led)
  (lo : (an == sysModules) = false) (lo2 : (fn == sysModules) = false)
  (hret : ∀ h' tk' tv' n1' oA' fv' n2' oF' n₁' kt t' ko ft fa ta tb, Fr h₀ L h' m → News h₀ L h' ((kt, ko) :: led' (listOf tv'.toArray n1') oA' (listOf fv'.toArray n2') oF') →
    AtomsRel prog w TSB oA' tv' → FunRel prog w n₁' FLB oF' fv' → n₁' = (kt, ko) :: n₁ → Tups n₁' → fv'[(fN : Int).toNat]? = some (.ref ft) → (ft, tup [.int fa ta, .int 2 tb]) ∈ n₁' →
    (∀ q ∈ led, q.1 < kt) → Q (.int fN t') { s with heap := h', toks := tk' }) :
  wpAny (model prog w) (topH none dp un gd cn cs L a ccd cl outer) (call (.ref 109) [.ref x, .str (Str.ofString "f") u, .int 2 u2]) Q E s := by
  refine func' B F X N T hk hd hu h1 h2 R R2 U1 U2 U3 U4 e1 e2 e3 e4 e5 e6 e7 e8 ht hn lo lo2 (Nat.lt_trans (tsk_len i) (by decide)) (Nat.lt_trans (flk_len i) (by decide)) ?_
  intro h' tk' tv' n1' oA' fv' n2' oF' kt t' t2 F' N' R' R2' l
  rw [tsk_f] at R'
  rw [flk_f] at R2'
  rw [fN_of]
  have R3 := R2'
  obtain ⟨xs, -, -, -, -, -, -, r3⟩ := R3
  obtain ⟨ft, ta, tb, y1, y2⟩ := r3 _ _ fN_at
  exact hret h' tk' tv' n1' oA' fv' n2' oF' _ kt t' _ ft _ ta tb F' N' R' R2' rfl (List.forall_mem_cons.mpr ⟨rfl, ht⟩) y1 y2 l
theorem new_struct2' (B : Below A₀ base outer h₀) (F : Fr h₀ L s.heap m) (X : (Mine.kf w.params).In h₀) (N : News h₀ L s.heap led) (T : Top p loose mean mg mb h₀) (hk : cs.kind = .function)
  (hd : dp + 8 < recursionLimit) (hu : un + 80 < cLine) {led' : Obj → List (Addr × Obj)} {n₁ n₂ : List (Addr × Obj)} {u : Nat}
  {x dx sy hp sk tr : Addr} {R : Int} {q1 q2 q3 q4 q5 q6 q7 u1 u2 u3 : Nat} {nn n : Nat} {cells : List Value} (h1 : (x, instObj 381 dx) ∈ led) (h2 : (dx, dictOf (storeD w.params sy hp sk tr R q1 q2 q3 q4 q5 q6 q7 u1 u2 u3) n) ∈ led)
  (U : ∀ o', Upd hp (listOf cells.toArray nn) o' led (led' o'))
  {sd tx an fs fn ft : Addr} {p1 p2 p3 p4 n2 nn2 : Nat} {f fa : Int} {ta tb : Nat} {fvals : List Value}
  (h3 : (sy, instObj 154 sd) ∈ led) (h4 : (sd, dictOf (symD w.params tx an fs fn p1 p2 p3 p4) n2) ∈ led) (h5 : (fs, listOf fvals.toArray nn2) ∈ led) (h5' : fs ≠ hp) (h6 : fvals[f.toNat]? = some (.ref ft)) (h0 : 0 < f) (h0' : f < 1000000)
  (h7 : (ft, tup [.int fa ta, .int 2 tb]) ∈ n₁) {lc c1 c2 : Addr} {nl : Nat} (hl : (lc, listOf [Value.ref c1, Value.ref c2].toArray nl) ∈ led) (hne : lc ≠ hp)
  (ok1 : CellOk n₂ cells c1) (ok2 : CellOk n₂ cells c2) (hs : ∀ q ∈ n₁, q ∈ led) (hs2 : ∀ q ∈ n₂, q ∈ led) (hroom : cells.length + 3 ≤ R) (hR : R ≤ 1000)
  (hret : ∀ h' tk' fc cc t nn' g1 g2, Fr h₀ L h' m → News h₀ L h' ((cc, tup [.int 2 g1, .int cells.length t]) :: (fc, tup [.int 6 g2, .int f u]) :: led' (listOf (cells ++ [Value.ref fc, Value.ref c1, Value.ref c2]).toArray nn')) →
    (∀ q ∈ led, q.1 < fc) → (∀ q ∈ led, q.1 < cc) → Q (.ref cc) { s with heap := h', toks := tk' }) :
  wpAny (model prog w) (ktrTop dp un gd cn cs L a ccd cl outer) (call (.ref 342) [.ref x, .int f u, .ref lc]) Q E s := by
  have hm := upd_mem (U default)
  have tt : ∀ {c : Addr} {vs : List Value}, (c, tup vs) ∈ led → (c, tup vs) ∈ offOf hp led := fun hc => offOf_in hc (ne_of_cls N hc hm (ty_ty (by decide)))
  have ok : ∀ {c : Addr}, CellOk n₂ cells c → CellOk (offOf hp led) cells c := fun h => by
    cases h with
    | plain a b => exact .plain a (tt (hs2 _ b))
    | var a b d e => exact .var (tt (hs2 _ a)) b d e
  exact new_struct2 B F X N T hk hd hu (offOf_off hp led) (offOf_in h1 (ne_of_cls N h1 hm (ref_ty _ _))) (offOf_in h2 (ne_of_cls N h2 hm (ty_ty (by decide)))) (offOf_in h3 (ne_of_cls N h3 hm (ref_ty _ _))) (offOf_in h4 (ne_of_cls N h4 hm (ty_ty (by decide))))
    (offOf_in h5 h5') h6 h0 h0' (tt (hs _ h7)) hl hne (ok ok1) (ok ok2) (upd_sub (U default)) hroom hR fun h' tk' fc cc t nn' g1 g2 F' N' l1 l2 l3 l4 => hret h' tk' fc cc t nn' g1 g2 F' (fun q hq => by
      rcases List.mem_cons.mp hq with h | h
      · exact N' q (h ▸ .head _)
      · rcases List.mem_cons.mp h with h | h
        · exact N' q (h ▸ .tail _ (.head _))
        · exact N' q (.tail _ (.tail _ (upd_out (U _) q h)))) (off_lt l1 l3) (off_lt l2 l4)
end
end Mine
namespace Mine
section
variable {prog : Program} {w : World} {p : Program} {loose : List Str} {mean : ExcName → Option Value} {mg mb : Str → Option Value}
  {dp un : Nat} {gd : Option (List Code)} {cn : Str} {cs : Scope} {a : Addr} {ccd : Value} {cl : List (Str × Addr)} {outer : List Env} {A₀ : Around} {base h₀ : Heap} {L : Addr} {m : Str → Option Value} {led : List (Addr × Obj)} {s : Shared}
  {Q E : Value → Shared → Prop}
theorem names_law {kg D : Addr} {kv ws : List Value} {nk nd : Nat} (B : Below A₀ base outer h₀) (F : Fr h₀ L s.heap m) (X : (Mine.kf w.params).In h₀) (N : News h₀ L s.heap [(kg, listOf kv.toArray nk), (D, listOf ws.toArray nd)]) (T : Top p loose mean mg mb h₀) (hk : cs.kind = .function)
  (hd : dp + 9 < recursionLimit) (hu : un + 90 < cLine) (hkD : @LT.lt Nat _ D kg)
  (hret : ∀ x dx tx an fs fn oA oF tv fv n n1 n2 q1 q2 q3 q4 kts R0 h' tk', Fr h₀ L h' m → News h₀ L h' ((kg, listOf kv.toArray nk) :: (tx, listOf tv.toArray n1) :: (an, oA) :: (fs, listOf fv.toArray n2) :: (fn, oF) :: R0) → OwnOff R0 [kg, tx, an, fs, fn] →
    (x, instObj 154 dx) ∈ R0 → (dx, dictOf (symD w.params tx an fs fn q1 q2 q3 q4) n) ∈ R0 → (D, listOf ws.toArray nd) ∈ R0 → (∀ q ∈ kts, q ∈ R0) →
    AtomsRel prog w NM0.1 oA tv → FunRel prog w kts NM0.2 oF fv → Tups kts → (@LT.lt Nat _ D kg ∧ True) → (@LT.lt Nat _ kg dx ∧ @LT.lt Nat _ D dx ∧ True) → (@LT.lt Nat _ dx x ∧ @LT.lt Nat _ kg x ∧ @LT.lt Nat _ D x ∧ True) → (@LT.lt Nat _ x tx ∧ @LT.lt Nat _ dx tx ∧ @LT.lt Nat _ kg tx ∧ @LT.lt Nat _ D tx ∧ True) → (@LT.lt Nat _ tx an ∧ @LT.lt Nat _ x an ∧ @LT.lt Nat _ dx an ∧ @LT.lt Nat _ kg an ∧ @LT.lt Nat _ D an ∧ True) → (@LT.lt Nat _ an fs ∧ @LT.lt Nat _ tx fs ∧ @LT.lt Nat _ x fs ∧ @LT.lt Nat _ dx fs ∧ @LT.lt Nat _ kg fs ∧ @LT.lt Nat _ D fs ∧ True) → (@LT.lt Nat _ fs fn ∧ @LT.lt Nat _ an fn ∧ @LT.lt Nat _ tx fn ∧ @LT.lt Nat _ x fn ∧ @LT.lt Nat _ dx fn ∧ @LT.lt Nat _ kg fn ∧ @LT.lt Nat _ D fn ∧ True) → (an == sysModules) = false → (fn == sysModules) = false → NM0.1.length < 1000 → Q (.ref x) { s with heap := h', toks := tk' }) :
  wpAny (model prog w) (ktrTop dp un gd cn cs L a ccd cl outer) (call (.ref 154) []) Q E s := by
  refine init_sym B F X N T hk hd hu ?_
  intro x dx tx an fs fn oA oF tv fv n n1 n2 q1 q2 q3 q4 kts h' tk' F' N' R R2 ht lts l1 lo1 lo2
  obtain ⟨c1, c2, c3, c4, c5⟩ := lts
  have k1 : @LT.lt Nat _ kg dx := l1.1
  have p02 := Nat.lt_trans hkD k1
  have p13 := Nat.lt_trans k1 c1
  have p24 := Nat.lt_trans c1 c2
  have p35 := Nat.lt_trans c2 c3
  have p46 := Nat.lt_trans c3 c4
  have p57 := Nat.lt_trans c4 c5
  have p03 := Nat.lt_trans p02 c1
  have p14 := Nat.lt_trans p13 c2
  have p25 := Nat.lt_trans p24 c3
  have p36 := Nat.lt_trans p35 c4
  have p47 := Nat.lt_trans p46 c5
  have p04 := Nat.lt_trans p03 c2
  have p15 := Nat.lt_trans p14 c3
  have p26 := Nat.lt_trans p25 c4
  have p37 := Nat.lt_trans p36 c5
  have p05 := Nat.lt_trans p04 c3
  have p16 := Nat.lt_trans p15 c4
  have p27 := Nat.lt_trans p26 c5
  have p06 := Nat.lt_trans p05 c4
  have p17 := Nat.lt_trans p16 c5
  have p07 := Nat.lt_trans p06 c5
  have cA : oA.cls = .type "dict" := by obtain ⟨_, DD, _⟩ := R; exact DD.1.1
  have cF : oF.cls = .type "dict" := by obtain ⟨_, DD, _⟩ := R2; exact DD.1.1
  have hm : ∀ q, q ∈ (kg, listOf kv.toArray nk) :: (tx, listOf tv.toArray n1) :: (an, oA) :: (fs, listOf fv.toArray n2) :: (fn, oF) :: (x, instObj 154 dx) :: (dx, dictOf (symD w.params tx an fs fn q1 q2 q3 q4) n) :: (D, listOf ws.toArray nd) :: kts →
      q ∈ (x, instObj 154 dx) :: (dx, dictOf (symD w.params tx an fs fn q1 q2 q3 q4) n) :: (tx, listOf tv.toArray n1) :: (an, oA) :: (fs, listOf fv.toArray n2) :: (fn, oF) :: (kts ++ [(kg, listOf kv.toArray nk), (D, listOf ws.toArray nd)]) := fun q hq => by
    simp only [List.mem_cons, List.mem_append, List.not_mem_nil, or_false] at hq ⊢
    rcases hq with h | h | h | h | h | h | h | h | h <;> simp [h]
  have N2 : News h₀ L h' ((kg, listOf kv.toArray nk) :: (tx, listOf tv.toArray n1) :: (an, oA) :: (fs, listOf fv.toArray n2) :: (fn, oF) :: (x, instObj 154 dx) :: (dx, dictOf (symD w.params tx an fs fn q1 q2 q3 q4) n) :: (D, listOf ws.toArray nd) :: kts) := fun q hq => N' q (hm q hq)
  have hk5 : ∀ q ∈ kts, q ∈ (kg, listOf kv.toArray nk) :: (tx, listOf tv.toArray n1) :: (an, oA) :: (fs, listOf fv.toArray n2) :: (fn, oF) :: (x, instObj 154 dx) :: (dx, dictOf (symD w.params tx an fs fn q1 q2 q3 q4) n) :: (D, listOf ws.toArray nd) :: kts := fun q hq => .tail _ (.tail _ (.tail _ (.tail _ (.tail _ (.tail _ (.tail _ (.tail _ hq)))))))
  refine hret x dx tx an fs fn oA oF tv fv n n1 n2 q1 q2 q3 q4 kts _ h' tk' F' N2 ?_ (.head _) (.tail _ (.head _)) (.tail _ (.tail _ (.head _))) (fun q hq => .tail _ (.tail _ (.tail _ hq))) R R2 ht ⟨hkD, trivial⟩ ⟨k1, p02, trivial⟩ ⟨c1, p13, p03, trivial⟩ ⟨c2, p24, p14, p04, trivial⟩ ⟨c3, p35, p25, p15, p05, trivial⟩ ⟨c4, p46, p36, p26, p16, p06, trivial⟩ ⟨c5, p57, p47, p37, p27, p17, p07, trivial⟩ lo1 lo2 (by decide +kernel)
  intro q hq b hb
  simp only [List.mem_cons, List.not_mem_nil, or_false] at hq hb
  rcases hq with rfl | rfl | rfl | hq
  · rcases hb with rfl | rfl | rfl | rfl | rfl <;> exact (by k_ne)
  · rcases hb with rfl | rfl | rfl | rfl | rfl <;> exact (by k_ne)
  · rcases hb with rfl | rfl | rfl | rfl | rfl <;> exact (by k_ne)
  · rcases hb with rfl | rfl | rfl | rfl | rfl
    · exact tups_off N2 ht hk5 (.head _) (ty_ty (by decide)) q hq
    · exact tups_off N2 ht hk5 (.tail _ (.head _)) (ty_ty (by decide)) q hq
    · exact tups_off N2 ht hk5 (.tail _ (.tail _ (.head _))) (by rw [cA]; exact ty_ty (by decide)) q hq
    · exact tups_off N2 ht hk5 (.tail _ (.tail _ (.tail _ (.head _)))) (ty_ty (by decide)) q hq
    · exact tups_off N2 ht hk5 (.tail _ (.tail _ (.tail _ (.tail _ (.head _))))) (by rw [cF]; exact ty_ty (by decide)) q hq
theorem areas_law {p1 : Addr × Obj} {kg tx an fs fn : Addr} {oK oT oA oS oF : Obj} {R0 : List (Addr × Obj)} (B : Below A₀ base outer h₀) (F : Fr h₀ L s.heap m) (X : (Mine.kf w.params).In h₀) (N : News h₀ L s.heap (p1 :: (kg, oK) :: (tx, oT) :: (an, oA) :: (fs, oS) :: (fn, oF) :: R0)) (T : Top p loose mean mg mb h₀) (hk : cs.kind = .function)
  (hd : dp + 12 < recursionLimit) (hu : un + 120 < cLine) (off : OwnOff R0 [kg, tx, an, fs, fn]) {x dx D : Addr} {oDx : List DictEntry} {nDx nD : Nat} {wsD : List Value} {kts : List (Addr × Obj)} (hx : (x, instObj 154 dx) ∈ R0) (hdx : (dx, dictOf oDx nDx) ∈ R0) (hD : (D, listOf wsD.toArray nD) ∈ R0) (ht : Tups kts) (hkt : ∀ q ∈ kts, q ∈ R0) {sy lc : Addr} {R : Int} {u : Nat}
  (hret : ∀ h' tk' am dm st ds hp sk tr q1 q2 q3 q4 q5 q6 q7 u2 u3 R1, Fr h₀ L h' m → News h₀ L h' ((hp, listOf ([] : List Value).toArray 0) :: (kg, oK) :: (tx, oT) :: (an, oA) :: (fs, oS) :: (fn, oF) :: R1) → OwnOff R1 [hp, kg, tx, an, fs, fn] → (x, instObj 154 dx) ∈ R1 → (dx, dictOf oDx nDx) ∈ R1 → (D, listOf wsD.toArray nD) ∈ R1 → (∀ q ∈ kts, q ∈ R1) →
    (∃ t1 t2 t3 t4 t5 t6 t7 t8 t9 t10 t11 t12 t13 t14 t15 t16 t17 t18 v1 v2 v3 v4 v5 v7 v8 v9 v10 v11 v12 v13 v14 v15 v16 v17 v18, (dm, dictOf (areaD w.params st t1 t2 t3 t4 t5 t6 t7 t8 t9 t10 t11 t12 t13 t14 t15 t16 t17 t18 v1 v2 v3 v4 v5 v7 v8 v9 v10 v11 v12 v13 v14 v15 v16 v17 v18) 18) ∈ R1) → (am, instObj 541 dm) ∈ R1 → (st, instObj 381 ds) ∈ R1 → (ds, dictOf (storeD w.params sy hp sk tr R q1 q2 q3 q4 q5 q6 q7 u u2 u3) 7) ∈ R1 → @LT.lt Nat _ fn hp ∧ @LT.lt Nat _ fs hp ∧ @LT.lt Nat _ an hp ∧ @LT.lt Nat _ tx hp ∧ @LT.lt Nat _ kg hp → Q (.ref am) { s with heap := h', toks := tk' }) :
  wpAny (model prog w) (ktrTop dp un gd cn cs L a ccd cl outer) (call (.ref 541) [.ref sy, .ref lc, .int R u]) Q E s := by
  refine init_areas B F X N T hk hd hu ?_
  intro h' tk' am dm st ds hp sk tr q1 q2 q3 q4 q5 q6 q7 u2 u3 nw F' N' g1 g2 g3 g4 l1 l2
  obtain ⟨t1, t2, t3, t4, t5, t6, t7, t8, t9, t10, t11, t12, t13, t14, t15, t16, t17, t18, v1, v2, v3, v4, v5, v7, v8, v9, v10, v11, v12, v13, v14, v15, v16, v17, v18, g1⟩ := g1
  have hm : ∀ {q}, q ∈ nw → q ∈ nw ++ R0 := fun h => List.mem_append_left _ h
  refine hret h' tk' am dm st ds hp sk tr q1 q2 q3 q4 q5 q6 q7 u2 u3 (nw ++ R0) F' (fun q hq => N' q ?_) ?_ (List.mem_append_right _ hx) (List.mem_append_right _ hdx) (List.mem_append_right _ hD) (fun q hq => List.mem_append_right _ (hkt q hq)) ⟨t1, t2, t3, t4, t5, t6, t7, t8, t9, t10, t11, t12, t13, t14, t15, t16, t17, t18, v1, v2, v3, v4, v5, v7, v8, v9, v10, v11, v12, v13, v14, v15, v16, v17, v18, hm g1⟩ (hm g2) (hm g3) (hm g4)
    ⟨l1 _ (.tail _ (.tail _ (.tail _ (.tail _ (.tail _ (.head _)))))), l1 _ (.tail _ (.tail _ (.tail _ (.tail _ (.head _))))), l1 _ (.tail _ (.tail _ (.tail _ (.head _)))), l1 _ (.tail _ (.tail _ (.head _))), l1 _ (.tail _ (.head _))⟩
  · simp only [List.mem_cons, List.mem_append] at hq ⊢
    rcases hq with h | h | h | h | h | h | h | h <;> simp [h]
  · intro q hq b hb
    rcases List.mem_append.mp hq with hq | hq
    · obtain ⟨y1, y2⟩ := l2 q hq
      simp only [List.mem_cons, List.not_mem_nil, or_false] at hb
      rcases hb with rfl | rfl | rfl | rfl | rfl | rfl
      · exact neN y1
      · exact (Nat.ne_of_lt (y2 (_, oK) (.tail _ (.head _)))).symm
      · exact (Nat.ne_of_lt (y2 (_, oT) (.tail _ (.tail _ (.head _))))).symm
      · exact (Nat.ne_of_lt (y2 (_, oA) (.tail _ (.tail _ (.tail _ (.head _)))))).symm
      · exact (Nat.ne_of_lt (y2 (_, oS) (.tail _ (.tail _ (.tail _ (.tail _ (.head _))))))).symm
      · exact (Nat.ne_of_lt (y2 (_, oF) (.tail _ (.tail _ (.tail _ (.tail _ (.tail _ (.head _)))))))).symm
    · rcases List.mem_cons.mp hb with rfl | hb
      · exact Nat.ne_of_lt (l1 q (.tail _ (.tail _ (.tail _ (.tail _ (.tail _ (.tail _ hq)))))))
      · exact off q hq b hb
theorem new_var0 (B : Below A₀ base outer h₀) (F : Fr h₀ L s.heap m) (X : (Mine.kf w.params).In h₀) (N : News h₀ L s.heap led) (T : Top p loose mean mg mb h₀) (hk : cs.kind = .function)
  (hd : dp + 5 < recursionLimit) (hu : un + 60 < cLine) {rest : List (Addr × Obj)}
  {x dx sy hp sk tr : Addr} {R : Int} {q1 q2 q3 q4 q5 q6 q7 u1 u2 u3 : Nat} {nn n : Nat} (h1 : (x, instObj 381 dx) ∈ rest) (h2 : (dx, dictOf (storeD w.params sy hp sk tr R q1 q2 q3 q4 q5 q6 q7 u1 u2 u3) n) ∈ rest) (off : OwnOff rest [hp])
  (hsub : ∀ q ∈ (hp, listOf ([] : List Value).toArray nn) :: rest, q ∈ led) (hR : 0 < R)
  (hret : ∀ h' tk' c nn' t1 t2, Fr h₀ L h' m → News h₀ L h' ((c, tup [.int 0 t1, .int 0 t2]) :: (hp, listOf [Value.ref c].toArray nn') :: rest) → (∀ q ∈ rest, q.1 < c) → @LT.lt Nat _ hp c → Q (.ref c) { s with heap := h', toks := tk' }) :
  wpAny (model prog w) (ktrTop dp un gd cn cs L a ccd cl outer) (call (.ref 209) [.ref x]) Q E s := by
  have N2 : News h₀ L s.heap ((hp, listOf ([] : List Value).toArray nn) :: rest) := fun q hq => N q (hsub q hq)
  clear N hsub
  refine wpAny_call ?_
  k_dflt ktr_enter
  k_steps
  exact hret _ _ _ _ _ _ (by assumption) (by assumption) (allLt_mem (by kwd_rel)) (ltN (by k_extra "LTO"))
theorem new_var0' (B : Below A₀ base outer h₀) (F : Fr h₀ L s.heap m) (X : (Mine.kf w.params).In h₀) (N : News h₀ L s.heap led) (T : Top p loose mean mg mb h₀) (hk : cs.kind = .function)
  (hd : dp + 5 < recursionLimit) (hu : un + 60 < cLine) {led' : Obj → List (Addr × Obj)}
  {x dx sy hp sk tr : Addr} {R : Int} {q1 q2 q3 q4 q5 q6 q7 u1 u2 u3 : Nat} {nn n : Nat} (h1 : (x, instObj 381 dx) ∈ led) (h2 : (dx, dictOf (storeD w.params sy hp sk tr R q1 q2 q3 q4 q5 q6 q7 u1 u2 u3) n) ∈ led)
  (U : ∀ o', Upd hp (listOf ([] : List Value).toArray nn) o' led (led' o')) (hR : 0 < R)
  (hret : ∀ h' tk' c nn' t1 t2, Fr h₀ L h' m → News h₀ L h' ((c, tup [.int 0 t1, .int 0 t2]) :: led' (listOf [Value.ref c].toArray nn')) → (∀ q ∈ led, q.1 < c) → Q (.ref c) { s with heap := h', toks := tk' }) :
  wpAny (model prog w) (ktrTop dp un gd cn cs L a ccd cl outer) (call (.ref 209) [.ref x]) Q E s := by
  have hm := upd_mem (U default)
  exact new_var0 B F X N T hk hd hu (offOf_in h1 (ne_of_cls N h1 hm (ref_ty _ _))) (offOf_in h2 (ne_of_cls N h2 hm (ty_ty (by decide)))) (offOf_off hp led) (upd_sub (U default)) hR fun h' tk' c nn' t1 t2 F' N' l1 l2 => hret h' tk' c nn' t1 t2 F' (fun q hq => by
      rcases List.mem_cons.mp hq with h | h
      · exact N' q (h ▸ .head _)
      · exact N' q (.tail _ (upd_out (U _) q h))) (off_lt l1 l2)
theorem len70 {ws : List Value} {is : List Int} (h : IntsAre ws (List.take 70 is)) : ws.length < 1000 := by
  rw [h.length, List.length_take]
  omega
theorem lt3 {r : Int} (h0 : 0 ≤ r) (h1 : r < 3) : r = 0 ∨ r = 1 ∨ r = 2 := by omega
theorem stopRange {prog : Program} {w : World} {A : Around} {E : Value → Shared → Prop} {Q : Value → Shared → Prop} {s : Shared} {r : Addr} (h : Hold (wpAny (model prog w) A (pyIter (.ref r)) Q E s)) : wpAny (model prog w) A (pyIter (.ref r)) Q E s := h
end
noncomputable def LeafP (h₀ : Heap) (L : Addr) (s : Shared) (m₀ : Str → Option Value) (hp kg tx an fs fn : Addr) (oK oT oA oS oF : Obj) (R1 : List (Addr × Obj)) (s' : Shared) : Prop :=
  ∃ h' tk lf sh cells v lD nn' rt, s' = { s with heap := h', toks := tk } ∧ Fr h₀ L h' (fun y => if y = Str.ofString "shown" then some (.ref sh) else if y = Str.ofString "leaf" then some (.ref lf) else m₀ y) ∧
    News h₀ L h' ((hp, listOf cells.toArray nn') :: (kg, oK) :: (tx, oT) :: (an, oA) :: (fs, oS) :: (fn, oF) :: rt) ∧ LeafK rt cells lf lD ∧ DatIn rt (.ref sh) lD ∧ kqdOk 1 lD = true ∧ v ≤ 1 ∧ cells.length = v ∧ (∀ q ∈ R1, q ∈ rt) ∧ OwnOff rt [hp, kg, tx, an, fs, fn]
section
variable {M : Model} {A : Around} {E : Value → Shared → Prop} {Q : Flow → Shared → Prop} {s : Shared} {env : Env} {h₀ : Heap} {L : Addr}
theorem stopExecs {st : List Stmt} (h : Hold (wpAny M A (execs st env) Q E s)) : wpAny M A (execs st env) Q E s := h
theorem cut_leaf {s1 s2 : Stmt} {rest : List Stmt} {m₀ : Str → Option Value} {hp kg tx an fs fn : Addr} {oK oT oA oS oF : Obj} {R1 kts : List (Addr × Obj)} {n : Nat} {pr : Program} {wr : World} {FL : List (Int × Int)} {fv : List Value} (_ : FunRel pr wr kts FL oF fv) (hkt : ∀ q ∈ kts, q ∈ R1) (_ : Fr h₀ L s.heap m₀) (_ : News h₀ L s.heap ((hp, listOf ([] : List Value).toArray n) :: (kg, oK) :: (tx, oT) :: (an, oA) :: (fs, oS) :: (fn, oF) :: R1))
    (h1 : wpAny M A (exec s1 env) (fun f s' => match f with | .next => wpAny M A (exec s2 env) (fun f s'' => match f with | .next => Hold (LeafP h₀ L s m₀ hp kg tx an fs fn oK oT oA oS oF R1 s'') | _ => False) E s' | _ => False) E s)
    (h2 : ∀ h' tk lf sh cells v lD nn' rt, Fr h₀ L h' (fun y => if y = Str.ofString "shown" then some (.ref sh) else if y = Str.ofString "leaf" then some (.ref lf) else m₀ y) →
      News h₀ L h' ((hp, listOf cells.toArray nn') :: (kg, oK) :: (tx, oT) :: (an, oA) :: (fs, oS) :: (fn, oF) :: rt) → LeafK rt cells lf lD → DatIn rt (.ref sh) lD → kqdOk 1 lD = true → v ≤ 1 → cells.length = v → (∀ q ∈ R1, q ∈ rt) → (∀ q ∈ kts, q ∈ rt) → OwnOff rt [hp, kg, tx, an, fs, fn] →
      wpAny M A (execs rest env) Q E { s with heap := h', toks := tk }) : wpAny M A (execs (s1 :: s2 :: rest) env) Q E s := by
  refine wpAny_execs_cons (wpAny_mono h1 (fun f s' h => ?_) fun _ _ x => x)
  cases f with
  | next =>
    refine wpAny_execs_cons (wpAny_mono h (fun f s'' h => ?_) fun _ _ x => x)
    cases f with
    | next =>
      obtain ⟨h', tk, lf, sh, cells, v, lD, nn', rt, rfl, a1, a2, a3, a4, a5, a6, a7, a8, a9⟩ := h
      exact h2 h' tk lf sh cells v lD nn' rt a1 a2 a3 a4 a5 a6 a7 a8 (fun q hq => a8 q (hkt q hq)) a9
    | _ => exact h.elim
  | _ => exact h.elim
theorem kqd_leaf {x : Str} {k : Int} (h : PyData.strOk x = true) : kqdOk 1 (.tuple [.str x, .int k]) = true := by simp [kqdOk, h]
theorem off6_cons {q : Addr × Obj} {rt : List (Addr × Obj)} {a b c d e f : Addr} (h1 : @LT.lt Nat _ a q.1) (h2 : @LT.lt Nat _ b q.1) (h3 : @LT.lt Nat _ c q.1) (h4 : @LT.lt Nat _ d q.1) (h5 : @LT.lt Nat _ e q.1) (h6 : @LT.lt Nat _ f q.1) (h : OwnOff rt [a, b, c, d, e, f]) : OwnOff (q :: rt) [a, b, c, d, e, f] := by
  refine List.forall_mem_cons.mpr ⟨fun b hb => ?_, h⟩
  simp only [List.mem_cons, List.not_mem_nil, or_false] at hb
  rcases hb with hb | hb | hb | hb | hb | hb <;> (subst hb; exact Nat.ne_of_gt (by assumption))
theorem perm56 {h : Heap} {a b c d e t1 t2 t3 t4 t5 t6 : Addr × Obj} {r : List (Addr × Obj)} (N : News h₀ L h (a :: b :: c :: d :: e :: t1 :: t2 :: t3 :: t4 :: t5 :: t6 :: r)) : News h₀ L h (t1 :: t2 :: t3 :: t4 :: t5 :: t6 :: a :: b :: c :: d :: e :: r) := fun q hq => N q (by
  simp only [List.mem_cons] at hq ⊢
  rcases hq with h | h | h | h | h | h | h | h | h | h | h | h <;> simp [h])
end
theorem sub_cons2 {q : Addr × Obj} {l l' : List (Addr × Obj)} (h : q ∈ l') (hs : ∀ p ∈ l, p ∈ l') : ∀ p ∈ q :: l, p ∈ l' := List.forall_mem_cons.mpr ⟨h, hs⟩
end Mine
example : True := by
  k_with "call ref" => (k_here; (with_reducible show wpAny _ _ (call (Value.ref 154) _) _ _ _); k_dflt (refine' Mine.names_law ?B ?F ?X ?N ?T ?hk ?hd ?hu ?lt ?_; (case B => k_asm); (case F => k_asm); (case X => k_asm); (case N => k_asm); (case T => k_asm); (case hk => first | exact rfl | assumption); (case hd => ktr_room); (case hu => ktr_units); (case lt => first | assumption | omega); k_whole); intro _ _ _ _ _ _ _ _ _ _ _ _ _ _ _ _ _ _ _ _ _ _ _ _ _ _ _ _ _ _ _ _ _ _ _ _ _ _ _ _ _; (try k_sweep))
  k_with "call ref" => (k_here; (with_reducible show wpAny _ _ (call (Value.ref 541) _) _ _ _); k_dflt (refine' Mine.areas_law ?B ?F ?X ?N ?T ?hk ?hd ?hu ?off ?hx ?hdx ?hD ?ht ?hkt ?_; (case N => k_asm); (case B => k_asm); (case F => k_asm); (case X => k_asm); (case T => k_asm); (case hk => first | exact rfl | assumption); (case hd => ktr_room); (case hu => ktr_units); (case off => assumption); (case hx => assumption); (case hdx => assumption); (case hD => assumption); (case ht => assumption); (case hkt => assumption); k_whole); intro _ _ _ _ _ _ _ _ _ _ _ _ _ _ _ _ _ _ _ _ _ _ _ _ _ _ zha' _ _ _ _; obtain ⟨t1, t2, t3, t4, t5, t6, t7, t8, t9, t10, t11, t12, t13, t14, t15, t16, t17, t18, v1, v2, v3, v4, v5, v7, v8, v9, v10, v11, v12, v13, v14, v15, v16, v17, v18, zha'⟩ := zha'; (try k_sweep))
  k_with "call ref" => (k_here; (with_reducible show wpAny _ _ (call (Value.ref 552) _) _ _ _); k_dflt (refine' Mine.scoop' ?B ?F ?X ?N ?T ?hk ?hd ?hu ?U ?hne ?h1 ?hw ?hl ?k0 ?k1 ?l0 ?l1 ?_; (case B => k_asm); (case F => k_asm); (case X => k_asm); (case N => k_asm); (case T => k_asm); (case hk => first | exact rfl | assumption); (case hd => ktr_room); (case hu => ktr_units); (case U => (intro o'; k_upd)); (case h1 => k_mem); (case hw => assumption); (case hne => first | assumption | exact neN (by omega)); (case hl => first | assumption | exact Mine.len70 (by assumption)); (case k0 => first | assumption | omega); (case k1 => first | assumption | omega); (case l0 => first | assumption | omega); (case l1 => first | assumption | omega); k_whole); intro _ _ _ _ _ _ _ _ _ _; (try k_sweep))
  k_with "call ref" => (k_here; (with_reducible show wpAny _ _ (call (Value.ref 209) _) _ _ _); k_dflt (refine' Mine.new_var0' ?B ?F ?X ?N ?T ?hk ?hd ?hu ?h1 ?h2 ?U ?hR ?_; (case B => k_asm); (case F => k_asm); (case X => k_asm); (case N => k_asm); (case T => k_asm); (case hk => first | exact rfl | assumption); (case hd => ktr_room); (case hu => ktr_units); (case h1 => k_mem); (case h2 => k_mem); (case U => (intro o'; k_upd)); (case hR => first | assumption | omega); k_whole); intro _ _ _ _ _ _ _ _ zl1; (try k_lt zl1); (try k_sweep))
  k_with "exec For Name Call cons nil" => (k_here; (rename Fr _ _ _ _ => lF'); (with_unfolding_all refine' For_invVF lF' ?k1 ?k2 ?_; (case k1 => exact rfl); (case k2 => exact rfl); k_whole))
  k_with "pyIter ref" => (k_here; (with_reducible show wpAny _ _ (pyIter (Value.ref _)) (fun it s₂ => LoopAtV _ _ _ _ _ _ _ _ _ it s₂) _ _); (with_reducible refine Mine.stopRange ?_))
  k_with "execs cons" => (k_here; (with_reducible show wpAny _ _ (execs (Stmt.Assign [PySem.Expr.Name (PySem.Str.ofString "leaf") _] _ _ :: _) _) _ _ _); (with_reducible refine Mine.stopExecs ?_))
  k_with "call ref" => (k_here; (with_reducible show wpAny _ _ (call (Value.ref 109) [_, Value.str (PySem.Str.ofString "f") _, _]) _ _ _); k_dflt (refine' Mine.func_f ?B ?F ?X ?N ?T ?hk ?hd ?hu ?h1 ?h2 ?R ?R2 ?U1 ?U2 ?U3 ?U4 ?e1 ?e2 ?e3 ?e4 ?e5 ?e6 ?e7 ?e8 ?ht ?hn ?lo ?lo2 ?_; (case B => k_asm); (case F => k_asm); (case X => k_asm); (case N => k_asm); (case T => k_asm); (case hk => first | exact rfl | assumption); (case hd => ktr_room); (case hu => ktr_units); (case h1 => k_mem); (case h2 => k_mem); (case R => assumption); (case R2 => assumption); (case U1 => (intro o1; k_upd)); (case U2 => (intro o1 o2; k_upd)); (case U3 => (intro o1 o2 o3; k_upd)); (case U4 => (intro o1 o2 o3 o4; k_upd)); (case e1 => omega); (case e2 => omega); (case e3 => omega); (case e4 => omega); (case e5 => omega); (case e6 => omega); (case e7 => omega); (case e8 => omega); (case ht => assumption); (case hn => (repeat (first | assumption | ktd_sub | refine Mine.sub_tail ?_))); (case lo => assumption); (case lo2 => assumption); k_whole); intro _ _ _ _ _ _ _ _ _ _ _ _ _ _ _ _ _ _ _ _ zen _ _ _ zl1; subst zen; (try k_lt zl1); (try k_sweep))
  k_with "call ref" => (k_here; (with_reducible show wpAny _ _ (call (Value.ref 342) _) _ _ _); k_dflt (refine' Mine.new_struct2' ?B ?F ?X ?N ?T ?hk ?hd ?hu ?h1 ?h2 ?U ?h3 ?h4 ?h5 ?h5' ?h6 ?h0 ?h0' ?h7 ?hl ?hne ?ok1 ?ok2 ?hs1 ?hs2 ?hroom ?hR ?_; (case B => k_asm); (case F => k_asm); (case X => k_asm); (case N => k_asm); (case T => k_asm); (case hk => first | exact rfl | assumption); (case hd => ktr_room); (case hu => ktr_units); (case h1 => k_mem); (case h2 => k_mem); (case U => (intro o'; k_upd)); (case h3 => k_mem); (case h4 => k_mem); (case h5 => k_mem); (case h5' => exact neN (by omega)); (case h6 => assumption); (case h0 => exact Mine.fN_pos); (case h0' => exact Mine.fN_lt); (case h7 => assumption); (case hl => k_mem); (case hne => exact neN (by omega)); (case ok1 => assumption); (case ok2 => assumption); (case hs1 => exact Mine.sub_cons2 (by k_mem) (by (repeat (first | assumption | ktd_sub | refine Mine.sub_tail ?_)))); (case hs2 => (repeat (first | assumption | ktd_sub | refine Mine.sub_tail ?_))); (case hroom => omega); (case hR => omega); k_whole); intro _ _ _ _ _ _ _ _ _ _ zl1 zl2; (try k_lt zl1); (try k_lt zl2); (try k_sweep))
  trivial
namespace Mine
theorem partsZ_cons_le (tw : Bool) (fl : List Bool) : partsZ fl < partsZ (tw :: fl) := by
  have := partsZ_pos fl
  cases tw <;> simp only [partsZ] <;> simp <;> omega
theorem node_new {n : List (Addr × Obj)} {cells : List Value} {v k : Nat} {f : Int} {cc fc c1 c2 : Addr} {g1 g2 t u : Nat} (hcl : cells.length = v + 3 * k) (hb : cells.length < 1000)
    (h1 : (cc, tup [.int 2 g1, .int cells.length t]) ∈ n) (h2 : (fc, tup [.int 6 g2, .int f u]) ∈ n) : NodeAt n (cells ++ [.ref fc, .ref c1, .ref c2]) v f k cc c1 c2 := by
  have e : ((cells.length : Nat) : Int) = (v : Int) + 3 * (k : Int) := by omega
  have i0 : ((v : Int) + 3 * (k : Int)).toNat = cells.length := by omega
  have i1 : ((v : Int) + 3 * (k : Int) + 1).toNat = cells.length + 1 := by omega
  have i2 : ((v : Int) + 3 * (k : Int) + 2).toNat = cells.length + 2 := by omega
  rw [e] at h1
  refine ⟨⟨_, _, h1⟩, ⟨fc, _, _, ?_, h2⟩, ⟨by omega, by omega, ?_⟩, ⟨by omega, by omega, ?_⟩⟩
  · rw [i0, List.getElem?_append_right (Nat.le_refl _), Nat.sub_self]; rfl
  · rw [i1, List.getElem?_append_right (by omega), Nat.add_sub_cancel_left]; rfl
  · rw [i2, List.getElem?_append_right (by omega), Nat.add_sub_cancel_left]; rfl
noncomputable def mapL (m₀ : Str → Option Value) (u1 u2 u3 : Option Value) (c t : Addr) (pz : Int) (g : Nat) (ft : Bool) : Str → Option Value := fun y => if y = Str.ofString "twice" then u1 else if y = Str.ofString "functor" then u2 else if y = Str.ofString "lap" then u3 else if y = Str.ofString "cell" then some (.ref c) else if y = Str.ofString "term" then some (.ref t) else if y = Str.ofString "parts" then some (.int pz g) else if y = Str.ofString "fits" then some (.bool ft) else m₀ y
theorem mapL_of {m₀ m : Str → Option Value} {c t : Addr} {pz : Int} {g : Nat} {ft : Bool} (h1 : m (Str.ofString "cell") = some (.ref c)) (h2 : m (Str.ofString "term") = some (.ref t)) (h3 : m (Str.ofString "parts") = some (.int pz g)) (h4 : m (Str.ofString "fits") = some (.bool ft))
    (h : ∀ y, y ≠ Str.ofString "twice" → y ≠ Str.ofString "functor" → y ≠ Str.ofString "lap" → y ≠ Str.ofString "cell" → y ≠ Str.ofString "term" → y ≠ Str.ofString "parts" → y ≠ Str.ofString "fits" → m y = m₀ y) : ∃ u1 u2 u3, m = mapL m₀ u1 u2 u3 c t pz g ft := by
  refine ⟨m (Str.ofString "twice"), m (Str.ofString "functor"), m (Str.ofString "lap"), funext fun y => ?_⟩
  unfold mapL
  by_cases e1 : y = Str.ofString "twice"
  · rw [if_pos e1, e1]
  by_cases e2 : y = Str.ofString "functor"
  · rw [if_neg e1, if_pos e2, e2]
  by_cases e3 : y = Str.ofString "lap"
  · rw [if_neg e1, if_neg e2, if_pos e3, e3]
  by_cases e4 : y = Str.ofString "cell"
  · rw [if_neg e1, if_neg e2, if_neg e3, if_pos e4, e4, h1]
  by_cases e5 : y = Str.ofString "term"
  · rw [if_neg e1, if_neg e2, if_neg e3, if_neg e4, if_pos e5, e5, h2]
  by_cases e6 : y = Str.ofString "parts"
  · rw [if_neg e1, if_neg e2, if_neg e3, if_neg e4, if_neg e5, if_pos e6, e6, h3]
  by_cases e7 : y = Str.ofString "fits"
  · rw [if_neg e1, if_neg e2, if_neg e3, if_neg e4, if_neg e5, if_neg e6, if_pos e7, e7, h4]
  rw [if_neg e1, if_neg e2, if_neg e3, if_neg e4, if_neg e5, if_neg e6, if_neg e7, h y e1 e2 e3 e4 e5 e6 e7]
inductive LawJ (prog : Program) (w : World) (kg hp tx an fs fn D : Addr) (R : Int) (v : Nat) (lf : Addr) (lD : Dat) (R1 : List (Addr × Obj)) (m₀ : Str → Option Value) (k : Nat) (m₁ : Str → Option Value) (nx : List (Addr × Obj)) : Prop
  | mk {c t : Addr} {cells tv fv : List Value} {fl : List Bool} {oA oF : Obj} {n₁ rt : List (Addr × Obj)} {kk : Int} {n0 n1 n2 n3 g g2 : Nat} {u1 u2 u3 : Option Value} : Dag rt cells v fN lf k c fl → LeafK rt cells lf lD → cells.length = v + 3 * k → (partsZ fl ≤ R + 1 → DatIn rt (.ref t) (termD fN lD fl)) →
      AtomsRel prog w (TSk k) oA tv → FunRel prog w n₁ (FLk k) oF fv → Tups n₁ → (∀ q ∈ n₁, q ∈ rt) → (∀ q ∈ R1, q ∈ rt) → OwnOff rt [hp, kg, tx, an, fs, fn] → 0 ≤ kk → kk ≤ 3 + k → m₁ = mapL m₀ u1 u2 u3 c t (partsZ fl) g (decide (partsZ fl ≤ R + 1)) →
      nx = (hp, listOf cells.toArray n0) :: (kg, listOf [Value.ref D, Value.int kk g2].toArray n1) :: (tx, listOf tv.toArray n2) :: (an, oA) :: (fs, listOf fv.toArray n3) :: (fn, oF) :: rt → LawJ prog w kg hp tx an fs fn D R v lf lD R1 m₀ k m₁ nx
noncomputable def LawStep (h₀ : Heap) (L : Addr) (J : (Str → Option Value) → List (Addr × Obj) → Prop) (own : List (Addr × Obj)) (s₁ : Shared) (Q : Flow → Shared → Prop) (f : Flow) (s₂ : Shared) : Prop := TbPost h₀ L J own s₁ Q f s₂
section
variable {prog : Program} {w : World} {A : Around} {E : Value → Shared → Prop} {s : Shared} {env : Env} {h₀ : Heap} {body : List Stmt} {Q : Flow → Shared → Prop}
theorem law_iter {kg hp tx an fs fn D r ds x sk tr lf sh : Addr} {oA oF : Obj} {cells tv fv : List Value} {kts rt : List (Addr × Obj)} {cnt R kk : Int} {v n0 n1 n2 n3 g g2 q1 q2 q3 q4 q5 q6 q7 u1' u2' u3' nds t₀ u₀ v₀ : Nat} {lD : Dat} {m₀ : Str → Option Value}
    (hh : A.handled = none) (IR : IsRange s.heap r 0 cnt 1 t₀ u₀ v₀) (F : Fr h₀ env.locals s.heap (fun y => if y = Str.ofString "fits" then some (.bool true) else if y = Str.ofString "parts" then some (.int 1 g) else if y = Str.ofString "term" then some (.ref sh) else if y = Str.ofString "cell" then some (.ref lf) else m₀ y))
    (N : News h₀ env.locals s.heap ((hp, listOf cells.toArray n0) :: (kg, listOf [Value.ref D, Value.int kk g2].toArray n1) :: (tx, listOf tv.toArray n2) :: (an, oA) :: (fs, listOf fv.toArray n3) :: (fn, oF) :: rt))
    (_ : (ds, dictOf (storeD w.params x hp sk tr R q1 q2 q3 q4 q5 q6 q7 u1' u2' u3') nds) ∈ rt) (LK : LeafK rt cells lf lD) (DK : DatIn rt (.ref sh) lD) (hvl : cells.length = v) (R0 : AtomsRel prog w TSA oA tv) (R2 : FunRel prog w kts NM0.2 oF fv) (ht : Tups kts) (hkt : ∀ q ∈ kts, q ∈ rt) (off : OwnOff rt [hp, kg, tx, an, fs, fn])
    (c0 : 0 ≤ cnt) (c1 : cnt ≤ 40) (hR : 0 ≤ R) (k0 : 0 ≤ kk) (k1 : kk ≤ 3)
    (turn : ∀ (k : Nat) u1 u2 tl c t cells tv fv fl oA oF n₁ rt' rtO own (kk : Int) n0 n1 n2 n3 g g2 ft h tk, (k : Nat) < cnt.toNat → (ft = true → partsZ fl ≤ R + 1) → (ft = false → R + 1 < partsZ fl) → Dag rt' cells v fN lf k c fl → LeafK rt' cells lf lD → cells.length = v + 3 * k → (partsZ fl ≤ R + 1 → DatIn rt' (.ref t) (termD fN lD fl)) →
      AtomsRel prog w (TSk k) oA tv → FunRel prog w n₁ (FLk k) oF fv → Tups n₁ → (∀ q ∈ n₁, q ∈ rt') → (∀ q ∈ rt, q ∈ rt') → (∀ q ∈ rt', q ∈ rtO) → (∀ q ∈ own, q ∈ rtO) → OwnOff rt' [hp, kg, tx, an, fs, fn] → OwnOff rtO [hp, kg, tx, an, fs, fn] → TbOff own rt' → 0 ≤ kk → kk ≤ 3 + k →
      Fr h₀ env.locals h (mapL m₀ u1 u2 (some (.int k tl)) c t (partsZ fl) g ft) → News h₀ env.locals h ((hp, listOf cells.toArray n0) :: (kg, listOf [Value.ref D, Value.int kk g2].toArray n1) :: (tx, listOf tv.toArray n2) :: (an, oA) :: (fs, listOf fv.toArray n3) :: (fn, oF) :: rtO) →
      wpAny (model prog w) A (execs body env) (LawStep h₀ env.locals (LawJ prog w kg hp tx an fs fn D R v lf lD rt m₀ (k + 1)) own { s with heap := h, toks := tk } Q) E { s with heap := h, toks := tk })
    (done : ∀ u1 u2 u3 c t cells tv fv fl oA oF n₁ rt' (kk : Int) n0 n1 n2 n3 g g2 ft h tk, (ft = true → partsZ fl ≤ R + 1) → (ft = false → R + 1 < partsZ fl) → Dag rt' cells v fN lf cnt.toNat c fl → LeafK rt' cells lf lD → cells.length = v + 3 * cnt.toNat → (partsZ fl ≤ R + 1 → DatIn rt' (.ref t) (termD fN lD fl)) →
      AtomsRel prog w (TSk cnt.toNat) oA tv → FunRel prog w n₁ (FLk cnt.toNat) oF fv → Tups n₁ → (∀ q ∈ n₁, q ∈ rt') → (∀ q ∈ rt, q ∈ rt') → OwnOff rt' [hp, kg, tx, an, fs, fn] →
      Fr h₀ env.locals h (mapL m₀ u1 u2 u3 c t (partsZ fl) g ft) → News h₀ env.locals h ((hp, listOf cells.toArray n0) :: (kg, listOf [Value.ref D, Value.int kk g2].toArray n1) :: (tx, listOf tv.toArray n2) :: (an, oA) :: (fs, listOf fv.toArray n3) :: (fn, oF) :: rt') →
      Q .next { s with heap := h, toks := tk }) :
    wpAny (model prog w) A (pyIter (.ref r)) (fun it s₂ => LoopAtV prog w A h₀ env (Str.ofString "lap") body Q E it s₂) E s := by
  have hsz : Builtin.Range.rangeSize 0 cnt 1 = (cnt.toNat : Int) := by
    unfold Builtin.Range.rangeSize
    simp
    omega
  have hsm : Builtin.Range.small 0 cnt 1 = true := by
    unfold Builtin.Range.small
    rw [hsz]
    simp only [Builtin.Range.rangeFitsLong, Bool.and_eq_true, Bool.or_eq_true, decide_eq_true_eq, beq_iff_eq, show ((1 : Int) > 0) by decide, if_true]
    omega
  refine tbr_invG (LawJ prog w kg hp tx an fs fn D R v lf lD rt m₀) hh IR hsm hsz F N ?_ ?_ ?_
  · obtain ⟨w1, w2, w3, hm⟩ := mapL_of (m₀ := m₀) (m := fun y => if y = Str.ofString "fits" then some (.bool true) else if y = Str.ofString "parts" then some (.int 1 g) else if y = Str.ofString "term" then some (.ref sh) else if y = Str.ofString "cell" then some (.ref lf) else m₀ y) (c := lf) (t := sh) (pz := 1) (g := g) (ft := true) (by rfl) (by rfl) (by rfl) (by rfl)
      (fun y _ _ _ e4 e5 e6 e7 => by simp only [if_neg e4, if_neg e5, if_neg e6, if_neg e7])
    have hd : decide (partsZ [] ≤ R + 1) = true := decide_eq_true (by simp only [partsZ]; omega)
    refine .mk (fl := []) (u1 := w1) (u2 := w2) (u3 := w3) (g := g) .leaf LK (by omega) (fun _ => DK) (by exact R0) (by exact R2) ht hkt (fun _ h => h) off k0 (by omega) ?_ rfl
    rw [hd]
    exact hm
  · rintro i k tl m₁ nx h tk own hk hoff ⟨d1, d2, d3, d4, d5, d6, d7, d8, d9, d10, d11, d12, rfl, rfl⟩ F₁ N₁
    have hik : k = (i : Int) ∧ i < cnt.toNat := by
      unfold rangeKs at hk
      rw [List.getElem?_map] at hk
      rcases Nat.lt_or_ge i cnt.toNat with h' | h'
      · rw [List.getElem?_range h'] at hk
        simp at hk
        exact ⟨hk.symm, h'⟩
      · rw [List.getElem?_eq_none (by simpa using h')] at hk
        cases hk
    obtain ⟨rfl, hi⟩ := hik
    rename_i c t cells' tv' fv' fl oA' oF' n₁ rt' kk' m0' m1' m2' m3' g' g2' w1 w2 w3
    have F₂ : Fr h₀ env.locals h (mapL m₀ w1 w2 (some (.int i tl)) c t (partsZ fl) g' (decide (partsZ fl ≤ R + 1))) := by
      have e : (fun y => if y = Str.ofString "lap" then some (Value.int i tl) else mapL m₀ w1 w2 w3 c t (partsZ fl) g' (decide (partsZ fl ≤ R + 1)) y) = mapL m₀ w1 w2 (some (.int i tl)) c t (partsZ fl) g' (decide (partsZ fl ≤ R + 1)) := by
        funext y
        unfold mapL
        by_cases e3 : y = Str.ofString "lap"
        · have n1 : y ≠ Str.ofString "twice" := by rw [e3]; decide
          have n2 : y ≠ Str.ofString "functor" := by rw [e3]; decide
          rw [if_pos e3, if_neg n1, if_neg n2, if_pos e3]
        · rw [if_neg e3]
          by_cases e1 : y = Str.ofString "twice"
          · rw [if_pos e1, if_pos e1]
          · by_cases e2 : y = Str.ofString "functor"
            · rw [if_neg e1, if_pos e2, if_neg e1, if_pos e2]
            · rw [if_neg e1, if_neg e2, if_neg e3, if_neg e1, if_neg e2, if_neg e3]
      rw [← e]
      exact F₁
    refine turn i w1 w2 tl c t cells' tv' fv' fl oA' oF' n₁ rt' (rt' ++ own) own kk' m0' m1' m2' m3' g' g2' _ h tk hi (fun e => of_decide_eq_true e) (fun e => Int.not_le.mp (of_decide_eq_false e)) d1 d2 d3 d4 d5 d6 d7 d8 d9 (fun q hq => List.mem_append_left _ hq) (fun q hq => List.mem_append_right _ hq) d10 (fun q hq b hb => ?_) (fun q hq p hp => hoff q hq p (.tail _ (.tail _ (.tail _ (.tail _ (.tail _ (.tail _ hp))))))) d11 d12 F₂ N₁
    rcases List.mem_append.mp hq with hq | hq
    · exact d10 q hq b hb
    · simp only [List.mem_cons, List.not_mem_nil, or_false] at hb
      rcases hb with rfl | rfl | rfl | rfl | rfl | rfl
      · exact hoff q hq _ (.head _)
      · exact hoff q hq _ (.tail _ (.head _))
      · exact hoff q hq _ (.tail _ (.tail _ (.head _)))
      · exact hoff q hq _ (.tail _ (.tail _ (.tail _ (.head _))))
      · exact hoff q hq _ (.tail _ (.tail _ (.tail _ (.tail _ (.head _)))))
      · exact hoff q hq _ (.tail _ (.tail _ (.tail _ (.tail _ (.tail _ (.head _))))))
  · rintro m₁ nx h tk ⟨d1, d2, d3, d4, d5, d6, d7, d8, d9, d10, d11, d12, rfl, rfl⟩ F₁ N₁
    exact done _ _ _ _ _ _ _ _ _ _ _ _ _ _ _ _ _ _ _ _ _ _ _ (fun e => of_decide_eq_true e) (fun e => Int.not_le.mp (of_decide_eq_false e)) d1 d2 d3 d4 d5 d6 d7 d8 d9 d10 F₁ N₁
theorem law_end {L kg hp tx an fs fn D lf c t : Addr} {oA oF : Obj} {cells tv fv : List Value} {n₁ R1 rtN own led' : List (Addr × Obj)} {R kk : Int} {v k n0 n1 n2 n3 g g2 : Nat} {lD : Dat} {m₀ m' : Str → Option Value} {fl : List Bool} {ft : Bool} {s₁ : Shared} {h' : Heap} {tk : Nat}
    (F : Fr h₀ L h' m') (N : News h₀ L h' led') (hsub : ∀ q ∈ (hp, listOf cells.toArray n0) :: (kg, listOf [Value.ref D, Value.int kk g2].toArray n1) :: (tx, listOf tv.toArray n2) :: (an, oA) :: (fs, listOf fv.toArray n3) :: (fn, oF) :: rtN, q ∈ led') (hown : ∀ q ∈ own, q ∈ led')
    (ho6 : OwnOff own [hp, kg, tx, an, fs, fn]) (hor : TbOff own rtN) (d1 : Dag rtN cells v fN lf k c fl) (d2 : LeafK rtN cells lf lD) (d3 : cells.length = v + 3 * k) (d4 : partsZ fl ≤ R + 1 → DatIn rtN (.ref t) (termD fN lD fl)) (d5 : AtomsRel prog w (TSk k) oA tv) (d6 : FunRel prog w n₁ (FLk k) oF fv) (d7 : Tups n₁) (d8 : ∀ q ∈ n₁, q ∈ rtN)
    (d9 : ∀ q ∈ R1, q ∈ rtN) (d10 : OwnOff rtN [hp, kg, tx, an, fs, fn]) (d11 : 0 ≤ kk) (d12 : kk ≤ 3 + k) (m1 : m' (Str.ofString "cell") = some (.ref c)) (m2 : m' (Str.ofString "term") = some (.ref t)) (m3 : m' (Str.ofString "parts") = some (.int (partsZ fl) g)) (m4 : m' (Str.ofString "fits") = some (.bool ft)) (hft : ft = decide (partsZ fl ≤ R + 1))
    (hm : ∀ y, y ≠ Str.ofString "twice" → y ≠ Str.ofString "functor" → y ≠ Str.ofString "lap" → y ≠ Str.ofString "cell" → y ≠ Str.ofString "term" → y ≠ Str.ofString "parts" → y ≠ Str.ofString "fits" → m' y = m₀ y) :
    LawStep h₀ L (LawJ prog w kg hp tx an fs fn D R v lf lD R1 m₀ k) own s₁ Q .next { s₁ with heap := h', toks := tk } := by
  obtain ⟨w1, w2, w3, e⟩ := mapL_of m1 m2 m3 m4 hm
  subst hft
  refine ⟨h', tk, m', led', _, rfl, F, N, hsub, hown, ?_, .mk d1 d2 d3 d4 d5 d6 d7 d8 d9 d10 d11 d12 e rfl⟩
  intro q hq p hp'
  simp only [List.mem_cons] at hp'
  rcases hp' with rfl | rfl | rfl | rfl | rfl | rfl | hp'
  · exact ho6 q hq _ (.head _)
  · exact ho6 q hq _ (.tail _ (.head _))
  · exact ho6 q hq _ (.tail _ (.tail _ (.head _)))
  · exact ho6 q hq _ (.tail _ (.tail _ (.tail _ (.head _))))
  · exact ho6 q hq _ (.tail _ (.tail _ (.tail _ (.tail _ (.head _)))))
  · exact ho6 q hq _ (.tail _ (.tail _ (.tail _ (.tail _ (.tail _ (.head _))))))
  · exact hor q hq p hp'
end
end Mine
namespace Mine
theorem partsZ_t {fl : List Bool} : partsZ (true :: fl) = 1 + partsZ fl + partsZ fl := by simp [partsZ]
theorem partsZ_f {fl : List Bool} : partsZ (false :: fl) = 1 + partsZ fl + 1 := by simp [partsZ]
section
variable {prog : Program} {w : World} {s₁ : Shared} {h₀ h' : Heap} {Q : Flow → Shared → Prop}
theorem law_endG {L kg hp tx an fs fn D lf c c2 cc fc kt T : Addr} {ko oA oF : Obj} {cells tv fv : List Value} {n₁ R1 rt' rtO own new : List (Addr × Obj)} {R kk pz : Int} {v k n0 n1 n2 n3 g g2 gA tA gB uB : Nat} {lD : Dat} {m₀ m' : Str → Option Value} {fl : List Bool} {tw ft : Bool} {tk : Nat}
    (F : Fr h₀ L h' m') (N : News h₀ L h' (new ++ ((hp, listOf (cells ++ [Value.ref fc, Value.ref c, Value.ref c2]).toArray n0) :: (kg, listOf [Value.ref D, Value.int (kk + 1) g2].toArray n1) :: (tx, listOf tv.toArray n2) :: (an, oA) :: (fs, listOf fv.toArray n3) :: (fn, oF) :: rtO)))
    (hnew : ∀ q ∈ new, @LT.lt Nat _ hp q.1 ∧ @LT.lt Nat _ kg q.1 ∧ @LT.lt Nat _ tx q.1 ∧ @LT.lt Nat _ an q.1 ∧ @LT.lt Nat _ fs q.1 ∧ @LT.lt Nat _ fn q.1 ∧ ∀ p ∈ rtO, p.1 < q.1)
    (hcc : (cc, tup [.int 2 gA, .int cells.length tA]) ∈ new) (hfc : (fc, tup [.int 6 gB, .int fN uB]) ∈ new) (hkt : (kt, ko) ∈ new) (hc2 : c2 = if tw = true then c else lf)
    (d1 : Dag rt' cells v fN lf k c fl) (d2 : LeafK rt' cells lf lD) (d3 : cells.length = v + 3 * k) (hb : cells.length < 1000) (hT : partsZ (tw :: fl) ≤ R + 1 → DatIn (new ++ rt') (.ref T) (termD fN lD (tw :: fl)))
    (d5 : AtomsRel prog w TSB oA tv) (d6 : FunRel prog w ((kt, ko) :: n₁) FLB oF fv) (d7 : Tups ((kt, ko) :: n₁)) (d8 : ∀ q ∈ n₁, q ∈ rt') (d9 : ∀ q ∈ R1, q ∈ rt') (hO1 : ∀ q ∈ rt', q ∈ rtO) (hO2 : ∀ q ∈ own, q ∈ rtO)
    (d10 : OwnOff rt' [hp, kg, tx, an, fs, fn]) (dO : OwnOff rtO [hp, kg, tx, an, fs, fn]) (hoff : TbOff own rt') (k0 : 0 ≤ kk) (k1 : kk ≤ 3 + k)
    (m1 : m' (Str.ofString "cell") = some (.ref cc)) (m2 : m' (Str.ofString "term") = some (.ref T)) (m3 : m' (Str.ofString "parts") = some (.int pz g)) (hpz : pz = partsZ (tw :: fl)) (m4 : m' (Str.ofString "fits") = some (.bool ft)) (hft : ft = decide (partsZ (tw :: fl) ≤ R + 1))
    (hm : ∀ y, y ≠ Str.ofString "twice" → y ≠ Str.ofString "functor" → y ≠ Str.ofString "lap" → y ≠ Str.ofString "cell" → y ≠ Str.ofString "term" → y ≠ Str.ofString "parts" → y ≠ Str.ofString "fits" → m' y = m₀ y) :
    LawStep h₀ L (LawJ prog w kg hp tx an fs fn D R v lf lD R1 m₀ (k + 1)) own s₁ Q .next { s₁ with heap := h', toks := tk } := by
  subst hpz
  have l : ∀ q ∈ rt', q ∈ new ++ rt' := fun q hq => List.mem_append_right _ hq
  have ln : ∀ {q}, q ∈ new → q ∈ new ++ rt' := fun hq => List.mem_append_left _ hq
  have e1 : TSk (k + 1) = TSB := by unfold TSk; rw [if_neg (Nat.succ_ne_zero k)]
  have e2 : FLk (k + 1) = FLB := by unfold FLk; rw [if_neg (Nat.succ_ne_zero k)]
  refine law_end (rtN := new ++ rt') (cells := cells ++ [Value.ref fc, Value.ref c, Value.ref c2]) (kk := kk + 1) (n0 := n0) (n1 := n1) (n2 := n2) (n3 := n3) (g2 := g2) (led' := new ++ ((hp, listOf (cells ++ [Value.ref fc, Value.ref c, Value.ref c2]).toArray n0) :: (kg, listOf [Value.ref D, Value.int (kk + 1) g2].toArray n1) :: (tx, listOf tv.toArray n2) :: (an, oA) :: (fs, listOf fv.toArray n3) :: (fn, oF) :: rtO)) F N
    (fun q hq => ?_) (fun q hq => ?_) (fun q hq => dO q (hO2 q hq)) (fun q hq p hp' => ?_) (.node (d1.mono l) ?_) (d2.mono l) ?_ hT (by rw [e1]; exact d5) (by rw [e2]; exact d6) d7 (List.forall_mem_cons.mpr ⟨ln hkt, fun q hq => l q (d8 q hq)⟩) (fun q hq => l q (d9 q hq)) (fun q hq b hb => ?_) (by omega) (by omega) m1 m2 m3 m4 hft hm
  · simp only [List.mem_cons, List.mem_append] at hq ⊢
    rcases hq with h | h | h | h | h | h | h | h
    · exact .inr (.inl h)
    · exact .inr (.inr (.inl h))
    · exact .inr (.inr (.inr (.inl h)))
    · exact .inr (.inr (.inr (.inr (.inl h))))
    · exact .inr (.inr (.inr (.inr (.inr (.inl h)))))
    · exact .inr (.inr (.inr (.inr (.inr (.inr (.inl h))))))
    · exact .inl h
    · exact .inr (.inr (.inr (.inr (.inr (.inr (.inr (hO1 q h)))))))
  · exact List.mem_append_right _ (.tail _ (.tail _ (.tail _ (.tail _ (.tail _ (.tail _ (hO2 q hq)))))))
  · rcases List.mem_append.mp hp' with hp' | hp'
    · exact Nat.ne_of_lt ((hnew p hp').2.2.2.2.2.2 q (hO2 q hq))
    · exact hoff q hq p hp'
  · rw [← hc2]
    exact node_new d3 hb (ln hcc) (ln hfc)
  · simp only [List.length_append, List.length_cons, List.length_nil]
    omega
  · rcases List.mem_append.mp hq with hq | hq
    · obtain ⟨y1, y2, y3, y4, y5, y6, -⟩ := hnew q hq
      simp only [List.mem_cons, List.not_mem_nil, or_false] at hb
      rcases hb with rfl | rfl | rfl | rfl | rfl | rfl <;> exact Nat.ne_of_gt (by assumption)
    · exact d10 q hq b hb
end
end Mine
namespace Mine
theorem Dag.mono0 {n₁ n₂ : List (Addr × Obj)} {cells : List Value} {v f : Int} {j : Nat} {c lf : Addr} (hs : ∀ q ∈ n₁, q ∈ n₂) {fl : List Bool} (h : Dag n₁ cells v f lf j c fl) : Dag n₂ cells v f lf j c fl := by
  have := h.mono (ext := []) hs
  rwa [List.append_nil] at this
theorem LeafK.mono0 {n₁ n₂ : List (Addr × Obj)} {cells : List Value} {lf : Addr} (hs : ∀ q ∈ n₁, q ∈ n₂) {lD : Dat} (h : LeafK n₁ cells lf lD) : LeafK n₂ cells lf lD := by
  have := h.mono (ext := []) hs
  rwa [List.append_nil] at this
section
variable {prog : Program} {w : World} {h₀ h : Heap}
theorem tsb_len : TSB.length < 900 := by decide +kernel
theorem flb_len : FLB.length < 900 := by decide +kernel
theorem tsd_len : (atomT (atomT TSB (Str.ofString "memory")) (Str.ofString "resource_error")).length < 1000 := by decide +kernel
theorem fld_len : (funT FLB (((atomT TSB (Str.ofString "memory")).idxOf (Str.ofString "resource_error") : Int), 1)).length < 1000 := by decide +kernel
theorem tse_len : (atomT (atomT (atomT TSB (Str.ofString "memory")) (Str.ofString "resource_error")) (Str.ofString "resource_error")).length < 1000 := by decide +kernel
theorem form_F : (funT FLB (((atomT TSB (Str.ofString "memory")).idxOf (Str.ofString "resource_error") : Int), 1)).idxOf (((atomT (atomT TSB (Str.ofString "memory")) (Str.ofString "resource_error")).idxOf (Str.ofString "resource_error") : Int), (1 : Int)) = FLB.idxOf (((atomT TSB (Str.ofString "memory")).idxOf (Str.ofString "resource_error") : Int), (1 : Int)) := by decide +kernel
theorem form_A : (atomT (atomT (atomT TSB (Str.ofString "memory")) (Str.ofString "resource_error")) (Str.ofString "resource_error")).idxOf (Str.ofString "memory") = TSB.idxOf (Str.ofString "memory") := by decide +kernel
theorem form_D : formD ((funT FLB (((atomT TSB (Str.ofString "memory")).idxOf (Str.ofString "resource_error") : Int), 1)).idxOf (((atomT (atomT TSB (Str.ofString "memory")) (Str.ofString "resource_error")).idxOf (Str.ofString "resource_error") : Int), (1 : Int)) : Int) ((atomT (atomT (atomT TSB (Str.ofString "memory")) (Str.ofString "resource_error")) (Str.ofString "resource_error")).idxOf (Str.ofString "memory") : Int) = formD (FLB.idxOf (((atomT TSB (Str.ofString "memory")).idxOf (Str.ofString "resource_error") : Int), (1 : Int)) : Int) (TSB.idxOf (Str.ofString "memory") : Int) := by rw [form_F, form_A]
theorem Dag.len {n₁ : List (Addr × Obj)} {cells : List Value} {v f : Int} {j : Nat} {c lf : Addr} {fl : List Bool} (h : Dag n₁ cells v f lf j c fl) : fl.length = j := by
  induction h with
  | leaf => rfl
  | node _ _ ih => simp only [List.length_cons, ih]
theorem off1 {tb : Addr} {rs : List (Addr × Obj)} (h : ∀ q ∈ rs, q.1 < tb) : OwnOff rs [tb] := fun q hq b hb => by
  rw [List.mem_singleton.mp hb]
  exact Nat.ne_of_lt (h q hq)
theorem law_prep {L kg hp tx an fs fn D lf c x dx : Addr} {oA oF : Obj} {cells tv fv : List Value} {n₁ rt' : List (Addr × Obj)} {kk : Int} {v n0 n1 n2 n3 g2 nd q1 q2 q3 q4 : Nat} {lD : Dat} {fl : List Bool} {cnt : Int} {P : Prop}
    (N : News h₀ L h ((hp, listOf cells.toArray n0) :: (kg, listOf [Value.ref D, Value.int kk g2].toArray n1) :: (tx, listOf tv.toArray n2) :: (an, oA) :: (fs, listOf fv.toArray n3) :: (fn, oF) :: rt')) (hc : 1 ≤ cnt)
    (d1 : Dag rt' cells v fN lf cnt.toNat c fl) (d2 : LeafK rt' cells lf lD) (d5 : AtomsRel prog w (TSk cnt.toNat) oA tv) (d6 : FunRel prog w n₁ (FLk cnt.toNat) oF fv) (d7 : Tups n₁) (d8 : ∀ q ∈ n₁, q ∈ rt')
    (hx : (x, instObj 154 dx) ∈ rt') (hdx : (dx, dictOf (symD w.params tx an fs fn q1 q2 q3 q4) nd) ∈ rt') (lo : (an == sysModules) = false) (lo2 : (fn == sysModules) = false) (c1 : @LT.lt Nat _ dx tx) (c2 : @LT.lt Nat _ tx an) (c3 : @LT.lt Nat _ an fs) (c4 : @LT.lt Nat _ fs fn)
    (k : ∀ rs, News h₀ L h rs → SymsIn prog w rs x TSB FLB dx tx an fs fn q1 q2 q3 q4 nd n2 n3 oA oF tv fv n₁ → Dag rs cells v fN lf (cnt.toNat - 1 + 1) c fl → LeafK rs cells lf lD → (hp, listOf cells.toArray n0) ∈ rs → (∀ q ∈ rt', q ∈ rs) →
      (∃ ft fa ta tb, fv[((fN : Nat) : Int).toNat]? = some (.ref ft) ∧ (ft, tup [.int fa ta, .int 2 tb]) ∈ rs) → P) : P := by
  have hs : ∀ q ∈ rt', q ∈ (hp, listOf cells.toArray n0) :: (kg, listOf [Value.ref D, Value.int kk g2].toArray n1) :: (tx, listOf tv.toArray n2) :: (an, oA) :: (fs, listOf fv.toArray n3) :: (fn, oF) :: rt' := fun q hq => .tail _ (.tail _ (.tail _ (.tail _ (.tail _ (.tail _ hq)))))
  have hk : cnt.toNat ≠ 0 := by omega
  have e : cnt.toNat - 1 + 1 = cnt.toNat := by omega
  have e1 : TSk cnt.toNat = TSB := by unfold TSk; rw [if_neg hk]
  have e2 : FLk cnt.toNat = FLB := by unfold FLk; rw [if_neg hk]
  rw [e1] at d5
  rw [e2] at d6
  have R3 := d6
  obtain ⟨xs, -, -, -, -, -, -, r3⟩ := R3
  obtain ⟨ft, ta, tb, y1, y2⟩ := r3 _ _ fN_at
  refine k _ N ⟨hs _ hx, hs _ hdx, .tail _ (.tail _ (.head _)), .tail _ (.tail _ (.tail _ (.head _))), .tail _ (.tail _ (.tail _ (.tail _ (.head _)))), .tail _ (.tail _ (.tail _ (.tail _ (.tail _ (.head _))))), ?_, ?_, ?_, ?_, ?_, ?_, ?_, ?_, d5, d6, d7, fun q hq => hs q (d8 q hq), lo, lo2⟩ (by rw [e]; exact d1.mono0 hs) (d2.mono0 hs) (.head _) hs ⟨ft, _, ta, tb, y1, hs _ (d8 _ y2)⟩
  all_goals k_ne
end
section
variable {prog : Program} {w : World} {p : Program} {loose : List Str} {mean : ExcName → Option Value} {mg mb : Str → Option Value} {hnd : Option Value}
  {dp un : Nat} {gd : Option (List Code)} {cn : Str} {cs : Scope} {a : Addr} {ccd : Value} {cl : List (Str × Addr)} {outer : List Env} {A₀ : Around} {base h₀ : Heap} {L : Addr} {m : Str → Option Value} {led : List (Addr × Obj)} {s : Shared}
  {Q E : Value → Shared → Prop}
theorem func_s (B : Below A₀ base outer h₀) (F : Fr h₀ L s.heap m) (X : (Mine.kf w.params).In h₀) (N : News h₀ L s.heap led) (T : Top p loose mean mg mb h₀) (hk : cs.kind = .function)
  (hd : dp + 5 < recursionLimit) (hu : un + 60 < cLine) {u u2 : Nat} {str : Str} {j : Int}
  {x dx tx an fs fn : Addr} {q1 q2 q3 q4 n n1 n2 : Nat} {oA oF : Obj} {tv fv : List Value} {ts : List Str} {fl : List (Int × Int)} {n₁ : List (Addr × Obj)}
  (S : SymsIn prog w led x ts fl dx tx an fs fn q1 q2 q3 q4 n n1 n2 oA oF tv fv n₁) (hb : ts.length < 1000) (hb2 : fl.length < 1000)
  (hret : ∀ h' tk' n3 tv' n1' oA' fv' n2' oF' n₁' t', Fr h₀ L h' m → News h₀ L h' n3 → SymsIn prog w n3 x (atomT ts str) (funT fl (ts.idxOf str, j)) dx tx an fs fn q1 q2 q3 q4 n n1' n2' oA' oF' tv' fv' n₁' → (∀ q ∈ led, q.2.cls = .type "tuple" → q ∈ n3) →
    Q (.int (fl.idxOf ((ts.idxOf str : Int), j)) t') { s with heap := h', toks := tk' }) :
  wpAny (model prog w) (topH hnd dp un gd cn cs L a ccd cl outer) (call (.ref 109) [.ref x, .str str u, .int j u2]) Q E s := by
  have h1 := S.off N S.h1 (ref_ty _ _) (ref_ty _ _)
  have h2 : (dx, dictOf (symD w.params tx an fs fn q1 q2 q3 q4) n) ∈ off4 tx an fs fn led := off4_in S.h2 (ne_of_cls N S.h2 S.hT (ty_ty (by decide))) S.e7 (ne_of_cls N S.h2 S.hS (ty_ty (by decide))) S.e8
  have hn : ∀ q ∈ n₁, q ∈ off4 tx an fs fn led := fun q hq => S.off (a := q.1) (o := q.2) N (S.hn q hq) (by rw [S.ht q hq]; exact ty_ty (by decide)) (by rw [S.ht q hq]; exact ty_ty (by decide))
  refine func_in B F X N T hk hd hu off4_off S.e1 S.e2 S.e3 S.e4 S.e5 S.e6 h1 h2 S.head S.R S.R2 S.ht hn S.lo S.lo2 hb hb2 ?_
  intro h' tk' tv' n1' oA' fv' n2' oF' kt t' t2 F' N' R' R2' l1 l2 l3 l4 l5
  have up : ∀ q ∈ off4 tx an fs fn led, q ∈ (kt, tup [.int (ts.idxOf str) t2, .int j u2]) :: (tx, listOf tv'.toArray n1') :: (an, oA') :: (fs, listOf fv'.toArray n2') :: (fn, oF') :: off4 tx an fs fn led := fun q hq => .tail _ (.tail _ (.tail _ (.tail _ (.tail _ hq))))
  exact hret h' tk' _ tv' n1' oA' fv' n2' oF' _ t' F' N' ⟨up _ h1, up _ h2, .tail _ (.head _), .tail _ (.tail _ (.head _)), .tail _ (.tail _ (.tail _ (.head _))), .tail _ (.tail _ (.tail _ (.tail _ (.head _)))), S.e1, S.e2, S.e3, S.e4, S.e5, S.e6, S.e7, S.e8, R', R2', List.forall_mem_cons.mpr ⟨rfl, S.ht⟩, List.forall_mem_cons.mpr ⟨.head _, fun q hq => up q (hn q hq)⟩, S.lo, S.lo2⟩ (fun q hq c => up q (S.off (a := q.1) (o := q.2) N hq (by rw [c]; exact ty_ty (by decide)) (by rw [c]; exact ty_ty (by decide))))
theorem atom_s (B : Below A₀ base outer h₀) (F : Fr h₀ L s.heap m) (X : (Mine.kf w.params).In h₀) (N : News h₀ L s.heap led) (T : Top p loose mean mg mb h₀) (hk : cs.kind = .function)
  (hd : dp + 5 < recursionLimit) (hu : un + 60 < cLine) {u : Nat} {str : Str}
  {x dx tx an fs fn : Addr} {q1 q2 q3 q4 n n1 n2 : Nat} {oA oF : Obj} {tv fv : List Value} {ts : List Str} {fl : List (Int × Int)} {n₁ : List (Addr × Obj)}
  (S : SymsIn prog w led x ts fl dx tx an fs fn q1 q2 q3 q4 n n1 n2 oA oF tv fv n₁) (hb : ts.length < 1000)
  (hret : ∀ h' tk' n3 t', Fr h₀ L h' m → News h₀ L h' n3 → (∀ q ∈ led, q.2.cls = .type "tuple" → q ∈ n3) → Q (.int (ts.idxOf str) t') { s with heap := h', toks := tk' }) :
  wpAny (model prog w) (topH hnd dp un gd cn cs L a ccd cl outer) (call (.ref 88) [.ref x, .str str u]) Q E s := by
  have h1 := S.off N S.h1 (ref_ty _ _) (ref_ty _ _)
  have h2 : (dx, dictOf (symD w.params tx an fs fn q1 q2 q3 q4) n) ∈ off4 tx an fs fn led := off4_in S.h2 (ne_of_cls N S.h2 S.hT (ty_ty (by decide))) S.e7 (ne_of_cls N S.h2 S.hS (ty_ty (by decide))) S.e8
  refine atom_in B F X N T hk (by omega) (by omega) (rest := off4 tx an fs fn led) (n1 := n1) ?_ S.e1 h1 h2 ?_ S.R S.lo hb ?_
  · intro q hq b hb
    rcases List.mem_cons.mp hb with rfl | hb
    · exact off4_off q hq _ (.head _)
    · rw [List.mem_singleton.mp hb]; exact off4_off q hq _ (.tail _ (.head _))
  · intro q hq
    rcases List.mem_cons.mp hq with rfl | hq
    · exact S.hT
    · rcases List.mem_cons.mp hq with rfl | hq
      · exact S.hA
      · exact off4_sub q hq
  intro h' tk' tv' n1' oA' t' F' N' R'
  exact hret h' tk' _ t' F' N' (fun q hq c => .tail _ (.tail _ (S.off (a := q.1) (o := q.2) N hq (by rw [c]; exact ty_ty (by decide)) (by rw [c]; exact ty_ty (by decide)))))
end
end Mine
namespace Mine
theorem kqd_up {d : Dat} {n : Nat} (h : kqdOk 1 d = true) : kqdOk (n + 1) d = true := by
  cases d with
  | tuple ds =>
    simp only [kqdOk, List.all_eq_true] at h ⊢
    intro x hx
    have := h x hx
    cases x <;> first | (simp [kqdOk] at this; done) | (simpa [kqdOk] using this)
  | list ds =>
    simp only [kqdOk, List.all_eq_true] at h ⊢
    intro x hx
    have := h x hx
    cases x <;> first | (simp [kqdOk] at this; done) | (simpa [kqdOk] using this)
  | _ => first | (simp [kqdOk] at h; done) | (simpa [kqdOk] using h)
theorem kqd_term {f : Int} {lD : Dat} (h : kqdOk 1 lD = true) : ∀ fl : List Bool, kqdOk (2 * fl.length + 1) (termD f lD fl) = true
  | [] => h
  | tw :: fl => by
    have ih := kqd_term (f := f) h fl
    have hl : kqdOk (2 * fl.length + 1) lD = true := kqd_up h
    have e : 2 * (tw :: fl).length + 1 = (2 * fl.length + 1) + 1 + 1 := by simp only [List.length_cons]; omega
    rw [e]
    have hs : PyData.strOk (Str.ofString "s") = true := by decide +kernel
    cases tw <;> simp [termD, kqdOk, ih, hl, hs]
theorem kqd_form {F A : Int} : kqdOk 3 (formD F A) = true := by
  have hs : PyData.strOk (Str.ofString "s") = true := by decide +kernel
  have ha : PyData.strOk (Str.ofString "a") = true := by decide +kernel
  simp [formD, kqdOk, hs, ha]
theorem form_keep {led n3 : List (Addr × Obj)} {f : Addr} {F A : Int} (hk : ∀ q ∈ led, q.2.cls = .type "tuple" → q ∈ n3) (h : DatIn led (.ref f) (formD F A)) : DatIn n3 (.ref f) (formD F A) := by
  unfold formD at h ⊢
  cases h with
  | tuple h1 r1 =>
    refine .tuple (hk _ h1 rfl) ?_
    cases r1 with
    | cons a1 r1 => cases r1 with
      | cons a2 r1 => cases r1 with
        | cons a3 r1 =>
          cases r1
          cases a1
          cases a2
          cases a3 with
          | tuple h2 r2 =>
            refine .cons (.str _ _) (.cons (.int _ _) (.cons (.tuple (hk _ h2 rfl) ?_) .nil))
            cases r2 with
            | cons b1 r2 =>
              cases r2
              cases b1 with
              | tuple h3 r3 =>
                refine .cons (.tuple (hk _ h3 rfl) ?_) .nil
                cases r3 with
                | cons c1 r3 => cases r3 with
                  | cons c2 r3 =>
                    cases r3
                    cases c1
                    cases c2
                    exact .cons (.str _ _) (.cons (.int _ _) .nil)
theorem ball_parts {n4 : List (Addr × Obj)} {b : Addr} {F A : Int} (h : DatIn n4 (.ref b) (ballOf (formD F A))) : ∃ t1 t2 z1 z2 b2 f v3, (b, ({ cls := .type "tuple", data := .seq [Value.str (Str.ofString "s") t1, .int 16 t2, .ref b2].toArray z1 } : Obj)) ∈ n4 ∧ (b2, ({ cls := .type "tuple", data := .seq [Value.ref f, v3].toArray z2 } : Obj)) ∈ n4 ∧ DatIn n4 (.ref f) (formD F A) := by
  unfold ballOf at h
  cases h with
  | tuple h1 r1 =>
    cases r1 with
    | cons a1 r1 => cases r1 with
      | cons a2 r1 => cases r1 with
        | cons a3 r1 =>
          cases r1
          cases a1
          cases a2
          cases a3 with
          | tuple h2 r2 =>
            cases r2 with
            | cons b1 r2 => cases r2 with
              | cons b2 r2 =>
                cases r2
                have b1' := b1
                unfold formD at b1
                cases b1 with
                | tuple h3 r3 => exact ⟨_, _, _, _, _, _, _, h1, h2, b1'⟩
section
variable {prog : Program} {w : World} {A : Around} {E : Value → Shared → Prop} {s : Shared} {Q : Value → Shared → Prop}
theorem exc_get {e d : Addr} {oe : Obj} {vs : Array Value} {u : Nat} {v : Value} {expr : Bool} (X : (Mine.kf w.params).In s.heap) (he : s.heap.get? e = some oe) (hc : oe.cls = .ref 51) (hdi : oe.dict = some d) (hda : oe.data = .fields vs)
    (hd : s.heap.get? d = some (ballD w u v)) (hv : handedIn v = true) (h : Q v { s with toks := s.toks + 1 }) : wpAny (model prog w) A (getAttr (.ref e) (Str.ofString "ball") expr) Q E s := by
  have I : W.InstAt s.heap e oe 51 (some (ballD w u v)) := ⟨he, hc, by unfold notCls; rw [hda], by rw [hdi]; exact hd⟩
  have hdi51 : hasDictIn (Mine.kf w.params) 51 = true := by with_unfolding_all rfl
  have hf : findObj (Mine.kf w.params) 51 (some (ballD w u v)) (Str.ofString "ball") = some (.value v) := findObj_own hdi51 (by k_is) rfl (by rfl)
  have hga : findIn (Mine.kf w.params) (.ref 51) "__getattribute__" = some (some (.builtin "BaseException.__getattribute__")) := by k_is
  have hgg : findIn (Mine.kf w.params) (.ref 51) "__getattr__" = some none := by k_is
  have hC := X 51 _ (by k_is)
  unfold o51 at hC
  obtain ⟨hh, g, dd, t, os⟩ := s
  have L0 := I.type (M := model prog w)
  have L1 := looks_findIn (M := model prog w) X hga
  have L2 := looks_findIn (M := model prog w) X hgg
  have LF := looks_find (M := model prog w) X I hf
  have FB := PySem.F.attr_Exception
  have f3 := FB.ga.bind (.ref e)
  have hx0 : (expr && onTheHeap (Value.builtin "BaseException.__getattribute__")) = false := by cases expr <;> rfl
  have hx2 : (Value.builtin "BaseException.__getattribute__" == Value.builtin "object.__getattribute__") = false := by decide +kernel
  have hx1 : (onTheHeap (Value.ref 51) && Value.builtin "BaseException.__getattribute__" == Value.builtin "object.__getattribute__") = false := by rw [hx2]; rfl
  have hk : builtinKind "BaseException.__getattribute__" = some .slot := by decide +kernel
  have hsplit : splitId "BaseException.__getattribute__" = some ("BaseException", "__getattribute__") := by decide +kernel
  have hcB : (Value.ref 51 :: .ref 31 :: bmE).contains (.type "BaseException") = true := by simp
  unfold getAttr getAttrBy
  refine wpAny_bind (wpAny_mkText (wpAny_holding (wpAny_bind (L0.at (wpAny_bind (L1.at ?_))))))
  dsimp only
  rw [hx1, if_neg Bool.false_ne_true]
  unfold getAttrByItsOwn hookBefore
  rw [if_pos (show onTheHeap (Value.ref 51) = true from rfl)]
  refine wpAny_bind (L2.at ?_)
  refine wpAny_bind (wpAny_attempt (wpAny_holding ?_))
  unfold callGetattribute
  rw [hx0, if_neg Bool.false_ne_true]
  unfold boundAndCalled
  repeat (any_goals (first | assumption | wp_step))
  have ha := PySem.F.args_bexc_ga (.ref e) (.str (Str.ofString "ball") t)
  refine codeAny_call_builtin FB.ga.plain PySem.F.entry_bexc_ga ?_
  have hmro : Looks (model prog w) hh (mroOf (.ref 51)) (.ref 51 :: .ref 31 :: bmE) := fun A Q E s k q' => by
    obtain ⟨hh', g, d, tk, os⟩ := s
    exact wpAny_mroOf_exc (k _ _ hC) q'
  have sub : Looks (model prog w) hh (isInstance (.ref e) (.type "BaseException")) true := L0.andThen (fun A Q E s k q' => by
    obtain ⟨hh', g, d, tk, os⟩ := s
    refine wpAny_isSubtype_exc (k _ _ hC) ?_
    rw [hcB]
    exact q')
  refine @check_slot (model prog w) _ _ ⟨hh, g, dd, t + 1, os⟩ "BaseException.__getattribute__" "BaseException" "__getattribute__" (.ref e) [.str (Str.ofString "ball") t] [] _ hk hsplit sub ha ?_
  unfold Builtin.«object.__getattribute__»
  refine wpAny_bind ?_
  show wpAny _ _ (pure (Value.ref e, [Value.str (Str.ofString "ball") t])) _ _ _
  refine wpAny_pure (wpAny_bind (wpAny_pure (wpAny_bind (L0.at (wpAny_bind (LF.at ?_))))))
  refine wpAny_pure ?_
  show wpAny _ _ (handedOut v) _ _ _
  rw [handedOut_of hv]
  exact wpAny_pure h
theorem exc_getK {h₀ : Heap} {L : Addr} {m : Str → Option Value} {news : List (Addr × Obj)} {e d b : Addr} {oe : Obj} {vs : Array Value} {u : Nat} {expr : Bool} (X : (Mine.kf w.params).In h₀) (F : Fr h₀ L s.heap m) (N : News h₀ L s.heap news) (he : (e, oe) ∈ news) (hc : oe.cls = .ref 51) (hdi : oe.dict = some d) (hda : oe.data = .fields vs)
    (hd : (d, ballD w u (.ref b)) ∈ news) (h : Q (.ref b) { s with toks := s.toks + 1 }) : wpAny (model prog w) A (getAttr (.ref e) (Str.ofString "ball") expr) Q E s := exc_get (X.keeps F.keep) (N _ he).1 hc hdi hda (N _ hd).1 rfl h
theorem stopEq {a b : Addr} (h : Hold (wpAny (model prog w) A (compareOp .Eq (.ref a) (.ref b)) Q E s)) : wpAny (model prog w) A (compareOp .Eq (.ref a) (.ref b)) Q E s := h
theorem dat_eq {h₀ : Heap} {L : Addr} {news : List (Addr × Obj)} {a b : Value} {D : Dat} (n : Nat) (N : News h₀ L s.heap news) (da : DatIn news a D) (db : DatIn news b D) (ok : kqdOk n D = true) (hu : A.units + n < cLine) (h : Q (.bool true) s) : wpAny (model prog w) A (compareOp .Eq a b) Q E s := by
  obtain ⟨as, ra⟩ := kqd_in N n da ok
  obtain ⟨bs, rb⟩ := kqd_in N n db ok
  obtain ⟨l1, l2⟩ := kqd_lay n D ok
  refine SeqAt.compareEq_reads ra rb l1 l1 (by rw [Nat.min_self]; omega) ?_
  rw [(kqd_eqv n D D n ok ok).mpr rfl]
  exact h
end
end Mine
example : True := by
  k_with "getAttr ref" => (k_here; (with_reducible show wpAny _ _ (getAttr (Value.ref _) (PySem.Str.ofString "ball") _) _ _ _); k_dflt (refine' Mine.exc_getK ?X ?F ?N ?he ?hc ?hdi ?hda ?hd ?_; (case X => k_asm); (case F => k_asm); (case N => k_asm); (case he => exact List.mem_cons_self); (case hc => assumption); (case hdi => assumption); (case hda => assumption); (case hd => exact List.mem_cons_of_mem _ List.mem_cons_self); k_whole))
  k_with "compareOp Eq ref ref" => (k_here; (with_reducible show wpAny _ _ (compareOp CmpOp.Eq (Value.ref _) (Value.ref _)) _ _ _); (with_reducible refine Mine.stopEq ?_))
  k_with "call ref" => (k_here; (with_reducible show wpAny _ _ (call (Value.ref 109) [_, Value.str (PySem.Str.ofString "resource_error") _, _]) _ _ _); k_dflt (refine' Mine.func_s ?B ?F ?X ?N ?T ?hk ?hd ?hu (Mine.SymsIn.mono ?sub ?S) ?hb ?hb2 ?_; (case S => assumption); (case B => k_asm); (case F => k_asm); (case X => k_asm); (case N => k_asm); (case T => k_asm); (case hk => first | exact rfl | assumption); (case hd => ktr_room); (case hu => ktr_units); (case sub => (repeat (first | assumption | ktd_sub | refine Mine.sub_tail ?_))); (case hb => exact Mine.tsd_len); (case hb2 => exact Mine.fld_len); k_whole); intro _ _ _ _ _ _ _ _ _ _ _ _ _ zS' _; (have hx6 := (Mine.SymsIn.h1 zS')); (have hd6 := (Mine.SymsIn.h2 zS')); (try k_sweep))
  k_with "call ref" => (k_here; (with_reducible show wpAny _ _ (call (Value.ref 88) [_, Value.str (PySem.Str.ofString "memory") _]) _ _ _); k_dflt (refine' Mine.atom_s ?B ?F ?X ?N ?T ?hk ?hd ?hu (Mine.SymsIn.mono ?sub ?S) ?hb ?_; (case S => assumption); (case B => k_asm); (case F => k_asm); (case X => k_asm); (case N => k_asm); (case T => k_asm); (case hk => first | exact rfl | assumption); (case hd => ktr_room); (case hu => ktr_units); (case sub => (repeat (first | assumption | ktd_sub | refine Mine.sub_tail ?_))); (case hb => exact Mine.tse_len); k_whole); intro _ _ _ _ _ _ _; (try k_sweep))
  k_with "subscriptTail" => (k_here; (with_reducible show wpAny _ _ (subscriptTail _ _ (Value.ref _) (Value.int _ _)) _ _ _); k_dflt (refine' item_tupleT ?t ?a ?b ?c ?d ?_; (case t => exact News.isTup (by assumption) (List.mem_cons_of_mem _ (List.mem_cons_of_mem _ (by assumption)))); (case a => decide); (case b => decide); (case c => rfl); (case d => rfl); k_whole))
  trivial
local macro_rules | `(tactic| k_qdec) => `(tactic| decide +kernel)
namespace Mine
theorem law_holds : PySem.Challenge.rw_rh0104_01.Holds := by
  w_on
  refine holds_law said0 fun said => ?_
  refine holds_open (q := view) (loose := loose0) (Xt := fun s => xlAt view lv0 s && recOk (RowW.records PySem.Challenge.rw_rh0104_01.row.toRowW) s) (XP := XL view lv0) (Yf := Hook.obs hk0) (Ya := Hook.val hk0) (YP := Hook.says hk0) (N := 7236) ?hl (Hook.of hk0) (Hook.keeps hk0) (fun s e => xl_of s (Bool.and_eq_true_iff.mp e).1) XL.keeps (by rfl) (by rfl) (by rfl) (fun s e => recFacts_of (Bool.and_eq_true_iff.mp e).2) (by rfl) (by first | assumption | decide +kernel) (by decide +kernel) ⟨rfl, rfl, rfl, rfl, rfl, by decide +kernel⟩ ?hw ?_
  case hl => exact hd_left
  case hw => w_witness2
  clear said
  k_go0
  (try ((with_reducible show wpAny _ _ _ _ _ _); k_fold)); k_steps
  unfold Hold
  refine cut_leaf (by assumption) (by assumption) (by assumption) (by assumption) ?_ ?_
  · rename (0 : Int) ≤ _ => r0
    rename _ < (3 : Int) => r1
    rcases lt3 r0 r1 with r2 | r2 | r2
    · subst r2
      (try ((with_reducible show wpAny _ _ _ _ _ _); k_fold)); k_steps
      unfold Hold LeafP
      refine ⟨_, _, _, _, _, _, .tuple [.str (Str.ofString "v"), .int 0], _, _ :: _ :: _ :: _ :: _ :: _, rfl, by assumption, perm56 (by assumption), .var (.tail _ (.tail _ (.tail _ (.tail _ List.mem_cons_self)))) rfl, .tuple (n := 0) (vs := [_, _]) (.tail _ (.tail _ (.tail _ List.mem_cons_self))) (.cons (.str _ _) (.cons (.int _ _) .nil)), kqd_leaf (by decide +kernel), Nat.le_refl 1, rfl, fun q hq => .tail _ (.tail _ (.tail _ (.tail _ (.tail _ hq)))), ?_⟩
      repeat' (first | assumption | exact ltN (by dsimp only; k_extra "LTO") | refine Mine.off6_cons ?_ ?_ ?_ ?_ ?_ ?_ ?_)
    · subst r2
      (try ((with_reducible show wpAny _ _ _ _ _ _); k_fold)); k_steps
      unfold Hold LeafP
      refine ⟨_, _, _, _, _, 0, .tuple [.str (Str.ofString "a"), .int _], _, _ :: _ :: _ :: _ :: _ :: _, rfl, by assumption, perm56 (by assumption), .con (.tail _ (.tail _ (.tail _ (.tail _ List.mem_cons_self)))), .tuple (n := 0) (vs := [_, _]) (.tail _ (.tail _ List.mem_cons_self)) (.cons (.str _ _) (.cons (.int _ _) .nil)), kqd_leaf (by decide +kernel), Nat.zero_le 1, rfl, fun q hq => .tail _ (.tail _ (.tail _ (.tail _ (.tail _ hq)))), ?_⟩
      repeat' (first | assumption | exact ltN (by dsimp only; k_extra "LTO") | refine Mine.off6_cons ?_ ?_ ?_ ?_ ?_ ?_ ?_)
    · subst r2
      (try ((with_reducible show wpAny _ _ _ _ _ _); k_fold)); k_steps
      unfold Hold LeafP
      refine ⟨_, _, _, _, _, 0, .tuple [.str (Str.ofString "i"), .int _], _, _ :: _ :: _ :: _ :: _ :: _, rfl, by assumption, perm56 (by assumption), .int (.tail _ (.tail _ (.tail _ (.tail _ List.mem_cons_self)))), .tuple (n := 0) (vs := [_, _]) (.tail _ List.mem_cons_self) (.cons (.str _ _) (.cons (.int _ _) .nil)), kqd_leaf (by decide +kernel), Nat.zero_le 1, rfl, fun q hq => .tail _ (.tail _ (.tail _ (.tail _ (.tail _ hq)))), ?_⟩
      repeat' (first | assumption | exact ltN (by dsimp only; k_extra "LTO") | refine Mine.off6_cons ?_ ?_ ?_ ?_ ?_ ?_ ?_)
  · intro h' tk lf sh cells v lD nn' rt F' N' LK DK KO hv hvl hs hkt off'
    have hx2 := hs (_, instObj 154 _) (by assumption)
    have hdx2 := hs (_, dictOf (symD _ _ _ _ _ _ _ _ _) _) (by assumption)
    have hD2 := hs (_, listOf _ _) (by assumption)
    have ham2 := hs (_, instObj 541 _) (by assumption)
    have hst2 := hs (_, instObj 381 _) (by assumption)
    have hds2 := hs (_, dictOf (storeD _ _ _ _ _ _ _ _ _ _ _ _ _ _ _ _) _) (by assumption)
    have ha2 := hs (_, dictOf (areaD _ _ _ _ _ _ _ _ _ _ _ _ _ _ _ _ _ _ _ _ _ _ _ _ _ _ _ _ _ _ _ _ _ _ _ _ _) _) (by assumption)
    k_sweep
    (try ((with_reducible show wpAny _ _ _ _ _ _); k_fold)); k_steps
    unfold Hold
    refine law_iter (by rfl) (by assumption) (by assumption) (by assumption) hds2 LK DK hvl (by assumption) (by assumption) (by assumption) hkt off' (by omega) (by omega) (by omega) (by omega) (by omega) ?_ ?_
    · intro k u1 u2 tl c t cells tv fv fl oA oF n₁ rt' rtO own kk n0 n1 n2 n3 g g2 ft h tk hk ft1 ft0 d1 d2 d3 d4 d5 d6 d7 d8 d9 hO1 hO2 d10 dO hoff k0 k1 F2 N2
      replace hx2 := hO1 _ (d9 _ hx2)
      replace hdx2 := hO1 _ (d9 _ hdx2)
      replace hD2 := hO1 _ (d9 _ hD2)
      replace ham2 := hO1 _ (d9 _ ham2)
      replace hst2 := hO1 _ (d9 _ hst2)
      replace hds2 := hO1 _ (d9 _ hds2)
      replace ha2 := hO1 _ (d9 _ ha2)
      have d8' : ∀ q ∈ n₁, q ∈ rtO := fun q hq => hO1 q (d8 q hq)
      have okc := d1.ok d2
      have okl := d2.ok
      change Hold _ at d4
      unfold mapL at F2
      k_sweep
      cases ft
      · have ft0 := ft0 rfl
        (try ((with_reducible show wpAny _ _ _ _ _ _); k_fold)); k_steps
        · refine law_endG (tw := true) (T := t) (new := [_, _, _, _]) (by assumption) (by assumption) ?hnew (.head _) (.tail _ (.head _)) (.tail _ (.tail _ (.tail _ (.head _)))) rfl d1 d2 d3 (by omega) (fun h => absurd h (Int.not_le.mpr (Int.lt_trans ft0 (partsZ_cons_le _ _)))) (by assumption) (by assumption) (by assumption) d8 d9 hO1 hO2 d10 dO hoff k0 k1 (by rfl) (by rfl) (by rfl) partsZ_t.symm (by rfl) (decide_eq_false (Int.not_le.mpr (Int.lt_trans ft0 (partsZ_cons_le _ _)))).symm ?hm
          case hnew =>
            repeat (refine List.forall_mem_cons.mpr ⟨⟨ltN (by dsimp only; k_extra "LTO"), ltN (by dsimp only; k_extra "LTO"), ltN (by dsimp only; k_extra "LTO"), ltN (by dsimp only; k_extra "LTO"), ltN (by dsimp only; k_extra "LTO"), ltN (by dsimp only; k_extra "LTO"), allLt_mem (by kwd_rel)⟩, ?_⟩)
            exact fun _ h => nomatch h
          case hm => (intro y y1 y2 y3 y4 y5 y6 y7; simp only [if_neg y1, if_neg y2, if_neg y3, if_neg y4, if_neg y5, if_neg y6, if_neg y7])
        · refine law_endG (tw := false) (T := t) (new := [_, _, _, _]) (by assumption) (by assumption) ?hnew (.head _) (.tail _ (.head _)) (.tail _ (.tail _ (.tail _ (.head _)))) rfl d1 d2 d3 (by omega) (fun h => absurd h (Int.not_le.mpr (Int.lt_trans ft0 (partsZ_cons_le _ _)))) (by assumption) (by assumption) (by assumption) d8 d9 hO1 hO2 d10 dO hoff k0 k1 (by rfl) (by rfl) (by rfl) partsZ_f.symm (by rfl) (decide_eq_false (Int.not_le.mpr (Int.lt_trans ft0 (partsZ_cons_le _ _)))).symm ?hm
          case hnew =>
            repeat (refine List.forall_mem_cons.mpr ⟨⟨ltN (by dsimp only; k_extra "LTO"), ltN (by dsimp only; k_extra "LTO"), ltN (by dsimp only; k_extra "LTO"), ltN (by dsimp only; k_extra "LTO"), ltN (by dsimp only; k_extra "LTO"), ltN (by dsimp only; k_extra "LTO"), allLt_mem (by kwd_rel)⟩, ?_⟩)
            exact fun _ h => nomatch h
          case hm => (intro y y1 y2 y3 y4 y5 y6 y7; simp only [if_neg y1, if_neg y2, if_neg y3, if_neg y4, if_neg y5, if_neg y6, if_neg y7])
      · have ft1 := ft1 rfl
        (try ((with_reducible show wpAny _ _ _ _ _ _); k_fold)); k_steps
        · refine law_endG (tw := true) (T := _) (new := [_, _, _, _, _, _]) (by assumption) (by assumption) ?hnew (.tail _ (.tail _ (.head _))) (.tail _ (.tail _ (.tail _ (.head _)))) (.tail _ (.tail _ (.tail _ (.tail _ (.tail _ (.head _)))))) rfl d1 d2 d3 (by omega) (fun _ => .tuple (n := 0) (vs := [_, _, _]) (.head _) (.cons (.str _ _) (.cons (.int _ _) (.cons (.tuple (n := 0) (vs := [_, _]) (.tail _ (.head _)) (.cons ((d4 ft1).mono (fun q hq => List.mem_append_right _ hq)) (.cons ((d4 ft1).mono (fun q hq => List.mem_append_right _ hq)) .nil))) .nil)))) (by assumption) (by assumption) (by assumption) d8 d9 hO1 hO2 d10 dO hoff k0 k1 (by rfl) (by rfl) (by rfl) partsZ_t.symm (by rfl) (by rw [partsZ_t]) ?hm
          case hnew =>
            repeat (refine List.forall_mem_cons.mpr ⟨⟨ltN (by dsimp only; k_extra "LTO"), ltN (by dsimp only; k_extra "LTO"), ltN (by dsimp only; k_extra "LTO"), ltN (by dsimp only; k_extra "LTO"), ltN (by dsimp only; k_extra "LTO"), ltN (by dsimp only; k_extra "LTO"), allLt_mem (by kwd_rel)⟩, ?_⟩)
            exact fun _ h => nomatch h
          case hm => (intro y y1 y2 y3 y4 y5 y6 y7; simp only [if_neg y1, if_neg y2, if_neg y3, if_neg y4, if_neg y5, if_neg y6, if_neg y7])
        · refine law_endG (tw := true) (T := t) (new := [_, _, _, _]) (by assumption) (by assumption) ?hnew (.head _) (.tail _ (.head _)) (.tail _ (.tail _ (.tail _ (.head _)))) rfl d1 d2 d3 (by omega) (fun h => absurd h (by rw [partsZ_t]; omega)) (by assumption) (by assumption) (by assumption) d8 d9 hO1 hO2 d10 dO hoff k0 k1 (by rfl) (by rfl) (by rfl) partsZ_t.symm (by rfl) (by rw [partsZ_t]) ?hm
          case hnew =>
            repeat (refine List.forall_mem_cons.mpr ⟨⟨ltN (by dsimp only; k_extra "LTO"), ltN (by dsimp only; k_extra "LTO"), ltN (by dsimp only; k_extra "LTO"), ltN (by dsimp only; k_extra "LTO"), ltN (by dsimp only; k_extra "LTO"), ltN (by dsimp only; k_extra "LTO"), allLt_mem (by kwd_rel)⟩, ?_⟩)
            exact fun _ h => nomatch h
          case hm => (intro y y1 y2 y3 y4 y5 y6 y7; simp only [if_neg y1, if_neg y2, if_neg y3, if_neg y4, if_neg y5, if_neg y6, if_neg y7])
        · refine law_endG (tw := false) (T := _) (new := [_, _, _, _, _, _]) (by assumption) (by assumption) ?hnew (.tail _ (.tail _ (.head _))) (.tail _ (.tail _ (.tail _ (.head _)))) (.tail _ (.tail _ (.tail _ (.tail _ (.tail _ (.head _)))))) rfl d1 d2 d3 (by omega) (fun _ => .tuple (n := 0) (vs := [_, _, _]) (.head _) (.cons (.str _ _) (.cons (.int _ _) (.cons (.tuple (n := 0) (vs := [_, _]) (.tail _ (.head _)) (.cons ((d4 ft1).mono (fun q hq => List.mem_append_right _ hq)) (.cons (DK.mono (fun q hq => List.mem_append_right _ (d9 q hq))) .nil))) .nil)))) (by assumption) (by assumption) (by assumption) d8 d9 hO1 hO2 d10 dO hoff k0 k1 (by rfl) (by rfl) (by rfl) partsZ_f.symm (by rfl) (by rw [partsZ_f]) ?hm
          case hnew =>
            repeat (refine List.forall_mem_cons.mpr ⟨⟨ltN (by dsimp only; k_extra "LTO"), ltN (by dsimp only; k_extra "LTO"), ltN (by dsimp only; k_extra "LTO"), ltN (by dsimp only; k_extra "LTO"), ltN (by dsimp only; k_extra "LTO"), ltN (by dsimp only; k_extra "LTO"), allLt_mem (by kwd_rel)⟩, ?_⟩)
            exact fun _ h => nomatch h
          case hm => (intro y y1 y2 y3 y4 y5 y6 y7; simp only [if_neg y1, if_neg y2, if_neg y3, if_neg y4, if_neg y5, if_neg y6, if_neg y7])
        · refine law_endG (tw := false) (T := t) (new := [_, _, _, _]) (by assumption) (by assumption) ?hnew (.head _) (.tail _ (.head _)) (.tail _ (.tail _ (.tail _ (.head _)))) rfl d1 d2 d3 (by omega) (fun h => absurd h (by rw [partsZ_f]; omega)) (by assumption) (by assumption) (by assumption) d8 d9 hO1 hO2 d10 dO hoff k0 k1 (by rfl) (by rfl) (by rfl) partsZ_f.symm (by rfl) (by rw [partsZ_f]) ?hm
          case hnew =>
            repeat (refine List.forall_mem_cons.mpr ⟨⟨ltN (by dsimp only; k_extra "LTO"), ltN (by dsimp only; k_extra "LTO"), ltN (by dsimp only; k_extra "LTO"), ltN (by dsimp only; k_extra "LTO"), ltN (by dsimp only; k_extra "LTO"), ltN (by dsimp only; k_extra "LTO"), allLt_mem (by kwd_rel)⟩, ?_⟩)
            exact fun _ h => nomatch h
          case hm => (intro y y1 y2 y3 y4 y5 y6 y7; simp only [if_neg y1, if_neg y2, if_neg y3, if_neg y4, if_neg y5, if_neg y6, if_neg y7])
    · intro u1 u2 u3 c t cells tv fv fl oA oF n₁ rt' kk n0 n1 n2 n3 g g2 ft h tk ft1 ft0 d1 d2 d3 d4 d5 d6 d7 d8 d9 d10 F2 N2
      refine law_prep N2 (by omega) d1 d2 d5 d6 d7 d8 (d9 _ hx2) (d9 _ hdx2) (by assumption) (by assumption) (by omega) (by omega) (by omega) (by omega) ?_
      intro rs NR S dag leaf hhp hrs hft
      obtain ⟨f1, fa, ta, tb, z1, z2⟩ := hft
      replace ham2 := hrs _ (d9 _ ham2)
      replace hst2 := hrs _ (d9 _ hst2)
      replace hds2 := hrs _ (d9 _ hds2)
      replace ha2 := hrs _ (d9 _ ha2)
      replace d4 : partsZ fl ≤ _ → DatIn rs (.ref t) _ := fun e => (d4 e).mono hrs
      change Hold _ at d4
      unfold mapL at F2
      clear N2
      k_sweep
      cases ft
      · have ft0 := ft0 rfl
        (try ((with_reducible show wpAny _ _ _ _ _ _); k_fold)); k_steps
        unfold Hold
        refine' take_term2 (rest := rs) (u := 0) ?B ?F ?X ?N ?T ?hk ?hd ?hu hst2 hds2 hhp S tsb_len flb_len z1 fN_pos fN_lt z2 (dis_of_nil (by assumption)) (by assumption) (off1 (by assumption)) dag leaf ?v0 ?v1 ?v2 ?v3 ?v4 (fun q hq => hq) ?xr ?xe
        case B => k_asm
        case F => k_asm
        case X => k_asm
        case N => k_asm
        case T => k_asm
        case hk => exact rfl
        case hd => ktr_room
        case hu => ktr_units
        case v0 => omega
        case v1 => omega
        case v2 => omega
        case v3 => omega
        case v4 => omega
        case xr =>
          intro h' tk' t rt oT' hp'
          exact absurd hp' (Int.not_le.mpr ft0)
        case xe =>
          intro h' tk' e d ta u b n4 g' nn1' nn2' oA' oF' tv' fv' n₁' hlt FG U R' S' D'
          obtain ⟨t1, t2, z1, z2, b2, f, v3, hb1, hb2, hfD⟩ := ball_parts D'
          refine caught_D (by k_asm) FG U R' (by k_asm) (by k_asm) ?_
          intro h'' oe vs tk F3 N3 o1 o2 o3 o4
          clear R' U FG S
          have hx5 := S'.h1
          have hd5 := S'.h2
          k_sweep
          (try ((with_reducible show wpAny _ _ _ _ _ _); k_fold)); k_steps
          unfold Hold
          rename_i kp1 ha1 tk1 n31 ti1 kp2 D3 hb3 l3 D2 hb4 l2 D1 hb5 F6 N6
          have da := form_keep kp2 (form_keep kp1 (hfD.mono (fun q hq => .tail _ (.tail _ hq))))
          refine dat_eq 3 N6 (da.mono (fun q hq => .tail _ (.tail _ (.tail _ hq)))) (Eq.mp (congrArg (DatIn _ _) form_D) (.tuple (n := 0) (vs := [_, _, _]) (.head _) (.cons (.str _ _) (.cons (.int _ _) (.cons (.tuple (n := 0) (vs := [_]) (.tail _ (.head _)) (.cons (.tuple (n := 0) (vs := [_, _]) (.tail _ (.tail _ (.head _))) (.cons (.str _ _) (.cons (.int _ _) .nil))) .nil)) .nil))))) kqd_form (by ktr_units) ?_
          (try ((with_reducible show wpAny _ _ _ _ _ _); k_fold)); k_steps
      · have ft1 := ft1 rfl
        have hfl := dag.len
        (try ((with_reducible show wpAny _ _ _ _ _ _); k_fold)); k_steps
        unfold Hold
        refine' take_term2 (rest := rs) (u := 0) ?B ?F ?X ?N ?T ?hk ?hd ?hu hst2 hds2 hhp S tsb_len flb_len z1 fN_pos fN_lt z2 (dis_of_nil (by assumption)) (by assumption) (off1 (by assumption)) dag leaf ?v0 ?v1 ?v2 ?v3 ?v4 (fun q hq => hq) ?xr ?xe
        case B => k_asm
        case F => k_asm
        case X => k_asm
        case N => k_asm
        case T => k_asm
        case hk => exact rfl
        case hd => ktr_room
        case hu => ktr_units
        case v0 => omega
        case v1 => omega
        case v2 => omega
        case v3 => omega
        case v4 => omega
        case xe =>
          intro h' tk' e d ta u b n4 g' nn1' nn2' oA' oF' tv' fv' n₁' hlt
          exact absurd ft1 (Int.not_le.mpr hlt)
        case xr =>
          intro h' tk' t2 rt2 oT' hp' F3 N3 hs3 D3
          k_sweep
          (try ((with_reducible show wpAny _ _ _ _ _ _); k_fold)); k_steps
          unfold Hold
          refine dat_eq (2 * fl.length + 1) (by assumption) (D3.mono (fun q hq => .tail _ hq)) ((d4 ft1).mono (fun q hq => .tail _ (hs3 q hq))) (kqd_term KO fl) (by ktr_units) ?_
          (try ((with_reducible show wpAny _ _ _ _ _ _); k_fold)); k_steps
end Mine
theorem PySem.Challenge.cw_rh0104_01_holds : PySem.Challenge.rw_rh0104_01.Holds := by
  exact Mine.law_holds
