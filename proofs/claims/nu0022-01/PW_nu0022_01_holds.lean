import PyProof.Rows.All
import Wide.All
import OpenK.AllK
import Wide.FinOn
import Lean
import PySem.Challenge.RW_nu0022_01
set_option compiler.extract_closed false
open PySem PySem.W PySem.Spec PySem.Calls PyProof.Rows
set_option Elab.async false
set_option linter.unusedVariables false
namespace Mine
section
set_option maxRecDepth 100000
namespace Run
-- the states between the pieces of the top's run; printed by wip/Gen.lean, the defs' parts by reference to the row
noncomputable def Sx (x : String) : PySem.Str := PySem.Str.ofString x
noncomputable def kEn (P : PySem.Params) (s : PySem.Str) (t : Nat) (v : PySem.Value) : PySem.DictEntry := ⟨PyData.keyHash P s, .str s t, v⟩
noncomputable def bdy : List PySem.Stmt := behindTheImports PySem.Challenge.pw_nu0022_01
noncomputable def nthS : List PySem.Stmt → Nat → PySem.Stmt
  | [], _ => .Pass ⟨0, 0, 0, 0⟩
  | s :: _, 0 => s
  | _ :: l, n + 1 => nthS l n
noncomputable def argsOf : PySem.Stmt → PySem.Arguments
  | .FunctionDef _ a _ _ _ _ _ _ _ _ => a
  | _ => default
noncomputable def bodyOf : PySem.Stmt → List PySem.Stmt
  | .FunctionDef _ _ b _ _ _ _ _ _ _ => b
  | .ClassDef _ _ _ b _ _ _ _ _ _ _ => b
  | _ => []
noncomputable def scopeOf : PySem.Stmt → PySem.Scope
  | .FunctionDef _ _ _ _ _ _ s _ _ _ => s
  | _ => default
noncomputable def pAr (i : Nat) : PySem.Arguments := argsOf (nthS bdy i)
noncomputable def pBo (i : Nat) : List PySem.Stmt := bodyOf (nthS bdy i)
noncomputable def pSc (i : Nat) : PySem.Scope := scopeOf (nthS bdy i)
noncomputable def mAr (i j : Nat) : PySem.Arguments := argsOf (nthS (pBo i) j)
noncomputable def mBo (i j : Nat) : List PySem.Stmt := bodyOf (nthS (pBo i) j)
noncomputable def mSc (i j : Nat) : PySem.Scope := scopeOf (nthS (pBo i) j)
noncomputable abbrev N (o : PySem.Obj) (l r : BT) : BT := .node o l r
noncomputable abbrev L : BT := .nil
noncomputable def life0 : PySem.Life := PySem.Life.mk [] [] [] 0 [] [] Bool.false #[] [] 0 Bool.false Bool.false Bool.false 0 [2000, 10, 10] Bool.false 0 Bool.true [] [] 0 Bool.false
noncomputable def drawn0 : PySem.Drawn := PySem.Drawn.mk 0 0 0 0
noncomputable def ann0 : Option PySem.Value := Option.some (PySem.Value.ref 6)
noncomputable def env0 : PySem.Env := { scope := (PySem.Challenge.pw_nu0022_01).main.scope, locals := PySem.mainNs, globals := PySem.mainNs, cells := [], code := PySem.Value.ref 13, frame := some 14 }
noncomputable abbrev cd0 : PySem.Code := .body bdy env0
noncomputable abbrev fr0 : List PySem.Frame := [topFrame (PySem.Pos.mk 0 0 0 0)]
noncomputable abbrev st (h : PySem.Heap) (k : Nat) (os : PySem.OsState) : PySem.Shared := ⟨h, ⟨[]⟩, drawn0, k, os⟩
noncomputable abbrev stT (t : BT) (n k : Nat) (os : PySem.OsState) : SharedT := ⟨t, n, life0, ⟨[]⟩, drawn0, k, os⟩
noncomputable def ob0 (P : PySem.Params) : PySem.Obj := PySem.Obj.mk (PySem.Value.type "tuple") Option.none (PySem.Data.seq #[]) #[]
noncomputable def ob1 (P : PySem.Params) : PySem.Obj := PySem.Obj.mk PySem.Value.none Option.none (PySem.Data.fields #[]) #[]
noncomputable def ob2 (P : PySem.Params) : PySem.Obj := PySem.Obj.mk (PySem.Value.type "code") Option.none (PySem.Data.fields #[PySem.Value.str (Sx "<module>") 182, PySem.Value.str (Sx "<module>") 183, PySem.Value.str (Sx "/claim/cut.py") 184, PySem.Value.int 1 0, PySem.Value.int 0 0, PySem.Value.int 0 0, PySem.Value.int 0 0, PySem.Value.int 0 0, PySem.Value.ref 11, PySem.Value.bool Bool.false, PySem.Value.int 181 0, PySem.Value.ref 12, PySem.Value.none, PySem.Value.none, PySem.Value.none, PySem.Value.none, PySem.Value.int 185 0, PySem.Value.int 1 0, PySem.Value.str (Sx "/claim/cut.py") 186]) #[]
noncomputable def ob3 (P : PySem.Params) : PySem.Obj := PySem.Obj.mk (PySem.Value.type "frame") Option.none PySem.Data.plain #[Option.some (PySem.Value.ref 13), Option.some (PySem.Value.ref 3), Option.some (PySem.Value.ref 3), Option.none, Option.some (PySem.Value.str (Sx "__main__") 164), Option.none, Option.some (PySem.Value.ref 0)]
noncomputable def hA (P : PySem.Params) : PySem.Heap := ⟨⟨[PySem.W.boot_o_0 P, PySem.W.boot_o_1 P, PySem.W.boot_o_2 P, PySem.W.boot_o_3 P, PySem.W.boot_o_4 P, PySem.W.boot_o_5 P, PySem.W.boot_o_6 P, PySem.W.boot_o_7 P, PySem.W.boot_o_8 P, PySem.W.boot_o_9 P, PySem.W.boot_o_10 P, ob0 P, ob1 P, ob2 P, ob3 P]⟩, life0⟩
noncomputable abbrev psA : PySem.Pos := PySem.Pos.mk 0 0 0 0
noncomputable abbrev tkA : Nat := 187
noncomputable def t0 (P : PySem.Params) : BT := (N (PySem.W.boot_o_0 P) (N (PySem.W.boot_o_1 P) (N (PySem.W.boot_o_3 P) (N (PySem.W.boot_o_7 P) L L) (N (ob0 P) L L)) (N (PySem.W.boot_o_5 P) (N (PySem.W.boot_o_9 P) L L) (N (ob2 P) L L))) (N (PySem.W.boot_o_2 P) (N (PySem.W.boot_o_4 P) (N (PySem.W.boot_o_8 P) L L) (N (ob1 P) L L)) (N (PySem.W.boot_o_6 P) (N (PySem.W.boot_o_10 P) L L) (N (ob3 P) L L))))
noncomputable abbrev nt0 : Nat := 15
noncomputable abbrev ps0 : PySem.Pos := PySem.Pos.mk 0 0 0 0
noncomputable abbrev tk0 : Nat := 187
noncomputable def ob4 (P : PySem.Params) : PySem.Obj := PySem.Obj.mk PySem.Value.none Option.none (PySem.Data.dict #[kEn P (Sx "type.__subclasses__.Exception.0") 221 (PySem.Value.int 38 0), kEn P (Sx "type.__subclasses__.Exception.n") 222 (PySem.Value.int 1 0)] 2) #[]
noncomputable def ob5 (P : PySem.Params) : PySem.Obj := PySem.Obj.mk (PySem.Value.type "dict") Option.none (PySem.Data.dict #[kEn P (Sx "__name__") 165 (PySem.Value.str (Sx "outlinemill.errors") 194), kEn P (Sx "__doc__") 166 PySem.Value.none, kEn P (Sx "__package__") 167 PySem.Value.none, kEn P (Sx "__loader__") 168 (PySem.Value.builtin "__main__.__loader__#opaque"), kEn P (Sx "__spec__") 169 PySem.Value.none, kEn P (Sx "__annotations__") 170 (PySem.Value.ref 6), kEn P (Sx "__builtins__") 171 (PySem.Value.ref 4), kEn P (Sx "__file__") 173 (PySem.Value.str (Sx "/claim/cut.py") 172), kEn P (Sx "__cached__") 174 PySem.Value.none, kEn P (Sx "_wall") 193 (PySem.Value.ref 21), kEn P (Sx "MillError") 224 (PySem.Value.ref 38), kEn P (Sx "NumberFault") 240 (PySem.Value.ref 51)] 12) #[]
noncomputable def ob6 (P : PySem.Params) : PySem.Obj := PySem.Obj.mk PySem.Value.none Option.none (PySem.Data.fields #[PySem.Value.int 1 0, PySem.Value.int 0 0, PySem.Value.ref 20, PySem.Value.int 5 0, PySem.Value.int 0 0, PySem.Value.ref 27, PySem.Value.int 9 0, PySem.Value.int 0 0, PySem.Value.ref 47]) #[]
noncomputable def ob7 (P : PySem.Params) : PySem.Obj := PySem.Obj.mk (PySem.Value.type "tuple") Option.none (PySem.Data.seq #[]) #[]
noncomputable def ob8 (P : PySem.Params) : PySem.Obj := PySem.Obj.mk PySem.Value.none Option.none (PySem.Data.fields #[]) #[]
noncomputable def ob9 (P : PySem.Params) : PySem.Obj := PySem.Obj.mk (PySem.Value.type "tuple") Option.none (PySem.Data.seq #[PySem.Value.str (Sx "k") 190]) #[]
noncomputable def ob10 (P : PySem.Params) : PySem.Obj := PySem.Obj.mk (PySem.Value.type "tuple") Option.none (PySem.Data.seq #[]) #[]
noncomputable def ob11 (P : PySem.Params) : PySem.Obj := PySem.Obj.mk PySem.Value.none Option.none (PySem.Data.func (PySem.FuncData.mk (Sx "_wall") (Sx "_wall") (pAr 0) (PySem.FuncBody.stmts (pBo 0)) (pSc 0) 0 [] PySem.Value.none PySem.Value.none PySem.Value.none PySem.Value.none Option.none PySem.Value.none PySem.Value.none 0)) #[]
noncomputable def ob12 (P : PySem.Params) : PySem.Obj := PySem.Obj.mk (PySem.Value.type "code") Option.none (PySem.Data.fields #[PySem.Value.str (Sx "_wall") 187, PySem.Value.str (Sx "_wall") 188, PySem.Value.str (Sx "/claim/cut.py") 189, PySem.Value.int 1 0, PySem.Value.int 1 0, PySem.Value.int 0 0, PySem.Value.int 0 0, PySem.Value.int 3 0, PySem.Value.ref 15, PySem.Value.bool Bool.true, PySem.Value.int 181 0, PySem.Value.ref 16, PySem.Value.none, PySem.Value.ref 17, PySem.Value.ref 18, PySem.Value.ref 19, PySem.Value.int 191 0, PySem.Value.int 1 0, PySem.Value.str (Sx "/claim/cut.py") 192]) #[]
noncomputable def ob13 (P : PySem.Params) : PySem.Obj := PySem.Obj.mk (PySem.Value.type "function") Option.none (PySem.Data.func (PySem.FuncData.mk (Sx "_wall") (Sx "_wall") (pAr 0) (PySem.FuncBody.stmts (pBo 0)) (pSc 0) 3 [] PySem.Value.none PySem.Value.none PySem.Value.none (PySem.Value.str (Sx "__main__") 164) Option.none (PySem.Value.ref 20) PySem.Value.none 0)) #[]
noncomputable def ob14 (P : PySem.Params) : PySem.Obj := PySem.Obj.mk (PySem.Value.type "tuple") Option.none (PySem.Data.seq #[PySem.Value.type "Exception"]) #[]
noncomputable def ob15 (P : PySem.Params) : PySem.Obj := PySem.Obj.mk (PySem.Value.type "builtin_function_or_method") Option.none (PySem.Data.fields #[PySem.Value.builtin "type.__prepare__", PySem.Value.type "type"]) #[]
noncomputable def ob16 (P : PySem.Params) : PySem.Obj := PySem.Obj.mk (PySem.Value.type "dict") Option.none (PySem.Data.dict #[kEn P (Sx "__module__") 203 (PySem.Value.str (Sx "outlinemill.errors") 194), kEn P (Sx "__qualname__") 205 (PySem.Value.str (Sx "MillError") 204), kEn P (Sx "__firstlineno__") 207 (PySem.Value.int 5 206), kEn P (Sx "__init__") 215 (PySem.Value.ref 35), kEn P (Sx "__static_attributes__") 217 (PySem.Value.ref 36)] 5) #[]
noncomputable def ob17 (P : PySem.Params) : PySem.Obj := PySem.Obj.mk (PySem.Value.type "tuple") Option.none (PySem.Data.seq #[]) #[]
noncomputable def ob18 (P : PySem.Params) : PySem.Obj := PySem.Obj.mk PySem.Value.none Option.none (PySem.Data.fields #[PySem.Value.int 7 0, PySem.Value.int 4 0, PySem.Value.ref 34]) #[]
noncomputable def ob19 (P : PySem.Params) : PySem.Obj := PySem.Obj.mk (PySem.Value.type "code") Option.none (PySem.Data.fields #[PySem.Value.str (Sx "MillError") 198, PySem.Value.str (Sx "MillError") 199, PySem.Value.str (Sx "/claim/cut.py") 200, PySem.Value.int 5 0, PySem.Value.int 0 0, PySem.Value.int 0 0, PySem.Value.int 0 0, PySem.Value.int 0 0, PySem.Value.ref 25, PySem.Value.bool Bool.false, PySem.Value.int 181 0, PySem.Value.ref 26, PySem.Value.none, PySem.Value.none, PySem.Value.none, PySem.Value.none, PySem.Value.int 201 0, PySem.Value.int 5 0, PySem.Value.str (Sx "/claim/cut.py") 202]) #[]
noncomputable def ob20 (P : PySem.Params) : PySem.Obj := PySem.Obj.mk (PySem.Value.type "frame") Option.none PySem.Data.plain #[Option.some (PySem.Value.ref 27), Option.some (PySem.Value.ref 3), Option.some (PySem.Value.ref 24), Option.none, Option.some (PySem.Value.str (Sx "outlinemill.errors") 194), Option.none, Option.some (PySem.Value.ref 0)]
noncomputable def ob21 (P : PySem.Params) : PySem.Obj := PySem.Obj.mk (PySem.Value.type "tuple") Option.none (PySem.Data.seq #[]) #[]
noncomputable def ob22 (P : PySem.Params) : PySem.Obj := PySem.Obj.mk PySem.Value.none Option.none (PySem.Data.fields #[]) #[]
noncomputable def ob23 (P : PySem.Params) : PySem.Obj := PySem.Obj.mk (PySem.Value.type "tuple") Option.none (PySem.Data.seq #[PySem.Value.str (Sx "self") 211, PySem.Value.str (Sx "message") 212]) #[]
noncomputable def ob24 (P : PySem.Params) : PySem.Obj := PySem.Obj.mk (PySem.Value.type "tuple") Option.none (PySem.Data.seq #[]) #[]
noncomputable def ob25 (P : PySem.Params) : PySem.Obj := PySem.Obj.mk PySem.Value.none Option.none (PySem.Data.func (PySem.FuncData.mk (Sx "__init__") (Sx "MillError.__init__") (mAr 2 0) (PySem.FuncBody.stmts (mBo 2 0)) (mSc 2 0) 0 [] PySem.Value.none PySem.Value.none PySem.Value.none PySem.Value.none Option.none PySem.Value.none PySem.Value.none 0)) #[]
noncomputable def ob26 (P : PySem.Params) : PySem.Obj := PySem.Obj.mk (PySem.Value.type "code") Option.none (PySem.Data.fields #[PySem.Value.str (Sx "__init__") 208, PySem.Value.str (Sx "MillError.__init__") 209, PySem.Value.str (Sx "/claim/cut.py") 210, PySem.Value.int 7 0, PySem.Value.int 2 0, PySem.Value.int 0 0, PySem.Value.int 0 0, PySem.Value.int 3 0, PySem.Value.ref 29, PySem.Value.bool Bool.true, PySem.Value.int 181 0, PySem.Value.ref 30, PySem.Value.none, PySem.Value.ref 31, PySem.Value.ref 32, PySem.Value.ref 33, PySem.Value.int 213 0, PySem.Value.int 7 0, PySem.Value.str (Sx "/claim/cut.py") 214]) #[]
noncomputable def ob27 (P : PySem.Params) : PySem.Obj := PySem.Obj.mk (PySem.Value.type "function") Option.none (PySem.Data.func (PySem.FuncData.mk (Sx "__init__") (Sx "MillError.__init__") (mAr 2 0) (PySem.FuncBody.stmts (mBo 2 0)) (mSc 2 0) 3 [] PySem.Value.none PySem.Value.none PySem.Value.none (PySem.Value.str (Sx "outlinemill.errors") 194) Option.none (PySem.Value.ref 34) PySem.Value.none 0)) #[]
noncomputable def ob28 (P : PySem.Params) : PySem.Obj := PySem.Obj.mk (PySem.Value.type "tuple") Option.none (PySem.Data.seq #[PySem.Value.str (Sx "message") 216]) #[]
noncomputable def ob29 (P : PySem.Params) : PySem.Obj := PySem.Obj.mk (PySem.Value.type "dict") Option.none (PySem.Data.dict #[kEn P (Sx "__module__") 203 (PySem.Value.str (Sx "outlinemill.errors") 194), kEn P (Sx "__firstlineno__") 207 (PySem.Value.int 5 206), kEn P (Sx "__init__") 215 (PySem.Value.ref 35), kEn P (Sx "__static_attributes__") 217 (PySem.Value.ref 36), kEn P (Sx "__weakref__") 219 (PySem.Value.ref 39), kEn P (Sx "__doc__") 220 PySem.Value.none] 3) #[]
noncomputable def ob30 (P : PySem.Params) : PySem.Obj := PySem.Obj.mk (PySem.Value.type "type") Option.none (PySem.Data.cls (PySem.ClassData.mk (Sx "MillError") [PySem.Value.type "Exception"] [PySem.Value.ref 38, PySem.Value.type "Exception", PySem.Value.type "BaseException", PySem.Value.type "object"] 37 (Sx "MillError") Bool.true [] [PySem.Value.ref 51] Bool.false Option.none Bool.false)) #[Option.some (PySem.Value.ref 22), Option.none, Option.some (PySem.Value.str (Sx "MillError") 196), Option.some (PySem.Value.str (Sx "MillError") 204), Option.some (PySem.Value.builtin "Exception.__new__"), Option.some (PySem.Value.bool Bool.true)]
noncomputable def ob31 (P : PySem.Params) : PySem.Obj := PySem.Obj.mk (PySem.Value.type "getset_descriptor") Option.none (PySem.Data.fields #[PySem.Value.str (Sx "__weakref__") 218, PySem.Value.ref 38, PySem.Value.builtin "ExceptionGroup.__weakref__", PySem.Value.none]) #[]
noncomputable def ob32 (P : PySem.Params) : PySem.Obj := PySem.Obj.mk (PySem.Value.type "super") Option.none (PySem.Data.fields #[PySem.Value.ref 38, PySem.Value.ref 38, PySem.Value.ref 38]) #[]
noncomputable def ob33 (P : PySem.Params) : PySem.Obj := PySem.Obj.mk (PySem.Value.type "builtin_function_or_method") Option.none (PySem.Data.fields #[PySem.Value.builtin "object.__init_subclass__", PySem.Value.ref 38]) #[]
noncomputable def ob34 (P : PySem.Params) : PySem.Obj := PySem.Obj.mk (PySem.Value.type "tuple") Option.none (PySem.Data.seq #[PySem.Value.ref 38]) #[]
noncomputable def ob35 (P : PySem.Params) : PySem.Obj := PySem.Obj.mk (PySem.Value.type "builtin_function_or_method") Option.none (PySem.Data.fields #[PySem.Value.builtin "type.__prepare__", PySem.Value.type "type"]) #[]
noncomputable def ob36 (P : PySem.Params) : PySem.Obj := PySem.Obj.mk (PySem.Value.type "dict") Option.none (PySem.Data.dict #[kEn P (Sx "__module__") 232 (PySem.Value.str (Sx "outlinemill.errors") 194), kEn P (Sx "__qualname__") 234 (PySem.Value.str (Sx "NumberFault") 233), kEn P (Sx "__firstlineno__") 236 (PySem.Value.int 9 235), kEn P (Sx "__static_attributes__") 237 (PySem.Value.ref 49)] 4) #[]
noncomputable def ob37 (P : PySem.Params) : PySem.Obj := PySem.Obj.mk (PySem.Value.type "tuple") Option.none (PySem.Data.seq #[]) #[]
noncomputable def ob38 (P : PySem.Params) : PySem.Obj := PySem.Obj.mk PySem.Value.none Option.none (PySem.Data.fields #[]) #[]
noncomputable def ob39 (P : PySem.Params) : PySem.Obj := PySem.Obj.mk (PySem.Value.type "code") Option.none (PySem.Data.fields #[PySem.Value.str (Sx "NumberFault") 227, PySem.Value.str (Sx "NumberFault") 228, PySem.Value.str (Sx "/claim/cut.py") 229, PySem.Value.int 9 0, PySem.Value.int 0 0, PySem.Value.int 0 0, PySem.Value.int 0 0, PySem.Value.int 0 0, PySem.Value.ref 45, PySem.Value.bool Bool.false, PySem.Value.int 181 0, PySem.Value.ref 46, PySem.Value.none, PySem.Value.none, PySem.Value.none, PySem.Value.none, PySem.Value.int 230 0, PySem.Value.int 9 0, PySem.Value.str (Sx "/claim/cut.py") 231]) #[]
noncomputable def ob40 (P : PySem.Params) : PySem.Obj := PySem.Obj.mk (PySem.Value.type "frame") Option.none PySem.Data.plain #[Option.some (PySem.Value.ref 47), Option.some (PySem.Value.ref 3), Option.some (PySem.Value.ref 44), Option.none, Option.some (PySem.Value.str (Sx "outlinemill.errors") 194), Option.none, Option.some (PySem.Value.ref 0)]
noncomputable def ob41 (P : PySem.Params) : PySem.Obj := PySem.Obj.mk (PySem.Value.type "tuple") Option.none (PySem.Data.seq #[]) #[]
noncomputable def ob42 (P : PySem.Params) : PySem.Obj := PySem.Obj.mk (PySem.Value.type "dict") Option.none (PySem.Data.dict #[kEn P (Sx "__module__") 232 (PySem.Value.str (Sx "outlinemill.errors") 194), kEn P (Sx "__firstlineno__") 236 (PySem.Value.int 9 235), kEn P (Sx "__static_attributes__") 237 (PySem.Value.ref 49), kEn P (Sx "__doc__") 238 PySem.Value.none] 2) #[]
noncomputable def ob43 (P : PySem.Params) : PySem.Obj := PySem.Obj.mk (PySem.Value.type "type") Option.none (PySem.Data.cls (PySem.ClassData.mk (Sx "NumberFault") [PySem.Value.ref 38] [PySem.Value.ref 51, PySem.Value.ref 38, PySem.Value.type "Exception", PySem.Value.type "BaseException", PySem.Value.type "object"] 50 (Sx "NumberFault") Bool.true [] [] Bool.false Option.none Bool.false)) #[Option.some (PySem.Value.ref 42), Option.none, Option.some (PySem.Value.str (Sx "NumberFault") 225), Option.some (PySem.Value.str (Sx "NumberFault") 233), Option.some (PySem.Value.builtin "Exception.__new__"), Option.some (PySem.Value.bool Bool.true)]
noncomputable def ob44 (P : PySem.Params) : PySem.Obj := PySem.Obj.mk (PySem.Value.type "super") Option.none (PySem.Data.fields #[PySem.Value.ref 51, PySem.Value.ref 51, PySem.Value.ref 51]) #[]
noncomputable def ob45 (P : PySem.Params) : PySem.Obj := PySem.Obj.mk (PySem.Value.type "builtin_function_or_method") Option.none (PySem.Data.fields #[PySem.Value.builtin "object.__init_subclass__", PySem.Value.ref 51]) #[]
noncomputable def t1 (P : PySem.Params) : BT := (N (PySem.W.boot_o_0 P) (N (PySem.W.boot_o_1 P) (N (ob5 P) (N (PySem.W.boot_o_7 P) (N (ob7 P) (N (ob23 P) L L) (N (ob39 P) L L)) (N (ob15 P) (N (ob31 P) L L) L)) (N (ob0 P) (N (ob11 P) (N (ob27 P) L L) (N (ob43 P) L L)) (N (ob19 P) (N (ob35 P) L L) L))) (N (PySem.W.boot_o_5 P) (N (PySem.W.boot_o_9 P) (N (ob9 P) (N (ob25 P) L L) (N (ob41 P) L L)) (N (ob17 P) (N (ob33 P) L L) L)) (N (ob2 P) (N (ob13 P) (N (ob29 P) L L) (N (ob45 P) L L)) (N (ob21 P) (N (ob37 P) L L) L)))) (N (ob4 P) (N (PySem.W.boot_o_4 P) (N (PySem.W.boot_o_8 P) (N (ob8 P) (N (ob24 P) L L) (N (ob40 P) L L)) (N (ob16 P) (N (ob32 P) L L) L)) (N (ob6 P) (N (ob12 P) (N (ob28 P) L L) (N (ob44 P) L L)) (N (ob20 P) (N (ob36 P) L L) L))) (N (PySem.W.boot_o_6 P) (N (PySem.W.boot_o_10 P) (N (ob10 P) (N (ob26 P) L L) (N (ob42 P) L L)) (N (ob18 P) (N (ob34 P) L L) L)) (N (ob3 P) (N (ob14 P) (N (ob30 P) L L) L) (N (ob22 P) (N (ob38 P) L L) L)))))
noncomputable abbrev nt1 : Nat := 54
noncomputable abbrev ps1 : PySem.Pos := PySem.Pos.mk 9 0 10 8
noncomputable abbrev tk1 : Nat := 241
noncomputable def sts1 : List PySem.Stmt := (bdy.drop 0).take 4 -- 479 steps
noncomputable def ob46 (P : PySem.Params) : PySem.Obj := PySem.Obj.mk (PySem.Value.type "dict") Option.none (PySem.Data.dict #[kEn P (Sx "__name__") 165 (PySem.Value.str (Sx "outlinemill.exact") 273), kEn P (Sx "__doc__") 166 PySem.Value.none, kEn P (Sx "__package__") 167 PySem.Value.none, kEn P (Sx "__loader__") 168 (PySem.Value.builtin "__main__.__loader__#opaque"), kEn P (Sx "__spec__") 169 PySem.Value.none, kEn P (Sx "__annotations__") 170 (PySem.Value.ref 6), kEn P (Sx "__builtins__") 171 (PySem.Value.ref 4), kEn P (Sx "__file__") 173 (PySem.Value.str (Sx "/claim/cut.py") 172), kEn P (Sx "__cached__") 174 PySem.Value.none, kEn P (Sx "_wall") 193 (PySem.Value.ref 21), kEn P (Sx "MillError") 224 (PySem.Value.ref 38), kEn P (Sx "NumberFault") 240 (PySem.Value.ref 51), kEn P (Sx "MatrixFault") 256 (PySem.Value.ref 63), kEn P (Sx "SizeFault") 272 (PySem.Value.ref 75), kEn P (Sx "ZERO") 277 (PySem.Value.ref 78), kEn P (Sx "ONE") 280 (PySem.Value.ref 79)] 16) #[]
noncomputable def ob47 (P : PySem.Params) : PySem.Obj := PySem.Obj.mk PySem.Value.none Option.none (PySem.Data.fields #[PySem.Value.int 1 0, PySem.Value.int 0 0, PySem.Value.ref 20, PySem.Value.int 5 0, PySem.Value.int 0 0, PySem.Value.ref 27, PySem.Value.int 9 0, PySem.Value.int 0 0, PySem.Value.ref 47, PySem.Value.int 11 0, PySem.Value.int 0 0, PySem.Value.ref 59, PySem.Value.int 13 0, PySem.Value.int 0 0, PySem.Value.ref 71]) #[]
noncomputable def ob48 (P : PySem.Params) : PySem.Obj := PySem.Obj.mk (PySem.Value.type "type") Option.none (PySem.Data.cls (PySem.ClassData.mk (Sx "MillError") [PySem.Value.type "Exception"] [PySem.Value.ref 38, PySem.Value.type "Exception", PySem.Value.type "BaseException", PySem.Value.type "object"] 37 (Sx "MillError") Bool.true [] [PySem.Value.ref 51, PySem.Value.ref 63, PySem.Value.ref 75] Bool.false Option.none Bool.false)) #[Option.some (PySem.Value.ref 22), Option.none, Option.some (PySem.Value.str (Sx "MillError") 196), Option.some (PySem.Value.str (Sx "MillError") 204), Option.some (PySem.Value.builtin "Exception.__new__"), Option.some (PySem.Value.bool Bool.true)]
noncomputable def ob49 (P : PySem.Params) : PySem.Obj := PySem.Obj.mk (PySem.Value.type "tuple") Option.none (PySem.Data.seq #[PySem.Value.ref 38]) #[]
noncomputable def ob50 (P : PySem.Params) : PySem.Obj := PySem.Obj.mk (PySem.Value.type "builtin_function_or_method") Option.none (PySem.Data.fields #[PySem.Value.builtin "type.__prepare__", PySem.Value.type "type"]) #[]
noncomputable def ob51 (P : PySem.Params) : PySem.Obj := PySem.Obj.mk (PySem.Value.type "dict") Option.none (PySem.Data.dict #[kEn P (Sx "__module__") 248 (PySem.Value.str (Sx "outlinemill.errors") 194), kEn P (Sx "__qualname__") 250 (PySem.Value.str (Sx "MatrixFault") 249), kEn P (Sx "__firstlineno__") 252 (PySem.Value.int 11 251), kEn P (Sx "__static_attributes__") 253 (PySem.Value.ref 61)] 4) #[]
noncomputable def ob52 (P : PySem.Params) : PySem.Obj := PySem.Obj.mk (PySem.Value.type "tuple") Option.none (PySem.Data.seq #[]) #[]
noncomputable def ob53 (P : PySem.Params) : PySem.Obj := PySem.Obj.mk PySem.Value.none Option.none (PySem.Data.fields #[]) #[]
noncomputable def ob54 (P : PySem.Params) : PySem.Obj := PySem.Obj.mk (PySem.Value.type "code") Option.none (PySem.Data.fields #[PySem.Value.str (Sx "MatrixFault") 243, PySem.Value.str (Sx "MatrixFault") 244, PySem.Value.str (Sx "/claim/cut.py") 245, PySem.Value.int 11 0, PySem.Value.int 0 0, PySem.Value.int 0 0, PySem.Value.int 0 0, PySem.Value.int 0 0, PySem.Value.ref 57, PySem.Value.bool Bool.false, PySem.Value.int 181 0, PySem.Value.ref 58, PySem.Value.none, PySem.Value.none, PySem.Value.none, PySem.Value.none, PySem.Value.int 246 0, PySem.Value.int 11 0, PySem.Value.str (Sx "/claim/cut.py") 247]) #[]
noncomputable def ob55 (P : PySem.Params) : PySem.Obj := PySem.Obj.mk (PySem.Value.type "frame") Option.none PySem.Data.plain #[Option.some (PySem.Value.ref 59), Option.some (PySem.Value.ref 3), Option.some (PySem.Value.ref 56), Option.none, Option.some (PySem.Value.str (Sx "outlinemill.errors") 194), Option.none, Option.some (PySem.Value.ref 0)]
noncomputable def ob56 (P : PySem.Params) : PySem.Obj := PySem.Obj.mk (PySem.Value.type "tuple") Option.none (PySem.Data.seq #[]) #[]
noncomputable def ob57 (P : PySem.Params) : PySem.Obj := PySem.Obj.mk (PySem.Value.type "dict") Option.none (PySem.Data.dict #[kEn P (Sx "__module__") 248 (PySem.Value.str (Sx "outlinemill.errors") 194), kEn P (Sx "__firstlineno__") 252 (PySem.Value.int 11 251), kEn P (Sx "__static_attributes__") 253 (PySem.Value.ref 61), kEn P (Sx "__doc__") 254 PySem.Value.none] 2) #[]
noncomputable def ob58 (P : PySem.Params) : PySem.Obj := PySem.Obj.mk (PySem.Value.type "type") Option.none (PySem.Data.cls (PySem.ClassData.mk (Sx "MatrixFault") [PySem.Value.ref 38] [PySem.Value.ref 63, PySem.Value.ref 38, PySem.Value.type "Exception", PySem.Value.type "BaseException", PySem.Value.type "object"] 62 (Sx "MatrixFault") Bool.true [] [] Bool.false Option.none Bool.false)) #[Option.some (PySem.Value.ref 54), Option.none, Option.some (PySem.Value.str (Sx "MatrixFault") 241), Option.some (PySem.Value.str (Sx "MatrixFault") 249), Option.some (PySem.Value.builtin "Exception.__new__"), Option.some (PySem.Value.bool Bool.true)]
noncomputable def ob59 (P : PySem.Params) : PySem.Obj := PySem.Obj.mk (PySem.Value.type "super") Option.none (PySem.Data.fields #[PySem.Value.ref 63, PySem.Value.ref 63, PySem.Value.ref 63]) #[]
noncomputable def ob60 (P : PySem.Params) : PySem.Obj := PySem.Obj.mk (PySem.Value.type "builtin_function_or_method") Option.none (PySem.Data.fields #[PySem.Value.builtin "object.__init_subclass__", PySem.Value.ref 63]) #[]
noncomputable def ob61 (P : PySem.Params) : PySem.Obj := PySem.Obj.mk (PySem.Value.type "tuple") Option.none (PySem.Data.seq #[PySem.Value.ref 38]) #[]
noncomputable def ob62 (P : PySem.Params) : PySem.Obj := PySem.Obj.mk (PySem.Value.type "builtin_function_or_method") Option.none (PySem.Data.fields #[PySem.Value.builtin "type.__prepare__", PySem.Value.type "type"]) #[]
noncomputable def ob63 (P : PySem.Params) : PySem.Obj := PySem.Obj.mk (PySem.Value.type "dict") Option.none (PySem.Data.dict #[kEn P (Sx "__module__") 264 (PySem.Value.str (Sx "outlinemill.errors") 194), kEn P (Sx "__qualname__") 266 (PySem.Value.str (Sx "SizeFault") 265), kEn P (Sx "__firstlineno__") 268 (PySem.Value.int 13 267), kEn P (Sx "__static_attributes__") 269 (PySem.Value.ref 73)] 4) #[]
noncomputable def ob64 (P : PySem.Params) : PySem.Obj := PySem.Obj.mk (PySem.Value.type "tuple") Option.none (PySem.Data.seq #[]) #[]
noncomputable def ob65 (P : PySem.Params) : PySem.Obj := PySem.Obj.mk PySem.Value.none Option.none (PySem.Data.fields #[]) #[]
noncomputable def ob66 (P : PySem.Params) : PySem.Obj := PySem.Obj.mk (PySem.Value.type "code") Option.none (PySem.Data.fields #[PySem.Value.str (Sx "SizeFault") 259, PySem.Value.str (Sx "SizeFault") 260, PySem.Value.str (Sx "/claim/cut.py") 261, PySem.Value.int 13 0, PySem.Value.int 0 0, PySem.Value.int 0 0, PySem.Value.int 0 0, PySem.Value.int 0 0, PySem.Value.ref 69, PySem.Value.bool Bool.false, PySem.Value.int 181 0, PySem.Value.ref 70, PySem.Value.none, PySem.Value.none, PySem.Value.none, PySem.Value.none, PySem.Value.int 262 0, PySem.Value.int 13 0, PySem.Value.str (Sx "/claim/cut.py") 263]) #[]
noncomputable def ob67 (P : PySem.Params) : PySem.Obj := PySem.Obj.mk (PySem.Value.type "frame") Option.none PySem.Data.plain #[Option.some (PySem.Value.ref 71), Option.some (PySem.Value.ref 3), Option.some (PySem.Value.ref 68), Option.none, Option.some (PySem.Value.str (Sx "outlinemill.errors") 194), Option.none, Option.some (PySem.Value.ref 0)]
noncomputable def ob68 (P : PySem.Params) : PySem.Obj := PySem.Obj.mk (PySem.Value.type "tuple") Option.none (PySem.Data.seq #[]) #[]
noncomputable def ob69 (P : PySem.Params) : PySem.Obj := PySem.Obj.mk (PySem.Value.type "dict") Option.none (PySem.Data.dict #[kEn P (Sx "__module__") 264 (PySem.Value.str (Sx "outlinemill.errors") 194), kEn P (Sx "__firstlineno__") 268 (PySem.Value.int 13 267), kEn P (Sx "__static_attributes__") 269 (PySem.Value.ref 73), kEn P (Sx "__doc__") 270 PySem.Value.none] 2) #[]
noncomputable def ob70 (P : PySem.Params) : PySem.Obj := PySem.Obj.mk (PySem.Value.type "type") Option.none (PySem.Data.cls (PySem.ClassData.mk (Sx "SizeFault") [PySem.Value.ref 38] [PySem.Value.ref 75, PySem.Value.ref 38, PySem.Value.type "Exception", PySem.Value.type "BaseException", PySem.Value.type "object"] 74 (Sx "SizeFault") Bool.true [] [] Bool.false Option.none Bool.false)) #[Option.some (PySem.Value.ref 66), Option.none, Option.some (PySem.Value.str (Sx "SizeFault") 257), Option.some (PySem.Value.str (Sx "SizeFault") 265), Option.some (PySem.Value.builtin "Exception.__new__"), Option.some (PySem.Value.bool Bool.true)]
noncomputable def ob71 (P : PySem.Params) : PySem.Obj := PySem.Obj.mk (PySem.Value.type "super") Option.none (PySem.Data.fields #[PySem.Value.ref 75, PySem.Value.ref 75, PySem.Value.ref 75]) #[]
noncomputable def ob72 (P : PySem.Params) : PySem.Obj := PySem.Obj.mk (PySem.Value.type "builtin_function_or_method") Option.none (PySem.Data.fields #[PySem.Value.builtin "object.__init_subclass__", PySem.Value.ref 75]) #[]
noncomputable def ob73 (P : PySem.Params) : PySem.Obj := PySem.Obj.mk (PySem.Value.type "tuple") Option.none (PySem.Data.seq #[PySem.Value.int 0 275, PySem.Value.int 1 276]) #[]
noncomputable def ob74 (P : PySem.Params) : PySem.Obj := PySem.Obj.mk (PySem.Value.type "tuple") Option.none (PySem.Data.seq #[PySem.Value.int 1 278, PySem.Value.int 1 279]) #[]
noncomputable def t2 (P : PySem.Params) : BT := (N (PySem.W.boot_o_0 P) (N (PySem.W.boot_o_1 P) (N (ob46 P) (N (PySem.W.boot_o_7 P) (N (ob7 P) (N (ob23 P) (N (ob58 P) L L) L) (N (ob39 P) (N (ob74 P) L L) L)) (N (ob15 P) (N (ob31 P) (N (ob66 P) L L) L) (N (ob50 P) L L))) (N (ob0 P) (N (ob11 P) (N (ob27 P) (N (ob62 P) L L) L) (N (ob43 P) L L)) (N (ob19 P) (N (ob35 P) (N (ob70 P) L L) L) (N (ob54 P) L L)))) (N (PySem.W.boot_o_5 P) (N (PySem.W.boot_o_9 P) (N (ob9 P) (N (ob25 P) (N (ob60 P) L L) L) (N (ob41 P) L L)) (N (ob17 P) (N (ob33 P) (N (ob68 P) L L) L) (N (ob52 P) L L))) (N (ob2 P) (N (ob13 P) (N (ob29 P) (N (ob64 P) L L) L) (N (ob45 P) L L)) (N (ob21 P) (N (ob37 P) (N (ob72 P) L L) L) (N (ob56 P) L L))))) (N (ob4 P) (N (PySem.W.boot_o_4 P) (N (PySem.W.boot_o_8 P) (N (ob8 P) (N (ob24 P) (N (ob59 P) L L) L) (N (ob40 P) L L)) (N (ob16 P) (N (ob32 P) (N (ob67 P) L L) L) (N (ob51 P) L L))) (N (ob47 P) (N (ob12 P) (N (ob28 P) (N (ob63 P) L L) L) (N (ob44 P) L L)) (N (ob20 P) (N (ob36 P) (N (ob71 P) L L) L) (N (ob55 P) L L)))) (N (PySem.W.boot_o_6 P) (N (PySem.W.boot_o_10 P) (N (ob10 P) (N (ob26 P) (N (ob61 P) L L) L) (N (ob42 P) L L)) (N (ob18 P) (N (ob34 P) (N (ob69 P) L L) L) (N (ob53 P) L L))) (N (ob3 P) (N (ob14 P) (N (ob48 P) (N (ob65 P) L L) L) (N (ob49 P) L L)) (N (ob22 P) (N (ob38 P) (N (ob73 P) L L) L) (N (ob57 P) L L))))))
noncomputable abbrev nt2 : Nat := 80
noncomputable abbrev ps2 : PySem.Pos := PySem.Pos.mk 17 0 17 3
noncomputable abbrev tk2 : Nat := 281
noncomputable def sts2 : List PySem.Stmt := (bdy.drop 4).take 5 -- 459 steps
noncomputable def ob75 (P : PySem.Params) : PySem.Obj := PySem.Obj.mk (PySem.Value.type "dict") Option.none (PySem.Data.dict #[kEn P (Sx "__name__") 165 (PySem.Value.str (Sx "outlinemill.patterns") 372), kEn P (Sx "__doc__") 166 PySem.Value.none, kEn P (Sx "__package__") 167 PySem.Value.none, kEn P (Sx "__loader__") 168 (PySem.Value.builtin "__main__.__loader__#opaque"), kEn P (Sx "__spec__") 169 PySem.Value.none, kEn P (Sx "__annotations__") 170 (PySem.Value.ref 6), kEn P (Sx "__builtins__") 171 (PySem.Value.ref 4), kEn P (Sx "__file__") 173 (PySem.Value.str (Sx "/claim/cut.py") 172), kEn P (Sx "__cached__") 174 PySem.Value.none, kEn P (Sx "_wall") 193 (PySem.Value.ref 21), kEn P (Sx "MillError") 224 (PySem.Value.ref 38), kEn P (Sx "NumberFault") 240 (PySem.Value.ref 51), kEn P (Sx "MatrixFault") 256 (PySem.Value.ref 63), kEn P (Sx "SizeFault") 272 (PySem.Value.ref 75), kEn P (Sx "ZERO") 277 (PySem.Value.ref 78), kEn P (Sx "ONE") 280 (PySem.Value.ref 79), kEn P (Sx "common_divisor") 290 (PySem.Value.ref 86), kEn P (Sx "fraction") 300 (PySem.Value.ref 94), kEn P (Sx "plus") 308 (PySem.Value.ref 101), kEn P (Sx "minus") 316 (PySem.Value.ref 108), kEn P (Sx "times") 324 (PySem.Value.ref 115), kEn P (Sx "divided") 332 (PySem.Value.ref 122), kEn P (Sx "negated") 339 (PySem.Value.ref 129), kEn P (Sx "sign_of") 346 (PySem.Value.ref 136), kEn P (Sx "compare") 354 (PySem.Value.ref 143), kEn P (Sx "floor_of") 361 (PySem.Value.ref 150), kEn P (Sx "middle_of") 371 (PySem.Value.ref 157), kEn P (Sx "CLEAR") 378 (PySem.Value.ref 158), kEn P (Sx "within") 387 (PySem.Value.ref 165)] 29) #[]
noncomputable def ob76 (P : PySem.Params) : PySem.Obj := PySem.Obj.mk PySem.Value.none Option.none (PySem.Data.fields #[PySem.Value.int 1 0, PySem.Value.int 0 0, PySem.Value.ref 20, PySem.Value.int 5 0, PySem.Value.int 0 0, PySem.Value.ref 27, PySem.Value.int 9 0, PySem.Value.int 0 0, PySem.Value.ref 47, PySem.Value.int 11 0, PySem.Value.int 0 0, PySem.Value.ref 59, PySem.Value.int 13 0, PySem.Value.int 0 0, PySem.Value.ref 71, PySem.Value.int 18 0, PySem.Value.int 0 0, PySem.Value.ref 85, PySem.Value.int 23 0, PySem.Value.int 0 0, PySem.Value.ref 93, PySem.Value.int 30 0, PySem.Value.int 0 0, PySem.Value.ref 100, PySem.Value.int 32 0, PySem.Value.int 0 0, PySem.Value.ref 107, PySem.Value.int 34 0, PySem.Value.int 0 0, PySem.Value.ref 114, PySem.Value.int 36 0, PySem.Value.int 0 0, PySem.Value.ref 121, PySem.Value.int 40 0, PySem.Value.int 0 0, PySem.Value.ref 128, PySem.Value.int 42 0, PySem.Value.int 0 0, PySem.Value.ref 135, PySem.Value.int 48 0, PySem.Value.int 0 0, PySem.Value.ref 142, PySem.Value.int 50 0, PySem.Value.int 0 0, PySem.Value.ref 149, PySem.Value.int 53 0, PySem.Value.int 0 0, PySem.Value.ref 156, PySem.Value.int 57 0, PySem.Value.int 0 0, PySem.Value.ref 164]) #[]
noncomputable def ob77 (P : PySem.Params) : PySem.Obj := PySem.Obj.mk (PySem.Value.type "tuple") Option.none (PySem.Data.seq #[]) #[]
noncomputable def ob78 (P : PySem.Params) : PySem.Obj := PySem.Obj.mk PySem.Value.none Option.none (PySem.Data.fields #[]) #[]
noncomputable def ob79 (P : PySem.Params) : PySem.Obj := PySem.Obj.mk (PySem.Value.type "tuple") Option.none (PySem.Data.seq #[PySem.Value.str (Sx "one") 284, PySem.Value.str (Sx "other") 285, PySem.Value.str (Sx "first") 286, PySem.Value.str (Sx "second") 287]) #[]
noncomputable def ob80 (P : PySem.Params) : PySem.Obj := PySem.Obj.mk (PySem.Value.type "tuple") Option.none (PySem.Data.seq #[]) #[]
noncomputable def ob81 (P : PySem.Params) : PySem.Obj := PySem.Obj.mk PySem.Value.none Option.none (PySem.Data.func (PySem.FuncData.mk (Sx "common_divisor") (Sx "common_divisor") (pAr 9) (PySem.FuncBody.stmts (pBo 9)) (pSc 9) 0 [] PySem.Value.none PySem.Value.none PySem.Value.none PySem.Value.none Option.none PySem.Value.none PySem.Value.none 0)) #[]
noncomputable def ob82 (P : PySem.Params) : PySem.Obj := PySem.Obj.mk (PySem.Value.type "code") Option.none (PySem.Data.fields #[PySem.Value.str (Sx "common_divisor") 281, PySem.Value.str (Sx "common_divisor") 282, PySem.Value.str (Sx "/claim/cut.py") 283, PySem.Value.int 18 0, PySem.Value.int 2 0, PySem.Value.int 0 0, PySem.Value.int 0 0, PySem.Value.int 3 0, PySem.Value.ref 80, PySem.Value.bool Bool.true, PySem.Value.int 181 0, PySem.Value.ref 81, PySem.Value.none, PySem.Value.ref 82, PySem.Value.ref 83, PySem.Value.ref 84, PySem.Value.int 288 0, PySem.Value.int 18 0, PySem.Value.str (Sx "/claim/cut.py") 289]) #[]
noncomputable def ob83 (P : PySem.Params) : PySem.Obj := PySem.Obj.mk (PySem.Value.type "function") Option.none (PySem.Data.func (PySem.FuncData.mk (Sx "common_divisor") (Sx "common_divisor") (pAr 9) (PySem.FuncBody.stmts (pBo 9)) (pSc 9) 3 [] PySem.Value.none PySem.Value.none PySem.Value.none (PySem.Value.str (Sx "outlinemill.exact") 273) Option.none (PySem.Value.ref 85) PySem.Value.none 0)) #[]
noncomputable def ob84 (P : PySem.Params) : PySem.Obj := PySem.Obj.mk (PySem.Value.type "tuple") Option.none (PySem.Data.seq #[PySem.Value.int 1 291]) #[]
noncomputable def ob85 (P : PySem.Params) : PySem.Obj := PySem.Obj.mk (PySem.Value.type "tuple") Option.none (PySem.Data.seq #[]) #[]
noncomputable def ob86 (P : PySem.Params) : PySem.Obj := PySem.Obj.mk PySem.Value.none Option.none (PySem.Data.fields #[]) #[]
noncomputable def ob87 (P : PySem.Params) : PySem.Obj := PySem.Obj.mk (PySem.Value.type "tuple") Option.none (PySem.Data.seq #[PySem.Value.str (Sx "top") 295, PySem.Value.str (Sx "bottom") 296, PySem.Value.str (Sx "common") 297]) #[]
noncomputable def ob88 (P : PySem.Params) : PySem.Obj := PySem.Obj.mk (PySem.Value.type "tuple") Option.none (PySem.Data.seq #[]) #[]
noncomputable def ob89 (P : PySem.Params) : PySem.Obj := PySem.Obj.mk PySem.Value.none Option.none (PySem.Data.func (PySem.FuncData.mk (Sx "fraction") (Sx "fraction") (pAr 10) (PySem.FuncBody.stmts (pBo 10)) (pSc 10) 0 [] PySem.Value.none PySem.Value.none PySem.Value.none PySem.Value.none Option.none PySem.Value.none PySem.Value.none 0)) #[]
noncomputable def ob90 (P : PySem.Params) : PySem.Obj := PySem.Obj.mk (PySem.Value.type "code") Option.none (PySem.Data.fields #[PySem.Value.str (Sx "fraction") 292, PySem.Value.str (Sx "fraction") 293, PySem.Value.str (Sx "/claim/cut.py") 294, PySem.Value.int 23 0, PySem.Value.int 2 0, PySem.Value.int 0 0, PySem.Value.int 0 0, PySem.Value.int 3 0, PySem.Value.ref 88, PySem.Value.bool Bool.true, PySem.Value.int 181 0, PySem.Value.ref 89, PySem.Value.none, PySem.Value.ref 90, PySem.Value.ref 91, PySem.Value.ref 92, PySem.Value.int 298 0, PySem.Value.int 23 0, PySem.Value.str (Sx "/claim/cut.py") 299]) #[]
noncomputable def ob91 (P : PySem.Params) : PySem.Obj := PySem.Obj.mk (PySem.Value.type "function") Option.none (PySem.Data.func (PySem.FuncData.mk (Sx "fraction") (Sx "fraction") (pAr 10) (PySem.FuncBody.stmts (pBo 10)) (pSc 10) 3 [] (PySem.Value.ref 87) PySem.Value.none PySem.Value.none (PySem.Value.str (Sx "outlinemill.exact") 273) Option.none (PySem.Value.ref 93) PySem.Value.none 0)) #[]
noncomputable def ob92 (P : PySem.Params) : PySem.Obj := PySem.Obj.mk (PySem.Value.type "tuple") Option.none (PySem.Data.seq #[]) #[]
noncomputable def ob93 (P : PySem.Params) : PySem.Obj := PySem.Obj.mk PySem.Value.none Option.none (PySem.Data.fields #[]) #[]
noncomputable def ob94 (P : PySem.Params) : PySem.Obj := PySem.Obj.mk (PySem.Value.type "tuple") Option.none (PySem.Data.seq #[PySem.Value.str (Sx "a") 304, PySem.Value.str (Sx "b") 305]) #[]
noncomputable def ob95 (P : PySem.Params) : PySem.Obj := PySem.Obj.mk (PySem.Value.type "tuple") Option.none (PySem.Data.seq #[]) #[]
noncomputable def ob96 (P : PySem.Params) : PySem.Obj := PySem.Obj.mk PySem.Value.none Option.none (PySem.Data.func (PySem.FuncData.mk (Sx "plus") (Sx "plus") (pAr 11) (PySem.FuncBody.stmts (pBo 11)) (pSc 13) 0 [] PySem.Value.none PySem.Value.none PySem.Value.none PySem.Value.none Option.none PySem.Value.none PySem.Value.none 0)) #[]
noncomputable def ob97 (P : PySem.Params) : PySem.Obj := PySem.Obj.mk (PySem.Value.type "code") Option.none (PySem.Data.fields #[PySem.Value.str (Sx "plus") 301, PySem.Value.str (Sx "plus") 302, PySem.Value.str (Sx "/claim/cut.py") 303, PySem.Value.int 30 0, PySem.Value.int 2 0, PySem.Value.int 0 0, PySem.Value.int 0 0, PySem.Value.int 3 0, PySem.Value.ref 95, PySem.Value.bool Bool.true, PySem.Value.int 181 0, PySem.Value.ref 96, PySem.Value.none, PySem.Value.ref 97, PySem.Value.ref 98, PySem.Value.ref 99, PySem.Value.int 306 0, PySem.Value.int 30 0, PySem.Value.str (Sx "/claim/cut.py") 307]) #[]
noncomputable def ob98 (P : PySem.Params) : PySem.Obj := PySem.Obj.mk (PySem.Value.type "function") Option.none (PySem.Data.func (PySem.FuncData.mk (Sx "plus") (Sx "plus") (pAr 11) (PySem.FuncBody.stmts (pBo 11)) (pSc 13) 3 [] PySem.Value.none PySem.Value.none PySem.Value.none (PySem.Value.str (Sx "outlinemill.exact") 273) Option.none (PySem.Value.ref 100) PySem.Value.none 0)) #[]
noncomputable def ob99 (P : PySem.Params) : PySem.Obj := PySem.Obj.mk (PySem.Value.type "tuple") Option.none (PySem.Data.seq #[]) #[]
noncomputable def ob100 (P : PySem.Params) : PySem.Obj := PySem.Obj.mk PySem.Value.none Option.none (PySem.Data.fields #[]) #[]
noncomputable def ob101 (P : PySem.Params) : PySem.Obj := PySem.Obj.mk (PySem.Value.type "tuple") Option.none (PySem.Data.seq #[PySem.Value.str (Sx "a") 312, PySem.Value.str (Sx "b") 313]) #[]
noncomputable def ob102 (P : PySem.Params) : PySem.Obj := PySem.Obj.mk (PySem.Value.type "tuple") Option.none (PySem.Data.seq #[]) #[]
noncomputable def ob103 (P : PySem.Params) : PySem.Obj := PySem.Obj.mk PySem.Value.none Option.none (PySem.Data.func (PySem.FuncData.mk (Sx "minus") (Sx "minus") (pAr 12) (PySem.FuncBody.stmts (pBo 12)) (pSc 13) 0 [] PySem.Value.none PySem.Value.none PySem.Value.none PySem.Value.none Option.none PySem.Value.none PySem.Value.none 0)) #[]
noncomputable def ob104 (P : PySem.Params) : PySem.Obj := PySem.Obj.mk (PySem.Value.type "code") Option.none (PySem.Data.fields #[PySem.Value.str (Sx "minus") 309, PySem.Value.str (Sx "minus") 310, PySem.Value.str (Sx "/claim/cut.py") 311, PySem.Value.int 32 0, PySem.Value.int 2 0, PySem.Value.int 0 0, PySem.Value.int 0 0, PySem.Value.int 3 0, PySem.Value.ref 102, PySem.Value.bool Bool.true, PySem.Value.int 181 0, PySem.Value.ref 103, PySem.Value.none, PySem.Value.ref 104, PySem.Value.ref 105, PySem.Value.ref 106, PySem.Value.int 314 0, PySem.Value.int 32 0, PySem.Value.str (Sx "/claim/cut.py") 315]) #[]
noncomputable def ob105 (P : PySem.Params) : PySem.Obj := PySem.Obj.mk (PySem.Value.type "function") Option.none (PySem.Data.func (PySem.FuncData.mk (Sx "minus") (Sx "minus") (pAr 12) (PySem.FuncBody.stmts (pBo 12)) (pSc 13) 3 [] PySem.Value.none PySem.Value.none PySem.Value.none (PySem.Value.str (Sx "outlinemill.exact") 273) Option.none (PySem.Value.ref 107) PySem.Value.none 0)) #[]
noncomputable def ob106 (P : PySem.Params) : PySem.Obj := PySem.Obj.mk (PySem.Value.type "tuple") Option.none (PySem.Data.seq #[]) #[]
noncomputable def ob107 (P : PySem.Params) : PySem.Obj := PySem.Obj.mk PySem.Value.none Option.none (PySem.Data.fields #[]) #[]
noncomputable def ob108 (P : PySem.Params) : PySem.Obj := PySem.Obj.mk (PySem.Value.type "tuple") Option.none (PySem.Data.seq #[PySem.Value.str (Sx "a") 320, PySem.Value.str (Sx "b") 321]) #[]
noncomputable def ob109 (P : PySem.Params) : PySem.Obj := PySem.Obj.mk (PySem.Value.type "tuple") Option.none (PySem.Data.seq #[]) #[]
noncomputable def ob110 (P : PySem.Params) : PySem.Obj := PySem.Obj.mk PySem.Value.none Option.none (PySem.Data.func (PySem.FuncData.mk (Sx "times") (Sx "times") (pAr 13) (PySem.FuncBody.stmts (pBo 13)) (pSc 13) 0 [] PySem.Value.none PySem.Value.none PySem.Value.none PySem.Value.none Option.none PySem.Value.none PySem.Value.none 0)) #[]
noncomputable def ob111 (P : PySem.Params) : PySem.Obj := PySem.Obj.mk (PySem.Value.type "code") Option.none (PySem.Data.fields #[PySem.Value.str (Sx "times") 317, PySem.Value.str (Sx "times") 318, PySem.Value.str (Sx "/claim/cut.py") 319, PySem.Value.int 34 0, PySem.Value.int 2 0, PySem.Value.int 0 0, PySem.Value.int 0 0, PySem.Value.int 3 0, PySem.Value.ref 109, PySem.Value.bool Bool.true, PySem.Value.int 181 0, PySem.Value.ref 110, PySem.Value.none, PySem.Value.ref 111, PySem.Value.ref 112, PySem.Value.ref 113, PySem.Value.int 322 0, PySem.Value.int 34 0, PySem.Value.str (Sx "/claim/cut.py") 323]) #[]
noncomputable def ob112 (P : PySem.Params) : PySem.Obj := PySem.Obj.mk (PySem.Value.type "function") Option.none (PySem.Data.func (PySem.FuncData.mk (Sx "times") (Sx "times") (pAr 13) (PySem.FuncBody.stmts (pBo 13)) (pSc 13) 3 [] PySem.Value.none PySem.Value.none PySem.Value.none (PySem.Value.str (Sx "outlinemill.exact") 273) Option.none (PySem.Value.ref 114) PySem.Value.none 0)) #[]
noncomputable def ob113 (P : PySem.Params) : PySem.Obj := PySem.Obj.mk (PySem.Value.type "tuple") Option.none (PySem.Data.seq #[]) #[]
noncomputable def ob114 (P : PySem.Params) : PySem.Obj := PySem.Obj.mk PySem.Value.none Option.none (PySem.Data.fields #[]) #[]
noncomputable def ob115 (P : PySem.Params) : PySem.Obj := PySem.Obj.mk (PySem.Value.type "tuple") Option.none (PySem.Data.seq #[PySem.Value.str (Sx "a") 328, PySem.Value.str (Sx "b") 329]) #[]
noncomputable def ob116 (P : PySem.Params) : PySem.Obj := PySem.Obj.mk (PySem.Value.type "tuple") Option.none (PySem.Data.seq #[]) #[]
noncomputable def ob117 (P : PySem.Params) : PySem.Obj := PySem.Obj.mk PySem.Value.none Option.none (PySem.Data.func (PySem.FuncData.mk (Sx "divided") (Sx "divided") (pAr 14) (PySem.FuncBody.stmts (pBo 14)) (pSc 14) 0 [] PySem.Value.none PySem.Value.none PySem.Value.none PySem.Value.none Option.none PySem.Value.none PySem.Value.none 0)) #[]
noncomputable def ob118 (P : PySem.Params) : PySem.Obj := PySem.Obj.mk (PySem.Value.type "code") Option.none (PySem.Data.fields #[PySem.Value.str (Sx "divided") 325, PySem.Value.str (Sx "divided") 326, PySem.Value.str (Sx "/claim/cut.py") 327, PySem.Value.int 36 0, PySem.Value.int 2 0, PySem.Value.int 0 0, PySem.Value.int 0 0, PySem.Value.int 3 0, PySem.Value.ref 116, PySem.Value.bool Bool.true, PySem.Value.int 181 0, PySem.Value.ref 117, PySem.Value.none, PySem.Value.ref 118, PySem.Value.ref 119, PySem.Value.ref 120, PySem.Value.int 330 0, PySem.Value.int 36 0, PySem.Value.str (Sx "/claim/cut.py") 331]) #[]
noncomputable def ob119 (P : PySem.Params) : PySem.Obj := PySem.Obj.mk (PySem.Value.type "function") Option.none (PySem.Data.func (PySem.FuncData.mk (Sx "divided") (Sx "divided") (pAr 14) (PySem.FuncBody.stmts (pBo 14)) (pSc 14) 3 [] PySem.Value.none PySem.Value.none PySem.Value.none (PySem.Value.str (Sx "outlinemill.exact") 273) Option.none (PySem.Value.ref 121) PySem.Value.none 0)) #[]
noncomputable def ob120 (P : PySem.Params) : PySem.Obj := PySem.Obj.mk (PySem.Value.type "tuple") Option.none (PySem.Data.seq #[]) #[]
noncomputable def ob121 (P : PySem.Params) : PySem.Obj := PySem.Obj.mk PySem.Value.none Option.none (PySem.Data.fields #[]) #[]
noncomputable def ob122 (P : PySem.Params) : PySem.Obj := PySem.Obj.mk (PySem.Value.type "tuple") Option.none (PySem.Data.seq #[PySem.Value.str (Sx "a") 336]) #[]
noncomputable def ob123 (P : PySem.Params) : PySem.Obj := PySem.Obj.mk (PySem.Value.type "tuple") Option.none (PySem.Data.seq #[]) #[]
noncomputable def ob124 (P : PySem.Params) : PySem.Obj := PySem.Obj.mk PySem.Value.none Option.none (PySem.Data.func (PySem.FuncData.mk (Sx "negated") (Sx "negated") (pAr 15) (PySem.FuncBody.stmts (pBo 15)) (pSc 18) 0 [] PySem.Value.none PySem.Value.none PySem.Value.none PySem.Value.none Option.none PySem.Value.none PySem.Value.none 0)) #[]
noncomputable def ob125 (P : PySem.Params) : PySem.Obj := PySem.Obj.mk (PySem.Value.type "code") Option.none (PySem.Data.fields #[PySem.Value.str (Sx "negated") 333, PySem.Value.str (Sx "negated") 334, PySem.Value.str (Sx "/claim/cut.py") 335, PySem.Value.int 40 0, PySem.Value.int 1 0, PySem.Value.int 0 0, PySem.Value.int 0 0, PySem.Value.int 3 0, PySem.Value.ref 123, PySem.Value.bool Bool.true, PySem.Value.int 181 0, PySem.Value.ref 124, PySem.Value.none, PySem.Value.ref 125, PySem.Value.ref 126, PySem.Value.ref 127, PySem.Value.int 337 0, PySem.Value.int 40 0, PySem.Value.str (Sx "/claim/cut.py") 338]) #[]
noncomputable def ob126 (P : PySem.Params) : PySem.Obj := PySem.Obj.mk (PySem.Value.type "function") Option.none (PySem.Data.func (PySem.FuncData.mk (Sx "negated") (Sx "negated") (pAr 15) (PySem.FuncBody.stmts (pBo 15)) (pSc 18) 3 [] PySem.Value.none PySem.Value.none PySem.Value.none (PySem.Value.str (Sx "outlinemill.exact") 273) Option.none (PySem.Value.ref 128) PySem.Value.none 0)) #[]
noncomputable def ob127 (P : PySem.Params) : PySem.Obj := PySem.Obj.mk (PySem.Value.type "tuple") Option.none (PySem.Data.seq #[]) #[]
noncomputable def ob128 (P : PySem.Params) : PySem.Obj := PySem.Obj.mk PySem.Value.none Option.none (PySem.Data.fields #[]) #[]
noncomputable def ob129 (P : PySem.Params) : PySem.Obj := PySem.Obj.mk (PySem.Value.type "tuple") Option.none (PySem.Data.seq #[PySem.Value.str (Sx "a") 343]) #[]
noncomputable def ob130 (P : PySem.Params) : PySem.Obj := PySem.Obj.mk (PySem.Value.type "tuple") Option.none (PySem.Data.seq #[]) #[]
noncomputable def ob131 (P : PySem.Params) : PySem.Obj := PySem.Obj.mk PySem.Value.none Option.none (PySem.Data.func (PySem.FuncData.mk (Sx "sign_of") (Sx "sign_of") (pAr 16) (PySem.FuncBody.stmts (pBo 16)) (pSc 18) 0 [] PySem.Value.none PySem.Value.none PySem.Value.none PySem.Value.none Option.none PySem.Value.none PySem.Value.none 0)) #[]
noncomputable def ob132 (P : PySem.Params) : PySem.Obj := PySem.Obj.mk (PySem.Value.type "code") Option.none (PySem.Data.fields #[PySem.Value.str (Sx "sign_of") 340, PySem.Value.str (Sx "sign_of") 341, PySem.Value.str (Sx "/claim/cut.py") 342, PySem.Value.int 42 0, PySem.Value.int 1 0, PySem.Value.int 0 0, PySem.Value.int 0 0, PySem.Value.int 3 0, PySem.Value.ref 130, PySem.Value.bool Bool.true, PySem.Value.int 181 0, PySem.Value.ref 131, PySem.Value.none, PySem.Value.ref 132, PySem.Value.ref 133, PySem.Value.ref 134, PySem.Value.int 344 0, PySem.Value.int 42 0, PySem.Value.str (Sx "/claim/cut.py") 345]) #[]
noncomputable def ob133 (P : PySem.Params) : PySem.Obj := PySem.Obj.mk (PySem.Value.type "function") Option.none (PySem.Data.func (PySem.FuncData.mk (Sx "sign_of") (Sx "sign_of") (pAr 16) (PySem.FuncBody.stmts (pBo 16)) (pSc 18) 3 [] PySem.Value.none PySem.Value.none PySem.Value.none (PySem.Value.str (Sx "outlinemill.exact") 273) Option.none (PySem.Value.ref 135) PySem.Value.none 0)) #[]
noncomputable def ob134 (P : PySem.Params) : PySem.Obj := PySem.Obj.mk (PySem.Value.type "tuple") Option.none (PySem.Data.seq #[]) #[]
noncomputable def ob135 (P : PySem.Params) : PySem.Obj := PySem.Obj.mk PySem.Value.none Option.none (PySem.Data.fields #[]) #[]
noncomputable def ob136 (P : PySem.Params) : PySem.Obj := PySem.Obj.mk (PySem.Value.type "tuple") Option.none (PySem.Data.seq #[PySem.Value.str (Sx "a") 350, PySem.Value.str (Sx "b") 351]) #[]
noncomputable def ob137 (P : PySem.Params) : PySem.Obj := PySem.Obj.mk (PySem.Value.type "tuple") Option.none (PySem.Data.seq #[]) #[]
noncomputable def ob138 (P : PySem.Params) : PySem.Obj := PySem.Obj.mk PySem.Value.none Option.none (PySem.Data.func (PySem.FuncData.mk (Sx "compare") (Sx "compare") (pAr 17) (PySem.FuncBody.stmts (pBo 17)) (pSc 17) 0 [] PySem.Value.none PySem.Value.none PySem.Value.none PySem.Value.none Option.none PySem.Value.none PySem.Value.none 0)) #[]
noncomputable def ob139 (P : PySem.Params) : PySem.Obj := PySem.Obj.mk (PySem.Value.type "code") Option.none (PySem.Data.fields #[PySem.Value.str (Sx "compare") 347, PySem.Value.str (Sx "compare") 348, PySem.Value.str (Sx "/claim/cut.py") 349, PySem.Value.int 48 0, PySem.Value.int 2 0, PySem.Value.int 0 0, PySem.Value.int 0 0, PySem.Value.int 3 0, PySem.Value.ref 137, PySem.Value.bool Bool.true, PySem.Value.int 181 0, PySem.Value.ref 138, PySem.Value.none, PySem.Value.ref 139, PySem.Value.ref 140, PySem.Value.ref 141, PySem.Value.int 352 0, PySem.Value.int 48 0, PySem.Value.str (Sx "/claim/cut.py") 353]) #[]
noncomputable def ob140 (P : PySem.Params) : PySem.Obj := PySem.Obj.mk (PySem.Value.type "function") Option.none (PySem.Data.func (PySem.FuncData.mk (Sx "compare") (Sx "compare") (pAr 17) (PySem.FuncBody.stmts (pBo 17)) (pSc 17) 3 [] PySem.Value.none PySem.Value.none PySem.Value.none (PySem.Value.str (Sx "outlinemill.exact") 273) Option.none (PySem.Value.ref 142) PySem.Value.none 0)) #[]
noncomputable def ob141 (P : PySem.Params) : PySem.Obj := PySem.Obj.mk (PySem.Value.type "tuple") Option.none (PySem.Data.seq #[]) #[]
noncomputable def ob142 (P : PySem.Params) : PySem.Obj := PySem.Obj.mk PySem.Value.none Option.none (PySem.Data.fields #[]) #[]
noncomputable def ob143 (P : PySem.Params) : PySem.Obj := PySem.Obj.mk (PySem.Value.type "tuple") Option.none (PySem.Data.seq #[PySem.Value.str (Sx "a") 358]) #[]
noncomputable def ob144 (P : PySem.Params) : PySem.Obj := PySem.Obj.mk (PySem.Value.type "tuple") Option.none (PySem.Data.seq #[]) #[]
noncomputable def ob145 (P : PySem.Params) : PySem.Obj := PySem.Obj.mk PySem.Value.none Option.none (PySem.Data.func (PySem.FuncData.mk (Sx "floor_of") (Sx "floor_of") (pAr 18) (PySem.FuncBody.stmts (pBo 18)) (pSc 18) 0 [] PySem.Value.none PySem.Value.none PySem.Value.none PySem.Value.none Option.none PySem.Value.none PySem.Value.none 0)) #[]
noncomputable def ob146 (P : PySem.Params) : PySem.Obj := PySem.Obj.mk (PySem.Value.type "code") Option.none (PySem.Data.fields #[PySem.Value.str (Sx "floor_of") 355, PySem.Value.str (Sx "floor_of") 356, PySem.Value.str (Sx "/claim/cut.py") 357, PySem.Value.int 50 0, PySem.Value.int 1 0, PySem.Value.int 0 0, PySem.Value.int 0 0, PySem.Value.int 3 0, PySem.Value.ref 144, PySem.Value.bool Bool.true, PySem.Value.int 181 0, PySem.Value.ref 145, PySem.Value.none, PySem.Value.ref 146, PySem.Value.ref 147, PySem.Value.ref 148, PySem.Value.int 359 0, PySem.Value.int 50 0, PySem.Value.str (Sx "/claim/cut.py") 360]) #[]
noncomputable def ob147 (P : PySem.Params) : PySem.Obj := PySem.Obj.mk (PySem.Value.type "function") Option.none (PySem.Data.func (PySem.FuncData.mk (Sx "floor_of") (Sx "floor_of") (pAr 18) (PySem.FuncBody.stmts (pBo 18)) (pSc 18) 3 [] PySem.Value.none PySem.Value.none PySem.Value.none (PySem.Value.str (Sx "outlinemill.exact") 273) Option.none (PySem.Value.ref 149) PySem.Value.none 0)) #[]
noncomputable def ob148 (P : PySem.Params) : PySem.Obj := PySem.Obj.mk (PySem.Value.type "tuple") Option.none (PySem.Data.seq #[]) #[]
noncomputable def ob149 (P : PySem.Params) : PySem.Obj := PySem.Obj.mk PySem.Value.none Option.none (PySem.Data.fields #[]) #[]
noncomputable def ob150 (P : PySem.Params) : PySem.Obj := PySem.Obj.mk (PySem.Value.type "tuple") Option.none (PySem.Data.seq #[PySem.Value.str (Sx "x") 367, PySem.Value.str (Sx "y") 368]) #[]
noncomputable def ob151 (P : PySem.Params) : PySem.Obj := PySem.Obj.mk (PySem.Value.type "tuple") Option.none (PySem.Data.seq #[]) #[]
noncomputable def ob152 (P : PySem.Params) : PySem.Obj := PySem.Obj.mk PySem.Value.none Option.none (PySem.Data.func (PySem.FuncData.mk (Sx "middle_of") (Sx "middle_of") (pAr 20) (PySem.FuncBody.stmts (pBo 20)) (pSc 20) 0 [] PySem.Value.none PySem.Value.none PySem.Value.none PySem.Value.none Option.none PySem.Value.none PySem.Value.none 0)) #[]
noncomputable def ob153 (P : PySem.Params) : PySem.Obj := PySem.Obj.mk (PySem.Value.type "code") Option.none (PySem.Data.fields #[PySem.Value.str (Sx "middle_of") 364, PySem.Value.str (Sx "middle_of") 365, PySem.Value.str (Sx "/claim/cut.py") 366, PySem.Value.int 53 0, PySem.Value.int 2 0, PySem.Value.int 0 0, PySem.Value.int 0 0, PySem.Value.int 3 0, PySem.Value.ref 151, PySem.Value.bool Bool.true, PySem.Value.int 181 0, PySem.Value.ref 152, PySem.Value.none, PySem.Value.ref 153, PySem.Value.ref 154, PySem.Value.ref 155, PySem.Value.int 369 0, PySem.Value.int 53 0, PySem.Value.str (Sx "/claim/cut.py") 370]) #[]
noncomputable def ob154 (P : PySem.Params) : PySem.Obj := PySem.Obj.mk (PySem.Value.type "function") Option.none (PySem.Data.func (PySem.FuncData.mk (Sx "middle_of") (Sx "middle_of") (pAr 20) (PySem.FuncBody.stmts (pBo 20)) (pSc 20) 3 [] PySem.Value.none PySem.Value.none PySem.Value.none (PySem.Value.str (Sx "outlinemill.paints") 362) Option.none (PySem.Value.ref 156) PySem.Value.none 0)) #[]
noncomputable def ob155 (P : PySem.Params) : PySem.Obj := PySem.Obj.mk (PySem.Value.type "tuple") Option.none (PySem.Data.seq #[PySem.Value.int 0 374, PySem.Value.int 0 375, PySem.Value.int 0 376, PySem.Value.int 0 377]) #[]
noncomputable def ob156 (P : PySem.Params) : PySem.Obj := PySem.Obj.mk (PySem.Value.type "tuple") Option.none (PySem.Data.seq #[]) #[]
noncomputable def ob157 (P : PySem.Params) : PySem.Obj := PySem.Obj.mk PySem.Value.none Option.none (PySem.Data.fields #[]) #[]
noncomputable def ob158 (P : PySem.Params) : PySem.Obj := PySem.Obj.mk (PySem.Value.type "tuple") Option.none (PySem.Data.seq #[PySem.Value.str (Sx "place") 382, PySem.Value.str (Sx "size") 383, PySem.Value.str (Sx "many") 384]) #[]
noncomputable def ob159 (P : PySem.Params) : PySem.Obj := PySem.Obj.mk (PySem.Value.type "tuple") Option.none (PySem.Data.seq #[]) #[]
noncomputable def ob160 (P : PySem.Params) : PySem.Obj := PySem.Obj.mk PySem.Value.none Option.none (PySem.Data.func (PySem.FuncData.mk (Sx "within") (Sx "within") (pAr 23) (PySem.FuncBody.stmts (pBo 23)) (pSc 23) 0 [] PySem.Value.none PySem.Value.none PySem.Value.none PySem.Value.none Option.none PySem.Value.none PySem.Value.none 0)) #[]
noncomputable def ob161 (P : PySem.Params) : PySem.Obj := PySem.Obj.mk (PySem.Value.type "code") Option.none (PySem.Data.fields #[PySem.Value.str (Sx "within") 379, PySem.Value.str (Sx "within") 380, PySem.Value.str (Sx "/claim/cut.py") 381, PySem.Value.int 57 0, PySem.Value.int 2 0, PySem.Value.int 0 0, PySem.Value.int 0 0, PySem.Value.int 3 0, PySem.Value.ref 159, PySem.Value.bool Bool.true, PySem.Value.int 181 0, PySem.Value.ref 160, PySem.Value.none, PySem.Value.ref 161, PySem.Value.ref 162, PySem.Value.ref 163, PySem.Value.int 385 0, PySem.Value.int 57 0, PySem.Value.str (Sx "/claim/cut.py") 386]) #[]
noncomputable def ob162 (P : PySem.Params) : PySem.Obj := PySem.Obj.mk (PySem.Value.type "function") Option.none (PySem.Data.func (PySem.FuncData.mk (Sx "within") (Sx "within") (pAr 23) (PySem.FuncBody.stmts (pBo 23)) (pSc 23) 3 [] PySem.Value.none PySem.Value.none PySem.Value.none (PySem.Value.str (Sx "outlinemill.patterns") 372) Option.none (PySem.Value.ref 164) PySem.Value.none 0)) #[]
noncomputable def t3 (P : PySem.Params) : BT := (N (PySem.W.boot_o_0 P) (N (PySem.W.boot_o_1 P) (N (ob75 P) (N (PySem.W.boot_o_7 P) (N (ob7 P) (N (ob23 P) (N (ob58 P) (N (ob124 P) L L) L) (N (ob92 P) (N (ob156 P) L L) L)) (N (ob39 P) (N (ob74 P) (N (ob140 P) L L) L) (N (ob108 P) L L))) (N (ob15 P) (N (ob31 P) (N (ob66 P) (N (ob132 P) L L) L) (N (ob100 P) L L)) (N (ob50 P) (N (ob84 P) (N (ob148 P) L L) L) (N (ob116 P) L L)))) (N (ob0 P) (N (ob11 P) (N (ob27 P) (N (ob62 P) (N (ob128 P) L L) L) (N (ob96 P) (N (ob160 P) L L) L)) (N (ob43 P) (N (ob80 P) (N (ob144 P) L L) L) (N (ob112 P) L L))) (N (ob19 P) (N (ob35 P) (N (ob70 P) (N (ob136 P) L L) L) (N (ob104 P) L L)) (N (ob54 P) (N (ob88 P) (N (ob152 P) L L) L) (N (ob120 P) L L))))) (N (PySem.W.boot_o_5 P) (N (PySem.W.boot_o_9 P) (N (ob9 P) (N (ob25 P) (N (ob60 P) (N (ob126 P) L L) L) (N (ob94 P) (N (ob158 P) L L) L)) (N (ob41 P) (N (ob78 P) (N (ob142 P) L L) L) (N (ob110 P) L L))) (N (ob17 P) (N (ob33 P) (N (ob68 P) (N (ob134 P) L L) L) (N (ob102 P) L L)) (N (ob52 P) (N (ob86 P) (N (ob150 P) L L) L) (N (ob118 P) L L)))) (N (ob2 P) (N (ob13 P) (N (ob29 P) (N (ob64 P) (N (ob130 P) L L) L) (N (ob98 P) (N (ob162 P) L L) L)) (N (ob45 P) (N (ob82 P) (N (ob146 P) L L) L) (N (ob114 P) L L))) (N (ob21 P) (N (ob37 P) (N (ob72 P) (N (ob138 P) L L) L) (N (ob106 P) L L)) (N (ob56 P) (N (ob90 P) (N (ob154 P) L L) L) (N (ob122 P) L L)))))) (N (ob4 P) (N (PySem.W.boot_o_4 P) (N (PySem.W.boot_o_8 P) (N (ob8 P) (N (ob24 P) (N (ob59 P) (N (ob125 P) L L) L) (N (ob93 P) (N (ob157 P) L L) L)) (N (ob40 P) (N (ob77 P) (N (ob141 P) L L) L) (N (ob109 P) L L))) (N (ob16 P) (N (ob32 P) (N (ob67 P) (N (ob133 P) L L) L) (N (ob101 P) L L)) (N (ob51 P) (N (ob85 P) (N (ob149 P) L L) L) (N (ob117 P) L L)))) (N (ob76 P) (N (ob12 P) (N (ob28 P) (N (ob63 P) (N (ob129 P) L L) L) (N (ob97 P) (N (ob161 P) L L) L)) (N (ob44 P) (N (ob81 P) (N (ob145 P) L L) L) (N (ob113 P) L L))) (N (ob20 P) (N (ob36 P) (N (ob71 P) (N (ob137 P) L L) L) (N (ob105 P) L L)) (N (ob55 P) (N (ob89 P) (N (ob153 P) L L) L) (N (ob121 P) L L))))) (N (PySem.W.boot_o_6 P) (N (PySem.W.boot_o_10 P) (N (ob10 P) (N (ob26 P) (N (ob61 P) (N (ob127 P) L L) L) (N (ob95 P) (N (ob159 P) L L) L)) (N (ob42 P) (N (ob79 P) (N (ob143 P) L L) L) (N (ob111 P) L L))) (N (ob18 P) (N (ob34 P) (N (ob69 P) (N (ob135 P) L L) L) (N (ob103 P) L L)) (N (ob53 P) (N (ob87 P) (N (ob151 P) L L) L) (N (ob119 P) L L)))) (N (ob3 P) (N (ob14 P) (N (ob48 P) (N (ob65 P) (N (ob131 P) L L) L) (N (ob99 P) L L)) (N (ob49 P) (N (ob83 P) (N (ob147 P) L L) L) (N (ob115 P) L L))) (N (ob22 P) (N (ob38 P) (N (ob73 P) (N (ob139 P) L L) L) (N (ob107 P) L L)) (N (ob57 P) (N (ob91 P) (N (ob155 P) L L) L) (N (ob123 P) L L)))))))
noncomputable abbrev nt3 : Nat := 166
noncomputable abbrev ps3 : PySem.Pos := PySem.Pos.mk 57 0 59 52
noncomputable abbrev tk3 : Nat := 388
noncomputable def sts3 : List PySem.Stmt := (bdy.drop 9).take 15 -- 395 steps
noncomputable def ob163 (P : PySem.Params) : PySem.Obj := PySem.Obj.mk (PySem.Value.type "dict") Option.none (PySem.Data.dict #[kEn P (Sx "__name__") 165 (PySem.Value.str (Sx "outlinemill.canvas") 452), kEn P (Sx "__doc__") 166 PySem.Value.none, kEn P (Sx "__package__") 167 PySem.Value.none, kEn P (Sx "__loader__") 168 (PySem.Value.builtin "__main__.__loader__#opaque"), kEn P (Sx "__spec__") 169 PySem.Value.none, kEn P (Sx "__annotations__") 170 (PySem.Value.ref 6), kEn P (Sx "__builtins__") 171 (PySem.Value.ref 4), kEn P (Sx "__file__") 173 (PySem.Value.str (Sx "/claim/cut.py") 172), kEn P (Sx "__cached__") 174 PySem.Value.none, kEn P (Sx "_wall") 193 (PySem.Value.ref 21), kEn P (Sx "MillError") 224 (PySem.Value.ref 38), kEn P (Sx "NumberFault") 240 (PySem.Value.ref 51), kEn P (Sx "MatrixFault") 256 (PySem.Value.ref 63), kEn P (Sx "SizeFault") 272 (PySem.Value.ref 75), kEn P (Sx "ZERO") 277 (PySem.Value.ref 78), kEn P (Sx "ONE") 280 (PySem.Value.ref 79), kEn P (Sx "common_divisor") 290 (PySem.Value.ref 86), kEn P (Sx "fraction") 300 (PySem.Value.ref 94), kEn P (Sx "plus") 308 (PySem.Value.ref 101), kEn P (Sx "minus") 316 (PySem.Value.ref 108), kEn P (Sx "times") 324 (PySem.Value.ref 115), kEn P (Sx "divided") 332 (PySem.Value.ref 122), kEn P (Sx "negated") 339 (PySem.Value.ref 129), kEn P (Sx "sign_of") 346 (PySem.Value.ref 136), kEn P (Sx "compare") 354 (PySem.Value.ref 143), kEn P (Sx "floor_of") 361 (PySem.Value.ref 150), kEn P (Sx "middle_of") 371 (PySem.Value.ref 157), kEn P (Sx "CLEAR") 378 (PySem.Value.ref 158), kEn P (Sx "within") 387 (PySem.Value.ref 165), kEn P (Sx "Pattern") 451 (PySem.Value.ref 203), kEn P (Sx "NOTHING") 458 (PySem.Value.ref 208)] 31) #[]
noncomputable def ob164 (P : PySem.Params) : PySem.Obj := PySem.Obj.mk PySem.Value.none Option.none (PySem.Data.fields #[PySem.Value.int 1 0, PySem.Value.int 0 0, PySem.Value.ref 20, PySem.Value.int 5 0, PySem.Value.int 0 0, PySem.Value.ref 27, PySem.Value.int 9 0, PySem.Value.int 0 0, PySem.Value.ref 47, PySem.Value.int 11 0, PySem.Value.int 0 0, PySem.Value.ref 59, PySem.Value.int 13 0, PySem.Value.int 0 0, PySem.Value.ref 71, PySem.Value.int 18 0, PySem.Value.int 0 0, PySem.Value.ref 85, PySem.Value.int 23 0, PySem.Value.int 0 0, PySem.Value.ref 93, PySem.Value.int 30 0, PySem.Value.int 0 0, PySem.Value.ref 100, PySem.Value.int 32 0, PySem.Value.int 0 0, PySem.Value.ref 107, PySem.Value.int 34 0, PySem.Value.int 0 0, PySem.Value.ref 114, PySem.Value.int 36 0, PySem.Value.int 0 0, PySem.Value.ref 121, PySem.Value.int 40 0, PySem.Value.int 0 0, PySem.Value.ref 128, PySem.Value.int 42 0, PySem.Value.int 0 0, PySem.Value.ref 135, PySem.Value.int 48 0, PySem.Value.int 0 0, PySem.Value.ref 142, PySem.Value.int 50 0, PySem.Value.int 0 0, PySem.Value.ref 149, PySem.Value.int 53 0, PySem.Value.int 0 0, PySem.Value.ref 156, PySem.Value.int 57 0, PySem.Value.int 0 0, PySem.Value.ref 164, PySem.Value.int 60 0, PySem.Value.int 0 0, PySem.Value.ref 171]) #[]
noncomputable def ob165 (P : PySem.Params) : PySem.Obj := PySem.Obj.mk (PySem.Value.type "tuple") Option.none (PySem.Data.seq #[]) #[]
noncomputable def ob166 (P : PySem.Params) : PySem.Obj := PySem.Obj.mk (PySem.Value.type "builtin_function_or_method") Option.none (PySem.Data.fields #[PySem.Value.builtin "type.__prepare__", PySem.Value.type "type"]) #[]
noncomputable def ob167 (P : PySem.Params) : PySem.Obj := PySem.Obj.mk (PySem.Value.type "dict") Option.none (PySem.Data.dict #[kEn P (Sx "__module__") 395 (PySem.Value.str (Sx "outlinemill.patterns") 372), kEn P (Sx "__qualname__") 397 (PySem.Value.str (Sx "Pattern") 396), kEn P (Sx "__firstlineno__") 399 (PySem.Value.int 60 398), kEn P (Sx "__init__") 410 (PySem.Value.ref 179), kEn P (Sx "is_empty") 417 (PySem.Value.ref 186), kEn P (Sx "dot_of") 427 (PySem.Value.ref 193), kEn P (Sx "colour_at") 439 (PySem.Value.ref 200), kEn P (Sx "__static_attributes__") 444 (PySem.Value.ref 201)] 8) #[]
noncomputable def ob168 (P : PySem.Params) : PySem.Obj := PySem.Obj.mk (PySem.Value.type "tuple") Option.none (PySem.Data.seq #[]) #[]
noncomputable def ob169 (P : PySem.Params) : PySem.Obj := PySem.Obj.mk PySem.Value.none Option.none (PySem.Data.fields #[PySem.Value.int 62 0, PySem.Value.int 4 0, PySem.Value.ref 178, PySem.Value.int 68 0, PySem.Value.int 4 0, PySem.Value.ref 185, PySem.Value.int 73 0, PySem.Value.int 4 0, PySem.Value.ref 192, PySem.Value.int 76 0, PySem.Value.int 4 0, PySem.Value.ref 199]) #[]
noncomputable def ob170 (P : PySem.Params) : PySem.Obj := PySem.Obj.mk (PySem.Value.type "code") Option.none (PySem.Data.fields #[PySem.Value.str (Sx "Pattern") 390, PySem.Value.str (Sx "Pattern") 391, PySem.Value.str (Sx "/claim/cut.py") 392, PySem.Value.int 60 0, PySem.Value.int 0 0, PySem.Value.int 0 0, PySem.Value.int 0 0, PySem.Value.int 0 0, PySem.Value.ref 169, PySem.Value.bool Bool.false, PySem.Value.int 181 0, PySem.Value.ref 170, PySem.Value.none, PySem.Value.none, PySem.Value.none, PySem.Value.none, PySem.Value.int 393 0, PySem.Value.int 60 0, PySem.Value.str (Sx "/claim/cut.py") 394]) #[]
noncomputable def ob171 (P : PySem.Params) : PySem.Obj := PySem.Obj.mk (PySem.Value.type "frame") Option.none PySem.Data.plain #[Option.some (PySem.Value.ref 171), Option.some (PySem.Value.ref 3), Option.some (PySem.Value.ref 168), Option.none, Option.some (PySem.Value.str (Sx "outlinemill.patterns") 372), Option.none, Option.some (PySem.Value.ref 0)]
noncomputable def ob172 (P : PySem.Params) : PySem.Obj := PySem.Obj.mk (PySem.Value.type "tuple") Option.none (PySem.Data.seq #[]) #[]
noncomputable def ob173 (P : PySem.Params) : PySem.Obj := PySem.Obj.mk PySem.Value.none Option.none (PySem.Data.fields #[]) #[]
noncomputable def ob174 (P : PySem.Params) : PySem.Obj := PySem.Obj.mk (PySem.Value.type "tuple") Option.none (PySem.Data.seq #[PySem.Value.str (Sx "self") 403, PySem.Value.str (Sx "canvas") 404, PySem.Value.str (Sx "inverse") 405, PySem.Value.str (Sx "width") 406, PySem.Value.str (Sx "height") 407]) #[]
noncomputable def ob175 (P : PySem.Params) : PySem.Obj := PySem.Obj.mk (PySem.Value.type "tuple") Option.none (PySem.Data.seq #[]) #[]
noncomputable def ob176 (P : PySem.Params) : PySem.Obj := PySem.Obj.mk PySem.Value.none Option.none (PySem.Data.func (PySem.FuncData.mk (Sx "__init__") (Sx "Pattern.__init__") (mAr 24 0) (PySem.FuncBody.stmts (mBo 24 0)) (mSc 24 0) 0 [] PySem.Value.none PySem.Value.none PySem.Value.none PySem.Value.none Option.none PySem.Value.none PySem.Value.none 0)) #[]
noncomputable def ob177 (P : PySem.Params) : PySem.Obj := PySem.Obj.mk (PySem.Value.type "code") Option.none (PySem.Data.fields #[PySem.Value.str (Sx "__init__") 400, PySem.Value.str (Sx "Pattern.__init__") 401, PySem.Value.str (Sx "/claim/cut.py") 402, PySem.Value.int 62 0, PySem.Value.int 5 0, PySem.Value.int 0 0, PySem.Value.int 0 0, PySem.Value.int 3 0, PySem.Value.ref 173, PySem.Value.bool Bool.true, PySem.Value.int 181 0, PySem.Value.ref 174, PySem.Value.none, PySem.Value.ref 175, PySem.Value.ref 176, PySem.Value.ref 177, PySem.Value.int 408 0, PySem.Value.int 62 0, PySem.Value.str (Sx "/claim/cut.py") 409]) #[]
noncomputable def ob178 (P : PySem.Params) : PySem.Obj := PySem.Obj.mk (PySem.Value.type "function") Option.none (PySem.Data.func (PySem.FuncData.mk (Sx "__init__") (Sx "Pattern.__init__") (mAr 24 0) (PySem.FuncBody.stmts (mBo 24 0)) (mSc 24 0) 3 [] PySem.Value.none PySem.Value.none PySem.Value.none (PySem.Value.str (Sx "outlinemill.patterns") 372) Option.none (PySem.Value.ref 178) PySem.Value.none 0)) #[]
noncomputable def ob179 (P : PySem.Params) : PySem.Obj := PySem.Obj.mk (PySem.Value.type "tuple") Option.none (PySem.Data.seq #[]) #[]
noncomputable def ob180 (P : PySem.Params) : PySem.Obj := PySem.Obj.mk PySem.Value.none Option.none (PySem.Data.fields #[]) #[]
noncomputable def ob181 (P : PySem.Params) : PySem.Obj := PySem.Obj.mk (PySem.Value.type "tuple") Option.none (PySem.Data.seq #[PySem.Value.str (Sx "self") 414]) #[]
noncomputable def ob182 (P : PySem.Params) : PySem.Obj := PySem.Obj.mk (PySem.Value.type "tuple") Option.none (PySem.Data.seq #[]) #[]
noncomputable def ob183 (P : PySem.Params) : PySem.Obj := PySem.Obj.mk PySem.Value.none Option.none (PySem.Data.func (PySem.FuncData.mk (Sx "is_empty") (Sx "Pattern.is_empty") (mAr 24 1) (PySem.FuncBody.stmts (mBo 24 1)) (mSc 24 1) 0 [] PySem.Value.none PySem.Value.none PySem.Value.none PySem.Value.none Option.none PySem.Value.none PySem.Value.none 0)) #[]
noncomputable def ob184 (P : PySem.Params) : PySem.Obj := PySem.Obj.mk (PySem.Value.type "code") Option.none (PySem.Data.fields #[PySem.Value.str (Sx "is_empty") 411, PySem.Value.str (Sx "Pattern.is_empty") 412, PySem.Value.str (Sx "/claim/cut.py") 413, PySem.Value.int 68 0, PySem.Value.int 1 0, PySem.Value.int 0 0, PySem.Value.int 0 0, PySem.Value.int 3 0, PySem.Value.ref 180, PySem.Value.bool Bool.true, PySem.Value.int 181 0, PySem.Value.ref 181, PySem.Value.none, PySem.Value.ref 182, PySem.Value.ref 183, PySem.Value.ref 184, PySem.Value.int 415 0, PySem.Value.int 68 0, PySem.Value.str (Sx "/claim/cut.py") 416]) #[]
noncomputable def ob185 (P : PySem.Params) : PySem.Obj := PySem.Obj.mk (PySem.Value.type "function") Option.none (PySem.Data.func (PySem.FuncData.mk (Sx "is_empty") (Sx "Pattern.is_empty") (mAr 24 1) (PySem.FuncBody.stmts (mBo 24 1)) (mSc 24 1) 3 [] PySem.Value.none PySem.Value.none PySem.Value.none (PySem.Value.str (Sx "outlinemill.patterns") 372) Option.none (PySem.Value.ref 185) PySem.Value.none 0)) #[]
noncomputable def ob186 (P : PySem.Params) : PySem.Obj := PySem.Obj.mk (PySem.Value.type "tuple") Option.none (PySem.Data.seq #[]) #[]
noncomputable def ob187 (P : PySem.Params) : PySem.Obj := PySem.Obj.mk PySem.Value.none Option.none (PySem.Data.fields #[]) #[]
noncomputable def ob188 (P : PySem.Params) : PySem.Obj := PySem.Obj.mk (PySem.Value.type "tuple") Option.none (PySem.Data.seq #[PySem.Value.str (Sx "self") 421, PySem.Value.str (Sx "place") 422, PySem.Value.str (Sx "size") 423, PySem.Value.str (Sx "many") 424]) #[]
noncomputable def ob189 (P : PySem.Params) : PySem.Obj := PySem.Obj.mk (PySem.Value.type "tuple") Option.none (PySem.Data.seq #[]) #[]
noncomputable def ob190 (P : PySem.Params) : PySem.Obj := PySem.Obj.mk PySem.Value.none Option.none (PySem.Data.func (PySem.FuncData.mk (Sx "dot_of") (Sx "Pattern.dot_of") (mAr 24 2) (PySem.FuncBody.stmts (mBo 24 2)) (mSc 24 2) 0 [] PySem.Value.none PySem.Value.none PySem.Value.none PySem.Value.none Option.none PySem.Value.none PySem.Value.none 0)) #[]
noncomputable def ob191 (P : PySem.Params) : PySem.Obj := PySem.Obj.mk (PySem.Value.type "code") Option.none (PySem.Data.fields #[PySem.Value.str (Sx "dot_of") 418, PySem.Value.str (Sx "Pattern.dot_of") 419, PySem.Value.str (Sx "/claim/cut.py") 420, PySem.Value.int 73 0, PySem.Value.int 4 0, PySem.Value.int 0 0, PySem.Value.int 0 0, PySem.Value.int 3 0, PySem.Value.ref 187, PySem.Value.bool Bool.true, PySem.Value.int 181 0, PySem.Value.ref 188, PySem.Value.none, PySem.Value.ref 189, PySem.Value.ref 190, PySem.Value.ref 191, PySem.Value.int 425 0, PySem.Value.int 73 0, PySem.Value.str (Sx "/claim/cut.py") 426]) #[]
noncomputable def ob192 (P : PySem.Params) : PySem.Obj := PySem.Obj.mk (PySem.Value.type "function") Option.none (PySem.Data.func (PySem.FuncData.mk (Sx "dot_of") (Sx "Pattern.dot_of") (mAr 24 2) (PySem.FuncBody.stmts (mBo 24 2)) (mSc 24 2) 3 [] PySem.Value.none PySem.Value.none PySem.Value.none (PySem.Value.str (Sx "outlinemill.patterns") 372) Option.none (PySem.Value.ref 192) PySem.Value.none 0)) #[]
noncomputable def ob193 (P : PySem.Params) : PySem.Obj := PySem.Obj.mk (PySem.Value.type "tuple") Option.none (PySem.Data.seq #[]) #[]
noncomputable def ob194 (P : PySem.Params) : PySem.Obj := PySem.Obj.mk PySem.Value.none Option.none (PySem.Data.fields #[]) #[]
noncomputable def ob195 (P : PySem.Params) : PySem.Obj := PySem.Obj.mk (PySem.Value.type "tuple") Option.none (PySem.Data.seq #[PySem.Value.str (Sx "self") 431, PySem.Value.str (Sx "x") 432, PySem.Value.str (Sx "y") 433, PySem.Value.str (Sx "place") 434, PySem.Value.str (Sx "column") 435, PySem.Value.str (Sx "row") 436]) #[]
noncomputable def ob196 (P : PySem.Params) : PySem.Obj := PySem.Obj.mk (PySem.Value.type "tuple") Option.none (PySem.Data.seq #[]) #[]
noncomputable def ob197 (P : PySem.Params) : PySem.Obj := PySem.Obj.mk PySem.Value.none Option.none (PySem.Data.func (PySem.FuncData.mk (Sx "colour_at") (Sx "Pattern.colour_at") (mAr 24 3) (PySem.FuncBody.stmts (mBo 24 3)) (mSc 24 3) 0 [] PySem.Value.none PySem.Value.none PySem.Value.none PySem.Value.none Option.none PySem.Value.none PySem.Value.none 0)) #[]
noncomputable def ob198 (P : PySem.Params) : PySem.Obj := PySem.Obj.mk (PySem.Value.type "code") Option.none (PySem.Data.fields #[PySem.Value.str (Sx "colour_at") 428, PySem.Value.str (Sx "Pattern.colour_at") 429, PySem.Value.str (Sx "/claim/cut.py") 430, PySem.Value.int 76 0, PySem.Value.int 3 0, PySem.Value.int 0 0, PySem.Value.int 0 0, PySem.Value.int 3 0, PySem.Value.ref 194, PySem.Value.bool Bool.true, PySem.Value.int 181 0, PySem.Value.ref 195, PySem.Value.none, PySem.Value.ref 196, PySem.Value.ref 197, PySem.Value.ref 198, PySem.Value.int 437 0, PySem.Value.int 76 0, PySem.Value.str (Sx "/claim/cut.py") 438]) #[]
noncomputable def ob199 (P : PySem.Params) : PySem.Obj := PySem.Obj.mk (PySem.Value.type "function") Option.none (PySem.Data.func (PySem.FuncData.mk (Sx "colour_at") (Sx "Pattern.colour_at") (mAr 24 3) (PySem.FuncBody.stmts (mBo 24 3)) (mSc 24 3) 3 [] PySem.Value.none PySem.Value.none PySem.Value.none (PySem.Value.str (Sx "outlinemill.patterns") 372) Option.none (PySem.Value.ref 199) PySem.Value.none 0)) #[]
noncomputable def ob200 (P : PySem.Params) : PySem.Obj := PySem.Obj.mk (PySem.Value.type "tuple") Option.none (PySem.Data.seq #[PySem.Value.str (Sx "canvas") 440, PySem.Value.str (Sx "height") 441, PySem.Value.str (Sx "inverse") 442, PySem.Value.str (Sx "width") 443]) #[]
noncomputable def ob201 (P : PySem.Params) : PySem.Obj := PySem.Obj.mk (PySem.Value.type "dict") Option.none (PySem.Data.dict #[kEn P (Sx "__module__") 395 (PySem.Value.str (Sx "outlinemill.patterns") 372), kEn P (Sx "__firstlineno__") 399 (PySem.Value.int 60 398), kEn P (Sx "__init__") 410 (PySem.Value.ref 179), kEn P (Sx "is_empty") 417 (PySem.Value.ref 186), kEn P (Sx "dot_of") 427 (PySem.Value.ref 193), kEn P (Sx "colour_at") 439 (PySem.Value.ref 200), kEn P (Sx "__static_attributes__") 444 (PySem.Value.ref 201), kEn P (Sx "__dict__") 446 (PySem.Value.ref 204), kEn P (Sx "__weakref__") 448 (PySem.Value.ref 205), kEn P (Sx "__doc__") 449 PySem.Value.none] 4) #[]
noncomputable def ob202 (P : PySem.Params) : PySem.Obj := PySem.Obj.mk (PySem.Value.type "type") Option.none (PySem.Data.cls (PySem.ClassData.mk (Sx "Pattern") [PySem.Value.type "object"] [PySem.Value.ref 203, PySem.Value.type "object"] 202 (Sx "Pattern") Bool.true [] [] Bool.false Option.none Bool.false)) #[Option.none, Option.none, Option.some (PySem.Value.str (Sx "Pattern") 388), Option.some (PySem.Value.str (Sx "Pattern") 396), Option.some (PySem.Value.builtin "object.__new__"), Option.some (PySem.Value.bool Bool.true)]
noncomputable def ob203 (P : PySem.Params) : PySem.Obj := PySem.Obj.mk (PySem.Value.type "getset_descriptor") Option.none (PySem.Data.fields #[PySem.Value.str (Sx "__dict__") 445, PySem.Value.ref 203, PySem.Value.builtin "function.__dict__", PySem.Value.builtin "function.__dict__#set"]) #[]
noncomputable def ob204 (P : PySem.Params) : PySem.Obj := PySem.Obj.mk (PySem.Value.type "getset_descriptor") Option.none (PySem.Data.fields #[PySem.Value.str (Sx "__weakref__") 447, PySem.Value.ref 203, PySem.Value.builtin "ExceptionGroup.__weakref__", PySem.Value.none]) #[]
noncomputable def ob205 (P : PySem.Params) : PySem.Obj := PySem.Obj.mk (PySem.Value.type "super") Option.none (PySem.Data.fields #[PySem.Value.ref 203, PySem.Value.ref 203, PySem.Value.ref 203]) #[]
noncomputable def ob206 (P : PySem.Params) : PySem.Obj := PySem.Obj.mk (PySem.Value.type "builtin_function_or_method") Option.none (PySem.Data.fields #[PySem.Value.builtin "object.__init_subclass__", PySem.Value.ref 203]) #[]
noncomputable def ob207 (P : PySem.Params) : PySem.Obj := PySem.Obj.mk (PySem.Value.type "tuple") Option.none (PySem.Data.seq #[PySem.Value.int 0 454, PySem.Value.int 0 455, PySem.Value.int 0 456, PySem.Value.int 0 457]) #[]
noncomputable def t4 (P : PySem.Params) : BT := (N (PySem.W.boot_o_0 P) (N (PySem.W.boot_o_1 P) (N (ob163 P) (N (PySem.W.boot_o_7 P) (N (ob7 P) (N (ob23 P) (N (ob58 P) (N (ob124 P) L L) (N (ob190 P) L L)) (N (ob92 P) (N (ob156 P) L L) L)) (N (ob39 P) (N (ob74 P) (N (ob140 P) L L) (N (ob206 P) L L)) (N (ob108 P) (N (ob174 P) L L) L))) (N (ob15 P) (N (ob31 P) (N (ob66 P) (N (ob132 P) L L) (N (ob198 P) L L)) (N (ob100 P) (N (ob166 P) L L) L)) (N (ob50 P) (N (ob84 P) (N (ob148 P) L L) L) (N (ob116 P) (N (ob182 P) L L) L)))) (N (ob0 P) (N (ob11 P) (N (ob27 P) (N (ob62 P) (N (ob128 P) L L) (N (ob194 P) L L)) (N (ob96 P) (N (ob160 P) L L) L)) (N (ob43 P) (N (ob80 P) (N (ob144 P) L L) L) (N (ob112 P) (N (ob178 P) L L) L))) (N (ob19 P) (N (ob35 P) (N (ob70 P) (N (ob136 P) L L) (N (ob202 P) L L)) (N (ob104 P) (N (ob170 P) L L) L)) (N (ob54 P) (N (ob88 P) (N (ob152 P) L L) L) (N (ob120 P) (N (ob186 P) L L) L))))) (N (PySem.W.boot_o_5 P) (N (PySem.W.boot_o_9 P) (N (ob9 P) (N (ob25 P) (N (ob60 P) (N (ob126 P) L L) (N (ob192 P) L L)) (N (ob94 P) (N (ob158 P) L L) L)) (N (ob41 P) (N (ob78 P) (N (ob142 P) L L) L) (N (ob110 P) (N (ob176 P) L L) L))) (N (ob17 P) (N (ob33 P) (N (ob68 P) (N (ob134 P) L L) (N (ob200 P) L L)) (N (ob102 P) (N (ob168 P) L L) L)) (N (ob52 P) (N (ob86 P) (N (ob150 P) L L) L) (N (ob118 P) (N (ob184 P) L L) L)))) (N (ob2 P) (N (ob13 P) (N (ob29 P) (N (ob64 P) (N (ob130 P) L L) (N (ob196 P) L L)) (N (ob98 P) (N (ob162 P) L L) L)) (N (ob45 P) (N (ob82 P) (N (ob146 P) L L) L) (N (ob114 P) (N (ob180 P) L L) L))) (N (ob21 P) (N (ob37 P) (N (ob72 P) (N (ob138 P) L L) (N (ob204 P) L L)) (N (ob106 P) (N (ob172 P) L L) L)) (N (ob56 P) (N (ob90 P) (N (ob154 P) L L) L) (N (ob122 P) (N (ob188 P) L L) L)))))) (N (ob4 P) (N (PySem.W.boot_o_4 P) (N (PySem.W.boot_o_8 P) (N (ob8 P) (N (ob24 P) (N (ob59 P) (N (ob125 P) L L) (N (ob191 P) L L)) (N (ob93 P) (N (ob157 P) L L) L)) (N (ob40 P) (N (ob77 P) (N (ob141 P) L L) (N (ob207 P) L L)) (N (ob109 P) (N (ob175 P) L L) L))) (N (ob16 P) (N (ob32 P) (N (ob67 P) (N (ob133 P) L L) (N (ob199 P) L L)) (N (ob101 P) (N (ob167 P) L L) L)) (N (ob51 P) (N (ob85 P) (N (ob149 P) L L) L) (N (ob117 P) (N (ob183 P) L L) L)))) (N (ob164 P) (N (ob12 P) (N (ob28 P) (N (ob63 P) (N (ob129 P) L L) (N (ob195 P) L L)) (N (ob97 P) (N (ob161 P) L L) L)) (N (ob44 P) (N (ob81 P) (N (ob145 P) L L) L) (N (ob113 P) (N (ob179 P) L L) L))) (N (ob20 P) (N (ob36 P) (N (ob71 P) (N (ob137 P) L L) (N (ob203 P) L L)) (N (ob105 P) (N (ob171 P) L L) L)) (N (ob55 P) (N (ob89 P) (N (ob153 P) L L) L) (N (ob121 P) (N (ob187 P) L L) L))))) (N (PySem.W.boot_o_6 P) (N (PySem.W.boot_o_10 P) (N (ob10 P) (N (ob26 P) (N (ob61 P) (N (ob127 P) L L) (N (ob193 P) L L)) (N (ob95 P) (N (ob159 P) L L) L)) (N (ob42 P) (N (ob79 P) (N (ob143 P) L L) L) (N (ob111 P) (N (ob177 P) L L) L))) (N (ob18 P) (N (ob34 P) (N (ob69 P) (N (ob135 P) L L) (N (ob201 P) L L)) (N (ob103 P) (N (ob169 P) L L) L)) (N (ob53 P) (N (ob87 P) (N (ob151 P) L L) L) (N (ob119 P) (N (ob185 P) L L) L)))) (N (ob3 P) (N (ob14 P) (N (ob48 P) (N (ob65 P) (N (ob131 P) L L) (N (ob197 P) L L)) (N (ob99 P) (N (ob165 P) L L) L)) (N (ob49 P) (N (ob83 P) (N (ob147 P) L L) L) (N (ob115 P) (N (ob181 P) L L) L))) (N (ob22 P) (N (ob38 P) (N (ob73 P) (N (ob139 P) L L) (N (ob205 P) L L)) (N (ob107 P) (N (ob173 P) L L) L)) (N (ob57 P) (N (ob91 P) (N (ob155 P) L L) L) (N (ob123 P) (N (ob189 P) L L) L)))))))
noncomputable abbrev nt4 : Nat := 209
noncomputable abbrev ps4 : PySem.Pos := PySem.Pos.mk 84 0 84 7
noncomputable abbrev tk4 : Nat := 459
noncomputable def sts4 : List PySem.Stmt := (bdy.drop 24).take 3 -- 352 steps
noncomputable def ob208 (P : PySem.Params) : PySem.Obj := PySem.Obj.mk (PySem.Value.type "dict") Option.none (PySem.Data.dict #[kEn P (Sx "__name__") 165 (PySem.Value.str (Sx "outlinemill.canvas") 452), kEn P (Sx "__doc__") 166 PySem.Value.none, kEn P (Sx "__package__") 167 PySem.Value.none, kEn P (Sx "__loader__") 168 (PySem.Value.builtin "__main__.__loader__#opaque"), kEn P (Sx "__spec__") 169 PySem.Value.none, kEn P (Sx "__annotations__") 170 (PySem.Value.ref 6), kEn P (Sx "__builtins__") 171 (PySem.Value.ref 4), kEn P (Sx "__file__") 173 (PySem.Value.str (Sx "/claim/cut.py") 172), kEn P (Sx "__cached__") 174 PySem.Value.none, kEn P (Sx "_wall") 193 (PySem.Value.ref 21), kEn P (Sx "MillError") 224 (PySem.Value.ref 38), kEn P (Sx "NumberFault") 240 (PySem.Value.ref 51), kEn P (Sx "MatrixFault") 256 (PySem.Value.ref 63), kEn P (Sx "SizeFault") 272 (PySem.Value.ref 75), kEn P (Sx "ZERO") 277 (PySem.Value.ref 78), kEn P (Sx "ONE") 280 (PySem.Value.ref 79), kEn P (Sx "common_divisor") 290 (PySem.Value.ref 86), kEn P (Sx "fraction") 300 (PySem.Value.ref 94), kEn P (Sx "plus") 308 (PySem.Value.ref 101), kEn P (Sx "minus") 316 (PySem.Value.ref 108), kEn P (Sx "times") 324 (PySem.Value.ref 115), kEn P (Sx "divided") 332 (PySem.Value.ref 122), kEn P (Sx "negated") 339 (PySem.Value.ref 129), kEn P (Sx "sign_of") 346 (PySem.Value.ref 136), kEn P (Sx "compare") 354 (PySem.Value.ref 143), kEn P (Sx "floor_of") 361 (PySem.Value.ref 150), kEn P (Sx "middle_of") 371 (PySem.Value.ref 157), kEn P (Sx "CLEAR") 378 (PySem.Value.ref 158), kEn P (Sx "within") 387 (PySem.Value.ref 165), kEn P (Sx "Pattern") 451 (PySem.Value.ref 203), kEn P (Sx "NOTHING") 458 (PySem.Value.ref 208), kEn P (Sx "Canvas") 555 (PySem.Value.ref 278)] 32) #[]
noncomputable def ob209 (P : PySem.Params) : PySem.Obj := PySem.Obj.mk PySem.Value.none Option.none (PySem.Data.fields #[PySem.Value.int 1 0, PySem.Value.int 0 0, PySem.Value.ref 20, PySem.Value.int 5 0, PySem.Value.int 0 0, PySem.Value.ref 27, PySem.Value.int 9 0, PySem.Value.int 0 0, PySem.Value.ref 47, PySem.Value.int 11 0, PySem.Value.int 0 0, PySem.Value.ref 59, PySem.Value.int 13 0, PySem.Value.int 0 0, PySem.Value.ref 71, PySem.Value.int 18 0, PySem.Value.int 0 0, PySem.Value.ref 85, PySem.Value.int 23 0, PySem.Value.int 0 0, PySem.Value.ref 93, PySem.Value.int 30 0, PySem.Value.int 0 0, PySem.Value.ref 100, PySem.Value.int 32 0, PySem.Value.int 0 0, PySem.Value.ref 107, PySem.Value.int 34 0, PySem.Value.int 0 0, PySem.Value.ref 114, PySem.Value.int 36 0, PySem.Value.int 0 0, PySem.Value.ref 121, PySem.Value.int 40 0, PySem.Value.int 0 0, PySem.Value.ref 128, PySem.Value.int 42 0, PySem.Value.int 0 0, PySem.Value.ref 135, PySem.Value.int 48 0, PySem.Value.int 0 0, PySem.Value.ref 142, PySem.Value.int 50 0, PySem.Value.int 0 0, PySem.Value.ref 149, PySem.Value.int 53 0, PySem.Value.int 0 0, PySem.Value.ref 156, PySem.Value.int 57 0, PySem.Value.int 0 0, PySem.Value.ref 164, PySem.Value.int 60 0, PySem.Value.int 0 0, PySem.Value.ref 171, PySem.Value.int 85 0, PySem.Value.int 0 0, PySem.Value.ref 214]) #[]
noncomputable def ob210 (P : PySem.Params) : PySem.Obj := PySem.Obj.mk (PySem.Value.type "tuple") Option.none (PySem.Data.seq #[]) #[]
noncomputable def ob211 (P : PySem.Params) : PySem.Obj := PySem.Obj.mk (PySem.Value.type "builtin_function_or_method") Option.none (PySem.Data.fields #[PySem.Value.builtin "type.__prepare__", PySem.Value.type "type"]) #[]
noncomputable def ob212 (P : PySem.Params) : PySem.Obj := PySem.Obj.mk (PySem.Value.type "dict") Option.none (PySem.Data.dict #[kEn P (Sx "__module__") 466 (PySem.Value.str (Sx "outlinemill.canvas") 452), kEn P (Sx "__qualname__") 468 (PySem.Value.str (Sx "Canvas") 467), kEn P (Sx "__firstlineno__") 470 (PySem.Value.int 85 469), kEn P (Sx "__init__") 478 (PySem.Value.ref 221), kEn P (Sx "holds") 487 (PySem.Value.ref 228), kEn P (Sx "get") 496 (PySem.Value.ref 235), kEn P (Sx "put") 506 (PySem.Value.ref 242), kEn P (Sx "fill") 514 (PySem.Value.ref 249), kEn P (Sx "rows") 521 (PySem.Value.ref 256), kEn P (Sx "places") 527 (PySem.Value.ref 261), kEn P (Sx "like") 534 (PySem.Value.ref 268), kEn P (Sx "take") 542 (PySem.Value.ref 275), kEn P (Sx "__static_attributes__") 548 (PySem.Value.ref 276)] 13) #[]
noncomputable def ob213 (P : PySem.Params) : PySem.Obj := PySem.Obj.mk (PySem.Value.type "tuple") Option.none (PySem.Data.seq #[]) #[]
noncomputable def ob214 (P : PySem.Params) : PySem.Obj := PySem.Obj.mk PySem.Value.none Option.none (PySem.Data.fields #[PySem.Value.int 87 0, PySem.Value.int 4 0, PySem.Value.ref 220, PySem.Value.int 96 0, PySem.Value.int 4 0, PySem.Value.ref 227, PySem.Value.int 99 0, PySem.Value.int 4 0, PySem.Value.ref 234, PySem.Value.int 102 0, PySem.Value.int 4 0, PySem.Value.ref 241, PySem.Value.int 107 0, PySem.Value.int 4 0, PySem.Value.ref 248, PySem.Value.int 110 0, PySem.Value.int 4 0, PySem.Value.ref 255, PySem.Value.int 113 0, PySem.Value.int 4 0, PySem.Value.ref 260, PySem.Value.int 119 0, PySem.Value.int 4 0, PySem.Value.ref 267, PySem.Value.int 122 0, PySem.Value.int 4 0, PySem.Value.ref 274]) #[]
noncomputable def ob215 (P : PySem.Params) : PySem.Obj := PySem.Obj.mk (PySem.Value.type "code") Option.none (PySem.Data.fields #[PySem.Value.str (Sx "Canvas") 461, PySem.Value.str (Sx "Canvas") 462, PySem.Value.str (Sx "/claim/cut.py") 463, PySem.Value.int 85 0, PySem.Value.int 0 0, PySem.Value.int 0 0, PySem.Value.int 0 0, PySem.Value.int 0 0, PySem.Value.ref 212, PySem.Value.bool Bool.false, PySem.Value.int 181 0, PySem.Value.ref 213, PySem.Value.none, PySem.Value.none, PySem.Value.none, PySem.Value.none, PySem.Value.int 464 0, PySem.Value.int 85 0, PySem.Value.str (Sx "/claim/cut.py") 465]) #[]
noncomputable def ob216 (P : PySem.Params) : PySem.Obj := PySem.Obj.mk (PySem.Value.type "frame") Option.none PySem.Data.plain #[Option.some (PySem.Value.ref 214), Option.some (PySem.Value.ref 3), Option.some (PySem.Value.ref 211), Option.none, Option.some (PySem.Value.str (Sx "outlinemill.canvas") 452), Option.none, Option.some (PySem.Value.ref 0)]
noncomputable def ob217 (P : PySem.Params) : PySem.Obj := PySem.Obj.mk (PySem.Value.type "tuple") Option.none (PySem.Data.seq #[PySem.Value.int 0 471, PySem.Value.int 0 472]) #[]
noncomputable def ob218 (P : PySem.Params) : PySem.Obj := PySem.Obj.mk (PySem.Value.type "tuple") Option.none (PySem.Data.seq #[]) #[]
noncomputable def ob219 (P : PySem.Params) : PySem.Obj := PySem.Obj.mk PySem.Value.none Option.none (PySem.Data.fields #[]) #[]
noncomputable def ob220 (P : PySem.Params) : PySem.Obj := PySem.Obj.mk PySem.Value.none Option.none (PySem.Data.func (PySem.FuncData.mk (Sx "__init__") (Sx "Canvas.__init__") (mAr 27 0) (PySem.FuncBody.stmts (mBo 27 0)) (mSc 27 0) 0 [] PySem.Value.none PySem.Value.none PySem.Value.none PySem.Value.none Option.none PySem.Value.none PySem.Value.none 0)) #[]
noncomputable def ob221 (P : PySem.Params) : PySem.Obj := PySem.Obj.mk (PySem.Value.type "code") Option.none (PySem.Data.fields #[PySem.Value.str (Sx "__init__") 473, PySem.Value.str (Sx "Canvas.__init__") 474, PySem.Value.str (Sx "/claim/cut.py") 475, PySem.Value.int 87 0, PySem.Value.int 5 0, PySem.Value.int 0 0, PySem.Value.int 0 0, PySem.Value.int 3 0, PySem.Value.ref 217, PySem.Value.bool Bool.true, PySem.Value.int 181 0, PySem.Value.ref 218, PySem.Value.none, PySem.Value.none, PySem.Value.none, PySem.Value.ref 219, PySem.Value.int 476 0, PySem.Value.int 87 0, PySem.Value.str (Sx "/claim/cut.py") 477]) #[]
noncomputable def ob222 (P : PySem.Params) : PySem.Obj := PySem.Obj.mk (PySem.Value.type "function") Option.none (PySem.Data.func (PySem.FuncData.mk (Sx "__init__") (Sx "Canvas.__init__") (mAr 27 0) (PySem.FuncBody.stmts (mBo 27 0)) (mSc 27 0) 3 [] (PySem.Value.ref 216) PySem.Value.none PySem.Value.none (PySem.Value.str (Sx "outlinemill.canvas") 452) Option.none (PySem.Value.ref 220) PySem.Value.none 0)) #[]
noncomputable def ob223 (P : PySem.Params) : PySem.Obj := PySem.Obj.mk (PySem.Value.type "tuple") Option.none (PySem.Data.seq #[]) #[]
noncomputable def ob224 (P : PySem.Params) : PySem.Obj := PySem.Obj.mk PySem.Value.none Option.none (PySem.Data.fields #[]) #[]
noncomputable def ob225 (P : PySem.Params) : PySem.Obj := PySem.Obj.mk (PySem.Value.type "tuple") Option.none (PySem.Data.seq #[PySem.Value.str (Sx "self") 482, PySem.Value.str (Sx "x") 483, PySem.Value.str (Sx "y") 484]) #[]
noncomputable def ob226 (P : PySem.Params) : PySem.Obj := PySem.Obj.mk (PySem.Value.type "tuple") Option.none (PySem.Data.seq #[]) #[]
noncomputable def ob227 (P : PySem.Params) : PySem.Obj := PySem.Obj.mk PySem.Value.none Option.none (PySem.Data.func (PySem.FuncData.mk (Sx "holds") (Sx "Canvas.holds") (mAr 27 1) (PySem.FuncBody.stmts (mBo 27 1)) (mSc 27 1) 0 [] PySem.Value.none PySem.Value.none PySem.Value.none PySem.Value.none Option.none PySem.Value.none PySem.Value.none 0)) #[]
noncomputable def ob228 (P : PySem.Params) : PySem.Obj := PySem.Obj.mk (PySem.Value.type "code") Option.none (PySem.Data.fields #[PySem.Value.str (Sx "holds") 479, PySem.Value.str (Sx "Canvas.holds") 480, PySem.Value.str (Sx "/claim/cut.py") 481, PySem.Value.int 96 0, PySem.Value.int 3 0, PySem.Value.int 0 0, PySem.Value.int 0 0, PySem.Value.int 3 0, PySem.Value.ref 222, PySem.Value.bool Bool.true, PySem.Value.int 181 0, PySem.Value.ref 223, PySem.Value.none, PySem.Value.ref 224, PySem.Value.ref 225, PySem.Value.ref 226, PySem.Value.int 485 0, PySem.Value.int 96 0, PySem.Value.str (Sx "/claim/cut.py") 486]) #[]
noncomputable def ob229 (P : PySem.Params) : PySem.Obj := PySem.Obj.mk (PySem.Value.type "function") Option.none (PySem.Data.func (PySem.FuncData.mk (Sx "holds") (Sx "Canvas.holds") (mAr 27 1) (PySem.FuncBody.stmts (mBo 27 1)) (mSc 27 1) 3 [] PySem.Value.none PySem.Value.none PySem.Value.none (PySem.Value.str (Sx "outlinemill.canvas") 452) Option.none (PySem.Value.ref 227) PySem.Value.none 0)) #[]
noncomputable def ob230 (P : PySem.Params) : PySem.Obj := PySem.Obj.mk (PySem.Value.type "tuple") Option.none (PySem.Data.seq #[]) #[]
noncomputable def ob231 (P : PySem.Params) : PySem.Obj := PySem.Obj.mk PySem.Value.none Option.none (PySem.Data.fields #[]) #[]
noncomputable def ob232 (P : PySem.Params) : PySem.Obj := PySem.Obj.mk (PySem.Value.type "tuple") Option.none (PySem.Data.seq #[PySem.Value.str (Sx "self") 491, PySem.Value.str (Sx "x") 492, PySem.Value.str (Sx "y") 493]) #[]
noncomputable def ob233 (P : PySem.Params) : PySem.Obj := PySem.Obj.mk (PySem.Value.type "tuple") Option.none (PySem.Data.seq #[]) #[]
noncomputable def ob234 (P : PySem.Params) : PySem.Obj := PySem.Obj.mk PySem.Value.none Option.none (PySem.Data.func (PySem.FuncData.mk (Sx "get") (Sx "Canvas.get") (mAr 27 2) (PySem.FuncBody.stmts (mBo 27 2)) (mSc 27 2) 0 [] PySem.Value.none PySem.Value.none PySem.Value.none PySem.Value.none Option.none PySem.Value.none PySem.Value.none 0)) #[]
noncomputable def ob235 (P : PySem.Params) : PySem.Obj := PySem.Obj.mk (PySem.Value.type "code") Option.none (PySem.Data.fields #[PySem.Value.str (Sx "get") 488, PySem.Value.str (Sx "Canvas.get") 489, PySem.Value.str (Sx "/claim/cut.py") 490, PySem.Value.int 99 0, PySem.Value.int 3 0, PySem.Value.int 0 0, PySem.Value.int 0 0, PySem.Value.int 3 0, PySem.Value.ref 229, PySem.Value.bool Bool.true, PySem.Value.int 181 0, PySem.Value.ref 230, PySem.Value.none, PySem.Value.ref 231, PySem.Value.ref 232, PySem.Value.ref 233, PySem.Value.int 494 0, PySem.Value.int 99 0, PySem.Value.str (Sx "/claim/cut.py") 495]) #[]
noncomputable def ob236 (P : PySem.Params) : PySem.Obj := PySem.Obj.mk (PySem.Value.type "function") Option.none (PySem.Data.func (PySem.FuncData.mk (Sx "get") (Sx "Canvas.get") (mAr 27 2) (PySem.FuncBody.stmts (mBo 27 2)) (mSc 27 2) 3 [] PySem.Value.none PySem.Value.none PySem.Value.none (PySem.Value.str (Sx "outlinemill.canvas") 452) Option.none (PySem.Value.ref 234) PySem.Value.none 0)) #[]
noncomputable def ob237 (P : PySem.Params) : PySem.Obj := PySem.Obj.mk (PySem.Value.type "tuple") Option.none (PySem.Data.seq #[]) #[]
noncomputable def ob238 (P : PySem.Params) : PySem.Obj := PySem.Obj.mk PySem.Value.none Option.none (PySem.Data.fields #[]) #[]
noncomputable def ob239 (P : PySem.Params) : PySem.Obj := PySem.Obj.mk (PySem.Value.type "tuple") Option.none (PySem.Data.seq #[PySem.Value.str (Sx "self") 500, PySem.Value.str (Sx "x") 501, PySem.Value.str (Sx "y") 502, PySem.Value.str (Sx "colour") 503]) #[]
noncomputable def ob240 (P : PySem.Params) : PySem.Obj := PySem.Obj.mk (PySem.Value.type "tuple") Option.none (PySem.Data.seq #[]) #[]
noncomputable def ob241 (P : PySem.Params) : PySem.Obj := PySem.Obj.mk PySem.Value.none Option.none (PySem.Data.func (PySem.FuncData.mk (Sx "put") (Sx "Canvas.put") (mAr 27 3) (PySem.FuncBody.stmts (mBo 27 3)) (mSc 27 3) 0 [] PySem.Value.none PySem.Value.none PySem.Value.none PySem.Value.none Option.none PySem.Value.none PySem.Value.none 0)) #[]
noncomputable def ob242 (P : PySem.Params) : PySem.Obj := PySem.Obj.mk (PySem.Value.type "code") Option.none (PySem.Data.fields #[PySem.Value.str (Sx "put") 497, PySem.Value.str (Sx "Canvas.put") 498, PySem.Value.str (Sx "/claim/cut.py") 499, PySem.Value.int 102 0, PySem.Value.int 4 0, PySem.Value.int 0 0, PySem.Value.int 0 0, PySem.Value.int 3 0, PySem.Value.ref 236, PySem.Value.bool Bool.true, PySem.Value.int 181 0, PySem.Value.ref 237, PySem.Value.none, PySem.Value.ref 238, PySem.Value.ref 239, PySem.Value.ref 240, PySem.Value.int 504 0, PySem.Value.int 102 0, PySem.Value.str (Sx "/claim/cut.py") 505]) #[]
noncomputable def ob243 (P : PySem.Params) : PySem.Obj := PySem.Obj.mk (PySem.Value.type "function") Option.none (PySem.Data.func (PySem.FuncData.mk (Sx "put") (Sx "Canvas.put") (mAr 27 3) (PySem.FuncBody.stmts (mBo 27 3)) (mSc 27 3) 3 [] PySem.Value.none PySem.Value.none PySem.Value.none (PySem.Value.str (Sx "outlinemill.canvas") 452) Option.none (PySem.Value.ref 241) PySem.Value.none 0)) #[]
noncomputable def ob244 (P : PySem.Params) : PySem.Obj := PySem.Obj.mk (PySem.Value.type "tuple") Option.none (PySem.Data.seq #[]) #[]
noncomputable def ob245 (P : PySem.Params) : PySem.Obj := PySem.Obj.mk PySem.Value.none Option.none (PySem.Data.fields #[]) #[]
noncomputable def ob246 (P : PySem.Params) : PySem.Obj := PySem.Obj.mk (PySem.Value.type "tuple") Option.none (PySem.Data.seq #[PySem.Value.str (Sx "self") 510, PySem.Value.str (Sx "colour") 511]) #[]
noncomputable def ob247 (P : PySem.Params) : PySem.Obj := PySem.Obj.mk (PySem.Value.type "tuple") Option.none (PySem.Data.seq #[]) #[]
noncomputable def ob248 (P : PySem.Params) : PySem.Obj := PySem.Obj.mk PySem.Value.none Option.none (PySem.Data.func (PySem.FuncData.mk (Sx "fill") (Sx "Canvas.fill") (mAr 27 4) (PySem.FuncBody.stmts (mBo 27 4)) (mSc 27 4) 0 [] PySem.Value.none PySem.Value.none PySem.Value.none PySem.Value.none Option.none PySem.Value.none PySem.Value.none 0)) #[]
noncomputable def ob249 (P : PySem.Params) : PySem.Obj := PySem.Obj.mk (PySem.Value.type "code") Option.none (PySem.Data.fields #[PySem.Value.str (Sx "fill") 507, PySem.Value.str (Sx "Canvas.fill") 508, PySem.Value.str (Sx "/claim/cut.py") 509, PySem.Value.int 107 0, PySem.Value.int 2 0, PySem.Value.int 0 0, PySem.Value.int 0 0, PySem.Value.int 3 0, PySem.Value.ref 243, PySem.Value.bool Bool.true, PySem.Value.int 181 0, PySem.Value.ref 244, PySem.Value.none, PySem.Value.ref 245, PySem.Value.ref 246, PySem.Value.ref 247, PySem.Value.int 512 0, PySem.Value.int 107 0, PySem.Value.str (Sx "/claim/cut.py") 513]) #[]
noncomputable def ob250 (P : PySem.Params) : PySem.Obj := PySem.Obj.mk (PySem.Value.type "function") Option.none (PySem.Data.func (PySem.FuncData.mk (Sx "fill") (Sx "Canvas.fill") (mAr 27 4) (PySem.FuncBody.stmts (mBo 27 4)) (mSc 27 4) 3 [] PySem.Value.none PySem.Value.none PySem.Value.none (PySem.Value.str (Sx "outlinemill.canvas") 452) Option.none (PySem.Value.ref 248) PySem.Value.none 0)) #[]
noncomputable def ob251 (P : PySem.Params) : PySem.Obj := PySem.Obj.mk (PySem.Value.type "tuple") Option.none (PySem.Data.seq #[]) #[]
noncomputable def ob252 (P : PySem.Params) : PySem.Obj := PySem.Obj.mk PySem.Value.none Option.none (PySem.Data.fields #[]) #[]
noncomputable def ob253 (P : PySem.Params) : PySem.Obj := PySem.Obj.mk (PySem.Value.type "tuple") Option.none (PySem.Data.seq #[PySem.Value.str (Sx "self") 518]) #[]
noncomputable def ob254 (P : PySem.Params) : PySem.Obj := PySem.Obj.mk (PySem.Value.type "tuple") Option.none (PySem.Data.seq #[]) #[]
noncomputable def ob255 (P : PySem.Params) : PySem.Obj := PySem.Obj.mk PySem.Value.none Option.none (PySem.Data.func (PySem.FuncData.mk (Sx "rows") (Sx "Canvas.rows") (mAr 27 5) (PySem.FuncBody.stmts (mBo 27 5)) (mSc 27 5) 0 [] PySem.Value.none PySem.Value.none PySem.Value.none PySem.Value.none Option.none PySem.Value.none PySem.Value.none 0)) #[]
noncomputable def ob256 (P : PySem.Params) : PySem.Obj := PySem.Obj.mk (PySem.Value.type "code") Option.none (PySem.Data.fields #[PySem.Value.str (Sx "rows") 515, PySem.Value.str (Sx "Canvas.rows") 516, PySem.Value.str (Sx "/claim/cut.py") 517, PySem.Value.int 110 0, PySem.Value.int 1 0, PySem.Value.int 0 0, PySem.Value.int 0 0, PySem.Value.int 3 0, PySem.Value.ref 250, PySem.Value.bool Bool.true, PySem.Value.int 181 0, PySem.Value.ref 251, PySem.Value.none, PySem.Value.ref 252, PySem.Value.ref 253, PySem.Value.ref 254, PySem.Value.int 519 0, PySem.Value.int 110 0, PySem.Value.str (Sx "/claim/cut.py") 520]) #[]
noncomputable def ob257 (P : PySem.Params) : PySem.Obj := PySem.Obj.mk (PySem.Value.type "function") Option.none (PySem.Data.func (PySem.FuncData.mk (Sx "rows") (Sx "Canvas.rows") (mAr 27 5) (PySem.FuncBody.stmts (mBo 27 5)) (mSc 27 5) 3 [] PySem.Value.none PySem.Value.none PySem.Value.none (PySem.Value.str (Sx "outlinemill.canvas") 452) Option.none (PySem.Value.ref 255) PySem.Value.none 0)) #[]
noncomputable def ob258 (P : PySem.Params) : PySem.Obj := PySem.Obj.mk (PySem.Value.type "tuple") Option.none (PySem.Data.seq #[]) #[]
noncomputable def ob259 (P : PySem.Params) : PySem.Obj := PySem.Obj.mk PySem.Value.none Option.none (PySem.Data.fields #[]) #[]
noncomputable def ob260 (P : PySem.Params) : PySem.Obj := PySem.Obj.mk PySem.Value.none Option.none (PySem.Data.func (PySem.FuncData.mk (Sx "places") (Sx "Canvas.places") (mAr 27 6) (PySem.FuncBody.stmts (mBo 27 6)) (mSc 27 6) 0 [] PySem.Value.none PySem.Value.none PySem.Value.none PySem.Value.none Option.none PySem.Value.none PySem.Value.none 0)) #[]
noncomputable def ob261 (P : PySem.Params) : PySem.Obj := PySem.Obj.mk (PySem.Value.type "code") Option.none (PySem.Data.fields #[PySem.Value.str (Sx "places") 522, PySem.Value.str (Sx "Canvas.places") 523, PySem.Value.str (Sx "/claim/cut.py") 524, PySem.Value.int 113 0, PySem.Value.int 1 0, PySem.Value.int 0 0, PySem.Value.int 0 0, PySem.Value.int 3 0, PySem.Value.ref 257, PySem.Value.bool Bool.true, PySem.Value.int 181 0, PySem.Value.ref 258, PySem.Value.none, PySem.Value.none, PySem.Value.none, PySem.Value.ref 259, PySem.Value.int 525 0, PySem.Value.int 113 0, PySem.Value.str (Sx "/claim/cut.py") 526]) #[]
noncomputable def ob262 (P : PySem.Params) : PySem.Obj := PySem.Obj.mk (PySem.Value.type "function") Option.none (PySem.Data.func (PySem.FuncData.mk (Sx "places") (Sx "Canvas.places") (mAr 27 6) (PySem.FuncBody.stmts (mBo 27 6)) (mSc 27 6) 3 [] PySem.Value.none PySem.Value.none PySem.Value.none (PySem.Value.str (Sx "outlinemill.canvas") 452) Option.none (PySem.Value.ref 260) PySem.Value.none 0)) #[]
noncomputable def ob263 (P : PySem.Params) : PySem.Obj := PySem.Obj.mk (PySem.Value.type "tuple") Option.none (PySem.Data.seq #[]) #[]
noncomputable def ob264 (P : PySem.Params) : PySem.Obj := PySem.Obj.mk PySem.Value.none Option.none (PySem.Data.fields #[]) #[]
noncomputable def ob265 (P : PySem.Params) : PySem.Obj := PySem.Obj.mk (PySem.Value.type "tuple") Option.none (PySem.Data.seq #[PySem.Value.str (Sx "self") 531]) #[]
noncomputable def ob266 (P : PySem.Params) : PySem.Obj := PySem.Obj.mk (PySem.Value.type "tuple") Option.none (PySem.Data.seq #[]) #[]
noncomputable def ob267 (P : PySem.Params) : PySem.Obj := PySem.Obj.mk PySem.Value.none Option.none (PySem.Data.func (PySem.FuncData.mk (Sx "like") (Sx "Canvas.like") (mAr 27 7) (PySem.FuncBody.stmts (mBo 27 7)) (mSc 27 7) 0 [] PySem.Value.none PySem.Value.none PySem.Value.none PySem.Value.none Option.none PySem.Value.none PySem.Value.none 0)) #[]
noncomputable def ob268 (P : PySem.Params) : PySem.Obj := PySem.Obj.mk (PySem.Value.type "code") Option.none (PySem.Data.fields #[PySem.Value.str (Sx "like") 528, PySem.Value.str (Sx "Canvas.like") 529, PySem.Value.str (Sx "/claim/cut.py") 530, PySem.Value.int 119 0, PySem.Value.int 1 0, PySem.Value.int 0 0, PySem.Value.int 0 0, PySem.Value.int 3 0, PySem.Value.ref 262, PySem.Value.bool Bool.true, PySem.Value.int 181 0, PySem.Value.ref 263, PySem.Value.none, PySem.Value.ref 264, PySem.Value.ref 265, PySem.Value.ref 266, PySem.Value.int 532 0, PySem.Value.int 119 0, PySem.Value.str (Sx "/claim/cut.py") 533]) #[]
noncomputable def ob269 (P : PySem.Params) : PySem.Obj := PySem.Obj.mk (PySem.Value.type "function") Option.none (PySem.Data.func (PySem.FuncData.mk (Sx "like") (Sx "Canvas.like") (mAr 27 7) (PySem.FuncBody.stmts (mBo 27 7)) (mSc 27 7) 3 [] PySem.Value.none PySem.Value.none PySem.Value.none (PySem.Value.str (Sx "outlinemill.canvas") 452) Option.none (PySem.Value.ref 267) PySem.Value.none 0)) #[]
noncomputable def ob270 (P : PySem.Params) : PySem.Obj := PySem.Obj.mk (PySem.Value.type "tuple") Option.none (PySem.Data.seq #[]) #[]
noncomputable def ob271 (P : PySem.Params) : PySem.Obj := PySem.Obj.mk PySem.Value.none Option.none (PySem.Data.fields #[]) #[]
noncomputable def ob272 (P : PySem.Params) : PySem.Obj := PySem.Obj.mk (PySem.Value.type "tuple") Option.none (PySem.Data.seq #[PySem.Value.str (Sx "self") 538, PySem.Value.str (Sx "other") 539]) #[]
noncomputable def ob273 (P : PySem.Params) : PySem.Obj := PySem.Obj.mk (PySem.Value.type "tuple") Option.none (PySem.Data.seq #[]) #[]
noncomputable def ob274 (P : PySem.Params) : PySem.Obj := PySem.Obj.mk PySem.Value.none Option.none (PySem.Data.func (PySem.FuncData.mk (Sx "take") (Sx "Canvas.take") (mAr 27 8) (PySem.FuncBody.stmts (mBo 27 8)) (mSc 29 4) 0 [] PySem.Value.none PySem.Value.none PySem.Value.none PySem.Value.none Option.none PySem.Value.none PySem.Value.none 0)) #[]
noncomputable def ob275 (P : PySem.Params) : PySem.Obj := PySem.Obj.mk (PySem.Value.type "code") Option.none (PySem.Data.fields #[PySem.Value.str (Sx "take") 535, PySem.Value.str (Sx "Canvas.take") 536, PySem.Value.str (Sx "/claim/cut.py") 537, PySem.Value.int 122 0, PySem.Value.int 2 0, PySem.Value.int 0 0, PySem.Value.int 0 0, PySem.Value.int 3 0, PySem.Value.ref 269, PySem.Value.bool Bool.true, PySem.Value.int 181 0, PySem.Value.ref 270, PySem.Value.none, PySem.Value.ref 271, PySem.Value.ref 272, PySem.Value.ref 273, PySem.Value.int 540 0, PySem.Value.int 122 0, PySem.Value.str (Sx "/claim/cut.py") 541]) #[]
noncomputable def ob276 (P : PySem.Params) : PySem.Obj := PySem.Obj.mk (PySem.Value.type "function") Option.none (PySem.Data.func (PySem.FuncData.mk (Sx "take") (Sx "Canvas.take") (mAr 27 8) (PySem.FuncBody.stmts (mBo 27 8)) (mSc 29 4) 3 [] PySem.Value.none PySem.Value.none PySem.Value.none (PySem.Value.str (Sx "outlinemill.canvas") 452) Option.none (PySem.Value.ref 274) PySem.Value.none 0)) #[]
noncomputable def ob277 (P : PySem.Params) : PySem.Obj := PySem.Obj.mk (PySem.Value.type "tuple") Option.none (PySem.Data.seq #[PySem.Value.str (Sx "cells") 543, PySem.Value.str (Sx "height") 544, PySem.Value.str (Sx "left") 545, PySem.Value.str (Sx "top") 546, PySem.Value.str (Sx "width") 547]) #[]
noncomputable def ob278 (P : PySem.Params) : PySem.Obj := PySem.Obj.mk (PySem.Value.type "dict") Option.none (PySem.Data.dict #[kEn P (Sx "__module__") 466 (PySem.Value.str (Sx "outlinemill.canvas") 452), kEn P (Sx "__firstlineno__") 470 (PySem.Value.int 85 469), kEn P (Sx "__init__") 478 (PySem.Value.ref 221), kEn P (Sx "holds") 487 (PySem.Value.ref 228), kEn P (Sx "get") 496 (PySem.Value.ref 235), kEn P (Sx "put") 506 (PySem.Value.ref 242), kEn P (Sx "fill") 514 (PySem.Value.ref 249), kEn P (Sx "rows") 521 (PySem.Value.ref 256), kEn P (Sx "places") 527 (PySem.Value.ref 261), kEn P (Sx "like") 534 (PySem.Value.ref 268), kEn P (Sx "take") 542 (PySem.Value.ref 275), kEn P (Sx "__static_attributes__") 548 (PySem.Value.ref 276), kEn P (Sx "__dict__") 550 (PySem.Value.ref 279), kEn P (Sx "__weakref__") 552 (PySem.Value.ref 280), kEn P (Sx "__doc__") 553 PySem.Value.none] 4) #[]
noncomputable def ob279 (P : PySem.Params) : PySem.Obj := PySem.Obj.mk (PySem.Value.type "type") Option.none (PySem.Data.cls (PySem.ClassData.mk (Sx "Canvas") [PySem.Value.type "object"] [PySem.Value.ref 278, PySem.Value.type "object"] 277 (Sx "Canvas") Bool.true [] [] Bool.false Option.none Bool.false)) #[Option.none, Option.none, Option.some (PySem.Value.str (Sx "Canvas") 459), Option.some (PySem.Value.str (Sx "Canvas") 467), Option.some (PySem.Value.builtin "object.__new__"), Option.some (PySem.Value.bool Bool.true)]
noncomputable def ob280 (P : PySem.Params) : PySem.Obj := PySem.Obj.mk (PySem.Value.type "getset_descriptor") Option.none (PySem.Data.fields #[PySem.Value.str (Sx "__dict__") 549, PySem.Value.ref 278, PySem.Value.builtin "function.__dict__", PySem.Value.builtin "function.__dict__#set"]) #[]
noncomputable def ob281 (P : PySem.Params) : PySem.Obj := PySem.Obj.mk (PySem.Value.type "getset_descriptor") Option.none (PySem.Data.fields #[PySem.Value.str (Sx "__weakref__") 551, PySem.Value.ref 278, PySem.Value.builtin "ExceptionGroup.__weakref__", PySem.Value.none]) #[]
noncomputable def ob282 (P : PySem.Params) : PySem.Obj := PySem.Obj.mk (PySem.Value.type "super") Option.none (PySem.Data.fields #[PySem.Value.ref 278, PySem.Value.ref 278, PySem.Value.ref 278]) #[]
noncomputable def ob283 (P : PySem.Params) : PySem.Obj := PySem.Obj.mk (PySem.Value.type "builtin_function_or_method") Option.none (PySem.Data.fields #[PySem.Value.builtin "object.__init_subclass__", PySem.Value.ref 278]) #[]
noncomputable def t5 (P : PySem.Params) : BT := (N (PySem.W.boot_o_0 P) (N (PySem.W.boot_o_1 P) (N (ob208 P) (N (PySem.W.boot_o_7 P) (N (ob7 P) (N (ob23 P) (N (ob58 P) (N (ob124 P) (N (ob256 P) L L) L) (N (ob190 P) L L)) (N (ob92 P) (N (ob156 P) L L) (N (ob224 P) L L))) (N (ob39 P) (N (ob74 P) (N (ob140 P) (N (ob272 P) L L) L) (N (ob206 P) L L)) (N (ob108 P) (N (ob174 P) L L) (N (ob240 P) L L)))) (N (ob15 P) (N (ob31 P) (N (ob66 P) (N (ob132 P) (N (ob264 P) L L) L) (N (ob198 P) L L)) (N (ob100 P) (N (ob166 P) L L) (N (ob232 P) L L))) (N (ob50 P) (N (ob84 P) (N (ob148 P) (N (ob280 P) L L) L) (N (ob216 P) L L)) (N (ob116 P) (N (ob182 P) L L) (N (ob248 P) L L))))) (N (ob0 P) (N (ob11 P) (N (ob27 P) (N (ob62 P) (N (ob128 P) (N (ob260 P) L L) L) (N (ob194 P) L L)) (N (ob96 P) (N (ob160 P) L L) (N (ob228 P) L L))) (N (ob43 P) (N (ob80 P) (N (ob144 P) (N (ob276 P) L L) L) (N (ob212 P) L L)) (N (ob112 P) (N (ob178 P) L L) (N (ob244 P) L L)))) (N (ob19 P) (N (ob35 P) (N (ob70 P) (N (ob136 P) (N (ob268 P) L L) L) (N (ob202 P) L L)) (N (ob104 P) (N (ob170 P) L L) (N (ob236 P) L L))) (N (ob54 P) (N (ob88 P) (N (ob152 P) L L) (N (ob220 P) L L)) (N (ob120 P) (N (ob186 P) L L) (N (ob252 P) L L)))))) (N (PySem.W.boot_o_5 P) (N (PySem.W.boot_o_9 P) (N (ob9 P) (N (ob25 P) (N (ob60 P) (N (ob126 P) (N (ob258 P) L L) L) (N (ob192 P) L L)) (N (ob94 P) (N (ob158 P) L L) (N (ob226 P) L L))) (N (ob41 P) (N (ob78 P) (N (ob142 P) (N (ob274 P) L L) L) (N (ob210 P) L L)) (N (ob110 P) (N (ob176 P) L L) (N (ob242 P) L L)))) (N (ob17 P) (N (ob33 P) (N (ob68 P) (N (ob134 P) (N (ob266 P) L L) L) (N (ob200 P) L L)) (N (ob102 P) (N (ob168 P) L L) (N (ob234 P) L L))) (N (ob52 P) (N (ob86 P) (N (ob150 P) (N (ob282 P) L L) L) (N (ob218 P) L L)) (N (ob118 P) (N (ob184 P) L L) (N (ob250 P) L L))))) (N (ob2 P) (N (ob13 P) (N (ob29 P) (N (ob64 P) (N (ob130 P) (N (ob262 P) L L) L) (N (ob196 P) L L)) (N (ob98 P) (N (ob162 P) L L) (N (ob230 P) L L))) (N (ob45 P) (N (ob82 P) (N (ob146 P) (N (ob278 P) L L) L) (N (ob214 P) L L)) (N (ob114 P) (N (ob180 P) L L) (N (ob246 P) L L)))) (N (ob21 P) (N (ob37 P) (N (ob72 P) (N (ob138 P) (N (ob270 P) L L) L) (N (ob204 P) L L)) (N (ob106 P) (N (ob172 P) L L) (N (ob238 P) L L))) (N (ob56 P) (N (ob90 P) (N (ob154 P) L L) (N (ob222 P) L L)) (N (ob122 P) (N (ob188 P) L L) (N (ob254 P) L L))))))) (N (ob4 P) (N (PySem.W.boot_o_4 P) (N (PySem.W.boot_o_8 P) (N (ob8 P) (N (ob24 P) (N (ob59 P) (N (ob125 P) (N (ob257 P) L L) L) (N (ob191 P) L L)) (N (ob93 P) (N (ob157 P) L L) (N (ob225 P) L L))) (N (ob40 P) (N (ob77 P) (N (ob141 P) (N (ob273 P) L L) L) (N (ob207 P) L L)) (N (ob109 P) (N (ob175 P) L L) (N (ob241 P) L L)))) (N (ob16 P) (N (ob32 P) (N (ob67 P) (N (ob133 P) (N (ob265 P) L L) L) (N (ob199 P) L L)) (N (ob101 P) (N (ob167 P) L L) (N (ob233 P) L L))) (N (ob51 P) (N (ob85 P) (N (ob149 P) (N (ob281 P) L L) L) (N (ob217 P) L L)) (N (ob117 P) (N (ob183 P) L L) (N (ob249 P) L L))))) (N (ob209 P) (N (ob12 P) (N (ob28 P) (N (ob63 P) (N (ob129 P) (N (ob261 P) L L) L) (N (ob195 P) L L)) (N (ob97 P) (N (ob161 P) L L) (N (ob229 P) L L))) (N (ob44 P) (N (ob81 P) (N (ob145 P) (N (ob277 P) L L) L) (N (ob213 P) L L)) (N (ob113 P) (N (ob179 P) L L) (N (ob245 P) L L)))) (N (ob20 P) (N (ob36 P) (N (ob71 P) (N (ob137 P) (N (ob269 P) L L) L) (N (ob203 P) L L)) (N (ob105 P) (N (ob171 P) L L) (N (ob237 P) L L))) (N (ob55 P) (N (ob89 P) (N (ob153 P) L L) (N (ob221 P) L L)) (N (ob121 P) (N (ob187 P) L L) (N (ob253 P) L L)))))) (N (PySem.W.boot_o_6 P) (N (PySem.W.boot_o_10 P) (N (ob10 P) (N (ob26 P) (N (ob61 P) (N (ob127 P) (N (ob259 P) L L) L) (N (ob193 P) L L)) (N (ob95 P) (N (ob159 P) L L) (N (ob227 P) L L))) (N (ob42 P) (N (ob79 P) (N (ob143 P) (N (ob275 P) L L) L) (N (ob211 P) L L)) (N (ob111 P) (N (ob177 P) L L) (N (ob243 P) L L)))) (N (ob18 P) (N (ob34 P) (N (ob69 P) (N (ob135 P) (N (ob267 P) L L) L) (N (ob201 P) L L)) (N (ob103 P) (N (ob169 P) L L) (N (ob235 P) L L))) (N (ob53 P) (N (ob87 P) (N (ob151 P) (N (ob283 P) L L) L) (N (ob219 P) L L)) (N (ob119 P) (N (ob185 P) L L) (N (ob251 P) L L))))) (N (ob3 P) (N (ob14 P) (N (ob48 P) (N (ob65 P) (N (ob131 P) (N (ob263 P) L L) L) (N (ob197 P) L L)) (N (ob99 P) (N (ob165 P) L L) (N (ob231 P) L L))) (N (ob49 P) (N (ob83 P) (N (ob147 P) (N (ob279 P) L L) L) (N (ob215 P) L L)) (N (ob115 P) (N (ob181 P) L L) (N (ob247 P) L L)))) (N (ob22 P) (N (ob38 P) (N (ob73 P) (N (ob139 P) (N (ob271 P) L L) L) (N (ob205 P) L L)) (N (ob107 P) (N (ob173 P) L L) (N (ob239 P) L L))) (N (ob57 P) (N (ob91 P) (N (ob155 P) L L) (N (ob223 P) L L)) (N (ob123 P) (N (ob189 P) L L) (N (ob255 P) L L))))))))
noncomputable abbrev nt5 : Nat := 283
noncomputable abbrev ps5 : PySem.Pos := PySem.Pos.mk 85 0 123 16
noncomputable abbrev tk5 : Nat := 556
noncomputable def sts5 : List PySem.Stmt := (bdy.drop 27).take 1 -- 479 steps
noncomputable def ob284 (P : PySem.Params) : PySem.Obj := PySem.Obj.mk (PySem.Value.type "dict") Option.none (PySem.Data.dict #[kEn P (Sx "__name__") 165 (PySem.Value.str (Sx "law_nu0022_01") 658), kEn P (Sx "__doc__") 166 PySem.Value.none, kEn P (Sx "__package__") 167 PySem.Value.none, kEn P (Sx "__loader__") 168 (PySem.Value.builtin "__main__.__loader__#opaque"), kEn P (Sx "__spec__") 169 PySem.Value.none, kEn P (Sx "__annotations__") 170 (PySem.Value.ref 6), kEn P (Sx "__builtins__") 171 (PySem.Value.ref 4), kEn P (Sx "__file__") 173 (PySem.Value.str (Sx "/claim/cut.py") 172), kEn P (Sx "__cached__") 174 PySem.Value.none, kEn P (Sx "_wall") 193 (PySem.Value.ref 21), kEn P (Sx "MillError") 224 (PySem.Value.ref 38), kEn P (Sx "NumberFault") 240 (PySem.Value.ref 51), kEn P (Sx "MatrixFault") 256 (PySem.Value.ref 63), kEn P (Sx "SizeFault") 272 (PySem.Value.ref 75), kEn P (Sx "ZERO") 277 (PySem.Value.ref 78), kEn P (Sx "ONE") 280 (PySem.Value.ref 79), kEn P (Sx "common_divisor") 290 (PySem.Value.ref 86), kEn P (Sx "fraction") 300 (PySem.Value.ref 94), kEn P (Sx "plus") 308 (PySem.Value.ref 101), kEn P (Sx "minus") 316 (PySem.Value.ref 108), kEn P (Sx "times") 324 (PySem.Value.ref 115), kEn P (Sx "divided") 332 (PySem.Value.ref 122), kEn P (Sx "negated") 339 (PySem.Value.ref 129), kEn P (Sx "sign_of") 346 (PySem.Value.ref 136), kEn P (Sx "compare") 354 (PySem.Value.ref 143), kEn P (Sx "floor_of") 361 (PySem.Value.ref 150), kEn P (Sx "middle_of") 371 (PySem.Value.ref 157), kEn P (Sx "CLEAR") 378 (PySem.Value.ref 158), kEn P (Sx "within") 387 (PySem.Value.ref 165), kEn P (Sx "Pattern") 451 (PySem.Value.ref 203), kEn P (Sx "NOTHING") 458 (PySem.Value.ref 208), kEn P (Sx "Canvas") 555 (PySem.Value.ref 278), kEn P (Sx "Matrix") 649 (PySem.Value.ref 341), kEn P (Sx "translation") 657 (PySem.Value.ref 352)] 34) #[]
noncomputable def ob285 (P : PySem.Params) : PySem.Obj := PySem.Obj.mk PySem.Value.none Option.none (PySem.Data.fields #[PySem.Value.int 1 0, PySem.Value.int 0 0, PySem.Value.ref 20, PySem.Value.int 5 0, PySem.Value.int 0 0, PySem.Value.ref 27, PySem.Value.int 9 0, PySem.Value.int 0 0, PySem.Value.ref 47, PySem.Value.int 11 0, PySem.Value.int 0 0, PySem.Value.ref 59, PySem.Value.int 13 0, PySem.Value.int 0 0, PySem.Value.ref 71, PySem.Value.int 18 0, PySem.Value.int 0 0, PySem.Value.ref 85, PySem.Value.int 23 0, PySem.Value.int 0 0, PySem.Value.ref 93, PySem.Value.int 30 0, PySem.Value.int 0 0, PySem.Value.ref 100, PySem.Value.int 32 0, PySem.Value.int 0 0, PySem.Value.ref 107, PySem.Value.int 34 0, PySem.Value.int 0 0, PySem.Value.ref 114, PySem.Value.int 36 0, PySem.Value.int 0 0, PySem.Value.ref 121, PySem.Value.int 40 0, PySem.Value.int 0 0, PySem.Value.ref 128, PySem.Value.int 42 0, PySem.Value.int 0 0, PySem.Value.ref 135, PySem.Value.int 48 0, PySem.Value.int 0 0, PySem.Value.ref 142, PySem.Value.int 50 0, PySem.Value.int 0 0, PySem.Value.ref 149, PySem.Value.int 53 0, PySem.Value.int 0 0, PySem.Value.ref 156, PySem.Value.int 57 0, PySem.Value.int 0 0, PySem.Value.ref 164, PySem.Value.int 60 0, PySem.Value.int 0 0, PySem.Value.ref 171, PySem.Value.int 85 0, PySem.Value.int 0 0, PySem.Value.ref 214, PySem.Value.int 125 0, PySem.Value.int 0 0, PySem.Value.ref 288, PySem.Value.int 159 0, PySem.Value.int 0 0, PySem.Value.ref 351]) #[]
noncomputable def ob286 (P : PySem.Params) : PySem.Obj := PySem.Obj.mk (PySem.Value.type "tuple") Option.none (PySem.Data.seq #[]) #[]
noncomputable def ob287 (P : PySem.Params) : PySem.Obj := PySem.Obj.mk (PySem.Value.type "builtin_function_or_method") Option.none (PySem.Data.fields #[PySem.Value.builtin "type.__prepare__", PySem.Value.type "type"]) #[]
noncomputable def ob288 (P : PySem.Params) : PySem.Obj := PySem.Obj.mk (PySem.Value.type "dict") Option.none (PySem.Data.dict #[kEn P (Sx "__module__") 565 (PySem.Value.str (Sx "outlinemill.matrix") 556), kEn P (Sx "__qualname__") 567 (PySem.Value.str (Sx "Matrix") 566), kEn P (Sx "__firstlineno__") 569 (PySem.Value.int 125 568), kEn P (Sx "__init__") 582 (PySem.Value.ref 296), kEn P (Sx "row") 589 (PySem.Value.ref 303), kEn P (Sx "vector") 599 (PySem.Value.ref 310), kEn P (Sx "point") 609 (PySem.Value.ref 317), kEn P (Sx "then") 617 (PySem.Value.ref 324), kEn P (Sx "determinant") 624 (PySem.Value.ref 331), kEn P (Sx "inverse") 635 (PySem.Value.ref 338), kEn P (Sx "__static_attributes__") 642 (PySem.Value.ref 339)] 11) #[]
noncomputable def ob289 (P : PySem.Params) : PySem.Obj := PySem.Obj.mk (PySem.Value.type "tuple") Option.none (PySem.Data.seq #[]) #[]
noncomputable def ob290 (P : PySem.Params) : PySem.Obj := PySem.Obj.mk PySem.Value.none Option.none (PySem.Data.fields #[PySem.Value.int 127 0, PySem.Value.int 4 0, PySem.Value.ref 295, PySem.Value.int 135 0, PySem.Value.int 4 0, PySem.Value.ref 302, PySem.Value.int 138 0, PySem.Value.int 4 0, PySem.Value.ref 309, PySem.Value.int 142 0, PySem.Value.int 4 0, PySem.Value.ref 316, PySem.Value.int 146 0, PySem.Value.int 4 0, PySem.Value.ref 323, PySem.Value.int 149 0, PySem.Value.int 4 0, PySem.Value.ref 330, PySem.Value.int 152 0, PySem.Value.int 4 0, PySem.Value.ref 337]) #[]
noncomputable def ob291 (P : PySem.Params) : PySem.Obj := PySem.Obj.mk (PySem.Value.type "code") Option.none (PySem.Data.fields #[PySem.Value.str (Sx "Matrix") 560, PySem.Value.str (Sx "Matrix") 561, PySem.Value.str (Sx "/claim/cut.py") 562, PySem.Value.int 125 0, PySem.Value.int 0 0, PySem.Value.int 0 0, PySem.Value.int 0 0, PySem.Value.int 0 0, PySem.Value.ref 286, PySem.Value.bool Bool.false, PySem.Value.int 181 0, PySem.Value.ref 287, PySem.Value.none, PySem.Value.none, PySem.Value.none, PySem.Value.none, PySem.Value.int 563 0, PySem.Value.int 125 0, PySem.Value.str (Sx "/claim/cut.py") 564]) #[]
noncomputable def ob292 (P : PySem.Params) : PySem.Obj := PySem.Obj.mk (PySem.Value.type "frame") Option.none PySem.Data.plain #[Option.some (PySem.Value.ref 288), Option.some (PySem.Value.ref 3), Option.some (PySem.Value.ref 285), Option.none, Option.some (PySem.Value.str (Sx "outlinemill.matrix") 556), Option.none, Option.some (PySem.Value.ref 0)]
noncomputable def ob293 (P : PySem.Params) : PySem.Obj := PySem.Obj.mk (PySem.Value.type "tuple") Option.none (PySem.Data.seq #[]) #[]
noncomputable def ob294 (P : PySem.Params) : PySem.Obj := PySem.Obj.mk PySem.Value.none Option.none (PySem.Data.fields #[]) #[]
noncomputable def ob295 (P : PySem.Params) : PySem.Obj := PySem.Obj.mk (PySem.Value.type "tuple") Option.none (PySem.Data.seq #[PySem.Value.str (Sx "self") 573, PySem.Value.str (Sx "a") 574, PySem.Value.str (Sx "b") 575, PySem.Value.str (Sx "c") 576, PySem.Value.str (Sx "d") 577, PySem.Value.str (Sx "e") 578, PySem.Value.str (Sx "f") 579]) #[]
noncomputable def ob296 (P : PySem.Params) : PySem.Obj := PySem.Obj.mk (PySem.Value.type "tuple") Option.none (PySem.Data.seq #[]) #[]
noncomputable def ob297 (P : PySem.Params) : PySem.Obj := PySem.Obj.mk PySem.Value.none Option.none (PySem.Data.func (PySem.FuncData.mk (Sx "__init__") (Sx "Matrix.__init__") (mAr 29 0) (PySem.FuncBody.stmts (mBo 29 0)) (mSc 29 0) 0 [] PySem.Value.none PySem.Value.none PySem.Value.none PySem.Value.none Option.none PySem.Value.none PySem.Value.none 0)) #[]
noncomputable def ob298 (P : PySem.Params) : PySem.Obj := PySem.Obj.mk (PySem.Value.type "code") Option.none (PySem.Data.fields #[PySem.Value.str (Sx "__init__") 570, PySem.Value.str (Sx "Matrix.__init__") 571, PySem.Value.str (Sx "/claim/cut.py") 572, PySem.Value.int 127 0, PySem.Value.int 7 0, PySem.Value.int 0 0, PySem.Value.int 0 0, PySem.Value.int 3 0, PySem.Value.ref 290, PySem.Value.bool Bool.true, PySem.Value.int 181 0, PySem.Value.ref 291, PySem.Value.none, PySem.Value.ref 292, PySem.Value.ref 293, PySem.Value.ref 294, PySem.Value.int 580 0, PySem.Value.int 127 0, PySem.Value.str (Sx "/claim/cut.py") 581]) #[]
noncomputable def ob299 (P : PySem.Params) : PySem.Obj := PySem.Obj.mk (PySem.Value.type "function") Option.none (PySem.Data.func (PySem.FuncData.mk (Sx "__init__") (Sx "Matrix.__init__") (mAr 29 0) (PySem.FuncBody.stmts (mBo 29 0)) (mSc 29 0) 3 [] PySem.Value.none PySem.Value.none PySem.Value.none (PySem.Value.str (Sx "outlinemill.matrix") 556) Option.none (PySem.Value.ref 295) PySem.Value.none 0)) #[]
noncomputable def ob300 (P : PySem.Params) : PySem.Obj := PySem.Obj.mk (PySem.Value.type "tuple") Option.none (PySem.Data.seq #[]) #[]
noncomputable def ob301 (P : PySem.Params) : PySem.Obj := PySem.Obj.mk PySem.Value.none Option.none (PySem.Data.fields #[]) #[]
noncomputable def ob302 (P : PySem.Params) : PySem.Obj := PySem.Obj.mk (PySem.Value.type "tuple") Option.none (PySem.Data.seq #[PySem.Value.str (Sx "self") 586]) #[]
noncomputable def ob303 (P : PySem.Params) : PySem.Obj := PySem.Obj.mk (PySem.Value.type "tuple") Option.none (PySem.Data.seq #[]) #[]
noncomputable def ob304 (P : PySem.Params) : PySem.Obj := PySem.Obj.mk PySem.Value.none Option.none (PySem.Data.func (PySem.FuncData.mk (Sx "row") (Sx "Matrix.row") (mAr 29 1) (PySem.FuncBody.stmts (mBo 29 1)) (mSc 29 1) 0 [] PySem.Value.none PySem.Value.none PySem.Value.none PySem.Value.none Option.none PySem.Value.none PySem.Value.none 0)) #[]
noncomputable def ob305 (P : PySem.Params) : PySem.Obj := PySem.Obj.mk (PySem.Value.type "code") Option.none (PySem.Data.fields #[PySem.Value.str (Sx "row") 583, PySem.Value.str (Sx "Matrix.row") 584, PySem.Value.str (Sx "/claim/cut.py") 585, PySem.Value.int 135 0, PySem.Value.int 1 0, PySem.Value.int 0 0, PySem.Value.int 0 0, PySem.Value.int 3 0, PySem.Value.ref 297, PySem.Value.bool Bool.true, PySem.Value.int 181 0, PySem.Value.ref 298, PySem.Value.none, PySem.Value.ref 299, PySem.Value.ref 300, PySem.Value.ref 301, PySem.Value.int 587 0, PySem.Value.int 135 0, PySem.Value.str (Sx "/claim/cut.py") 588]) #[]
noncomputable def ob306 (P : PySem.Params) : PySem.Obj := PySem.Obj.mk (PySem.Value.type "function") Option.none (PySem.Data.func (PySem.FuncData.mk (Sx "row") (Sx "Matrix.row") (mAr 29 1) (PySem.FuncBody.stmts (mBo 29 1)) (mSc 29 1) 3 [] PySem.Value.none PySem.Value.none PySem.Value.none (PySem.Value.str (Sx "outlinemill.matrix") 556) Option.none (PySem.Value.ref 302) PySem.Value.none 0)) #[]
noncomputable def ob307 (P : PySem.Params) : PySem.Obj := PySem.Obj.mk (PySem.Value.type "tuple") Option.none (PySem.Data.seq #[]) #[]
noncomputable def ob308 (P : PySem.Params) : PySem.Obj := PySem.Obj.mk PySem.Value.none Option.none (PySem.Data.fields #[]) #[]
noncomputable def ob309 (P : PySem.Params) : PySem.Obj := PySem.Obj.mk (PySem.Value.type "tuple") Option.none (PySem.Data.seq #[PySem.Value.str (Sx "self") 593, PySem.Value.str (Sx "p") 594, PySem.Value.str (Sx "x") 595, PySem.Value.str (Sx "y") 596]) #[]
noncomputable def ob310 (P : PySem.Params) : PySem.Obj := PySem.Obj.mk (PySem.Value.type "tuple") Option.none (PySem.Data.seq #[]) #[]
noncomputable def ob311 (P : PySem.Params) : PySem.Obj := PySem.Obj.mk PySem.Value.none Option.none (PySem.Data.func (PySem.FuncData.mk (Sx "vector") (Sx "Matrix.vector") (mAr 29 2) (PySem.FuncBody.stmts (mBo 29 2)) (mSc 29 2) 0 [] PySem.Value.none PySem.Value.none PySem.Value.none PySem.Value.none Option.none PySem.Value.none PySem.Value.none 0)) #[]
noncomputable def ob312 (P : PySem.Params) : PySem.Obj := PySem.Obj.mk (PySem.Value.type "code") Option.none (PySem.Data.fields #[PySem.Value.str (Sx "vector") 590, PySem.Value.str (Sx "Matrix.vector") 591, PySem.Value.str (Sx "/claim/cut.py") 592, PySem.Value.int 138 0, PySem.Value.int 2 0, PySem.Value.int 0 0, PySem.Value.int 0 0, PySem.Value.int 3 0, PySem.Value.ref 304, PySem.Value.bool Bool.true, PySem.Value.int 181 0, PySem.Value.ref 305, PySem.Value.none, PySem.Value.ref 306, PySem.Value.ref 307, PySem.Value.ref 308, PySem.Value.int 597 0, PySem.Value.int 138 0, PySem.Value.str (Sx "/claim/cut.py") 598]) #[]
noncomputable def ob313 (P : PySem.Params) : PySem.Obj := PySem.Obj.mk (PySem.Value.type "function") Option.none (PySem.Data.func (PySem.FuncData.mk (Sx "vector") (Sx "Matrix.vector") (mAr 29 2) (PySem.FuncBody.stmts (mBo 29 2)) (mSc 29 2) 3 [] PySem.Value.none PySem.Value.none PySem.Value.none (PySem.Value.str (Sx "outlinemill.matrix") 556) Option.none (PySem.Value.ref 309) PySem.Value.none 0)) #[]
noncomputable def ob314 (P : PySem.Params) : PySem.Obj := PySem.Obj.mk (PySem.Value.type "tuple") Option.none (PySem.Data.seq #[]) #[]
noncomputable def ob315 (P : PySem.Params) : PySem.Obj := PySem.Obj.mk PySem.Value.none Option.none (PySem.Data.fields #[]) #[]
noncomputable def ob316 (P : PySem.Params) : PySem.Obj := PySem.Obj.mk (PySem.Value.type "tuple") Option.none (PySem.Data.seq #[PySem.Value.str (Sx "self") 603, PySem.Value.str (Sx "p") 604, PySem.Value.str (Sx "x") 605, PySem.Value.str (Sx "y") 606]) #[]
noncomputable def ob317 (P : PySem.Params) : PySem.Obj := PySem.Obj.mk (PySem.Value.type "tuple") Option.none (PySem.Data.seq #[]) #[]
noncomputable def ob318 (P : PySem.Params) : PySem.Obj := PySem.Obj.mk PySem.Value.none Option.none (PySem.Data.func (PySem.FuncData.mk (Sx "point") (Sx "Matrix.point") (mAr 29 3) (PySem.FuncBody.stmts (mBo 29 3)) (mSc 29 3) 0 [] PySem.Value.none PySem.Value.none PySem.Value.none PySem.Value.none Option.none PySem.Value.none PySem.Value.none 0)) #[]
noncomputable def ob319 (P : PySem.Params) : PySem.Obj := PySem.Obj.mk (PySem.Value.type "code") Option.none (PySem.Data.fields #[PySem.Value.str (Sx "point") 600, PySem.Value.str (Sx "Matrix.point") 601, PySem.Value.str (Sx "/claim/cut.py") 602, PySem.Value.int 142 0, PySem.Value.int 2 0, PySem.Value.int 0 0, PySem.Value.int 0 0, PySem.Value.int 3 0, PySem.Value.ref 311, PySem.Value.bool Bool.true, PySem.Value.int 181 0, PySem.Value.ref 312, PySem.Value.none, PySem.Value.ref 313, PySem.Value.ref 314, PySem.Value.ref 315, PySem.Value.int 607 0, PySem.Value.int 142 0, PySem.Value.str (Sx "/claim/cut.py") 608]) #[]
noncomputable def ob320 (P : PySem.Params) : PySem.Obj := PySem.Obj.mk (PySem.Value.type "function") Option.none (PySem.Data.func (PySem.FuncData.mk (Sx "point") (Sx "Matrix.point") (mAr 29 3) (PySem.FuncBody.stmts (mBo 29 3)) (mSc 29 3) 3 [] PySem.Value.none PySem.Value.none PySem.Value.none (PySem.Value.str (Sx "outlinemill.matrix") 556) Option.none (PySem.Value.ref 316) PySem.Value.none 0)) #[]
noncomputable def ob321 (P : PySem.Params) : PySem.Obj := PySem.Obj.mk (PySem.Value.type "tuple") Option.none (PySem.Data.seq #[]) #[]
noncomputable def ob322 (P : PySem.Params) : PySem.Obj := PySem.Obj.mk PySem.Value.none Option.none (PySem.Data.fields #[]) #[]
noncomputable def ob323 (P : PySem.Params) : PySem.Obj := PySem.Obj.mk (PySem.Value.type "tuple") Option.none (PySem.Data.seq #[PySem.Value.str (Sx "self") 613, PySem.Value.str (Sx "other") 614]) #[]
noncomputable def ob324 (P : PySem.Params) : PySem.Obj := PySem.Obj.mk (PySem.Value.type "tuple") Option.none (PySem.Data.seq #[]) #[]
noncomputable def ob325 (P : PySem.Params) : PySem.Obj := PySem.Obj.mk PySem.Value.none Option.none (PySem.Data.func (PySem.FuncData.mk (Sx "then") (Sx "Matrix.then") (mAr 29 4) (PySem.FuncBody.stmts (mBo 29 4)) (mSc 29 4) 0 [] PySem.Value.none PySem.Value.none PySem.Value.none PySem.Value.none Option.none PySem.Value.none PySem.Value.none 0)) #[]
noncomputable def ob326 (P : PySem.Params) : PySem.Obj := PySem.Obj.mk (PySem.Value.type "code") Option.none (PySem.Data.fields #[PySem.Value.str (Sx "then") 610, PySem.Value.str (Sx "Matrix.then") 611, PySem.Value.str (Sx "/claim/cut.py") 612, PySem.Value.int 146 0, PySem.Value.int 2 0, PySem.Value.int 0 0, PySem.Value.int 0 0, PySem.Value.int 3 0, PySem.Value.ref 318, PySem.Value.bool Bool.true, PySem.Value.int 181 0, PySem.Value.ref 319, PySem.Value.none, PySem.Value.ref 320, PySem.Value.ref 321, PySem.Value.ref 322, PySem.Value.int 615 0, PySem.Value.int 146 0, PySem.Value.str (Sx "/claim/cut.py") 616]) #[]
noncomputable def ob327 (P : PySem.Params) : PySem.Obj := PySem.Obj.mk (PySem.Value.type "function") Option.none (PySem.Data.func (PySem.FuncData.mk (Sx "then") (Sx "Matrix.then") (mAr 29 4) (PySem.FuncBody.stmts (mBo 29 4)) (mSc 29 4) 3 [] PySem.Value.none PySem.Value.none PySem.Value.none (PySem.Value.str (Sx "outlinemill.matrix") 556) Option.none (PySem.Value.ref 323) PySem.Value.none 0)) #[]
noncomputable def ob328 (P : PySem.Params) : PySem.Obj := PySem.Obj.mk (PySem.Value.type "tuple") Option.none (PySem.Data.seq #[]) #[]
noncomputable def ob329 (P : PySem.Params) : PySem.Obj := PySem.Obj.mk PySem.Value.none Option.none (PySem.Data.fields #[]) #[]
noncomputable def ob330 (P : PySem.Params) : PySem.Obj := PySem.Obj.mk (PySem.Value.type "tuple") Option.none (PySem.Data.seq #[PySem.Value.str (Sx "self") 621]) #[]
noncomputable def ob331 (P : PySem.Params) : PySem.Obj := PySem.Obj.mk (PySem.Value.type "tuple") Option.none (PySem.Data.seq #[]) #[]
noncomputable def ob332 (P : PySem.Params) : PySem.Obj := PySem.Obj.mk PySem.Value.none Option.none (PySem.Data.func (PySem.FuncData.mk (Sx "determinant") (Sx "Matrix.determinant") (mAr 29 5) (PySem.FuncBody.stmts (mBo 29 5)) (mSc 29 5) 0 [] PySem.Value.none PySem.Value.none PySem.Value.none PySem.Value.none Option.none PySem.Value.none PySem.Value.none 0)) #[]
noncomputable def ob333 (P : PySem.Params) : PySem.Obj := PySem.Obj.mk (PySem.Value.type "code") Option.none (PySem.Data.fields #[PySem.Value.str (Sx "determinant") 618, PySem.Value.str (Sx "Matrix.determinant") 619, PySem.Value.str (Sx "/claim/cut.py") 620, PySem.Value.int 149 0, PySem.Value.int 1 0, PySem.Value.int 0 0, PySem.Value.int 0 0, PySem.Value.int 3 0, PySem.Value.ref 325, PySem.Value.bool Bool.true, PySem.Value.int 181 0, PySem.Value.ref 326, PySem.Value.none, PySem.Value.ref 327, PySem.Value.ref 328, PySem.Value.ref 329, PySem.Value.int 622 0, PySem.Value.int 149 0, PySem.Value.str (Sx "/claim/cut.py") 623]) #[]
noncomputable def ob334 (P : PySem.Params) : PySem.Obj := PySem.Obj.mk (PySem.Value.type "function") Option.none (PySem.Data.func (PySem.FuncData.mk (Sx "determinant") (Sx "Matrix.determinant") (mAr 29 5) (PySem.FuncBody.stmts (mBo 29 5)) (mSc 29 5) 3 [] PySem.Value.none PySem.Value.none PySem.Value.none (PySem.Value.str (Sx "outlinemill.matrix") 556) Option.none (PySem.Value.ref 330) PySem.Value.none 0)) #[]
noncomputable def ob335 (P : PySem.Params) : PySem.Obj := PySem.Obj.mk (PySem.Value.type "tuple") Option.none (PySem.Data.seq #[]) #[]
noncomputable def ob336 (P : PySem.Params) : PySem.Obj := PySem.Obj.mk PySem.Value.none Option.none (PySem.Data.fields #[]) #[]
noncomputable def ob337 (P : PySem.Params) : PySem.Obj := PySem.Obj.mk (PySem.Value.type "tuple") Option.none (PySem.Data.seq #[PySem.Value.str (Sx "self") 628, PySem.Value.str (Sx "whole") 629, PySem.Value.str (Sx "turned") 630, PySem.Value.str (Sx "e") 631, PySem.Value.str (Sx "f") 632]) #[]
noncomputable def ob338 (P : PySem.Params) : PySem.Obj := PySem.Obj.mk (PySem.Value.type "tuple") Option.none (PySem.Data.seq #[]) #[]
noncomputable def ob339 (P : PySem.Params) : PySem.Obj := PySem.Obj.mk PySem.Value.none Option.none (PySem.Data.func (PySem.FuncData.mk (Sx "inverse") (Sx "Matrix.inverse") (mAr 29 6) (PySem.FuncBody.stmts (mBo 29 6)) (mSc 29 6) 0 [] PySem.Value.none PySem.Value.none PySem.Value.none PySem.Value.none Option.none PySem.Value.none PySem.Value.none 0)) #[]
noncomputable def ob340 (P : PySem.Params) : PySem.Obj := PySem.Obj.mk (PySem.Value.type "code") Option.none (PySem.Data.fields #[PySem.Value.str (Sx "inverse") 625, PySem.Value.str (Sx "Matrix.inverse") 626, PySem.Value.str (Sx "/claim/cut.py") 627, PySem.Value.int 152 0, PySem.Value.int 1 0, PySem.Value.int 0 0, PySem.Value.int 0 0, PySem.Value.int 3 0, PySem.Value.ref 332, PySem.Value.bool Bool.true, PySem.Value.int 181 0, PySem.Value.ref 333, PySem.Value.none, PySem.Value.ref 334, PySem.Value.ref 335, PySem.Value.ref 336, PySem.Value.int 633 0, PySem.Value.int 152 0, PySem.Value.str (Sx "/claim/cut.py") 634]) #[]
noncomputable def ob341 (P : PySem.Params) : PySem.Obj := PySem.Obj.mk (PySem.Value.type "function") Option.none (PySem.Data.func (PySem.FuncData.mk (Sx "inverse") (Sx "Matrix.inverse") (mAr 29 6) (PySem.FuncBody.stmts (mBo 29 6)) (mSc 29 6) 3 [] PySem.Value.none PySem.Value.none PySem.Value.none (PySem.Value.str (Sx "outlinemill.matrix") 556) Option.none (PySem.Value.ref 337) PySem.Value.none 0)) #[]
noncomputable def ob342 (P : PySem.Params) : PySem.Obj := PySem.Obj.mk (PySem.Value.type "tuple") Option.none (PySem.Data.seq #[PySem.Value.str (Sx "a") 636, PySem.Value.str (Sx "b") 637, PySem.Value.str (Sx "c") 638, PySem.Value.str (Sx "d") 639, PySem.Value.str (Sx "e") 640, PySem.Value.str (Sx "f") 641]) #[]
noncomputable def ob343 (P : PySem.Params) : PySem.Obj := PySem.Obj.mk (PySem.Value.type "dict") Option.none (PySem.Data.dict #[kEn P (Sx "__module__") 565 (PySem.Value.str (Sx "outlinemill.matrix") 556), kEn P (Sx "__firstlineno__") 569 (PySem.Value.int 125 568), kEn P (Sx "__init__") 582 (PySem.Value.ref 296), kEn P (Sx "row") 589 (PySem.Value.ref 303), kEn P (Sx "vector") 599 (PySem.Value.ref 310), kEn P (Sx "point") 609 (PySem.Value.ref 317), kEn P (Sx "then") 617 (PySem.Value.ref 324), kEn P (Sx "determinant") 624 (PySem.Value.ref 331), kEn P (Sx "inverse") 635 (PySem.Value.ref 338), kEn P (Sx "__static_attributes__") 642 (PySem.Value.ref 339), kEn P (Sx "__dict__") 644 (PySem.Value.ref 342), kEn P (Sx "__weakref__") 646 (PySem.Value.ref 343), kEn P (Sx "__doc__") 647 PySem.Value.none] 4) #[]
noncomputable def ob344 (P : PySem.Params) : PySem.Obj := PySem.Obj.mk (PySem.Value.type "type") Option.none (PySem.Data.cls (PySem.ClassData.mk (Sx "Matrix") [PySem.Value.type "object"] [PySem.Value.ref 341, PySem.Value.type "object"] 340 (Sx "Matrix") Bool.true [] [] Bool.false Option.none Bool.false)) #[Option.none, Option.none, Option.some (PySem.Value.str (Sx "Matrix") 558), Option.some (PySem.Value.str (Sx "Matrix") 566), Option.some (PySem.Value.builtin "object.__new__"), Option.some (PySem.Value.bool Bool.true)]
noncomputable def ob345 (P : PySem.Params) : PySem.Obj := PySem.Obj.mk (PySem.Value.type "getset_descriptor") Option.none (PySem.Data.fields #[PySem.Value.str (Sx "__dict__") 643, PySem.Value.ref 341, PySem.Value.builtin "function.__dict__", PySem.Value.builtin "function.__dict__#set"]) #[]
noncomputable def ob346 (P : PySem.Params) : PySem.Obj := PySem.Obj.mk (PySem.Value.type "getset_descriptor") Option.none (PySem.Data.fields #[PySem.Value.str (Sx "__weakref__") 645, PySem.Value.ref 341, PySem.Value.builtin "ExceptionGroup.__weakref__", PySem.Value.none]) #[]
noncomputable def ob347 (P : PySem.Params) : PySem.Obj := PySem.Obj.mk (PySem.Value.type "super") Option.none (PySem.Data.fields #[PySem.Value.ref 341, PySem.Value.ref 341, PySem.Value.ref 341]) #[]
noncomputable def ob348 (P : PySem.Params) : PySem.Obj := PySem.Obj.mk (PySem.Value.type "builtin_function_or_method") Option.none (PySem.Data.fields #[PySem.Value.builtin "object.__init_subclass__", PySem.Value.ref 341]) #[]
noncomputable def ob349 (P : PySem.Params) : PySem.Obj := PySem.Obj.mk (PySem.Value.type "tuple") Option.none (PySem.Data.seq #[]) #[]
noncomputable def ob350 (P : PySem.Params) : PySem.Obj := PySem.Obj.mk PySem.Value.none Option.none (PySem.Data.fields #[]) #[]
noncomputable def ob351 (P : PySem.Params) : PySem.Obj := PySem.Obj.mk (PySem.Value.type "tuple") Option.none (PySem.Data.seq #[PySem.Value.str (Sx "x") 653, PySem.Value.str (Sx "y") 654]) #[]
noncomputable def ob352 (P : PySem.Params) : PySem.Obj := PySem.Obj.mk (PySem.Value.type "tuple") Option.none (PySem.Data.seq #[]) #[]
noncomputable def ob353 (P : PySem.Params) : PySem.Obj := PySem.Obj.mk PySem.Value.none Option.none (PySem.Data.func (PySem.FuncData.mk (Sx "translation") (Sx "translation") (pAr 30) (PySem.FuncBody.stmts (pBo 30)) (pSc 30) 0 [] PySem.Value.none PySem.Value.none PySem.Value.none PySem.Value.none Option.none PySem.Value.none PySem.Value.none 0)) #[]
noncomputable def ob354 (P : PySem.Params) : PySem.Obj := PySem.Obj.mk (PySem.Value.type "code") Option.none (PySem.Data.fields #[PySem.Value.str (Sx "translation") 650, PySem.Value.str (Sx "translation") 651, PySem.Value.str (Sx "/claim/cut.py") 652, PySem.Value.int 159 0, PySem.Value.int 2 0, PySem.Value.int 0 0, PySem.Value.int 0 0, PySem.Value.int 3 0, PySem.Value.ref 346, PySem.Value.bool Bool.true, PySem.Value.int 181 0, PySem.Value.ref 347, PySem.Value.none, PySem.Value.ref 348, PySem.Value.ref 349, PySem.Value.ref 350, PySem.Value.int 655 0, PySem.Value.int 159 0, PySem.Value.str (Sx "/claim/cut.py") 656]) #[]
noncomputable def ob355 (P : PySem.Params) : PySem.Obj := PySem.Obj.mk (PySem.Value.type "function") Option.none (PySem.Data.func (PySem.FuncData.mk (Sx "translation") (Sx "translation") (pAr 30) (PySem.FuncBody.stmts (pBo 30)) (pSc 30) 3 [] PySem.Value.none PySem.Value.none PySem.Value.none (PySem.Value.str (Sx "outlinemill.matrix") 556) Option.none (PySem.Value.ref 351) PySem.Value.none 0)) #[]
noncomputable def t6 (P : PySem.Params) : BT := (N (PySem.W.boot_o_0 P) (N (PySem.W.boot_o_1 P) (N (ob284 P) (N (PySem.W.boot_o_7 P) (N (ob7 P) (N (ob23 P) (N (ob58 P) (N (ob124 P) (N (ob256 P) L L) L) (N (ob190 P) (N (ob322 P) L L) L)) (N (ob92 P) (N (ob156 P) (N (ob290 P) L L) L) (N (ob224 P) (N (ob354 P) L L) L))) (N (ob39 P) (N (ob74 P) (N (ob140 P) (N (ob272 P) L L) L) (N (ob206 P) (N (ob338 P) L L) L)) (N (ob108 P) (N (ob174 P) (N (ob306 P) L L) L) (N (ob240 P) L L)))) (N (ob15 P) (N (ob31 P) (N (ob66 P) (N (ob132 P) (N (ob264 P) L L) L) (N (ob198 P) (N (ob330 P) L L) L)) (N (ob100 P) (N (ob166 P) (N (ob298 P) L L) L) (N (ob232 P) L L))) (N (ob50 P) (N (ob84 P) (N (ob148 P) (N (ob280 P) L L) L) (N (ob216 P) (N (ob346 P) L L) L)) (N (ob116 P) (N (ob182 P) (N (ob314 P) L L) L) (N (ob248 P) L L))))) (N (ob0 P) (N (ob11 P) (N (ob27 P) (N (ob62 P) (N (ob128 P) (N (ob260 P) L L) L) (N (ob194 P) (N (ob326 P) L L) L)) (N (ob96 P) (N (ob160 P) (N (ob294 P) L L) L) (N (ob228 P) L L))) (N (ob43 P) (N (ob80 P) (N (ob144 P) (N (ob276 P) L L) L) (N (ob212 P) (N (ob342 P) L L) L)) (N (ob112 P) (N (ob178 P) (N (ob310 P) L L) L) (N (ob244 P) L L)))) (N (ob19 P) (N (ob35 P) (N (ob70 P) (N (ob136 P) (N (ob268 P) L L) L) (N (ob202 P) (N (ob334 P) L L) L)) (N (ob104 P) (N (ob170 P) (N (ob302 P) L L) L) (N (ob236 P) L L))) (N (ob54 P) (N (ob88 P) (N (ob152 P) (N (ob286 P) L L) L) (N (ob220 P) (N (ob350 P) L L) L)) (N (ob120 P) (N (ob186 P) (N (ob318 P) L L) L) (N (ob252 P) L L)))))) (N (PySem.W.boot_o_5 P) (N (PySem.W.boot_o_9 P) (N (ob9 P) (N (ob25 P) (N (ob60 P) (N (ob126 P) (N (ob258 P) L L) L) (N (ob192 P) (N (ob324 P) L L) L)) (N (ob94 P) (N (ob158 P) (N (ob292 P) L L) L) (N (ob226 P) L L))) (N (ob41 P) (N (ob78 P) (N (ob142 P) (N (ob274 P) L L) L) (N (ob210 P) (N (ob340 P) L L) L)) (N (ob110 P) (N (ob176 P) (N (ob308 P) L L) L) (N (ob242 P) L L)))) (N (ob17 P) (N (ob33 P) (N (ob68 P) (N (ob134 P) (N (ob266 P) L L) L) (N (ob200 P) (N (ob332 P) L L) L)) (N (ob102 P) (N (ob168 P) (N (ob300 P) L L) L) (N (ob234 P) L L))) (N (ob52 P) (N (ob86 P) (N (ob150 P) (N (ob282 P) L L) L) (N (ob218 P) (N (ob348 P) L L) L)) (N (ob118 P) (N (ob184 P) (N (ob316 P) L L) L) (N (ob250 P) L L))))) (N (ob2 P) (N (ob13 P) (N (ob29 P) (N (ob64 P) (N (ob130 P) (N (ob262 P) L L) L) (N (ob196 P) (N (ob328 P) L L) L)) (N (ob98 P) (N (ob162 P) (N (ob296 P) L L) L) (N (ob230 P) L L))) (N (ob45 P) (N (ob82 P) (N (ob146 P) (N (ob278 P) L L) L) (N (ob214 P) (N (ob344 P) L L) L)) (N (ob114 P) (N (ob180 P) (N (ob312 P) L L) L) (N (ob246 P) L L)))) (N (ob21 P) (N (ob37 P) (N (ob72 P) (N (ob138 P) (N (ob270 P) L L) L) (N (ob204 P) (N (ob336 P) L L) L)) (N (ob106 P) (N (ob172 P) (N (ob304 P) L L) L) (N (ob238 P) L L))) (N (ob56 P) (N (ob90 P) (N (ob154 P) (N (ob288 P) L L) L) (N (ob222 P) (N (ob352 P) L L) L)) (N (ob122 P) (N (ob188 P) (N (ob320 P) L L) L) (N (ob254 P) L L))))))) (N (ob4 P) (N (PySem.W.boot_o_4 P) (N (PySem.W.boot_o_8 P) (N (ob8 P) (N (ob24 P) (N (ob59 P) (N (ob125 P) (N (ob257 P) L L) L) (N (ob191 P) (N (ob323 P) L L) L)) (N (ob93 P) (N (ob157 P) (N (ob291 P) L L) L) (N (ob225 P) (N (ob355 P) L L) L))) (N (ob40 P) (N (ob77 P) (N (ob141 P) (N (ob273 P) L L) L) (N (ob207 P) (N (ob339 P) L L) L)) (N (ob109 P) (N (ob175 P) (N (ob307 P) L L) L) (N (ob241 P) L L)))) (N (ob16 P) (N (ob32 P) (N (ob67 P) (N (ob133 P) (N (ob265 P) L L) L) (N (ob199 P) (N (ob331 P) L L) L)) (N (ob101 P) (N (ob167 P) (N (ob299 P) L L) L) (N (ob233 P) L L))) (N (ob51 P) (N (ob85 P) (N (ob149 P) (N (ob281 P) L L) L) (N (ob217 P) (N (ob347 P) L L) L)) (N (ob117 P) (N (ob183 P) (N (ob315 P) L L) L) (N (ob249 P) L L))))) (N (ob285 P) (N (ob12 P) (N (ob28 P) (N (ob63 P) (N (ob129 P) (N (ob261 P) L L) L) (N (ob195 P) (N (ob327 P) L L) L)) (N (ob97 P) (N (ob161 P) (N (ob295 P) L L) L) (N (ob229 P) L L))) (N (ob44 P) (N (ob81 P) (N (ob145 P) (N (ob277 P) L L) L) (N (ob213 P) (N (ob343 P) L L) L)) (N (ob113 P) (N (ob179 P) (N (ob311 P) L L) L) (N (ob245 P) L L)))) (N (ob20 P) (N (ob36 P) (N (ob71 P) (N (ob137 P) (N (ob269 P) L L) L) (N (ob203 P) (N (ob335 P) L L) L)) (N (ob105 P) (N (ob171 P) (N (ob303 P) L L) L) (N (ob237 P) L L))) (N (ob55 P) (N (ob89 P) (N (ob153 P) (N (ob287 P) L L) L) (N (ob221 P) (N (ob351 P) L L) L)) (N (ob121 P) (N (ob187 P) (N (ob319 P) L L) L) (N (ob253 P) L L)))))) (N (PySem.W.boot_o_6 P) (N (PySem.W.boot_o_10 P) (N (ob10 P) (N (ob26 P) (N (ob61 P) (N (ob127 P) (N (ob259 P) L L) L) (N (ob193 P) (N (ob325 P) L L) L)) (N (ob95 P) (N (ob159 P) (N (ob293 P) L L) L) (N (ob227 P) L L))) (N (ob42 P) (N (ob79 P) (N (ob143 P) (N (ob275 P) L L) L) (N (ob211 P) (N (ob341 P) L L) L)) (N (ob111 P) (N (ob177 P) (N (ob309 P) L L) L) (N (ob243 P) L L)))) (N (ob18 P) (N (ob34 P) (N (ob69 P) (N (ob135 P) (N (ob267 P) L L) L) (N (ob201 P) (N (ob333 P) L L) L)) (N (ob103 P) (N (ob169 P) (N (ob301 P) L L) L) (N (ob235 P) L L))) (N (ob53 P) (N (ob87 P) (N (ob151 P) (N (ob283 P) L L) L) (N (ob219 P) (N (ob349 P) L L) L)) (N (ob119 P) (N (ob185 P) (N (ob317 P) L L) L) (N (ob251 P) L L))))) (N (ob3 P) (N (ob14 P) (N (ob48 P) (N (ob65 P) (N (ob131 P) (N (ob263 P) L L) L) (N (ob197 P) (N (ob329 P) L L) L)) (N (ob99 P) (N (ob165 P) (N (ob297 P) L L) L) (N (ob231 P) L L))) (N (ob49 P) (N (ob83 P) (N (ob147 P) (N (ob279 P) L L) L) (N (ob215 P) (N (ob345 P) L L) L)) (N (ob115 P) (N (ob181 P) (N (ob313 P) L L) L) (N (ob247 P) L L)))) (N (ob22 P) (N (ob38 P) (N (ob73 P) (N (ob139 P) (N (ob271 P) L L) L) (N (ob205 P) (N (ob337 P) L L) L)) (N (ob107 P) (N (ob173 P) (N (ob305 P) L L) L) (N (ob239 P) L L))) (N (ob57 P) (N (ob91 P) (N (ob155 P) (N (ob289 P) L L) L) (N (ob223 P) (N (ob353 P) L L) L)) (N (ob123 P) (N (ob189 P) (N (ob321 P) L L) L) (N (ob255 P) L L))))))))
noncomputable abbrev nt6 : Nat := 353
noncomputable abbrev ps6 : PySem.Pos := PySem.Pos.mk 161 0 161 8
noncomputable abbrev tk6 : Nat := 660
noncomputable def sts6 : List PySem.Stmt := (bdy.drop 28).take 4 -- 477 steps
noncomputable def ob356 (P : PySem.Params) : PySem.Obj := PySem.Obj.mk (PySem.Value.type "dict") Option.none (PySem.Data.dict #[kEn P (Sx "__name__") 165 (PySem.Value.str (Sx "law_nu0022_01") 658), kEn P (Sx "__doc__") 166 PySem.Value.none, kEn P (Sx "__package__") 167 PySem.Value.none, kEn P (Sx "__loader__") 168 (PySem.Value.builtin "__main__.__loader__#opaque"), kEn P (Sx "__spec__") 169 PySem.Value.none, kEn P (Sx "__annotations__") 170 (PySem.Value.ref 6), kEn P (Sx "__builtins__") 171 (PySem.Value.ref 4), kEn P (Sx "__file__") 173 (PySem.Value.str (Sx "/claim/cut.py") 172), kEn P (Sx "__cached__") 174 PySem.Value.none, kEn P (Sx "_wall") 193 (PySem.Value.ref 21), kEn P (Sx "MillError") 224 (PySem.Value.ref 38), kEn P (Sx "NumberFault") 240 (PySem.Value.ref 51), kEn P (Sx "MatrixFault") 256 (PySem.Value.ref 63), kEn P (Sx "SizeFault") 272 (PySem.Value.ref 75), kEn P (Sx "ZERO") 277 (PySem.Value.ref 78), kEn P (Sx "ONE") 280 (PySem.Value.ref 79), kEn P (Sx "common_divisor") 290 (PySem.Value.ref 86), kEn P (Sx "fraction") 300 (PySem.Value.ref 94), kEn P (Sx "plus") 308 (PySem.Value.ref 101), kEn P (Sx "minus") 316 (PySem.Value.ref 108), kEn P (Sx "times") 324 (PySem.Value.ref 115), kEn P (Sx "divided") 332 (PySem.Value.ref 122), kEn P (Sx "negated") 339 (PySem.Value.ref 129), kEn P (Sx "sign_of") 346 (PySem.Value.ref 136), kEn P (Sx "compare") 354 (PySem.Value.ref 143), kEn P (Sx "floor_of") 361 (PySem.Value.ref 150), kEn P (Sx "middle_of") 371 (PySem.Value.ref 157), kEn P (Sx "CLEAR") 378 (PySem.Value.ref 158), kEn P (Sx "within") 387 (PySem.Value.ref 165), kEn P (Sx "Pattern") 451 (PySem.Value.ref 203), kEn P (Sx "NOTHING") 458 (PySem.Value.ref 208), kEn P (Sx "Canvas") 555 (PySem.Value.ref 278), kEn P (Sx "Matrix") 649 (PySem.Value.ref 341), kEn P (Sx "translation") 657 (PySem.Value.ref 352), kEn P (Sx "_law_pool") 670 (PySem.Value.ref 359), kEn P (Sx "_law_take") 679 (PySem.Value.ref 366), kEn P (Sx "_law_one") 687 (PySem.Value.ref 373), kEn P (Sx "_law_canvas") 700 (PySem.Value.ref 380), kEn P (Sx "_law_dot") 711 (PySem.Value.ref 387), kEn P (Sx "law") 717 (PySem.Value.ref 392)] 40) #[]
noncomputable def ob357 (P : PySem.Params) : PySem.Obj := PySem.Obj.mk PySem.Value.none Option.none (PySem.Data.fields #[PySem.Value.int 1 0, PySem.Value.int 0 0, PySem.Value.ref 20, PySem.Value.int 5 0, PySem.Value.int 0 0, PySem.Value.ref 27, PySem.Value.int 9 0, PySem.Value.int 0 0, PySem.Value.ref 47, PySem.Value.int 11 0, PySem.Value.int 0 0, PySem.Value.ref 59, PySem.Value.int 13 0, PySem.Value.int 0 0, PySem.Value.ref 71, PySem.Value.int 18 0, PySem.Value.int 0 0, PySem.Value.ref 85, PySem.Value.int 23 0, PySem.Value.int 0 0, PySem.Value.ref 93, PySem.Value.int 30 0, PySem.Value.int 0 0, PySem.Value.ref 100, PySem.Value.int 32 0, PySem.Value.int 0 0, PySem.Value.ref 107, PySem.Value.int 34 0, PySem.Value.int 0 0, PySem.Value.ref 114, PySem.Value.int 36 0, PySem.Value.int 0 0, PySem.Value.ref 121, PySem.Value.int 40 0, PySem.Value.int 0 0, PySem.Value.ref 128, PySem.Value.int 42 0, PySem.Value.int 0 0, PySem.Value.ref 135, PySem.Value.int 48 0, PySem.Value.int 0 0, PySem.Value.ref 142, PySem.Value.int 50 0, PySem.Value.int 0 0, PySem.Value.ref 149, PySem.Value.int 53 0, PySem.Value.int 0 0, PySem.Value.ref 156, PySem.Value.int 57 0, PySem.Value.int 0 0, PySem.Value.ref 164, PySem.Value.int 60 0, PySem.Value.int 0 0, PySem.Value.ref 171, PySem.Value.int 85 0, PySem.Value.int 0 0, PySem.Value.ref 214, PySem.Value.int 125 0, PySem.Value.int 0 0, PySem.Value.ref 288, PySem.Value.int 159 0, PySem.Value.int 0 0, PySem.Value.ref 351, PySem.Value.int 162 0, PySem.Value.int 0 0, PySem.Value.ref 358, PySem.Value.int 169 0, PySem.Value.int 0 0, PySem.Value.ref 365, PySem.Value.int 176 0, PySem.Value.int 0 0, PySem.Value.ref 372, PySem.Value.int 178 0, PySem.Value.int 0 0, PySem.Value.ref 379, PySem.Value.int 186 0, PySem.Value.int 0 0, PySem.Value.ref 386, PySem.Value.int 188 0, PySem.Value.int 0 0, PySem.Value.ref 391]) #[]
noncomputable def ob358 (P : PySem.Params) : PySem.Obj := PySem.Obj.mk (PySem.Value.type "tuple") Option.none (PySem.Data.seq #[]) #[]
noncomputable def ob359 (P : PySem.Params) : PySem.Obj := PySem.Obj.mk PySem.Value.none Option.none (PySem.Data.fields #[]) #[]
noncomputable def ob360 (P : PySem.Params) : PySem.Obj := PySem.Obj.mk (PySem.Value.type "tuple") Option.none (PySem.Data.seq #[PySem.Value.str (Sx "script") 663, PySem.Value.str (Sx "k") 664, PySem.Value.str (Sx "cell") 665, PySem.Value.str (Sx "big") 666, PySem.Value.str (Sx "mixed") 667]) #[]
noncomputable def ob361 (P : PySem.Params) : PySem.Obj := PySem.Obj.mk (PySem.Value.type "tuple") Option.none (PySem.Data.seq #[]) #[]
noncomputable def ob362 (P : PySem.Params) : PySem.Obj := PySem.Obj.mk PySem.Value.none Option.none (PySem.Data.func (PySem.FuncData.mk (Sx "_law_pool") (Sx "_law_pool") (pAr 32) (PySem.FuncBody.stmts (pBo 32)) (pSc 32) 0 [] PySem.Value.none PySem.Value.none PySem.Value.none PySem.Value.none Option.none PySem.Value.none PySem.Value.none 0)) #[]
noncomputable def ob363 (P : PySem.Params) : PySem.Obj := PySem.Obj.mk (PySem.Value.type "code") Option.none (PySem.Data.fields #[PySem.Value.str (Sx "_law_pool") 660, PySem.Value.str (Sx "_law_pool") 661, PySem.Value.str (Sx "/claim/cut.py") 662, PySem.Value.int 162 0, PySem.Value.int 2 0, PySem.Value.int 0 0, PySem.Value.int 0 0, PySem.Value.int 3 0, PySem.Value.ref 353, PySem.Value.bool Bool.true, PySem.Value.int 181 0, PySem.Value.ref 354, PySem.Value.none, PySem.Value.ref 355, PySem.Value.ref 356, PySem.Value.ref 357, PySem.Value.int 668 0, PySem.Value.int 162 0, PySem.Value.str (Sx "/claim/cut.py") 669]) #[]
noncomputable def ob364 (P : PySem.Params) : PySem.Obj := PySem.Obj.mk (PySem.Value.type "function") Option.none (PySem.Data.func (PySem.FuncData.mk (Sx "_law_pool") (Sx "_law_pool") (pAr 32) (PySem.FuncBody.stmts (pBo 32)) (pSc 32) 3 [] PySem.Value.none PySem.Value.none PySem.Value.none (PySem.Value.str (Sx "law_nu0022_01") 658) Option.none (PySem.Value.ref 358) PySem.Value.none 0)) #[]
noncomputable def ob365 (P : PySem.Params) : PySem.Obj := PySem.Obj.mk (PySem.Value.type "tuple") Option.none (PySem.Data.seq #[]) #[]
noncomputable def ob366 (P : PySem.Params) : PySem.Obj := PySem.Obj.mk PySem.Value.none Option.none (PySem.Data.fields #[]) #[]
noncomputable def ob367 (P : PySem.Params) : PySem.Obj := PySem.Obj.mk (PySem.Value.type "tuple") Option.none (PySem.Data.seq #[PySem.Value.str (Sx "source") 674, PySem.Value.str (Sx "top") 675, PySem.Value.str (Sx "drawn") 676]) #[]
noncomputable def ob368 (P : PySem.Params) : PySem.Obj := PySem.Obj.mk (PySem.Value.type "tuple") Option.none (PySem.Data.seq #[]) #[]
noncomputable def ob369 (P : PySem.Params) : PySem.Obj := PySem.Obj.mk PySem.Value.none Option.none (PySem.Data.func (PySem.FuncData.mk (Sx "_law_take") (Sx "_law_take") (pAr 33) (PySem.FuncBody.stmts (pBo 33)) (pSc 33) 0 [] PySem.Value.none PySem.Value.none PySem.Value.none PySem.Value.none Option.none PySem.Value.none PySem.Value.none 0)) #[]
noncomputable def ob370 (P : PySem.Params) : PySem.Obj := PySem.Obj.mk (PySem.Value.type "code") Option.none (PySem.Data.fields #[PySem.Value.str (Sx "_law_take") 671, PySem.Value.str (Sx "_law_take") 672, PySem.Value.str (Sx "/claim/cut.py") 673, PySem.Value.int 169 0, PySem.Value.int 2 0, PySem.Value.int 0 0, PySem.Value.int 0 0, PySem.Value.int 3 0, PySem.Value.ref 360, PySem.Value.bool Bool.true, PySem.Value.int 181 0, PySem.Value.ref 361, PySem.Value.none, PySem.Value.ref 362, PySem.Value.ref 363, PySem.Value.ref 364, PySem.Value.int 677 0, PySem.Value.int 169 0, PySem.Value.str (Sx "/claim/cut.py") 678]) #[]
noncomputable def ob371 (P : PySem.Params) : PySem.Obj := PySem.Obj.mk (PySem.Value.type "function") Option.none (PySem.Data.func (PySem.FuncData.mk (Sx "_law_take") (Sx "_law_take") (pAr 33) (PySem.FuncBody.stmts (pBo 33)) (pSc 33) 3 [] PySem.Value.none PySem.Value.none PySem.Value.none (PySem.Value.str (Sx "law_nu0022_01") 658) Option.none (PySem.Value.ref 365) PySem.Value.none 0)) #[]
noncomputable def ob372 (P : PySem.Params) : PySem.Obj := PySem.Obj.mk (PySem.Value.type "tuple") Option.none (PySem.Data.seq #[]) #[]
noncomputable def ob373 (P : PySem.Params) : PySem.Obj := PySem.Obj.mk PySem.Value.none Option.none (PySem.Data.fields #[]) #[]
noncomputable def ob374 (P : PySem.Params) : PySem.Obj := PySem.Obj.mk (PySem.Value.type "tuple") Option.none (PySem.Data.seq #[PySem.Value.str (Sx "source") 683, PySem.Value.str (Sx "things") 684]) #[]
noncomputable def ob375 (P : PySem.Params) : PySem.Obj := PySem.Obj.mk (PySem.Value.type "tuple") Option.none (PySem.Data.seq #[]) #[]
noncomputable def ob376 (P : PySem.Params) : PySem.Obj := PySem.Obj.mk PySem.Value.none Option.none (PySem.Data.func (PySem.FuncData.mk (Sx "_law_one") (Sx "_law_one") (pAr 34) (PySem.FuncBody.stmts (pBo 34)) (pSc 34) 0 [] PySem.Value.none PySem.Value.none PySem.Value.none PySem.Value.none Option.none PySem.Value.none PySem.Value.none 0)) #[]
noncomputable def ob377 (P : PySem.Params) : PySem.Obj := PySem.Obj.mk (PySem.Value.type "code") Option.none (PySem.Data.fields #[PySem.Value.str (Sx "_law_one") 680, PySem.Value.str (Sx "_law_one") 681, PySem.Value.str (Sx "/claim/cut.py") 682, PySem.Value.int 176 0, PySem.Value.int 2 0, PySem.Value.int 0 0, PySem.Value.int 0 0, PySem.Value.int 3 0, PySem.Value.ref 367, PySem.Value.bool Bool.true, PySem.Value.int 181 0, PySem.Value.ref 368, PySem.Value.none, PySem.Value.ref 369, PySem.Value.ref 370, PySem.Value.ref 371, PySem.Value.int 685 0, PySem.Value.int 176 0, PySem.Value.str (Sx "/claim/cut.py") 686]) #[]
noncomputable def ob378 (P : PySem.Params) : PySem.Obj := PySem.Obj.mk (PySem.Value.type "function") Option.none (PySem.Data.func (PySem.FuncData.mk (Sx "_law_one") (Sx "_law_one") (pAr 34) (PySem.FuncBody.stmts (pBo 34)) (pSc 34) 3 [] PySem.Value.none PySem.Value.none PySem.Value.none (PySem.Value.str (Sx "law_nu0022_01") 658) Option.none (PySem.Value.ref 372) PySem.Value.none 0)) #[]
noncomputable def ob379 (P : PySem.Params) : PySem.Obj := PySem.Obj.mk (PySem.Value.type "tuple") Option.none (PySem.Data.seq #[]) #[]
noncomputable def ob380 (P : PySem.Params) : PySem.Obj := PySem.Obj.mk PySem.Value.none Option.none (PySem.Data.fields #[]) #[]
noncomputable def ob381 (P : PySem.Params) : PySem.Obj := PySem.Obj.mk (PySem.Value.type "tuple") Option.none (PySem.Data.seq #[PySem.Value.str (Sx "source") 691, PySem.Value.str (Sx "width") 692, PySem.Value.str (Sx "height") 693, PySem.Value.str (Sx "canvas") 694, PySem.Value.str (Sx "known") 695, PySem.Value.str (Sx "row") 696, PySem.Value.str (Sx "column") 697]) #[]
noncomputable def ob382 (P : PySem.Params) : PySem.Obj := PySem.Obj.mk (PySem.Value.type "tuple") Option.none (PySem.Data.seq #[]) #[]
noncomputable def ob383 (P : PySem.Params) : PySem.Obj := PySem.Obj.mk PySem.Value.none Option.none (PySem.Data.func (PySem.FuncData.mk (Sx "_law_canvas") (Sx "_law_canvas") (pAr 35) (PySem.FuncBody.stmts (pBo 35)) (pSc 35) 0 [] PySem.Value.none PySem.Value.none PySem.Value.none PySem.Value.none Option.none PySem.Value.none PySem.Value.none 0)) #[]
noncomputable def ob384 (P : PySem.Params) : PySem.Obj := PySem.Obj.mk (PySem.Value.type "code") Option.none (PySem.Data.fields #[PySem.Value.str (Sx "_law_canvas") 688, PySem.Value.str (Sx "_law_canvas") 689, PySem.Value.str (Sx "/claim/cut.py") 690, PySem.Value.int 178 0, PySem.Value.int 1 0, PySem.Value.int 0 0, PySem.Value.int 0 0, PySem.Value.int 3 0, PySem.Value.ref 374, PySem.Value.bool Bool.true, PySem.Value.int 181 0, PySem.Value.ref 375, PySem.Value.none, PySem.Value.ref 376, PySem.Value.ref 377, PySem.Value.ref 378, PySem.Value.int 698 0, PySem.Value.int 178 0, PySem.Value.str (Sx "/claim/cut.py") 699]) #[]
noncomputable def ob385 (P : PySem.Params) : PySem.Obj := PySem.Obj.mk (PySem.Value.type "function") Option.none (PySem.Data.func (PySem.FuncData.mk (Sx "_law_canvas") (Sx "_law_canvas") (pAr 35) (PySem.FuncBody.stmts (pBo 35)) (pSc 35) 3 [] PySem.Value.none PySem.Value.none PySem.Value.none (PySem.Value.str (Sx "law_nu0022_01") 658) Option.none (PySem.Value.ref 379) PySem.Value.none 0)) #[]
noncomputable def ob386 (P : PySem.Params) : PySem.Obj := PySem.Obj.mk (PySem.Value.type "tuple") Option.none (PySem.Data.seq #[]) #[]
noncomputable def ob387 (P : PySem.Params) : PySem.Obj := PySem.Obj.mk PySem.Value.none Option.none (PySem.Data.fields #[]) #[]
noncomputable def ob388 (P : PySem.Params) : PySem.Obj := PySem.Obj.mk (PySem.Value.type "tuple") Option.none (PySem.Data.seq #[PySem.Value.str (Sx "place") 704, PySem.Value.str (Sx "shift") 705, PySem.Value.str (Sx "top") 706, PySem.Value.str (Sx "bottom") 707, PySem.Value.str (Sx "many") 708]) #[]
noncomputable def ob389 (P : PySem.Params) : PySem.Obj := PySem.Obj.mk (PySem.Value.type "tuple") Option.none (PySem.Data.seq #[]) #[]
noncomputable def ob390 (P : PySem.Params) : PySem.Obj := PySem.Obj.mk PySem.Value.none Option.none (PySem.Data.func (PySem.FuncData.mk (Sx "_law_dot") (Sx "_law_dot") (pAr 36) (PySem.FuncBody.stmts (pBo 36)) (pSc 36) 0 [] PySem.Value.none PySem.Value.none PySem.Value.none PySem.Value.none Option.none PySem.Value.none PySem.Value.none 0)) #[]
noncomputable def ob391 (P : PySem.Params) : PySem.Obj := PySem.Obj.mk (PySem.Value.type "code") Option.none (PySem.Data.fields #[PySem.Value.str (Sx "_law_dot") 701, PySem.Value.str (Sx "_law_dot") 702, PySem.Value.str (Sx "/claim/cut.py") 703, PySem.Value.int 186 0, PySem.Value.int 5 0, PySem.Value.int 0 0, PySem.Value.int 0 0, PySem.Value.int 3 0, PySem.Value.ref 381, PySem.Value.bool Bool.true, PySem.Value.int 181 0, PySem.Value.ref 382, PySem.Value.none, PySem.Value.ref 383, PySem.Value.ref 384, PySem.Value.ref 385, PySem.Value.int 709 0, PySem.Value.int 186 0, PySem.Value.str (Sx "/claim/cut.py") 710]) #[]
noncomputable def ob392 (P : PySem.Params) : PySem.Obj := PySem.Obj.mk (PySem.Value.type "function") Option.none (PySem.Data.func (PySem.FuncData.mk (Sx "_law_dot") (Sx "_law_dot") (pAr 36) (PySem.FuncBody.stmts (pBo 36)) (pSc 36) 3 [] PySem.Value.none PySem.Value.none PySem.Value.none (PySem.Value.str (Sx "law_nu0022_01") 658) Option.none (PySem.Value.ref 386) PySem.Value.none 0)) #[]
noncomputable def ob393 (P : PySem.Params) : PySem.Obj := PySem.Obj.mk (PySem.Value.type "tuple") Option.none (PySem.Data.seq #[]) #[]
noncomputable def ob394 (P : PySem.Params) : PySem.Obj := PySem.Obj.mk PySem.Value.none Option.none (PySem.Data.fields #[]) #[]
noncomputable def ob395 (P : PySem.Params) : PySem.Obj := PySem.Obj.mk PySem.Value.none Option.none (PySem.Data.func (PySem.FuncData.mk (Sx "law") (Sx "law") (pAr 37) (PySem.FuncBody.stmts (pBo 37)) (pSc 37) 0 [] PySem.Value.none PySem.Value.none PySem.Value.none PySem.Value.none Option.none PySem.Value.none PySem.Value.none 0)) #[]
noncomputable def ob396 (P : PySem.Params) : PySem.Obj := PySem.Obj.mk (PySem.Value.type "code") Option.none (PySem.Data.fields #[PySem.Value.str (Sx "law") 712, PySem.Value.str (Sx "law") 713, PySem.Value.str (Sx "/claim/cut.py") 714, PySem.Value.int 188 0, PySem.Value.int 1 0, PySem.Value.int 0 0, PySem.Value.int 0 0, PySem.Value.int 3 0, PySem.Value.ref 388, PySem.Value.bool Bool.true, PySem.Value.int 181 0, PySem.Value.ref 389, PySem.Value.none, PySem.Value.none, PySem.Value.none, PySem.Value.ref 390, PySem.Value.int 715 0, PySem.Value.int 188 0, PySem.Value.str (Sx "/claim/cut.py") 716]) #[]
noncomputable def ob397 (P : PySem.Params) : PySem.Obj := PySem.Obj.mk (PySem.Value.type "function") Option.none (PySem.Data.func (PySem.FuncData.mk (Sx "law") (Sx "law") (pAr 37) (PySem.FuncBody.stmts (pBo 37)) (pSc 37) 3 [] PySem.Value.none PySem.Value.none PySem.Value.none (PySem.Value.str (Sx "law_nu0022_01") 658) Option.none (PySem.Value.ref 391) PySem.Value.none 0)) #[]
noncomputable def t7 (P : PySem.Params) : BT := (N (PySem.W.boot_o_0 P) (N (PySem.W.boot_o_1 P) (N (ob356 P) (N (PySem.W.boot_o_7 P) (N (ob7 P) (N (ob23 P) (N (ob58 P) (N (ob124 P) (N (ob256 P) L L) (N (ob388 P) L L)) (N (ob190 P) (N (ob322 P) L L) L)) (N (ob92 P) (N (ob156 P) (N (ob290 P) L L) L) (N (ob224 P) (N (ob354 P) L L) L))) (N (ob39 P) (N (ob74 P) (N (ob140 P) (N (ob272 P) L L) L) (N (ob206 P) (N (ob338 P) L L) L)) (N (ob108 P) (N (ob174 P) (N (ob306 P) L L) L) (N (ob240 P) (N (ob372 P) L L) L)))) (N (ob15 P) (N (ob31 P) (N (ob66 P) (N (ob132 P) (N (ob264 P) L L) (N (ob396 P) L L)) (N (ob198 P) (N (ob330 P) L L) L)) (N (ob100 P) (N (ob166 P) (N (ob298 P) L L) L) (N (ob232 P) (N (ob364 P) L L) L))) (N (ob50 P) (N (ob84 P) (N (ob148 P) (N (ob280 P) L L) L) (N (ob216 P) (N (ob346 P) L L) L)) (N (ob116 P) (N (ob182 P) (N (ob314 P) L L) L) (N (ob248 P) (N (ob380 P) L L) L))))) (N (ob0 P) (N (ob11 P) (N (ob27 P) (N (ob62 P) (N (ob128 P) (N (ob260 P) L L) (N (ob392 P) L L)) (N (ob194 P) (N (ob326 P) L L) L)) (N (ob96 P) (N (ob160 P) (N (ob294 P) L L) L) (N (ob228 P) (N (ob360 P) L L) L))) (N (ob43 P) (N (ob80 P) (N (ob144 P) (N (ob276 P) L L) L) (N (ob212 P) (N (ob342 P) L L) L)) (N (ob112 P) (N (ob178 P) (N (ob310 P) L L) L) (N (ob244 P) (N (ob376 P) L L) L)))) (N (ob19 P) (N (ob35 P) (N (ob70 P) (N (ob136 P) (N (ob268 P) L L) L) (N (ob202 P) (N (ob334 P) L L) L)) (N (ob104 P) (N (ob170 P) (N (ob302 P) L L) L) (N (ob236 P) (N (ob368 P) L L) L))) (N (ob54 P) (N (ob88 P) (N (ob152 P) (N (ob286 P) L L) L) (N (ob220 P) (N (ob350 P) L L) L)) (N (ob120 P) (N (ob186 P) (N (ob318 P) L L) L) (N (ob252 P) (N (ob384 P) L L) L)))))) (N (PySem.W.boot_o_5 P) (N (PySem.W.boot_o_9 P) (N (ob9 P) (N (ob25 P) (N (ob60 P) (N (ob126 P) (N (ob258 P) L L) (N (ob390 P) L L)) (N (ob192 P) (N (ob324 P) L L) L)) (N (ob94 P) (N (ob158 P) (N (ob292 P) L L) L) (N (ob226 P) (N (ob358 P) L L) L))) (N (ob41 P) (N (ob78 P) (N (ob142 P) (N (ob274 P) L L) L) (N (ob210 P) (N (ob340 P) L L) L)) (N (ob110 P) (N (ob176 P) (N (ob308 P) L L) L) (N (ob242 P) (N (ob374 P) L L) L)))) (N (ob17 P) (N (ob33 P) (N (ob68 P) (N (ob134 P) (N (ob266 P) L L) L) (N (ob200 P) (N (ob332 P) L L) L)) (N (ob102 P) (N (ob168 P) (N (ob300 P) L L) L) (N (ob234 P) (N (ob366 P) L L) L))) (N (ob52 P) (N (ob86 P) (N (ob150 P) (N (ob282 P) L L) L) (N (ob218 P) (N (ob348 P) L L) L)) (N (ob118 P) (N (ob184 P) (N (ob316 P) L L) L) (N (ob250 P) (N (ob382 P) L L) L))))) (N (ob2 P) (N (ob13 P) (N (ob29 P) (N (ob64 P) (N (ob130 P) (N (ob262 P) L L) (N (ob394 P) L L)) (N (ob196 P) (N (ob328 P) L L) L)) (N (ob98 P) (N (ob162 P) (N (ob296 P) L L) L) (N (ob230 P) (N (ob362 P) L L) L))) (N (ob45 P) (N (ob82 P) (N (ob146 P) (N (ob278 P) L L) L) (N (ob214 P) (N (ob344 P) L L) L)) (N (ob114 P) (N (ob180 P) (N (ob312 P) L L) L) (N (ob246 P) (N (ob378 P) L L) L)))) (N (ob21 P) (N (ob37 P) (N (ob72 P) (N (ob138 P) (N (ob270 P) L L) L) (N (ob204 P) (N (ob336 P) L L) L)) (N (ob106 P) (N (ob172 P) (N (ob304 P) L L) L) (N (ob238 P) (N (ob370 P) L L) L))) (N (ob56 P) (N (ob90 P) (N (ob154 P) (N (ob288 P) L L) L) (N (ob222 P) (N (ob352 P) L L) L)) (N (ob122 P) (N (ob188 P) (N (ob320 P) L L) L) (N (ob254 P) (N (ob386 P) L L) L))))))) (N (ob4 P) (N (PySem.W.boot_o_4 P) (N (PySem.W.boot_o_8 P) (N (ob8 P) (N (ob24 P) (N (ob59 P) (N (ob125 P) (N (ob257 P) L L) (N (ob389 P) L L)) (N (ob191 P) (N (ob323 P) L L) L)) (N (ob93 P) (N (ob157 P) (N (ob291 P) L L) L) (N (ob225 P) (N (ob355 P) L L) L))) (N (ob40 P) (N (ob77 P) (N (ob141 P) (N (ob273 P) L L) L) (N (ob207 P) (N (ob339 P) L L) L)) (N (ob109 P) (N (ob175 P) (N (ob307 P) L L) L) (N (ob241 P) (N (ob373 P) L L) L)))) (N (ob16 P) (N (ob32 P) (N (ob67 P) (N (ob133 P) (N (ob265 P) L L) (N (ob397 P) L L)) (N (ob199 P) (N (ob331 P) L L) L)) (N (ob101 P) (N (ob167 P) (N (ob299 P) L L) L) (N (ob233 P) (N (ob365 P) L L) L))) (N (ob51 P) (N (ob85 P) (N (ob149 P) (N (ob281 P) L L) L) (N (ob217 P) (N (ob347 P) L L) L)) (N (ob117 P) (N (ob183 P) (N (ob315 P) L L) L) (N (ob249 P) (N (ob381 P) L L) L))))) (N (ob357 P) (N (ob12 P) (N (ob28 P) (N (ob63 P) (N (ob129 P) (N (ob261 P) L L) (N (ob393 P) L L)) (N (ob195 P) (N (ob327 P) L L) L)) (N (ob97 P) (N (ob161 P) (N (ob295 P) L L) L) (N (ob229 P) (N (ob361 P) L L) L))) (N (ob44 P) (N (ob81 P) (N (ob145 P) (N (ob277 P) L L) L) (N (ob213 P) (N (ob343 P) L L) L)) (N (ob113 P) (N (ob179 P) (N (ob311 P) L L) L) (N (ob245 P) (N (ob377 P) L L) L)))) (N (ob20 P) (N (ob36 P) (N (ob71 P) (N (ob137 P) (N (ob269 P) L L) L) (N (ob203 P) (N (ob335 P) L L) L)) (N (ob105 P) (N (ob171 P) (N (ob303 P) L L) L) (N (ob237 P) (N (ob369 P) L L) L))) (N (ob55 P) (N (ob89 P) (N (ob153 P) (N (ob287 P) L L) L) (N (ob221 P) (N (ob351 P) L L) L)) (N (ob121 P) (N (ob187 P) (N (ob319 P) L L) L) (N (ob253 P) (N (ob385 P) L L) L)))))) (N (PySem.W.boot_o_6 P) (N (PySem.W.boot_o_10 P) (N (ob10 P) (N (ob26 P) (N (ob61 P) (N (ob127 P) (N (ob259 P) L L) (N (ob391 P) L L)) (N (ob193 P) (N (ob325 P) L L) L)) (N (ob95 P) (N (ob159 P) (N (ob293 P) L L) L) (N (ob227 P) (N (ob359 P) L L) L))) (N (ob42 P) (N (ob79 P) (N (ob143 P) (N (ob275 P) L L) L) (N (ob211 P) (N (ob341 P) L L) L)) (N (ob111 P) (N (ob177 P) (N (ob309 P) L L) L) (N (ob243 P) (N (ob375 P) L L) L)))) (N (ob18 P) (N (ob34 P) (N (ob69 P) (N (ob135 P) (N (ob267 P) L L) L) (N (ob201 P) (N (ob333 P) L L) L)) (N (ob103 P) (N (ob169 P) (N (ob301 P) L L) L) (N (ob235 P) (N (ob367 P) L L) L))) (N (ob53 P) (N (ob87 P) (N (ob151 P) (N (ob283 P) L L) L) (N (ob219 P) (N (ob349 P) L L) L)) (N (ob119 P) (N (ob185 P) (N (ob317 P) L L) L) (N (ob251 P) (N (ob383 P) L L) L))))) (N (ob3 P) (N (ob14 P) (N (ob48 P) (N (ob65 P) (N (ob131 P) (N (ob263 P) L L) (N (ob395 P) L L)) (N (ob197 P) (N (ob329 P) L L) L)) (N (ob99 P) (N (ob165 P) (N (ob297 P) L L) L) (N (ob231 P) (N (ob363 P) L L) L))) (N (ob49 P) (N (ob83 P) (N (ob147 P) (N (ob279 P) L L) L) (N (ob215 P) (N (ob345 P) L L) L)) (N (ob115 P) (N (ob181 P) (N (ob313 P) L L) L) (N (ob247 P) (N (ob379 P) L L) L)))) (N (ob22 P) (N (ob38 P) (N (ob73 P) (N (ob139 P) (N (ob271 P) L L) L) (N (ob205 P) (N (ob337 P) L L) L)) (N (ob107 P) (N (ob173 P) (N (ob305 P) L L) L) (N (ob239 P) (N (ob371 P) L L) L))) (N (ob57 P) (N (ob91 P) (N (ob155 P) (N (ob289 P) L L) L) (N (ob223 P) (N (ob353 P) L L) L)) (N (ob123 P) (N (ob189 P) (N (ob321 P) L L) L) (N (ob255 P) (N (ob387 P) L L) L))))))))
noncomputable abbrev nt7 : Nat := 393
noncomputable abbrev ps7 : PySem.Pos := PySem.Pos.mk 188 0 207 102
noncomputable abbrev tk7 : Nat := 718
noncomputable def sts7 : List PySem.Stmt := (bdy.drop 32).take 6 -- 188 steps
noncomputable def hF (P : PySem.Params) : PySem.Heap := ⟨⟨[PySem.W.boot_o_0 P, PySem.W.boot_o_1 P, ob4 P, ob356 P, PySem.W.boot_o_4 P, PySem.W.boot_o_5 P, PySem.W.boot_o_6 P, PySem.W.boot_o_7 P, PySem.W.boot_o_8 P, PySem.W.boot_o_9 P, PySem.W.boot_o_10 P, ob0 P, ob357 P, ob2 P, ob3 P, ob7 P, ob8 P, ob9 P, ob10 P, ob11 P, ob12 P, ob13 P, ob14 P, ob15 P, ob16 P, ob17 P, ob18 P, ob19 P, ob20 P, ob21 P, ob22 P, ob23 P, ob24 P, ob25 P, ob26 P, ob27 P, ob28 P, ob29 P, ob48 P, ob31 P, ob32 P, ob33 P, ob34 P, ob35 P, ob36 P, ob37 P, ob38 P, ob39 P, ob40 P, ob41 P, ob42 P, ob43 P, ob44 P, ob45 P, ob49 P, ob50 P, ob51 P, ob52 P, ob53 P, ob54 P, ob55 P, ob56 P, ob57 P, ob58 P, ob59 P, ob60 P, ob61 P, ob62 P, ob63 P, ob64 P, ob65 P, ob66 P, ob67 P, ob68 P, ob69 P, ob70 P, ob71 P, ob72 P, ob73 P, ob74 P, ob77 P, ob78 P, ob79 P, ob80 P, ob81 P, ob82 P, ob83 P, ob84 P, ob85 P, ob86 P, ob87 P, ob88 P, ob89 P, ob90 P, ob91 P, ob92 P, ob93 P, ob94 P, ob95 P, ob96 P, ob97 P, ob98 P, ob99 P, ob100 P, ob101 P, ob102 P, ob103 P, ob104 P, ob105 P, ob106 P, ob107 P, ob108 P, ob109 P, ob110 P, ob111 P, ob112 P, ob113 P, ob114 P, ob115 P, ob116 P, ob117 P, ob118 P, ob119 P, ob120 P, ob121 P, ob122 P, ob123 P, ob124 P, ob125 P, ob126 P, ob127 P, ob128 P, ob129 P, ob130 P, ob131 P, ob132 P, ob133 P, ob134 P, ob135 P, ob136 P, ob137 P, ob138 P, ob139 P, ob140 P, ob141 P, ob142 P, ob143 P, ob144 P, ob145 P, ob146 P, ob147 P, ob148 P, ob149 P, ob150 P, ob151 P, ob152 P, ob153 P, ob154 P, ob155 P, ob156 P, ob157 P, ob158 P, ob159 P, ob160 P, ob161 P, ob162 P, ob165 P, ob166 P, ob167 P, ob168 P, ob169 P, ob170 P, ob171 P, ob172 P, ob173 P, ob174 P, ob175 P, ob176 P, ob177 P, ob178 P, ob179 P, ob180 P, ob181 P, ob182 P, ob183 P, ob184 P, ob185 P, ob186 P, ob187 P, ob188 P, ob189 P, ob190 P, ob191 P, ob192 P, ob193 P, ob194 P, ob195 P, ob196 P, ob197 P, ob198 P, ob199 P, ob200 P, ob201 P, ob202 P, ob203 P, ob204 P, ob205 P, ob206 P, ob207 P, ob210 P, ob211 P, ob212 P, ob213 P, ob214 P, ob215 P, ob216 P, ob217 P, ob218 P, ob219 P, ob220 P, ob221 P, ob222 P, ob223 P, ob224 P, ob225 P, ob226 P, ob227 P, ob228 P, ob229 P, ob230 P, ob231 P, ob232 P, ob233 P, ob234 P, ob235 P, ob236 P, ob237 P, ob238 P, ob239 P, ob240 P, ob241 P, ob242 P, ob243 P, ob244 P, ob245 P, ob246 P, ob247 P, ob248 P, ob249 P, ob250 P, ob251 P, ob252 P, ob253 P, ob254 P, ob255 P, ob256 P, ob257 P, ob258 P, ob259 P, ob260 P, ob261 P, ob262 P, ob263 P, ob264 P, ob265 P, ob266 P, ob267 P, ob268 P, ob269 P, ob270 P, ob271 P, ob272 P, ob273 P, ob274 P, ob275 P, ob276 P, ob277 P, ob278 P, ob279 P, ob280 P, ob281 P, ob282 P, ob283 P, ob286 P, ob287 P, ob288 P, ob289 P, ob290 P, ob291 P, ob292 P, ob293 P, ob294 P, ob295 P, ob296 P, ob297 P, ob298 P, ob299 P, ob300 P, ob301 P, ob302 P, ob303 P, ob304 P, ob305 P, ob306 P, ob307 P, ob308 P, ob309 P, ob310 P, ob311 P, ob312 P, ob313 P, ob314 P, ob315 P, ob316 P, ob317 P, ob318 P, ob319 P, ob320 P, ob321 P, ob322 P, ob323 P, ob324 P, ob325 P, ob326 P, ob327 P, ob328 P, ob329 P, ob330 P, ob331 P, ob332 P, ob333 P, ob334 P, ob335 P, ob336 P, ob337 P, ob338 P, ob339 P, ob340 P, ob341 P, ob342 P, ob343 P, ob344 P, ob345 P, ob346 P, ob347 P, ob348 P, ob349 P, ob350 P, ob351 P, ob352 P, ob353 P, ob354 P, ob355 P, ob358 P, ob359 P, ob360 P, ob361 P, ob362 P, ob363 P, ob364 P, ob365 P, ob366 P, ob367 P, ob368 P, ob369 P, ob370 P, ob371 P, ob372 P, ob373 P, ob374 P, ob375 P, ob376 P, ob377 P, ob378 P, ob379 P, ob380 P, ob381 P, ob382 P, ob383 P, ob384 P, ob385 P, ob386 P, ob387 P, ob388 P, ob389 P, ob390 P, ob391 P, ob392 P, ob393 P, ob394 P, ob395 P, ob396 P, ob397 P]⟩, life0⟩
noncomputable abbrev tkF : Nat := 718
theorem pre_ok (w : World) (os : OsState) : topGo treeTable PySem.Challenge.pw_nu0022_01 w 11 ann0 12 (st (boot_heap w.params) boot_toks os) (topStub PySem.Challenge.pw_nu0022_01) = some (st (hA w.params) tkA os, ⟨denote treeTable (.body bdy env0), cd0, psA, fr0⟩) := by kernel_rfl
theorem block_ok (w : World) (os : OsState) : segRun treeTable PySem.Challenge.pw_nu0022_01 w 11 ann0 1 1 (st (hA w.params) tkA os) (blockOf bdy env0 cd0 psA fr0) = some (.next, (stT (t0 w.params) nt0 tk0 os).abs, cd0, ps0) := by kernel_rfl
theorem piece1_ok (w : World) (os : OsState) : segRunT treeTable PySem.Challenge.pw_nu0022_01 w 11 ann0 1 480 (stT (t0 w.params) nt0 tk0 os) (piecesOf sts1 env0 cd0 ps0 fr0) = some (.next, stT (t1 w.params) nt1 tk1 os, cd0, ps1) := by
  rw [PySem.W.Fast.te10110043849684766642]
  kernel_rfl
theorem piece2_ok (w : World) (os : OsState) : segRunT treeTable PySem.Challenge.pw_nu0022_01 w 11 ann0 1 460 (stT (t1 w.params) nt1 tk1 os) (piecesOf sts2 env0 cd0 ps1 fr0) = some (.next, stT (t2 w.params) nt2 tk2 os, cd0, ps2) := by
  rw [PySem.W.Fast.te10110043849684766642]
  kernel_rfl
theorem piece3_ok (w : World) (os : OsState) : segRunT treeTable PySem.Challenge.pw_nu0022_01 w 11 ann0 1 396 (stT (t2 w.params) nt2 tk2 os) (piecesOf sts3 env0 cd0 ps2 fr0) = some (.next, stT (t3 w.params) nt3 tk3 os, cd0, ps3) := by
  rw [PySem.W.Fast.te10110043849684766642]
  kernel_rfl
theorem piece4_ok (w : World) (os : OsState) : segRunT treeTable PySem.Challenge.pw_nu0022_01 w 11 ann0 1 353 (stT (t3 w.params) nt3 tk3 os) (piecesOf sts4 env0 cd0 ps3 fr0) = some (.next, stT (t4 w.params) nt4 tk4 os, cd0, ps4) := by
  rw [PySem.W.Fast.te10110043849684766642]
  kernel_rfl
theorem piece5_ok (w : World) (os : OsState) : segRunT treeTable PySem.Challenge.pw_nu0022_01 w 11 ann0 1 480 (stT (t4 w.params) nt4 tk4 os) (piecesOf sts5 env0 cd0 ps4 fr0) = some (.next, stT (t5 w.params) nt5 tk5 os, cd0, ps5) := by
  rw [PySem.W.Fast.te10110043849684766642]
  kernel_rfl
theorem piece6_ok (w : World) (os : OsState) : segRunT treeTable PySem.Challenge.pw_nu0022_01 w 11 ann0 1 478 (stT (t5 w.params) nt5 tk5 os) (piecesOf sts6 env0 cd0 ps5 fr0) = some (.next, stT (t6 w.params) nt6 tk6 os, cd0, ps6) := by
  rw [PySem.W.Fast.te10110043849684766642]
  kernel_rfl
theorem piece7_ok (w : World) (os : OsState) : segRunT treeTable PySem.Challenge.pw_nu0022_01 w 11 ann0 1 189 (stT (t6 w.params) nt6 tk6 os) (piecesOf sts7 env0 cd0 ps6 fr0) = some (.next, stT (t7 w.params) nt7 tk7 os, cd0, ps7) := by
  rw [PySem.W.Fast.te10110043849684766642]
  kernel_rfl
theorem fin_ok (w : World) (os : OsState) : topRun treeTable PySem.Challenge.pw_nu0022_01 w 11 ann0 2 (stT (t7 w.params) nt7 tk7 os).abs ⟨doneF .next, cd0, ps7, fr0⟩ = some (st (hF w.params) tkF os) := by kernel_rfl
theorem bdy_eq : bdy = (sts1 ++ (sts2 ++ (sts3 ++ (sts4 ++ (sts5 ++ (sts6 ++ (sts7 ++ []))))))) := by kernel_rfl
noncomputable abbrev M0 : Nat := 12 + (1 + (480 + (460 + (396 + (353 + (480 + (478 + (189 + 2))))))))
theorem rest_ok (w : World) (os : OsState) : topRun treeTable PySem.Challenge.pw_nu0022_01 w 11 ann0 (480 + (460 + (396 + (353 + (480 + (478 + (189 + 2))))))) (stT (t0 w.params) nt0 tk0 os).abs (restOf bdy env0 cd0 ps0 fr0) = some (st (hF w.params) tkF os) := by
  have h : topRun treeTable PySem.Challenge.pw_nu0022_01 w 11 ann0 (480 + (460 + (396 + (353 + (480 + (478 + (189 + 2))))))) (stT (t0 w.params) nt0 tk0 os).abs (restOf (sts1 ++ (sts2 ++ (sts3 ++ (sts4 ++ (sts5 ++ (sts6 ++ (sts7 ++ []))))))) env0 cd0 ps0 fr0) = some (st (hF w.params) tkF os) := (piece_app (segRun_of (piece1_ok w os)) (piece_app (segRun_of (piece2_ok w os)) (piece_app (segRun_of (piece3_ok w os)) (piece_app (segRun_of (piece4_ok w os)) (piece_app (segRun_of (piece5_ok w os)) (piece_app (segRun_of (piece6_ok w os)) (piece_app (segRun_of (piece7_ok w os)) (fin_ok w os))))))))
  rw [← bdy_eq] at h
  exact h
theorem run_ok (w : World) (os : OsState) : topRun treeTable PySem.Challenge.pw_nu0022_01 w 11 ann0 M0 ⟨boot_heap w.params, ⟨[]⟩, boot_drawn, boot_toks, os⟩ (topStub PySem.Challenge.pw_nu0022_01) = some ⟨hF w.params, ⟨[]⟩, drawn0, tkF, os⟩ :=
  go_top (pre_ok w os) (piece_block (block_ok w os) (rest_ok w os))
noncomputable def q : PySem.Program := view PySem.Challenge.pw_nu0022_01 [0, 2, 3, 4, 5, 7, 8, 9, 11, 12, 13, 14, 15, 16, 17, 18, 20, 22, 23, 24, 26, 27, 29, 30, 32, 33, 34, 35, 36, 37]
abbrev lo : List PySem.Str := [PySem.Str.ofString "fraction"]
noncomputable abbrev md : List PySem.Str := importedModules (PySem.Challenge.pw_nu0022_01).main.body
noncomputable abbrev fs (w : World) (os : OsState) : PySem.Shared := ⟨hF w.params, ⟨[]⟩, drawn0, tkF, os⟩
noncomputable abbrev xt : PySem.Shared → Bool := fun s => xlAt q [] s && recOk [] s
theorem statics_ok (w : World) (os : OsState) : (staticsOk md (boot_heap w.params) (hF w.params) && namesBound PySem.Challenge.pw_nu0022_01 (hF w.params) && gensDone (fs w os) && laidKept (boot_heap w.params) (hF w.params)) = true := by kernel_rfl
theorem seen1 (w : World) (os : OsState) : seen ((recsOf q).map (·.name)) (ownsOf q) [] { fs w os with gens := #[] } = expectedOf q := by kernel_rfl
theorem seen2 (w : World) (os : OsState) : (fs w os).heap.bltView = bltViewBooted := by kernel_rfl
theorem seen3 (w : World) (os : OsState) : (fs w os).heap.keysOk (looseW q lo) ((recsOf q).map (·.name)) ((litsOf q).map (·.1)) ((clssOf q (looseW q lo)).map (·.name)) = true := by kernel_rfl
theorem seen3a (w : World) (os : OsState) : (fs w os).heap.accountedOkI md = true := by kernel_rfl
theorem seen3b (w : World) (os : OsState) : ((fs w os).heap.isNs mainGlobals) = true := by kernel_rfl
theorem seen3c (w : World) (os : OsState) : ((fs w os).heap.isNs builtinsNs) = true := by kernel_rfl
theorem seen3d (w : World) (os : OsState) : tablesOk q (fs w os).heap = true := by kernel_rfl
theorem seen3e (w : World) (os : OsState) : xt (fs w os) = true := by kernel_rfl
theorem seen4 (w : World) (os : OsState) : tabsOk q (fs w os) = true := by kernel_rfl
theorem seen5 (w : World) (os : OsState) : pinSeenD q (drecsOf q) (fs w os) = pinGoodD (drecsOf q) := by kernel_rfl
theorem seen6 (w : World) (os : OsState) : plainSeenE q (looseW q lo) (fs w os) = plainGoodE q (looseW q lo) := by kernel_rfl
theorem seen7 (w : World) (os : OsState) : plainSeenD q lo (fs w os) = plainGoodD q lo := by kernel_rfl
theorem seen8 (w : World) (os : OsState) : wideSeen q (fs w os) = wideGood q := by kernel_rfl
theorem seen9 (w : World) (os : OsState) : clsSeenW q lo (fs w os) = clsGoodW q lo := by kernel_rfl
theorem seen_ok (w : World) (os : OsState) : openSeen q lo md xt true (fs w os) = openGood q lo :=
  looks_pair (seen1 w os) (looks_pair (seen2 w os) (looks_pair (look_both (look_both (look_both (look_both (look_both (look_both (seen3 w os) (seen3a w os)) (seen3b w os)) (seen3c w os)) (seen3d w os)) (seen3e w os)) rfl)
    (looks_pair (seen4 w os) (looks_pair (seen5 w os) (looks_pair (seen6 w os) (looks_pair (seen7 w os) (looks_pair (seen8 w os) (seen9 w os))))))))
theorem said_ok : (PySem.Challenge.rw_nu0022_01).wellSaid = true := by
  rw [PySem.W.Fast.te9446332074065402090]
  kernel_rfl
theorem open_ok : ∀ w : World, (fencedOpening treeTable PySem.Challenge.pw_nu0022_01 w 5784).map (fun s => (s.heap, s.gens, s.drawn, s.toks)) = some (boot_heap w.params, Array.mk [], boot_drawn, boot_toks) :=
  boot_open (by kernel_rfl) (by rfl) (fun s => by kernel_rfl)
theorem size_ok : ∀ w : World, ((boot_heap w.params).isNs mainGlobals && (Array.mk ([] : List GenState)).size == 0, (boot_heap w.params).objs.size, (boot_heap w.params).nsMap mainGlobals "__annotations__") = (true, 11, ann0) := by intro w; kernel_rfl
end Run
end
section
local macro_rules | `(tactic| o_law) => `(tactic| refine holds_law Run.said_ok fun said => ?_)
local macro_rules | `(tactic| refine $e:term) => `(tactic| (refine' $e; try (case hl =>
  refine' LeftO.of_pieces (H₀ := boot_heap) (H₁ := Run.hF) (gs₀ := ⟨[]⟩) (gs₁ := ⟨[]⟩) (d₀ := boot_drawn) (d₁ := Run.drawn0) (k₀ := boot_toks) (k₁ := Run.tkF) (m₀ := 11) (ann := Run.ann0) (M := Run.M0) Run.open_ok Run.size_ok Run.run_ok (by rfl) ?_
  intro w
  refine' funext fun os => looks_pair (Run.statics_ok w os) (looks_pair ?_ ?_)
  · exact Run.seen_ok w os
  · kernel_rfl)))
set_option maxRecDepth 100000 in
set_option maxHeartbeats 0 in
open_top hd for PySem.Challenge.rw_nu0022_01
end

abbrev Led := List (Addr × Obj)
abbrev Cont := Value → Shared → Prop
abbrev RetT := Heap → Addr → (PySem.Str → Option Value) → Shared → Cont → Prop

abbrev CallOk (w : World) (mean : ExcName → Option Value) (mg mb : PySem.Str → Option Value) (f : Addr) (vs : List Value) (news : Led) (need : Nat) (Pre : Heap → Prop) (Ret : RetT) : Prop :=
  ∀ (dp un : Nat) (gd : Option (List Code)) (cn : PySem.Str) (cs : Scope) (a : Addr) (ccd : Value) (cl : List (PySem.Str × Addr)) (outer : List Env) (A₀ : Around) (base h₀ : Heap) (L : Addr) (m : PySem.Str → Option Value) (s : Shared) (Q E : Value → Shared → Prop),
    ∀ (k1 : Below A₀ base outer h₀) (k2 : Fr h₀ L s.heap m) (k3 : (hd.heap_1 w.params).In h₀) (k4 : News h₀ L s.heap news) (k5 : Top hd.view_1 (looseW hd.view_1 [Str.ofString "fraction"]) mean mg mb h₀) (kK : cs.kind = .function)
    (kd : dp + need < recursionLimit) (ku : un + 8 * need < cLine) (kp : Pre h₀) (kr : Ret h₀ L m s Q),
      wpAny (model Challenge.rw_nu0022_01.row.prog w) (ktrTop dp un gd cn cs L a ccd cl outer) (call (.ref f) vs) Q E s

/-- what a call gives back: an int, the ledger as it was -/
abbrev RetInt (news : Led) (x : Int) : RetT := fun h₀ L m s Q => ∀ (t : Tok) (h' : Heap) (tk' : Nat), Fr h₀ L h' m → News h₀ L h' news → Q (.int x t) { s with heap := h', toks := tk' }
abbrev tupO (x y : Int) (t u : Tok) : Obj := { cls := .type "tuple", data := .seq #[.int x t, .int y u] }
/-- a new pair of ints -/
abbrev RetPair (news : Led) (x y : Int) : RetT := fun h₀ L m s Q => ∀ (D : Addr) (t u : Tok) (h' : Heap) (tk' : Nat), Fr h₀ L h' m → News h₀ L h' ((D, tupO x y t u) :: news) → (∀ p ∈ news, p.1 < D) → Q (.ref D) { s with heap := h', toks := tk' }

theorem end_int {h₀ h' : Heap} {L : Addr} {m : PySem.Str → Option Value} {news : Led} {s : Shared} {Q : Cont} {x y : Int} {t : Tok} {tk : Nat} (hret : RetInt news x h₀ L m s Q) (e : y = x) (F : Fr h₀ L h' m) (N : News h₀ L h' news) : Q (.int y t) { s with heap := h', toks := tk } := by
  subst e; exact hret t h' tk F N
theorem end_pair {h₀ h' : Heap} {L D : Addr} {m : PySem.Str → Option Value} {news : Led} {s : Shared} {Q : Cont} {x y x' y' : Int} {t u : Tok} {tk : Nat} (hret : RetPair news x y h₀ L m s Q) (e : x' = x ∧ y' = y) (F : Fr h₀ L h' m)
    (N : News h₀ L h' ((D, tupO x' y' t u) :: news)) (hl : ∀ p ∈ news, p.1 < D) : Q (.ref D) { s with heap := h', toks := tk } := by
  obtain ⟨rfl, rfl⟩ := e; exact hret D t u h' tk F N hl
theorem sub_cons {p : Addr × Obj} {a b : Led} (h : ∀ q ∈ a, q ∈ b) : ∀ q ∈ p :: a, q ∈ p :: b := fun q hq => by
  rcases List.mem_cons.mp hq with rfl | hq
  · exact .head _
  · exact .tail _ (h q hq)
theorem sub_drop {p : Addr × Obj} {a b : Led} (h : ∀ q ∈ a, q ∈ b) : ∀ q ∈ a, q ∈ p :: b := fun q hq => .tail _ (h q hq)
theorem news_sub {h₀ h : Heap} {L : Addr} {a b : Led} (N : News h₀ L h b) (hs : ∀ q ∈ a, q ∈ b) : News h₀ L h a := fun p hp => N p (hs p hp)

theorem gcd_start {x y : Int} (hy : 0 ≤ y) : 0 ≤ (if x < 0 then -x else x) ∧ 0 ≤ y ∧ Int.gcd (if x < 0 then -x else x) y = Int.gcd x y := by
  refine ⟨by split <;> omega, hy, ?_⟩
  split
  · exact Int.neg_gcd
  · rfl
theorem gcd_turn {f s : Int} {g : Nat} (_h1 : 0 ≤ f) (h2 : 0 ≤ s) (h3 : Int.gcd f s = g) (hs : 0 < s) : 0 ≤ s ∧ 0 ≤ f.fmod s ∧ Int.gcd s (f.fmod s) = g := by
  rw [Int.fmod_eq_emod_of_nonneg _ h2]
  refine ⟨h2, Int.emod_nonneg _ (by omega), ?_⟩
  rw [← h3, Int.gcd_comm f s, Int.emod_def, Int.gcd_sub_mul_left_right]
theorem gcd_less {f s : Int} (hs : 0 < s) : (f.fmod s).toNat < s.toNat := by
  have h1 := Int.emod_lt_of_pos f hs
  have h2 := Int.emod_nonneg f (show s ≠ 0 by omega)
  rw [Int.fmod_eq_emod_of_nonneg _ (by omega)]
  omega
theorem gcd_last {f s : Int} {g : Nat} (h1 : 0 ≤ f) (h2 : 0 ≤ s) (h3 : Int.gcd f s = g) (hs : ¬ 0 < s) : f = (g : Int) := by
  have e : s = 0 := by omega
  subst e
  rw [Int.gcd_zero_right] at h3
  omega
set_option maxRecDepth 100000 in
set_option maxHeartbeats 4000000 in
theorem gcd_ok {w : World} {mean : ExcName → Option Value} {mg mb : PySem.Str → Option Value} {x y : Int} {tx ty : Tok} {news : Led} :
    CallOk w mean mg mb 86 [.int x tx, .int y ty] news 1 (fun _ => 0 ≤ y) (RetInt news (Int.gcd x y)) := by
  k_with_none
  (k_with "state" => first | exact gcd_start (by assumption) | exact gcd_turn (by assumption) (by assumption) (by assumption) (by assumption))
  (k_with "measure" => exact gcd_less (by assumption))
  (k_with "exec While Compare cons nil" => k_while_given [] (fun _ f s => 0 ≤ f ∧ 0 ≤ s ∧ Int.gcd f s = Int.gcd x y) (fun _ _ s => s.toNat) "first" "second")
  unfold CallOk
  k_fill
  intro dp un gd cn cs a ccd cl outer A₀ base h₀ L m s Q E B F X N T hk hd hu hy hret
  refine wpAny_call ?_
  k_dflt cell_enter
  k_steps
  all_goals (try k_data)
  exact end_int hret (gcd_last (by assumption) (by assumption) (by assumption) (by assumption)) (by assumption) (news_sub (by assumption) (sub_drop fun _ h => h))
local macro_rules | `(tactic| walk_at "call ref") => `(tactic| (k_here; k_dflt (
  refine' gcd_ok _ _ _ _ _ _ _ _ _ _ _ _ _ _ _ _ _ ?k1 ?k2 ?k3 ?k4 ?k5 ?kK ?kd ?ku ?kp ?_;
  (case k1 => k_asm); (case k2 => k_asm); (case k3 => k_asm); (case k4 => k_asm); (case k5 => k_asm); (case kK => first | exact rfl | assumption); (case kd => ktr_room); (case ku => ktr_units); (case kp => (first | assumption | omega));
  intro t9 h9 tk9 F9 N9; (try dsimp only); (try k_fold))))
local macro_rules | `(tactic| walk_at "mine_enter0") => `(tactic| (k_dflt (refine' code_def ?k1 ?k2 ?k3 ?k4 ?k5 ?kA ?kF ?kK ?k6 ?k7 ?k8 ?k9 ?kB ?_ ?c2 ?c3 ?c4 ?c5; (case kA => exact rfl); (case kF => exact rfl); (case kK => first | exact rfl | assumption); (case k1 => k_asm); (case k2 => k_asm); (case k3 => k_asm); (case k4 => k_asm); (case k5 => k_asm); (case k6 => k_is); (case k7 => k_is); (case k8 => ktr_room); (case k9 => first | exact BindsTo.of_eq rfl | exact binds_K (by k_in) rfl (by k_is) rfl rfl rfl); (case c5 => decide); (case kB => exact locs rfl); (case c2 => exact rfl); (case c3 => exact rfl); (case c4 => exact rfl); k_whole; intro g' L' h' FG' F' N' B' X' T'; (try dsimp only); (try k_fold))))
local macro_rules | `(tactic| walk_at "mine_enter") => `(tactic| (refine wpAny_call ?_; walk_at "mine_enter0"))
local macro_rules | `(tactic| walk_at "binaryOp FloorDiv int int") => `(tactic| (k_here; (with_reducible refine floordiv_int ?kbe ?_ (Or.inl (PyProof.noPylong_of_log2 ?kbp))); (case kbe => omega); (case kbp => assumption)))
def Low (k : Nat) (n : Int) : Prop := n.natAbs < 2 ^ k
theorem Low.mono {j k : Nat} {n : Int} (h : Low j n) (hk : j ≤ k) : Low k n := Nat.lt_of_lt_of_le h (Nat.pow_le_pow_right (by decide) hk)
theorem Low.mul {j k : Nat} {a b : Int} (ha : Low j a) (hb : Low k b) : Low (j + k) (a * b) := by
  unfold Low at *
  rw [Int.natAbs_mul, Nat.pow_add]
  exact Nat.mul_lt_mul_of_lt_of_le ha (Nat.le_of_lt hb) (Nat.pos_of_ne_zero (by have := Nat.two_pow_pos k; omega))
theorem Low.add {k : Nat} {a b : Int} (ha : Low k a) (hb : Low k b) : Low (k + 1) (a + b) := by
  unfold Low at *
  rw [Nat.pow_succ]
  omega
theorem Low.sub {k : Nat} {a b : Int} (ha : Low k a) (hb : Low k b) : Low (k + 1) (a - b) := by
  unfold Low at *
  rw [Nat.pow_succ]
  omega
theorem Low.le {k : Nat} {a b : Int} (hb : Low k b) (h : a.natAbs ≤ b.natAbs) : Low k a := Nat.lt_of_le_of_lt h hb
theorem Low.log2 {k : Nat} {a : Int} (h : Low k a) (hk : k < 9000) : a.natAbs.log2 < 9000 := by
  by_cases h0 : a.natAbs = 0
  · rw [h0]; decide +kernel
  · exact Nat.lt_trans ((Nat.log2_lt h0).mpr h) hk
theorem Low.mulOk {a b : Int} (ha : Low 2000 a) (hb : Low 2000 b) : IntMulOk a b :=
  IntMulOk.of_bits (Nat.le_trans (intBits_le_iff.mpr ha) (by decide)) (Nat.le_trans (intBits_le_iff.mpr hb) (by decide))
theorem gcd_low {k : Nat} {x y : Int} (hy : 0 < y) (h : Low k y) : Low k (Int.gcd x y) := by
  refine h.le ?_
  have h1 := Int.gcd_le_natAbs_right x (show y ≠ 0 by omega)
  omega
theorem gcd_pos {t b : Int} (hb : 0 < b) : 0 < (Int.gcd t b : Int) := by
  have := Int.gcd_pos_of_ne_zero_right t (show b ≠ 0 by omega)
  omega
theorem frac_num {t b : Int} (hb : 0 < b) : t.fdiv (Int.gcd t b) = (mkRat t b.toNat).num := by
  have h0 : b.toNat ≠ 0 := by omega
  have e : b.toNat.gcd t.natAbs = Int.gcd t b := by
    have e1 : b.natAbs = b.toNat := by omega
    rw [Int.gcd, e1, Nat.gcd_comm]
  rw [Rat.num_mkRat, if_neg h0, e, Int.fdiv_eq_ediv_of_nonneg _ (by omega)]
theorem frac_den {t b : Int} (hb : 0 < b) : b.fdiv (Int.gcd t b) = ((mkRat t b.toNat).den : Int) := by
  have h0 : b.toNat ≠ 0 := by omega
  have e : b.toNat.gcd t.natAbs = Int.gcd t b := by
    have e1 : b.natAbs = b.toNat := by omega
    rw [Int.gcd, e1, Nat.gcd_comm]
  rw [Rat.den_mkRat, if_neg h0, e, Int.fdiv_eq_ediv_of_nonneg _ (by omega)]
  rw [Int.natCast_ediv]
  congr 1
  omega

set_option maxRecDepth 100000 in
set_option maxHeartbeats 4000000 in
theorem frac2_ok {w : World} {mean : ExcName → Option Value} {mg mb : PySem.Str → Option Value} {x y : Int} {tx ty : Tok} {news : Led} :
    CallOk w mean mg mb 94 [.int x tx, .int y ty] news 2 (fun _ => 0 < y ∧ Low 8000 y) (RetPair news (mkRat x y.toNat).num (mkRat x y.toNat).den) := by
  k_with_none
  unfold CallOk
  k_fill
  intro dp un gd cn cs a ccd cl outer A₀ base h₀ L m s Q E B F X N T hk hd hu hy hret
  obtain ⟨hy, hlo⟩ := hy
  have hg := gcd_pos (t := x) hy
  have hgl := (gcd_low (x := x) hy hlo).log2 (by decide)
  clear hlo
  walk_at "mine_enter"
  k_steps
  all_goals (try k_data)
  all_goals first
    | (exfalso; omega)
    | exact end_pair hret ⟨frac_num hy, frac_den hy⟩ (by assumption) (by assumption) (by assumption)
    | fail "left"

set_option maxRecDepth 100000 in
set_option maxHeartbeats 4000000 in
theorem frac1_ok {w : World} {mean : ExcName → Option Value} {mg mb : PySem.Str → Option Value} {x : Int} {tx : Tok} {news : Led} :
    CallOk w mean mg mb 94 [.int x tx] news 2 (fun _ => True) (RetPair news x 1) := by
  k_with_none
  unfold CallOk
  k_fill
  intro dp un gd cn cs a ccd cl outer A₀ base h₀ L m s Q E B F X N T hk hd hu hy hret
  have hg := gcd_pos (t := x) (show (0:Int) < 1 by omega)
  have hgl : (Int.gcd x 1 : Int).natAbs.log2 < 9000 := by rw [Int.gcd_one]; decide +kernel
  have e1 : x.fdiv (Int.gcd x 1) = x := by rw [Int.gcd_one]; exact Int.fdiv_one x
  have e2 : (1 : Int).fdiv (Int.gcd x 1) = 1 := by rw [Int.gcd_one]; rfl
  walk_at "mine_enter"
  k_steps
  all_goals (try k_data)
  all_goals first
    | (exfalso; omega)
    | exact end_pair hret ⟨e1, e2⟩ (by assumption) (by assumption) (by assumption)
    | fail "left"

abbrev RetRat (news : Led) (r : Rat) : RetT := RetPair news r.num r.den
abbrev ratItems (x : Rat) (t u : Tok) : Array Value := #[.int x.num t, .int (x.den : Int) u]
def RatTU (news : Led) (h₀ : Heap) (a : Addr) (x : Rat) (t u : Tok) : Prop := (∃ o n, (a, o) ∈ news ∧ o.cls = .type "tuple" ∧ o.data = .seq (ratItems x t u) n) ∨ IsTup h₀ a (ratItems x t u)
section
variable {news news' : Led} {h₀ g h : Heap} {L₀ L a : Addr} {x : Rat} {t u : Tok} {m₀ m : PySem.Str → Option Value}
theorem RatTU.pass (R : RatTU news h₀ a x t u) (FG : Fr h₀ L₀ g m₀) (hs : ∀ p ∈ news, p ∈ news') : RatTU news' g a x t u := by
  rcases R with ⟨o, n, hm, hc, hd⟩ | ⟨o, ho, r⟩
  · exact .inl ⟨o, n, hs _ hm, hc, hd⟩
  · exact .inr ⟨o, FG.keep _ _ ho, r⟩
theorem RatTU.made (hm : (a, tupO x.num x.den t u) ∈ news) : RatTU news h₀ a x t u := .inl ⟨_, _, hm, rfl, rfl⟩
theorem RatTU.tup (R : RatTU news h₀ a x t u) (FG : Fr h₀ L₀ g m₀) (F : Fr g L h m) (N : News g L h news') (hs : ∀ p ∈ news, p ∈ news') : IsTup h a (ratItems x t u) := by
  rcases R with ⟨o, n, hm, hc, hd⟩ | ⟨o, ho, r⟩
  · exact ⟨o, (N _ (hs _ hm)).1, hc, n, hd⟩
  · exact ⟨o, F.keep _ _ (FG.keep _ _ ho), r⟩
end
def Bd (k : Nat) (x : Rat) : Prop := Low k x.num ∧ Low k x.den
theorem den_pos (x : Rat) : 0 < (x.den : Int) := by have := x.den_pos; omega
theorem mk_add (x y : Rat) : mkRat (x.num * y.den + y.num * x.den) ((x.den : Int) * y.den).toNat = x + y := by rw [Rat.add_def']; rfl
theorem mk_sub (x y : Rat) : mkRat (x.num * y.den - y.num * x.den) ((x.den : Int) * y.den).toNat = x - y := by rw [Rat.sub_def']; rfl
theorem mk_mul (x y : Rat) : mkRat (x.num * y.num) ((x.den : Int) * y.den).toNat = x * y := by rw [Rat.mul_def']; rfl
theorem mk_div (x y : Rat) (hy : 0 < y.num) : mkRat (x.num * y.den) ((x.den : Int) * y.num).toNat = x / y := by
  have e1 : (((x.den : Int) * y.num).toNat : Int) = (x.den : Int) * y.num := by
    have := Int.mul_pos (den_pos x) hy
    omega
  rw [← Rat.divInt_ofNat, e1, Rat.div_def, Rat.inv_def]
  conv => rhs; rw [← Rat.num_divInt_den x]
  rw [Rat.divInt_mul_divInt]


local macro_rules | `(tactic| walk_at "call ref") => `(tactic| (k_here; k_dflt (first
  | (refine' call_cls ?k1 ?k2 ?k3 ?k4 ?k5 ?k6 ?_; (case k1 => k_asm); (case k2 => k_asm); (case k3 => k_asm); (case k4 => k_is); (case k5 => k_is); (case k6 => k_is); k_whole; intro x' d' h' F' N' l1 l2; (try k_lt l1); (try k_lt2 l2); (try k_sweep); walk_at "mine_enter0")
  | (refine' call_meth ?k1 ?k2 ?_; (case k1 => k_asm); (case k2 => k_mem); k_whole; walk_at "mine_enter0")
  | walk_at "mine_enter")))
local macro_rules | `(tactic| walk_at "call ref") => `(tactic| (k_here; k_dflt (walk_at "mine_call")))
local macro_rules | `(tactic| walk_at "mine_sub") => `(tactic| (repeat (first | exact fun _ h => h | refine sub_drop ?_)))
local macro_rules | `(tactic| walk_at "mine_args") => `(tactic| ((case k1 => k_asm); (case k2 => k_asm); (case k3 => k_asm); (case k4 => k_asm); (case k5 => k_asm); (case kK => first | exact rfl | assumption); (case kd => ktr_room); (case ku => ktr_units)))
local macro_rules | `(tactic| walk_at "mine_rat") => `(tactic| first | assumption | exact RatTU.pass (by assumption) (by assumption) (by walk_at "mine_sub") | exact RatTU.made (by k_mem))
local macro_rules | `(tactic| walk_at "mine_pair") => `(tactic| (intro D9 t9 u9 h9 tk9 F9 N9 l9; (try k_lt l9); (try dsimp only); (try k_fold)))
local macro_rules | `(tactic| walk_at "mine_call") => `(tactic| (
  apply frac2_ok; walk_at "mine_args"; (case kp => assumption); walk_at "mine_pair"))
local macro_rules | `(tactic| walk_at "mine_call") => `(tactic| (
  apply frac1_ok; walk_at "mine_args"; (case kp => trivial); walk_at "mine_pair"))
local macro_rules | `(tactic| walk_at "binaryOp Mult int int") => `(tactic| (k_here; (with_reducible refine mul_int ?_ ?hm); (case hm => assumption)))
local macro_rules | `(tactic| walk_at "subscriptTail") => `(tactic| (k_here; (with_reducible show wpAny _ _ (subscriptTail _ _ (Value.ref _) (Value.int _ _)) _ _ _); k_dflt (
  refine' item_tupleT (RatTU.tup ?tR ?tG ?tF ?tN ?tS) ?a ?b ?c ?d ?_; (case tF => k_asm); (case tN => k_asm); (case tR => assumption); (case tG => assumption); (case tS => walk_at "mine_sub"); (case a => decide); (case b => decide); (case c => rfl); (case d => rfl); k_whole)))

set_option maxRecDepth 100000 in
set_option maxHeartbeats 4000000 in
theorem plus_ok {w : World} {mean : ExcName → Option Value} {mg mb : PySem.Str → Option Value} {a b : Addr} {x y : Rat} {t u t' u' : Tok} {news : Led} :
    CallOk w mean mg mb 101 [.ref a, .ref b] news 3 (fun h₀ => RatTU news h₀ a x t u ∧ RatTU news h₀ b y t' u' ∧ Bd 1000 x ∧ Bd 1000 y) (RetRat news (x + y)) := by
  k_with_none
  unfold CallOk
  k_fill
  intro dp un gd cn cs ca ccd cl outer A₀ base h₀ L m s Q E B F X N T hk hd hu hpre hret
  obtain ⟨hA, hB, ⟨hx1, hx2⟩, ⟨hy1, hy2⟩⟩ := hpre
  have m1 : IntMulOk x.num y.den := (hx1.mono (by decide)).mulOk (hy2.mono (by decide))
  have m2 : IntMulOk y.num x.den := (hy1.mono (by decide)).mulOk (hx2.mono (by decide))
  have m3 : IntMulOk x.den y.den := (hx2.mono (by decide)).mulOk (hy2.mono (by decide))
  have hpos : 0 < (x.den : Int) * y.den ∧ Low 8000 ((x.den : Int) * y.den) := ⟨Int.mul_pos (den_pos x) (den_pos y), (hx2.mul hy2).mono (by decide)⟩
  rw [← mk_add x y] at hret
  walk_at "mine_enter"
  k_steps
  all_goals (try k_data)
  all_goals first
    | exact end_pair hret ⟨rfl, rfl⟩ (by assumption) (by assumption) (by assumption)
    | fail "left"
theorem floor_fdiv (x : Rat) : x.floor = x.num.fdiv x.den := by rw [Rat.floor_def, Int.fdiv_eq_ediv_of_nonneg _ (by omega)]
theorem sign_p {e : Int} (h : 0 < e) : 1 = e.sign := (Int.sign_eq_one_of_pos h).symm
theorem sign_n {e : Int} (h : e < 0) : -1 = e.sign := (Int.sign_eq_neg_one_of_neg h).symm
theorem sign_z {e : Int} (h : ¬ 0 < e) (h' : ¬ e < 0) : 0 = e.sign := by
  have : e = 0 := by omega
  subst this; rfl

set_option maxRecDepth 100000 in
set_option maxHeartbeats 4000000 in
theorem minus_ok {w : World} {mean : ExcName → Option Value} {mg mb : PySem.Str → Option Value} {a b : Addr} {x y : Rat} {t u t' u' : Tok} {news : Led} :
    CallOk w mean mg mb 108 [.ref a, .ref b] news 3 (fun h₀ => RatTU news h₀ a x t u ∧ RatTU news h₀ b y t' u' ∧ Bd 1000 x ∧ Bd 1000 y) (RetRat news (x - y)) := by
  k_with_none
  unfold CallOk
  k_fill
  intro dp un gd cn cs ca ccd cl outer A₀ base h₀ L m s Q E B F X N T hk hd hu hpre hret
  obtain ⟨hA, hB, ⟨hx1, hx2⟩, ⟨hy1, hy2⟩⟩ := hpre
  have m1 : IntMulOk x.num y.den := (hx1.mono (by decide)).mulOk (hy2.mono (by decide))
  have m2 : IntMulOk y.num x.den := (hy1.mono (by decide)).mulOk (hx2.mono (by decide))
  have m3 : IntMulOk x.den y.den := (hx2.mono (by decide)).mulOk (hy2.mono (by decide))
  have hpos : 0 < (x.den : Int) * y.den ∧ Low 8000 ((x.den : Int) * y.den) := ⟨Int.mul_pos (den_pos x) (den_pos y), (hx2.mul hy2).mono (by decide)⟩
  rw [← mk_sub x y] at hret
  walk_at "mine_enter"
  k_steps
  all_goals (try k_data)
  all_goals first
    | exact end_pair hret ⟨rfl, rfl⟩ (by assumption) (by assumption) (by assumption)
    | (exfalso; omega)
    | fail "left"

set_option maxRecDepth 100000 in
set_option maxHeartbeats 4000000 in
theorem times_ok {w : World} {mean : ExcName → Option Value} {mg mb : PySem.Str → Option Value} {a b : Addr} {x y : Rat} {t u t' u' : Tok} {news : Led} :
    CallOk w mean mg mb 115 [.ref a, .ref b] news 3 (fun h₀ => RatTU news h₀ a x t u ∧ RatTU news h₀ b y t' u' ∧ Bd 1000 x ∧ Bd 1000 y) (RetRat news (x * y)) := by
  k_with_none
  unfold CallOk
  k_fill
  intro dp un gd cn cs ca ccd cl outer A₀ base h₀ L m s Q E B F X N T hk hd hu hpre hret
  obtain ⟨hA, hB, ⟨hx1, hx2⟩, ⟨hy1, hy2⟩⟩ := hpre
  have m1 : IntMulOk x.num y.num := (hx1.mono (by decide)).mulOk (hy1.mono (by decide))
  have m3 : IntMulOk x.den y.den := (hx2.mono (by decide)).mulOk (hy2.mono (by decide))
  have hpos : 0 < (x.den : Int) * y.den ∧ Low 8000 ((x.den : Int) * y.den) := ⟨Int.mul_pos (den_pos x) (den_pos y), (hx2.mul hy2).mono (by decide)⟩
  rw [← mk_mul x y] at hret
  walk_at "mine_enter"
  k_steps
  all_goals (try k_data)
  all_goals first
    | exact end_pair hret ⟨rfl, rfl⟩ (by assumption) (by assumption) (by assumption)
    | (exfalso; omega)
    | fail "left"

set_option maxRecDepth 100000 in
set_option maxHeartbeats 4000000 in
theorem divided_ok {w : World} {mean : ExcName → Option Value} {mg mb : PySem.Str → Option Value} {a b : Addr} {x y : Rat} {t u t' u' : Tok} {news : Led} :
    CallOk w mean mg mb 122 [.ref a, .ref b] news 3 (fun h₀ => RatTU news h₀ a x t u ∧ RatTU news h₀ b y t' u' ∧ 0 < y.num ∧ Bd 1000 x ∧ Bd 1000 y) (RetRat news (x / y)) := by
  k_with_none
  unfold CallOk
  k_fill
  intro dp un gd cn cs ca ccd cl outer A₀ base h₀ L m s Q E B F X N T hk hd hu hpre hret
  obtain ⟨hA, hB, hy, ⟨hx1, hx2⟩, ⟨hy1, hy2⟩⟩ := hpre
  have m1 : IntMulOk x.num y.den := (hx1.mono (by decide)).mulOk (hy2.mono (by decide))
  have m3 : IntMulOk x.den y.num := (hx2.mono (by decide)).mulOk (hy1.mono (by decide))
  have hpos : 0 < (x.den : Int) * y.num ∧ Low 8000 ((x.den : Int) * y.num) := ⟨Int.mul_pos (den_pos x) hy, (hx2.mul hy1).mono (by decide)⟩
  rw [← mk_div x y hy] at hret
  walk_at "mine_enter"
  k_steps
  all_goals (try k_data)
  all_goals first
    | exact end_pair hret ⟨rfl, rfl⟩ (by assumption) (by assumption) (by assumption)
    | (exfalso; omega)
    | fail "left"

set_option maxRecDepth 100000 in
set_option maxHeartbeats 4000000 in
theorem floor_ok {w : World} {mean : ExcName → Option Value} {mg mb : PySem.Str → Option Value} {a : Addr} {x : Rat} {t u : Tok} {news : Led} :
    CallOk w mean mg mb 150 [.ref a] news 1 (fun h₀ => RatTU news h₀ a x t u ∧ Bd 1000 x) (RetInt news x.floor) := by
  k_with_none
  unfold CallOk
  k_fill
  intro dp un gd cn cs ca ccd cl outer A₀ base h₀ L m s Q E B F X N T hk hd hu hpre hret
  obtain ⟨hA, hx1, hx2⟩ := hpre
  have hp := den_pos x
  have hl : (x.den : Int).natAbs.log2 < 9000 := hx2.log2 (by decide)
  rw [floor_fdiv] at hret
  walk_at "mine_enter"
  k_steps
  all_goals (try k_data)
  all_goals first
    | exact end_int hret rfl (by assumption) (by assumption)
    | (exfalso; omega)
    | fail "left"

set_option maxRecDepth 100000 in
set_option maxHeartbeats 4000000 in
theorem compare_ok {w : World} {mean : ExcName → Option Value} {mg mb : PySem.Str → Option Value} {a b : Addr} {x y : Rat} {t u t' u' : Tok} {news : Led} :
    CallOk w mean mg mb 143 [.ref a, .ref b] news 2 (fun h₀ => RatTU news h₀ a x t u ∧ RatTU news h₀ b y t' u' ∧ Bd 1000 x ∧ Bd 1000 y) (RetInt news (x.num * y.den - y.num * x.den).sign) := by
  k_with_none
  unfold CallOk
  k_fill
  intro dp un gd cn cs ca ccd cl outer A₀ base h₀ L m s Q E B F X N T hk hd hu hpre hret
  obtain ⟨hA, hB, ⟨hx1, hx2⟩, ⟨hy1, hy2⟩⟩ := hpre
  have m1 : IntMulOk x.num y.den := (hx1.mono (by decide)).mulOk (hy2.mono (by decide))
  have m2 : IntMulOk y.num x.den := (hy1.mono (by decide)).mulOk (hx2.mono (by decide))
  walk_at "mine_enter"
  k_steps
  all_goals (try k_data)
  all_goals first
    | exact end_int hret (by first | exact sign_p (by assumption) | exact sign_n (by assumption) | exact sign_z (by assumption) (by assumption)) (by assumption) (news_sub (by assumption) (by walk_at "mine_sub"))
    | (exfalso; omega)
    | fail "left"

abbrev dkey (w : World) (n : PySem.Str) (t : Tok) (v : Value) : DictEntry := { hash := PyData.keyHash w.params n, key := .str n t, val := v }
abbrev matO (w : World) (e f : Addr) (t1 t2 t3 t4 t5 t6 : Tok) : Obj := dictOf [dkey w (Str.ofString "a") t1 (.ref 79), dkey w (Str.ofString "b") t2 (.ref 78), dkey w (Str.ofString "c") t3 (.ref 78), dkey w (Str.ofString "d") t4 (.ref 79), dkey w (Str.ofString "e") t5 (.ref e), dkey w (Str.ofString "f") t6 (.ref f)] 6
abbrev RetMat (w : World) (news : Led) (e f : Addr) : RetT := fun h₀ L m s Q => ∀ (X d : Addr) (t1 t2 t3 t4 t5 t6 : Tok) (h' : Heap) (tk' : Nat), Fr h₀ L h' m → News h₀ L h' ((X, instObj 341 d) :: (d, matO w e f t1 t2 t3 t4 t5 t6) :: news) → (∀ p ∈ news, p.1 < d) → d < X → Q (.ref X) { s with heap := h', toks := tk' }
set_option maxRecDepth 100000 in
set_option maxHeartbeats 4000000 in
theorem translation_ok {w : World} {mean : ExcName → Option Value} {mg mb : PySem.Str → Option Value} {a b : Addr} {news : Led} :
    CallOk w mean mg mb 352 [.ref a, .ref b] news 3 (fun _ => True) (RetMat w news a b) := by
  k_with_none
  unfold CallOk
  k_fill
  intro dp un gd cn cs ca ccd cl outer A₀ base h₀ L m s Q E B F X N T hk hd hu hpre hret
  walk_at "mine_enter"
  k_steps
  all_goals (try k_data)
  all_goals first
    | exact hret _ _ _ _ _ _ _ _ _ _ (by assumption) (by assumption) (by assumption) (by assumption)
    | fail "left"
theorem natAbs_ediv_le (n : Int) (d : Int) : (n / d).natAbs ≤ n.natAbs := Int.natAbs_ediv_le_natAbs n d
theorem Low.mkNum {k : Nat} {n : Int} {d : Nat} (h : Low k n) : Low k (mkRat n d).num := by
  rw [Rat.num_mkRat]
  split
  · show (0:Int).natAbs < 2^k
    exact Nat.two_pow_pos k
  · exact h.le (natAbs_ediv_le _ _)
theorem Low.mkDen {k : Nat} {n : Int} {d : Nat} (hd : d ≠ 0) (h : Low k d) : Low k (mkRat n d).den := by
  rw [Rat.den_mkRat, if_neg hd]
  refine h.le ?_
  rw [Int.natAbs_natCast, Int.natAbs_natCast]
  exact Nat.div_le_self d (d.gcd n.natAbs)
theorem Bd.mk {k : Nat} {n : Int} {d : Nat} (hd : d ≠ 0) (h : Low k n) (h' : Low k d) : Bd k (mkRat n d) := ⟨h.mkNum, h'.mkDen hd⟩
theorem Bd.mono {j k : Nat} {x : Rat} (h : Bd j x) (hk : j ≤ k) : Bd k x := ⟨h.1.mono hk, h.2.mono hk⟩
theorem Bd.mul {j k : Nat} {x y : Rat} (hx : Bd j x) (hy : Bd k y) : Bd (j + k) (x * y) := by
  rw [Rat.mul_def']
  refine Bd.mk (Nat.mul_ne_zero x.den_nz y.den_nz) (hx.1.mul hy.1) ?_
  have := hx.2.mul hy.2
  simpa using this
theorem Bd.sub {k : Nat} {x y : Rat} (hx : Bd k x) (hy : Bd k y) : Bd (k + k + 1) (x - y) := by
  rw [Rat.sub_def']
  refine Bd.mk (Nat.mul_ne_zero x.den_nz y.den_nz) ((hx.1.mul hy.2).sub (hy.1.mul hx.2)) ?_
  have := (hx.2.mul hy.2).mono (show k + k ≤ k + k + 1 by omega)
  simpa using this
theorem Bd.add {k : Nat} {x y : Rat} (hx : Bd k x) (hy : Bd k y) : Bd (k + k + 1) (x + y) := by
  rw [Rat.add_def']
  refine Bd.mk (Nat.mul_ne_zero x.den_nz y.den_nz) ((hx.1.mul hy.2).add (hy.1.mul hx.2)) ?_
  have := (hx.2.mul hy.2).mono (show k + k ≤ k + k + 1 by omega)
  simpa using this
theorem Bd.div {j k : Nat} {x y : Rat} (hx : Bd j x) (hy : Bd k y) (h : 0 < y.num) : Bd (j + k) (x / y) := by
  rw [← mk_div x y h]
  have hp := Int.mul_pos (den_pos x) h
  refine Bd.mk (by omega) (hx.1.mul hy.2) ?_
  have e : (((x.den : Int) * y.num).toNat : Int) = (x.den : Int) * y.num := by omega
  rw [e]
  exact hx.2.mul hy.1
theorem Bd.int {k : Nat} {n : Int} (h : Low k n) (hk : 0 < k) : Bd k (n : Rat) := by
  refine ⟨h, ?_⟩
  show Low k 1
  unfold Low
  exact Nat.one_lt_two_pow (by omega)
theorem Bd.floor {k : Nat} {x : Rat} (h : Bd k x) (hk : 0 < k) : Bd k (x.floor : Rat) := by
  refine Bd.int ?_ hk
  rw [Rat.floor_def]
  exact h.1.le (natAbs_ediv_le _ _)

/-- the dot on which a place lies, as the program reckons it -/
def dotR (x s : Rat) (n : Int) : Int := ((x - (x / s).floor * s) * n / s).floor
theorem floor_mul_mod (q : Rat) (n : Int) (hn : 0 < n) : ((q - q.floor) * n).floor = (q * n).floor % n := by
  have e : (q - q.floor) * n = q * n + ((-(q.floor * n) : Int) : Rat) := by
    rw [Rat.intCast_neg, Rat.intCast_mul]
    grind
  rw [e, Rat.floor_add_intCast]
  have h1 : (q.floor : Rat) ≤ q := Rat.floor_le q
  have h2 : q < ((q.floor + 1 : Int) : Rat) := Rat.lt_floor_add_one q
  have hn' : (0 : Rat) < (n : Rat) := Rat.intCast_pos.mpr hn
  have l1 : q.floor * n ≤ (q * n).floor := by
    rw [Rat.le_floor_iff, Rat.intCast_mul]
    exact Rat.mul_le_mul_of_nonneg_right h1 (Rat.le_of_lt hn')
  have l2 : (q * n).floor < (q.floor + 1) * n := by
    rw [Rat.floor_lt_iff, Rat.intCast_mul]
    exact Rat.mul_lt_mul_of_pos_right h2 hn'
  have e2 : (q * n).floor + -(q.floor * n) = (q * n).floor - n * q.floor := by rw [Int.mul_comm n]; omega
  rw [e2]
  have l3 : 0 ≤ (q * n).floor - n * q.floor := by rw [Int.mul_comm n]; omega
  have l4 : (q * n).floor - n * q.floor < n := by
    have : (q.floor + 1) * n = n * q.floor + n := by rw [Int.add_mul, Int.mul_comm]; omega
    omega
  have := Int.emod_eq_of_lt l3 l4
  rw [← this, Int.sub_mul_emod_self_left]
theorem dotR_eq (x s : Rat) (n : Int) (hs : s ≠ 0) (hn : 0 < n) : dotR x s n = (x * n / s).floor % n := by
  unfold dotR
  have e : (x - (x / s).floor * s) * n / s = (x / s - (x / s).floor) * n := by grind
  have e2 : x * n / s = x / s * n := by grind
  rw [e, e2, floor_mul_mod _ _ hn]
/-- with x = P/2 and s = w*top/bottom: the law's own reckoning -/
theorem dot_law (P w top bottom : Int) (hw : 0 < w) (ht : 0 < top) (hb : 0 < bottom) :
    dotR (mkRat P 2) (mkRat (w * top) bottom.toNat) w = (P * bottom).fdiv (2 * top) % w := by
  have eb : ((bottom.toNat : Int) : Rat) = (bottom : Rat) := by rw [show (bottom.toNat : Int) = bottom by omega]
  have hb' : (bottom : Rat) ≠ 0 := by
    have := Rat.intCast_pos.mpr hb
    exact Rat.ne_of_gt this
  have ht' : (top : Rat) ≠ 0 := Rat.ne_of_gt (Rat.intCast_pos.mpr ht)
  have hw' : (w : Rat) ≠ 0 := Rat.ne_of_gt (Rat.intCast_pos.mpr hw)
  have es : mkRat (w * top) bottom.toNat = (w : Rat) * top / bottom := by
    rw [Rat.mkRat_eq_div, Rat.intCast_mul]
    congr 1
  have ep : mkRat P 2 = (P : Rat) / 2 := by rw [Rat.mkRat_eq_div]; rfl
  have hs : (w : Rat) * top / bottom ≠ 0 := by grind
  rw [es, ep, dotR_eq _ _ _ hs hw]
  congr 1
  have e : (P : Rat) / 2 * w / (w * top / bottom) = ((P * bottom : Int) : Rat) / ((2 * top : Int) : Rat) := by
    rw [Rat.intCast_mul, Rat.intCast_mul]
    have : ((2 : Int) : Rat) = 2 := rfl
    rw [this]
    grind
  rw [e, Int.fdiv_eq_ediv_of_nonneg _ (by omega)]
  have h2 : 0 < 2 * top := by omega
  rw [← Rat.divInt_eq_div, Rat.floor_def, Rat.num_divInt, Rat.den_divInt, if_neg (by omega), Int.sign_eq_one_of_pos h2, Int.one_mul]
  have hg : 0 < Int.gcd (2 * top) (P * bottom) := Int.gcd_pos_of_ne_zero_left _ (by omega)
  have e3 : (((2 * top).natAbs / Int.gcd (2 * top) (P * bottom) : Nat) : Int) = (2 * top) / (Int.gcd (2 * top) (P * bottom) : Int) := by
    rw [Int.natCast_ediv]; congr 1; omega
  rw [e3]
  obtain ⟨u, hu⟩ := Int.gcd_dvd_left (a := 2 * top) (b := P * bottom)
  obtain ⟨v, hv⟩ := Int.gcd_dvd_right (a := 2 * top) (b := P * bottom)
  generalize hG : (Int.gcd (2 * top) (P * bottom) : Int) = G at *
  have hG0 : 0 < G := by omega
  rw [hu, hv, Int.mul_ediv_cancel_left _ (by omega), Int.mul_ediv_cancel_left _ (by omega), Int.mul_ediv_mul_of_pos _ _ hG0]
/-- a whole number of cells further on -/
theorem dot_far (Q top w k : Int) (ht : 0 < top) : (Q + k * w * (2 * top)).fdiv (2 * top) % w = Q.fdiv (2 * top) % w := by
  rw [Int.fdiv_eq_ediv_of_nonneg _ (by omega), Int.fdiv_eq_ediv_of_nonneg _ (by omega), Int.add_mul_ediv_right _ _ (by omega), Int.add_mul_emod_self_right]
theorem RatTU.base {news : Led} {h₀ : Heap} {a : Addr} {x : Rat} {t u : Tok} (h : IsTup h₀ a (ratItems x t u)) : RatTU news h₀ a x t u := .inr h
theorem lt_sub {a b : Led} {D : Addr} (h : ∀ p ∈ b, p.1 < D) (hs : ∀ p ∈ a, p ∈ b) : ∀ p ∈ a, p.1 < D := fun p hp => h p (hs p hp)
theorem frac1r_ok {w : World} {mean : ExcName → Option Value} {mg mb : PySem.Str → Option Value} {x : Int} {tx : Tok} {news : Led} :
    CallOk w mean mg mb 94 [.int x tx] news 2 (fun _ => True) (RetRat news (x : Rat)) := frac1_ok
theorem frac2r_ok {w : World} {mean : ExcName → Option Value} {mg mb : PySem.Str → Option Value} {x y : Int} {tx ty : Tok} {news : Led} :
    CallOk w mean mg mb 94 [.int x tx, .int y ty] news 2 (fun _ => 0 < y ∧ Low 8000 y) (RetRat news (mkRat x y.toNat)) := frac2_ok
theorem zero_at {w : World} {h : Heap} (X : (hd.heap_1 w.params).In h) : ∃ t u, IsTup h 78 (ratItems 0 t u) := by
  have hR : Challenge.rw_nu0022_01 = Challenge.rw_nu0022_01 := rfl
  revert X hR
  k_fill
  intro X _
  exact ⟨_, _, tupK (l := [.int 0 _, .int 1 _]) X (by k_is)⟩
theorem one_at {w : World} {h : Heap} (X : (hd.heap_1 w.params).In h) : ∃ t u, IsTup h 79 (ratItems 1 t u) := by
  have hR : Challenge.rw_nu0022_01 = Challenge.rw_nu0022_01 := rfl
  revert X hR
  k_fill
  intro X _
  exact ⟨_, _, tupK (l := [.int 1 _, .int 1 _]) X (by k_is)⟩

local macro_rules | `(tactic| walk_at "mine_call") => `(tactic| (
  apply frac2r_ok; walk_at "mine_args"; (case kp => assumption); walk_at "mine_pair"))
local macro_rules | `(tactic| walk_at "mine_call") => `(tactic| (
  apply frac1r_ok; walk_at "mine_args"; (case kp => trivial); walk_at "mine_pair"))
local macro_rules | `(tactic| walk_at "mine_rat") => `(tactic| exact RatTU.base (by assumption))
local macro_rules | `(tactic| walk_at "mine_op4") => `(tactic| (walk_at "mine_args"; (case kp => (refine ⟨?_, ?_, ?_, ?_⟩; (walk_at "mine_rat"); (walk_at "mine_rat"); assumption; assumption)); walk_at "mine_pair"))
local macro_rules | `(tactic| walk_at "mine_call") => `(tactic| (
  apply plus_ok; walk_at "mine_op4"))
local macro_rules | `(tactic| walk_at "mine_call") => `(tactic| (
  apply minus_ok; walk_at "mine_op4"))
local macro_rules | `(tactic| walk_at "mine_call") => `(tactic| (
  apply times_ok; walk_at "mine_op4"))
local macro_rules | `(tactic| walk_at "mine_call") => `(tactic| (
  apply divided_ok; walk_at "mine_args"; (case kp => (refine ⟨?_, ?_, ?_, ?_, ?_⟩; (walk_at "mine_rat"); (walk_at "mine_rat"); assumption; assumption; assumption)); walk_at "mine_pair"))
local macro_rules | `(tactic| walk_at "mine_lt") => `(tactic| first | assumption | (refine ktn_ltOf ?_; first | assumption | exact And.right (by first | assumption | exact And.right (by first | assumption | exact And.right (by first | assumption | exact And.right (by first | assumption | exact And.right (by first | assumption | exact And.right (by assumption) | fail "t") | fail "t") | fail "t") | fail "t") | fail "t") | fail "t"))
local macro_rules | `(tactic| walk_at "mine_int") => `(tactic| (intro t9 h9 tk9 F9 N9; (try dsimp only); (try k_fold)))
local macro_rules | `(tactic| walk_at "mine_call") => `(tactic| (
  apply floor_ok; walk_at "mine_args"; (case kp => ((refine ⟨?_, ?_⟩; (walk_at "mine_rat"); assumption))); walk_at "mine_int"))

set_option maxRecDepth 100000 in
set_option maxHeartbeats 4000000 in
theorem within_ok {w : World} {mean : ExcName → Option Value} {mg mb : PySem.Str → Option Value} {a b : Addr} {x y : Rat} {t u t' u' : Tok} {news : Led} :
    CallOk w mean mg mb 165 [.ref a, .ref b] news 4 (fun h₀ => RatTU news h₀ a x t u ∧ RatTU news h₀ b y t' u' ∧ 0 < y.num ∧ Bd 100 x ∧ Bd 100 y) (RetRat news (x - (x / y).floor * y)) := by
  k_with_none
  unfold CallOk
  k_fill
  intro dp un gd cn cs ca ccd cl outer A₀ base h₀ L m s Q E B F X N T hk hd hu hpre hret
  obtain ⟨hA, hB, hp, hx, hy⟩ := hpre
  have f1 : Bd 1000 x := hx.mono (by decide)
  have f2 : Bd 1000 y := hy.mono (by decide)
  have q := hx.div hy hp
  have f3 : Bd 1000 (x / y) := q.mono (by decide)
  have f4 : Bd 1000 ((x / y).floor : Rat) := (q.floor (by decide)).mono (by decide)
  have f5 : Bd 1000 ((x / y).floor * y) := ((q.floor (by decide)).mul hy).mono (by decide)
  clear hx hy q
  walk_at "mine_enter"
  k_steps
  all_goals (try k_data)
  all_goals first
    | exact end_pair hret ⟨rfl, rfl⟩ (by assumption) (news_sub (by assumption) (sub_cons (by walk_at "mine_sub"))) (by walk_at "mine_lt")
    | fail "left"

local macro_rules | `(tactic| walk_at "mine_call") => `(tactic| (
  apply within_ok; walk_at "mine_args"; (case kp => (refine ⟨?_, ?_, ?_, ?_, ?_⟩; (walk_at "mine_rat"); (walk_at "mine_rat"); assumption; assumption; assumption)); walk_at "mine_pair"))
set_option maxRecDepth 100000 in
set_option maxHeartbeats 4000000 in
theorem dot_ok {w : World} {mean : ExcName → Option Value} {mg mb : PySem.Str → Option Value} {self : Value} {n : Int} {tn : Tok} {a b : Addr} {x y : Rat} {t u t' u' : Tok} {news : Led} :
    CallOk w mean mg mb 193 [self, .ref a, .ref b, .int n tn] news 5 (fun h₀ => RatTU news h₀ a x t u ∧ RatTU news h₀ b y t' u' ∧ 0 < y.num ∧ Bd 100 x ∧ Bd 100 y ∧ Low 100 n) (RetInt news (dotR x y n)) := by
  k_with_none
  unfold CallOk
  k_fill
  intro dp un gd cn cs ca ccd cl outer A₀ base h₀ L m s Q E B F X N T hk hd hu hpre hret
  obtain ⟨hA, hB, hp, hx, hy, hn⟩ := hpre
  have f2 : Bd 1000 y := hy.mono (by decide)
  have q1 := hx.div hy hp
  have q2 := (hx.mono (show 100 ≤ 300 by decide)).sub (((q1.floor (by decide)).mul hy).mono (show 200 + 100 ≤ 300 by decide))
  have f3 : Bd 1000 (x - (x / y).floor * y) := q2.mono (by decide)
  have q3 := Bd.int hn (by decide)
  have f4 : Bd 1000 (n : Rat) := q3.mono (by decide)
  have q4 := q2.mul q3
  have f5 : Bd 1000 ((x - (x / y).floor * y) * n) := q4.mono (by decide)
  have f6 : Bd 1000 ((x - (x / y).floor * y) * n / y) := (q4.div hy hp).mono (by decide)
  clear q1 q2 q3 q4 hn
  unfold dotR at hret
  walk_at "mine_enter"
  k_steps
  all_goals (try k_data)
  all_goals first
    | exact end_int hret rfl (by assumption) (news_sub (by assumption) (by walk_at "mine_sub"))
    | fail "left"
abbrev refPair (a b : Addr) : Obj := { cls := .type "tuple", data := .seq #[.ref a, .ref b] }
/-- a new pair of pairs -/
abbrev RetPt (news : Led) (x y : Rat) : RetT := fun h₀ L m s Q => ∀ (D X Y : Addr) (t u t' u' : Tok) (h' : Heap) (tk' : Nat), Fr h₀ L h' m → News h₀ L h' ((D, refPair X Y) :: (Y, tupO y.num y.den t' u') :: (X, tupO x.num x.den t u) :: news) → (∀ p ∈ news, p.1 < X) → X < Y → Y < D → Q (.ref D) { s with heap := h', toks := tk' }
theorem vec_x (x y : Rat) : x = 1 * x + 0 * y := by rw [Rat.one_mul, Rat.zero_mul, Rat.add_zero]
theorem vec_y (x y : Rat) : y = 0 * x + 1 * y := by rw [Rat.one_mul, Rat.zero_mul, Rat.zero_add]
theorem Bd.one : Bd 1 1 := ⟨by show (1:Int).natAbs < 2^1; decide, by show (1:Int).natAbs < 2^1; decide⟩
theorem Bd.zero : Bd 1 0 := ⟨by show (0:Int).natAbs < 2^1; decide, by show (1:Int).natAbs < 2^1; decide⟩
theorem end_pt {h₀ h' : Heap} {L D X Y : Addr} {m : PySem.Str → Option Value} {news all : Led} {s : Shared} {Q : Cont} {x y : Rat} {t u t' u' : Tok} {tk : Nat} (hret : RetPt news x y h₀ L m s Q) (F : Fr h₀ L h' m)
    (N : News h₀ L h' all) (hs : ∀ p ∈ (D, refPair X Y) :: (Y, tupO y.num y.den t' u') :: (X, tupO x.num x.den t u) :: news, p ∈ all) (h1 : ∀ p ∈ news, p.1 < X) (h2 : X < Y) (h3 : Y < D) : Q (.ref D) { s with heap := h', toks := tk } :=
  hret D X Y t u t' u' h' tk F (news_sub N hs) h1 h2 h3
theorem in_here {p : Addr × Obj} {a : Led} {b : Led} (h : p ∈ b) (hs : ∀ q ∈ a, q ∈ b) : ∀ q ∈ p :: a, q ∈ b := fun q hq => by
  rcases List.mem_cons.mp hq with rfl | hq
  · exact h
  · exact hs q hq
theorem lt_nat {a b : Addr} (h : @LT.lt Nat instLTNat a b) : a < b := h
theorem mem_raw {p : Addr × Obj} {l : Led} (h : p ∈ l) : List.Mem p l := h
local macro_rules | `(tactic| k_mem) => `(tactic| exact mem_raw (by assumption))
local macro_rules | `(tactic| walk_at "mine_in") => `(tactic| (repeat (first | exact fun _ h => h | (refine in_here (by k_mem) ?_) | refine sub_drop ?_)))
set_option maxRecDepth 100000 in
set_option maxHeartbeats 4000000 in
theorem vector_ok {w : World} {mean : ExcName → Option Value} {mg mb : PySem.Str → Option Value} {M dM e f p px py : Addr} {t1 t2 t3 t4 t5 t6 : Tok} {x y : Rat} {t u t' u' : Tok} {news : Led} :
    CallOk w mean mg mb 310 [.ref M, .ref p] news 4 (fun h₀ => (M, instObj 341 dM) ∈ news ∧ (dM, matO w e f t1 t2 t3 t4 t5 t6) ∈ news ∧ (p, refPair px py) ∈ news ∧ RatTU news h₀ px x t u ∧ RatTU news h₀ py y t' u' ∧ Bd 40 x ∧ Bd 40 y)
      (RetPt news x y) := by
  k_with_none
  unfold CallOk
  k_fill
  intro dp un gd cn cs ca ccd cl outer A₀ base h₀ L m s Q E B F X N T hk hd hu hpre hret
  obtain ⟨hM, hdM, hp, hx, hy, bx, by'⟩ := hpre
  obtain ⟨z1, z2, hz⟩ := zero_at X
  obtain ⟨o1, o2, ho⟩ := one_at X
  have hz' : RatTU news h₀ 78 0 z1 z2 := .inr hz
  have ho' : RatTU news h₀ 79 1 o1 o2 := .inr ho
  clear hz ho
  have b0 : Bd 1000 (0:Rat) := Bd.zero.mono (by decide)
  have b1 : Bd 1000 (1:Rat) := Bd.one.mono (by decide)
  have b2 : Bd 1000 x := bx.mono (by decide)
  have b3 : Bd 1000 y := by'.mono (by decide)
  have q1 := (Bd.one.mul bx).mono (show 1 + 40 ≤ 41 by decide)
  have q2 := (Bd.zero.mul by').mono (show 1 + 40 ≤ 41 by decide)
  have q3 := (Bd.zero.mul bx).mono (show 1 + 40 ≤ 41 by decide)
  have q4 := (Bd.one.mul by').mono (show 1 + 40 ≤ 41 by decide)
  have b6 : Bd 1000 (1 * x) := q1.mono (by decide)
  have b7 : Bd 1000 (0 * y) := q2.mono (by decide)
  have b8 : Bd 1000 (0 * x) := q3.mono (by decide)
  have b9 : Bd 1000 (1 * y) := q4.mono (by decide)
  clear q1 q2 q3 q4 bx by'
  have hret' : RetPt news (1 * x + 0 * y) (0 * x + 1 * y) h₀ L m s Q := by rw [← vec_x, ← vec_y]; exact hret
  clear hret
  walk_at "mine_enter"
  k_steps
  all_goals (try k_data)
  all_goals first
    | (refine' end_pt hret' ?eF ?eN ?eS ?e1 ?e2 ?e3; (case eF => assumption); (case eN => assumption); (case eS => walk_at "mine_in"); (case e1 => walk_at "mine_lt"); (case e2 => exact lt_nat (by omega)); (case e3 => exact lt_nat (by omega)))
    | fail "left"
local macro_rules | `(tactic| walk_at "mine_call") => `(tactic| (
  apply vector_ok; walk_at "mine_args"; (case kp => (refine ⟨?_, ?_, ?_, ?_, ?_, ?_, ?_⟩; k_mem; k_mem; k_mem; (walk_at "mine_rat"); (walk_at "mine_rat"); assumption; assumption));
  (intro D9 X9 Y9 t9 u9 v9 w9 h9 tk9 F9 N9 l9 l8 l7; (try k_lt l9); (try k_lt2 l8); (try k_lt2 l7); (try dsimp only); (try k_fold))))
set_option maxRecDepth 100000 in
set_option maxHeartbeats 4000000 in
theorem point_ok {w : World} {mean : ExcName → Option Value} {mg mb : PySem.Str → Option Value} {M dM e f p px py : Addr} {t1 t2 t3 t4 t5 t6 : Tok} {x y xe ye : Rat} {t u t' u' te ue tf uf : Tok} {news : Led} :
    CallOk w mean mg mb 317 [.ref M, .ref p] news 5 (fun h₀ => (M, instObj 341 dM) ∈ news ∧ (dM, matO w e f t1 t2 t3 t4 t5 t6) ∈ news ∧ (p, refPair px py) ∈ news ∧ RatTU news h₀ px x t u ∧ RatTU news h₀ py y t' u' ∧ RatTU news h₀ e xe te ue ∧ RatTU news h₀ f ye tf uf ∧ Bd 40 x ∧ Bd 40 y ∧ Bd 40 xe ∧ Bd 40 ye)
      (RetPt news (x + xe) (y + ye)) := by
  k_with_none
  unfold CallOk
  k_fill
  intro dp un gd cn cs ca ccd cl outer A₀ base h₀ L m s Q E B F X N T hk hd hu hpre hret
  obtain ⟨hM, hdM, hp, hx, hy, he, hf, bx, by', be, bf⟩ := hpre
  have b2 : Bd 1000 x := bx.mono (by decide)
  have b3 : Bd 1000 y := by'.mono (by decide)
  have b4 : Bd 1000 xe := be.mono (by decide)
  have b5 : Bd 1000 ye := bf.mono (by decide)
  walk_at "mine_enter"
  k_steps
  all_goals (try k_data)
  all_goals first
    | (refine' end_pt hret ?eF ?eN ?eS ?e1 ?e2 ?e3; (case eF => assumption); (case eN => assumption); (case eS => walk_at "mine_in"); (case e1 => walk_at "mine_lt"); (case e2 => exact lt_nat (by omega)); (case e3 => exact lt_nat (by omega)))
    | fail "left"
abbrev RetVal (news : Led) (v : Value) : RetT := fun h₀ L m s Q => ∀ (h' : Heap) (tk' : Nat), Fr h₀ L h' m → News h₀ L h' news → Q v { s with heap := h', toks := tk' }
theorem end_val {h₀ h' : Heap} {L : Addr} {m : PySem.Str → Option Value} {news : Led} {s : Shared} {Q : Cont} {v v' : Value} {tk : Nat} (hret : RetVal news v h₀ L m s Q) (e : v' = v) (F : Fr h₀ L h' m) (N : News h₀ L h' news) : Q v' { s with heap := h', toks := tk } := by
  subst e; exact hret h' tk F N
theorem mine_item {w : World} {A : Around} {E : Value → Shared → Prop} {s : Shared} {h₀ : Heap} {L CL : Addr} {news : Led} {value slice : PySem.Expr} {its : Array Value} {n : Nat} {k : Int} {u : Tok} {x : Value} {Q : Value → Shared → Prop} (N : News h₀ L s.heap news) (hm : (CL, listOf its n) ∈ news)
    (h0 : 0 ≤ k) (hfit : k < 2 ^ 63) (hx : its[k.toNat]? = some x) (h : Q x s)
    (hs : subscripted slice false (.ref CL) (.int k u) = operate [.ref CL, .int k u] (getItem (.ref CL) (.int k u)) := by with_unfolding_all rfl) :
    wpAny (model Challenge.rw_nu0022_01.row.prog w) A (subscriptTail value slice (.ref CL) (.int k u)) Q E s :=
  let hl := PySem.IsL.isList (n := n) (N _ hm).1
  tail_any hl.typeIs slot_list_getitem.lookup (wpAny_getItem_list hl h0 hfit hx h) hs
abbrev canO (w : World) (W H l t : Int) (CL : Addr) (t1 t2 t3 t4 t5 u1 u2 u3 u4 : Tok) : Obj := dictOf [dkey w (Str.ofString "width") t1 (.int W u1), dkey w (Str.ofString "height") t2 (.int H u2), dkey w (Str.ofString "left") t3 (.int l u3), dkey w (Str.ofString "top") t4 (.int t u4), dkey w (Str.ofString "cells") t5 (.ref CL)] 5
abbrev patO (w : World) (C M a b : Addr) (t1 t2 t3 t4 : Tok) : Obj := dictOf [dkey w (Str.ofString "canvas") t1 (.ref C), dkey w (Str.ofString "inverse") t2 (.ref M), dkey w (Str.ofString "width") t3 (.ref a), dkey w (Str.ofString "height") t4 (.ref b)] 4

section
local macro_rules | `(tactic| walk_at "subscriptTail") => `(tactic| (k_here; (with_reducible show wpAny _ _ (subscriptTail _ _ (Value.ref _) (Value.int _ _)) _ _ _); k_dflt (
  refine' mine_item ?tN ?tm ?t0 ?tf ?tx ?_ ?ts; (case tN => k_asm); (case tm => k_mem); (case tx => assumption); (case t0 => omega); (case tf => omega); (case ts => with_unfolding_all rfl); k_whole)))
set_option maxRecDepth 100000 in
set_option maxHeartbeats 4000000 in
theorem get_ok {w : World} {mean : ExcName → Option Value} {mg mb : PySem.Str → Option Value} {C dC CL R : Addr} {W H l t i j : Int} {tx ty t1 t2 t3 t4 t5 u1 u2 u3 u4 : Tok} {rows row : Array Value} {n1 n2 : Nat} {v : Value} {news : Led} :
    CallOk w mean mg mb 235 [.ref C, .int (l + i) tx, .int (t + j) ty] news 2 (fun _ => (C, instObj 278 dC) ∈ news ∧ (dC, canO w W H l t CL t1 t2 t3 t4 t5 u1 u2 u3 u4) ∈ news ∧ (CL, listOf rows n1) ∈ news ∧ (R, listOf row n2) ∈ news ∧
      rows[j.toNat]? = some (.ref R) ∧ row[i.toNat]? = some v ∧ 0 ≤ i ∧ i < W ∧ 0 ≤ j ∧ j < H ∧ W < 9 ∧ H < 9) (RetVal news v) := by
  k_with_none
  unfold CallOk
  k_fill
  intro dp un gd cn cs ca ccd cl outer A₀ base h₀ L m s Q E B F X N T hk hd hu hpre hret
  obtain ⟨hC, hdC, hCL, hR, hrow, hcell, i0, i1, j0, j1, W9, H9⟩ := hpre
  have e1 : l + i - l = i := by omega
  have e2 : t + j - t = j := by omega
  rw [← e2] at hrow
  rw [← e1] at hcell
  walk_at "mine_enter"
  k_steps
  all_goals (try k_data)
  all_goals first
    | (exfalso; omega)
    | exact end_val hret rfl (by assumption) (news_sub (by assumption) (by walk_at "mine_sub"))
    | fail "left"
end
theorem cmp0_eq (x : Rat) : (x.num * (0:Rat).den - (0:Rat).num * x.den).sign = x.num.sign := by
  have e : x.num * (0:Rat).den - (0:Rat).num * x.den = x.num := by
    show x.num * 1 - 0 * (x.den : Int) = x.num
    omega
  rw [e]
theorem cmp0_ok {w : World} {mean : ExcName → Option Value} {mg mb : PySem.Str → Option Value} {a : Addr} {x : Rat} {t u t' u' : Tok} {news : Led} :
    CallOk w mean mg mb 143 [.ref a, .ref 78] news 2 (fun h₀ => RatTU news h₀ a x t u ∧ RatTU news h₀ 78 0 t' u' ∧ Bd 1000 x ∧ Bd 1000 (0:Rat)) (RetInt news x.num.sign) := by
  rw [← cmp0_eq x]
  exact compare_ok
theorem sign_le {n : Int} : n.sign ≤ 0 ↔ n ≤ 0 := by
  rcases Int.lt_trichotomy n 0 with h | h | h
  · rw [Int.sign_eq_neg_one_of_neg h]; omega
  · subst h; simp
  · rw [Int.sign_eq_one_of_pos h]; omega
theorem RatTU.mid {news : Led} {h₀ : Heap} {a : Addr} {x : Int} {t u : Tok} (hm : (a, tupO (2 * x + 1) 2 t u) ∈ news) : RatTU news h₀ a (mkRat (2 * x + 1) 2) t u := by
  have e : Nat.gcd 2 (2 * x + 1).natAbs = 1 := by
    rw [Nat.gcd_rec]
    have : (2 * x + 1).natAbs % 2 = 1 := by omega
    rw [this]
    rfl
  have e1 : (mkRat (2 * x + 1) 2).num = 2 * x + 1 := by rw [Rat.num_mkRat, if_neg (by decide), e]; omega
  have e2 : ((mkRat (2 * x + 1) 2).den : Int) = 2 := by rw [Rat.den_mkRat, if_neg (by decide), e]; rfl
  exact RatTU.made (by rw [e1, e2]; exact hm)
local macro_rules | `(tactic| walk_at "mine_rat") => `(tactic| exact RatTU.mid (by k_mem))
local macro_rules | `(tactic| walk_at "mine_call") => `(tactic| (
  apply cmp0_ok; walk_at "mine_args"; (case kp => (refine ⟨?_, ?_, ?_, ?_⟩; (walk_at "mine_rat"); (walk_at "mine_rat"); assumption; assumption)); walk_at "mine_int"))
set_option maxRecDepth 100000 in
set_option maxHeartbeats 4000000 in
theorem empty_ok {w : World} {mean : ExcName → Option Value} {mg mb : PySem.Str → Option Value} {P dP C dC M aw ah CL : Addr} {W H l t : Int} {x y : Rat} {t' u' t'' u'' p1 p2 p3 p4 t1 t2 t3 t4 t5 u1 u2 u3 u4 : Tok} {news : Led} {b : Bool} :
    CallOk w mean mg mb 186 [.ref P] news 3 (fun h₀ => (P, instObj 203 dP) ∈ news ∧ (dP, patO w C M aw ah p1 p2 p3 p4) ∈ news ∧ (C, instObj 278 dC) ∈ news ∧ (dC, canO w W H l t CL t1 t2 t3 t4 t5 u1 u2 u3 u4) ∈ news ∧
      RatTU news h₀ aw x t' u' ∧ RatTU news h₀ ah y t'' u'' ∧ 0 < W ∧ 0 < H ∧ Bd 100 x ∧ Bd 100 y ∧ b = decide (x.num ≤ 0 ∨ y.num ≤ 0)) (RetVal news (.bool b)) := by
  k_with_none
  unfold CallOk
  k_fill
  intro dp un gd cn cs ca ccd cl outer A₀ base h₀ L m s Q E B F X N T hk hd hu hpre hret
  obtain ⟨hP, hdP, hC, hdC, hx, hy, W0, H0, bx, by', hb⟩ := hpre
  obtain ⟨z1, z2, hz⟩ := zero_at X
  have hz' : RatTU news h₀ 78 0 z1 z2 := .inr hz
  clear hz
  have b0 : Bd 1000 (0:Rat) := Bd.zero.mono (by decide)
  have b2 : Bd 1000 x := bx.mono (by decide)
  have b3 : Bd 1000 y := by'.mono (by decide)
  have g1 := sign_le (n := x.num)
  have g2 := sign_le (n := y.num)
  clear bx by'
  walk_at "mine_enter"
  k_steps
  all_goals (try k_data)
  all_goals first
    | (exfalso; omega)
    | exact end_val hret (by rw [hb]; congr 1; first | exact (decide_eq_true (by omega)).symm | exact (decide_eq_false (by omega)).symm | exact decide_eq_decide.mpr (by omega)) (by assumption) (news_sub (by assumption) (by walk_at "mine_sub"))
    | fail "left"

local macro_rules | `(tactic| walk_at "mine_val") => `(tactic| (intro h9 tk9 F9 N9; (try dsimp only); (try k_fold)))
local macro_rules | `(tactic| walk_at "mine_call") => `(tactic| (
  apply empty_ok; walk_at "mine_args"; (case kp => (refine ⟨?_, ?_, ?_, ?_, ?_, ?_, ?_, ?_, ?_, ?_, ?_⟩; k_mem; k_mem; k_mem; k_mem; (walk_at "mine_rat"); (walk_at "mine_rat"); assumption; assumption; assumption; assumption; assumption)); walk_at "mine_val"))
local macro_rules | `(tactic| walk_at "mine_call") => `(tactic| (
  apply get_ok; walk_at "mine_args"; (case kp => (refine ⟨?_, ?_, ?_, ?_, ?_, ?_, ?_, ?_, ?_, ?_, ?_, ?_⟩; k_mem; k_mem; k_mem; k_mem; assumption; assumption; assumption; assumption; assumption; assumption; assumption; assumption)); walk_at "mine_val"))
local macro_rules | `(tactic| walk_at "mine_call") => `(tactic| (
  apply dot_ok; walk_at "mine_args"; (case kp => (refine ⟨?_, ?_, ?_, ?_, ?_, ?_⟩; (walk_at "mine_rat"); (walk_at "mine_rat"); assumption; assumption; assumption; assumption)); walk_at "mine_int"))
local macro_rules | `(tactic| walk_at "mine_call") => `(tactic| (
  apply point_ok; walk_at "mine_args"; (case kp => (refine ⟨?_, ?_, ?_, ?_, ?_, ?_, ?_, ?_, ?_, ?_, ?_⟩; k_mem; k_mem; k_mem; (walk_at "mine_rat"); (walk_at "mine_rat"); (walk_at "mine_rat"); (walk_at "mine_rat"); assumption; assumption; assumption; assumption));
  (intro D9 X9 Y9 t9 u9 v9 w9 h9 tk9 F9 N9 l9 l8 l7; (try k_lt l9); (try k_lt2 l8); (try k_lt2 l7); (try dsimp only); (try k_fold))))
set_option maxRecDepth 100000 in
set_option maxHeartbeats 4000000 in
theorem at_ok {w : World} {mean : ExcName → Option Value} {mg mb : PySem.Str → Option Value} {P dP C dC M dM aw ah ae af CL R : Addr} {W H l t px py : Int} {x y xe ye : Rat} {tx ty te ue tf uf t' u' t'' u'' p1 p2 p3 p4 t1 t2 t3 t4 t5 u1 u2 u3 u4 m1 m2 m3 m4 m5 m6 : Tok} {rows row : Array Value} {n1 n2 : Nat} {v : Value} {news : Led} :
    CallOk w mean mg mb 200 [.ref P, .int px tx, .int py ty] news 7 (fun h₀ => (P, instObj 203 dP) ∈ news ∧ (dP, patO w C M aw ah p1 p2 p3 p4) ∈ news ∧ (C, instObj 278 dC) ∈ news ∧ (dC, canO w W H l t CL t1 t2 t3 t4 t5 u1 u2 u3 u4) ∈ news ∧
      (CL, listOf rows n1) ∈ news ∧ (R, listOf row n2) ∈ news ∧ (M, instObj 341 dM) ∈ news ∧ (dM, matO w ae af m1 m2 m3 m4 m5 m6) ∈ news ∧
      RatTU news h₀ aw x t' u' ∧ RatTU news h₀ ah y t'' u'' ∧ RatTU news h₀ ae xe te ue ∧ RatTU news h₀ af ye tf uf ∧ 0 < x.num ∧ 0 < y.num ∧ Bd 100 x ∧ Bd 100 y ∧ Bd 40 xe ∧ Bd 40 ye ∧ Low 38 px ∧ Low 38 py ∧
      (0 < W ∧ W < 9) ∧ (0 < H ∧ H < 9) ∧ (0 ≤ dotR (mkRat (2 * px + 1) 2 + xe) x W ∧ dotR (mkRat (2 * px + 1) 2 + xe) x W < W) ∧ (0 ≤ dotR (mkRat (2 * py + 1) 2 + ye) y H ∧ dotR (mkRat (2 * py + 1) 2 + ye) y H < H) ∧
      rows[(dotR (mkRat (2 * py + 1) 2 + ye) y H).toNat]? = some (.ref R) ∧ row[(dotR (mkRat (2 * px + 1) 2 + xe) x W).toNat]? = some v) (RetVal news v) := by
  k_with_none
  unfold CallOk
  k_fill
  intro dp un gd cn cs ca ccd cl outer A₀ base h₀ L m s Q E B F X N T hk hd hu hpre hret
  obtain ⟨hP, hdP, hC, hdC, hCL, hR, hM, hdM, hx, hy, hxe, hye, x0, y0, bx, by', bxe, bye, lx, ly, ⟨W0, W9⟩, ⟨H0, H9⟩, ⟨d0, d1⟩, ⟨d2, d3⟩, hrow, hcell⟩ := hpre
  have l2 : Low 2 2 := by show (2:Int).natAbs < 2^2; decide
  have l1 : Low 0 1 → False := fun h => by revert h; show ¬ ((1:Int).natAbs < 2^0); decide
  clear l1
  have k1 : Low 40 1 := by show (1:Int).natAbs < 2^40; decide
  have mx : IntMulOk 2 px := (l2.mono (by decide)).mulOk (lx.mono (by decide))
  have my : IntMulOk 2 py := (l2.mono (by decide)).mulOk (ly.mono (by decide))
  have q1 : Low 40 (2 * px + 1) := by unfold Low at *; omega
  have q2 : Low 40 (2 * py + 1) := by unfold Low at *; omega
  have q3 : Low 40 ((2:Nat):Int) := by show (2:Int).natAbs < 2^40; decide
  have r1 : Bd 40 (mkRat (2 * px + 1) 2) := Bd.mk (by decide) q1 q3
  have r2 : Bd 40 (mkRat (2 * py + 1) 2) := Bd.mk (by decide) q2 q3
  have s1 : Bd 100 (mkRat (2 * px + 1) 2 + xe) := (r1.add bxe).mono (by decide)
  have s2 : Bd 100 (mkRat (2 * py + 1) 2 + ye) := (r2.add bye).mono (by decide)
  have w1 : Low 100 W := by unfold Low; omega
  have w2 : Low 100 H := by unfold Low; omega
  have hb : false = decide (x.num ≤ 0 ∨ y.num ≤ 0) := (decide_eq_false (by omega)).symm
  clear l2 k1 lx ly q1 q2 q3
  walk_at "mine_enter"
  k_steps
  all_goals (try k_data)
  all_goals first
    | (exfalso; omega)
    | exact end_val hret rfl (by assumption) (news_sub (by assumption) (by walk_at "mine_sub"))
    | fail "left"
set_option maxRecDepth 100000 in
set_option maxHeartbeats 4000000 in
theorem at_clear {w : World} {mean : ExcName → Option Value} {mg mb : PySem.Str → Option Value} {P dP C dC M aw ah CL : Addr} {W H l t px py : Int} {x y : Rat} {tx ty t' u' t'' u'' p1 p2 p3 p4 t1 t2 t3 t4 t5 u1 u2 u3 u4 : Tok} {news : Led} :
    CallOk w mean mg mb 200 [.ref P, .int px tx, .int py ty] news 7 (fun h₀ => (P, instObj 203 dP) ∈ news ∧ (dP, patO w C M aw ah p1 p2 p3 p4) ∈ news ∧ (C, instObj 278 dC) ∈ news ∧ (dC, canO w W H l t CL t1 t2 t3 t4 t5 u1 u2 u3 u4) ∈ news ∧
      RatTU news h₀ aw x t' u' ∧ RatTU news h₀ ah y t'' u'' ∧ 0 < W ∧ 0 < H ∧ Bd 100 x ∧ Bd 100 y ∧ true = decide (x.num ≤ 0 ∨ y.num ≤ 0)) (RetVal news (.ref 158)) := by
  k_with_none
  unfold CallOk
  k_fill
  intro dp un gd cn cs ca ccd cl outer A₀ base h₀ L m s Q E B F X N T hk hd hu hpre hret
  obtain ⟨hP, hdP, hC, hdC, hx, hy, W0, H0, bx, by', hb⟩ := hpre
  walk_at "mine_enter"
  k_steps
  all_goals (try k_data)
  all_goals first
    | (exfalso; omega)
    | exact end_val hret rfl (by assumption) (news_sub (by assumption) (by walk_at "mine_sub"))
    | fail "left"
abbrev srcO (a b : Int) (t u : Tok) (n : Nat) : Obj := listOf #[.int a t, .int b u] n
/-- a draw: an int under the top; the source changed in its place -/
abbrev RetTake (g : Obj → Led) (top : Int) : RetT := fun h₀ L m s Q => ∀ (r a' b' : Int) (v t u : Tok) (n' : Nat) (h' : Heap) (tk' : Nat), Fr h₀ L h' m → News h₀ L h' (g (srcO a' b' t u n')) → 0 ≤ r → r < top → 0 ≤ b' → b' < 2147483647 → Q (.int r v) { s with heap := h', toks := tk' }
theorem upd_to {d : Addr} {o o' : Obj} {l : Led} {g : Obj → Led} (U : UpdF d o l g) : Upd d o o' l (g o') := by
  induction U with
  | head h => exact .head h
  | tail h _ ih => exact .tail h ih
theorem upd_mem {d : Addr} {o o' : Obj} {l : Led} {g : Obj → Led} (U : UpdF d o l g) : (d, o') ∈ g o' := by
  obtain ⟨pre, post, _, e, _, _⟩ := U.split
  rw [e]
  exact List.mem_append_right _ (.head _)
theorem upd_mem0 {d : Addr} {o : Obj} {l : Led} {g : Obj → Led} (U : UpdF d o l g) : (d, o) ∈ l := by
  obtain ⟨pre, post, e, _, _, _⟩ := U.split
  rw [e]
  exact List.mem_append_right _ (.head _)
theorem fmod_lo {a b : Int} (h : 0 < b) : 0 ≤ a.fmod b := Int.fmod_nonneg_of_pos a h
theorem fmod_hi {a b : Int} (h : 0 < b) : a.fmod b < b := Int.fmod_lt_of_pos a h
theorem take_m0 : Low 100 39373 := by show (39373:Int).natAbs < 2 ^ 100; decide
theorem low31 {b : Int} (h0 : 0 ≤ b) (h1 : b < 2147483648) : Low 31 b := by
  show b.natAbs < 2 ^ 31
  omega
theorem take_mul {b : Int} (h0 : 0 ≤ b) (h1 : b < 2147483647) : IntMulOk b 39373 := ((low31 h0 (by omega)).mono (by decide)).mulOk (take_m0.mono (by decide))
theorem take_sq (c : Int) : IntMulOk (c.fmod 2147483647) (c.fmod 2147483647) := by
  have h1 := Int.fmod_nonneg_of_pos c (b := 2147483647) (by decide)
  have h2 := Int.fmod_lt_of_pos c (b := 2147483647) (by decide)
  have h := (low31 h1 (by omega)).mono (show 31 ≤ 2000 by decide)
  exact h.mulOk h
theorem take_d {top : Int} (h0 : 0 < top) (h1 : top < 1000) : top.natAbs.log2 < 9000 := Low.log2 (k := 10) (by show top.natAbs < 2 ^ 10; omega) (by decide)
theorem take_d32 : (32 : Int).natAbs.log2 < 9000 := by decide +kernel
theorem mine_src0 {w : World} {A : Around} {E : Value → Shared → Prop} {s : Shared} {h₀ : Heap} {L CL : Addr} {news : Led} {value slice : PySem.Expr} {n : Nat} {u : Tok} {x y : Value} {Q : Value → Shared → Prop} (N : News h₀ L s.heap news) (hm : (CL, listOf #[x, y] n) ∈ news) (h : Q x s)
    (hs : subscripted slice false (.ref CL) (.int 0 u) = operate [.ref CL, .int 0 u] (getItem (.ref CL) (.int 0 u)) := by with_unfolding_all rfl) :
    wpAny (model Challenge.rw_nu0022_01.row.prog w) A (subscriptTail value slice (.ref CL) (.int 0 u)) Q E s := mine_item N hm (by decide) (by decide) rfl h hs
theorem mine_src1 {w : World} {A : Around} {E : Value → Shared → Prop} {s : Shared} {h₀ : Heap} {L CL : Addr} {news : Led} {value slice : PySem.Expr} {n : Nat} {u : Tok} {x y : Value} {Q : Value → Shared → Prop} (N : News h₀ L s.heap news) (hm : (CL, listOf #[x, y] n) ∈ news) (h : Q y s)
    (hs : subscripted slice false (.ref CL) (.int 1 u) = operate [.ref CL, .int 1 u] (getItem (.ref CL) (.int 1 u)) := by with_unfolding_all rfl) :
    wpAny (model Challenge.rw_nu0022_01.row.prog w) A (subscriptTail value slice (.ref CL) (.int 1 u)) Q E s := mine_item N hm (by decide) (by decide) rfl h hs
theorem end_take {h₀ h' : Heap} {L : Addr} {m : PySem.Str → Option Value} {g : Obj → Led} {s : Shared} {Q : Cont} {top r a' b' : Int} {v t u : Tok} {n' tk : Nat} (hret : RetTake g top h₀ L m s Q) (F : Fr h₀ L h' m) (N : News h₀ L h' (g (srcO a' b' t u n'))) (h0 : 0 ≤ r) (h1 : r < top) (h2 : 0 ≤ b') (h3 : b' < 2147483647) :
    Q (.int r v) { s with heap := h', toks := tk } := hret r a' b' v t u n' h' tk F N h0 h1 h2 h3
section
local macro_rules | `(tactic| walk_at "subscriptTail") => `(tactic| (k_here; (with_reducible show wpAny _ _ (subscriptTail _ _ (Value.ref _) (Value.int 0 _)) _ _ _); k_dflt (refine' mine_src0 ?tN ?tm ?_ ?ts; (case tN => k_asm); (case tm => k_mem); (case ts => with_unfolding_all rfl); k_whole)))
local macro_rules | `(tactic| walk_at "subscriptTail") => `(tactic| (k_here; (with_reducible show wpAny _ _ (subscriptTail _ _ (Value.ref _) (Value.int 1 _)) _ _ _); k_dflt (refine' mine_src1 ?tN ?tm ?_ ?ts; (case tN => k_asm); (case tm => k_mem); (case ts => with_unfolding_all rfl); k_whole)))
local macro_rules | `(tactic| k_upd) => `(tactic| exact upd_to (by assumption))
local macro_rules | `(tactic| k_mem) => `(tactic| first | exact upd_mem (by assumption) | exact mem_raw (upd_mem (by assumption)))
set_option maxRecDepth 100000 in
set_option maxHeartbeats 4000000 in
theorem take_ok {w : World} {mean : ExcName → Option Value} {mg mb : PySem.Str → Option Value} {S : Addr} {a b top : Int} {t u tt : Tok} {n : Nat} {news : Led} {g : Obj → Led} :
    CallOk w mean mg mb 366 [.ref S, .int top tt] news 1 (fun _ => UpdF S (srcO a b t u n) news g ∧ 0 < top ∧ top < 1000 ∧ 0 ≤ b ∧ b < 2147483647) (RetTake g top) := by
  k_with_none
  unfold CallOk
  k_fill
  intro dp un gd cn cs ca ccd cl outer A₀ base h₀ L m s Q E B F X N T hk hd hu hpre hret
  obtain ⟨U, t0, t1, b0, b1⟩ := hpre
  have hS := upd_mem0 U
  have m1 := take_mul b0 b1
  have m3 := take_sq (b * 39373 + 7)
  have d1 := take_d t0 t1
  have d2 := take_d32
  walk_at "mine_enter"
  k_steps
  all_goals (try k_data)
  all_goals first
    | (exfalso; omega)
    | (refine' end_take hret ?eF ?eN ?e0 ?e1 ?e2 ?e3; (case eF => assumption); (case eN => assumption); (case e0 => exact fmod_lo t0); (case e1 => exact fmod_hi t0); (case e2 => first | assumption | exact fmod_lo (by decide)); (case e3 => first | assumption | exact fmod_hi (by decide)))
    | fail "left"
end
local macro_rules | `(tactic| walk_at "mine_take") => `(tactic| (intro r9 a9 b9 v9 t9 u9 n9 h9 tk9 F9 N9 r0 r1 b0 b1; (try dsimp only at N9); (try dsimp only); (try k_fold)))
local macro_rules | `(tactic| walk_at "mine_call") => `(tactic| (
  apply take_ok; walk_at "mine_args"; (case kp => (refine ⟨?_, ?_, ?_, ?_, ?_⟩; (first | assumption | k_updF); (first | assumption | omega); (first | assumption | omega); (first | assumption | omega); (first | assumption | omega))); walk_at "mine_take"))
abbrev RetOne (g : Obj → Led) (vs : List Value) : RetT := fun h₀ L m s Q => ∀ (v : Value) (a' b' : Int) (t u : Tok) (n' : Nat) (h' : Heap) (tk' : Nat), v ∈ vs → Fr h₀ L h' m → News h₀ L h' (g (srcO a' b' t u n')) → 0 ≤ b' → b' < 2147483647 → Q v { s with heap := h', toks := tk' }
theorem mine_pick {w : World} {A : Around} {E : Value → Shared → Prop} {s : Shared} {h₀ : Heap} {L CL : Addr} {news : Led} {value slice : PySem.Expr} {vs : List Value} {n : Nat} {k : Int} {u : Tok} {Q : Value → Shared → Prop} (N : News h₀ L s.heap news) (hm : (CL, listOf vs.toArray n) ∈ news)
    (h0 : 0 ≤ k) (h1 : k < vs.length) (hl : vs.length < 64) (h : ∀ x ∈ vs, Q x s)
    (hs : subscripted slice false (.ref CL) (.int k u) = operate [.ref CL, .int k u] (getItem (.ref CL) (.int k u)) := by with_unfolding_all rfl) :
    wpAny (model Challenge.rw_nu0022_01.row.prog w) A (subscriptTail value slice (.ref CL) (.int k u)) Q E s :=
  mine_item (x := vs[k.toNat]'(by omega)) N hm h0 (by omega) (by simp) (h _ (List.getElem_mem _)) hs
theorem mine_len {w : World} {A : Around} {E : Value → Shared → Prop} {s : Shared} {h₀ : Heap} {L CL : Addr} {news : Led} {vs : List Value} {n : Nat} {Q : Value → Shared → Prop} (N : News h₀ L s.heap news) (hm : (CL, listOf vs.toArray n) ∈ news) (hl : vs.length < 64)
    (h : Q (.int vs.length (s.toks + 1)) { s with toks := s.toks + 1 + 1 }) : wpAny (model Challenge.rw_nu0022_01.row.prog w) A (call (.builtin "len") [.ref CL]) Q E s :=
  kun_lenL (PySem.IsL.isList (n := n) (N _ hm).1) (by simp) (by omega) h
theorem end_one {h₀ h' : Heap} {L : Addr} {m : PySem.Str → Option Value} {g : Obj → Led} {s : Shared} {Q : Cont} {vs : List Value} {v : Value} {a' b' : Int} {t u : Tok} {n' tk : Nat} (hret : RetOne g vs h₀ L m s Q) (hv : v ∈ vs) (F : Fr h₀ L h' m) (N : News h₀ L h' (g (srcO a' b' t u n'))) (h2 : 0 ≤ b') (h3 : b' < 2147483647) :
    Q v { s with heap := h', toks := tk } := hret v a' b' t u n' h' tk hv F N h2 h3
theorem all_mem {p : Addr × Obj} {g : Obj → Led} {o : Obj} (h : ∀ o, p ∈ g o) : p ∈ g o := h o
section
local macro_rules | `(tactic| walk_at "call builtin:len") => `(tactic| (k_here; (with_reducible show wpAny _ _ (call (Value.builtin "len") [Value.ref _]) _ _ _); k_dflt (refine' mine_len ?k1 ?k2 ?k3 ?_; (case k1 => k_asm); (case k2 => assumption); (case k3 => assumption); k_whole)))
local macro_rules | `(tactic| k_mem) => `(tactic| first | (with_reducible assumption) | exact mem_raw (by with_reducible assumption))
local macro_rules | `(tactic| walk_at "subscriptTail") => `(tactic| (k_here; (with_reducible show wpAny _ _ (subscriptTail _ _ (Value.ref _) (Value.int _ _)) _ _ _); k_dflt (refine' mine_pick ?tN ?tm ?t0 ?t1 ?tl ?_ ?ts; (case tN => k_asm); (case tm => exact all_mem (by assumption)); (case t0 => assumption); (case t1 => assumption); (case tl => assumption); (case ts => with_unfolding_all rfl); k_whole)))
set_option maxRecDepth 100000 in
set_option maxHeartbeats 4000000 in
theorem one_ok {w : World} {mean : ExcName → Option Value} {mg mb : PySem.Str → Option Value} {S TL : Addr} {a b : Int} {t u : Tok} {n n2 : Nat} {vs : List Value} {news : Led} {g : Obj → Led} :
    CallOk w mean mg mb 373 [.ref S, .ref TL] news 2 (fun _ => UpdF S (srcO a b t u n) news g ∧ (TL, listOf vs.toArray n2) ∈ news ∧ (∀ o, (TL, listOf vs.toArray n2) ∈ g o) ∧ 0 < vs.length ∧ vs.length < 64 ∧ 0 ≤ b ∧ b < 2147483647) (RetOne g vs) := by
  k_with_none
  unfold CallOk
  k_fill
  intro dp un gd cn cs ca ccd cl outer A₀ base h₀ L m s Q E B F X N T hk hd hu hpre hret
  obtain ⟨U, hT, hT', v0, v1, b0, b1⟩ := hpre
  walk_at "mine_enter"
  k_steps
  all_goals (try k_data)
  all_goals first
    | (exfalso; omega)
    | (refine' end_one hret ?e0 ?eF ?eN ?e2 ?e3; (case eF => assumption); (case eN => assumption); (case e0 => assumption); (case e2 => assumption); (case e3 => assumption))
    | fail "left"
end
abbrev RetPool (news : Led) : RetT := fun h₀ L m s Q => ∀ (S : Addr) (a b : Int) (t u : Tok) (n : Nat) (h' : Heap) (tk' : Nat), Fr h₀ L h' m → News h₀ L h' ((S, srcO a b t u n) :: news) → (∀ p ∈ news, p.1 < S) → 0 ≤ b → b < 2147483647 → Q (.ref S) { s with heap := h', toks := tk' }
theorem list_up {h₀ g h : Heap} {L₀ L l : Addr} {m₀ m : PySem.Str → Option Value} {its : Array Value} (hl : h₀.IsList l its) (FG : Fr h₀ L₀ g m₀) (F : Fr g L h m) : h.IsList l its := hl.at fun o e => F.keep _ _ (FG.keep _ _ e)
theorem end_pool {h₀ h' : Heap} {L S : Addr} {m : PySem.Str → Option Value} {news : Led} {s : Shared} {Q : Cont} {a b : Int} {t u : Tok} {n tk : Nat} (hret : RetPool news h₀ L m s Q) (F : Fr h₀ L h' m) (N : News h₀ L h' ((S, srcO a b t u n) :: news)) (hl : ∀ p ∈ news, p.1 < S) (h0 : 0 ≤ b) (h1 : b < 2147483647) :
    Q (.ref S) { s with heap := h', toks := tk } := hret S a b t u n h' tk F N hl h0 h1
section
local macro_rules | `(tactic| is_list) => `(tactic| exact list_up (by assumption) (by assumption) (by assumption))
set_option maxRecDepth 100000 in
set_option maxHeartbeats 800000 in
theorem pool_ok {w : World} {mean : ExcName → Option Value} {mg mb : PySem.Str → Option Value} {l : Addr} {vs : List Value} {ns : List Int} {tk : Tok} {news : Led} :
    CallOk w mean mg mb 359 [.ref l, .int 0 tk] news 2 (fun h₀ => h₀.IsList l vs.toArray ∧ IntsAre vs ns ∧ ns.length ≤ 63) (RetPool news) := by
  k_with_none
  unfold CallOk
  k_fill
  intro dp un gd cn cs ca ccd cl outer A₀ base h₀ L m s Q E B F X N T hk hd hu hpre hret
  obtain ⟨hL, hI, h63⟩ := hpre
  walk_at "mine_enter"
  k_steps
  all_goals (try k_data)
  all_goals first
    | (exfalso; omega)
    | (refine' end_pool hret ?eF ?eN ?el ?e0 ?e1; (case eF => assumption); (case eN => assumption); (case el => assumption); (case e0 => exact fmod_lo (by decide)); (case e1 => exact fmod_hi (by decide)))
    | fail "left"
end
local macro_rules | `(tactic| walk_at "mine_enterC") => `(tactic| (k_dflt (refine' code_defC ?k1 ?k2 ?k3 ?k4 ?k5 ?kA ?kF ?kK ?k6 ?k7 ?k8 ?k9 ?kB ?kD ?_ ?c2 ?c3 ?c4; (case kA => exact rfl); (case kF => exact rfl); (case kK => first | exact rfl | assumption); (case k1 => k_asm); (case k2 => k_asm); (case k3 => k_asm); (case k4 => k_asm); (case k5 => k_asm); (case k6 => k_is); (case k7 => k_is); (case k8 => ktr_room); (case k9 => first | exact BindsTo.of_eq rfl | exact binds_K (by k_in) rfl (by k_is) rfl rfl rfl); (case kB => exact rfl); (case kD => decide +kernel); (case c2 => exact rfl); (case c3 => exact rfl); (case c4 => exact rfl); k_whole; intro g' L' h' tk' cells' FG' F' N' Y' B' X' T' l1; (try k_lt l1); k_cells Y'; (try simp only [List.cons_append, List.nil_append] at N'); (try dsimp only); (try k_fold))))
abbrev RetCanvas (w : World) (news : Led) (W H : Nat) (l t : Int) : RetT := fun h₀ L m s Q => ∀ (C dC CL : Addr) (rs : List Addr) (n1 : Nat) (t1 t2 t3 t4 t5 u1 u2 u3 u4 : Tok) (all : Led) (h' : Heap) (tk' : Nat), Fr h₀ L h' m → News h₀ L h' all →
  (C, instObj 278 dC) ∈ all → (dC, canO w W H l t CL t1 t2 t3 t4 t5 u1 u2 u3 u4) ∈ all → (CL, listOf (rs.map Value.ref).toArray n1) ∈ all → rs.length = H → (∀ r ∈ rs, ∃ n, (r, listOf (List.replicate W (Value.ref 208)).toArray n) ∈ all) → rs.Nodup → CL ∉ rs →
  (∀ p ∈ news, p ∈ all) → (∀ p ∈ news, p.1 ≠ C ∧ p.1 ≠ dC ∧ p.1 ≠ CL ∧ p.1 ∉ rs) → Q (.ref C) { s with heap := h', toks := tk' }
theorem flat_rep (v : Value) : ∀ k : Nat, (List.replicate k [v]).flatten = List.replicate k v
  | 0 => rfl
  | k + 1 => by rw [List.replicate_succ, List.replicate_succ, List.flatten_cons, flat_rep v k]; rfl
theorem mine_mul1 {w : World} {A : Around} {E : Value → Shared → Prop} {s : Shared} {h₀ : Heap} {L l : Addr} {m : PySem.Str → Option Value} {news : Led} {v : Value} {n W : Nat} {u : Tok} {Q : Value → Shared → Prop} (F : Fr h₀ L s.heap m) (N : News h₀ L s.heap news) (hm : (l, listOf [v].toArray n) ∈ news) (hW : W ≤ 256)
    (h : ∀ D h', Fr h₀ L h' m → News h₀ L h' ((D, listOf (List.replicate W v).toArray 0) :: news) → (∀ p ∈ news, p.1 < D) → Q (.ref D) { s with heap := h' }) :
    wpAny (model Challenge.rw_nu0022_01.row.prog w) A (binaryOp .Mult (.ref l) (.int (W : Int) u)) Q E s :=
  KMa.mul (vs := [v]) F N (PySem.IsL.isList (n := n) (N _ hm).1) (by omega) (by omega) (by simp; omega) (by rw [Int.toNat_natCast]; exact flat_rep v W) h
theorem mine_compEnd2 {h₀ : Heap} {L I C D : Addr} {m : PySem.Str → Option Value} {s₁ : Shared} {oI oC oD : Obj} {S : Led → Prop} {rest : Value → Led → Prop} {y : Value} {h' : Heap} {tk : Nat} {p q : Addr × Obj} {r : Led}
    (F : Fr h₀ L h' m) (N : News h₀ L h' (p :: q :: (I, oI) :: (C, oC) :: (D, oD) :: r)) (off : LCg.Off3 I C D (p :: q :: r)) (hS : S (p :: q :: r)) (hr : rest y (p :: q :: r)) :
    LCg.CompEnd h₀ L m s₁ I oI C oC D oD S rest y { s₁ with heap := h', toks := tk } :=
  LCg.CompEnd.intro F N (p :: q :: r) (fun x hx => by
    simp only [List.mem_cons] at hx ⊢
    rcases hx with h | h | h | h | h | h
    · exact .inr (.inr (.inl h))
    · exact .inr (.inr (.inr (.inl h)))
    · exact .inr (.inr (.inr (.inr (.inl h))))
    · exact .inl h
    · exact .inr (.inl h)
    · exact .inr (.inr (.inr (.inr (.inr h))))) off hS hr
theorem off1_at {D : Addr} : ∀ {l : Led}, LCg.Off1 D l → ∀ p ∈ l, p.1 ≠ D
  | [], _, _, h => nomatch h
  | _ :: _, x, p, h => by
    rcases List.mem_cons.mp h with rfl | h
    · exact x.1
    · exact off1_at x.2 p h
theorem end_canvas2 {w : World} {h₀ h' : Heap} {L C dC CL a b : Addr} {m : PySem.Str → Option Value} {news all : Led} {s : Shared} {Q : Cont} {W n1 na nb tk : Nat} {l t : Int} {t1 t2 t3 t4 t5 u1 u2 u3 u4 : Tok} (hret : RetCanvas w news W 2 l t h₀ L m s Q) (F : Fr h₀ L h' m) (N : News h₀ L h' all)
    (hC : (C, instObj 278 dC) ∈ all) (hd : (dC, canO w (W : Int) ((2 : Nat) : Int) l t CL t1 t2 t3 t4 t5 u1 u2 u3 u4) ∈ all) (hCL : (CL, listOf [Value.ref a, Value.ref b].toArray n1) ∈ all) (ha : (a, listOf (List.replicate W (Value.ref 208)).toArray na) ∈ all) (hb : (b, listOf (List.replicate W (Value.ref 208)).toArray nb) ∈ all)
    (hsub : ∀ p ∈ news, p ∈ all) (o : LCg.Off1 CL news) (ld : ∀ p ∈ news, p.1 < dC) (lt : @LT.lt Nat instLTNat dC C ∧ @LT.lt Nat instLTNat dC a ∧ @LT.lt Nat instLTNat dC b ∧ @Ne Nat a b ∧ @Ne Nat CL a ∧ @Ne Nat CL b) : Q (.ref C) { s with heap := h', toks := tk } := by
  obtain ⟨e1, e2, e3, e4, e5, e6⟩ := lt
  refine hret C dC CL [a, b] n1 t1 t2 t3 t4 t5 u1 u2 u3 u4 all h' tk F N hC hd hCL rfl ?_ ?_ ?_ hsub ?_
  · intro r hr
    simp only [List.mem_cons, List.not_mem_nil, or_false] at hr
    rcases hr with rfl | rfl
    · exact ⟨_, ha⟩
    · exact ⟨_, hb⟩
  · simp only [List.nodup_cons, List.mem_cons, List.not_mem_nil, or_false, not_false_eq_true, List.nodup_nil, and_true]
    exact e4
  · simp only [List.mem_cons, List.not_mem_nil, or_false, not_or]
    exact ⟨e5, e6⟩
  · intro p hp
    have h1 : @LT.lt Nat instLTNat p.1 dC := ld p hp
    have h2 := off1_at o p hp
    simp only [List.mem_cons, List.not_mem_nil, or_false, not_or]
    exact ⟨Nat.ne_of_lt (Nat.lt_trans h1 e1), Nat.ne_of_lt h1, h2, Nat.ne_of_lt (Nat.lt_trans h1 e2), Nat.ne_of_lt (Nat.lt_trans h1 e3)⟩
theorem end_canvas3 {w : World} {h₀ h' : Heap} {L C dC CL a b c : Addr} {m : PySem.Str → Option Value} {news all : Led} {s : Shared} {Q : Cont} {W n1 na nb nc tk : Nat} {l t : Int} {t1 t2 t3 t4 t5 u1 u2 u3 u4 : Tok} (hret : RetCanvas w news W 3 l t h₀ L m s Q) (F : Fr h₀ L h' m) (N : News h₀ L h' all)
    (hC : (C, instObj 278 dC) ∈ all) (hd : (dC, canO w (W : Int) ((3 : Nat) : Int) l t CL t1 t2 t3 t4 t5 u1 u2 u3 u4) ∈ all) (hCL : (CL, listOf [Value.ref a, Value.ref b, Value.ref c].toArray n1) ∈ all) (ha : (a, listOf (List.replicate W (Value.ref 208)).toArray na) ∈ all) (hb : (b, listOf (List.replicate W (Value.ref 208)).toArray nb) ∈ all) (hc : (c, listOf (List.replicate W (Value.ref 208)).toArray nc) ∈ all)
    (hsub : ∀ p ∈ news, p ∈ all) (o : LCg.Off1 CL news) (ld : ∀ p ∈ news, p.1 < dC) (lt : @LT.lt Nat instLTNat dC C ∧ @LT.lt Nat instLTNat dC a ∧ @LT.lt Nat instLTNat dC b ∧ @LT.lt Nat instLTNat dC c ∧ @Ne Nat a b ∧ @Ne Nat a c ∧ @Ne Nat b c ∧ @Ne Nat CL a ∧ @Ne Nat CL b ∧ @Ne Nat CL c) : Q (.ref C) { s with heap := h', toks := tk } := by
  obtain ⟨e1, e2, e3, e3', e4, e4', e4'', e5, e6, e7⟩ := lt
  refine hret C dC CL [a, b, c] n1 t1 t2 t3 t4 t5 u1 u2 u3 u4 all h' tk F N hC hd hCL rfl ?_ ?_ ?_ hsub ?_
  · intro r hr
    simp only [List.mem_cons, List.not_mem_nil, or_false] at hr
    rcases hr with rfl | rfl | rfl
    · exact ⟨_, ha⟩
    · exact ⟨_, hb⟩
    · exact ⟨_, hc⟩
  · simp only [List.nodup_cons, List.mem_cons, List.not_mem_nil, or_false, not_false_eq_true, List.nodup_nil, and_true, not_or]
    exact ⟨⟨e4, e4'⟩, e4''⟩
  · simp only [List.mem_cons, List.not_mem_nil, or_false, not_or]
    exact ⟨e5, e6, e7⟩
  · intro p hp
    have h1 : @LT.lt Nat instLTNat p.1 dC := ld p hp
    have h2 := off1_at o p hp
    simp only [List.mem_cons, List.not_mem_nil, or_false, not_or]
    exact ⟨Nat.ne_of_lt (Nat.lt_trans h1 e1), Nat.ne_of_lt h1, h2, Nat.ne_of_lt (Nat.lt_trans h1 e2), Nat.ne_of_lt (Nat.lt_trans h1 e3), Nat.ne_of_lt (Nat.lt_trans h1 e3')⟩
local macro_rules | `(tactic| walk_at "mine_tail") => `(tactic| (first | assumption | exact And.right (by first | assumption | exact And.right (by first | assumption | exact And.right (by first | assumption | exact And.right (by first | assumption | exact And.right (by first | assumption | exact And.right (by first | assumption | exact And.right (by first | assumption | exact And.right (by first | assumption | exact And.right (by first | assumption | exact And.right (by first | assumption | exact And.right (by first | assumption | exact And.right (by first | assumption | exact And.right (by first | assumption | exact And.right (by first | assumption | exact And.right (by assumption) | fail "t") | fail "t") | fail "t") | fail "t") | fail "t") | fail "t") | fail "t") | fail "t") | fail "t") | fail "t") | fail "t") | fail "t") | fail "t") | fail "t") | fail "t"))
local macro_rules | `(tactic| walk_at "CompSrc") => `(tactic| (k_here; k_dflt (refine LCg.CompSrc.range (by rfl) (by k_asm) (by k_asm) (by assumption) (by first | decide | rfl) (by first | rfl | decide) (by first | size_fits | exact Nat.le_of_ble_eq_true rfl) ?_; intro g'; lcg_lit)))
section
local macro_rules | `(tactic| lcg_off) => `(tactic| walk_at "mine_tail")
local macro_rules | `(tactic| walk_at "CompEnd") => `(tactic| (refine' mine_compEnd2 ?cF ?cN ?cO ?cS ?_; (case cF => assumption); (case cN => assumption); (case cO => lcg_off); (case cS => lcg_src)))
local macro_rules | `(tactic| walk_at "binaryOp Mult ref int") => `(tactic| (k_here; (with_reducible show wpAny _ _ (binaryOp Operator.Mult (Value.ref _) (Value.int _ _)) _ _ _); k_dflt (refine' mine_mul1 ?F ?N ?l ?z ?_; (case F => k_asm); (case N => k_asm); (case l => k_mem); (case z => omega); k_whole); intro D' h' F' N' l1; (try k_lt l1)))
local macro_rules | `(tactic| walk_at "call ref") => `(tactic| (k_here; k_dflt (refine' call_cls ?k1 ?k2 ?k3 ?k4 ?k5 ?k6 ?_; (case k1 => k_asm); (case k2 => k_asm); (case k3 => k_asm); (case k4 => k_is); (case k5 => k_is); (case k6 => k_is); k_whole; intro x' d' h' F' N' l1 l2; (try k_lt l1); (try k_lt2 l2); (try k_sweep); walk_at "mine_enterC")))
set_option maxRecDepth 100000 in
set_option maxHeartbeats 4000000 in
theorem canvas_ok {w : World} {mean : ExcName → Option Value} {mg mb : PySem.Str → Option Value} {W H : Nat} {l t : Int} {tw th tl tt : Tok} {news : Led} :
    CallOk w mean mg mb 278 [.int (W : Int) tw, .int (H : Int) th, .int l tl, .int t tt] news 4 (fun _ => 0 < W ∧ W < 9 ∧ (H = 2 ∨ H = 3)) (RetCanvas w news W H l t) := by
  k_with_none
  unfold CallOk
  k_fill
  intro dp un gd cn cs ca ccd cl outer A₀ base h₀ L m s Q E B F X N T hk hd hu hpre hret
  obtain ⟨W0, W9, hH⟩ := hpre
  rcases hH with rfl | rfl
  all_goals
    (k_steps
     all_goals (try k_data)
     all_goals first
       | (exfalso; omega)
       | (refine' end_canvas2 hret ?eF ?eN ?e1 ?e2 ?e3 ?e4 ?e5 ?e6 ?e7 ?e8 ?e9; (case eF => assumption); (case eN => assumption); (case e1 => k_mem); (case e2 => k_mem); (case e3 => k_mem); (case e4 => k_mem); (case e5 => k_mem); (case e6 => walk_at "mine_sub"); (case e7 => walk_at "mine_tail"); (case e8 => assumption); (case e9 => omega))
       | (refine' end_canvas3 hret ?eF ?eN ?e1 ?e2 ?e3 ?e4 ?e5 ?e5' ?e6 ?e7 ?e8 ?e9; (case eF => assumption); (case eN => assumption); (case e1 => k_mem); (case e2 => k_mem); (case e3 => k_mem); (case e4 => k_mem); (case e5 => k_mem); (case e5' => k_mem); (case e6 => walk_at "mine_sub"); (case e7 => walk_at "mine_tail"); (case e8 => assumption); (case e9 => omega))
       | fail "left"
    )
end
theorem but_ne {R : Addr} {news : Led} : ∀ p ∈ news.filter (fun q => decide (q.1 ≠ R)), p.1 ≠ R := fun p hp => by
  have := (List.mem_filter.mp hp).2
  simpa using this
theorem but_sub {R : Addr} {o : Obj} {news : Led} (hm : (R, o) ∈ news) : ∀ p ∈ (R, o) :: news.filter (fun q => decide (q.1 ≠ R)), p ∈ news := fun p hp => by
  rcases List.mem_cons.mp hp with rfl | hp
  · exact hm
  · exact (List.mem_filter.mp hp).1
theorem but_in {R : Addr} {news : Led} {p : Addr × Obj} (hp : p ∈ news) (hne : p.1 ≠ R) : p ∈ news.filter (fun q => decide (q.1 ≠ R)) := List.mem_filter.mpr ⟨hp, by simpa using hne⟩
theorem mine_set {w : World} {A : Around} {E : Value → Shared → Prop} {s : Shared} {h₀ : Heap} {L R : Addr} {m : PySem.Str → Option Value} {news : Led} {g : Obj → Led} {row : List Value} {n : Nat} {k : Int} {t : Tok} {v : Value} {Q : Unit → Shared → Prop} (F : Fr h₀ L s.heap m) (N : News h₀ L s.heap news)
    (U : UpdF R (listOf row.toArray n) news g) (h0 : 0 ≤ k) (hfit : k < 2 ^ 63) (h1 : k < row.length)
    (h : ∀ h', Fr h₀ L h' m → News h₀ L h' (g (listOf (row.set k.toNat v).toArray n)) → Q () { s with heap := h' }) :
    wpAny (model Challenge.rw_nu0022_01.row.prog w) A (setItem (.ref R) (.int k t) v) Q E s := by
  obtain ⟨pre, post, rfl, hg, a, b⟩ := U.split
  have z := N (R, listOf row.toArray n) (List.mem_append.mpr (.inr (.head _)))
  refine ki_setAt z.1 h0 hfit (by simpa using h1) (h _ (F.change (Heap.SameBut.update ..) z.2.1 z.2.2) ?_)
  rw [hg]
  refine ki_turn (·.setIfInBounds k.toNat v) N a b ?_ ?_
  · apply Array.toList_inj.mp
    simp
  · simp
abbrev RetPut (news' : Led) : RetT := fun h₀ L m s Q => ∀ (h' : Heap) (tk' : Nat), Fr h₀ L h' m → News h₀ L h' news' → Q .none { s with heap := h', toks := tk' }
section
local macro_rules | `(tactic| walk_at "subscriptTail") => `(tactic| (k_here; (with_reducible show wpAny _ _ (subscriptTail _ _ (Value.ref _) (Value.int _ _)) _ _ _); k_dflt (
  refine' mine_item ?tN ?tm ?t0 ?tf ?tx ?_ ?ts; (case tN => k_asm); (case tm => k_mem); (case tx => assumption); (case t0 => omega); (case tf => omega); (case ts => with_unfolding_all rfl); k_whole)))
local macro_rules | `(tactic| walk_at "getItem ref int") => `(tactic| (k_here; (with_reducible show wpAny _ _ (getItem (Value.ref _) (Value.int _ _)) _ _ _); k_dflt (
  refine' wpAny_getItem_list (PySem.IsL.isList (News.get ?tN ?tm)) ?t0 ?tf ?tx ?_; (case tN => k_asm); (case tm => k_mem); (case tx => assumption); (case t0 => omega); (case tf => omega); k_whole)))
local macro_rules | `(tactic| walk_at "setItem ref int") => `(tactic| (k_here; (with_reducible show wpAny _ _ (setItem (Value.ref _) (Value.int _ _) _) _ _ _); k_dflt (
  refine' mine_set ?tF ?tN ?tm ?t0 ?tf ?t1 ?_; (case tF => k_asm); (case tN => k_asm); (case tm => assumption); (case t0 => omega); (case tf => omega); (case t1 => assumption); k_whole; intro h9 F9 N9)))
set_option maxRecDepth 100000 in
set_option maxHeartbeats 1600000 in
theorem put_ok {w : World} {mean : ExcName → Option Value} {mg mb : PySem.Str → Option Value} {C dC CL R : Addr} {W H l t i j : Int} {tx ty t1 t2 t3 t4 t5 u1 u2 u3 u4 : Tok} {rows : Array Value} {row : List Value} {n1 n2 : Nat} {v : Value} {news : Led} {g : Obj → Led} :
    CallOk w mean mg mb 242 [.ref C, .int (l + i) tx, .int (t + j) ty, v] news 2 (fun _ => (C, instObj 278 dC) ∈ news ∧ (dC, canO w W H l t CL t1 t2 t3 t4 t5 u1 u2 u3 u4) ∈ news ∧ (CL, listOf rows n1) ∈ news ∧ UpdF R (listOf row.toArray n2) news g ∧
      rows[j.toNat]? = some (.ref R) ∧ (row.length : Int) = W ∧ 0 ≤ i ∧ i < W ∧ 0 ≤ j ∧ j < H ∧ W < 9 ∧ H < 9) (RetPut (g (listOf (row.set i.toNat v).toArray n2))) := by
  k_with_none
  unfold CallOk
  k_fill
  intro dp un gd cn cs ca ccd cl outer A₀ base h₀ L m s Q E B F X N T hk hd hu hpre hret
  obtain ⟨hC, hdC, hCL, hR, hrow, hlen, i0, i1, j0, j1, W9, H9⟩ := hpre
  have hRm := upd_mem0 hR
  have e1 : l + i - l = i := by omega
  have e2 : t + j - t = j := by omega
  have hk1 : l + i - l < row.length := by omega
  rw [← e2] at hrow
  rw [← e1] at hret
  walk_at "mine_enter"
  k_steps
  all_goals (try k_data)
  all_goals first
    | (exfalso; omega)
    | exact hret _ _ (by assumption) (by assumption)
    | fail "left"
end
theorem unrPost_mono {h₀ : Heap} {L : Addr} {s₁ s₂ : Shared} {I : Addr} {it : Obj} {r r' : (PySem.Str → Option Value) → Led → Prop} {Q : Flow → Shared → Prop} {f : Flow} (hr : ∀ m n, r m n → r' m n) (h : UnrPost h₀ L s₁ I it r Q f s₂) : UnrPost h₀ L s₁ I it r' Q f s₂ := by
  cases f with
  | ret v => exact h
  | brk => exact h
  | next => obtain ⟨h', tk, m', n', e, F, N, o, x⟩ := h; exact ⟨h', tk, m', n', e, F, N, o, hr _ _ x⟩
  | cont => obtain ⟨h', tk, m', n', e, F, N, o, x⟩ := h; exact ⟨h', tk, m', n', e, F, N, o, hr _ _ x⟩
section
variable {prog : Program} {w : World} {A : Around} {E : Value → Shared → Prop} {s : Shared} {env : Env} {h₀ : Heap} {x : PySem.Str} {body : List Stmt} {Q : Flow → Shared → Prop}
theorem rangeRest_inv {n : Nat} {I : Addr} (J : Nat → (PySem.Str → Option Value) → Led → Prop)
    (turn : ∀ i m news it t h tk, i < n → (∀ p ∈ news, p.1 ≠ I) → J i m news → it.cls = .type "range_iterator" → Fr h₀ env.locals h (fun y => if y = x then some (.int (i : Int) t) else m y) → News h₀ env.locals h ((I, it) :: news) →
      wpAny (model prog w) A (execs body env) (UnrPost h₀ env.locals { s with heap := h, toks := tk } I it (fun m' n' => (∀ p ∈ n', p.1 ≠ I) ∧ J (i + 1) m' n') Q) E { s with heap := h, toks := tk })
    (done : ∀ m news h tk, J n m news → Fr h₀ env.locals h m → News h₀ env.locals h news → Q .next { s with heap := h, toks := tk }) :
    ∀ k i m news, i + k = n → (∀ p ∈ news, p.1 ≠ I) → J i m news → RangeRest prog w A E h₀ env x body Q s I 0 n k i m news
  | 0, i, m, news, e, _, hj => fun h tk F N => done m news h tk (by have : i = n := by omega
                                                                    subst this; exact hj) F N
  | k + 1, i, m, news, e, ho, hj => fun t h tk F N => by
    have F' : Fr h₀ env.locals h (fun y => if y = x then some (.int (i : Int) t) else m y) := by rw [Int.zero_add] at F; exact F
    exact wpAny_mono (turn i m news _ t h tk (by omega) ho hj rfl F' N) (fun f s₂ p => unrPost_mono (fun m' n' q => rangeRest_inv J turn done k (i + 1) m' n' (by omega) q.1 q.2) p) fun _ _ e => e
theorem range_inv {r : Addr} {n : Nat} {t₀ u₀ v₀ : Tok} {m₀ : PySem.Str → Option Value} {news : Led} (J : Nat → (PySem.Str → Option Value) → Led → Prop)
    (hh : A.handled = none) (hr : IsRange s.heap r 0 (n : Int) 1 t₀ u₀ v₀) (hn : n ≤ 64) (F : Fr h₀ env.locals s.heap m₀) (N : News h₀ env.locals s.heap news) (hj : J 0 m₀ news)
    (turn : ∀ I i m news it t h tk, i < n → (∀ p ∈ news, p.1 ≠ I) → J i m news → it.cls = .type "range_iterator" → Fr h₀ env.locals h (fun y => if y = x then some (.int (i : Int) t) else m y) → News h₀ env.locals h ((I, it) :: news) →
      wpAny (model prog w) A (execs body env) (UnrPost h₀ env.locals { s with heap := h, toks := tk } I it (fun m' n' => (∀ p ∈ n', p.1 ≠ I) ∧ J (i + 1) m' n') Q) E { s with heap := h, toks := tk })
    (done : ∀ m news h tk, J n m news → Fr h₀ env.locals h m → News h₀ env.locals h news → Q .next { s with heap := h, toks := tk }) :
    wpAny (model prog w) A (pyIter (.ref r)) (fun it s₂ => LoopAtV prog w A h₀ env x body Q E it s₂) E s :=
  iter_rangeUnr hh hr (small_one (by omega) (by omega) (by omega) (by omega)) (by have := rangeSize_nat 0 (n : Int); simpa using this) F N fun I hI =>
    rangeRest_inv J (turn I) done n 0 m₀ news (by omega) (fun p hp e => absurd (hI p hp) (by rw [e]; exact Nat.lt_irrefl _)) hj
end
theorem range_invZ {prog : Program} {w : World} {A : Around} {E : Value → Shared → Prop} {s : Shared} {env : Env} {h₀ : Heap} {x : PySem.Str} {body : List Stmt} {Q : Flow → Shared → Prop} {r : Addr} {n : Nat} {z : Int} {t₀ u₀ v₀ : Tok} {m₀ : PySem.Str → Option Value} {news : Led} (J : Nat → (PySem.Str → Option Value) → Led → Prop)
    (hh : A.handled = none) (hr : IsRange s.heap r 0 z 1 t₀ u₀ v₀) (hz : z = (n : Int)) (hn : n ≤ 64) (F : Fr h₀ env.locals s.heap m₀) (N : News h₀ env.locals s.heap news) (hj : J 0 m₀ news)
    (turn : ∀ I i m news it t h tk, i < n → (∀ p ∈ news, p.1 ≠ I) → J i m news → it.cls = .type "range_iterator" → Fr h₀ env.locals h (fun y => if y = x then some (.int (i : Int) t) else m y) → News h₀ env.locals h ((I, it) :: news) →
      wpAny (model prog w) A (execs body env) (UnrPost h₀ env.locals { s with heap := h, toks := tk } I it (fun m' n' => (∀ p ∈ n', p.1 ≠ I) ∧ J (i + 1) m' n') Q) E { s with heap := h, toks := tk })
    (done : ∀ m news h tk, J n m news → Fr h₀ env.locals h m → News h₀ env.locals h news → Q .next { s with heap := h, toks := tk }) :
    wpAny (model prog w) A (pyIter (.ref r)) (fun it s₂ => LoopAtV prog w A h₀ env x body Q E it s₂) E s := by
  subst hz
  exact range_inv J hh hr hn F N hj turn done
abbrev RetOneInt (g : Obj → Led) : RetT := fun h₀ L m s Q => ∀ (k : Int) (v : Tok) (a' b' : Int) (t u : Tok) (n' : Nat) (h' : Heap) (tk' : Nat), -1000000000 ≤ k → k ≤ 1000000000 → Fr h₀ L h' m → News h₀ L h' (g (srcO a' b' t u n')) → 0 ≤ b' → b' < 2147483647 → Q (.int k v) { s with heap := h', toks := tk' }
theorem oneInt_ok {w : World} {mean : ExcName → Option Value} {mg mb : PySem.Str → Option Value} {S TL : Addr} {a b : Int} {t u : Tok} {n n2 : Nat} {vs : List Value} {news : Led} {g : Obj → Led} :
    CallOk w mean mg mb 373 [.ref S, .ref TL] news 2 (fun _ => UpdF S (srcO a b t u n) news g ∧ (TL, listOf vs.toArray n2) ∈ news ∧ (∀ o, (TL, listOf vs.toArray n2) ∈ g o) ∧ 0 < vs.length ∧ vs.length < 64 ∧ 0 ≤ b ∧ b < 2147483647 ∧ ∀ v ∈ vs, ∃ k t, v = .int k t ∧ -1000000000 ≤ k ∧ k ≤ 1000000000) (RetOneInt g) :=
  fun dp un gd cn cs ca ccd cl outer A₀ base h₀ L m s Q E B F X N T hk hd hu hp hret =>
    one_ok dp un gd cn cs ca ccd cl outer A₀ base h₀ L m s Q E B F X N T hk hd hu ⟨hp.1, hp.2.1, hp.2.2.1, hp.2.2.2.1, hp.2.2.2.2.1, hp.2.2.2.2.2.1, hp.2.2.2.2.2.2.1⟩
      fun v a' b' t' u' n' h' tk' hv F' N' b0 b1 => by
        obtain ⟨k, tk, rfl, k0, k1⟩ := hp.2.2.2.2.2.2.2 v hv
        exact hret k tk a' b' t' u' n' h' tk' k0 k1 F' N' b0 b1
abbrev tup2 (c r : Int) (t u : Tok) : Obj := { cls := .type "tuple", data := .seq #[.int c t, .int r u] }
abbrev KK (w : World) := intKind Challenge.rw_nu0022_01.row.prog w
/-- the dict with pairs of ints as keys: its object, and the ledger where its keys lie -/
def KT (w : World) (o : Obj) (B : Led) (xs : List (List Int × Addr × Value)) : Prop := ∃ es ep, o.ExactDict ∧ o.data = .dict es ep ∧ es.toList = xs.map (entryOfKey (tupleKind (KK w))) ∧ (xs.map (·.1)).Nodup ∧ (∀ x ∈ xs, ∃ ok, (x.2.1, ok) ∈ B ∧ TupKeyObj (KK w) x.1 ok)
theorem KT.mono {w : World} {o : Obj} {B B' : Led} {xs : List (List Int × Addr × Value)} (T : KT w o B xs) (h : ∀ p ∈ B, p ∈ B') : KT w o B' xs := by
  obtain ⟨es, ep, a, b, c, d, e⟩ := T
  exact ⟨es, ep, a, b, c, d, fun x hx => let ⟨ok, hm, t⟩ := e x hx; ⟨ok, h _ hm, t⟩⟩
theorem KT.nil {w : World} {o : Obj} {B : Led} (hd : o.IsDictOf (KK w) []) : KT w o B [] := by
  obtain ⟨es, ep, hc, hdat, _, hp, _⟩ := hd
  exact ⟨es, ep, hc, hdat, List.length_eq_zero_iff.mp hp.length, List.nodup_nil, fun _ hx => nomatch hx⟩
theorem KT.at {w : World} {o : Obj} {B news : Led} {xs : List (List Int × Addr × Value)} {h₀ h : Heap} {L d : Addr} (T : KT w o B xs) (N : News h₀ L h news) (hm : (d, o) ∈ news) (hB : ∀ p ∈ B, p ∈ news) : h.DictOfH (tupleKind (KK w)) d xs := by
  obtain ⟨es, ep, a, b, c, dd, e⟩ := T
  exact ⟨o, es, ep, N.get hm, a, b, c, fun x hx => (let ⟨ok, hk, t⟩ := e x hx; t.key (N.get (hB _ hk))), dd⟩
theorem keyObj {w : World} {c r : Int} {t u : Tok} : TupKeyObj (KK w) [c, r] (tup2 c r t u) :=
  TupKeyObj.made (vs := [.int c t, .int r u]) (.cons (intKind_is _ _ _ _) (.cons (intKind_is _ _ _ _) .nil))
theorem atKey_stored {xs : List (List Int × Addr × Value)} {k : List Int} {a : Addr} {v : Value} : ∃ a', atKey (storedH xs k a v) k = some (a', v) := by
  cases h : atKey xs k with
  | none =>
    rw [storedH_new h]
    refine ⟨a, ?_⟩
    unfold atKey at *
    rw [List.find?_append]
    simp only [Option.map_eq_none_iff] at h
    rw [h]
    simp
  | some p =>
    rw [storedH_old h]
    refine ⟨p.1, ?_⟩
    unfold atKey at *
    rw [List.find?_map]
    have e : ((fun x : List Int × Addr × Value => decide (x.1 = k)) ∘ putAt k v) = fun x => decide (x.1 = k) := by
      funext x
      show decide ((putAt k v x).1 = k) = _
      unfold putAt
      split <;> rfl
    rw [e]
    obtain ⟨x, hx, rfl⟩ := Option.map_eq_some_iff.mp h
    have hk : x.1 = k := by simpa using List.find?_some hx
    rw [hx]
    simp [putAt, hk]
theorem atKey_other {xs : List (List Int × Addr × Value)} {k k' : List Int} {a : Addr} {v : Value} (hne : k' ≠ k) : atKey (storedH xs k a v) k' = atKey xs k' := by
  cases h : atKey xs k with
  | none =>
    rw [storedH_new h]
    unfold atKey
    rw [List.find?_append]
    cases hq : xs.find? (fun x => decide (x.1 = k')) with
    | some p => simp
    | none => simp [Ne.symm hne]
  | some p =>
    rw [storedH_old h]
    unfold atKey
    rw [List.find?_map]
    have e : ((fun x : List Int × Addr × Value => decide (x.1 = k')) ∘ putAt k v) = fun x => decide (x.1 = k') := by
      funext x
      show decide ((putAt k v x).1 = k') = _
      unfold putAt
      split <;> rfl
    rw [e]
    cases hq : xs.find? (fun x => decide (x.1 = k')) with
    | none => rfl
    | some y =>
      have hk : y.1 = k' := by simpa using List.find?_some hq
      have : putAt k v y = y := by
        unfold putAt
        rw [if_neg (by rw [hk]; exact hne)]
      simp [this]
theorem stored_len {xs : List (List Int × Addr × Value)} {k : List Int} {a : Addr} {v : Value} : (storedH xs k a v).length ≤ xs.length + 1 := by
  unfold storedH
  split
  · rw [List.length_map]; omega
  · rw [List.length_append]; simp
section
variable {w : World} {A : Around} {E : Value → Shared → Prop} {s : Shared} {h₀ : Heap} {L d K : Addr} {m : PySem.Str → Option Value} {news B : Led} {o : Obj} {c r : Int} {t u : Tok} {xs : List (List Int × Addr × Value)}
theorem mine_kset {g : Obj → Led} {v : Value} {Q : Unit → Shared → Prop} (F : Fr h₀ L s.heap m) (N : News h₀ L s.heap news) (U : UpdF d o news g) (T : KT w o B xs) (hB : ∀ p ∈ B, p ∈ news) (hK : (K, tup2 c r t u) ∈ news) (hu : A.units + 1 < cLine) (hl : xs.length ≤ 60)
    (h : ∀ h' tk' o' xs', Fr h₀ L h' m → News h₀ L h' (g o') → KT w o' ((K, tup2 c r t u) :: B) xs' → (∃ a', atKey xs' [c, r] = some (a', v)) → (∀ k', k' ≠ [c, r] → atKey xs' k' = atKey xs k') → xs'.length ≤ xs.length + 1 → Q () { s with heap := h', toks := tk' }) :
    wpAny (model Challenge.rw_nu0022_01.row.prog w) A (setItem (.ref d) (.ref K) v) Q E s := by
  have hd := upd_mem0 U
  have hD := T.at N hd hB
  refine wpAny_setItem_heap (hsz := by rw [PySem.sizeLine_eq]; omega) (knd := tupleKind (KK w)) (tupleKind_room_in1 hu) (keyObj.key (N.get hK)) hD fun h' hm' hs => ?_
  obtain ⟨pre, post, rfl, hg, a, b⟩ := U.split
  obtain ⟨o', es', ep', ho', hc', hd', he', _, hn'⟩ := hm'
  refine h h' _ o' (storedH xs [c, r] K v) (F.change hs (N _ hd).2.1 (N.fresh hd)) (by rw [hg]; exact news_set N a b hs ho') ⟨es', ep', hc', hd', he', hn', fun x hx => ?_⟩ atKey_stored (fun k' hk' => atKey_other hk') stored_len
  obtain ⟨_, _, _, _, _, _, e⟩ := T
  rcases mem_storedH hx with ⟨y, hy, e1, e2⟩ | ⟨e1, e2⟩
  · obtain ⟨oky, hmk, tt⟩ := e y hy
    exact ⟨oky, .tail _ (by rw [e2]; exact hmk), by rw [e1]; exact tt⟩
  · exact ⟨_, (by rw [e2]; exact .head _), by rw [e1]; exact keyObj⟩
theorem mine_kget {p : Addr × Value} {Q : Value → Shared → Prop} (N : News h₀ L s.heap news) (hd : (d, o) ∈ news) (T : KT w o B xs) (hB : ∀ p ∈ B, p ∈ news) (hK : (K, tup2 c r t u) ∈ news) (hu : A.units + 1 < cLine) (hp : atKey xs [c, r] = some p)
    (h : ∀ tk', Q p.2 { s with toks := tk' }) : wpAny (model Challenge.rw_nu0022_01.row.prog w) A (getItem (.ref d) (.ref K)) Q E s :=
  wpAny_getItem_heap (knd := tupleKind (KK w)) (tupleKind_room_in1 hu) (keyObj.key (N.get hK)) (T.at N hd hB) hp (h _)
theorem mine_ksub {value slice : PySem.Expr} {p : Addr × Value} {Q : Value → Shared → Prop} (N : News h₀ L s.heap news) (hd : (d, o) ∈ news) (T : KT w o B xs) (hB : ∀ p ∈ B, p ∈ news) (hK : (K, tup2 c r t u) ∈ news) (hu : A.units + 1 < cLine) (hp : atKey xs [c, r] = some p)
    (h : ∀ tk', Q p.2 { s with toks := tk' }) (hs : subscripted slice false (.ref d) (.ref K) = operate [.ref d, .ref K] (getItem (.ref d) (.ref K)) := by with_unfolding_all rfl) (hg : ∀ r, letTemporaryGo value (.ref d) r = pure () := by intro _; with_unfolding_all rfl) :
    wpAny (model Challenge.rw_nu0022_01.row.prog w) A (subscriptTail value slice (.ref d) (.ref K)) Q E s :=
  subscriptTail_builtin (T.at N hd hB).typeIs slot_dict_getitem.lookup (mine_kget N hd T hB hK hu hp h) hs hg
end
theorem ints3 {a b c : Int} {t u v : Tok} (ha : -1000000000 ≤ a ∧ a ≤ 1000000000) (hb : -1000000000 ≤ b ∧ b ≤ 1000000000) (hc : -1000000000 ≤ c ∧ c ≤ 1000000000) : ∀ x ∈ [Value.int a t, .int b u, .int c v], ∃ k t, x = .int k t ∧ -1000000000 ≤ k ∧ k ≤ 1000000000 := by
  intro x hx
  simp only [List.mem_cons, List.not_mem_nil, or_false] at hx
  rcases hx with rfl | rfl | rfl
  · exact ⟨_, _, rfl, ha⟩
  · exact ⟨_, _, rfl, hb⟩
  · exact ⟨_, _, rfl, hc⟩
abbrev RetCanvasI (w : World) (news : Led) (W H l t : Int) : RetT := fun h₀ L m s Q => ∀ Wn Hn : Nat, W = (Wn : Int) → H = (Hn : Int) → RetCanvas w news Wn Hn l t h₀ L m s Q
theorem canvasI_ok {w : World} {mean : ExcName → Option Value} {mg mb : PySem.Str → Option Value} {W H l t : Int} {tw th tl tt : Tok} {news : Led} :
    CallOk w mean mg mb 278 [.int W tw, .int H th, .int l tl, .int t tt] news 4 (fun _ => 0 < W ∧ W < 9 ∧ (H = 2 ∨ H = 3)) (RetCanvasI w news W H l t) :=
  fun dp un gd cn cs ca ccd cl outer A₀ base h₀ L m s Q E B F X N T hk hd hu hp hret => by
    obtain ⟨p1, p2, p3⟩ := hp
    obtain ⟨Wn, rfl⟩ := Int.eq_ofNat_of_zero_le (Int.le_of_lt p1)
    obtain ⟨Hn, rfl⟩ := Int.eq_ofNat_of_zero_le (show 0 ≤ H by omega)
    exact canvas_ok dp un gd cn cs ca ccd cl outer A₀ base h₀ L m s Q E B F X N T hk hd hu ⟨by omega, by omega, by omega⟩ (hret Wn Hn rfl rfl)
local macro_rules | `(tactic| k_all) => `(tactic| assumption)
local macro_rules | `(tactic| walk_at "mine_call") => `(tactic| (
  apply oneInt_ok; walk_at "mine_args"; (case kp => (refine ⟨?_, ?_, ?_, ?_, ?_, ?_, ?_, ?_⟩; (k_updF); (k_mem); ((intro o; k_mem)); (exact Nat.le_of_ble_eq_true rfl); (exact Nat.le_of_ble_eq_true rfl); (first | assumption | omega); (first | assumption | omega); (exact ints3 (by decide) (by decide) (by decide)))); (intro k9 v9 a9 b9 t9 u9 n9 h9 tk9 k0 k1 F9 N9 b0 b1; (try dsimp only at N9); (try dsimp only); (try k_fold))))
local macro_rules | `(tactic| walk_at "mine_call") => `(tactic| (
  apply canvasI_ok; walk_at "mine_args"; (case kp => (refine ⟨?_, ?_, ?_⟩; omega; omega; omega));
  (intro W9 H9 eW9 eH9 C9 dC9 CL9 rs9 n9 t91 t92 t93 t94 t95 u91 u92 u93 u94 all9 h9 tk9 F9 N9 hC9 hdC9 hCL9 hlen9 hrs9 hnd9 hcl9 hsub9 hoff9; (try dsimp only); (try k_fold))))
local macro_rules | `(tactic| k_ne) => `(tactic| (refine neN ?_; (try dsimp only); first | assumption | exact Ne.symm (by assumption) | fail "ne"))
abbrev tup4 (c0 c1 c2 c3 : Int) (k0 k1 k2 k3 : Tok) : Obj := { cls := .type "tuple", data := .seq #[.int c0 k0, .int c1 k1, .int c2 k2, .int c3 k3] }
def CellOk (B : Led) (row : List Value) (xs : List (List Int × Addr × Value)) (i j : Nat) : Prop := ∃ (T K : Addr) (c0 c1 c2 c3 : Int) (k0 k1 k2 k3 : Tok), row[i]? = some (.ref T) ∧ (T, tup4 c0 c1 c2 c3 k0 k1 k2 k3) ∈ B ∧ atKey xs [(i : Int), (j : Int)] = some (K, .ref T)
def RowOk (B : Led) (W : Nat) (rs : List Addr) (xs : List (List Int × Addr × Value)) (j full : Nat) : Prop := ∃ (R : Addr) (row : List Value) (n : Nat), rs[j]? = some R ∧ (R, listOf row.toArray n) ∈ B ∧ row.length = W ∧ ∀ i < full, CellOk B row xs i j
structure CanC where
  (W H : Nat) (l t : Int) (S C dC CL KN : Addr) (rs : List Addr) (n1 : Nat) (t1 t2 t3 t4 t5 u1 u2 u3 u4 : Tok) (base : Led)
structure CanC.Ok (c : CanC) : Prop where
  W1 : 0 < c.W
  W9 : c.W < 9
  H1 : 0 < c.H
  H9 : c.H < 9
  WH : c.W * c.H < 50
  len : c.rs.length = c.H
  nd : c.rs.Nodup
  S_rs : c.S ∉ c.rs
  S_KN : @Ne Nat c.S c.KN
  KN_rs : c.KN ∉ c.rs
  CL_rs : c.CL ∉ c.rs
  b_rs : ∀ p ∈ c.base, p.1 ∉ c.rs
structure CanC.In (c : CanC) (w : World) (B : Led) : Prop where
  hC : (c.C, instObj 278 c.dC) ∈ B
  hdC : (c.dC, canO w (c.W : Int) (c.H : Int) c.l c.t c.CL c.t1 c.t2 c.t3 c.t4 c.t5 c.u1 c.u2 c.u3 c.u4) ∈ B
  hCL : (c.CL, listOf (c.rs.map Value.ref).toArray c.n1) ∈ B
  sub : ∀ p ∈ c.base, p ∈ B
theorem CanC.In.mono {c : CanC} {w : World} {B B' : Led} (h : c.In w B) (hs : ∀ p ∈ B, p ∈ B') : c.In w B' := ⟨hs _ h.hC, hs _ h.hdC, hs _ h.hCL, fun p hp => hs p (h.sub p hp)⟩
def JO (w : World) (c : CanC) (m₀ : PySem.Str → Option Value) (r : Nat) (m : PySem.Str → Option Value) (news : Led) : Prop :=
  (∃ u v : Option Value, m = fun y => if y = Str.ofString "column" then u else if y = Str.ofString "row" then v else m₀ y) ∧
  ∃ (a b : Int) (t u : Tok) (n : Nat) (okn : Obj) (xs : List (List Int × Addr × Value)) (B : Led), news = (c.S, srcO a b t u n) :: (c.KN, okn) :: B ∧ 0 ≤ b ∧ b < 2147483647 ∧ (∀ p ∈ B, p.1 ≠ c.S) ∧ (∀ p ∈ B, p.1 ≠ c.KN) ∧
    KT w okn B xs ∧ xs.length ≤ r * c.W ∧ c.In w B ∧ ∀ j < c.H, RowOk B c.W c.rs xs j (if j < r then c.W else 0)
def JI (w : World) (c : CanC) (r : Nat) (R I : Addr) (it : Obj) (m₀ : PySem.Str → Option Value) (k : Nat) (m : PySem.Str → Option Value) (news : Led) : Prop :=
  (∃ u : Option Value, m = fun y => if y = Str.ofString "column" then u else m₀ y) ∧
  ∃ (a b : Int) (t u : Tok) (n : Nat) (okn : Obj) (xs : List (List Int × Addr × Value)) (row : List Value) (nr : Nat) (B : Led), news = (c.S, srcO a b t u n) :: (c.KN, okn) :: (R, listOf row.toArray nr) :: (I, it) :: B ∧ 0 ≤ b ∧ b < 2147483647 ∧
    (∀ p ∈ B, p.1 ≠ c.S) ∧ (∀ p ∈ B, p.1 ≠ c.KN) ∧ (∀ p ∈ B, p.1 ≠ R) ∧ (∀ p ∈ B, p.1 ≠ I) ∧
    KT w okn B xs ∧ xs.length ≤ r * c.W + k ∧ row.length = c.W ∧ c.In w B ∧ (∀ i < k, CellOk B row xs i r) ∧ ∀ j < c.H, j ≠ r → RowOk B c.W c.rs xs j (if j < r then c.W else 0)
theorem CellOk.mono {B B' : Led} {row row' : List Value} {xs xs' : List (List Int × Addr × Value)} {i j : Nat} (h : CellOk B row xs i j) (hs : ∀ p ∈ B, p ∈ B') (hr : row'[i]? = row[i]?) (hx : atKey xs' [(i : Int), (j : Int)] = atKey xs [(i : Int), (j : Int)]) : CellOk B' row' xs' i j := by
  obtain ⟨T, K, c0, c1, c2, c3, k0, k1, k2, k3, a, b, c⟩ := h
  exact ⟨T, K, c0, c1, c2, c3, k0, k1, k2, k3, hr.trans a, hs _ b, hx.trans c⟩
theorem JO.start {w : World} {c : CanC} {m₀ : PySem.Str → Option Value} {a b : Int} {t u : Tok} {n : Nat} {okn : Obj} {B : Led} (hb0 : 0 ≤ b) (hb1 : b < 2147483647) (h1 : ∀ p ∈ B, p.1 ≠ c.S) (h2 : ∀ p ∈ B, p.1 ≠ c.KN) (hd : okn.IsDictOf (KK w) []) (hi : c.In w B)
    (ok : c.Ok) (hr : ∀ r ∈ c.rs, ∃ n, (r, listOf (List.replicate c.W (Value.ref 208)).toArray n) ∈ B) : JO w c m₀ 0 m₀ ((c.S, srcO a b t u n) :: (c.KN, okn) :: B) := by
  refine ⟨⟨m₀ (Str.ofString "column"), m₀ (Str.ofString "row"), ?_⟩, a, b, t, u, n, okn, [], B, rfl, hb0, hb1, h1, h2, KT.nil hd, by simp, hi, fun j hj => ?_⟩
  · funext y
    split
    · rename_i e; rw [e]
    · split
      · rename_i e; rw [e]
      · rfl
  · have hj' : j < c.rs.length := by rw [ok.len]; exact hj
    obtain ⟨n, hn⟩ := hr _ (List.getElem_mem hj')
    refine ⟨c.rs[j], _, n, List.getElem?_eq_getElem hj', hn, List.length_replicate, fun i hi => ?_⟩
    simp at hi
theorem cls_ne {h₀ h : Heap} {L : Addr} {news : Led} (N : News h₀ L h news) {p q : Addr × Obj} (hp : p ∈ news) (hq : q ∈ news) (hc : p.2.cls ≠ q.2.cls) : p.1 ≠ q.1 := N.ne_of_cls hp hq hc
theorem tuple_ne_list : Value.type "tuple" ≠ Value.type "list" := by intro e; injection e with e; exact absurd e (by decide)
theorem JO.toI {w : World} {c : CanC} {r : Nat} {I : Addr} {it : Obj} {mr : PySem.Str → Option Value} {a b : Int} {t u : Tok} {n : Nat} {okn : Obj} {xs : List (List Int × Addr × Value)} {B : Led} {h₀ h g : Heap} {L L' : Addr} (ok : c.Ok) (hrH : r < c.H) (hF : Fr g L' h mr)
    (N : News h₀ L h ((I, it) :: (c.S, srcO a b t u n) :: (c.KN, okn) :: B)) (hI : ∀ p ∈ B, p.1 ≠ I) (hb0 : 0 ≤ b) (hb1 : b < 2147483647) (h1 : ∀ p ∈ B, p.1 ≠ c.S) (h2 : ∀ p ∈ B, p.1 ≠ c.KN) (hT : KT w okn B xs) (hx : xs.length ≤ r * c.W) (hi : c.In w B)
    (hr : ∀ j < c.H, RowOk B c.W c.rs xs j (if j < r then c.W else 0)) :
    ∃ (R : Addr) (row : List Value) (nr : Nat) (B' : Led), c.rs[r]? = some R ∧ R ∈ c.rs ∧ @Ne Nat R I ∧ @Ne Nat R c.S ∧ @Ne Nat R c.KN ∧ News h₀ L h ((c.S, srcO a b t u n) :: (c.KN, okn) :: (R, listOf row.toArray nr) :: (I, it) :: B') ∧ JI w c r R I it mr 0 mr ((c.S, srcO a b t u n) :: (c.KN, okn) :: (R, listOf row.toArray nr) :: (I, it) :: B') := by
  obtain ⟨R, row, nr, e1, hR, hlen, _⟩ := hr r hrH
  have hRm : R ∈ c.rs := List.mem_of_getElem? e1
  have hRB : ∀ p ∈ B, p.1 ≠ R → p ∈ B.filter (fun q => decide (q.1 ≠ R)) := fun p hp hne => but_in hp hne
  have hBs : ∀ p ∈ B.filter (fun q => decide (q.1 ≠ R)), p ∈ B := fun p hp => (List.mem_filter.mp hp).1
  have hin : ∀ p ∈ B, p ∈ ((I, it) :: (c.S, srcO a b t u n) :: (c.KN, okn) :: B : Led) := fun p hp => .tail _ (.tail _ (.tail _ hp))
  have tupR : ∀ (T : Addr) (o : Obj), (T, o) ∈ B → o.cls = .type "tuple" → T ≠ R := fun T o hm hc => cls_ne N (hin _ hm) (hin _ hR) (by rw [hc]; exact tuple_ne_list)
  refine ⟨R, row, nr, B.filter (fun q => decide (q.1 ≠ R)), e1, hRm, hI _ hR, fun e => ok.S_rs (e ▸ hRm), fun e => ok.KN_rs (e ▸ hRm), ?_, ⟨mr (Str.ofString "column"), ?_⟩, a, b, t, u, n, okn, xs, row, nr, _, rfl, hb0, hb1, fun p hp => h1 p (hBs p hp), fun p hp => h2 p (hBs p hp), but_ne, fun p hp => hI p (hBs p hp), ?_, by omega, hlen, ?_, fun i hi => absurd hi (Nat.not_lt_zero _), fun j hj hne => ?_⟩
  · refine news_sub N fun p hp => ?_
    simp only [List.mem_cons] at hp ⊢
    rcases hp with h | h | h | h | h
    · exact .inr (.inl h)
    · exact .inr (.inr (.inl h))
    · exact .inr (.inr (.inr (h ▸ hR)))
    · exact .inl h
    · exact .inr (.inr (.inr (hBs p h)))
  · funext y
    split
    · rename_i e; rw [e]
    · rfl
  · obtain ⟨es, ep, q1, q2, q3, q4, q5⟩ := hT
    refine ⟨es, ep, q1, q2, q3, q4, fun x hx => ?_⟩
    obtain ⟨o, hm, tt⟩ := q5 x hx
    exact ⟨o, hRB _ hm (tupR _ _ hm tt.1), tt⟩
  · have instR : c.C ≠ R := cls_ne N (hin _ hi.hC) (hin _ hR) (by intro e; cases e)
    have dictR : c.dC ≠ R := cls_ne N (hin _ hi.hdC) (hin _ hR) (by intro e; injection e with e; exact absurd e (by decide))
    exact ⟨hRB _ hi.hC instR, hRB _ hi.hdC dictR, hRB _ hi.hCL (fun e => ok.CL_rs (by have e' : c.CL = R := e; rw [e']; exact hRm)), fun p hp => hRB _ (hi.sub p hp) (fun e => ok.b_rs p hp (e ▸ hRm))⟩
  · obtain ⟨R', row', n', f1, f2, f3, f4⟩ := hr j hj
    have hne' : R' ≠ R := fun e => hne ((List.getElem?_inj (List.getElem?_eq_some_iff.mp f1).1 ok.nd).mp (by rw [f1, e1, e]))
    refine ⟨R', row', n', f1, hRB _ f2 hne', f3, fun i hi' => ?_⟩
    obtain ⟨T, K, c0, c1, c2, c3, k0, k1, k2, k3, g1, g2, g3⟩ := f4 i hi'
    exact ⟨T, K, c0, c1, c2, c3, k0, k1, k2, k3, g1, hRB _ g2 (tupR _ _ g2 rfl), g3⟩
theorem JI.back {w : World} {c : CanC} {r : Nat} {R I : Addr} {it : Obj} {m₀ mr m : PySem.Str → Option Value} {news : Led} {x : Value} (hm : ∃ u v : Option Value, mr = fun y => if y = Str.ofString "row" then some x else if y = Str.ofString "column" then u else if y = Str.ofString "row" then v else m₀ y) (hR : c.rs[r]? = some R) (hRS : R ≠ c.S) (hRK : R ≠ c.KN) (hRI : R ≠ I)
    (hSI : c.S ≠ I) (hKI : c.KN ≠ I) (h : JI w c r R I it mr c.W m news) : ∃ news', (∀ p ∈ news', p.1 ≠ I) ∧ (∀ p ∈ (I, it) :: news', p ∈ news) ∧ JO w c m₀ (r + 1) m news' := by
  obtain ⟨⟨u, hu⟩, a, b, t, u', n, okn, xs, row, nr, B, rfl, hb0, hb1, h1, h2, h3, h4, hT, hx, hlen, hi, hc, hr⟩ := h
  obtain ⟨u1, v1, rfl⟩ := hm
  refine ⟨(c.S, srcO a b t u' n) :: (c.KN, okn) :: (R, listOf row.toArray nr) :: B, ?_, ?_, ⟨u, some x, ?_⟩, a, b, t, u', n, okn, xs, _, rfl, hb0, hb1, ?_, ?_, hT.mono (fun p hp => .tail _ hp), ?_, hi.mono (fun p hp => .tail _ hp), fun j hj => ?_⟩
  · intro p hp
    simp only [List.mem_cons] at hp
    rcases hp with rfl | rfl | rfl | hp
    · exact hSI
    · exact hKI
    · exact hRI
    · exact h4 p hp
  · intro p hp
    simp only [List.mem_cons] at hp ⊢
    rcases hp with h | h | h | h | h
    · exact .inr (.inr (.inr (.inl h)))
    · exact .inl h
    · exact .inr (.inl h)
    · exact .inr (.inr (.inl h))
    · exact .inr (.inr (.inr (.inr h)))
  · rw [hu]
    funext y
    dsimp only
    by_cases e1 : y = Str.ofString "column"
    · simp only [if_pos e1]
    · simp only [if_neg e1]
      by_cases e2 : y = Str.ofString "row"
      · simp only [if_pos e2]
      · simp only [if_neg e2]
  · intro p hp
    rcases List.mem_cons.mp hp with rfl | hp
    · exact hRS
    · exact h1 p hp
  · intro p hp
    rcases List.mem_cons.mp hp with rfl | hp
    · exact hRK
    · exact h2 p hp
  · rw [Nat.succ_mul]; exact hx
  · by_cases e : j = r
    · subst e
      refine ⟨R, row, nr, hR, .head _, hlen, fun i hi' => (hc i ?_).mono (fun p hp => .tail _ hp) rfl rfl⟩
      split at hi' <;> omega
    · obtain ⟨R', row', n', f1, f2, f3, f4⟩ := hr j hj e
      refine ⟨R', row', n', f1, .tail _ f2, f3, fun i hi' => (f4 i ?_).mono (fun p hp => .tail _ hp) rfl rfl⟩
      have : (j < r + 1) = (j < r) := by
        apply propext; omega
      simpa [this] using hi'
theorem JI.step {w : World} {c : CanC} {r k : Nat} {R I K K2 T : Addr} {it okn : Obj} {m₀ : PySem.Str → Option Value} {u : Option Value} {a b : Int} {t t' : Tok} {n : Nat} {xs xs' : List (List Int × Addr × Value)} {row : List Value} {nr : Nat} {B : Led} {v : Value} {ok2 ok3 : Obj} {c0 c1 c2 c3 : Int} {k0 k1 k2 k3 : Tok} (ok : c.Ok) (hk : k < c.W)
    (hb0 : 0 ≤ b) (hb1 : b < 2147483647) (h1 : ∀ p ∈ B, p.1 ≠ c.S) (h2 : ∀ p ∈ B, p.1 ≠ c.KN) (h3 : ∀ p ∈ B, p.1 ≠ R) (h4 : ∀ p ∈ B, p.1 ≠ I) (hT : KT w okn ((K, ok3) :: B) xs') (hx : xs.length ≤ r * c.W + k) (hx' : xs'.length ≤ xs.length + 1) (hlen : row.length = c.W)
    (hi : c.In w B) (hc : ∀ i < k, CellOk B row xs i r) (hr : ∀ j < c.H, j ≠ r → RowOk B c.W c.rs xs j (if j < r then c.W else 0)) (hat : ∃ a', atKey xs' [(k : Int), (r : Int)] = some (a', .ref T)) (hoth : ∀ k', k' ≠ [(k : Int), (r : Int)] → atKey xs' k' = atKey xs k')
    (lt : (@Ne Nat K c.S ∧ @Ne Nat K c.KN ∧ @Ne Nat K R ∧ @Ne Nat K I) ∧ (@Ne Nat K2 c.S ∧ @Ne Nat K2 c.KN ∧ @Ne Nat K2 R ∧ @Ne Nat K2 I) ∧ (@Ne Nat T c.S ∧ @Ne Nat T c.KN ∧ @Ne Nat T R ∧ @Ne Nat T I)) :
    JI w c r R I it m₀ (k + 1) (fun y => if y = Str.ofString "column" then some v else if y = Str.ofString "column" then u else m₀ y) ((c.S, srcO a b t t' n) :: (c.KN, okn) :: (R, listOf (row.set k (.ref T)).toArray nr) :: (I, it) :: (K2, ok2) :: (K, ok3) :: (T, tup4 c0 c1 c2 c3 k0 k1 k2 k3) :: B) := by
  obtain ⟨⟨a1, a2, a3, a4⟩, ⟨b1, b2, b3, b4⟩, ⟨d1, d2, d3, d4⟩⟩ := lt
  have off : ∀ (X : Addr), K2 ≠ X → K ≠ X → T ≠ X → (∀ p ∈ B, p.1 ≠ X) → ∀ p ∈ ((K2, ok2) :: (K, ok3) :: (T, tup4 c0 c1 c2 c3 k0 k1 k2 k3) :: B : Led), p.1 ≠ X := by
    intro X e1 e2 e3 e4 p hp
    simp only [List.mem_cons] at hp
    rcases hp with rfl | rfl | rfl | hp
    · exact e1
    · exact e2
    · exact e3
    · exact e4 p hp
  have sub : ∀ p ∈ B, p ∈ ((K2, ok2) :: (K, ok3) :: (T, tup4 c0 c1 c2 c3 k0 k1 k2 k3) :: B : Led) := fun p hp => .tail _ (.tail _ (.tail _ hp))
  refine ⟨⟨some v, ?_⟩, a, b, t, t', n, okn, xs', _, nr, _, rfl, hb0, hb1, off _ b1 a1 d1 h1, off _ b2 a2 d2 h2, off _ b3 a3 d3 h3, off _ b4 a4 d4 h4, hT.mono ?_, by omega, by rw [List.length_set]; exact hlen, hi.mono sub, fun i hi' => ?_, fun j hj hne => ?_⟩
  · funext y
    by_cases e : y = Str.ofString "column"
    · rw [if_pos e, if_pos e]
    · rw [if_neg e, if_neg e, if_neg e]
  · intro p hp
    rcases List.mem_cons.mp hp with rfl | hp
    · exact .tail _ (.head _)
    · exact sub p hp
  · by_cases e : i = k
    · subst e
      obtain ⟨a', ha'⟩ := hat
      exact ⟨T, a', c0, c1, c2, c3, k0, k1, k2, k3, by rw [List.getElem?_set_self (by omega)], .tail _ (.tail _ (.head _)), ha'⟩
    · refine (hc i (by omega)).mono sub (List.getElem?_set_ne (by omega)) (hoth _ fun e' => e ?_)
      injection e' with e1 _
      omega
  · obtain ⟨R', row', n', f1, f2, f3, f4⟩ := hr j hj hne
    refine ⟨R', row', n', f1, sub _ f2, f3, fun i hi' => (f4 i hi').mono sub rfl (hoth _ fun e' => hne ?_)⟩
    injection e' with _ e2
    injection e2 with e3 _
    omega
theorem inner_end {h₀ h' : Heap} {L I2 : Addr} {s₁ : Shared} {it2 : Obj} {tk : Nat} {w : World} {c : CanC} {r k : Nat} {R I K K2 T : Addr} {it okn : Obj} {m₀ : PySem.Str → Option Value} {u : Option Value} {a b : Int} {t t' : Tok} {n : Nat} {xs xs' : List (List Int × Addr × Value)} {row : List Value} {nr : Nat} {B : Led} {v : Value} {ok2 ok3 : Obj} {c0 c1 c2 c3 : Int} {k0 k1 k2 k3 : Tok}
    (F : Fr h₀ L h' (fun y => if y = Str.ofString "column" then some v else if y = Str.ofString "column" then u else m₀ y))
    (N : News h₀ L h' ((K2, ok2) :: (K, ok3) :: (T, tup4 c0 c1 c2 c3 k0 k1 k2 k3) :: (I2, it2) :: (c.S, srcO a b t t' n) :: (c.KN, okn) :: (R, listOf (row.set ((k : Nat) : Int).toNat (.ref T)).toArray nr) :: (I, it) :: B))
    (ok : c.Ok) (hk : k < c.W) (hb0 : 0 ≤ b) (hb1 : b < 2147483647) (h1 : ∀ p ∈ B, p.1 ≠ c.S) (h2 : ∀ p ∈ B, p.1 ≠ c.KN) (h3 : ∀ p ∈ B, p.1 ≠ R) (h4 : ∀ p ∈ B, p.1 ≠ I) (h5 : ∀ p ∈ B, p.1 ≠ I2) (hT : KT w okn ((K, ok3) :: B) xs') (hx : xs.length ≤ r * c.W + k) (hx' : xs'.length ≤ xs.length + 1) (hlen : row.length = c.W)
    (hi : c.In w B) (hc : ∀ i < k, CellOk B row xs i r) (hr : ∀ j < c.H, j ≠ r → RowOk B c.W c.rs xs j (if j < r then c.W else 0)) (hat : ∃ a', atKey xs' [(k : Int), (r : Int)] = some (a', .ref T)) (hoth : ∀ k', k' ≠ [(k : Int), (r : Int)] → atKey xs' k' = atKey xs k')
    (lt : (@Ne Nat K c.S ∧ @Ne Nat K c.KN ∧ @Ne Nat K R ∧ @Ne Nat K I) ∧ (@Ne Nat K2 c.S ∧ @Ne Nat K2 c.KN ∧ @Ne Nat K2 R ∧ @Ne Nat K2 I) ∧ (@Ne Nat T c.S ∧ @Ne Nat T c.KN ∧ @Ne Nat T R ∧ @Ne Nat T I))
    (lt2 : @Ne Nat c.S I2 ∧ @Ne Nat c.KN I2 ∧ @Ne Nat R I2 ∧ @Ne Nat I I2 ∧ @Ne Nat K I2 ∧ @Ne Nat K2 I2 ∧ @Ne Nat T I2) :
    UnrEnd h₀ L s₁ I2 it2 (fun m' n' => (∀ p ∈ n', p.1 ≠ I2) ∧ JI w c r R I it m₀ (k + 1) m' n') { s₁ with heap := h', toks := tk } := by
  obtain ⟨g1, g2, g3, g4, g5, g6, g7⟩ := lt2
  have off : ∀ p ∈ ((c.S, srcO a b t t' n) :: (c.KN, okn) :: (R, listOf (row.set k (.ref T)).toArray nr) :: (I, it) :: (K2, ok2) :: (K, ok3) :: (T, tup4 c0 c1 c2 c3 k0 k1 k2 k3) :: B : Led), p.1 ≠ I2 := by
    intro p hp
    simp only [List.mem_cons] at hp
    rcases hp with rfl | rfl | rfl | rfl | rfl | rfl | rfl | hp
    · exact g1
    · exact g2
    · exact g3
    · exact g4
    · exact g6
    · exact g5
    · exact g7
    · exact h5 p hp
  refine UnrEnd.intro F N _ ?_ off ⟨off, JI.step ok hk hb0 hb1 h1 h2 h3 h4 hT hx hx' hlen hi hc hr hat hoth lt⟩
  intro p hp
  simp only [List.mem_cons] at hp ⊢
  rcases hp with h | h | h | h | h | h | h | h | h
  · exact .inr (.inr (.inr (.inl h)))
  · exact .inr (.inr (.inr (.inr (.inl h))))
  · exact .inr (.inr (.inr (.inr (.inr (.inl h)))))
  · exact .inr (.inr (.inr (.inr (.inr (.inr (.inl h))))))
  · exact .inr (.inr (.inr (.inr (.inr (.inr (.inr (.inl h)))))))
  · exact .inl h
  · exact .inr (.inl h)
  · exact .inr (.inr (.inl h))
  · exact .inr (.inr (.inr (.inr (.inr (.inr (.inr (.inr h)))))))
def Stop (P : Prop) : Prop := P
theorem Stop.of {P : Prop} (h : Stop P) : P := h
theorem can_loop {w : World} {A : Around} {E : Value → Shared → Prop} {s : Shared} {env : Env} {h₀ : Heap} {x : PySem.Str} {body : List Stmt} {Q : Flow → Shared → Prop} {W H : Nat} {l t z : Int} {S C dC CL KN X r : Addr} {rs : List Addr} {n1 n : Nat} {t1 t2 t3 t4 t5 u1 u2 u3 u4 t₀ u₀ v₀ ta ub : Tok} {base all news9 : Led} {a b : Int} {okn ox : Obj} {m₀ : PySem.Str → Option Value}
    (hh : A.handled = none) (hr : IsRange s.heap r 0 z 1 t₀ u₀ v₀) (hz : z = (H : Int)) (F : Fr h₀ env.locals s.heap m₀) (N : News h₀ env.locals s.heap ((X, ox) :: (KN, okn) :: all))
    (hC : (C, instObj 278 dC) ∈ all) (hdC : (dC, canO w (W : Int) (H : Int) l t CL t1 t2 t3 t4 t5 u1 u2 u3 u4) ∈ all) (hCL : (CL, listOf (rs.map Value.ref).toArray n1) ∈ all) (hlen : rs.length = H) (hrs : ∀ r ∈ rs, ∃ n, (r, listOf (List.replicate W (Value.ref 208)).toArray n) ∈ all) (hnd : rs.Nodup) (hcl : CL ∉ rs)
    (hsub : ∀ p ∈ news9, p ∈ all) (hoff : ∀ p ∈ news9, p.1 ≠ C ∧ p.1 ≠ dC ∧ p.1 ≠ CL ∧ p.1 ∉ rs) (hS9 : (S, srcO a b ta ub n) ∈ news9) (hb9 : ∀ p ∈ base, p ∈ news9) (hSb : ∀ p ∈ base, p.1 ≠ S) (hKN : ∀ p ∈ all, p.1 < KN) (hd : okn.IsDictOf (KK w) []) (hb0 : 0 ≤ b) (hb1 : b < 2147483647)
    (hW : 0 < W ∧ W < 5) (hH : 0 < H ∧ H < 4)
    (turn : ∀ c : CanC, c = ⟨W, H, l, t, S, C, dC, CL, KN, rs, n1, t1, t2, t3, t4, t5, u1, u2, u3, u4, base⟩ → c.Ok → ∀ I i m news it t h tk, i < c.H → (∀ p ∈ news, p.1 ≠ I) → JO w c m₀ i m news → it.cls = .type "range_iterator" → Fr h₀ env.locals h (fun y => if y = x then some (.int (i : Int) t) else m y) → News h₀ env.locals h ((I, it) :: news) →
      wpAny (model Challenge.rw_nu0022_01.row.prog w) A (execs body env) (UnrPost h₀ env.locals { s with heap := h, toks := tk } I it (fun m' n' => (∀ p ∈ n', p.1 ≠ I) ∧ JO w c m₀ (i + 1) m' n') Q) E { s with heap := h, toks := tk })
    (done : ∀ c : CanC, c = ⟨W, H, l, t, S, C, dC, CL, KN, rs, n1, t1, t2, t3, t4, t5, u1, u2, u3, u4, base⟩ → c.Ok → ∀ m news h tk, JO w c m₀ c.H m news → Fr h₀ env.locals h m → News h₀ env.locals h news → Q .next { s with heap := h, toks := tk }) :
    wpAny (model Challenge.rw_nu0022_01.row.prog w) A (pyIter (.ref r)) (fun it s₂ => LoopAtV Challenge.rw_nu0022_01.row.prog w A h₀ env x body Q E it s₂) E s := by
  subst hz
  have hSo := hoff _ hS9
  have hSa := hsub _ hS9
  have hall : ∀ p ∈ base, p ∈ all := fun p hp => hsub p (hb9 p hp)
  have bin : ∀ p ∈ all, p.1 ≠ S → p ∈ all.filter (fun q => decide (q.1 ≠ S)) := fun p hp hne => but_in hp hne
  have bout : ∀ p ∈ all.filter (fun q => decide (q.1 ≠ S)), p ∈ all := fun p hp => (List.mem_filter.mp hp).1
  have hne : ∀ p ∈ all, p.1 ≠ KN := fun p hp e => absurd (hKN p hp) (by rw [e]; exact Nat.lt_irrefl _)
  have N' : News h₀ env.locals s.heap ((S, srcO a b ta ub n) :: (KN, okn) :: all.filter (fun q => decide (q.1 ≠ S))) := news_sub N fun p hp => by
    simp only [List.mem_cons] at hp ⊢
    rcases hp with h | h | h
    · exact .inr (.inr (h ▸ hSa))
    · exact .inr (.inl h)
    · exact .inr (.inr (bout p h))
  have KNrs : KN ∉ rs := fun hm => by
    obtain ⟨n', hn'⟩ := hrs _ hm
    exact hne _ hn' rfl
  have ok : CanC.Ok ⟨W, H, l, t, S, C, dC, CL, KN, rs, n1, t1, t2, t3, t4, t5, u1, u2, u3, u4, base⟩ := ⟨hW.1, by show W < 9; omega, hH.1, by show H < 9; omega, (by
      show W * H < 50
      have h1 : W ≤ 4 := by omega
      have h2 : H ≤ 3 := by omega
      have := Nat.mul_le_mul h1 h2
      omega), hlen, hnd, hSo.2.2.2, hne _ hSa, KNrs, hcl, fun p hp => (hoff p (hb9 p hp)).2.2.2⟩
  refine range_inv (JO w ⟨W, H, l, t, S, C, dC, CL, KN, rs, n1, t1, t2, t3, t4, t5, u1, u2, u3, u4, base⟩ m₀) hh hr (by omega) F N' (JO.start hb0 hb1 but_ne (fun p hp => hne p (bout p hp)) hd ⟨bin _ hC (Ne.symm hSo.1), bin _ hdC (Ne.symm hSo.2.1), bin _ hCL (Ne.symm hSo.2.2.1), fun p hp => bin p (hall p hp) (hSb p hp)⟩ ok fun r' hr' => ?_) (turn _ rfl ok) (done _ rfl ok)
  obtain ⟨n', hn'⟩ := hrs r' hr'
  exact ⟨n', bin _ hn' fun e => hSo.2.2.2 (by have e' : r' = S := e; rw [← e']; exact hr')⟩
theorem rows_at {rs : List Addr} {i : Nat} {R : Addr} (h : rs[i]? = some R) : (List.map Value.ref rs).toArray[((i : Nat) : Int).toNat]? = some (Value.ref R) := by
  rw [Int.toNat_natCast, List.getElem?_toArray, List.getElem?_map, h]; rfl
theorem turn_bound {i W H : Nat} (hi : i < H) (h : W * H < 50) : i * W + W < 50 := by
  have h1 : (i + 1) * W ≤ H * W := Nat.mul_le_mul_right _ hi
  rw [Nat.succ_mul, Nat.mul_comm H W] at h1
  omega
theorem len_cast {a b : Nat} (h : a = b) : (a : Int) = (b : Int) := by rw [h]
abbrev RetLC (w : World) (base : Led) (S : Addr) : RetT := fun h₀ L m s Q => ∀ (D : Addr) (W H : Nat) (l t : Int) (C dC CL KN : Addr) (rs : List Addr) (n1 : Nat) (t1 t2 t3 t4 t5 u1 u2 u3 u4 : Tok) (okn : Obj) (xs : List (List Int × Addr × Value)) (a b : Int) (ta ub : Tok) (n : Nat) (B : Led) (k1 k2 : Tok) (h' : Heap) (tk' : Nat),
  (0 < W ∧ W < 9) → (0 < H ∧ H < 9) → @Ne Nat S KN → (C, instObj 278 dC) ∈ B → (dC, canO w (W : Int) (H : Int) l t CL t1 t2 t3 t4 t5 u1 u2 u3 u4) ∈ B → (CL, listOf (rs.map Value.ref).toArray n1) ∈ B → (∀ p ∈ base, p ∈ B) → KT w okn B xs → (∀ j < H, RowOk B W rs xs j W) → (∀ p ∈ B, p.1 ≠ S) → 0 ≤ b → b < 2147483647 →
  Fr h₀ L h' m → News h₀ L h' ((D, listOf #[.ref C, .ref KN, .int (W : Int) k1, .int (H : Int) k2] 0) :: (S, srcO a b ta ub n) :: (KN, okn) :: B) → AllLt D ((S, srcO a b ta ub n) :: (KN, okn) :: B) → Q (.ref D) { s with heap := h', toks := tk' }
theorem end_lc {w : World} {base : Led} {S : Addr} {h₀ h' : Heap} {L D : Addr} {m : PySem.Str → Option Value} {s : Shared} {Q : Cont} {W H : Nat} {Wi Hi l t : Int} {C dC CL KN : Addr} {rs : List Addr} {n1 : Nat} {t1 t2 t3 t4 t5 u1 u2 u3 u4 : Tok} {okn : Obj} {xs : List (List Int × Addr × Value)} {a b : Int} {ta ub : Tok} {n : Nat} {B : Led} {k1 k2 : Tok} {tk' : Nat} (hret : RetLC w base S h₀ L m s Q)
    (ok : CanC.Ok ⟨W, H, l, t, S, C, dC, CL, KN, rs, n1, t1, t2, t3, t4, t5, u1, u2, u3, u4, base⟩) (hin : CanC.In ⟨W, H, l, t, S, C, dC, CL, KN, rs, n1, t1, t2, t3, t4, t5, u1, u2, u3, u4, base⟩ w B) (hT : KT w okn B xs) (hrows : ∀ j < H, RowOk B W rs xs j (if j < H then W else 0)) (h1 : ∀ p ∈ B, p.1 ≠ S) (b0 : 0 ≤ b) (b1 : b < 2147483647)
    (F : Fr h₀ L h' m) (N : News h₀ L h' ((D, listOf #[.ref C, .ref KN, .int Wi k1, .int Hi k2] 0) :: (S, srcO a b ta ub n) :: (KN, okn) :: B)) (eW : Wi = (W : Int)) (eH : Hi = (H : Int)) (lt : AllLt D ((S, srcO a b ta ub n) :: (KN, okn) :: B)) : Q (.ref D) { s with heap := h', toks := tk' } := by
  subst eW
  subst eH
  exact hret D W H l t C dC CL KN rs n1 t1 t2 t3 t4 t5 u1 u2 u3 u4 okn xs a b ta ub n B k1 k2 h' tk' ⟨ok.W1, ok.W9⟩ ⟨ok.H1, ok.H9⟩ ok.S_KN hin.hC hin.hdC hin.hCL hin.sub hT (fun j hj => by have := hrows j hj; rwa [if_pos hj] at this) h1 b0 b1 F N lt
section
local macro_rules | `(tactic| walk_at "pyIter ref") => `(tactic| (refine Stop.of ?_))
local macro_rules | `(tactic| walk_at "newTuple") => `(tactic| (k_here; k_dflt (refine' kup_newTuple ?F ?N ?_ ?z; (case F => k_asm); (case N => k_asm); (case z => kmk_size)); intro D' h' F' N' l1; (try k_lt l1)))
local macro_rules | `(tactic| walk_at "setItem ref ref") => `(tactic| (k_here; (with_reducible show wpAny _ _ (setItem (Value.ref _) (Value.ref _) _) _ _ _); k_dflt (refine' mine_kset ?F ?N ?U ?T ?B ?K ?u ?l ?_; (case F => k_asm); (case N => k_asm); (case U => k_updF); (case T => assumption); (case B => walk_at "mine_sub"); (case K => k_mem); (case u => ktr_units); (case l => assumption)); intro h9 tk9 o9 xs9 F9 N9 T9 at9 oth9 len9; obtain ⟨a9, at9⟩ := at9; (try dsimp only at N9)))
local macro_rules | `(tactic| walk_at "subscriptTail") => `(tactic| (k_here; (with_reducible show wpAny _ _ (subscriptTail _ _ (Value.ref _) (Value.ref _)) _ _ _); k_dflt (refine' mine_ksub ?N ?d ?T ?B ?K ?u ?p ?_ ?s ?g; (case T => assumption); (case N => k_asm); (case d => k_mem); (case B => walk_at "mine_in"); (case K => k_mem); (case p => assumption); (case u => ktr_units); (case s => with_unfolding_all rfl); (case g => (intro _; with_unfolding_all rfl))); intro tk9; (try dsimp only)))
local macro_rules | `(tactic| walk_at "mine_call") => `(tactic| (
  apply put_ok; walk_at "mine_args"; (case kp => (refine ⟨?p1, ?p2, ?p3, ?p4, ?p5, ?p6, ?p7, ?p8, ?p9, ?p10, ?p11, ?p12⟩; (case p1 => k_mem); (case p2 => k_mem); (case p3 => k_mem); (case p5 => assumption); (case p4 => k_updF); (case p6 => assumption); (case p7 => omega); (case p8 => omega); (case p9 => omega); (case p10 => omega); (case p11 => omega); (case p12 => omega))); (intro h9 tk9 F9 N9; (try dsimp only at N9); (try dsimp only); (try k_fold))))
set_option maxRecDepth 100000 in
set_option maxHeartbeats 3000000 in
theorem lawCanvas_ok {w : World} {mean : ExcName → Option Value} {mg mb : PySem.Str → Option Value} {S : Addr} {a b : Int} {t u : Tok} {n : Nat} {base : Led} :
    CallOk w mean mg mb 380 [.ref S] ((S, srcO a b t u n) :: base) 8 (fun _ => (∀ p ∈ base, p.1 ≠ S) ∧ 0 ≤ b ∧ b < 2147483647) (RetLC w base S) := by
  k_with_none
  unfold CallOk
  k_fill
  intro dp un gd cn cs ca ccd cl outer A₀ bs h₀ L m s Q E B F X N T hk hd hu hpre hret
  obtain ⟨hS, b0, b1⟩ := hpre
  walk_at "mine_enter"
  k_steps
  unfold Stop
  rename IsRange _ _ _ _ _ _ _ _ => hR
  rename Fr _ _ _ _ => hF
  rename News _ _ _ _ => hN
  rename Obj.IsDictOf (intKind _ _) _ _ => hD
  k_dflt (refine' can_loop (base := base) rfl hR ?z hF hN ?hC ?hdC ?hCL ?hlen ?hrs ?hnd ?hcl ?hsub ?hoff ?hS9 ?hb9 hS ?hKN hD ?b0 ?b1 ?hW ?hH ?turn ?done)
  case hC => assumption
  case hdC => assumption
  case hCL => assumption
  case z => assumption
  case hlen => assumption
  case hrs => assumption
  case hnd => assumption
  case hcl => assumption
  case hsub => assumption
  case hoff => assumption
  case hS9 => exact .tail _ (.tail _ (.tail _ (.head _)))
  case hb9 => walk_at "mine_sub"
  case hKN => assumption
  case b0 => assumption
  case b1 => assumption
  case hW => omega
  case hH => omega
  case done =>
    intro c hc ok mm news hh tk hJ hF' hN'
    obtain ⟨⟨uu, vv, rfl⟩, aa, bb, ta, ub, nn, okn, xs, B', rfl, q0, q1, q2, q3, hT, hx, hin, hrows⟩ := hJ
    have hok := ok
    subst hc
    clear hN hF
    dsimp only at hN' q2 q3 hT
    k_steps
    all_goals (try k_data)
    rename Fr _ _ _ _ => hF7
    rename News _ _ _ _ => hN7
    k_dflt (refine' end_lc hret hok hin hT hrows q2 q0 q1 hF7 hN7 ?eW ?eH ?lt)
    case eW => assumption
    case eH => assumption
    case lt => assumption
  case turn =>
    intro c hc ok I i mm news it tt hh tk hi hoff hJ hit hF' hN'
    obtain ⟨⟨uu, vv, rfl⟩, aa, bb, ta, ub, nn, okn, xs, B', rfl, q0, q1, q2, q3, hT, hx, hin, hrows⟩ := hJ
    have hSI : @Ne Nat c.S I := hoff _ (.head _)
    have hKI : @Ne Nat c.KN I := hoff _ (.tail _ (.head _))
    have hBI : ∀ p ∈ B', p.1 ≠ I := fun p hp => hoff p (.tail _ (.tail _ hp))
    obtain ⟨R, row, nr, B2, hRi, hRm, hRI, hRS, hRK, hN2, hJI⟩ := JO.toI ok hi hF' hN' hBI q0 q1 q2 q3 hT hx hin hrows
    have hok := ok
    subst hc
    clear hN' hN hF
    dsimp only at hN2 hSI hKI hRI hRS hRK hBI q2 q3 hT hin hi hrows hx
    obtain ⟨w1, w2, w3, w4, w5, w6, w7, w8, w9, w10, w11, w12⟩ := ok
    dsimp only at w1 w2 w3 w4 w5 w6 w7 w9
    obtain ⟨i1, i2, i3, i4⟩ := hin
    dsimp only at i1 i2 i3 i4
    dsimp only at hRi
    have hrow1 := rows_at hRi
    have htb := turn_bound hi w5
    k_steps
    unfold Stop
    rename IsRange _ _ _ _ _ _ _ _ => hR2
    rename Fr _ _ _ _ => hF2
    rename News _ _ _ _ => hN3
    k_dflt (refine' range_invZ (JI w _ i R I it _) rfl hR2 ?z ?zn hF2 hN3 hJI ?turn2 ?done2)
    case z => assumption
    case zn => omega
    case done2 =>
      intro mm3 news3 hh3 tk3 hJ3 hF6 hN6
      obtain ⟨news4, off4, sub4, hJ4⟩ := JI.back (m₀ := _) ⟨uu, vv, rfl⟩ hRi hRS hRK hRI hSI hKI hJ3
      k_steps
      exact UnrEnd.intro hF6 hN6 news4 sub4 off4 ⟨off4, hJ4⟩
    case turn2 =>
      intro I2 k m2 news2 it2 tt2 hh2 tk2 hk2 hoff2 hJ2 hit2 hF3 hN4
      obtain ⟨⟨uu2, rfl⟩, aa2, bb2, ta2, ub2, nn2, okn2, xs2, row2, nr2, B3, rfl, p0, p1, p2, p3, p4, p5, hT2, hx2, hlen2, hin2, hcell2, hrows2⟩ := hJ2
      have e1 : @Ne Nat _ I2 := hoff2 _ (.head _)
      have e2 : @Ne Nat _ I2 := hoff2 _ (.tail _ (.head _))
      have e3 : @Ne Nat _ I2 := hoff2 _ (.tail _ (.tail _ (.head _)))
      have e4 : @Ne Nat _ I2 := hoff2 _ (.tail _ (.tail _ (.tail _ (.head _))))
      have e5 : ∀ p ∈ B3, p.1 ≠ I2 := fun p hp => hoff2 p (.tail _ (.tail _ (.tail _ (.tail _ hp))))
      dsimp only at p2 p3 p4 p5 hx2 hlen2 e1 e2 e3 e4 hN4 hk2
      obtain ⟨j1, j2, j3, j4⟩ := hin2
      dsimp only at j1 j2 j3 j4
      have hlen3 := len_cast hlen2
      have hx3 : xs2.length ≤ 60 := by omega
      clear hN3 hF2
      k_steps
      rename Fr _ _ _ _ => hF5
      rename News _ _ _ _ => hN5
      rename KT _ _ _ _ => hT5
      k_dflt (refine' inner_end hF5 hN5 hok hk2 ?b0 ?b1 p2 p3 p4 p5 e5 hT5 hx2 ?len hlen2 ⟨j1, j2, j3, j4⟩ hcell2 hrows2 ⟨_, ?hat⟩ ?oth ?lt ?lt2)
      case b0 => assumption
      case b1 => assumption
      case len => assumption
      case hat => assumption
      case oth => assumption
      case lt => dsimp only; omega
      case lt2 => dsimp only; omega
end
/-- the law's own reckoning of the dot on which a place lies -/
def dotI (p s top bottom n : Int) : Int := (((2 * p + 1 + 2 * s) * bottom).fdiv (2 * top)).fmod n
theorem dotI_lo {p s top bottom n : Int} (hn : 0 < n) : 0 ≤ dotI p s top bottom n := fmod_lo hn
theorem dotI_hi {p s top bottom n : Int} (hn : 0 < n) : dotI p s top bottom n < n := fmod_hi hn
theorem dotI_far {p s top bottom n k : Int} (ht : 0 < top) (hn : 0 < n) : dotI (p + k * n * top) s top bottom n = dotI p s top bottom n := by
  unfold dotI
  have e : (2 * (p + k * n * top) + 1 + 2 * s) * bottom = (2 * p + 1 + 2 * s) * bottom + (k * bottom) * n * (2 * top) := by grind
  rw [e, Int.fmod_eq_emod_of_nonneg _ (Int.le_of_lt hn), Int.fmod_eq_emod_of_nonneg _ (Int.le_of_lt hn), dot_far _ _ _ _ ht]
theorem half_add (P : Int) (s : Int) : mkRat P 2 + (s : Rat) = mkRat (P + 2 * s) 2 := by
  have h2 : ((2 : Nat) : Rat) = 2 := rfl
  have h3 : ((2 : Int) : Rat) = 2 := rfl
  rw [Rat.mkRat_eq_div, Rat.mkRat_eq_div, Rat.intCast_add, Rat.intCast_mul, h3]
  grind
theorem dotI_R {p s top bottom n : Int} (hn : 0 < n) (ht : 0 < top) (hb : 0 < bottom) : dotR (mkRat (2 * p + 1) 2 + (s : Rat)) (mkRat (n * top) bottom.toNat) n = dotI p s top bottom n := by
  rw [half_add, dot_law _ _ _ _ hn ht hb]
  unfold dotI
  rw [Int.fmod_eq_emod_of_nonneg _ (Int.le_of_lt hn)]
theorem scale_pos {n top bottom : Int} (hn : 0 < n) (ht : 0 < top) (hb : 0 < bottom) : 0 < (mkRat (n * top) bottom.toNat).num := by
  have h : (mkRat (n * top) bottom.toNat).num = (n * top).fdiv (Int.gcd (n * top) bottom) := (frac_num hb).symm
  rw [h]
  have hg := gcd_pos (t := n * top) hb
  rw [Int.fdiv_eq_ediv_of_nonneg _ (Int.le_of_lt hg)]
  have hp := Int.mul_pos hn ht
  exact Int.ediv_pos_of_pos_of_dvd hp (Int.le_of_lt hg) (Int.gcd_dvd_left ..)
theorem small_low {k : Nat} {n : Int} {b : Nat} (h : n.natAbs < b) (hb : b ≤ 2 ^ k) : Low k n := Nat.lt_of_lt_of_le h hb
theorem small_mul {a b : Int} (ha : a.natAbs < 4294967296) (hb : b.natAbs < 4294967296) : IntMulOk a b :=
  Low.mulOk ((small_low (k := 32) ha (by decide)).mono (by decide)) ((small_low (k := 32) hb (by decide)).mono (by decide))
theorem mul_lt {a b : Int} {x y z : Nat} (ha : a.natAbs < x) (hb : b.natAbs < y) (h : x * y ≤ z) : (a * b).natAbs < z := by
  rw [Int.natAbs_mul]
  exact Nat.lt_of_lt_of_le (Nat.mul_lt_mul'' ha hb) h
section
set_option maxRecDepth 100000 in
set_option maxHeartbeats 4000000 in
theorem lawDot_ok {w : World} {mean : ExcName → Option Value} {mg mb : PySem.Str → Option Value} {p s' top bottom n : Int} {t1 t2 t3 t4 t5 : Tok} {news : Led} :
    CallOk w mean mg mb 387 [.int p t1, .int s' t2, .int top t3, .int bottom t4, .int n t5] news 1 (fun _ => p.natAbs < 1000000001 ∧ s'.natAbs < 10 ∧ (0 < top ∧ top < 10) ∧ (0 < bottom ∧ bottom < 10) ∧ (0 < n ∧ n < 10)) (RetInt news (dotI p s' top bottom n)) := by
  k_with_none
  unfold CallOk
  k_fill
  intro dp un gd cn cs ca ccd cl outer A₀ base h₀ L m s Q E B F X N T hk hd hu hpre hret
  obtain ⟨hp, hs, ⟨ht0, ht1⟩, ⟨hb0, hb1⟩, hn0, hn1⟩ := hpre
  have m1 : IntMulOk 2 p := small_mul (by decide) (by omega)
  have m2 : IntMulOk 2 s' := small_mul (by decide) (by omega)
  have m3 : IntMulOk (2 * p + 1 + 2 * s') bottom := small_mul (by omega) (by omega)
  have m4 : IntMulOk 2 top := small_mul (by decide) (by omega)
  have d1 : (2 * top).natAbs.log2 < 9000 := (small_low (k := 32) (b := 100) (by omega) (by decide)).log2 (by decide)
  unfold dotI at hret
  walk_at "mine_enter"
  k_steps
  all_goals (try k_data)
  all_goals first
    | (exfalso; omega)
    | exact end_int hret rfl (by assumption) (by assumption)
    | fail "left"
end
theorem at2_ok {w : World} {mean : ExcName → Option Value} {mg mb : PySem.Str → Option Value} {P dP C dC M dM aw ah ae af CL R : Addr} {W H l t px py xs ys top bottom : Int} {tx ty te ue tf uf t' u' t'' u'' p1 p2 p3 p4 t1 t2 t3 t4 t5 u1 u2 u3 u4 m1 m2 m3 m4 m5 m6 : Tok} {rows row : Array Value} {n1 n2 i j : Nat} {v : Value} {news : Led} :
    CallOk w mean mg mb 200 [.ref P, .int px tx, .int py ty] news 7 (fun h₀ => (P, instObj 203 dP) ∈ news ∧ (dP, patO w C M aw ah p1 p2 p3 p4) ∈ news ∧ (C, instObj 278 dC) ∈ news ∧ (dC, canO w W H l t CL t1 t2 t3 t4 t5 u1 u2 u3 u4) ∈ news ∧
      (CL, listOf rows n1) ∈ news ∧ (R, listOf row n2) ∈ news ∧ (M, instObj 341 dM) ∈ news ∧ (dM, matO w ae af m1 m2 m3 m4 m5 m6) ∈ news ∧
      RatTU news h₀ aw (mkRat (W * top) bottom.toNat) t' u' ∧ RatTU news h₀ ah (mkRat (H * top) bottom.toNat) t'' u'' ∧ RatTU news h₀ ae (xs : Rat) te ue ∧ RatTU news h₀ af (ys : Rat) tf uf ∧
      (xs.natAbs < 10 ∧ ys.natAbs < 10 ∧ 0 < top ∧ top < 10 ∧ 0 < bottom ∧ bottom < 10 ∧ 0 < W ∧ W < 9 ∧ 0 < H ∧ H < 9 ∧ px.natAbs < 4294967296 ∧ py.natAbs < 4294967296) ∧
      dotI px xs top bottom W = (i : Int) ∧ dotI py ys top bottom H = (j : Int) ∧
      rows[((j : Nat) : Int).toNat]? = some (.ref R) ∧ row[i]? = some v) (RetVal news v) :=
  fun dp un gd cn cs ca ccd cl outer A₀ base h₀ L m s Q E B F X N T hk hd hu hp hret => by
    obtain ⟨a1, a2, a3, a4, a5, a6, a7, a8, a9, a10, a11, a12, ⟨b1, b2, b3, b4, b5, b6, b7, b8, b9, b10, b11, b12⟩, hi, hj, hr, hc⟩ := hp
    have lo1 := dotI_lo (p := px) (s := xs) (top := top) (bottom := bottom) b7
    have hi1 := dotI_hi (p := px) (s := xs) (top := top) (bottom := bottom) b7
    have lo2 := dotI_lo (p := py) (s := ys) (top := top) (bottom := bottom) b9
    have hi2 := dotI_hi (p := py) (s := ys) (top := top) (bottom := bottom) b9
    have lw : Low 40 (W * top) := small_low (b := 1000) (mul_lt (x := 10) (y := 10) (by omega) (by omega) (by decide)) (by decide)
    have lh : Low 40 (H * top) := small_low (b := 1000) (mul_lt (x := 10) (y := 10) (by omega) (by omega) (by decide)) (by decide)
    have lb : Low 40 ((bottom.toNat : Nat) : Int) := small_low (b := 1000) (by omega) (by decide)
    refine at_ok dp un gd cn cs ca ccd cl outer A₀ base h₀ L m s Q E B F X N T hk hd hu ⟨a1, a2, a3, a4, a5, a6, a7, a8, a9, a10, a11, a12, scale_pos b7 b3 b5, scale_pos b9 b3 b5, (Bd.mk (by omega) lw lb).mono (by decide), (Bd.mk (by omega) lh lb).mono (by decide),
      Bd.int (small_low (b := 10) b1 (by decide)) (by decide), Bd.int (small_low (b := 10) b2 (by decide)) (by decide), small_low (b := 4294967296) b11 (by decide), small_low (b := 4294967296) b12 (by decide), ⟨b7, b8⟩, ⟨b9, b10⟩, ?_, ?_, ?_, ?_⟩ hret
    · rw [dotI_R b7 b3 b5]; exact ⟨lo1, hi1⟩
    · rw [dotI_R b9 b3 b5]; exact ⟨lo2, hi2⟩
    · rw [dotI_R b9 b3 b5, hj]; exact hr
    · rw [dotI_R b7 b3 b5, hi, Int.toNat_natCast]; exact hc
theorem clear_at {w : World} {h : Heap} (X : (hd.heap_1 w.params).In h) : ∃ t u v z, IsTup h 158 #[.int 0 t, .int 0 u, .int 0 v, .int 0 z] := by
  have hR : Challenge.rw_nu0022_01 = Challenge.rw_nu0022_01 := rfl
  revert X hR
  k_fill
  intro X _
  exact ⟨_, _, _, _, tupK (l := [.int 0 _, .int 0 _, .int 0 _, .int 0 _]) X (by k_is)⟩
theorem clear_ne {w : World} {A : Around} {E : Value → Shared → Prop} {s : Shared} {h₀ : Heap} {L D : Addr} {m : PySem.Str → Option Value} {news : Led} {k0 k1 k2 k3 : Tok} {Q : Value → Shared → Prop} (X : (hd.heap_1 w.params).In h₀) (F : Fr h₀ L s.heap m) (N : News h₀ L s.heap news)
    (hD : (D, ({ cls := .type "tuple", data := .seq #[.int 0 k0, .int 0 k1, .int 0 k2, .int 0 k3] } : Obj)) ∈ news) (hu : A.units + 64 < cLine) (h : Q (.bool false) s) : wpAny (model Challenge.rw_nu0022_01.row.prog w) A (compareOp .NotEq (.ref 158) (.ref D)) Q E s := by
  obtain ⟨t, u, v, z, o, ho, hc, n, hd'⟩ := clear_at X
  refine ne_dataH (da := .tuple [.int 0, .int 0, .int 0, .int 0]) (db := .tuple [.int 0, .int 0, .int 0, .int 0]) (reads_tuple_at (F.keep _ _ ho) hc hd' (.cons (.int _ _) (.cons (.int _ _) (.cons (.int _ _) (.cons (.int _ _) .nil))))) (reads_tuple_at (N.get hD) rfl rfl (.cons (.int _ _) (.cons (.int _ _) (.cons (.int _ _) (.cons (.int _ _) .nil))))) rfl rfl hu ?_
  exact h
theorem bd_small {n : Int} (h : n.natAbs < 100) : Bd 100 (n : Rat) := Bd.int (small_low (b := 100) h (by decide)) (by decide)
theorem dec_true {a b : Int} (h : a ≤ 0 ∨ b ≤ 0) : true = decide ((a : Rat).num ≤ 0 ∨ (b : Rat).num ≤ 0) := (decide_eq_true h).symm
theorem atC_ok {w : World} {mean : ExcName → Option Value} {mg mb : PySem.Str → Option Value} {P dP C dC M aw ah CL : Addr} {W H l t px py x y : Int} {tx ty t' u' t'' u'' p1 p2 p3 p4 t1 t2 t3 t4 t5 u1 u2 u3 u4 : Tok} {news : Led} :
    CallOk w mean mg mb 200 [.ref P, .int px tx, .int py ty] news 7 (fun h₀ => (P, instObj 203 dP) ∈ news ∧ (dP, patO w C M aw ah p1 p2 p3 p4) ∈ news ∧ (C, instObj 278 dC) ∈ news ∧ (dC, canO w W H l t CL t1 t2 t3 t4 t5 u1 u2 u3 u4) ∈ news ∧
      (aw, tupO (x : Rat).num (x : Rat).den t' u') ∈ news ∧ (ah, tupO (y : Rat).num (y : Rat).den t'' u'') ∈ news ∧ 0 < W ∧ 0 < H ∧ x.natAbs < 100 ∧ y.natAbs < 100 ∧ (x ≤ 0 ∨ y ≤ 0)) (RetVal news (.ref 158)) :=
  fun dp un gd cn cs ca ccd cl outer A₀ base h₀ L m s Q E B F X N T hk hd hu hp hret => by
    obtain ⟨a1, a2, a3, a4, a5, a6, a7, a8, a9, a10, a11⟩ := hp
    exact at_clear dp un gd cn cs ca ccd cl outer A₀ base h₀ L m s Q E B F X N T hk hd hu ⟨a1, a2, a3, a4, RatTU.made a5, RatTU.made a6, a7, a8, bd_small a9, bd_small a10, dec_true a11⟩ hret
theorem emptyT_ok {w : World} {mean : ExcName → Option Value} {mg mb : PySem.Str → Option Value} {P dP C dC M aw ah CL : Addr} {W H l t x y : Int} {t' u' t'' u'' p1 p2 p3 p4 t1 t2 t3 t4 t5 u1 u2 u3 u4 : Tok} {news : Led} :
    CallOk w mean mg mb 186 [.ref P] news 3 (fun h₀ => (P, instObj 203 dP) ∈ news ∧ (dP, patO w C M aw ah p1 p2 p3 p4) ∈ news ∧ (C, instObj 278 dC) ∈ news ∧ (dC, canO w W H l t CL t1 t2 t3 t4 t5 u1 u2 u3 u4) ∈ news ∧
      (aw, tupO (x : Rat).num (x : Rat).den t' u') ∈ news ∧ (ah, tupO (y : Rat).num (y : Rat).den t'' u'') ∈ news ∧ 0 < W ∧ 0 < H ∧ x.natAbs < 100 ∧ y.natAbs < 100 ∧ (x ≤ 0 ∨ y ≤ 0)) (RetVal news (.bool true)) :=
  fun dp un gd cn cs ca ccd cl outer A₀ base h₀ L m s Q E B F X N T hk hd hu hp hret => by
    obtain ⟨a1, a2, a3, a4, a5, a6, a7, a8, a9, a10, a11⟩ := hp
    exact empty_ok dp un gd cn cs ca ccd cl outer A₀ base h₀ L m s Q E B F X N T hk hd hu ⟨a1, a2, a3, a4, RatTU.made a5, RatTU.made a6, a7, a8, bd_small a9, bd_small a10, dec_true a11⟩ hret
theorem emptyF_ok {w : World} {mean : ExcName → Option Value} {mg mb : PySem.Str → Option Value} {P dP C dC M aw ah CL : Addr} {W H l t top bottom : Int} {t' u' t'' u'' p1 p2 p3 p4 t1 t2 t3 t4 t5 u1 u2 u3 u4 : Tok} {news B' : Led} :
    CallOk w mean mg mb 186 [.ref P] news 3 (fun h₀ => (P, instObj 203 dP) ∈ B' ∧ (dP, patO w C M aw ah p1 p2 p3 p4) ∈ B' ∧ (C, instObj 278 dC) ∈ B' ∧ (dC, canO w W H l t CL t1 t2 t3 t4 t5 u1 u2 u3 u4) ∈ B' ∧
      (aw, tupO (mkRat (W * top) bottom.toNat).num (mkRat (W * top) bottom.toNat).den t' u') ∈ B' ∧ (ah, tupO (mkRat (H * top) bottom.toNat).num (mkRat (H * top) bottom.toNat).den t'' u'') ∈ B' ∧ (∀ p ∈ B', p ∈ news) ∧ (0 < W ∧ W < 9 ∧ 0 < H ∧ H < 9 ∧ 0 < top ∧ top < 10 ∧ 0 < bottom ∧ bottom < 10)) (RetVal news (.bool false)) :=
  fun dp un gd cn cs ca ccd cl outer A₀ base h₀ L m s Q E B F X N T hk hd hu hp hret => by
    obtain ⟨a1, a2, a3, a4, a5, a6, hs, b1, b2, b3, b4, b5, b6, b7, b8⟩ := hp
    have lw : Low 40 (W * top) := small_low (b := 1000) (mul_lt (x := 10) (y := 10) (by omega) (by omega) (by decide)) (by decide)
    have lh : Low 40 (H * top) := small_low (b := 1000) (mul_lt (x := 10) (y := 10) (by omega) (by omega) (by decide)) (by decide)
    have lb : Low 40 ((bottom.toNat : Nat) : Int) := small_low (b := 1000) (by omega) (by decide)
    have s1 := scale_pos b1 b5 b7
    have s2 := scale_pos b3 b5 b7
    exact empty_ok dp un gd cn cs ca ccd cl outer A₀ base h₀ L m s Q E B F X N T hk hd hu ⟨hs _ a1, hs _ a2, hs _ a3, hs _ a4, RatTU.made (hs _ a5), RatTU.made (hs _ a6), b1, b3, (Bd.mk (by omega) lw lb).mono (by decide), (Bd.mk (by omega) lh lb).mono (by decide), (decide_eq_false (by omega)).symm⟩ hret
structure LEnv (w : World) (W H : Nat) (l t : Int) (C dC CL : Addr) (rs : List Addr) (n1 : Nat) (t1 t2 t3 t4 t5 u1 u2 u3 u4 : Tok) (okn : Obj) (xs : List (List Int × Addr × Value)) (cc : Addr) (oc : Obj) (KN : Addr) (B : Led) : Prop where
  hcell : (cc, oc) ∈ B
  hC : (C, instObj 278 dC) ∈ B
  hdC : (dC, canO w (W : Int) (H : Int) l t CL t1 t2 t3 t4 t5 u1 u2 u3 u4) ∈ B
  hCL : (CL, listOf (rs.map Value.ref).toArray n1) ∈ B
  hT : KT w okn B xs
  hrows : ∀ j < H, RowOk B W rs xs j W
  hKN : (KN, okn) ∈ B
theorem LEnv.mono {w : World} {W H : Nat} {l t : Int} {C dC CL : Addr} {rs : List Addr} {n1 : Nat} {t1 t2 t3 t4 t5 u1 u2 u3 u4 : Tok} {okn : Obj} {xs : List (List Int × Addr × Value)} {cc KN : Addr} {oc : Obj} {B B' : Led} (h : LEnv w W H l t C dC CL rs n1 t1 t2 t3 t4 t5 u1 u2 u3 u4 okn xs cc oc KN B) (hs : ∀ p ∈ B, p ∈ B') : LEnv w W H l t C dC CL rs n1 t1 t2 t3 t4 t5 u1 u2 u3 u4 okn xs cc oc KN B' :=
  ⟨hs _ h.hcell, hs _ h.hC, hs _ h.hdC, hs _ h.hCL, h.hT.mono hs, fun j hj => by
    obtain ⟨R, row, n, a, b, c, d⟩ := h.hrows j hj
    exact ⟨R, row, n, a, hs _ b, c, fun i hi => (d i hi).mono hs rfl rfl⟩, hs _ h.hKN⟩
theorem mine_ksubR {w : World} {A : Around} {E : Value → Shared → Prop} {s : Shared} {h₀ : Heap} {L d K : Addr} {news B : Led} {o : Obj} {c r : Int} {t u : Tok} {xs : List (List Int × Addr × Value)} {W H : Nat} {rs : List Addr} {value slice : PySem.Expr} {Q : Value → Shared → Prop}
    (hrows : ∀ j < H, RowOk B W rs xs j W) (N : News h₀ L s.heap news) (T : KT w o B xs) (hd : (d, o) ∈ news) (hB : ∀ p ∈ B, p ∈ news) (hK : (K, tup2 c r t u) ∈ news) (hu : A.units + 1 < cLine) (h1 : 0 ≤ c ∧ c < (W : Int)) (h2 : 0 ≤ r ∧ r < (H : Int))
    (h : ∀ (i j : Nat) (R T : Addr) (row : List Value) (n : Nat) (c0 c1 c2 c3 : Int) (k0 k1 k2 k3 : Tok) (tk' : Nat), c = (i : Int) → r = (j : Int) → (List.map Value.ref rs).toArray[((j : Nat) : Int).toNat]? = some (Value.ref R) → (R, listOf row.toArray n) ∈ B → row.toArray[i]? = some (Value.ref T) → (T, tup4 c0 c1 c2 c3 k0 k1 k2 k3) ∈ B → Q (.ref T) { s with toks := tk' })
    (hs : subscripted slice false (.ref d) (.ref K) = operate [.ref d, .ref K] (getItem (.ref d) (.ref K)) := by with_unfolding_all rfl) (hg : ∀ r, letTemporaryGo value (.ref d) r = pure () := by intro _; with_unfolding_all rfl) :
    wpAny (model Challenge.rw_nu0022_01.row.prog w) A (subscriptTail value slice (.ref d) (.ref K)) Q E s := by
  obtain ⟨i, rfl⟩ := Int.eq_ofNat_of_zero_le h1.1
  obtain ⟨j, rfl⟩ := Int.eq_ofNat_of_zero_le h2.1
  obtain ⟨R, row, n, e1, hR, hlen, hc⟩ := hrows j (by omega)
  obtain ⟨T', K', c0, c1, c2, c3, k0, k1, k2, k3, f1, f2, f3⟩ := hc i (by omega)
  exact mine_ksub N hd T hB hK hu f3 (fun tk' => h i j R T' row n c0 c1 c2 c3 k0 k1 k2 k3 tk' rfl rfl (rows_at e1) hR (by rw [List.getElem?_toArray]; exact f1) f2) hs hg
theorem mine_compEnd1 {h₀ : Heap} {L I C D : Addr} {m : PySem.Str → Option Value} {s₁ : Shared} {oI oC oD : Obj} {S : Led → Prop} {rest : Value → Led → Prop} {y : Value} {h' : Heap} {tk : Nat} {p : Addr × Obj} {r : Led}
    (F : Fr h₀ L h' m) (N : News h₀ L h' (p :: (I, oI) :: (C, oC) :: (D, oD) :: r)) (off : LCg.Off3 I C D (p :: r)) (hS : S (p :: r)) (hr : rest y (p :: r)) :
    LCg.CompEnd h₀ L m s₁ I oI C oC D oD S rest y { s₁ with heap := h', toks := tk } :=
  LCg.CompEnd.intro F N (p :: r) (fun x hx => by
    simp only [List.mem_cons] at hx ⊢
    rcases hx with h | h | h | h | h
    · exact .inr (.inl h)
    · exact .inr (.inr (.inl h))
    · exact .inr (.inr (.inr (.inl h)))
    · exact .inl h
    · exact .inr (.inr (.inr (.inr h)))) off hS hr
abbrev Gb (k : Int) : Prop := -1000000000 ≤ k ∧ k ≤ 1000000000
theorem oneInt8_ok {w : World} {mean : ExcName → Option Value} {mg mb : PySem.Str → Option Value} {S TL : Addr} {a b : Int} {t u : Tok} {n n2 : Nat} {news : Led} {g : Obj → Led} {x1 x2 x3 x4 x5 x6 x7 x8 : Int} {t1 t2 t3 t4 t5 t6 t7 t8 : Tok} :
    CallOk w mean mg mb 373 [.ref S, .ref TL] news 2 (fun _ => UpdF S (srcO a b t u n) news g ∧ (TL, listOf [Value.int x1 t1, .int x2 t2, .int x3 t3, .int x4 t4, .int x5 t5, .int x6 t6, .int x7 t7, .int x8 t8].toArray n2) ∈ news ∧ (∀ o, (TL, listOf [Value.int x1 t1, .int x2 t2, .int x3 t3, .int x4 t4, .int x5 t5, .int x6 t6, .int x7 t7, .int x8 t8].toArray n2) ∈ g o) ∧ 0 ≤ b ∧ b < 2147483647 ∧
      Gb x1 ∧ Gb x2 ∧ Gb x3 ∧ Gb x4 ∧ Gb x5 ∧ Gb x6 ∧ Gb x7 ∧ Gb x8) (RetOneInt g) :=
  fun dp un gd cn cs ca ccd cl outer A₀ base h₀ L m s Q E B F X N T hk hd hu hp hret => by
    obtain ⟨p1, p2, p3, p4, p5, d1, d2, d3, d4, d5, d6, d7, d8⟩ := hp
    refine oneInt_ok dp un gd cn cs ca ccd cl outer A₀ base h₀ L m s Q E B F X N T hk hd hu ⟨p1, p2, p3, Nat.le_of_ble_eq_true rfl, Nat.le_of_ble_eq_true rfl, p4, p5, fun v hv => ?_⟩ hret
    simp only [List.mem_cons, List.not_mem_nil, or_false] at hv
    rcases hv with rfl | rfl | rfl | rfl | rfl | rfl | rfl | rfl
    · exact ⟨_, _, rfl, d1⟩
    · exact ⟨_, _, rfl, d2⟩
    · exact ⟨_, _, rfl, d3⟩
    · exact ⟨_, _, rfl, d4⟩
    · exact ⟨_, _, rfl, d5⟩
    · exact ⟨_, _, rfl, d6⟩
    · exact ⟨_, _, rfl, d7⟩
    · exact ⟨_, _, rfl, d8⟩
theorem far_abs {p k n top : Int} (hp : p.natAbs < 1000000001) (hk : k.natAbs < 10) (hn : n.natAbs < 10) (ht : top.natAbs < 10) : (p + k * n * top).natAbs < 4294967296 := by
  have := mul_lt (z := 1000) (mul_lt (z := 100) hk hn (by decide)) ht (by decide)
  omega
theorem ten9 : Gb (10 ^ Int.toNat 9) := by decide
theorem law_start {h₀ h : Heap} {L S : Addr} {o : Obj} {all : Led} (N : News h₀ L h all) (hm : (S, o) ∈ all) : ∃ B, News h₀ L h ((S, o) :: B) ∧ (∀ p ∈ B, p.1 ≠ S) ∧ ∀ p ∈ all, @Ne Nat p.1 S → p ∈ B :=
  ⟨_, news_sub N (but_sub hm), but_ne, fun p hp hne => but_in hp hne⟩
abbrev six (u1 u2 u3 u4 u5 u6 : Option Value) (m : PySem.Str → Option Value) : PySem.Str → Option Value := fun z => if z = Str.ofString "many" then u1 else if z = Str.ofString "more" then u2 else if z = Str.ofString "due" then u3 else if z = Str.ofString "y" then u4 else if z = Str.ofString "x" then u5 else if z = Str.ofString "turn" then u6 else m z
theorem six_six {u1 u2 u3 u4 u5 u6 v1 v2 v3 v4 v5 v6 : Option Value} {m : PySem.Str → Option Value} : six u1 u2 u3 u4 u5 u6 (six v1 v2 v3 v4 v5 v6 m) = six u1 u2 u3 u4 u5 u6 m := by
  funext z
  unfold six
  by_cases e1 : z = Str.ofString "many"
  · simp only [if_pos e1]
  · simp only [if_neg e1]
    by_cases e2 : z = Str.ofString "more"
    · simp only [if_pos e2]
    · simp only [if_neg e2]
      by_cases e3 : z = Str.ofString "due"
      · simp only [if_pos e3]
      · simp only [if_neg e3]
        by_cases e4 : z = Str.ofString "y"
        · simp only [if_pos e4]
        · simp only [if_neg e4]
          by_cases e5 : z = Str.ofString "x"
          · simp only [if_pos e5]
          · simp only [if_neg e5]
            by_cases e6 : z = Str.ofString "turn"
            · simp only [if_pos e6]
            · simp only [if_neg e6]
theorem six_id {m : PySem.Str → Option Value} : m = six (m (Str.ofString "many")) (m (Str.ofString "more")) (m (Str.ofString "due")) (m (Str.ofString "y")) (m (Str.ofString "x")) (m (Str.ofString "turn")) m := by
  funext z
  unfold six
  by_cases e1 : z = Str.ofString "many"
  · rw [e1]; simp only [if_true]
  · simp only [if_neg e1]
    by_cases e2 : z = Str.ofString "more"
    · rw [e2]; simp only [if_true]
    · simp only [if_neg e2]
      by_cases e3 : z = Str.ofString "due"
      · rw [e3]; simp only [if_true]
      · simp only [if_neg e3]
        by_cases e4 : z = Str.ofString "y"
        · rw [e4]; simp only [if_true]
        · simp only [if_neg e4]
          by_cases e5 : z = Str.ofString "x"
          · rw [e5]; simp only [if_true]
          · simp only [if_neg e5]
            by_cases e6 : z = Str.ofString "turn"
            · rw [e6]; simp only [if_true]
            · simp only [if_neg e6]
def JL (S : Addr) (B : Led) (m₀ : PySem.Str → Option Value) (_ : Nat) (m : PySem.Str → Option Value) (news : Led) : Prop :=
  (∃ u1 u2 u3 u4 u5 u6, m = six u1 u2 u3 u4 u5 u6 m₀) ∧ ∃ (a b : Int) (t u : Tok) (n : Nat), news = (S, srcO a b t u n) :: B ∧ 0 ≤ b ∧ b < 2147483647
theorem JL.start {S : Addr} {B : Led} {m₀ : PySem.Str → Option Value} {a b : Int} {t u : Tok} {n : Nat} (h0 : 0 ≤ b) (h1 : b < 2147483647) : JL S B m₀ 0 m₀ ((S, srcO a b t u n) :: B) := ⟨⟨_, _, _, _, _, _, six_id⟩, a, b, t, u, n, rfl, h0, h1⟩
theorem JL.next {S : Addr} {B : Led} {m₀ : PySem.Str → Option Value} {i : Nat} {u1 u2 u3 u4 u5 u6 v1 v2 v3 v4 v5 v6 : Option Value} {a b : Int} {t u : Tok} {n : Nat} (h0 : 0 ≤ b) (h1 : b < 2147483647) : JL S B m₀ i (six u1 u2 u3 u4 u5 u6 (six v1 v2 v3 v4 v5 v6 m₀)) ((S, srcO a b t u n) :: B) := ⟨⟨_, _, _, _, _, _, six_six⟩, a, b, t, u, n, rfl, h0, h1⟩
theorem law_end {h₀ h' : Heap} {L I S : Addr} {s₁ : Shared} {it : Obj} {tk : Nat} {i : Nat} {B all : Led} {m₀ : PySem.Str → Option Value} {u1 u2 u3 u4 u5 u6 v1 v2 v3 v4 v5 v6 : Option Value} {a b : Int} {t u : Tok} {n : Nat}
    (F : Fr h₀ L h' (six u1 u2 u3 u4 u5 u6 (six v1 v2 v3 v4 v5 v6 m₀))) (N : News h₀ L h' all) (hI : (I, it) ∈ all) (hS : (S, srcO a b t u n) ∈ all) (hB : ∀ p ∈ B, p ∈ all) (h0 : 0 ≤ b) (h1 : b < 2147483647) (e : @Ne Nat S I) (off : ∀ p ∈ B, p.1 ≠ I) :
    UnrEnd h₀ L s₁ I it (fun m' n' => (∀ p ∈ n', p.1 ≠ I) ∧ JL S B m₀ (i + 1) m' n') { s₁ with heap := h', toks := tk } := by
  have o : ∀ p ∈ ((S, srcO a b t u n) :: B : Led), p.1 ≠ I := fun p hp => by
    rcases List.mem_cons.mp hp with rfl | hp
    · exact e
    · exact off p hp
  refine UnrEnd.intro F N ((S, srcO a b t u n) :: B) (fun p hp => ?_) o ⟨o, JL.next h0 h1⟩
  rcases List.mem_cons.mp hp with rfl | hp
  · exact hI
  · rcases List.mem_cons.mp hp with rfl | hp
    · exact hS
    · exact hB p hp
abbrev RetOnePair (g : Obj → Led) : RetT := fun h₀ L m s Q => ∀ (T : Addr) (x y : Int) (tx ty : Tok) (a' b' : Int) (t u : Tok) (n' : Nat) (h' : Heap) (tk' : Nat), (T, tupO x y tx ty) ∈ g (srcO a' b' t u n') → (0 < x ∧ x < 10) → (0 < y ∧ y < 10) → Fr h₀ L h' m → News h₀ L h' (g (srcO a' b' t u n')) → 0 ≤ b' → b' < 2147483647 → Q (.ref T) { s with heap := h', toks := tk' }
theorem onePair_ok {w : World} {mean : ExcName → Option Value} {mg mb : PySem.Str → Option Value} {S TL : Addr} {a b : Int} {t u : Tok} {n n2 : Nat} {vs : List Value} {news : Led} {g : Obj → Led} :
    CallOk w mean mg mb 373 [.ref S, .ref TL] news 2 (fun _ => UpdF S (srcO a b t u n) news g ∧ (TL, listOf vs.toArray n2) ∈ news ∧ (∀ o, (TL, listOf vs.toArray n2) ∈ g o) ∧ 0 < vs.length ∧ vs.length < 64 ∧ 0 ≤ b ∧ b < 2147483647 ∧ ∀ o, ∀ v ∈ vs, ∃ T x y tx ty, v = .ref T ∧ (T, tupO x y tx ty) ∈ g o ∧ (0 < x ∧ x < 10) ∧ (0 < y ∧ y < 10)) (RetOnePair g) :=
  fun dp un gd cn cs ca ccd cl outer A₀ base h₀ L m s Q E B F X N T hk hd hu hp hret =>
    one_ok dp un gd cn cs ca ccd cl outer A₀ base h₀ L m s Q E B F X N T hk hd hu ⟨hp.1, hp.2.1, hp.2.2.1, hp.2.2.2.1, hp.2.2.2.2.1, hp.2.2.2.2.2.1, hp.2.2.2.2.2.2.1⟩
      fun v a' b' t' u' n' h' tk' hv F' N' b0 b1 => by
        obtain ⟨T, x, y, tx, ty, rfl, hm, hx, hy⟩ := hp.2.2.2.2.2.2.2 (srcO a' b' t' u' n') v hv
        exact hret T x y tx ty a' b' t' u' n' h' tk' hm hx hy F' N' b0 b1
theorem pairs5 {L : Led} {T1 T2 T3 T4 T5 : Addr} {x1 x2 x3 x4 x5 y1 y2 y3 y4 y5 : Int} {t1 t2 t3 t4 t5 u1 u2 u3 u4 u5 : Tok} (h1 : (T1, tupO x1 y1 t1 u1) ∈ L) (h2 : (T2, tupO x2 y2 t2 u2) ∈ L) (h3 : (T3, tupO x3 y3 t3 u3) ∈ L) (h4 : (T4, tupO x4 y4 t4 u4) ∈ L) (h5 : (T5, tupO x5 y5 t5 u5) ∈ L)
    (b1 : (0 < x1 ∧ x1 < 10) ∧ (0 < y1 ∧ y1 < 10)) (b2 : (0 < x2 ∧ x2 < 10) ∧ (0 < y2 ∧ y2 < 10)) (b3 : (0 < x3 ∧ x3 < 10) ∧ (0 < y3 ∧ y3 < 10)) (b4 : (0 < x4 ∧ x4 < 10) ∧ (0 < y4 ∧ y4 < 10)) (b5 : (0 < x5 ∧ x5 < 10) ∧ (0 < y5 ∧ y5 < 10)) :
    ∀ v ∈ [Value.ref T1, .ref T2, .ref T3, .ref T4, .ref T5], ∃ T x y tx ty, v = .ref T ∧ (T, tupO x y tx ty) ∈ L ∧ (0 < x ∧ x < 10) ∧ (0 < y ∧ y < 10) := by
  intro v hv
  simp only [List.mem_cons, List.not_mem_nil, or_false] at hv
  rcases hv with rfl | rfl | rfl | rfl | rfl
  · exact ⟨_, _, _, _, _, rfl, h1, b1⟩
  · exact ⟨_, _, _, _, _, rfl, h2, b2⟩
  · exact ⟨_, _, _, _, _, rfl, h3, b3⟩
  · exact ⟨_, _, _, _, _, rfl, h4, b4⟩
  · exact ⟨_, _, _, _, _, rfl, h5, b5⟩
abbrev Dig (x y : Int) : Prop := (0 < x ∧ x < 10) ∧ (0 < y ∧ y < 10)
theorem onePair5_ok {w : World} {mean : ExcName → Option Value} {mg mb : PySem.Str → Option Value} {S TL : Addr} {a b : Int} {t u : Tok} {n n2 : Nat} {news : Led} {g : Obj → Led} {T1 T2 T3 T4 T5 : Addr} {x1 x2 x3 x4 x5 y1 y2 y3 y4 y5 : Int} {t1 t2 t3 t4 t5 u1 u2 u3 u4 u5 : Tok} :
    CallOk w mean mg mb 373 [.ref S, .ref TL] news 2 (fun _ => UpdF S (srcO a b t u n) news g ∧ (TL, listOf [Value.ref T1, .ref T2, .ref T3, .ref T4, .ref T5].toArray n2) ∈ news ∧ (∀ o, (TL, listOf [Value.ref T1, .ref T2, .ref T3, .ref T4, .ref T5].toArray n2) ∈ g o) ∧ 0 ≤ b ∧ b < 2147483647 ∧
      (∀ o, (T1, tupO x1 y1 t1 u1) ∈ g o) ∧ (∀ o, (T2, tupO x2 y2 t2 u2) ∈ g o) ∧ (∀ o, (T3, tupO x3 y3 t3 u3) ∈ g o) ∧ (∀ o, (T4, tupO x4 y4 t4 u4) ∈ g o) ∧ (∀ o, (T5, tupO x5 y5 t5 u5) ∈ g o) ∧ Dig x1 y1 ∧ Dig x2 y2 ∧ Dig x3 y3 ∧ Dig x4 y4 ∧ Dig x5 y5) (RetOnePair g) :=
  fun dp un gd cn cs ca ccd cl outer A₀ base h₀ L m s Q E B F X N T hk hd hu hp hret => by
    obtain ⟨p1, p2, p3, p4, p5, q1, q2, q3, q4, q5, d1, d2, d3, d4, d5⟩ := hp
    exact onePair_ok dp un gd cn cs ca ccd cl outer A₀ base h₀ L m s Q E B F X N T hk hd hu ⟨p1, p2, p3, Nat.le_of_ble_eq_true rfl, Nat.le_of_ble_eq_true rfl, p4, p5, fun o => pairs5 (q1 o) (q2 o) (q3 o) (q4 o) (q5 o) d1 d2 d3 d4 d5⟩ hret
theorem bs_cons {S KN : Addr} (okn : Obj) {B : Led} (h : ∀ p ∈ B, p.1 ≠ S) (e : @Ne Nat S KN) : ∀ p ∈ ((KN, okn) :: B : Led), p.1 ≠ S := fun p hp => by
  rcases List.mem_cons.mp hp with rfl | hp
  · exact Ne.symm e
  · exact h p hp
theorem LEnv.start {w : World} {W H : Nat} {l t : Int} {C dC CL : Addr} {rs : List Addr} {n1 : Nat} {t1 t2 t3 t4 t5 u1 u2 u3 u4 : Tok} {okn : Obj} {xs : List (List Int × Addr × Value)} {cc : Addr} {oc : Obj} (KN : Addr) {B : Led}
    (hcell : (cc, oc) ∈ B) (hC : (C, instObj 278 dC) ∈ B) (hdC : (dC, canO w (W : Int) (H : Int) l t CL t1 t2 t3 t4 t5 u1 u2 u3 u4) ∈ B) (hCL : (CL, listOf (rs.map Value.ref).toArray n1) ∈ B) (hT : KT w okn B xs) (hrows : ∀ j < H, RowOk B W rs xs j W) :
    LEnv w W H l t C dC CL rs n1 t1 t2 t3 t4 t5 u1 u2 u3 u4 okn xs cc oc KN ((KN, okn) :: B) :=
  have hs : ∀ p ∈ B, p ∈ ((KN, okn) :: B : Led) := fun _ hp => .tail _ hp
  ⟨hs _ hcell, hs _ hC, hs _ hdC, hs _ hCL, hT.mono hs, fun j hj => by
    obtain ⟨R, row, n, a, b, c, d⟩ := hrows j hj
    exact ⟨R, row, n, a, hs _ b, c, fun i hi => (d i hi).mono hs rfl rfl⟩, .head _⟩
abbrev RetOnePairB (S : Addr) (news : Led) : RetT := fun h₀ L m s Q => ∀ (T : Addr) (x y : Int) (tx ty : Tok) (a' b' : Int) (t u : Tok) (n' : Nat) (B : Led) (h' : Heap) (tk' : Nat), (T, tupO x y tx ty) ∈ B → (0 < x ∧ x < 10) → (0 < y ∧ y < 10) → Fr h₀ L h' m → News h₀ L h' ((S, srcO a' b' t u n') :: B) →
  (∀ p ∈ B, p.1 ≠ S) → (∀ p ∈ news, @Ne Nat p.1 S → p ∈ B) → 0 ≤ b' → b' < 2147483647 → Q (.ref T) { s with heap := h', toks := tk' }
theorem upd_other {d : Addr} {o o' : Obj} {l : Led} {g : Obj → Led} (U : UpdF d o l g) {p : Addr × Obj} (hp : p ∈ l) (hne : @Ne Nat p.1 d) : p ∈ g o' := by
  obtain ⟨pre, post, e, e', _, _⟩ := U.split
  rw [e'] 
  rw [e] at hp
  rcases List.mem_append.mp hp with h | h
  · exact List.mem_append_left _ h
  · rcases List.mem_cons.mp h with rfl | h
    · exact absurd rfl hne
    · exact List.mem_append_right _ (.tail _ h)
theorem onePairB_ok {w : World} {mean : ExcName → Option Value} {mg mb : PySem.Str → Option Value} {S TL : Addr} {a b : Int} {t u : Tok} {n n2 : Nat} {news : Led} {g : Obj → Led} {T1 T2 T3 T4 T5 : Addr} {x1 x2 x3 x4 x5 y1 y2 y3 y4 y5 : Int} {t1 t2 t3 t4 t5 u1 u2 u3 u4 u5 : Tok} :
    CallOk w mean mg mb 373 [.ref S, .ref TL] news 2 (fun _ => UpdF S (srcO a b t u n) news g ∧ (TL, listOf [Value.ref T1, .ref T2, .ref T3, .ref T4, .ref T5].toArray n2) ∈ news ∧ (∀ o, (TL, listOf [Value.ref T1, .ref T2, .ref T3, .ref T4, .ref T5].toArray n2) ∈ g o) ∧ 0 ≤ b ∧ b < 2147483647 ∧
      (∀ o, (T1, tupO x1 y1 t1 u1) ∈ g o) ∧ (∀ o, (T2, tupO x2 y2 t2 u2) ∈ g o) ∧ (∀ o, (T3, tupO x3 y3 t3 u3) ∈ g o) ∧ (∀ o, (T4, tupO x4 y4 t4 u4) ∈ g o) ∧ (∀ o, (T5, tupO x5 y5 t5 u5) ∈ g o) ∧ Dig x1 y1 ∧ Dig x2 y2 ∧ Dig x3 y3 ∧ Dig x4 y4 ∧ Dig x5 y5) (RetOnePairB S news) :=
  fun dp un gd cn cs ca ccd cl outer A₀ base h₀ L m s Q E B F X N T hk hd hu hp hret =>
    onePair5_ok dp un gd cn cs ca ccd cl outer A₀ base h₀ L m s Q E B F X N T hk hd hu hp fun T x y tx ty a' b' t' u' n' h' tk' hm hx hy F' N' b0 b1 => by
      have hS : (S, srcO a' b' t' u' n') ∈ g (srcO a' b' t' u' n') := upd_mem hp.1
      obtain ⟨B', N1, hBS, hB⟩ := law_start N' hS
      exact hret T x y tx ty a' b' t' u' n' B' h' tk' (hB _ hm (cls_ne N' hm hS tuple_ne_list)) hx hy F' N1 hBS (fun p h1 h2 => hB p (upd_other hp.1 h1 h2) h2) b0 b1
abbrev RetPatt (w : World) (news : Led) (C M a b : Addr) : RetT := fun h₀ L m s Q => ∀ (X d : Addr) (t1 t2 t3 t4 : Tok) (h' : Heap) (tk' : Nat), Fr h₀ L h' m → News h₀ L h' ((X, instObj 203 d) :: (d, patO w C M a b t1 t2 t3 t4) :: news) → (∀ p ∈ news, p.1 < d) → d < X → Q (.ref X) { s with heap := h', toks := tk' }
set_option maxRecDepth 100000 in
set_option maxHeartbeats 4000000 in
theorem pat_ok {w : World} {mean : ExcName → Option Value} {mg mb : PySem.Str → Option Value} {C M a b : Addr} {news : Led} :
    CallOk w mean mg mb 203 [.ref C, .ref M, .ref a, .ref b] news 3 (fun _ => True) (RetPatt w news C M a b) := by
  k_with_none
  unfold CallOk
  k_fill
  intro dp un gd cn cs ca ccd cl outer A₀ base h₀ L m s Q E B F X N T hk hd hu hpre hret
  k_steps
  all_goals (try k_data)
  all_goals first
    | exact hret _ _ _ _ _ _ _ _ (by assumption) (by assumption) (by assumption) (by assumption)
    | fail "left"
abbrev lw (p i a d bo tp h w k c : Option Value) (m : PySem.Str → Option Value) : PySem.Str → Option Value := fun z => if z = Str.ofString "pattern" then p else if z = Str.ofString "inverse" then i else if z = Str.ofString "across" then a else if z = Str.ofString "down" then d else if z = Str.ofString "bottom" then bo else if z = Str.ofString "top" then tp else if z = Str.ofString "height" then h else if z = Str.ofString "width" then w else if z = Str.ofString "known" then k else if z = Str.ofString "canvas" then c else m z
theorem bottom_ok {y : Int} (h : 0 < y ∧ y < 10) : 0 < y ∧ Low 8000 y := ⟨h.1, (small_low (k := 10) (b := 10) (by omega) (by decide)).mono (by decide)⟩
local macro_rules | `(tactic| walk_at "newTuple") => `(tactic| (k_here; k_dflt (refine' kup_newTuple ?F ?N ?_ ?z; (case F => k_asm); (case N => k_asm); (case z => kmk_size)); intro D' h' F' N' l1; (try k_lt l1)))
local macro_rules | `(tactic| walk_at "mine_call") => `(tactic| (
  apply pool_ok; walk_at "mine_args"; (case kp => (refine ⟨?_, ?_, ?_⟩; assumption; assumption; omega)); (intro S9 a9 b9 t9 u9 n9 h9 tk9 F9 N9 l9 b0 b1; (try k_lt l9); (try dsimp only); (try k_fold))))
local macro_rules | `(tactic| walk_at "mine_call") => `(tactic| (
  apply lawCanvas_ok; walk_at "mine_args"; (case kp => (refine ⟨?_, ?_, ?_⟩; k_all; assumption; assumption));
  (intro D9 W9 H9 l9 t9 C9 dC9 CL9 KN9 rs9 n19 t91 t92 t93 t94 t95 u91 u92 u93 u94 okn9 xs9 a9 b9 ta9 ub9 n9 B9 k91 k92 h9 tk9 hW9 hH9 hSK9 hC9 hdC9 hCL9 hsub9 hT9 hrows9 hBS9 b0 b1 F9 N9 lt9; have hcell9 := hsub9 _ (.head _); have hE9 := LEnv.start KN9 hcell9 hC9 hdC9 hCL9 hT9 hrows9; have hBT9 := bs_cons okn9 hBS9 hSK9; obtain ⟨hWa9, hWb9⟩ := hW9; obtain ⟨hHa9, hHb9⟩ := hH9; (simp only [AllLt, and_true] at lt9); (try dsimp only); (try k_fold))))
local macro_rules | `(tactic| walk_at "mine_call") => `(tactic| (
  apply onePairB_ok; walk_at "mine_args"; (case kp => (refine ⟨?_, ?_, ?_, ?_, ?_, ?_, ?_, ?_, ?_, ?_, ?_, ?_, ?_, ?_, ?_⟩; (k_updF); (k_mem); (intro o; k_mem); (first | assumption | omega); (first | assumption | omega); (intro o; k_mem); (intro o; k_mem); (intro o; k_mem); (intro o; k_mem); (intro o; k_mem); decide; decide; decide; decide; decide)); (rename LEnv _ _ _ _ _ _ _ _ _ _ _ _ _ _ _ _ _ _ _ _ _ _ _ _ _ => hE7; rename ∀ p ∈ _, Prod.fst p ≠ _ => hBS7; intro T9 x9 y9 tx9 ty9 a9 b9 t9 u9 n9 B8 h9 tk9 hT9 hx9 hy9 F9 N9 hBS8 hB8 b0 b1; have hbo9 := bottom_ok hy9; have hE8 := hE7.mono (fun p hp => hB8 p (by repeat (first | exact hp | refine List.Mem.tail _ ?_)) (hBS7 p hp)); have hc8 := hE8.hcell; clear hE7 hBS7 hB8; (repeat (rename @LT.lt Nat _ _ _ ∧ _ => hz9; clear hz9)); (try dsimp only); (try k_fold))))
local macro_rules | `(tactic| walk_at "mine_call") => `(tactic| (
  apply translation_ok; walk_at "mine_args"; (case kp => trivial); (intro X9 d9 t91 t92 t93 t94 t95 t96 h9 tk9 F9 N9 l9 l8; (try k_lt l9); (try k_lt2 l8); (try dsimp only); (try k_fold))))
local macro_rules | `(tactic| walk_at "mine_call") => `(tactic| (
  apply pat_ok; walk_at "mine_args"; (case kp => trivial); (intro X9 d9 t91 t92 t93 t94 h9 tk9 F9 N9 l9 l8; (try k_lt l9); (try k_lt2 l8); (try dsimp only); (try k_fold))))
local macro_rules | `(tactic| walk_at "mine_call") => `(tactic| (
  apply oneInt8_ok; walk_at "mine_args"; (case kp => (refine ⟨?_, ?_, ?_, ?_, ?_, ?_, ?_, ?_, ?_, ?_, ?_, ?_, ?_⟩; (k_updF); (k_mem); (intro o; k_mem); (first | assumption | omega); (first | assumption | omega); decide; decide; decide; decide; decide; decide; (exact ten9); omega)); (intro k9 v9 a9 b9 t9 u9 n9 h9 tk9 k0 k1 F9 N9 b0 b1; (try dsimp only at N9); (try dsimp only); (try k_fold))))
local macro_rules | `(tactic| walk_at "mine_call") => `(tactic| (
  apply lawDot_ok; walk_at "mine_args"; (case kp => omega); walk_at "mine_int"))
local macro_rules | `(tactic| walk_at "mine_dot") => `(tactic| first | (with_reducible assumption) | (refine Eq.trans (dotI_far ?_ ?_) ?_; omega; omega; (with_reducible assumption)))
local macro_rules | `(tactic| walk_at "mine_call") => `(tactic| (
  apply at2_ok; walk_at "mine_args"; (case kp => (refine ⟨?p1, ?p2, ?p3, ?p4, ?p5, ?p6, ?p7, ?p8, ?p9, ?p10, ?p11, ?p12, ?p13, ?p14, ?p15, ?p16, ?p17⟩; (case p1 => k_mem); (case p2 => k_mem); (case p3 => k_mem); (case p4 => k_mem); (case p5 => k_mem); (case p16 => assumption); (case p6 => k_mem); (case p7 => k_mem); (case p8 => k_mem); (case p9 => exact RatTU.made (by k_mem)); (case p10 => exact RatTU.made (by k_mem)); (case p11 => exact RatTU.made (by k_mem)); (case p12 => exact RatTU.made (by k_mem)); (case p14 => walk_at "mine_dot"); (case p15 => walk_at "mine_dot"); (case p17 => assumption); (case p13 => (refine ⟨?_, ?_, ?_, ?_, ?_, ?_, ?_, ?_, ?_, ?_, ?_, ?_⟩; omega; omega; omega; omega; omega; omega; omega; omega; omega; omega; (first | exact far_abs (by omega) (by omega) (by omega) (by omega) | omega); (first | exact far_abs (by omega) (by omega) (by omega) (by omega) | omega))))); walk_at "mine_val"))
local macro_rules | `(tactic| walk_at "binaryOp Mult int int") => `(tactic| (k_here; (with_reducible refine mul_int ?_ ?hm); (case hm => first | (with_reducible assumption) | exact small_mul (by first | exact mul_lt (x := 1000) (y := 1000) (by omega) (by omega) (by decide) | omega) (by omega))))
local macro_rules | `(tactic| walk_at "subscriptTail") => `(tactic| (k_here; (with_reducible show wpAny _ _ (subscriptTail _ _ (Value.ref _) (Value.ref _)) _ _ _); k_dflt (refine' mine_ksubR ?R ?N ?T ?d ?B ?K ?u ?h1 ?h2 ?_ ?s ?g; (case R => assumption); (case N => k_asm); (case T => assumption); (case d => k_mem); (case B => walk_at "mine_sub"); (case K => k_mem); (case u => ktr_units); (case h1 => exact ⟨dotI_lo (by omega), dotI_hi (by omega)⟩); (case h2 => exact ⟨dotI_lo (by omega), dotI_hi (by omega)⟩); (case s => with_unfolding_all rfl); (case g => (intro _; with_unfolding_all rfl))); intro i9 j9 R9 T9 row9 n9 c09 c19 c29 c39 k09 k19 k29 k39 tk9 ei9 ej9 hrow9 hR9 hcell9 hT9; (try dsimp only)))
local macro_rules | `(tactic| lcg_off) => `(tactic| walk_at "mine_tail")
local macro_rules | `(tactic| walk_at "CompEnd") => `(tactic| (refine' mine_compEnd1 ?cF ?cN ?cO ?cS ?_; (case cF => assumption); (case cN => assumption); (case cO => lcg_off); (case cS => lcg_src)))
local macro_rules | `(tactic| walk_at "binaryOp Pow int int") => `(tactic| (k_here; (with_reducible refine pow_int_small ?kb1 ?kb2 ?kb3 ?_); (case kb1 => decide); (case kb2 => decide); (case kb3 => decide)))
local macro_rules | `(tactic| walk_at "mine_call") => `(tactic| (
  (with_reducible show wpAny _ _ (call (Value.ref 200) [_, Value.int 0 _, Value.int 0 _]) _ _ _); apply atC_ok; walk_at "mine_args"; (case kp => (refine ⟨?_, ?_, ?_, ?_, ?_, ?_, ?_, ?_, ?_, ?_, ?_⟩; k_mem; k_mem; k_mem; k_mem; k_mem; k_mem; omega; omega; omega; omega; omega)); walk_at "mine_val"))
local macro_rules | `(tactic| walk_at "mine_call") => `(tactic| (
  (with_reducible show wpAny _ _ (call (Value.ref 186) _) _ _ _); apply emptyT_ok; walk_at "mine_args"; (case kp => (refine ⟨?_, ?_, ?_, ?_, ?_, ?_, ?_, ?_, ?_, ?_, ?_⟩; k_mem; k_mem; k_mem; k_mem; k_mem; k_mem; omega; omega; omega; omega; omega)); walk_at "mine_val"))
local macro_rules | `(tactic| walk_at "mine_call") => `(tactic| (
  (with_reducible show wpAny _ _ (call (Value.ref 186) _) _ _ _); apply emptyF_ok; walk_at "mine_args"; (case kp => (refine ⟨?_, ?_, ?_, ?_, ?_, ?_, ?_, ?_⟩; assumption; assumption; assumption; assumption; assumption; assumption; (walk_at "mine_sub"); omega)); walk_at "mine_val"))
local macro_rules | `(tactic| walk_at "compareOp NotEq ref ref") => `(tactic| (k_here; (with_reducible show wpAny _ _ (compareOp CmpOp.NotEq (Value.ref 158) (Value.ref _)) _ _ _); k_dflt (refine' clear_ne ?X ?F ?N ?D ?u ?_; (case X => k_asm); (case F => k_asm); (case N => k_asm); (case D => exact .head _); (case u => ke_room); k_whole)))
local macro_rules | `(tactic| walk_at "FinE") => `(tactic| ((repeat (rename @Ne Nat _ _ ∧ _ => hz9; clear hz9)); (repeat (rename (@Ne Nat _ _ ∧ _) ∧ _ => hz9; clear hz9)); (unfold LCg.FinE); intro D' h' tk' F' N' o1'; (try simp only [LCg.Off1, and_true] at o1'); (try simp only [List.nil_append, List.cons_append] at N'); (try dsimp only)))
section
local macro_rules | `(tactic| walk_at "pyIter ref") => `(tactic| (refine Stop.of ?_))
local macro_rules | `(tactic| walk_at "mine_pos") => `(tactic| (repeat (first | exact .head _ | refine .tail _ ?_)))
set_option maxRecDepth 100000 in
set_option maxHeartbeats 0 in
theorem law_holds : PySem.Challenge.rw_nu0022_01.Holds := by
  k_with_none
  exact Mine.hd (by w_strict (
    k_go0
    all_goals (try k_fold)
    k_steps
    unfold Stop
    rename IsRange _ _ _ _ _ _ _ _ => hR
    rename Fr _ _ _ _ => hF
    rename News _ _ _ _ => hN
    rename LEnv _ _ _ _ _ _ _ _ _ _ _ _ _ _ _ _ _ _ _ _ _ _ _ _ _ => hE
    rename ∀ p ∈ _, Prod.fst p ≠ _ => hBS9
    have hF9 : Fr _ _ _ (lw _ _ _ _ _ _ _ _ _ _ _) := hF
    clear hF
    obtain ⟨B, hN1, hBS, hB⟩ := law_start hN (.tail _ (.tail _ (.tail _ (.tail _ (.tail _ (.tail _ (.tail _ (.tail _ (.tail _ (.head _))))))))))
    have f1 := hB _ (.head _) (by dsimp only; omega)
    have f2 := hB _ (.tail _ (.head _)) (by dsimp only; omega)
    have f3 := hB _ (.tail _ (.tail _ (.head _))) (by dsimp only; omega)
    have f4 := hB _ (.tail _ (.tail _ (.tail _ (.head _)))) (by dsimp only; omega)
    have f5 := hB _ (.tail _ (.tail _ (.tail _ (.tail _ (.head _))))) (by dsimp only; omega)
    have f6 := hB _ (.tail _ (.tail _ (.tail _ (.tail _ (.tail _ (.head _)))))) (by dsimp only; omega)
    have f7 := hB _ (.tail _ (.tail _ (.tail _ (.tail _ (.tail _ (.tail _ (.head _))))))) (by dsimp only; omega)
    have f8 := hB _ (.tail _ (.tail _ (.tail _ (.tail _ (.tail _ (.tail _ (.tail _ (.head _)))))))) (by dsimp only; omega)
    have hs9 : ∀ p ∈ _, p ∈ B := fun p hp => hB p (.tail _ (.tail _ (.tail _ (.tail _ (.tail _ (.tail _ (.tail _ (.tail _ (.tail _ (.tail _ (hp))))))))))) (hBS9 p hp)
    obtain ⟨g0, g1, g2, g3, g4, g5, g6⟩ := hE.mono hs9
    clear hs9 hB hBS9 hN hE
    repeat (rename @LT.lt Nat _ _ _ ∧ _ => hx9; clear hx9)
    k_dflt (refine' range_invZ (n := 5) (JL _ B _) rfl hR rfl (by decide) hF9 hN1 (JL.start ?b0 ?b1) ?turn ?done)
    case b0 => assumption
    case b1 => assumption
    case done =>
      intro m news h tk hJ hF2 hN2
      obtain ⟨⟨u1, u2, u3, u4, u5, u6, rfl⟩, a, b, t', u', n, rfl, c0, c1⟩ := hJ
      clear hN1 hF9
      k_steps
      all_goals (try k_data)
    case turn =>
      intro I i m news it t h tk hi hoff hJ hit hF2 hN2
      obtain ⟨⟨u1, u2, u3, u4, u5, u6, rfl⟩, a, b, t', u', n, rfl, c0, c1⟩ := hJ
      have e1 : @Ne Nat _ I := hoff _ (.head _)
      have hBI : ∀ p ∈ B, p.1 ≠ I := fun p hp => hoff p (.tail _ hp)
      dsimp only at e1
      clear hN1 hF9
      k_steps
      rename Fr _ _ _ _ => hF5
      rename News _ _ _ _ => hN5
      k_dflt (refine' law_end hF5 hN5 ?hI ?hS ?hB ?b0 ?b1 e1 hBI)
      case hI => walk_at "mine_pos"
      case hS => walk_at "mine_pos"
      case hB => walk_at "mine_sub"
      case b0 => assumption
      case b1 => assumption))
end
end Mine
theorem PySem.Challenge.cw_nu0022_01_holds : PySem.Challenge.rw_nu0022_01.Holds := by
  exact Mine.law_holds
