import PyProof.Rows.All
import Wide.All
import OpenK.AllK
import Wide.FinOn
import PySem.Challenge.RW_pf0204_01
set_option Elab.async false
set_option maxRecDepth 100000
set_option maxHeartbeats 8000000
set_option linter.all false
section
open PySem PySem.W PyProof.Rows
namespace hd
noncomputable abbrev pw : Program := PySem.Challenge.rw_pf0204_01.row.toRowW.prog
noncomputable def nth : List Stmt → Nat → Stmt
  | [], _ => .Pass (.mk 0 0 0 0)
  | s :: _, 0 => s
  | _ :: r, i + 1 => nth r i
noncomputable def inCls : Stmt → List Stmt
  | .ClassDef _ _ _ b .. => b
  | _ => []
noncomputable def tst (i : Nat) : Stmt := nth pw.main.body i
noncomputable def mst (i j : Nat) : Stmt := nth (inCls (nth pw.main.body i)) j
/-- a function's object, its text taken from the program -/
noncomputable def fo (s : Stmt) (f : Str → Arguments → List Stmt → Scope → Obj) : Obj := match s with
  | .FunctionDef nm ar bo _ _ _ sc .. => f nm ar bo sc
  | _ => PySem.Obj.mk PySem.Value.none none (PySem.Data.dict #[] 0) #[]
noncomputable def view_39 : Program := { pw with main := { pw.main with body := [tst 0, tst 2, tst 3, tst 4, tst 6, tst 7, tst 8, tst 10, tst 11, tst 12, tst 14, tst 16, tst 17, tst 18, tst 19, tst 20, tst 21, tst 22, tst 23, tst 25, tst 26, tst 28, tst 29, tst 30, tst 31, tst 32, tst 33, tst 34, tst 35, tst 36, tst 37, tst 38] } }
noncomputable def heap_39 : Params → Frag := fun P => (nat_lit 2, PySem.Obj.mk PySem.Value.none none (PySem.Data.dict #[PySem.DictEntry.mk (PySem.PyData.keyHash P (PySem.Str.ofString "type.__subclasses__.Exception.0")) (PySem.Value.str (PySem.Str.ofString "type.__subclasses__.Exception.0") 221) (PySem.Value.int 38 0), PySem.DictEntry.mk (PySem.PyData.keyHash P (PySem.Str.ofString "type.__subclasses__.Exception.n")) (PySem.Value.str (PySem.Str.ofString "type.__subclasses__.Exception.n") 222) (PySem.Value.int 1 0)] 2) #[]) ::
  (nat_lit 3, PySem.Obj.mk (PySem.Value.type "dict") none (PySem.Data.dict #[PySem.DictEntry.mk (PySem.PyData.keyHash P (PySem.Str.ofString "__name__")) (PySem.Value.str (PySem.Str.ofString "__name__") 165) (PySem.Value.str (PySem.Str.ofString "law_pf0204_01") 599), PySem.DictEntry.mk (PySem.PyData.keyHash P (PySem.Str.ofString "__doc__")) (PySem.Value.str (PySem.Str.ofString "__doc__") 166) PySem.Value.none, PySem.DictEntry.mk (PySem.PyData.keyHash P (PySem.Str.ofString "__package__")) (PySem.Value.str (PySem.Str.ofString "__package__") 167) PySem.Value.none, PySem.DictEntry.mk (PySem.PyData.keyHash P (PySem.Str.ofString "__loader__")) (PySem.Value.str (PySem.Str.ofString "__loader__") 168) (PySem.Value.builtin "__main__.__loader__#opaque"), PySem.DictEntry.mk (PySem.PyData.keyHash P (PySem.Str.ofString "__spec__")) (PySem.Value.str (PySem.Str.ofString "__spec__") 169) PySem.Value.none, PySem.DictEntry.mk (PySem.PyData.keyHash P (PySem.Str.ofString "__annotations__")) (PySem.Value.str (PySem.Str.ofString "__annotations__") 170) (PySem.Value.ref 6), PySem.DictEntry.mk (PySem.PyData.keyHash P (PySem.Str.ofString "__builtins__")) (PySem.Value.str (PySem.Str.ofString "__builtins__") 171) (PySem.Value.ref 4), PySem.DictEntry.mk (PySem.PyData.keyHash P (PySem.Str.ofString "__file__")) (PySem.Value.str (PySem.Str.ofString "__file__") 173) (PySem.Value.str (PySem.Str.ofString "/claim/cut.py") 172), PySem.DictEntry.mk (PySem.PyData.keyHash P (PySem.Str.ofString "__cached__")) (PySem.Value.str (PySem.Str.ofString "__cached__") 174) PySem.Value.none, PySem.DictEntry.mk (PySem.PyData.keyHash P (PySem.Str.ofString "_wall")) (PySem.Value.str (PySem.Str.ofString "_wall") 193) (PySem.Value.ref 21), PySem.DictEntry.mk (PySem.PyData.keyHash P (PySem.Str.ofString "MillError")) (PySem.Value.str (PySem.Str.ofString "MillError") 224) (PySem.Value.ref 38), PySem.DictEntry.mk (PySem.PyData.keyHash P (PySem.Str.ofString "NumberFault")) (PySem.Value.str (PySem.Str.ofString "NumberFault") 240) (PySem.Value.ref 51), PySem.DictEntry.mk (PySem.PyData.keyHash P (PySem.Str.ofString "PathFault")) (PySem.Value.str (PySem.Str.ofString "PathFault") 267) (PySem.Value.ref 70), PySem.DictEntry.mk (PySem.PyData.keyHash P (PySem.Str.ofString "ZERO")) (PySem.Value.str (PySem.Str.ofString "ZERO") 272) (PySem.Value.ref 73), PySem.DictEntry.mk (PySem.PyData.keyHash P (PySem.Str.ofString "ONE")) (PySem.Value.str (PySem.Str.ofString "ONE") 275) (PySem.Value.ref 74), PySem.DictEntry.mk (PySem.PyData.keyHash P (PySem.Str.ofString "common_divisor")) (PySem.Value.str (PySem.Str.ofString "common_divisor") 285) (PySem.Value.ref 81), PySem.DictEntry.mk (PySem.PyData.keyHash P (PySem.Str.ofString "fraction")) (PySem.Value.str (PySem.Str.ofString "fraction") 295) (PySem.Value.ref 89), PySem.DictEntry.mk (PySem.PyData.keyHash P (PySem.Str.ofString "plus")) (PySem.Value.str (PySem.Str.ofString "plus") 303) (PySem.Value.ref 96), PySem.DictEntry.mk (PySem.PyData.keyHash P (PySem.Str.ofString "times")) (PySem.Value.str (PySem.Str.ofString "times") 311) (PySem.Value.ref 103), PySem.DictEntry.mk (PySem.PyData.keyHash P (PySem.Str.ofString "rounded")) (PySem.Value.str (PySem.Str.ofString "rounded") 318) (PySem.Value.ref 110), PySem.DictEntry.mk (PySem.PyData.keyHash P (PySem.Str.ofString "spot_of")) (PySem.Value.str (PySem.Str.ofString "spot_of") 331) (PySem.Value.ref 117), PySem.DictEntry.mk (PySem.PyData.keyHash P (PySem.Str.ofString "is_near")) (PySem.Value.str (PySem.Str.ofString "is_near") 350) (PySem.Value.ref 124), PySem.DictEntry.mk (PySem.PyData.keyHash P (PySem.Str.ofString "is_flat")) (PySem.Value.str (PySem.Str.ofString "is_flat") 359) (PySem.Value.ref 131), PySem.DictEntry.mk (PySem.PyData.keyHash P (PySem.Str.ofString "middle")) (PySem.Value.str (PySem.Str.ofString "middle") 367) (PySem.Value.ref 138), PySem.DictEntry.mk (PySem.PyData.keyHash P (PySem.Str.ofString "halves")) (PySem.Value.str (PySem.Str.ofString "halves") 373) (PySem.Value.ref 143), PySem.DictEntry.mk (PySem.PyData.keyHash P (PySem.Str.ofString "flat_spots")) (PySem.Value.str (PySem.Str.ofString "flat_spots") 388) (PySem.Value.ref 150), PySem.DictEntry.mk (PySem.PyData.keyHash P (PySem.Str.ofString "rounded_spot")) (PySem.Value.str (PySem.Str.ofString "rounded_spot") 396) (PySem.Value.ref 157), PySem.DictEntry.mk (PySem.PyData.keyHash P (PySem.Str.ofString "unlike_neighbours")) (PySem.Value.str (PySem.Str.ofString "unlike_neighbours") 405) (PySem.Value.ref 164), PySem.DictEntry.mk (PySem.PyData.keyHash P (PySem.Str.ofString "Flattener")) (PySem.Value.str (PySem.Str.ofString "Flattener") 496) (PySem.Value.ref 226), PySem.DictEntry.mk (PySem.PyData.keyHash P (PySem.Str.ofString "Matrix")) (PySem.Value.str (PySem.Str.ofString "Matrix") 592) (PySem.Value.ref 289), PySem.DictEntry.mk (PySem.PyData.keyHash P (PySem.Str.ofString "identity")) (PySem.Value.str (PySem.Str.ofString "identity") 598) (PySem.Value.ref 300), PySem.DictEntry.mk (PySem.PyData.keyHash P (PySem.Str.ofString "_law_pool")) (PySem.Value.str (PySem.Str.ofString "_law_pool") 611) (PySem.Value.ref 307), PySem.DictEntry.mk (PySem.PyData.keyHash P (PySem.Str.ofString "_law_take")) (PySem.Value.str (PySem.Str.ofString "_law_take") 620) (PySem.Value.ref 314), PySem.DictEntry.mk (PySem.PyData.keyHash P (PySem.Str.ofString "_law_one")) (PySem.Value.str (PySem.Str.ofString "_law_one") 628) (PySem.Value.ref 321), PySem.DictEntry.mk (PySem.PyData.keyHash P (PySem.Str.ofString "_law_place")) (PySem.Value.str (PySem.Str.ofString "_law_place") 634) (PySem.Value.ref 326), PySem.DictEntry.mk (PySem.PyData.keyHash P (PySem.Str.ofString "_law_gap")) (PySem.Value.str (PySem.Str.ofString "_law_gap") 643) (PySem.Value.ref 333), PySem.DictEntry.mk (PySem.PyData.keyHash P (PySem.Str.ofString "_law_is_beside")) (PySem.Value.str (PySem.Str.ofString "_law_is_beside") 660) (PySem.Value.ref 340), PySem.DictEntry.mk (PySem.PyData.keyHash P (PySem.Str.ofString "_law_spots_right")) (PySem.Value.str (PySem.Str.ofString "_law_spots_right") 666) (PySem.Value.ref 345), PySem.DictEntry.mk (PySem.PyData.keyHash P (PySem.Str.ofString "_law_fraction")) (PySem.Value.str (PySem.Str.ofString "_law_fraction") 674) (PySem.Value.ref 352), PySem.DictEntry.mk (PySem.PyData.keyHash P (PySem.Str.ofString "_law_grains")) (PySem.Value.str (PySem.Str.ofString "_law_grains") 682) (PySem.Value.ref 359), PySem.DictEntry.mk (PySem.PyData.keyHash P (PySem.Str.ofString "_law_contour_right")) (PySem.Value.str (PySem.Str.ofString "_law_contour_right") 688) (PySem.Value.ref 364), PySem.DictEntry.mk (PySem.PyData.keyHash P (PySem.Str.ofString "law")) (PySem.Value.str (PySem.Str.ofString "law") 696) (PySem.Value.ref 371)] 42) #[]) ::
  (nat_lit 15, PySem.Obj.mk (PySem.Value.type "tuple") none (PySem.Data.seq #[]) #[]) ::
  (nat_lit 17, PySem.Obj.mk (PySem.Value.type "tuple") none (PySem.Data.seq #[PySem.Value.str (PySem.Str.ofString "k") 190]) #[]) ::
  (nat_lit 18, PySem.Obj.mk (PySem.Value.type "tuple") none (PySem.Data.seq #[]) #[]) ::
  (nat_lit 20, PySem.Obj.mk (PySem.Value.type "code") none (PySem.Data.fields #[PySem.Value.str (PySem.Str.ofString "_wall") 187, PySem.Value.str (PySem.Str.ofString "_wall") 188, PySem.Value.str (PySem.Str.ofString "/claim/cut.py") 189, PySem.Value.int 1 0, PySem.Value.int 1 0, PySem.Value.int 0 0, PySem.Value.int 0 0, PySem.Value.int 3 0, PySem.Value.ref 15, PySem.Value.bool true, PySem.Value.int 181 0, PySem.Value.ref 16, PySem.Value.none, PySem.Value.ref 17, PySem.Value.ref 18, PySem.Value.ref 19, PySem.Value.int 191 0, PySem.Value.int 1 0, PySem.Value.str (PySem.Str.ofString "/claim/cut.py") 192]) #[]) ::
  (nat_lit 21, fo (tst 0) fun nm ar bo sc => PySem.Obj.mk (PySem.Value.type "function") none (PySem.Data.func (PySem.FuncData.mk nm (PySem.Str.ofString "_wall") ar (PySem.FuncBody.stmts bo) sc 3 [] PySem.Value.none PySem.Value.none PySem.Value.none (PySem.Value.str (PySem.Str.ofString "__main__") 164) none (PySem.Value.ref 20) PySem.Value.none 0)) #[]) ::
  (nat_lit 22, PySem.Obj.mk (PySem.Value.type "tuple") none (PySem.Data.seq #[PySem.Value.type "Exception"]) #[]) ::
  (nat_lit 29, PySem.Obj.mk (PySem.Value.type "tuple") none (PySem.Data.seq #[]) #[]) ::
  (nat_lit 31, PySem.Obj.mk (PySem.Value.type "tuple") none (PySem.Data.seq #[PySem.Value.str (PySem.Str.ofString "self") 211, PySem.Value.str (PySem.Str.ofString "message") 212]) #[]) ::
  (nat_lit 32, PySem.Obj.mk (PySem.Value.type "tuple") none (PySem.Data.seq #[]) #[]) ::
  (nat_lit 34, PySem.Obj.mk (PySem.Value.type "code") none (PySem.Data.fields #[PySem.Value.str (PySem.Str.ofString "__init__") 208, PySem.Value.str (PySem.Str.ofString "MillError.__init__") 209, PySem.Value.str (PySem.Str.ofString "/claim/cut.py") 210, PySem.Value.int 7 0, PySem.Value.int 2 0, PySem.Value.int 0 0, PySem.Value.int 0 0, PySem.Value.int 3 0, PySem.Value.ref 29, PySem.Value.bool true, PySem.Value.int 181 0, PySem.Value.ref 30, PySem.Value.none, PySem.Value.ref 31, PySem.Value.ref 32, PySem.Value.ref 33, PySem.Value.int 213 0, PySem.Value.int 7 0, PySem.Value.str (PySem.Str.ofString "/claim/cut.py") 214]) #[]) ::
  (nat_lit 35, fo (mst 2 0) fun nm ar bo sc => PySem.Obj.mk (PySem.Value.type "function") none (PySem.Data.func (PySem.FuncData.mk nm (PySem.Str.ofString "MillError.__init__") ar (PySem.FuncBody.stmts bo) sc 3 [] PySem.Value.none PySem.Value.none PySem.Value.none (PySem.Value.str (PySem.Str.ofString "outlinemill.errors") 194) none (PySem.Value.ref 34) PySem.Value.none 0)) #[]) ::
  (nat_lit 36, PySem.Obj.mk (PySem.Value.type "tuple") none (PySem.Data.seq #[PySem.Value.str (PySem.Str.ofString "message") 216]) #[]) ::
  (nat_lit 37, PySem.Obj.mk (PySem.Value.type "dict") none (PySem.Data.dict #[PySem.DictEntry.mk (PySem.PyData.keyHash P (PySem.Str.ofString "__module__")) (PySem.Value.str (PySem.Str.ofString "__module__") 203) (PySem.Value.str (PySem.Str.ofString "outlinemill.errors") 194), PySem.DictEntry.mk (PySem.PyData.keyHash P (PySem.Str.ofString "__firstlineno__")) (PySem.Value.str (PySem.Str.ofString "__firstlineno__") 207) (PySem.Value.int 5 206), PySem.DictEntry.mk (PySem.PyData.keyHash P (PySem.Str.ofString "__init__")) (PySem.Value.str (PySem.Str.ofString "__init__") 215) (PySem.Value.ref 35), PySem.DictEntry.mk (PySem.PyData.keyHash P (PySem.Str.ofString "__static_attributes__")) (PySem.Value.str (PySem.Str.ofString "__static_attributes__") 217) (PySem.Value.ref 36), PySem.DictEntry.mk (PySem.PyData.keyHash P (PySem.Str.ofString "__weakref__")) (PySem.Value.str (PySem.Str.ofString "__weakref__") 219) (PySem.Value.ref 39), PySem.DictEntry.mk (PySem.PyData.keyHash P (PySem.Str.ofString "__doc__")) (PySem.Value.str (PySem.Str.ofString "__doc__") 220) PySem.Value.none] 3) #[]) ::
  (nat_lit 38, PySem.Obj.mk (PySem.Value.type "type") none (PySem.Data.cls (PySem.ClassData.mk (PySem.Str.ofString "MillError") [PySem.Value.type "Exception"] [PySem.Value.ref 38, PySem.Value.type "Exception", PySem.Value.type "BaseException", PySem.Value.type "object"] 37 (PySem.Str.ofString "MillError") true [] [PySem.Value.ref 51, PySem.Value.ref 70] false none false)) #[some (PySem.Value.ref 22), none, some (PySem.Value.str (PySem.Str.ofString "MillError") 196), some (PySem.Value.str (PySem.Str.ofString "MillError") 204), some (PySem.Value.builtin "Exception.__new__"), some (PySem.Value.bool true)]) ::
  (nat_lit 39, PySem.Obj.mk (PySem.Value.type "getset_descriptor") none (PySem.Data.fields #[PySem.Value.str (PySem.Str.ofString "__weakref__") 218, PySem.Value.ref 38, PySem.Value.builtin "ExceptionGroup.__weakref__", PySem.Value.none]) #[]) ::
  (nat_lit 42, PySem.Obj.mk (PySem.Value.type "tuple") none (PySem.Data.seq #[PySem.Value.ref 38]) #[]) ::
  (nat_lit 49, PySem.Obj.mk (PySem.Value.type "tuple") none (PySem.Data.seq #[]) #[]) ::
  (nat_lit 50, PySem.Obj.mk (PySem.Value.type "dict") none (PySem.Data.dict #[PySem.DictEntry.mk (PySem.PyData.keyHash P (PySem.Str.ofString "__module__")) (PySem.Value.str (PySem.Str.ofString "__module__") 232) (PySem.Value.str (PySem.Str.ofString "outlinemill.errors") 194), PySem.DictEntry.mk (PySem.PyData.keyHash P (PySem.Str.ofString "__firstlineno__")) (PySem.Value.str (PySem.Str.ofString "__firstlineno__") 236) (PySem.Value.int 9 235), PySem.DictEntry.mk (PySem.PyData.keyHash P (PySem.Str.ofString "__static_attributes__")) (PySem.Value.str (PySem.Str.ofString "__static_attributes__") 237) (PySem.Value.ref 49), PySem.DictEntry.mk (PySem.PyData.keyHash P (PySem.Str.ofString "__doc__")) (PySem.Value.str (PySem.Str.ofString "__doc__") 238) PySem.Value.none] 2) #[]) ::
  (nat_lit 51, PySem.Obj.mk (PySem.Value.type "type") none (PySem.Data.cls (PySem.ClassData.mk (PySem.Str.ofString "NumberFault") [PySem.Value.ref 38] [PySem.Value.ref 51, PySem.Value.ref 38, PySem.Value.type "Exception", PySem.Value.type "BaseException", PySem.Value.type "object"] 50 (PySem.Str.ofString "NumberFault") true [] [] false none false)) #[some (PySem.Value.ref 42), none, some (PySem.Value.str (PySem.Str.ofString "NumberFault") 225), some (PySem.Value.str (PySem.Str.ofString "NumberFault") 233), some (PySem.Value.builtin "Exception.__new__"), some (PySem.Value.bool true)]) ::
  (nat_lit 54, PySem.Obj.mk (PySem.Value.type "tuple") none (PySem.Data.seq #[PySem.Value.ref 38]) #[]) ::
  (nat_lit 61, PySem.Obj.mk (PySem.Value.type "tuple") none (PySem.Data.seq #[]) #[]) ::
  (nat_lit 63, PySem.Obj.mk (PySem.Value.type "tuple") none (PySem.Data.seq #[PySem.Value.str (PySem.Str.ofString "self") 256, PySem.Value.str (PySem.Str.ofString "message") 257, PySem.Value.str (PySem.Str.ofString "place") 258]) #[]) ::
  (nat_lit 64, PySem.Obj.mk (PySem.Value.type "tuple") none (PySem.Data.seq #[]) #[]) ::
  (nat_lit 66, PySem.Obj.mk (PySem.Value.type "code") none (PySem.Data.fields #[PySem.Value.str (PySem.Str.ofString "__init__") 253, PySem.Value.str (PySem.Str.ofString "PathFault.__init__") 254, PySem.Value.str (PySem.Str.ofString "/claim/cut.py") 255, PySem.Value.int 13 0, PySem.Value.int 3 0, PySem.Value.int 0 0, PySem.Value.int 0 0, PySem.Value.int 3 0, PySem.Value.ref 61, PySem.Value.bool true, PySem.Value.int 181 0, PySem.Value.ref 62, PySem.Value.none, PySem.Value.ref 63, PySem.Value.ref 64, PySem.Value.ref 65, PySem.Value.int 259 0, PySem.Value.int 13 0, PySem.Value.str (PySem.Str.ofString "/claim/cut.py") 260]) #[]) ::
  (nat_lit 67, fo (mst 4 0) fun nm ar bo sc => PySem.Obj.mk (PySem.Value.type "function") none (PySem.Data.func (PySem.FuncData.mk nm (PySem.Str.ofString "PathFault.__init__") ar (PySem.FuncBody.stmts bo) sc 3 [] PySem.Value.none PySem.Value.none PySem.Value.none (PySem.Value.str (PySem.Str.ofString "outlinemill.errors") 194) none (PySem.Value.ref 66) PySem.Value.none 0)) #[]) ::
  (nat_lit 68, PySem.Obj.mk (PySem.Value.type "tuple") none (PySem.Data.seq #[PySem.Value.str (PySem.Str.ofString "message") 262, PySem.Value.str (PySem.Str.ofString "place") 263]) #[]) ::
  (nat_lit 69, PySem.Obj.mk (PySem.Value.type "dict") none (PySem.Data.dict #[PySem.DictEntry.mk (PySem.PyData.keyHash P (PySem.Str.ofString "__module__")) (PySem.Value.str (PySem.Str.ofString "__module__") 248) (PySem.Value.str (PySem.Str.ofString "outlinemill.errors") 194), PySem.DictEntry.mk (PySem.PyData.keyHash P (PySem.Str.ofString "__firstlineno__")) (PySem.Value.str (PySem.Str.ofString "__firstlineno__") 252) (PySem.Value.int 11 251), PySem.DictEntry.mk (PySem.PyData.keyHash P (PySem.Str.ofString "__init__")) (PySem.Value.str (PySem.Str.ofString "__init__") 261) (PySem.Value.ref 67), PySem.DictEntry.mk (PySem.PyData.keyHash P (PySem.Str.ofString "__static_attributes__")) (PySem.Value.str (PySem.Str.ofString "__static_attributes__") 264) (PySem.Value.ref 68), PySem.DictEntry.mk (PySem.PyData.keyHash P (PySem.Str.ofString "__doc__")) (PySem.Value.str (PySem.Str.ofString "__doc__") 265) PySem.Value.none] 2) #[]) ::
  (nat_lit 70, PySem.Obj.mk (PySem.Value.type "type") none (PySem.Data.cls (PySem.ClassData.mk (PySem.Str.ofString "PathFault") [PySem.Value.ref 38] [PySem.Value.ref 70, PySem.Value.ref 38, PySem.Value.type "Exception", PySem.Value.type "BaseException", PySem.Value.type "object"] 69 (PySem.Str.ofString "PathFault") true [] [] false none false)) #[some (PySem.Value.ref 54), none, some (PySem.Value.str (PySem.Str.ofString "PathFault") 241), some (PySem.Value.str (PySem.Str.ofString "PathFault") 249), some (PySem.Value.builtin "Exception.__new__"), some (PySem.Value.bool true)]) ::
  (nat_lit 73, PySem.Obj.mk (PySem.Value.type "tuple") none (PySem.Data.seq #[PySem.Value.int 0 270, PySem.Value.int 1 271]) #[]) ::
  (nat_lit 74, PySem.Obj.mk (PySem.Value.type "tuple") none (PySem.Data.seq #[PySem.Value.int 1 273, PySem.Value.int 1 274]) #[]) ::
  (nat_lit 75, PySem.Obj.mk (PySem.Value.type "tuple") none (PySem.Data.seq #[]) #[]) ::
  (nat_lit 77, PySem.Obj.mk (PySem.Value.type "tuple") none (PySem.Data.seq #[PySem.Value.str (PySem.Str.ofString "one") 279, PySem.Value.str (PySem.Str.ofString "other") 280, PySem.Value.str (PySem.Str.ofString "first") 281, PySem.Value.str (PySem.Str.ofString "second") 282]) #[]) ::
  (nat_lit 78, PySem.Obj.mk (PySem.Value.type "tuple") none (PySem.Data.seq #[]) #[]) ::
  (nat_lit 80, PySem.Obj.mk (PySem.Value.type "code") none (PySem.Data.fields #[PySem.Value.str (PySem.Str.ofString "common_divisor") 276, PySem.Value.str (PySem.Str.ofString "common_divisor") 277, PySem.Value.str (PySem.Str.ofString "/claim/cut.py") 278, PySem.Value.int 19 0, PySem.Value.int 2 0, PySem.Value.int 0 0, PySem.Value.int 0 0, PySem.Value.int 3 0, PySem.Value.ref 75, PySem.Value.bool true, PySem.Value.int 181 0, PySem.Value.ref 76, PySem.Value.none, PySem.Value.ref 77, PySem.Value.ref 78, PySem.Value.ref 79, PySem.Value.int 283 0, PySem.Value.int 19 0, PySem.Value.str (PySem.Str.ofString "/claim/cut.py") 284]) #[]) ::
  (nat_lit 81, fo (tst 8) fun nm ar bo sc => PySem.Obj.mk (PySem.Value.type "function") none (PySem.Data.func (PySem.FuncData.mk nm (PySem.Str.ofString "common_divisor") ar (PySem.FuncBody.stmts bo) sc 3 [] PySem.Value.none PySem.Value.none PySem.Value.none (PySem.Value.str (PySem.Str.ofString "outlinemill.exact") 268) none (PySem.Value.ref 80) PySem.Value.none 0)) #[]) ::
  (nat_lit 82, PySem.Obj.mk (PySem.Value.type "tuple") none (PySem.Data.seq #[PySem.Value.int 1 286]) #[]) ::
  (nat_lit 83, PySem.Obj.mk (PySem.Value.type "tuple") none (PySem.Data.seq #[]) #[]) ::
  (nat_lit 85, PySem.Obj.mk (PySem.Value.type "tuple") none (PySem.Data.seq #[PySem.Value.str (PySem.Str.ofString "top") 290, PySem.Value.str (PySem.Str.ofString "bottom") 291, PySem.Value.str (PySem.Str.ofString "common") 292]) #[]) ::
  (nat_lit 86, PySem.Obj.mk (PySem.Value.type "tuple") none (PySem.Data.seq #[]) #[]) ::
  (nat_lit 88, PySem.Obj.mk (PySem.Value.type "code") none (PySem.Data.fields #[PySem.Value.str (PySem.Str.ofString "fraction") 287, PySem.Value.str (PySem.Str.ofString "fraction") 288, PySem.Value.str (PySem.Str.ofString "/claim/cut.py") 289, PySem.Value.int 24 0, PySem.Value.int 2 0, PySem.Value.int 0 0, PySem.Value.int 0 0, PySem.Value.int 3 0, PySem.Value.ref 83, PySem.Value.bool true, PySem.Value.int 181 0, PySem.Value.ref 84, PySem.Value.none, PySem.Value.ref 85, PySem.Value.ref 86, PySem.Value.ref 87, PySem.Value.int 293 0, PySem.Value.int 24 0, PySem.Value.str (PySem.Str.ofString "/claim/cut.py") 294]) #[]) ::
  (nat_lit 89, fo (tst 9) fun nm ar bo sc => PySem.Obj.mk (PySem.Value.type "function") none (PySem.Data.func (PySem.FuncData.mk nm (PySem.Str.ofString "fraction") ar (PySem.FuncBody.stmts bo) sc 3 [] (PySem.Value.ref 82) PySem.Value.none PySem.Value.none (PySem.Value.str (PySem.Str.ofString "outlinemill.exact") 268) none (PySem.Value.ref 88) PySem.Value.none 0)) #[]) ::
  (nat_lit 90, PySem.Obj.mk (PySem.Value.type "tuple") none (PySem.Data.seq #[]) #[]) ::
  (nat_lit 92, PySem.Obj.mk (PySem.Value.type "tuple") none (PySem.Data.seq #[PySem.Value.str (PySem.Str.ofString "a") 299, PySem.Value.str (PySem.Str.ofString "b") 300]) #[]) ::
  (nat_lit 93, PySem.Obj.mk (PySem.Value.type "tuple") none (PySem.Data.seq #[]) #[]) ::
  (nat_lit 95, PySem.Obj.mk (PySem.Value.type "code") none (PySem.Data.fields #[PySem.Value.str (PySem.Str.ofString "plus") 296, PySem.Value.str (PySem.Str.ofString "plus") 297, PySem.Value.str (PySem.Str.ofString "/claim/cut.py") 298, PySem.Value.int 31 0, PySem.Value.int 2 0, PySem.Value.int 0 0, PySem.Value.int 0 0, PySem.Value.int 3 0, PySem.Value.ref 90, PySem.Value.bool true, PySem.Value.int 181 0, PySem.Value.ref 91, PySem.Value.none, PySem.Value.ref 92, PySem.Value.ref 93, PySem.Value.ref 94, PySem.Value.int 301 0, PySem.Value.int 31 0, PySem.Value.str (PySem.Str.ofString "/claim/cut.py") 302]) #[]) ::
  (nat_lit 96, fo (tst 10) fun nm ar bo sc => PySem.Obj.mk (PySem.Value.type "function") none (PySem.Data.func (PySem.FuncData.mk nm (PySem.Str.ofString "plus") ar (PySem.FuncBody.stmts bo) sc 3 [] PySem.Value.none PySem.Value.none PySem.Value.none (PySem.Value.str (PySem.Str.ofString "outlinemill.exact") 268) none (PySem.Value.ref 95) PySem.Value.none 0)) #[]) ::
  (nat_lit 97, PySem.Obj.mk (PySem.Value.type "tuple") none (PySem.Data.seq #[]) #[]) ::
  (nat_lit 99, PySem.Obj.mk (PySem.Value.type "tuple") none (PySem.Data.seq #[PySem.Value.str (PySem.Str.ofString "a") 307, PySem.Value.str (PySem.Str.ofString "b") 308]) #[]) ::
  (nat_lit 100, PySem.Obj.mk (PySem.Value.type "tuple") none (PySem.Data.seq #[]) #[]) ::
  (nat_lit 102, PySem.Obj.mk (PySem.Value.type "code") none (PySem.Data.fields #[PySem.Value.str (PySem.Str.ofString "times") 304, PySem.Value.str (PySem.Str.ofString "times") 305, PySem.Value.str (PySem.Str.ofString "/claim/cut.py") 306, PySem.Value.int 33 0, PySem.Value.int 2 0, PySem.Value.int 0 0, PySem.Value.int 0 0, PySem.Value.int 3 0, PySem.Value.ref 97, PySem.Value.bool true, PySem.Value.int 181 0, PySem.Value.ref 98, PySem.Value.none, PySem.Value.ref 99, PySem.Value.ref 100, PySem.Value.ref 101, PySem.Value.int 309 0, PySem.Value.int 33 0, PySem.Value.str (PySem.Str.ofString "/claim/cut.py") 310]) #[]) ::
  (nat_lit 103, fo (tst 11) fun nm ar bo sc => PySem.Obj.mk (PySem.Value.type "function") none (PySem.Data.func (PySem.FuncData.mk nm (PySem.Str.ofString "times") ar (PySem.FuncBody.stmts bo) sc 3 [] PySem.Value.none PySem.Value.none PySem.Value.none (PySem.Value.str (PySem.Str.ofString "outlinemill.exact") 268) none (PySem.Value.ref 102) PySem.Value.none 0)) #[]) ::
  (nat_lit 104, PySem.Obj.mk (PySem.Value.type "tuple") none (PySem.Data.seq #[]) #[]) ::
  (nat_lit 106, PySem.Obj.mk (PySem.Value.type "tuple") none (PySem.Data.seq #[PySem.Value.str (PySem.Str.ofString "a") 315]) #[]) ::
  (nat_lit 107, PySem.Obj.mk (PySem.Value.type "tuple") none (PySem.Data.seq #[]) #[]) ::
  (nat_lit 109, PySem.Obj.mk (PySem.Value.type "code") none (PySem.Data.fields #[PySem.Value.str (PySem.Str.ofString "rounded") 312, PySem.Value.str (PySem.Str.ofString "rounded") 313, PySem.Value.str (PySem.Str.ofString "/claim/cut.py") 314, PySem.Value.int 35 0, PySem.Value.int 1 0, PySem.Value.int 0 0, PySem.Value.int 0 0, PySem.Value.int 3 0, PySem.Value.ref 104, PySem.Value.bool true, PySem.Value.int 181 0, PySem.Value.ref 105, PySem.Value.none, PySem.Value.ref 106, PySem.Value.ref 107, PySem.Value.ref 108, PySem.Value.int 316 0, PySem.Value.int 35 0, PySem.Value.str (PySem.Str.ofString "/claim/cut.py") 317]) #[]) ::
  (nat_lit 110, fo (tst 12) fun nm ar bo sc => PySem.Obj.mk (PySem.Value.type "function") none (PySem.Data.func (PySem.FuncData.mk nm (PySem.Str.ofString "rounded") ar (PySem.FuncBody.stmts bo) sc 3 [] PySem.Value.none PySem.Value.none PySem.Value.none (PySem.Value.str (PySem.Str.ofString "outlinemill.exact") 268) none (PySem.Value.ref 109) PySem.Value.none 0)) #[]) ::
  (nat_lit 111, PySem.Obj.mk (PySem.Value.type "tuple") none (PySem.Data.seq #[]) #[]) ::
  (nat_lit 113, PySem.Obj.mk (PySem.Value.type "tuple") none (PySem.Data.seq #[PySem.Value.str (PySem.Str.ofString "matrix") 324, PySem.Value.str (PySem.Str.ofString "p") 325, PySem.Value.str (PySem.Str.ofString "grain") 326, PySem.Value.str (PySem.Str.ofString "x") 327, PySem.Value.str (PySem.Str.ofString "y") 328]) #[]) ::
  (nat_lit 114, PySem.Obj.mk (PySem.Value.type "tuple") none (PySem.Data.seq #[]) #[]) ::
  (nat_lit 116, PySem.Obj.mk (PySem.Value.type "code") none (PySem.Data.fields #[PySem.Value.str (PySem.Str.ofString "spot_of") 321, PySem.Value.str (PySem.Str.ofString "spot_of") 322, PySem.Value.str (PySem.Str.ofString "/claim/cut.py") 323, PySem.Value.int 38 0, PySem.Value.int 3 0, PySem.Value.int 0 0, PySem.Value.int 0 0, PySem.Value.int 3 0, PySem.Value.ref 111, PySem.Value.bool true, PySem.Value.int 181 0, PySem.Value.ref 112, PySem.Value.none, PySem.Value.ref 113, PySem.Value.ref 114, PySem.Value.ref 115, PySem.Value.int 329 0, PySem.Value.int 38 0, PySem.Value.str (PySem.Str.ofString "/claim/cut.py") 330]) #[]) ::
  (nat_lit 117, fo (tst 14) fun nm ar bo sc => PySem.Obj.mk (PySem.Value.type "function") none (PySem.Data.func (PySem.FuncData.mk nm (PySem.Str.ofString "spot_of") ar (PySem.FuncBody.stmts bo) sc 3 [] PySem.Value.none PySem.Value.none PySem.Value.none (PySem.Value.str (PySem.Str.ofString "outlinemill.transforms") 319) none (PySem.Value.ref 116) PySem.Value.none 0)) #[]) ::
  (nat_lit 118, PySem.Obj.mk (PySem.Value.type "tuple") none (PySem.Data.seq #[]) #[]) ::
  (nat_lit 120, PySem.Obj.mk (PySem.Value.type "tuple") none (PySem.Data.seq #[PySem.Value.str (PySem.Str.ofString "spot") 337, PySem.Value.str (PySem.Str.ofString "one") 338, PySem.Value.str (PySem.Str.ofString "other") 339, PySem.Value.str (PySem.Str.ofString "bound") 340, PySem.Value.str (PySem.Str.ofString "x") 341, PySem.Value.str (PySem.Str.ofString "y") 342, PySem.Value.str (PySem.Str.ofString "ahead") 343, PySem.Value.str (PySem.Str.ofString "aside") 344, PySem.Value.str (PySem.Str.ofString "size") 345, PySem.Value.str (PySem.Str.ofString "along") 346, PySem.Value.str (PySem.Str.ofString "turn") 347]) #[]) ::
  (nat_lit 121, PySem.Obj.mk (PySem.Value.type "tuple") none (PySem.Data.seq #[]) #[]) ::
  (nat_lit 123, PySem.Obj.mk (PySem.Value.type "code") none (PySem.Data.fields #[PySem.Value.str (PySem.Str.ofString "is_near") 334, PySem.Value.str (PySem.Str.ofString "is_near") 335, PySem.Value.str (PySem.Str.ofString "/claim/cut.py") 336, PySem.Value.int 42 0, PySem.Value.int 4 0, PySem.Value.int 0 0, PySem.Value.int 0 0, PySem.Value.int 3 0, PySem.Value.ref 118, PySem.Value.bool true, PySem.Value.int 181 0, PySem.Value.ref 119, PySem.Value.none, PySem.Value.ref 120, PySem.Value.ref 121, PySem.Value.ref 122, PySem.Value.int 348 0, PySem.Value.int 42 0, PySem.Value.str (PySem.Str.ofString "/claim/cut.py") 349]) #[]) ::
  (nat_lit 124, fo (tst 16) fun nm ar bo sc => PySem.Obj.mk (PySem.Value.type "function") none (PySem.Data.func (PySem.FuncData.mk nm (PySem.Str.ofString "is_near") ar (PySem.FuncBody.stmts bo) sc 3 [] PySem.Value.none PySem.Value.none PySem.Value.none (PySem.Value.str (PySem.Str.ofString "outlinemill.flatten") 332) none (PySem.Value.ref 123) PySem.Value.none 0)) #[]) ::
  (nat_lit 125, PySem.Obj.mk (PySem.Value.type "tuple") none (PySem.Data.seq #[]) #[]) ::
  (nat_lit 127, PySem.Obj.mk (PySem.Value.type "tuple") none (PySem.Data.seq #[PySem.Value.str (PySem.Str.ofString "spots") 354, PySem.Value.str (PySem.Str.ofString "bound") 355, PySem.Value.str (PySem.Str.ofString "spot") 356]) #[]) ::
  (nat_lit 128, PySem.Obj.mk (PySem.Value.type "tuple") none (PySem.Data.seq #[]) #[]) ::
  (nat_lit 130, PySem.Obj.mk (PySem.Value.type "code") none (PySem.Data.fields #[PySem.Value.str (PySem.Str.ofString "is_flat") 351, PySem.Value.str (PySem.Str.ofString "is_flat") 352, PySem.Value.str (PySem.Str.ofString "/claim/cut.py") 353, PySem.Value.int 54 0, PySem.Value.int 2 0, PySem.Value.int 0 0, PySem.Value.int 0 0, PySem.Value.int 3 0, PySem.Value.ref 125, PySem.Value.bool true, PySem.Value.int 181 0, PySem.Value.ref 126, PySem.Value.none, PySem.Value.ref 127, PySem.Value.ref 128, PySem.Value.ref 129, PySem.Value.int 357 0, PySem.Value.int 54 0, PySem.Value.str (PySem.Str.ofString "/claim/cut.py") 358]) #[]) ::
  (nat_lit 131, fo (tst 17) fun nm ar bo sc => PySem.Obj.mk (PySem.Value.type "function") none (PySem.Data.func (PySem.FuncData.mk nm (PySem.Str.ofString "is_flat") ar (PySem.FuncBody.stmts bo) sc 3 [] PySem.Value.none PySem.Value.none PySem.Value.none (PySem.Value.str (PySem.Str.ofString "outlinemill.flatten") 332) none (PySem.Value.ref 130) PySem.Value.none 0)) #[]) ::
  (nat_lit 132, PySem.Obj.mk (PySem.Value.type "tuple") none (PySem.Data.seq #[]) #[]) ::
  (nat_lit 134, PySem.Obj.mk (PySem.Value.type "tuple") none (PySem.Data.seq #[PySem.Value.str (PySem.Str.ofString "one") 363, PySem.Value.str (PySem.Str.ofString "other") 364]) #[]) ::
  (nat_lit 135, PySem.Obj.mk (PySem.Value.type "tuple") none (PySem.Data.seq #[]) #[]) ::
  (nat_lit 137, PySem.Obj.mk (PySem.Value.type "code") none (PySem.Data.fields #[PySem.Value.str (PySem.Str.ofString "middle") 360, PySem.Value.str (PySem.Str.ofString "middle") 361, PySem.Value.str (PySem.Str.ofString "/claim/cut.py") 362, PySem.Value.int 59 0, PySem.Value.int 2 0, PySem.Value.int 0 0, PySem.Value.int 0 0, PySem.Value.int 3 0, PySem.Value.ref 132, PySem.Value.bool true, PySem.Value.int 181 0, PySem.Value.ref 133, PySem.Value.none, PySem.Value.ref 134, PySem.Value.ref 135, PySem.Value.ref 136, PySem.Value.int 365 0, PySem.Value.int 59 0, PySem.Value.str (PySem.Str.ofString "/claim/cut.py") 366]) #[]) ::
  (nat_lit 138, fo (tst 18) fun nm ar bo sc => PySem.Obj.mk (PySem.Value.type "function") none (PySem.Data.func (PySem.FuncData.mk nm (PySem.Str.ofString "middle") ar (PySem.FuncBody.stmts bo) sc 3 [] PySem.Value.none PySem.Value.none PySem.Value.none (PySem.Value.str (PySem.Str.ofString "outlinemill.flatten") 332) none (PySem.Value.ref 137) PySem.Value.none 0)) #[]) ::
  (nat_lit 139, PySem.Obj.mk (PySem.Value.type "tuple") none (PySem.Data.seq #[]) #[]) ::
  (nat_lit 142, PySem.Obj.mk (PySem.Value.type "code") none (PySem.Data.fields #[PySem.Value.str (PySem.Str.ofString "halves") 368, PySem.Value.str (PySem.Str.ofString "halves") 369, PySem.Value.str (PySem.Str.ofString "/claim/cut.py") 370, PySem.Value.int 61 0, PySem.Value.int 1 0, PySem.Value.int 0 0, PySem.Value.int 0 0, PySem.Value.int 3 0, PySem.Value.ref 139, PySem.Value.bool true, PySem.Value.int 181 0, PySem.Value.ref 140, PySem.Value.none, PySem.Value.none, PySem.Value.none, PySem.Value.ref 141, PySem.Value.int 371 0, PySem.Value.int 61 0, PySem.Value.str (PySem.Str.ofString "/claim/cut.py") 372]) #[]) ::
  (nat_lit 143, fo (tst 19) fun nm ar bo sc => PySem.Obj.mk (PySem.Value.type "function") none (PySem.Data.func (PySem.FuncData.mk nm (PySem.Str.ofString "halves") ar (PySem.FuncBody.stmts bo) sc 3 [] PySem.Value.none PySem.Value.none PySem.Value.none (PySem.Value.str (PySem.Str.ofString "outlinemill.flatten") 332) none (PySem.Value.ref 142) PySem.Value.none 0)) #[]) ::
  (nat_lit 144, PySem.Obj.mk (PySem.Value.type "tuple") none (PySem.Data.seq #[]) #[]) ::
  (nat_lit 146, PySem.Obj.mk (PySem.Value.type "tuple") none (PySem.Data.seq #[PySem.Value.str (PySem.Str.ofString "spots") 377, PySem.Value.str (PySem.Str.ofString "bound") 378, PySem.Value.str (PySem.Str.ofString "most") 379, PySem.Value.str (PySem.Str.ofString "found") 380, PySem.Value.str (PySem.Str.ofString "left") 381, PySem.Value.str (PySem.Str.ofString "here") 382, PySem.Value.str (PySem.Str.ofString "depth") 383, PySem.Value.str (PySem.Str.ofString "first") 384, PySem.Value.str (PySem.Str.ofString "second") 385]) #[]) ::
  (nat_lit 147, PySem.Obj.mk (PySem.Value.type "tuple") none (PySem.Data.seq #[]) #[]) ::
  (nat_lit 149, PySem.Obj.mk (PySem.Value.type "code") none (PySem.Data.fields #[PySem.Value.str (PySem.Str.ofString "flat_spots") 374, PySem.Value.str (PySem.Str.ofString "flat_spots") 375, PySem.Value.str (PySem.Str.ofString "/claim/cut.py") 376, PySem.Value.int 69 0, PySem.Value.int 3 0, PySem.Value.int 0 0, PySem.Value.int 0 0, PySem.Value.int 3 0, PySem.Value.ref 144, PySem.Value.bool true, PySem.Value.int 181 0, PySem.Value.ref 145, PySem.Value.none, PySem.Value.ref 146, PySem.Value.ref 147, PySem.Value.ref 148, PySem.Value.int 386 0, PySem.Value.int 69 0, PySem.Value.str (PySem.Str.ofString "/claim/cut.py") 387]) #[]) ::
  (nat_lit 150, fo (tst 20) fun nm ar bo sc => PySem.Obj.mk (PySem.Value.type "function") none (PySem.Data.func (PySem.FuncData.mk nm (PySem.Str.ofString "flat_spots") ar (PySem.FuncBody.stmts bo) sc 3 [] PySem.Value.none PySem.Value.none PySem.Value.none (PySem.Value.str (PySem.Str.ofString "outlinemill.flatten") 332) none (PySem.Value.ref 149) PySem.Value.none 0)) #[]) ::
  (nat_lit 151, PySem.Obj.mk (PySem.Value.type "tuple") none (PySem.Data.seq #[]) #[]) ::
  (nat_lit 153, PySem.Obj.mk (PySem.Value.type "tuple") none (PySem.Data.seq #[PySem.Value.str (PySem.Str.ofString "spot") 392, PySem.Value.str (PySem.Str.ofString "many") 393]) #[]) ::
  (nat_lit 154, PySem.Obj.mk (PySem.Value.type "tuple") none (PySem.Data.seq #[]) #[]) ::
  (nat_lit 156, PySem.Obj.mk (PySem.Value.type "code") none (PySem.Data.fields #[PySem.Value.str (PySem.Str.ofString "rounded_spot") 389, PySem.Value.str (PySem.Str.ofString "rounded_spot") 390, PySem.Value.str (PySem.Str.ofString "/claim/cut.py") 391, PySem.Value.int 80 0, PySem.Value.int 2 0, PySem.Value.int 0 0, PySem.Value.int 0 0, PySem.Value.int 3 0, PySem.Value.ref 151, PySem.Value.bool true, PySem.Value.int 181 0, PySem.Value.ref 152, PySem.Value.none, PySem.Value.ref 153, PySem.Value.ref 154, PySem.Value.ref 155, PySem.Value.int 394 0, PySem.Value.int 80 0, PySem.Value.str (PySem.Str.ofString "/claim/cut.py") 395]) #[]) ::
  (nat_lit 157, fo (tst 21) fun nm ar bo sc => PySem.Obj.mk (PySem.Value.type "function") none (PySem.Data.func (PySem.FuncData.mk nm (PySem.Str.ofString "rounded_spot") ar (PySem.FuncBody.stmts bo) sc 3 [] PySem.Value.none PySem.Value.none PySem.Value.none (PySem.Value.str (PySem.Str.ofString "outlinemill.flatten") 332) none (PySem.Value.ref 156) PySem.Value.none 0)) #[]) ::
  (nat_lit 158, PySem.Obj.mk (PySem.Value.type "tuple") none (PySem.Data.seq #[]) #[]) ::
  (nat_lit 160, PySem.Obj.mk (PySem.Value.type "tuple") none (PySem.Data.seq #[PySem.Value.str (PySem.Str.ofString "spots") 400, PySem.Value.str (PySem.Str.ofString "found") 401, PySem.Value.str (PySem.Str.ofString "spot") 402]) #[]) ::
  (nat_lit 161, PySem.Obj.mk (PySem.Value.type "tuple") none (PySem.Data.seq #[]) #[]) ::
  (nat_lit 163, PySem.Obj.mk (PySem.Value.type "code") none (PySem.Data.fields #[PySem.Value.str (PySem.Str.ofString "unlike_neighbours") 397, PySem.Value.str (PySem.Str.ofString "unlike_neighbours") 398, PySem.Value.str (PySem.Str.ofString "/claim/cut.py") 399, PySem.Value.int 82 0, PySem.Value.int 1 0, PySem.Value.int 0 0, PySem.Value.int 0 0, PySem.Value.int 3 0, PySem.Value.ref 158, PySem.Value.bool true, PySem.Value.int 181 0, PySem.Value.ref 159, PySem.Value.none, PySem.Value.ref 160, PySem.Value.ref 161, PySem.Value.ref 162, PySem.Value.int 403 0, PySem.Value.int 82 0, PySem.Value.str (PySem.Str.ofString "/claim/cut.py") 404]) #[]) ::
  (nat_lit 164, fo (tst 22) fun nm ar bo sc => PySem.Obj.mk (PySem.Value.type "function") none (PySem.Data.func (PySem.FuncData.mk nm (PySem.Str.ofString "unlike_neighbours") ar (PySem.FuncBody.stmts bo) sc 3 [] PySem.Value.none PySem.Value.none PySem.Value.none (PySem.Value.str (PySem.Str.ofString "outlinemill.flatten") 332) none (PySem.Value.ref 163) PySem.Value.none 0)) #[]) ::
  (nat_lit 172, PySem.Obj.mk (PySem.Value.type "tuple") none (PySem.Data.seq #[]) #[]) ::
  (nat_lit 174, PySem.Obj.mk (PySem.Value.type "tuple") none (PySem.Data.seq #[PySem.Value.str (PySem.Str.ofString "self") 421, PySem.Value.str (PySem.Str.ofString "matrix") 422, PySem.Value.str (PySem.Str.ofString "grain") 423, PySem.Value.str (PySem.Str.ofString "bound") 424, PySem.Value.str (PySem.Str.ofString "most") 425]) #[]) ::
  (nat_lit 175, PySem.Obj.mk (PySem.Value.type "tuple") none (PySem.Data.seq #[]) #[]) ::
  (nat_lit 177, PySem.Obj.mk (PySem.Value.type "code") none (PySem.Data.fields #[PySem.Value.str (PySem.Str.ofString "__init__") 418, PySem.Value.str (PySem.Str.ofString "Flattener.__init__") 419, PySem.Value.str (PySem.Str.ofString "/claim/cut.py") 420, PySem.Value.int 90 0, PySem.Value.int 5 0, PySem.Value.int 0 0, PySem.Value.int 0 0, PySem.Value.int 3 0, PySem.Value.ref 172, PySem.Value.bool true, PySem.Value.int 181 0, PySem.Value.ref 173, PySem.Value.none, PySem.Value.ref 174, PySem.Value.ref 175, PySem.Value.ref 176, PySem.Value.int 426 0, PySem.Value.int 90 0, PySem.Value.str (PySem.Str.ofString "/claim/cut.py") 427]) #[]) ::
  (nat_lit 178, fo (mst 23 0) fun nm ar bo sc => PySem.Obj.mk (PySem.Value.type "function") none (PySem.Data.func (PySem.FuncData.mk nm (PySem.Str.ofString "Flattener.__init__") ar (PySem.FuncBody.stmts bo) sc 3 [] PySem.Value.none PySem.Value.none PySem.Value.none (PySem.Value.str (PySem.Str.ofString "outlinemill.flatten") 332) none (PySem.Value.ref 177) PySem.Value.none 0)) #[]) ::
  (nat_lit 179, PySem.Obj.mk (PySem.Value.type "tuple") none (PySem.Data.seq #[]) #[]) ::
  (nat_lit 181, PySem.Obj.mk (PySem.Value.type "tuple") none (PySem.Data.seq #[PySem.Value.str (PySem.Str.ofString "self") 432, PySem.Value.str (PySem.Str.ofString "p") 433]) #[]) ::
  (nat_lit 182, PySem.Obj.mk (PySem.Value.type "tuple") none (PySem.Data.seq #[]) #[]) ::
  (nat_lit 184, PySem.Obj.mk (PySem.Value.type "code") none (PySem.Data.fields #[PySem.Value.str (PySem.Str.ofString "fine") 429, PySem.Value.str (PySem.Str.ofString "Flattener.fine") 430, PySem.Value.str (PySem.Str.ofString "/claim/cut.py") 431, PySem.Value.int 101 0, PySem.Value.int 2 0, PySem.Value.int 0 0, PySem.Value.int 0 0, PySem.Value.int 3 0, PySem.Value.ref 179, PySem.Value.bool true, PySem.Value.int 181 0, PySem.Value.ref 180, PySem.Value.none, PySem.Value.ref 181, PySem.Value.ref 182, PySem.Value.ref 183, PySem.Value.int 434 0, PySem.Value.int 101 0, PySem.Value.str (PySem.Str.ofString "/claim/cut.py") 435]) #[]) ::
  (nat_lit 185, fo (mst 23 1) fun nm ar bo sc => PySem.Obj.mk (PySem.Value.type "function") none (PySem.Data.func (PySem.FuncData.mk nm (PySem.Str.ofString "Flattener.fine") ar (PySem.FuncBody.stmts bo) sc 3 [] PySem.Value.none PySem.Value.none PySem.Value.none (PySem.Value.str (PySem.Str.ofString "outlinemill.flatten") 332) none (PySem.Value.ref 184) PySem.Value.none 0)) #[]) ::
  (nat_lit 186, PySem.Obj.mk (PySem.Value.type "tuple") none (PySem.Data.seq #[]) #[]) ::
  (nat_lit 188, PySem.Obj.mk (PySem.Value.type "tuple") none (PySem.Data.seq #[PySem.Value.str (PySem.Str.ofString "self") 440, PySem.Value.str (PySem.Str.ofString "p") 441]) #[]) ::
  (nat_lit 189, PySem.Obj.mk (PySem.Value.type "tuple") none (PySem.Data.seq #[]) #[]) ::
  (nat_lit 191, PySem.Obj.mk (PySem.Value.type "code") none (PySem.Data.fields #[PySem.Value.str (PySem.Str.ofString "begin") 437, PySem.Value.str (PySem.Str.ofString "Flattener.begin") 438, PySem.Value.str (PySem.Str.ofString "/claim/cut.py") 439, PySem.Value.int 104 0, PySem.Value.int 2 0, PySem.Value.int 0 0, PySem.Value.int 0 0, PySem.Value.int 3 0, PySem.Value.ref 186, PySem.Value.bool true, PySem.Value.int 181 0, PySem.Value.ref 187, PySem.Value.none, PySem.Value.ref 188, PySem.Value.ref 189, PySem.Value.ref 190, PySem.Value.int 442 0, PySem.Value.int 104 0, PySem.Value.str (PySem.Str.ofString "/claim/cut.py") 443]) #[]) ::
  (nat_lit 192, fo (mst 23 2) fun nm ar bo sc => PySem.Obj.mk (PySem.Value.type "function") none (PySem.Data.func (PySem.FuncData.mk nm (PySem.Str.ofString "Flattener.begin") ar (PySem.FuncBody.stmts bo) sc 3 [] PySem.Value.none PySem.Value.none PySem.Value.none (PySem.Value.str (PySem.Str.ofString "outlinemill.flatten") 332) none (PySem.Value.ref 191) PySem.Value.none 0)) #[]) ::
  (nat_lit 193, PySem.Obj.mk (PySem.Value.type "tuple") none (PySem.Data.seq #[]) #[]) ::
  (nat_lit 196, PySem.Obj.mk (PySem.Value.type "code") none (PySem.Data.fields #[PySem.Value.str (PySem.Str.ofString "end") 445, PySem.Value.str (PySem.Str.ofString "Flattener.end") 446, PySem.Value.str (PySem.Str.ofString "/claim/cut.py") 447, PySem.Value.int 110 0, PySem.Value.int 2 0, PySem.Value.int 0 0, PySem.Value.int 0 0, PySem.Value.int 3 0, PySem.Value.ref 193, PySem.Value.bool true, PySem.Value.int 181 0, PySem.Value.ref 194, PySem.Value.none, PySem.Value.none, PySem.Value.none, PySem.Value.ref 195, PySem.Value.int 448 0, PySem.Value.int 110 0, PySem.Value.str (PySem.Str.ofString "/claim/cut.py") 449]) #[]) ::
  (nat_lit 197, fo (mst 23 3) fun nm ar bo sc => PySem.Obj.mk (PySem.Value.type "function") none (PySem.Data.func (PySem.FuncData.mk nm (PySem.Str.ofString "Flattener.end") ar (PySem.FuncBody.stmts bo) sc 3 [] PySem.Value.none PySem.Value.none PySem.Value.none (PySem.Value.str (PySem.Str.ofString "outlinemill.flatten") 332) none (PySem.Value.ref 196) PySem.Value.none 0)) #[]) ::
  (nat_lit 198, PySem.Obj.mk (PySem.Value.type "tuple") none (PySem.Data.seq #[]) #[]) ::
  (nat_lit 201, PySem.Obj.mk (PySem.Value.type "code") none (PySem.Data.fields #[PySem.Value.str (PySem.Str.ofString "go") 451, PySem.Value.str (PySem.Str.ofString "Flattener.go") 452, PySem.Value.str (PySem.Str.ofString "/claim/cut.py") 453, PySem.Value.int 118 0, PySem.Value.int 2 0, PySem.Value.int 0 0, PySem.Value.int 0 0, PySem.Value.int 3 0, PySem.Value.ref 198, PySem.Value.bool true, PySem.Value.int 181 0, PySem.Value.ref 199, PySem.Value.none, PySem.Value.none, PySem.Value.none, PySem.Value.ref 200, PySem.Value.int 454 0, PySem.Value.int 118 0, PySem.Value.str (PySem.Str.ofString "/claim/cut.py") 455]) #[]) ::
  (nat_lit 202, fo (mst 23 4) fun nm ar bo sc => PySem.Obj.mk (PySem.Value.type "function") none (PySem.Data.func (PySem.FuncData.mk nm (PySem.Str.ofString "Flattener.go") ar (PySem.FuncBody.stmts bo) sc 3 [] PySem.Value.none PySem.Value.none PySem.Value.none (PySem.Value.str (PySem.Str.ofString "outlinemill.flatten") 332) none (PySem.Value.ref 201) PySem.Value.none 0)) #[]) ::
  (nat_lit 203, PySem.Obj.mk (PySem.Value.type "tuple") none (PySem.Data.seq #[]) #[]) ::
  (nat_lit 205, PySem.Obj.mk (PySem.Value.type "tuple") none (PySem.Data.seq #[PySem.Value.str (PySem.Str.ofString "self") 460]) #[]) ::
  (nat_lit 206, PySem.Obj.mk (PySem.Value.type "tuple") none (PySem.Data.seq #[]) #[]) ::
  (nat_lit 208, PySem.Obj.mk (PySem.Value.type "code") none (PySem.Data.fields #[PySem.Value.str (PySem.Str.ofString "close") 457, PySem.Value.str (PySem.Str.ofString "Flattener.close") 458, PySem.Value.str (PySem.Str.ofString "/claim/cut.py") 459, PySem.Value.int 127 0, PySem.Value.int 1 0, PySem.Value.int 0 0, PySem.Value.int 0 0, PySem.Value.int 3 0, PySem.Value.ref 203, PySem.Value.bool true, PySem.Value.int 181 0, PySem.Value.ref 204, PySem.Value.none, PySem.Value.ref 205, PySem.Value.ref 206, PySem.Value.ref 207, PySem.Value.int 461 0, PySem.Value.int 127 0, PySem.Value.str (PySem.Str.ofString "/claim/cut.py") 462]) #[]) ::
  (nat_lit 209, fo (mst 23 5) fun nm ar bo sc => PySem.Obj.mk (PySem.Value.type "function") none (PySem.Data.func (PySem.FuncData.mk nm (PySem.Str.ofString "Flattener.close") ar (PySem.FuncBody.stmts bo) sc 3 [] PySem.Value.none PySem.Value.none PySem.Value.none (PySem.Value.str (PySem.Str.ofString "outlinemill.flatten") 332) none (PySem.Value.ref 208) PySem.Value.none 0)) #[]) ::
  (nat_lit 210, PySem.Obj.mk (PySem.Value.type "tuple") none (PySem.Data.seq #[]) #[]) ::
  (nat_lit 212, PySem.Obj.mk (PySem.Value.type "tuple") none (PySem.Data.seq #[PySem.Value.str (PySem.Str.ofString "self") 467, PySem.Value.str (PySem.Str.ofString "segment") 468]) #[]) ::
  (nat_lit 213, PySem.Obj.mk (PySem.Value.type "tuple") none (PySem.Data.seq #[]) #[]) ::
  (nat_lit 215, PySem.Obj.mk (PySem.Value.type "code") none (PySem.Data.fields #[PySem.Value.str (PySem.Str.ofString "take") 464, PySem.Value.str (PySem.Str.ofString "Flattener.take") 465, PySem.Value.str (PySem.Str.ofString "/claim/cut.py") 466, PySem.Value.int 135 0, PySem.Value.int 2 0, PySem.Value.int 0 0, PySem.Value.int 0 0, PySem.Value.int 3 0, PySem.Value.ref 210, PySem.Value.bool true, PySem.Value.int 181 0, PySem.Value.ref 211, PySem.Value.none, PySem.Value.ref 212, PySem.Value.ref 213, PySem.Value.ref 214, PySem.Value.int 469 0, PySem.Value.int 135 0, PySem.Value.str (PySem.Str.ofString "/claim/cut.py") 470]) #[]) ::
  (nat_lit 216, fo (mst 23 6) fun nm ar bo sc => PySem.Obj.mk (PySem.Value.type "function") none (PySem.Data.func (PySem.FuncData.mk nm (PySem.Str.ofString "Flattener.take") ar (PySem.FuncBody.stmts bo) sc 3 [] PySem.Value.none PySem.Value.none PySem.Value.none (PySem.Value.str (PySem.Str.ofString "outlinemill.flatten") 332) none (PySem.Value.ref 215) PySem.Value.none 0)) #[]) ::
  (nat_lit 217, PySem.Obj.mk (PySem.Value.type "tuple") none (PySem.Data.seq #[]) #[]) ::
  (nat_lit 219, PySem.Obj.mk (PySem.Value.type "tuple") none (PySem.Data.seq #[PySem.Value.str (PySem.Str.ofString "self") 475, PySem.Value.str (PySem.Str.ofString "segment") 476]) #[]) ::
  (nat_lit 220, PySem.Obj.mk (PySem.Value.type "tuple") none (PySem.Data.seq #[]) #[]) ::
  (nat_lit 222, PySem.Obj.mk (PySem.Value.type "code") none (PySem.Data.fields #[PySem.Value.str (PySem.Str.ofString "arc") 472, PySem.Value.str (PySem.Str.ofString "Flattener.arc") 473, PySem.Value.str (PySem.Str.ofString "/claim/cut.py") 474, PySem.Value.int 138 0, PySem.Value.int 2 0, PySem.Value.int 0 0, PySem.Value.int 0 0, PySem.Value.int 3 0, PySem.Value.ref 217, PySem.Value.bool true, PySem.Value.int 181 0, PySem.Value.ref 218, PySem.Value.none, PySem.Value.ref 219, PySem.Value.ref 220, PySem.Value.ref 221, PySem.Value.int 477 0, PySem.Value.int 138 0, PySem.Value.str (PySem.Str.ofString "/claim/cut.py") 478]) #[]) ::
  (nat_lit 223, fo (mst 23 7) fun nm ar bo sc => PySem.Obj.mk (PySem.Value.type "function") none (PySem.Data.func (PySem.FuncData.mk nm (PySem.Str.ofString "Flattener.arc") ar (PySem.FuncBody.stmts bo) sc 3 [] PySem.Value.none PySem.Value.none PySem.Value.none (PySem.Value.str (PySem.Str.ofString "outlinemill.flatten") 332) none (PySem.Value.ref 222) PySem.Value.none 0)) #[]) ::
  (nat_lit 224, PySem.Obj.mk (PySem.Value.type "tuple") none (PySem.Data.seq #[PySem.Value.str (PySem.Str.ofString "bound") 480, PySem.Value.str (PySem.Str.ofString "contours") 481, PySem.Value.str (PySem.Str.ofString "grain") 482, PySem.Value.str (PySem.Str.ofString "here") 483, PySem.Value.str (PySem.Str.ofString "many") 484, PySem.Value.str (PySem.Str.ofString "matrix") 485, PySem.Value.str (PySem.Str.ofString "most") 486, PySem.Value.str (PySem.Str.ofString "spots") 487, PySem.Value.str (PySem.Str.ofString "start") 488]) #[]) ::
  (nat_lit 225, PySem.Obj.mk (PySem.Value.type "dict") none (PySem.Data.dict #[PySem.DictEntry.mk (PySem.PyData.keyHash P (PySem.Str.ofString "__module__")) (PySem.Value.str (PySem.Str.ofString "__module__") 413) (PySem.Value.str (PySem.Str.ofString "outlinemill.flatten") 332), PySem.DictEntry.mk (PySem.PyData.keyHash P (PySem.Str.ofString "__firstlineno__")) (PySem.Value.str (PySem.Str.ofString "__firstlineno__") 417) (PySem.Value.int 88 416), PySem.DictEntry.mk (PySem.PyData.keyHash P (PySem.Str.ofString "__init__")) (PySem.Value.str (PySem.Str.ofString "__init__") 428) (PySem.Value.ref 178), PySem.DictEntry.mk (PySem.PyData.keyHash P (PySem.Str.ofString "fine")) (PySem.Value.str (PySem.Str.ofString "fine") 436) (PySem.Value.ref 185), PySem.DictEntry.mk (PySem.PyData.keyHash P (PySem.Str.ofString "begin")) (PySem.Value.str (PySem.Str.ofString "begin") 444) (PySem.Value.ref 192), PySem.DictEntry.mk (PySem.PyData.keyHash P (PySem.Str.ofString "end")) (PySem.Value.str (PySem.Str.ofString "end") 450) (PySem.Value.ref 197), PySem.DictEntry.mk (PySem.PyData.keyHash P (PySem.Str.ofString "go")) (PySem.Value.str (PySem.Str.ofString "go") 456) (PySem.Value.ref 202), PySem.DictEntry.mk (PySem.PyData.keyHash P (PySem.Str.ofString "close")) (PySem.Value.str (PySem.Str.ofString "close") 463) (PySem.Value.ref 209), PySem.DictEntry.mk (PySem.PyData.keyHash P (PySem.Str.ofString "take")) (PySem.Value.str (PySem.Str.ofString "take") 471) (PySem.Value.ref 216), PySem.DictEntry.mk (PySem.PyData.keyHash P (PySem.Str.ofString "arc")) (PySem.Value.str (PySem.Str.ofString "arc") 479) (PySem.Value.ref 223), PySem.DictEntry.mk (PySem.PyData.keyHash P (PySem.Str.ofString "__static_attributes__")) (PySem.Value.str (PySem.Str.ofString "__static_attributes__") 489) (PySem.Value.ref 224), PySem.DictEntry.mk (PySem.PyData.keyHash P (PySem.Str.ofString "__dict__")) (PySem.Value.str (PySem.Str.ofString "__dict__") 491) (PySem.Value.ref 227), PySem.DictEntry.mk (PySem.PyData.keyHash P (PySem.Str.ofString "__weakref__")) (PySem.Value.str (PySem.Str.ofString "__weakref__") 493) (PySem.Value.ref 228), PySem.DictEntry.mk (PySem.PyData.keyHash P (PySem.Str.ofString "__doc__")) (PySem.Value.str (PySem.Str.ofString "__doc__") 494) PySem.Value.none] 4) #[]) ::
  (nat_lit 226, PySem.Obj.mk (PySem.Value.type "type") none (PySem.Data.cls (PySem.ClassData.mk (PySem.Str.ofString "Flattener") [PySem.Value.type "object"] [PySem.Value.ref 226, PySem.Value.type "object"] 225 (PySem.Str.ofString "Flattener") true [] [] false none false)) #[none, none, some (PySem.Value.str (PySem.Str.ofString "Flattener") 406), some (PySem.Value.str (PySem.Str.ofString "Flattener") 414), some (PySem.Value.builtin "object.__new__"), some (PySem.Value.bool true)]) ::
  (nat_lit 227, PySem.Obj.mk (PySem.Value.type "getset_descriptor") none (PySem.Data.fields #[PySem.Value.str (PySem.Str.ofString "__dict__") 490, PySem.Value.ref 226, PySem.Value.builtin "function.__dict__", PySem.Value.builtin "function.__dict__#set"]) #[]) ::
  (nat_lit 228, PySem.Obj.mk (PySem.Value.type "getset_descriptor") none (PySem.Data.fields #[PySem.Value.str (PySem.Str.ofString "__weakref__") 492, PySem.Value.ref 226, PySem.Value.builtin "ExceptionGroup.__weakref__", PySem.Value.none]) #[]) ::
  (nat_lit 238, PySem.Obj.mk (PySem.Value.type "tuple") none (PySem.Data.seq #[]) #[]) ::
  (nat_lit 240, PySem.Obj.mk (PySem.Value.type "tuple") none (PySem.Data.seq #[PySem.Value.str (PySem.Str.ofString "self") 514, PySem.Value.str (PySem.Str.ofString "a") 515, PySem.Value.str (PySem.Str.ofString "b") 516, PySem.Value.str (PySem.Str.ofString "c") 517, PySem.Value.str (PySem.Str.ofString "d") 518, PySem.Value.str (PySem.Str.ofString "e") 519, PySem.Value.str (PySem.Str.ofString "f") 520]) #[]) ::
  (nat_lit 241, PySem.Obj.mk (PySem.Value.type "tuple") none (PySem.Data.seq #[]) #[]) ::
  (nat_lit 243, PySem.Obj.mk (PySem.Value.type "code") none (PySem.Data.fields #[PySem.Value.str (PySem.Str.ofString "__init__") 511, PySem.Value.str (PySem.Str.ofString "Matrix.__init__") 512, PySem.Value.str (PySem.Str.ofString "/claim/cut.py") 513, PySem.Value.int 143 0, PySem.Value.int 7 0, PySem.Value.int 0 0, PySem.Value.int 0 0, PySem.Value.int 3 0, PySem.Value.ref 238, PySem.Value.bool true, PySem.Value.int 181 0, PySem.Value.ref 239, PySem.Value.none, PySem.Value.ref 240, PySem.Value.ref 241, PySem.Value.ref 242, PySem.Value.int 521 0, PySem.Value.int 143 0, PySem.Value.str (PySem.Str.ofString "/claim/cut.py") 522]) #[]) ::
  (nat_lit 244, fo (mst 25 0) fun nm ar bo sc => PySem.Obj.mk (PySem.Value.type "function") none (PySem.Data.func (PySem.FuncData.mk nm (PySem.Str.ofString "Matrix.__init__") ar (PySem.FuncBody.stmts bo) sc 3 [] PySem.Value.none PySem.Value.none PySem.Value.none (PySem.Value.str (PySem.Str.ofString "outlinemill.matrix") 497) none (PySem.Value.ref 243) PySem.Value.none 0)) #[]) ::
  (nat_lit 245, PySem.Obj.mk (PySem.Value.type "tuple") none (PySem.Data.seq #[]) #[]) ::
  (nat_lit 247, PySem.Obj.mk (PySem.Value.type "tuple") none (PySem.Data.seq #[PySem.Value.str (PySem.Str.ofString "self") 527]) #[]) ::
  (nat_lit 248, PySem.Obj.mk (PySem.Value.type "tuple") none (PySem.Data.seq #[]) #[]) ::
  (nat_lit 250, PySem.Obj.mk (PySem.Value.type "code") none (PySem.Data.fields #[PySem.Value.str (PySem.Str.ofString "row") 524, PySem.Value.str (PySem.Str.ofString "Matrix.row") 525, PySem.Value.str (PySem.Str.ofString "/claim/cut.py") 526, PySem.Value.int 151 0, PySem.Value.int 1 0, PySem.Value.int 0 0, PySem.Value.int 0 0, PySem.Value.int 3 0, PySem.Value.ref 245, PySem.Value.bool true, PySem.Value.int 181 0, PySem.Value.ref 246, PySem.Value.none, PySem.Value.ref 247, PySem.Value.ref 248, PySem.Value.ref 249, PySem.Value.int 528 0, PySem.Value.int 151 0, PySem.Value.str (PySem.Str.ofString "/claim/cut.py") 529]) #[]) ::
  (nat_lit 251, fo (mst 25 1) fun nm ar bo sc => PySem.Obj.mk (PySem.Value.type "function") none (PySem.Data.func (PySem.FuncData.mk nm (PySem.Str.ofString "Matrix.row") ar (PySem.FuncBody.stmts bo) sc 3 [] PySem.Value.none PySem.Value.none PySem.Value.none (PySem.Value.str (PySem.Str.ofString "outlinemill.matrix") 497) none (PySem.Value.ref 250) PySem.Value.none 0)) #[]) ::
  (nat_lit 252, PySem.Obj.mk (PySem.Value.type "tuple") none (PySem.Data.seq #[]) #[]) ::
  (nat_lit 254, PySem.Obj.mk (PySem.Value.type "tuple") none (PySem.Data.seq #[PySem.Value.str (PySem.Str.ofString "self") 534, PySem.Value.str (PySem.Str.ofString "p") 535, PySem.Value.str (PySem.Str.ofString "x") 536, PySem.Value.str (PySem.Str.ofString "y") 537]) #[]) ::
  (nat_lit 255, PySem.Obj.mk (PySem.Value.type "tuple") none (PySem.Data.seq #[]) #[]) ::
  (nat_lit 257, PySem.Obj.mk (PySem.Value.type "code") none (PySem.Data.fields #[PySem.Value.str (PySem.Str.ofString "vector") 531, PySem.Value.str (PySem.Str.ofString "Matrix.vector") 532, PySem.Value.str (PySem.Str.ofString "/claim/cut.py") 533, PySem.Value.int 154 0, PySem.Value.int 2 0, PySem.Value.int 0 0, PySem.Value.int 0 0, PySem.Value.int 3 0, PySem.Value.ref 252, PySem.Value.bool true, PySem.Value.int 181 0, PySem.Value.ref 253, PySem.Value.none, PySem.Value.ref 254, PySem.Value.ref 255, PySem.Value.ref 256, PySem.Value.int 538 0, PySem.Value.int 154 0, PySem.Value.str (PySem.Str.ofString "/claim/cut.py") 539]) #[]) ::
  (nat_lit 258, fo (mst 25 2) fun nm ar bo sc => PySem.Obj.mk (PySem.Value.type "function") none (PySem.Data.func (PySem.FuncData.mk nm (PySem.Str.ofString "Matrix.vector") ar (PySem.FuncBody.stmts bo) sc 3 [] PySem.Value.none PySem.Value.none PySem.Value.none (PySem.Value.str (PySem.Str.ofString "outlinemill.matrix") 497) none (PySem.Value.ref 257) PySem.Value.none 0)) #[]) ::
  (nat_lit 259, PySem.Obj.mk (PySem.Value.type "tuple") none (PySem.Data.seq #[]) #[]) ::
  (nat_lit 261, PySem.Obj.mk (PySem.Value.type "tuple") none (PySem.Data.seq #[PySem.Value.str (PySem.Str.ofString "self") 544, PySem.Value.str (PySem.Str.ofString "p") 545, PySem.Value.str (PySem.Str.ofString "x") 546, PySem.Value.str (PySem.Str.ofString "y") 547]) #[]) ::
  (nat_lit 262, PySem.Obj.mk (PySem.Value.type "tuple") none (PySem.Data.seq #[]) #[]) ::
  (nat_lit 264, PySem.Obj.mk (PySem.Value.type "code") none (PySem.Data.fields #[PySem.Value.str (PySem.Str.ofString "point") 541, PySem.Value.str (PySem.Str.ofString "Matrix.point") 542, PySem.Value.str (PySem.Str.ofString "/claim/cut.py") 543, PySem.Value.int 158 0, PySem.Value.int 2 0, PySem.Value.int 0 0, PySem.Value.int 0 0, PySem.Value.int 3 0, PySem.Value.ref 259, PySem.Value.bool true, PySem.Value.int 181 0, PySem.Value.ref 260, PySem.Value.none, PySem.Value.ref 261, PySem.Value.ref 262, PySem.Value.ref 263, PySem.Value.int 548 0, PySem.Value.int 158 0, PySem.Value.str (PySem.Str.ofString "/claim/cut.py") 549]) #[]) ::
  (nat_lit 265, fo (mst 25 3) fun nm ar bo sc => PySem.Obj.mk (PySem.Value.type "function") none (PySem.Data.func (PySem.FuncData.mk nm (PySem.Str.ofString "Matrix.point") ar (PySem.FuncBody.stmts bo) sc 3 [] PySem.Value.none PySem.Value.none PySem.Value.none (PySem.Value.str (PySem.Str.ofString "outlinemill.matrix") 497) none (PySem.Value.ref 264) PySem.Value.none 0)) #[]) ::
  (nat_lit 266, PySem.Obj.mk (PySem.Value.type "tuple") none (PySem.Data.seq #[]) #[]) ::
  (nat_lit 268, PySem.Obj.mk (PySem.Value.type "tuple") none (PySem.Data.seq #[PySem.Value.str (PySem.Str.ofString "self") 554, PySem.Value.str (PySem.Str.ofString "other") 555, PySem.Value.str (PySem.Str.ofString "a") 556, PySem.Value.str (PySem.Str.ofString "b") 557, PySem.Value.str (PySem.Str.ofString "c") 558, PySem.Value.str (PySem.Str.ofString "d") 559, PySem.Value.str (PySem.Str.ofString "e") 560, PySem.Value.str (PySem.Str.ofString "f") 561]) #[]) ::
  (nat_lit 269, PySem.Obj.mk (PySem.Value.type "tuple") none (PySem.Data.seq #[]) #[]) ::
  (nat_lit 271, PySem.Obj.mk (PySem.Value.type "code") none (PySem.Data.fields #[PySem.Value.str (PySem.Str.ofString "then") 551, PySem.Value.str (PySem.Str.ofString "Matrix.then") 552, PySem.Value.str (PySem.Str.ofString "/claim/cut.py") 553, PySem.Value.int 162 0, PySem.Value.int 2 0, PySem.Value.int 0 0, PySem.Value.int 0 0, PySem.Value.int 3 0, PySem.Value.ref 266, PySem.Value.bool true, PySem.Value.int 181 0, PySem.Value.ref 267, PySem.Value.none, PySem.Value.ref 268, PySem.Value.ref 269, PySem.Value.ref 270, PySem.Value.int 562 0, PySem.Value.int 162 0, PySem.Value.str (PySem.Str.ofString "/claim/cut.py") 563]) #[]) ::
  (nat_lit 272, fo (mst 25 4) fun nm ar bo sc => PySem.Obj.mk (PySem.Value.type "function") none (PySem.Data.func (PySem.FuncData.mk nm (PySem.Str.ofString "Matrix.then") ar (PySem.FuncBody.stmts bo) sc 3 [] PySem.Value.none PySem.Value.none PySem.Value.none (PySem.Value.str (PySem.Str.ofString "outlinemill.matrix") 497) none (PySem.Value.ref 271) PySem.Value.none 0)) #[]) ::
  (nat_lit 273, PySem.Obj.mk (PySem.Value.type "tuple") none (PySem.Data.seq #[]) #[]) ::
  (nat_lit 275, PySem.Obj.mk (PySem.Value.type "tuple") none (PySem.Data.seq #[PySem.Value.str (PySem.Str.ofString "self") 568]) #[]) ::
  (nat_lit 276, PySem.Obj.mk (PySem.Value.type "tuple") none (PySem.Data.seq #[]) #[]) ::
  (nat_lit 278, PySem.Obj.mk (PySem.Value.type "code") none (PySem.Data.fields #[PySem.Value.str (PySem.Str.ofString "determinant") 565, PySem.Value.str (PySem.Str.ofString "Matrix.determinant") 566, PySem.Value.str (PySem.Str.ofString "/claim/cut.py") 567, PySem.Value.int 168 0, PySem.Value.int 1 0, PySem.Value.int 0 0, PySem.Value.int 0 0, PySem.Value.int 3 0, PySem.Value.ref 273, PySem.Value.bool true, PySem.Value.int 181 0, PySem.Value.ref 274, PySem.Value.none, PySem.Value.ref 275, PySem.Value.ref 276, PySem.Value.ref 277, PySem.Value.int 569 0, PySem.Value.int 168 0, PySem.Value.str (PySem.Str.ofString "/claim/cut.py") 570]) #[]) ::
  (nat_lit 279, fo (mst 25 5) fun nm ar bo sc => PySem.Obj.mk (PySem.Value.type "function") none (PySem.Data.func (PySem.FuncData.mk nm (PySem.Str.ofString "Matrix.determinant") ar (PySem.FuncBody.stmts bo) sc 3 [] PySem.Value.none PySem.Value.none PySem.Value.none (PySem.Value.str (PySem.Str.ofString "outlinemill.matrix") 497) none (PySem.Value.ref 278) PySem.Value.none 0)) #[]) ::
  (nat_lit 280, PySem.Obj.mk (PySem.Value.type "tuple") none (PySem.Data.seq #[]) #[]) ::
  (nat_lit 282, PySem.Obj.mk (PySem.Value.type "tuple") none (PySem.Data.seq #[PySem.Value.str (PySem.Str.ofString "self") 575]) #[]) ::
  (nat_lit 283, PySem.Obj.mk (PySem.Value.type "tuple") none (PySem.Data.seq #[]) #[]) ::
  (nat_lit 285, PySem.Obj.mk (PySem.Value.type "code") none (PySem.Data.fields #[PySem.Value.str (PySem.Str.ofString "inverse") 572, PySem.Value.str (PySem.Str.ofString "Matrix.inverse") 573, PySem.Value.str (PySem.Str.ofString "/claim/cut.py") 574, PySem.Value.int 171 0, PySem.Value.int 1 0, PySem.Value.int 0 0, PySem.Value.int 0 0, PySem.Value.int 3 0, PySem.Value.ref 280, PySem.Value.bool true, PySem.Value.int 181 0, PySem.Value.ref 281, PySem.Value.none, PySem.Value.ref 282, PySem.Value.ref 283, PySem.Value.ref 284, PySem.Value.int 576 0, PySem.Value.int 171 0, PySem.Value.str (PySem.Str.ofString "/claim/cut.py") 577]) #[]) ::
  (nat_lit 286, fo (mst 25 6) fun nm ar bo sc => PySem.Obj.mk (PySem.Value.type "function") none (PySem.Data.func (PySem.FuncData.mk nm (PySem.Str.ofString "Matrix.inverse") ar (PySem.FuncBody.stmts bo) sc 3 [] PySem.Value.none PySem.Value.none PySem.Value.none (PySem.Value.str (PySem.Str.ofString "outlinemill.matrix") 497) none (PySem.Value.ref 285) PySem.Value.none 0)) #[]) ::
  (nat_lit 287, PySem.Obj.mk (PySem.Value.type "tuple") none (PySem.Data.seq #[PySem.Value.str (PySem.Str.ofString "a") 579, PySem.Value.str (PySem.Str.ofString "b") 580, PySem.Value.str (PySem.Str.ofString "c") 581, PySem.Value.str (PySem.Str.ofString "d") 582, PySem.Value.str (PySem.Str.ofString "e") 583, PySem.Value.str (PySem.Str.ofString "f") 584]) #[]) ::
  (nat_lit 288, PySem.Obj.mk (PySem.Value.type "dict") none (PySem.Data.dict #[PySem.DictEntry.mk (PySem.PyData.keyHash P (PySem.Str.ofString "__module__")) (PySem.Value.str (PySem.Str.ofString "__module__") 506) (PySem.Value.str (PySem.Str.ofString "outlinemill.matrix") 497), PySem.DictEntry.mk (PySem.PyData.keyHash P (PySem.Str.ofString "__firstlineno__")) (PySem.Value.str (PySem.Str.ofString "__firstlineno__") 510) (PySem.Value.int 141 509), PySem.DictEntry.mk (PySem.PyData.keyHash P (PySem.Str.ofString "__init__")) (PySem.Value.str (PySem.Str.ofString "__init__") 523) (PySem.Value.ref 244), PySem.DictEntry.mk (PySem.PyData.keyHash P (PySem.Str.ofString "row")) (PySem.Value.str (PySem.Str.ofString "row") 530) (PySem.Value.ref 251), PySem.DictEntry.mk (PySem.PyData.keyHash P (PySem.Str.ofString "vector")) (PySem.Value.str (PySem.Str.ofString "vector") 540) (PySem.Value.ref 258), PySem.DictEntry.mk (PySem.PyData.keyHash P (PySem.Str.ofString "point")) (PySem.Value.str (PySem.Str.ofString "point") 550) (PySem.Value.ref 265), PySem.DictEntry.mk (PySem.PyData.keyHash P (PySem.Str.ofString "then")) (PySem.Value.str (PySem.Str.ofString "then") 564) (PySem.Value.ref 272), PySem.DictEntry.mk (PySem.PyData.keyHash P (PySem.Str.ofString "determinant")) (PySem.Value.str (PySem.Str.ofString "determinant") 571) (PySem.Value.ref 279), PySem.DictEntry.mk (PySem.PyData.keyHash P (PySem.Str.ofString "inverse")) (PySem.Value.str (PySem.Str.ofString "inverse") 578) (PySem.Value.ref 286), PySem.DictEntry.mk (PySem.PyData.keyHash P (PySem.Str.ofString "__static_attributes__")) (PySem.Value.str (PySem.Str.ofString "__static_attributes__") 585) (PySem.Value.ref 287), PySem.DictEntry.mk (PySem.PyData.keyHash P (PySem.Str.ofString "__dict__")) (PySem.Value.str (PySem.Str.ofString "__dict__") 587) (PySem.Value.ref 290), PySem.DictEntry.mk (PySem.PyData.keyHash P (PySem.Str.ofString "__weakref__")) (PySem.Value.str (PySem.Str.ofString "__weakref__") 589) (PySem.Value.ref 291), PySem.DictEntry.mk (PySem.PyData.keyHash P (PySem.Str.ofString "__doc__")) (PySem.Value.str (PySem.Str.ofString "__doc__") 590) PySem.Value.none] 4) #[]) ::
  (nat_lit 289, PySem.Obj.mk (PySem.Value.type "type") none (PySem.Data.cls (PySem.ClassData.mk (PySem.Str.ofString "Matrix") [PySem.Value.type "object"] [PySem.Value.ref 289, PySem.Value.type "object"] 288 (PySem.Str.ofString "Matrix") true [] [] false none false)) #[none, none, some (PySem.Value.str (PySem.Str.ofString "Matrix") 499), some (PySem.Value.str (PySem.Str.ofString "Matrix") 507), some (PySem.Value.builtin "object.__new__"), some (PySem.Value.bool true)]) ::
  (nat_lit 290, PySem.Obj.mk (PySem.Value.type "getset_descriptor") none (PySem.Data.fields #[PySem.Value.str (PySem.Str.ofString "__dict__") 586, PySem.Value.ref 289, PySem.Value.builtin "function.__dict__", PySem.Value.builtin "function.__dict__#set"]) #[]) ::
  (nat_lit 291, PySem.Obj.mk (PySem.Value.type "getset_descriptor") none (PySem.Data.fields #[PySem.Value.str (PySem.Str.ofString "__weakref__") 588, PySem.Value.ref 289, PySem.Value.builtin "ExceptionGroup.__weakref__", PySem.Value.none]) #[]) ::
  (nat_lit 294, PySem.Obj.mk (PySem.Value.type "tuple") none (PySem.Data.seq #[]) #[]) ::
  (nat_lit 296, PySem.Obj.mk (PySem.Value.type "tuple") none (PySem.Data.seq #[]) #[]) ::
  (nat_lit 297, PySem.Obj.mk (PySem.Value.type "tuple") none (PySem.Data.seq #[]) #[]) ::
  (nat_lit 299, PySem.Obj.mk (PySem.Value.type "code") none (PySem.Data.fields #[PySem.Value.str (PySem.Str.ofString "identity") 593, PySem.Value.str (PySem.Str.ofString "identity") 594, PySem.Value.str (PySem.Str.ofString "/claim/cut.py") 595, PySem.Value.int 173 0, PySem.Value.int 0 0, PySem.Value.int 0 0, PySem.Value.int 0 0, PySem.Value.int 3 0, PySem.Value.ref 294, PySem.Value.bool true, PySem.Value.int 181 0, PySem.Value.ref 295, PySem.Value.none, PySem.Value.ref 296, PySem.Value.ref 297, PySem.Value.ref 298, PySem.Value.int 596 0, PySem.Value.int 173 0, PySem.Value.str (PySem.Str.ofString "/claim/cut.py") 597]) #[]) ::
  (nat_lit 300, fo (tst 26) fun nm ar bo sc => PySem.Obj.mk (PySem.Value.type "function") none (PySem.Data.func (PySem.FuncData.mk nm (PySem.Str.ofString "identity") ar (PySem.FuncBody.stmts bo) sc 3 [] PySem.Value.none PySem.Value.none PySem.Value.none (PySem.Value.str (PySem.Str.ofString "outlinemill.matrix") 497) none (PySem.Value.ref 299) PySem.Value.none 0)) #[]) ::
  (nat_lit 301, PySem.Obj.mk (PySem.Value.type "tuple") none (PySem.Data.seq #[]) #[]) ::
  (nat_lit 303, PySem.Obj.mk (PySem.Value.type "tuple") none (PySem.Data.seq #[PySem.Value.str (PySem.Str.ofString "script") 604, PySem.Value.str (PySem.Str.ofString "row") 605, PySem.Value.str (PySem.Str.ofString "cell") 606, PySem.Value.str (PySem.Str.ofString "big") 607, PySem.Value.str (PySem.Str.ofString "blend") 608]) #[]) ::
  (nat_lit 304, PySem.Obj.mk (PySem.Value.type "tuple") none (PySem.Data.seq #[]) #[]) ::
  (nat_lit 306, PySem.Obj.mk (PySem.Value.type "code") none (PySem.Data.fields #[PySem.Value.str (PySem.Str.ofString "_law_pool") 601, PySem.Value.str (PySem.Str.ofString "_law_pool") 602, PySem.Value.str (PySem.Str.ofString "/claim/cut.py") 603, PySem.Value.int 176 0, PySem.Value.int 2 0, PySem.Value.int 0 0, PySem.Value.int 0 0, PySem.Value.int 3 0, PySem.Value.ref 301, PySem.Value.bool true, PySem.Value.int 181 0, PySem.Value.ref 302, PySem.Value.none, PySem.Value.ref 303, PySem.Value.ref 304, PySem.Value.ref 305, PySem.Value.int 609 0, PySem.Value.int 176 0, PySem.Value.str (PySem.Str.ofString "/claim/cut.py") 610]) #[]) ::
  (nat_lit 307, fo (tst 28) fun nm ar bo sc => PySem.Obj.mk (PySem.Value.type "function") none (PySem.Data.func (PySem.FuncData.mk nm (PySem.Str.ofString "_law_pool") ar (PySem.FuncBody.stmts bo) sc 3 [] PySem.Value.none PySem.Value.none PySem.Value.none (PySem.Value.str (PySem.Str.ofString "law_pf0204_01") 599) none (PySem.Value.ref 306) PySem.Value.none 0)) #[]) ::
  (nat_lit 308, PySem.Obj.mk (PySem.Value.type "tuple") none (PySem.Data.seq #[]) #[]) ::
  (nat_lit 310, PySem.Obj.mk (PySem.Value.type "tuple") none (PySem.Data.seq #[PySem.Value.str (PySem.Str.ofString "source") 615, PySem.Value.str (PySem.Str.ofString "top") 616, PySem.Value.str (PySem.Str.ofString "figure") 617]) #[]) ::
  (nat_lit 311, PySem.Obj.mk (PySem.Value.type "tuple") none (PySem.Data.seq #[]) #[]) ::
  (nat_lit 313, PySem.Obj.mk (PySem.Value.type "code") none (PySem.Data.fields #[PySem.Value.str (PySem.Str.ofString "_law_take") 612, PySem.Value.str (PySem.Str.ofString "_law_take") 613, PySem.Value.str (PySem.Str.ofString "/claim/cut.py") 614, PySem.Value.int 181 0, PySem.Value.int 2 0, PySem.Value.int 0 0, PySem.Value.int 0 0, PySem.Value.int 3 0, PySem.Value.ref 308, PySem.Value.bool true, PySem.Value.int 181 0, PySem.Value.ref 309, PySem.Value.none, PySem.Value.ref 310, PySem.Value.ref 311, PySem.Value.ref 312, PySem.Value.int 618 0, PySem.Value.int 181 0, PySem.Value.str (PySem.Str.ofString "/claim/cut.py") 619]) #[]) ::
  (nat_lit 314, fo (tst 29) fun nm ar bo sc => PySem.Obj.mk (PySem.Value.type "function") none (PySem.Data.func (PySem.FuncData.mk nm (PySem.Str.ofString "_law_take") ar (PySem.FuncBody.stmts bo) sc 3 [] PySem.Value.none PySem.Value.none PySem.Value.none (PySem.Value.str (PySem.Str.ofString "law_pf0204_01") 599) none (PySem.Value.ref 313) PySem.Value.none 0)) #[]) ::
  (nat_lit 322, PySem.Obj.mk (PySem.Value.type "tuple") none (PySem.Data.seq #[]) #[]) ::
  (nat_lit 325, PySem.Obj.mk (PySem.Value.type "code") none (PySem.Data.fields #[PySem.Value.str (PySem.Str.ofString "_law_place") 629, PySem.Value.str (PySem.Str.ofString "_law_place") 630, PySem.Value.str (PySem.Str.ofString "/claim/cut.py") 631, PySem.Value.int 192 0, PySem.Value.int 3 0, PySem.Value.int 0 0, PySem.Value.int 0 0, PySem.Value.int 3 0, PySem.Value.ref 322, PySem.Value.bool true, PySem.Value.int 181 0, PySem.Value.ref 323, PySem.Value.none, PySem.Value.none, PySem.Value.none, PySem.Value.ref 324, PySem.Value.int 632 0, PySem.Value.int 192 0, PySem.Value.str (PySem.Str.ofString "/claim/cut.py") 633]) #[]) ::
  (nat_lit 326, fo (tst 31) fun nm ar bo sc => PySem.Obj.mk (PySem.Value.type "function") none (PySem.Data.func (PySem.FuncData.mk nm (PySem.Str.ofString "_law_place") ar (PySem.FuncBody.stmts bo) sc 3 [] PySem.Value.none PySem.Value.none PySem.Value.none (PySem.Value.str (PySem.Str.ofString "law_pf0204_01") 599) none (PySem.Value.ref 325) PySem.Value.none 0)) #[]) ::
  (nat_lit 327, PySem.Obj.mk (PySem.Value.type "tuple") none (PySem.Data.seq #[]) #[]) ::
  (nat_lit 329, PySem.Obj.mk (PySem.Value.type "tuple") none (PySem.Data.seq #[PySem.Value.str (PySem.Str.ofString "here") 638, PySem.Value.str (PySem.Str.ofString "place") 639, PySem.Value.str (PySem.Str.ofString "whole") 640]) #[]) ::
  (nat_lit 330, PySem.Obj.mk (PySem.Value.type "tuple") none (PySem.Data.seq #[]) #[]) ::
  (nat_lit 332, PySem.Obj.mk (PySem.Value.type "code") none (PySem.Data.fields #[PySem.Value.str (PySem.Str.ofString "_law_gap") 635, PySem.Value.str (PySem.Str.ofString "_law_gap") 636, PySem.Value.str (PySem.Str.ofString "/claim/cut.py") 637, PySem.Value.int 197 0, PySem.Value.int 3 0, PySem.Value.int 0 0, PySem.Value.int 0 0, PySem.Value.int 3 0, PySem.Value.ref 327, PySem.Value.bool true, PySem.Value.int 181 0, PySem.Value.ref 328, PySem.Value.none, PySem.Value.ref 329, PySem.Value.ref 330, PySem.Value.ref 331, PySem.Value.int 641 0, PySem.Value.int 197 0, PySem.Value.str (PySem.Str.ofString "/claim/cut.py") 642]) #[]) ::
  (nat_lit 333, fo (tst 32) fun nm ar bo sc => PySem.Obj.mk (PySem.Value.type "function") none (PySem.Data.func (PySem.FuncData.mk nm (PySem.Str.ofString "_law_gap") ar (PySem.FuncBody.stmts bo) sc 3 [] PySem.Value.none PySem.Value.none PySem.Value.none (PySem.Value.str (PySem.Str.ofString "law_pf0204_01") 599) none (PySem.Value.ref 332) PySem.Value.none 0)) #[]) ::
  (nat_lit 334, PySem.Obj.mk (PySem.Value.type "tuple") none (PySem.Data.seq #[]) #[]) ::
  (nat_lit 336, PySem.Obj.mk (PySem.Value.type "tuple") none (PySem.Data.seq #[PySem.Value.str (PySem.Str.ofString "place") 647, PySem.Value.str (PySem.Str.ofString "whole") 648, PySem.Value.str (PySem.Str.ofString "one") 649, PySem.Value.str (PySem.Str.ofString "other") 650, PySem.Value.str (PySem.Str.ofString "bound") 651, PySem.Value.str (PySem.Str.ofString "x") 652, PySem.Value.str (PySem.Str.ofString "y") 653, PySem.Value.str (PySem.Str.ofString "ahead") 654, PySem.Value.str (PySem.Str.ofString "aside") 655, PySem.Value.str (PySem.Str.ofString "size") 656, PySem.Value.str (PySem.Str.ofString "onward") 657]) #[]) ::
  (nat_lit 337, PySem.Obj.mk (PySem.Value.type "tuple") none (PySem.Data.seq #[]) #[]) ::
  (nat_lit 339, PySem.Obj.mk (PySem.Value.type "code") none (PySem.Data.fields #[PySem.Value.str (PySem.Str.ofString "_law_is_beside") 644, PySem.Value.str (PySem.Str.ofString "_law_is_beside") 645, PySem.Value.str (PySem.Str.ofString "/claim/cut.py") 646, PySem.Value.int 199 0, PySem.Value.int 5 0, PySem.Value.int 0 0, PySem.Value.int 0 0, PySem.Value.int 3 0, PySem.Value.ref 334, PySem.Value.bool true, PySem.Value.int 181 0, PySem.Value.ref 335, PySem.Value.none, PySem.Value.ref 336, PySem.Value.ref 337, PySem.Value.ref 338, PySem.Value.int 658 0, PySem.Value.int 199 0, PySem.Value.str (PySem.Str.ofString "/claim/cut.py") 659]) #[]) ::
  (nat_lit 340, fo (tst 33) fun nm ar bo sc => PySem.Obj.mk (PySem.Value.type "function") none (PySem.Data.func (PySem.FuncData.mk nm (PySem.Str.ofString "_law_is_beside") ar (PySem.FuncBody.stmts bo) sc 3 [] PySem.Value.none PySem.Value.none PySem.Value.none (PySem.Value.str (PySem.Str.ofString "law_pf0204_01") 599) none (PySem.Value.ref 339) PySem.Value.none 0)) #[]) ::
  (nat_lit 341, PySem.Obj.mk (PySem.Value.type "tuple") none (PySem.Data.seq #[]) #[]) ::
  (nat_lit 344, PySem.Obj.mk (PySem.Value.type "code") none (PySem.Data.fields #[PySem.Value.str (PySem.Str.ofString "_law_spots_right") 661, PySem.Value.str (PySem.Str.ofString "_law_spots_right") 662, PySem.Value.str (PySem.Str.ofString "/claim/cut.py") 663, PySem.Value.int 209 0, PySem.Value.int 1 0, PySem.Value.int 0 0, PySem.Value.int 0 0, PySem.Value.int 3 0, PySem.Value.ref 341, PySem.Value.bool true, PySem.Value.int 181 0, PySem.Value.ref 342, PySem.Value.none, PySem.Value.none, PySem.Value.none, PySem.Value.ref 343, PySem.Value.int 664 0, PySem.Value.int 209 0, PySem.Value.str (PySem.Str.ofString "/claim/cut.py") 665]) #[]) ::
  (nat_lit 345, fo (tst 34) fun nm ar bo sc => PySem.Obj.mk (PySem.Value.type "function") none (PySem.Data.func (PySem.FuncData.mk nm (PySem.Str.ofString "_law_spots_right") ar (PySem.FuncBody.stmts bo) sc 3 [] PySem.Value.none PySem.Value.none PySem.Value.none (PySem.Value.str (PySem.Str.ofString "law_pf0204_01") 599) none (PySem.Value.ref 344) PySem.Value.none 0)) #[]) ::
  (nat_lit 346, PySem.Obj.mk (PySem.Value.type "tuple") none (PySem.Data.seq #[]) #[]) ::
  (nat_lit 348, PySem.Obj.mk (PySem.Value.type "tuple") none (PySem.Data.seq #[PySem.Value.str (PySem.Str.ofString "number") 670, PySem.Value.str (PySem.Str.ofString "piece") 671]) #[]) ::
  (nat_lit 349, PySem.Obj.mk (PySem.Value.type "tuple") none (PySem.Data.seq #[]) #[]) ::
  (nat_lit 351, PySem.Obj.mk (PySem.Value.type "code") none (PySem.Data.fields #[PySem.Value.str (PySem.Str.ofString "_law_fraction") 667, PySem.Value.str (PySem.Str.ofString "_law_fraction") 668, PySem.Value.str (PySem.Str.ofString "/claim/cut.py") 669, PySem.Value.int 228 0, PySem.Value.int 1 0, PySem.Value.int 0 0, PySem.Value.int 0 0, PySem.Value.int 3 0, PySem.Value.ref 346, PySem.Value.bool true, PySem.Value.int 181 0, PySem.Value.ref 347, PySem.Value.none, PySem.Value.ref 348, PySem.Value.ref 349, PySem.Value.ref 350, PySem.Value.int 672 0, PySem.Value.int 228 0, PySem.Value.str (PySem.Str.ofString "/claim/cut.py") 673]) #[]) ::
  (nat_lit 352, fo (tst 35) fun nm ar bo sc => PySem.Obj.mk (PySem.Value.type "function") none (PySem.Data.func (PySem.FuncData.mk nm (PySem.Str.ofString "_law_fraction") ar (PySem.FuncBody.stmts bo) sc 3 [] PySem.Value.none PySem.Value.none PySem.Value.none (PySem.Value.str (PySem.Str.ofString "law_pf0204_01") 599) none (PySem.Value.ref 351) PySem.Value.none 0)) #[]) ::
  (nat_lit 353, PySem.Obj.mk (PySem.Value.type "tuple") none (PySem.Data.seq #[]) #[]) ::
  (nat_lit 355, PySem.Obj.mk (PySem.Value.type "tuple") none (PySem.Data.seq #[PySem.Value.str (PySem.Str.ofString "number") 678, PySem.Value.str (PySem.Str.ofString "fine") 679]) #[]) ::
  (nat_lit 356, PySem.Obj.mk (PySem.Value.type "tuple") none (PySem.Data.seq #[]) #[]) ::
  (nat_lit 358, PySem.Obj.mk (PySem.Value.type "code") none (PySem.Data.fields #[PySem.Value.str (PySem.Str.ofString "_law_grains") 675, PySem.Value.str (PySem.Str.ofString "_law_grains") 676, PySem.Value.str (PySem.Str.ofString "/claim/cut.py") 677, PySem.Value.int 233 0, PySem.Value.int 1 0, PySem.Value.int 0 0, PySem.Value.int 0 0, PySem.Value.int 3 0, PySem.Value.ref 353, PySem.Value.bool true, PySem.Value.int 181 0, PySem.Value.ref 354, PySem.Value.none, PySem.Value.ref 355, PySem.Value.ref 356, PySem.Value.ref 357, PySem.Value.int 680 0, PySem.Value.int 233 0, PySem.Value.str (PySem.Str.ofString "/claim/cut.py") 681]) #[]) ::
  (nat_lit 359, fo (tst 36) fun nm ar bo sc => PySem.Obj.mk (PySem.Value.type "function") none (PySem.Data.func (PySem.FuncData.mk nm (PySem.Str.ofString "_law_grains") ar (PySem.FuncBody.stmts bo) sc 3 [] PySem.Value.none PySem.Value.none PySem.Value.none (PySem.Value.str (PySem.Str.ofString "law_pf0204_01") 599) none (PySem.Value.ref 358) PySem.Value.none 0)) #[]) ::
  (nat_lit 360, PySem.Obj.mk (PySem.Value.type "tuple") none (PySem.Data.seq #[]) #[]) ::
  (nat_lit 363, PySem.Obj.mk (PySem.Value.type "code") none (PySem.Data.fields #[PySem.Value.str (PySem.Str.ofString "_law_contour_right") 683, PySem.Value.str (PySem.Str.ofString "_law_contour_right") 684, PySem.Value.str (PySem.Str.ofString "/claim/cut.py") 685, PySem.Value.int 236 0, PySem.Value.int 1 0, PySem.Value.int 0 0, PySem.Value.int 0 0, PySem.Value.int 3 0, PySem.Value.ref 360, PySem.Value.bool true, PySem.Value.int 181 0, PySem.Value.ref 361, PySem.Value.none, PySem.Value.none, PySem.Value.none, PySem.Value.ref 362, PySem.Value.int 686 0, PySem.Value.int 236 0, PySem.Value.str (PySem.Str.ofString "/claim/cut.py") 687]) #[]) ::
  (nat_lit 364, fo (tst 37) fun nm ar bo sc => PySem.Obj.mk (PySem.Value.type "function") none (PySem.Data.func (PySem.FuncData.mk nm (PySem.Str.ofString "_law_contour_right") ar (PySem.FuncBody.stmts bo) sc 3 [] PySem.Value.none PySem.Value.none PySem.Value.none (PySem.Value.str (PySem.Str.ofString "law_pf0204_01") 599) none (PySem.Value.ref 363) PySem.Value.none 0)) #[]) ::
  (nat_lit 365, PySem.Obj.mk (PySem.Value.type "tuple") none (PySem.Data.seq #[]) #[]) ::
  (nat_lit 367, PySem.Obj.mk (PySem.Value.type "tuple") none (PySem.Data.seq #[PySem.Value.str (PySem.Str.ofString "script") 692, PySem.Value.str (PySem.Str.ofString "source") 693]) #[]) ::
  (nat_lit 368, PySem.Obj.mk (PySem.Value.type "tuple") none (PySem.Data.seq #[]) #[]) ::
  (nat_lit 370, PySem.Obj.mk (PySem.Value.type "code") none (PySem.Data.fields #[PySem.Value.str (PySem.Str.ofString "law") 689, PySem.Value.str (PySem.Str.ofString "law") 690, PySem.Value.str (PySem.Str.ofString "/claim/cut.py") 691, PySem.Value.int 247 0, PySem.Value.int 1 0, PySem.Value.int 0 0, PySem.Value.int 0 0, PySem.Value.int 3 0, PySem.Value.ref 365, PySem.Value.bool true, PySem.Value.int 181 0, PySem.Value.ref 366, PySem.Value.none, PySem.Value.ref 367, PySem.Value.ref 368, PySem.Value.ref 369, PySem.Value.int 694 0, PySem.Value.int 247 0, PySem.Value.str (PySem.Str.ofString "/claim/cut.py") 695]) #[]) ::
  (nat_lit 371, fo (tst 38) fun nm ar bo sc => PySem.Obj.mk (PySem.Value.type "function") none (PySem.Data.func (PySem.FuncData.mk nm (PySem.Str.ofString "law") ar (PySem.FuncBody.stmts bo) sc 3 [] PySem.Value.none PySem.Value.none PySem.Value.none (PySem.Value.str (PySem.Str.ofString "law_pf0204_01") 599) none (PySem.Value.ref 370) PySem.Value.none 0)) #[]) :: []
noncomputable def as_39 : List Addr := [2, 3, 15, 17, 18, 20, 21, 22, 29, 31, 32, 34, 35, 36, 37, 38, 39, 42, 49, 50, 51, 54, 61, 63, 64, 66, 67, 68, 69, 70, 73, 74, 75, 77, 78, 80, 81, 82, 83, 85, 86, 88, 89, 90, 92, 93, 95, 96, 97, 99, 100, 102, 103, 104, 106, 107, 109, 110, 111, 113, 114, 116, 117, 118, 120, 121, 123, 124, 125, 127, 128, 130, 131, 132, 134, 135, 137, 138, 139, 142, 143, 144, 146, 147, 149, 150, 151, 153, 154, 156, 157, 158, 160, 161, 163, 164, 172, 174, 175, 177, 178, 179, 181, 182, 184, 185, 186, 188, 189, 191, 192, 193, 196, 197, 198, 201, 202, 203, 205, 206, 208, 209, 210, 212, 213, 215, 216, 217, 219, 220, 222, 223, 224, 225, 226, 227, 228, 238, 240, 241, 243, 244, 245, 247, 248, 250, 251, 252, 254, 255, 257, 258, 259, 261, 262, 264, 265, 266, 268, 269, 271, 272, 273, 275, 276, 278, 279, 280, 282, 283, 285, 286, 287, 288, 289, 290, 291, 294, 296, 297, 299, 300, 301, 303, 304, 306, 307, 308, 310, 311, 313, 314, 322, 325, 326, 327, 329, 330, 332, 333, 334, 336, 337, 339, 340, 341, 344, 345, 346, 348, 349, 351, 352, 353, 355, 356, 358, 359, 360, 363, 364, 365, 367, 368, 370, 371]
theorem as_ok (P : Params) : as_39 = (heap_39 P).map (·.1) := by kernel_rfl
end hd
namespace hd
/-- the top's run over a heap laid as a tree -/
noncomputable def runT (ok : Thread → Bool) (st : SharedT → Thread → Option (SharedT × Thread)) : Nat → SharedT → Thread → Option SharedT
  | 0, _, _ => none
  | n + 1, s, t => match through t with
    | true => some s
    | false => match ok t with
      | false => none
      | true => match st s t with
        | some (s', t') => runT ok st n s' t'
        | none => none
theorem runT_spec {tb : String → Option Builtin} {p : Program} {w : World} {n₀ : Nat} {ann : Option Value} : ∀ {n : Nat} {s s' : SharedT} {t : Thread}, runT (stepOk n₀ ann) (stepT (denote tb) p w) n s t = some s' → topRun tb p w n₀ ann n s.abs t = some s'.abs
  | 0, _, _, _, h => by cases h
  | n + 1, s, s', t, h => by
    unfold runT at h
    unfold topRun
    cases ht : through t with
    | true => rw [ht] at h; cases h; rfl
    | false =>
      rw [ht] at h
      cases hk : stepOk n₀ ann t with
      | false => rw [hk] at h; cases h
      | true =>
        rw [hk] at h
        cases hs : stepT (denote tb) p w s t with
        | none => rw [hs] at h; cases h
        | some r => obtain ⟨s₂, t₂⟩ := r; rw [hs] at h; dsimp only; rw [stepT_spec hs]; exact runT_spec h
noncomputable def grow : List Obj → Nat → BT → BT
  | [], _, t => t
  | o :: r, n, t => grow r (n + 1) (t.ins n o)
noncomputable def boot_tree (P : Params) : BT := grow (boot_heap P).objs.toList 0 .nil
theorem boot_abs (P : Params) : absHeap (boot_tree P) (boot_heap P).objs.size (boot_heap P).life = boot_heap P := by kernel_rfl
noncomputable def boot_T (w : World) (os : OsState) : SharedT := ⟨boot_tree w.params, (boot_heap w.params).objs.size, (boot_heap w.params).life, Array.mk [], boot_drawn, boot_toks, os⟩
/-- the head by two runs of the top from the boot's end; the kernel runs the library's twins over the tree -/
theorem left_boot {p q : Program} {loose : List Str} {Xt : Shared → Bool} {α : Type} {Yf : Shared → α} {Ya : World → α} {N : Nat} {g0 : Bool}
    (e : opening p = plainProg p.main.scope.names) (hN : Nat.ble 600 N = true) (f : ∀ s, fenceModules? p s = some s) (hn : ∀ P, (boot_heap P).isNs mainGlobals = true)
    (h : ∀ (w : World) (os : OsState), (runT (stepOk (boot_heap w.params).objs.size ((boot_heap w.params).nsMap mainGlobals "__annotations__")) (stepT (denote treeTable) p w) N (boot_T w os) (topStub p)).map
      (fun s => ((staticsOk (importedModules p.main.body) (boot_heap w.params) s.abs.heap && namesBound p s.abs.heap && gensDone s.abs && laidKept (boot_heap w.params) s.abs.heap), Yf s.abs)) = some (true, Ya w))
    (k : ∀ (w : World) (os : OsState), (runT (stepOk (boot_heap w.params).objs.size ((boot_heap w.params).nsMap mainGlobals "__annotations__")) (stepT (denote treeTable) p w) N (boot_T w os) (topStub p)).map
      (fun s => openSeen q loose (importedModules p.main.body) Xt g0 s.abs) = some (openGood q loose)) : LeftO p q loose Xt Yf Ya N g0 := fun w => by
  obtain ⟨⟨hp, gs, d, kk, os⟩, e1, e2⟩ := Option.map_eq_some_iff.mp (boot_open e hN f w)
  obtain ⟨rfl, rfl, rfl, rfl⟩ : hp = boot_heap w.params ∧ gs = Array.mk [] ∧ d = boot_drawn ∧ kk = boot_toks := by simpa using e2
  obtain ⟨s₁, h1, h2⟩ := Option.map_eq_some_iff.mp (h w os)
  obtain ⟨s₂, k1, k2⟩ := Option.map_eq_some_iff.mp (k w os)
  obtain rfl : s₁ = s₂ := Option.some.inj (h1.symm.trans k1)
  obtain ⟨l1, l2⟩ := Prod.mk.inj h2
  have r := runT_spec h1
  rw [show (boot_T w os).abs = ⟨boot_heap w.params, Array.mk [], boot_drawn, boot_toks, os⟩ from congrArg (fun x => Shared.mk x (Array.mk []) boot_drawn boot_toks os) (boot_abs w.params)] at r
  have t : topFrom treeTable p w N ⟨boot_heap w.params, Array.mk [], boot_drawn, boot_toks, os⟩ = some s₁.abs := by
    unfold topFrom
    dsimp only
    rw [hn, r]
    show (match staticsOk (importedModules p.main.body) (boot_heap w.params) s₁.abs.heap && namesBound p s₁.abs.heap && gensDone s₁.abs && laidKept (boot_heap w.params) s₁.abs.heap with | true => _ | false => _) = _
    rw [l1]
  unfold openEnds
  rw [e1]
  show (topFrom treeTable p w N _).map _ = _
  rw [t]
  exact congrArg some (Prod.ext k2 l2)
end hd
theorem hd.said : OpenLaw.wellSaid PySem.Challenge.rw_pf0204_01 = true := by
  rw [Fast.te9446332074065402090]
  kernel_rfl
theorem hd.run_a (w : World) (os : OsState) : (hd.runT (stepOk (boot_heap w.params).objs.size ((boot_heap w.params).nsMap mainGlobals "__annotations__")) (stepT (denote treeTable) hd.pw w) 5016 (hd.boot_T w os) (topStub hd.pw)).map
    (fun s => ((staticsOk (importedModules hd.pw.main.body) (boot_heap w.params) s.abs.heap && namesBound hd.pw s.abs.heap && gensDone s.abs && laidKept (boot_heap w.params) s.abs.heap), (kHook hd.heap_39 hd.as_39 hd.as_ok).obs s.abs)) = some (true, (kHook hd.heap_39 hd.as_39 hd.as_ok).val w) := by
  rw [Fast.te6613529449190102663, Fast.te14364793385576792824, Fast.te11892475500146522536, Fast.te10156331382660048174]
  kernel_rfl
theorem hd.run_b (w : World) (os : OsState) : (hd.runT (stepOk (boot_heap w.params).objs.size ((boot_heap w.params).nsMap mainGlobals "__annotations__")) (stepT (denote treeTable) hd.pw w) 5016 (hd.boot_T w os) (topStub hd.pw)).map
    (fun s => openSeen hd.view_39 [Str.ofString "fraction"] (importedModules hd.pw.main.body) (fun s => xlAt hd.view_39 [] s && recOk (RowW.records PySem.Challenge.rw_pf0204_01.row.toRowW) s) true s.abs) = some (openGood hd.view_39 [Str.ofString "fraction"]) := by
  rw [Fast.te6613529449190102663, Fast.te14364793385576792824, Fast.te11892475500146522536, Fast.te10156331382660048174, Fast.te4187177175401517315]
  kernel_rfl
theorem hd.head {d : DefRec} {kwd : List (Str × PySem.Expr)} (hdef : defOf hd.view_39 PySem.Challenge.rw_pf0204_01.row.toRowW.name = some (d, kwd))
    (hp : PySem.Challenge.rw_pf0204_01.row.toRowW.prog.theDef PySem.Challenge.rw_pf0204_01.row.toRowW.name = some (d.params, d.body, d.scope)) (hk : kwWritten? d.params.kwonlyargs d.params.kw_defaults = some kwd)
    (walk : WalkO hd.view_39 [Str.ofString "fraction"] (XL hd.view_39 []) (Hook.says (kHook hd.heap_39 hd.as_39 hd.as_ok)) PySem.Challenge.rw_pf0204_01.row.toRowW d kwd fun f vs => PySem.call f vs) : PySem.Challenge.rw_pf0204_01.Holds := by
  w_on
  refine holds_law hd.said fun said => ?_
  refine holds_open (q := hd.view_39) (loose := [Str.ofString "fraction"]) (Xt := fun s => xlAt hd.view_39 [] s && recOk (RowW.records PySem.Challenge.rw_pf0204_01.row.toRowW) s) (XP := XL hd.view_39 []) (Yf := Hook.obs (kHook hd.heap_39 hd.as_39 hd.as_ok)) (Ya := Hook.val (kHook hd.heap_39 hd.as_39 hd.as_ok)) (YP := Hook.says (kHook hd.heap_39 hd.as_39 hd.as_ok)) (N := 5016) ?hl (Hook.of (kHook hd.heap_39 hd.as_39 hd.as_ok)) (Hook.keeps (kHook hd.heap_39 hd.as_39 hd.as_ok)) (fun s e => xl_of s (Bool.and_eq_true_iff.mp e).1) XL.keeps hdef hp hk (fun s e => recFacts_of (Bool.and_eq_true_iff.mp e).2) (by rfl) (by first | assumption | decide +kernel) (by decide +kernel) ⟨rfl, rfl, rfl, rfl, rfl, by decide +kernel⟩ ?hw walk
  case hl =>
    exact hd.left_boot (by rfl) (by decide) (fun s => by rfl) (fun P => by kernel_rfl) hd.run_a hd.run_b
  case hw => w_witness2
open PySem.Calls PySem.Spec
namespace Fl
section
noncomputable abbrev Led := List (Addr × Obj)
/-- what a call of the def at f comes to: over the ledger `news`, to a ledger `news'` of which `Ret` tells -/
noncomputable def ConM (w : World) (mean : ExcName → Option Value) (mg mb : Str → Option Value) (f : Addr) (news : Led) (vs : List Value) (dd uu : Nat) (Ret : Led → Value → Prop) : Prop :=
  ∀ (dp un : Nat) (gd : Option (List Code)) (cn : Str) (cs : Scope) (a : Addr) (ccd : Value) (cl : List (Str × Addr)) (outer : List Env) (A₀ : Around) (base h₀ : Heap) (L : Addr) (m : Str → Option Value) (s : Shared) (Q E : Value → Shared → Prop),
    Below A₀ base outer h₀ → Fr h₀ L s.heap m → (hd.heap_39 w.params).In h₀ → News h₀ L s.heap news → Top hd.view_39 (looseW hd.view_39 [Str.ofString "fraction"]) mean mg mb h₀ → cs.kind = .function → dp + dd < recursionLimit → un + uu < cLine →
    (∀ r news' h' tk', Fr h₀ L h' m → News h₀ L h' news' → Ret news' r → Q r { s with heap := h', toks := tk' }) →
    wpAny (model Challenge.rw_pf0204_01.row.prog w) (ktrTop dp un gd cn cs L a ccd cl outer) (call (.ref f) vs) Q E s
theorem con_use {w : World} {mean : ExcName → Option Value} {mg mb : Str → Option Value} {f : Addr} {news : Led} {vs : List Value} {dd uu : Nat} {Ret : Led → Value → Prop}
    {dp un : Nat} {gd : Option (List Code)} {cn : Str} {cs : Scope} {a : Addr} {ccd : Value} {cl : List (Str × Addr)} {outer : List Env} {A₀ : Around} {base h₀ : Heap} {L : Addr} {m : Str → Option Value} {s : Shared} {Q E : Value → Shared → Prop}
    (C : ConM w mean mg mb f news vs dd uu Ret) (B : Below A₀ base outer h₀) (F : Fr h₀ L s.heap m) (X : (hd.heap_39 w.params).In h₀) (N : News h₀ L s.heap news) (T : Top hd.view_39 (looseW hd.view_39 [Str.ofString "fraction"]) mean mg mb h₀) (hk : cs.kind = .function) (h1 : dp + dd < recursionLimit) (h2 : un + uu < cLine)
    (hret : ∀ r news' h' tk', Fr h₀ L h' m → News h₀ L h' news' → Ret news' r → Q r { s with heap := h', toks := tk' }) :
    wpAny (model Challenge.rw_pf0204_01.row.prog w) (ktrTop dp un gd cn cs L a ccd cl outer) (call (.ref f) vs) Q E s :=
  C _ _ _ _ _ _ _ _ _ _ _ _ _ _ _ _ _ B F X N T hk h1 h2 hret

noncomputable abbrev tp (x y : Int) (t u : Tok) (n : Nat) : Obj := { cls := .type "tuple", data := .seq #[.int x t, .int y u] n }
section
variable {h₀ h : Heap} {L a : Addr} {o : Obj} {news all : Led} {Ret : Led → Value → Prop} {r : Value}
theorem con_drop (N : News h₀ L h all) (hs : ∀ p ∈ news, p ∈ all) : News h₀ L h news := fun p hp => N p (hs p hp)
theorem allLt_iff {d : Addr} : ∀ {l : Led}, AllLt d l ↔ ∀ p ∈ l, p.1 < d
  | [] => ⟨fun _ _ h => (nomatch h), fun _ => trivial⟩
  | q :: r => by
    show (q.1 < d ∧ AllLt d r) ↔ _
    rw [allLt_iff (l := r), List.forall_mem_cons]
section
variable {I C D : Addr} {m : Str → Option Value} {s₁ : Shared} {oI oC oD : Obj} {S : Led → Prop} {rest : Value → Led → Prop} {y : Value} {h' : Heap} {tk : Nat} {x x₂ x₃ : Addr × Obj}
end
end
end
section
section
variable {prog : Program} {w : World} {A : Around} {E : Value → Shared → Prop} {s : Shared} {h₀ : Heap} {L : Addr} {m : Str → Option Value} {news : List (Addr × Obj)}
theorem sliceApplied_mid {sl : Addr} {n : Int} {u v : Tok} {lo hi : Int} {Q : Int × Int × Nat → Shared → Prop} (hs : s.heap.IsSliceOf sl (.int 1 u) (.int (-1) v) .none)
    (ha : Builtin.Slice.sliceAdjust (some 1) (some (-1)) 1 n = (lo, hi)) (h : Q (lo, 1, Builtin.Slice.slicePlaces lo hi 1) s) :
    wpAny (model prog w) A (Builtin.Slice.sliceApplied (.ref sl) (pure n)) Q E s := by
  obtain ⟨os, hos, hcs, hds⟩ := id hs
  unfold Builtin.Slice.sliceApplied Builtin.Slice.sliceFields
  refine wpAny_bind (wpAny_bind (wpAny_field hos hds (x := .int 1 u) rfl (wpAny_bind (wpAny_field hos hds (x := .int (-1) v) rfl (wpAny_bind (wpAny_field hos hds (x := .none) rfl (wpAny_pure ?_)))))))
  refine wpAny_bind (slicePart_none ?_)
  show wpAny _ _ (if ((1 : Int) == 0) = true then _ else _) _ _ s
  rw [if_neg (by decide)]
  refine wpAny_bind (slicePart_int (wpAny_bind (slicePart_int (wpAny_bind (wpAny_pure ?_)))))
  show wpAny _ _ (match Builtin.Slice.sliceAdjust (some 1) (some (-1)) 1 n with | (lo, hi) => pure (lo, (1 : Int), Builtin.Slice.slicePlaces lo hi 1)) _ _ s
  rw [ha]
  exact wpAny_pure h

theorem getItem_tuple_mid {t sl : Addr} {items : Array Value} {u v : Tok} {lo hi : Int} {zs : List Value} {Q : Value → Shared → Prop} (ht : IsTup s.heap t items) (hs : s.heap.IsSliceOf sl (.int 1 u) (.int (-1) v) .none)
    (ha : Builtin.Slice.sliceAdjust (some 1) (some (-1)) 1 (items.size : Int) = (lo, hi)) (h1 : lo ≠ 0)
    (hz : ((List.range (Builtin.Slice.slicePlaces lo hi 1)).filterMap fun (k : Nat) => items[(lo + (k : Int) * 1).toNat]?) = zs) (hk : zs.length ≤ sizeLine)
    (h : Q (.ref s.heap.objs.size) { s with heap := s.heap.push { cls := .type "tuple", data := .seq zs.toArray } }) : wpAny (model prog w) A (getItem (.ref t) (.ref sl)) Q E s := by
  have hdrop : sizeOk (.seq zs.toArray) := by
    show zs.toArray.size ≤ sizeLine
    rw [List.size_toArray]
    exact hk
  obtain ⟨os, hos, hcs, hds⟩ := id hs
  have hTs : s.TypeIs (.ref sl) "slice" := ⟨os, hos, hcs⟩
  unfold getItem
  try with_reducible refine wpAny_holding ?_
  first | refine wpAny_bind (wpAny_pure ?_) | skip
  refine wpAny_bind (wpAny_sequenceKey ht.typeIs (by decide) ?_)
  refine wpAny_bind (wpAny_callSpecial?_slot (name := Str.ofString "__getitem__") ht.typeIs slot_tuple_getitem
    (wpAny_call_entry slot_tuple_getitem ht.typeIs entry_tuple_getitem ?_ (args_tuple_getitem _ _)))
  show wpAny _ _ (Builtin.Tuple.tupleItemsOf (.ref t) >>= _) _ _ s
  refine wpAny_bind (tupleItemsOf_ ht ?_)
  refine wpAny_bind (wpAny_typeOf hTs ?_)
  rw [if_pos (by decide)]
  refine wpAny_bind (sliceApplied_mid hs ha ?_)
  have hno : ¬ ((lo == 0 && (1 : Int) == 1 && (Builtin.Slice.slicePlaces lo hi 1) == items.size) = true) := by
    have : (lo == 0) = false := by rw [beq_eq_false_iff_ne]; exact h1
    rw [this]; simp
  show wpAny _ _ (if (lo == 0 && (1 : Int) == 1 && (Builtin.Slice.slicePlaces lo hi 1) == items.size) = true then _ else _) _ _ s
  rw [if_neg hno, hz]
  first
    | exact wpAny_bind (m := Builtin.Tuple.tupleExact _) (wpAny_newObj_type (wpAny_pure ⟨_, rfl, wpAny_pure h⟩) hdrop)
    | exact wpAny_bind (m := Builtin.Tuple.tupleExact _) (wpAny_newObj_type (wpAny_bind (wpAny_pure (wpAny_pure ⟨_, rfl, wpAny_pure h⟩))) hdrop)
    | exact wpAny_bind (wpAny_bind (m := Builtin.Tuple.tupleExact _) (wpAny_newObj_type (wpAny_pure (wpAny_pure ⟨_, rfl, wpAny_pure h⟩)) hdrop))
    | exact wpAny_bind (wpAny_bind (m := Builtin.Tuple.tupleExact _) (wpAny_newObj_type (wpAny_pure ⟨_, rfl, wpAny_pure h⟩) hdrop))

theorem slice_tuple_mid {value slice : Expr} {t : Addr} {items : Array Value} {u v : Tok} {lo hi : Int} {zs : List Value} {Q : Value → Shared → Prop}
    (F : Fr h₀ L s.heap m) (N : News h₀ L s.heap news) (ht : IsTup s.heap t items)
    (ha : Builtin.Slice.sliceAdjust (some 1) (some (-1)) 1 (items.size : Int) = (lo, hi)) (h1 : lo ≠ 0)
    (hz : ((List.range (Builtin.Slice.slicePlaces lo hi 1)).filterMap fun (k : Nat) => items[(lo + (k : Int) * 1).toNat]?) = zs) (hk : zs.length ≤ sizeLine)
    (h : ∀ D h', Fr h₀ L h' m → News h₀ L h' ((D, { cls := .type "tuple", data := .seq zs.toArray }) :: news) → (∀ p ∈ news, p.1 < D) → Q (.ref D) { s with heap := h' })
    (hs : subscripted slice false (.ref t) (.ref s.heap.objs.size) = operate [.ref s.heap.objs.size, .ref t] (getItem (.ref t) (.ref s.heap.objs.size)))
    (hg : ∀ r, letTemporaryGo value (.ref t) r = pure ()) :
    wpAny (model prog w) A (subscriptTail value slice (.ref t) (.ref s.heap.objs.size)) Q E { s with heap := s.heap.push { cls := .type "slice", data := .fields #[.int 1 u, .int (-1) v, .none] } } := by
  have ht' : IsTup (s.heap.push { cls := .type "slice", data := .fields #[.int 1 u, .int (-1) v, .none] }) t items := ht.keeps fun _ _ e => Heap.get?_push_of_some _ e
  refine subscriptTail_ops (s := { s with heap := s.heap.push { cls := .type "slice", data := .fields #[.int 1 u, .int (-1) v, .none] } }) ht'.typeIs slot_tuple_getitem.lookup
    (getItem_tuple_mid ht' (Heap.IsSliceOf.new ..) ha h1 hz hk ?_) hs hg
  have N1 := News.push (F.push { cls := .type "slice", data := .fields #[.int 1 u, .int (-1) v, .none] }) (N.grown fun _ _ e => Heap.get?_push_of_some _ e) { cls := .type "tuple", data := .seq zs.toArray }
  rw [Heap.size_push] at N1
  show Q (.ref (s.heap.push _).objs.size) _
  rw [Heap.size_push]
  exact h _ _ ((F.push _).push _) N1 fun p hp => Nat.lt_succ_of_lt (Heap.lt_size (N p hp).1)
theorem slice_mid3 {value slice : Expr} {t : Addr} {v0 v1 v2 : Value} {u v : Tok} {Q : Value → Shared → Prop}
    (F : Fr h₀ L s.heap m) (N : News h₀ L s.heap news) (ht : IsTup s.heap t #[v0, v1, v2])
    (h : ∀ D h', Fr h₀ L h' m → News h₀ L h' ((D, { cls := .type "tuple", data := .seq #[v1] }) :: news) → (∀ p ∈ news, p.1 < D) → Q (.ref D) { s with heap := h' })
    (hs : subscripted slice false (.ref t) (.ref s.heap.objs.size) = operate [.ref s.heap.objs.size, .ref t] (getItem (.ref t) (.ref s.heap.objs.size)))
    (hg : ∀ r, letTemporaryGo value (.ref t) r = pure ()) :
    wpAny (model prog w) A (subscriptTail value slice (.ref t) (.ref s.heap.objs.size)) Q E { s with heap := s.heap.push { cls := .type "slice", data := .fields #[.int 1 u, .int (-1) v, .none] } } :=
  slice_tuple_mid (lo := 1) (hi := 2) (zs := [v1]) F N ht rfl (by decide) rfl (by rw [sizeLine_eq]; simp only [List.length_cons, List.length_nil]; omega) h hs hg
theorem slice_mid4 {value slice : Expr} {t : Addr} {v0 v1 v2 v3 : Value} {u v : Tok} {Q : Value → Shared → Prop}
    (F : Fr h₀ L s.heap m) (N : News h₀ L s.heap news) (ht : IsTup s.heap t #[v0, v1, v2, v3])
    (h : ∀ D h', Fr h₀ L h' m → News h₀ L h' ((D, { cls := .type "tuple", data := .seq #[v1, v2] }) :: news) → (∀ p ∈ news, p.1 < D) → Q (.ref D) { s with heap := h' })
    (hs : subscripted slice false (.ref t) (.ref s.heap.objs.size) = operate [.ref s.heap.objs.size, .ref t] (getItem (.ref t) (.ref s.heap.objs.size)))
    (hg : ∀ r, letTemporaryGo value (.ref t) r = pure ()) :
    wpAny (model prog w) A (subscriptTail value slice (.ref t) (.ref s.heap.objs.size)) Q E { s with heap := s.heap.push { cls := .type "slice", data := .fields #[.int 1 u, .int (-1) v, .none] } } :=
  slice_tuple_mid (lo := 1) (hi := 3) (zs := [v1, v2]) F N ht rfl (by decide) rfl (by rw [sizeLine_eq]; simp only [List.length_cons, List.length_nil]; omega) h hs hg
open PySem.SeqAt in
theorem eq_full {l b : Addr} {its : Array Value} {Q : Value → Shared → Prop} (hl : s.heap.IsList l its) (hb : s.heap.IsList b #[]) (hz : its.size ≠ 0) (hu : A.units < cLine) (h : Q (.bool false) s) :
    wpAny (model prog w) A (compareOp .Eq (.ref l) (.ref b)) Q E s := cmp_ofEq (RcAt.lists_lengths hl hb (by simp [hz]) hu prog w E Q h)
open PySem.SeqAt in
theorem ne_full {l b : Addr} {its : Array Value} {Q : Value → Shared → Prop} (hl : s.heap.IsList l its) (hb : s.heap.IsList b #[]) (hz : its.size ≠ 0) (hu : A.units < cLine) (h : Q (.bool true) s) :
    wpAny (model prog w) A (compareOp .NotEq (.ref l) (.ref b)) Q E s := cmp_ofNotEq (RcNeAt.lists_lengths hl hb (by simp [hz]) hu prog w E Q h)
open PySem.SeqAt in
theorem eq_empty {l b : Addr} {Q : Value → Shared → Prop} (hl : s.heap.IsList l #[]) (hb : s.heap.IsList b #[]) (hu : A.units < cLine) (h : Q (.bool true) s) :
    wpAny (model prog w) A (compareOp .Eq (.ref l) (.ref b)) Q E s := cmp_ofEq (RcAt.lists (e := fun _ => true) hl hb rfl hu (fun _ h1 => absurd h1 (Nat.not_lt_zero _)) prog w E Q h)
open PySem.SeqAt in
theorem ne_empty {l b : Addr} {Q : Value → Shared → Prop} (hl : s.heap.IsList l #[]) (hb : s.heap.IsList b #[]) (hu : A.units < cLine) (h : Q (.bool false) s) :
    wpAny (model prog w) A (compareOp .NotEq (.ref l) (.ref b)) Q E s := cmp_ofNotEq (RcNeAt.lists (e := fun _ => false) hl hb rfl hu (fun _ h1 => absurd h1 (Nat.not_lt_zero _)) prog w E Q h)
end
end
section
noncomputable abbrev Pt := Int × Int
noncomputable def PtIn (news : Led) (v : Value) (p : Pt) : Prop := ∃ a t u n, v = .ref a ∧ (a, tp p.1 p.2 t u n) ∈ news
noncomputable def All2 {α β : Type} (R : α → β → Prop) : List α → List β → Prop
  | [], [] => True
  | a :: r, b :: t => R a b ∧ All2 R r t
  | _, _ => False
noncomputable def tupO (vs : List Value) (n : Nat) : Obj := { cls := .type "tuple", data := .seq vs.toArray n }
noncomputable def TupIn (news : Led) (v : Value) (ps : List Pt) : Prop := ∃ a n vs, v = .ref a ∧ (a, tupO vs n) ∈ news ∧ All2 (PtIn news) vs ps
section
variable {news news' : Led} {v : Value} {p : Pt} {ps : List Pt}
theorem PtIn.mono (h : PtIn news v p) (s : ∀ x ∈ news, x ∈ news') : PtIn news' v p := let ⟨a, t, u, n, e, m⟩ := h; ⟨a, t, u, n, e, s _ m⟩
theorem All2.mono {α β : Type} {R R' : α → β → Prop} (h : ∀ a b, R a b → R' a b) : ∀ {l : List α} {m : List β}, All2 R l m → All2 R' l m
  | [], [], _ => trivial
  | _ :: _, _ :: _, x => ⟨h _ _ x.1, All2.mono h x.2⟩
  | [], _ :: _, x => x.elim
  | _ :: _, [], x => x.elim
theorem All2.append {α β : Type} {R : α → β → Prop} : ∀ {l l' : List α} {m m' : List β}, All2 R l m → All2 R l' m' → All2 R (l ++ l') (m ++ m')
  | [], _, [], _, _, y => y
  | _ :: _, _, _ :: _, _, x, y => ⟨x.1, All2.append x.2 y⟩
  | [], _, _ :: _, _, x, _ => x.elim
  | _ :: _, _, [], _, x, _ => x.elim
theorem All2.length {α β : Type} {R : α → β → Prop} : ∀ {l : List α} {m : List β}, All2 R l m → l.length = m.length
  | [], [], _ => rfl
  | _ :: _, _ :: _, x => by rw [List.length_cons, List.length_cons, All2.length x.2]
  | [], _ :: _, x => x.elim
  | _ :: _, [], x => x.elim
theorem All2.snoc {α β : Type} {R : α → β → Prop} : ∀ {l : List α} {a : α} {m : List β}, All2 R (l ++ [a]) m → ∃ m' b, m = m' ++ [b] ∧ All2 R l m' ∧ R a b
  | [], _, [b], x => ⟨[], b, rfl, trivial, x.1⟩
  | [], _, [], x => x.elim
  | [], _, _ :: _ :: _, x => x.2.elim
  | _ :: _, _, [], x => x.elim
  | c :: l, a, d :: m, x => by
    obtain ⟨m', b, e, y, z⟩ := All2.snoc (l := l) (a := a) (m := m) x.2
    exact ⟨d :: m', b, by rw [e]; rfl, ⟨x.1, y⟩, z⟩
theorem TupIn.mono (h : TupIn news v ps) (s : ∀ x ∈ news, x ∈ news') : TupIn news' v ps :=
  let ⟨a, n, vs, e, m, k⟩ := h; ⟨a, n, vs, e, s _ m, All2.mono (fun _ _ q => q.mono s) k⟩
end
noncomputable abbrev mid (p q : Pt) : Pt := ((p.1 + q.1) / 2, (p.2 + q.2) / 2)
/-- the two halves of a curve of three or four spots -/
noncomputable def cut : List Pt → List Pt × List Pt
  | [p1, p2, p3] => ([p1, mid p1 p2, mid (mid p1 p2) (mid p2 p3)], [mid (mid p1 p2) (mid p2 p3), mid p2 p3, p3])
  | [p1, p2, p3, p4] => ([p1, mid p1 p2, mid (mid p1 p2) (mid p2 p3), mid (mid (mid p1 p2) (mid p2 p3)) (mid (mid p2 p3) (mid p3 p4))],
      [mid (mid (mid p1 p2) (mid p2 p3)) (mid (mid p2 p3) (mid p3 p4)), mid (mid p2 p3) (mid p3 p4), mid p3 p4, p4])
  | l => (l, l)
noncomputable def CutRet (news : Led) (ps : List Pt) (tl : Led) (r : Value) : Prop := ∃ T A B n, r = .ref T ∧ (T, tupO [.ref A, .ref B] n) ∈ tl ∧ TupIn (tl ++ news) (.ref A) (cut ps).1 ∧ TupIn (tl ++ news) (.ref B) (cut ps).2
section
variable {h₀ h : Heap} {L T A B : Addr} {all news : Led} {m : Str → Option Value} {s : Shared} {Q : Value → Shared → Prop} {tk : Nat}
theorem ptm {l : Led} {a : Addr} {p : Pt} {t u : Tok} {n : Nat} (h : (a, tp p.1 p.2 t u n) ∈ l) : PtIn l (.ref a) p := ⟨a, t, u, n, rfl, h⟩
end
end
section
theorem calm_K_take : True := by
  w_top off
  trivial
local macro_rules | `(tactic| k_mem) => `(tactic| (show (_ : Addr × Obj) ∈ (_ : List (Addr × Obj)); ktr_member))
local macro_rules | `(tactic| k_all) => `(tactic| first | (with_reducible assumption) | exact ne_upA (by assumption) (Nat.le_refl _) | exact ne_up (by assumption) (by omega))
local macro_rules | `(tactic| k_lt $h:ident) => `(tactic| (replace $h := allLt_of $h; (simp only [AllLt, and_true] at $h:ident); (repeat (have _ := And.left $h; replace $h := And.right $h))))
local macro_rules | `(tactic| k_ne) => `(tactic| (refine neN ?_; (try dsimp only); first | with_reducible assumption | exact Ne.symm (by with_reducible assumption) | exact Nat.ne_of_lt (by with_reducible assumption) | exact Nat.ne_of_gt (by with_reducible assumption) | exact Nat.ne_of_gt (Nat.lt_add_one_of_lt (by with_reducible assumption)) | exact Nat.ne_of_lt (Nat.lt_add_one_of_lt (by with_reducible assumption)) | exact addL_ne (by decide) | omega))
local macro_rules | `(tactic| walk_at "compareOp NotEq ref ref") => `(tactic| (k_here; (with_reducible show wpAny _ _ (compareOp CmpOp.NotEq (Value.ref _) (Value.ref _)) _ _ _); k_dflt (first
  | refine ne_empty (News.isList (by k_asm) (by k_mem)) (News.isList (by k_asm) (by k_mem)) (by ktr_units) ?_
  | refine ne_full (News.isList (by k_asm) (by k_mem)) (News.isList (by k_asm) (by k_mem)) (by first | decide | simp; done) (by ktr_units) ?_)))
local macro_rules | `(tactic| walk_at "compareOp Eq ref ref") => `(tactic| (k_here; (with_reducible show wpAny _ _ (compareOp CmpOp.Eq (Value.ref _) (Value.ref _)) _ _ _); k_dflt (first
  | refine eq_empty (News.isList (by k_asm) (by k_mem)) (News.isList (by k_asm) (by k_mem)) (by ktr_units) ?_
  | refine eq_full (News.isList (by k_asm) (by k_mem)) (News.isList (by k_asm) (by k_mem)) (by first | decide | simp; done) (by ktr_units) ?_)))

noncomputable abbrev srcO (v0 v1 : Int) (t0 t1 : Tok) (R : Addr) (n : Nat) : Obj := { cls := .type "list", data := .seq #[.int v0 t0, .int v1 t1, .ref R] n }
noncomputable abbrev rowO (row : List Value) (n : Nat) : Obj := { cls := .type "list", data := .seq row.toArray n }
noncomputable def IntRow (row : List Value) : Prop := (∀ v ∈ row, ∃ i t, v = Value.int i t) ∧ row.length ≤ 20
theorem idx0 (n : Nat) : seqIndex? 0 (n + 1) = some 0 := by unfold seqIndex?; simp
noncomputable def TakeRet (S R : Addr) (rest : Led) (top : Int) (news' : Led) (r : Value) : Prop :=
  ∃ k t v0 t0 v1 t1 n row nR, r = .int k t ∧ 0 ≤ k ∧ k < top ∧ 0 ≤ v1 ∧ v1 < 2147483647 ∧ IntRow row ∧ news' = (S, srcO v0 v1 t0 t1 R n) :: (R, rowO row nR) :: rest
theorem TakeRet.mk {S R : Addr} {rest : Led} {top k v0 v1 : Int} {t t0 t1 : Tok} {n nR : Nat} {row : List Value} (a : 0 ≤ k) (b : k < top) (c : 0 ≤ v1) (d : v1 < 2147483647) (e : IntRow row) :
    TakeRet S R rest top ((S, srcO v0 v1 t0 t1 R n) :: (R, rowO row nR) :: rest) (.int k t) := ⟨_, _, _, _, _, _, _, _, _, rfl, a, b, c, d, e, rfl⟩
local macro_rules | `(tactic| walk_at "call builtin:list.pop") => `(tactic| (k_here; (with_reducible show wpAny _ _ (call (Value.builtin _) [Value.ref _, Value.int 0 _]) _ _ _); k_dflt (refine' kl_popAt (k := 0) ?F ?N ?f ?k ?e ?U ?z ?_; (case F => k_asm); (case N => k_asm); (case U => k_upd); (case f => rfl); (case k => exact idx0 _); (case e => rfl); (case z => (rw [sizeLine_eq]; simp only [List.length_cons] at *; omega))); kl_rest))
theorem take_con {w : World} {mean mg mb} {rest : Led} {S R : Addr} {v0 v1 top : Int} {t0 t1 tt : Tok} {n nR : Nat} {row : List Value}
    (h1 : 0 ≤ v1) (h2 : v1 < 2147483647) (hr : IntRow row) (hne : @Ne Nat S R) (oS : ∀ p ∈ rest, p.1 ≠ S) (oR : ∀ p ∈ rest, p.1 ≠ R) (ht : 1 ≤ top) (ht2 : top ≤ 200) :
    ConM w mean mg mb 314 ((S, srcO v0 v1 t0 t1 R n) :: (R, rowO row nR) :: rest) [.ref S, .int top tt] 3 30 (TakeRet S R rest top) := by
  (try unfold Con)
  unfold ConM
  k_fill
  intro dp un gd cn cs a ccd cl outer A₀ base h₀ L m s Q E B F X N T hk hd hu hret
  refine wpAny_call ?_
  k_dflt ktr_enter
  obtain ⟨hr1, hr2⟩ := hr
  cases row with
  | nil =>
    k_steps
    all_goals (
      refine hret _ _ _ _ (by k_asm) (con_drop (by k_asm) (fun p hp => List.mem_cons_of_mem _ hp)) (TakeRet.mk (S := S) (R := R) (rest := rest) ?_ ?_ ?_ ?_ ⟨hr1, hr2⟩)
      all_goals (try simp only [Int.fmod_eq_emod_of_nonneg _ (show (0:Int) ≤ top by omega), Int.fmod_eq_emod_of_nonneg _ (show (0:Int) ≤ 2147483647 by decide)])
      all_goals (first | omega | exact Int.emod_nonneg _ (by omega) | exact Int.emod_lt_of_pos _ (by omega)))
  | cons v vs =>
    obtain ⟨i, ti, rfl⟩ := hr1 v (List.Mem.head _)
    k_steps
    all_goals (
      refine hret _ _ _ _ (by k_asm) (con_drop (by k_asm) (fun p hp => List.mem_cons_of_mem _ hp)) (TakeRet.mk (S := S) (R := R) (rest := rest) ?_ ?_ h1 h2 ⟨fun v hv => hr1 v (List.mem_cons_of_mem _ hv), by simp only [List.length_cons] at hr2; omega⟩)
      all_goals (simp only [Int.fmod_eq_emod_of_nonneg _ (show (0:Int) ≤ top by omega)])
      all_goals (first | exact Int.emod_nonneg _ (by omega) | exact Int.emod_lt_of_pos _ (by omega)))
section
/-- what a walk knows of a def: its name, scope, address, code; the room that a call of it wants -/
structure Fi where
  cn : Str
  cs : Scope
  a : Addr
  ccd : Value
  dd : Nat
  uu : Nat
noncomputable abbrev Fi.cells (F : Fi) (L : Addr) : List (Str × Addr) := cellsFrom (L + 1) F.cs.names []
noncomputable abbrev Fi.env (F : Fi) (L : Addr) : Env := envX F.cn F.cs L F.a F.ccd (F.cells L)
/-- all that stands around a walk -/
structure Cx (w : World) (F : Fi) (L : Addr) where
  dp : Nat
  un : Nat
  gd : Option (List Code)
  outer : List Env
  A₀ : Around
  base : Heap
  h₀ : Heap
  mean : ExcName → Option Value
  mg : Str → Option Value
  mb : Str → Option Value
  sg : Array GenState
  sd : Drawn
  so : OsState
  B : Below A₀ base outer h₀
  X : (hd.heap_39 w.params).In h₀
  T : Top hd.view_39 (looseW hd.view_39 [Str.ofString "fraction"]) mean mg mb h₀
  hd : dp + F.dd < recursionLimit
  hu : un + F.uu < cLine
noncomputable abbrev Cx.A {w F L} (c : Cx w F L) : Around := ktrTop c.dp c.un c.gd F.cn F.cs L F.a F.ccd (F.cells L) c.outer
noncomputable abbrev Cx.at {w F L} (c : Cx w F L) (h : Heap) (tk : Nat) : Shared := ⟨h, c.sg, c.sd, tk, c.so⟩
/-- names, objects that change, objects that stand (in groups), the caller's objects -/
structure Sg where
  m : Str → Option Value
  l : List (Str × Value)
  mu : Led
  ow : List Led
  ba : Led
noncomputable abbrev Sg.led (σ : Sg) : Led := σ.mu ++ (σ.ow.flatten ++ σ.ba)
noncomputable def Dist : Led → Led → Prop
  | [], _ => True
  | p :: r, n => (∀ q ∈ r, p.1 ≠ q.1) ∧ (∀ q ∈ n, p.1 ≠ q.1) ∧ Dist r n
structure SS (h₀ : Heap) (L : Addr) (σ : Sg) (h : Heap) : Prop where
  fr : Fr h₀ L h σ.m
  kn : ∀ x v, σ.l.lookup x = some v → σ.m x = some v
  nw : News h₀ L h σ.led
  dm : Dist σ.mu (σ.ow.flatten ++ σ.ba)
  ab : ∀ p ∈ σ.ow.flatten, ∀ q ∈ σ.ba, p.1 ≠ q.1
inductive Vw | v (x : Value) | i (n : Int)
noncomputable abbrev Vw.all : Vw → (Value → Prop) → Prop
  | .v x, R => R x
  | .i n, R => ∀ t : Tok, R (.int n t)
noncomputable abbrev allL : List Vw → (List Value → Prop) → Prop
  | [], R => R []
  | s :: r, R => s.all fun v => allL r fun vs => R (v :: vs)
/-- an expression that makes nothing -/
noncomputable def EP (w : World) (F : Fi) (L : Addr) (V : Env) (σ : Sg) (e : Expr) (sp : Vw) : Prop :=
  ∀ (c : Cx w F L) (h : Heap) (tk : Nat) (Q E : Value → Shared → Prop), SS c.h₀ L σ h → (sp.all fun v => ∀ tk', Q v (c.at h tk')) →
    wpAny (model Challenge.rw_pf0204_01.row.prog w) c.A (eval e V) Q E (c.at h tk)
noncomputable def EPs (w : World) (F : Fi) (L : Addr) (V : Env) (σ : Sg) (es : List Expr) (sps : List Vw) : Prop :=
  ∀ (c : Cx w F L) (h : Heap) (tk : Nat) (pos : Pos) (Q : List Value → Shared → Prop) (E : Value → Shared → Prop), SS c.h₀ L σ h → (allL sps fun vs => ∀ tk', Q vs (c.at h tk')) →
    wpAny (model Challenge.rw_pf0204_01.row.prog w) c.A (spliced (backTo pos (starEach es V))) Q E (c.at h tk)
/-- an expression: to which value and state it goes -/
noncomputable def EG (w : World) (F : Fi) (L : Addr) (V : Env) (σ : Sg) (e : Expr) (R : Value → Sg → Prop) : Prop :=
  ∀ (c : Cx w F L) (h : Heap) (tk : Nat) (Q E : Value → Shared → Prop), SS c.h₀ L σ h → (∀ v σ' h' tk', SS c.h₀ L σ' h' → R v σ' → Q v (c.at h' tk')) →
    wpAny (model Challenge.rw_pf0204_01.row.prog w) c.A (eval e V) Q E (c.at h tk)
/-- statements -/
noncomputable def ST (w : World) (F : Fi) (L : Addr) (σ : Sg) (b : List Stmt) (R : Flow → Sg → Prop) : Prop :=
  ∀ (c : Cx w F L) (h : Heap) (tk : Nat) (Q : Flow → Shared → Prop) (E : Value → Shared → Prop), PassesOwn (model Challenge.rw_pf0204_01.row.prog w) c.A (F.env L) E → SS c.h₀ L σ h → (∀ fl σ' h' tk', SS c.h₀ L σ' h' → R fl σ' → Q fl (c.at h' tk')) →
    wpAny (model Challenge.rw_pf0204_01.row.prog w) c.A (execs b (F.env L)) Q E (c.at h tk)

section
variable {w : World} {F : Fi} {L : Addr} {V : Env} {σ : Sg} {x y : Int} {l r : Expr} {p : Pos}
theorem ep_i {e : Expr} {t : Tok} (a : EP w F L V σ e (.v (.int x t))) : EP w F L V σ e (.i x) := fun c h tk Q E S hq => a c h tk Q E S (hq t)
theorem ep_const {k} : EP w F L V σ (.Constant (.int x) k p) (.i x) := fun c h tk Q E S hq => wpAny_Constant_int (hq _ _)
theorem ep_add (a : EP w F L V σ l (.i x)) (b : EP w F L V σ r (.i y)) : EP w F L V σ (.BinOp l .Add r p) (.i (x + y)) :=
  fun c h tk Q E S hq => wpAny_BinOp (a c h tk _ E S fun _ _ => b c h _ _ E S fun _ _ => P.add_int (hq _ _))
theorem ep_sub (a : EP w F L V σ l (.i x)) (b : EP w F L V σ r (.i y)) : EP w F L V σ (.BinOp l .Sub r p) (.i (x - y)) :=
  fun c h tk Q E S hq => wpAny_BinOp (a c h tk _ E S fun _ _ => b c h _ _ E S fun _ _ => P.sub_int (hq _ _))
theorem ep_mul (a : EP w F L V σ l (.i x)) (b : EP w F L V σ r (.i y)) (m : IntMulOk x y) : EP w F L V σ (.BinOp l .Mult r p) (.i (x * y)) :=
  fun c h tk Q E S hq => wpAny_BinOp (a c h tk _ E S fun _ _ => b c h _ _ E S fun _ _ => P.mul_int (hq _ _) m)
theorem ep_fdiv (a : EP w F L V σ l (.i x)) (b : EP w F L V σ r (.i y)) (m : y ≠ 0) (hp : Builtin.divisionGoesByPylong x y = false) : EP w F L V σ (.BinOp l .FloorDiv r p) (.i (x.fdiv y)) :=
  fun c h tk Q E S hq => wpAny_BinOp (a c h tk _ E S fun _ _ => b c h _ _ E S fun _ _ => floordiv_int m (hq _ _) (Or.inl hp))
theorem ep_mod (a : EP w F L V σ l (.i x)) (b : EP w F L V σ r (.i y)) (m : y ≠ 0) : EP w F L V σ (.BinOp l .Mod r p) (.i (x.fmod y)) :=
  fun c h tk Q E S hq => wpAny_BinOp (a c h tk _ E S fun _ _ => b c h _ _ E S fun _ _ => IsLeap.wpAny_mod_int m (hq _ _))
theorem ep_pow (a : EP w F L V σ l (.i x)) (b : EP w F L V σ r (.i y)) (m : 0 ≤ y) (m2 : y ≤ 1000000) (m3 : x.natAbs < 2 ^ 64) : EP w F L V σ (.BinOp l .Pow r p) (.i (x ^ y.toNat)) :=
  fun c h tk Q E S hq => wpAny_BinOp (a c h tk _ E S fun _ _ => b c h _ _ E S fun _ _ => pow_int_small m m2 m3 (hq _ _))
theorem ep_neg {e : Expr} (a : EP w F L V σ e (.i x)) : EP w F L V σ (.UnaryOp .USub e p) (.i (-x)) :=
  fun c h tk Q E S hq => wpAny_UnaryOp (a c h tk _ E S fun _ _ => P.neg_int (hq _ _))
variable {n : Str} {v : Value}
theorem ep_local (hv : σ.l.lookup n = some v) (hk : F.cs.kind = .function) (hx : (F.env L).kindOf n = some .local) (hd : (n == ("__debug__" : Str)) = false) : EP w F L (F.env L) σ (.Name n p) (.v v) :=
  fun c h tk Q E S hq => nameX_L S.fr (S.kn n v hv) (hq _) hk hx hd
/-- where an object stands in the state -/
inductive At (σ : Sg) (q : Addr × Obj) : Prop
  | mu (i : Nat) (h : σ.mu[i]? = some q)
  | ow (i : Nat) (g : Led) (h : σ.ow[i]? = some g) (m : q ∈ g)
  | ba (m : q ∈ σ.ba)
  | fl (m : q ∈ σ.ow.flatten ++ σ.ba)
theorem At.mem {q : Addr × Obj} : At σ q → q ∈ σ.led
  | .mu _ h => List.mem_append_left _ (List.mem_of_getElem? h)
  | .ow _ _ h m => List.mem_append_right _ (List.mem_append_left _ (List.mem_flatten.mpr ⟨_, List.mem_of_getElem? h, m⟩))
  | .ba m => List.mem_append_right _ (List.mem_append_right _ m)
  | .fl m => List.mem_append_right _ m
variable {c : Addr} {o : Obj}
theorem ep_cell (hc : (F.cells L).lookup n = some c) (hm : At σ (c, o)) (ho : o.data = .cell (some v)) (hk : F.cs.kind = .function) (hx : (F.env L).kindOf n = some .cell) (hd : (n == ("__debug__" : Str)) = false) : EP w F L (F.env L) σ (.Name n p) (.v v) :=
  fun _ h tk Q E S hq => nameX_C S.nw hc hm.mem ho (hq _) hk hx hd
theorem ep_glob (e : nsIn (hd.heap_39 w.params) mainGlobals n = some (some v)) (hk : F.cs.kind = .function) (hx : (F.env L).kindOf n = some .globalImplicit) (hd : (n == ("__debug__" : Str)) = false) : EP w F L (F.env L) σ (.Name n p) (.v v) :=
  fun c h tk Q E S hq => nameX_K S.fr c.X (topRead_of c.T) e (hq _) hk hx hd
theorem ep_built (e : nsIn (hd.heap_39 w.params) mainGlobals n = some none) (hv : bootBuiltins n = some v) (hn : n ≠ "__name__") (hk : F.cs.kind = .function) (hx : (F.env L).kindOf n = some .globalImplicit) (hd : (n == ("__debug__" : Str)) = false) : EP w F L (F.env L) σ (.Name n p) (.v v) :=
  fun c h tk Q E S hq => nameX_B S.fr c.X (topRead_of c.T) e hv hn (hq _) hk hx hd

variable {sl : Expr} {xs : List Value} {nn j : Nat} {k : Int}
theorem ep_tup (a : EP w F L V σ l (.v (.ref c))) (b : EP w F L V σ sl (.i k)) (hm : At σ (c, { cls := .type "tuple", data := .seq xs.toArray nn }))
    (hj : seqIndex? k xs.length = some j) (hx : xs[j]? = some v) (hlo : -(2 ^ 63) ≤ k) (hhi : k < 2 ^ 63)
    (hs : ∀ u, subscripted sl false (.ref c) (.int k u) = operate [.ref c, .int k u] (getItem (.ref c) (.int k u))) : EP w F L V σ (.Subscript l sl p) (.v v) :=
  fun cx h tk Q E S hq => Subscript_ (a cx h tk _ E S fun _ => b cx h _ _ E S fun t _ => item_tupleT (S.nw.isTup hm.mem) hlo hhi hj hx (hq _) (hs t))
theorem ep_lst (a : EP w F L V σ l (.v (.ref c))) (b : EP w F L V σ sl (.i k)) (hm : At σ (c, { cls := .type "list", data := .seq xs.toArray nn }))
    (h0 : 0 ≤ k) (hx : xs[k.toNat]? = some v) (hhi : k < 2 ^ 63)
    (hs : ∀ u, subscripted sl false (.ref c) (.int k u) = operate [.ref c, .int k u] (getItem (.ref c) (.int k u))) (hg : ∀ r, letTemporaryGo l (.ref c) r = pure ()) : EP w F L V σ (.Subscript l sl p) (.v v) :=
  fun cx h tk Q E S hq => Subscript_ (a cx h tk _ E S fun _ => b cx h _ _ E S fun t _ => item_listL (S.nw.isList hm.mem) h0 hhi hx (hq _) (hs t) hg)
theorem eps_nil : EPs w F L V σ [] [] := fun c h tk pos Q E S hq => args_nil (hq _)
theorem eps_cons {e : Expr} {es : List Expr} {s : Vw} {ss : List Vw} (a : EP w F L V σ e s) (b : EPs w F L V σ es ss) (he : starEach (e :: es) V = (false, eval e V) :: starEach es V) : EPs w F L V σ (e :: es) (s :: ss) :=
  fun c h tk pos Q E S hq => args_cons (a c h tk _ E S (match s, hq with
    | .v _, hq => fun _ => b c h _ pos _ E S hq
    | .i _, hq => fun t _ => b c h _ pos _ E S (hq t))) he
end
end
section
noncomputable abbrev lsO (vs : List Value) (n : Nat) : Obj := { cls := .type "list", data := .seq vs.toArray n }
noncomputable abbrev tuO (vs : List Value) (n : Nat) : Obj := { cls := .type "tuple", data := .seq vs.toArray n }
noncomputable abbrev Sg.set (σ : Sg) (n : Str) (v : Value) : Sg := { σ with m := fun y => if y = n then some v else σ.m y, l := (n, v) :: σ.l }
noncomputable abbrev Sg.app (σ : Sg) (g : Led) : Sg := { σ with ow := g :: σ.ow }
noncomputable abbrev Sg.new (σ : Sg) (q : Addr × Obj) : Sg := { σ with mu := q :: σ.mu }
noncomputable abbrev Sg.put (σ : Sg) (i : Nat) (q : Addr × Obj) : Sg := { σ with mu := σ.mu.set i q }

theorem dist_upd {a : Addr} {o o' : Obj} {n : Led} {mu : Led} (d : Dist mu n) : ∀ {i : Nat}, mu[i]? = some (a, o) → Upd a o o' (mu ++ n) (mu.set i (a, o') ++ n) ∧ Dist (mu.set i (a, o')) n ∧ ∀ b, (∀ p ∈ mu, p.1 ≠ b) → ∀ p ∈ mu.set i (a, o'), p.1 ≠ b := by
  induction mu with
  | nil => intro i h; cases h
  | cons p r ih =>
    intro i h
    cases i with
    | zero =>
      have e : p = (a, o) := Option.some.inj h
      subst e
      refine ⟨Upd.head fun q hq => (List.mem_append.mp hq).elim (fun h => (d.1 q h).symm) fun h => (d.2.1 q h).symm, d, fun b hb p hp => ?_⟩
      rcases List.mem_cons.mp hp with rfl | hp
      · exact hb (a, o) (.head _)
      · exact hb p (.tail _ hp)
    | succ i =>
      have h' : r[i]? = some (a, o) := h
      obtain ⟨u, d', k⟩ := ih d.2.2 h'
      refine ⟨Upd.tail (d.1 (a, o) (List.mem_of_getElem? h')) u, ⟨fun q hq => (k p.1 (fun q hq => (d.1 q hq).symm) q hq).symm, d.2.1, d'⟩, fun b hb q hq => ?_⟩
      rcases List.mem_cons.mp hq with rfl | hq
      · exact hb q (.head _)
      · exact k b (fun p hp => hb p (.tail _ hp)) q hq
theorem dist_mem {n mu : Led} (d : Dist mu n) : ∀ p ∈ mu, ∀ q ∈ n, p.1 ≠ q.1 := by
  induction mu with
  | nil => exact fun _ h => (nomatch h)
  | cons p r ih =>
    intro a ha
    rcases List.mem_cons.mp ha with rfl | ha
    · exact d.2.1
    · exact ih d.2.2 a ha
theorem dist_more {g n : Led} {mu : Led} (d : Dist mu n) (h : ∀ p ∈ mu, ∀ q ∈ g, p.1 ≠ q.1) : Dist mu (g ++ n) := by
  induction mu with
  | nil => trivial
  | cons p r ih => exact ⟨d.1, fun q hq => (List.mem_append.mp hq).elim (h p (.head _) q) (d.2.1 q), ih d.2.2 fun p hp => h p (.tail _ hp)⟩

section
variable {h₀ h h' : Heap} {L : Addr} {σ : Sg} {g : Led} {D : Addr} {o : Obj}
theorem SS.set (S : SS h₀ L σ h) {n : Str} {v : Value} (F' : Fr h₀ L h' (fun y => if y = n then some v else σ.m y)) (N' : News h₀ L h' σ.led) : SS h₀ L (σ.set n v) h' :=
  ⟨F', fun x z hz => by
    show (if x = n then some v else σ.m x) = some z
    by_cases e : x = n
    · subst e
      rw [if_pos rfl]
      simpa [List.lookup] using hz
    · have : (x == n) = false := by simpa using e
      rw [if_neg e]
      exact S.kn x z (by simpa [List.lookup, this] using hz), N', S.dm, S.ab⟩
theorem SS.lt (S : SS h₀ L σ h) : ∀ p ∈ σ.led, p.1 < h.objs.size := fun p hp => Heap.lt_size (S.nw p hp).1
theorem SS.tell (S : SS h₀ L σ h) (F' : Fr h₀ L h' σ.m) (N' : News h₀ L h' (g ++ σ.led)) (hg : ∀ p ∈ g, ∀ q ∈ σ.led, q.1 ≠ p.1) : SS h₀ L (σ.app g) h' :=
  ⟨F', S.kn, fun p hp => N' p (by simp only [Sg.led, Sg.app, List.flatten_cons, List.mem_append] at hp ⊢; rcases hp with h | (h | h) | h <;> simp [h]),
    by
      show Dist σ.mu ((g :: σ.ow).flatten ++ σ.ba)
      rw [List.flatten_cons, List.append_assoc]
      exact dist_more S.dm fun p hp q hq => hg q hq p (List.mem_append_left _ hp),
    fun p hp q hq => by
      rw [Sg.app, List.flatten_cons] at hp
      rcases List.mem_append.mp hp with h | h
      · exact (hg p h q (List.mem_append_right _ (List.mem_append_right _ hq))).symm
      · exact S.ab p h q hq⟩
theorem SS.made (S : SS h₀ L σ h) (F' : Fr h₀ L h' σ.m) (N' : News h₀ L h' ((D, o) :: σ.led)) (hD : ∀ q ∈ σ.led, q.1 ≠ D) : SS h₀ L (σ.app [(D, o)]) h' :=
  S.tell F' N' fun p hp => by rw [List.mem_singleton.mp hp]; exact hD
theorem SS.madeM (S : SS h₀ L σ h) (F' : Fr h₀ L h' σ.m) (N' : News h₀ L h' ((D, o) :: σ.led)) (hD : ∀ q ∈ σ.led, q.1 ≠ D) : SS h₀ L (σ.new (D, o)) h' :=
  ⟨F', S.kn, N', ⟨fun q hq => (hD q (List.mem_append_left _ hq)).symm, fun q hq => (hD q (List.mem_append_right _ hq)).symm, S.dm⟩, S.ab⟩
theorem SS.puts (S : SS h₀ L σ h) {i : Nat} {a : Addr} {o o' : Obj} (hi : σ.mu[i]? = some (a, o)) (F' : Fr h₀ L h' σ.m) (N' : News h₀ L h' (σ.put i (a, o')).led) : SS h₀ L (σ.put i (a, o')) h' :=
  ⟨F', S.kn, N', (dist_upd S.dm hi (o' := o')).2.1, S.ab⟩
end

/-- the contract of a def that makes new objects alone -/
noncomputable abbrev ConD (w : World) (f : Addr) (news : Led) (vs : List Value) (dd uu : Nat) (Ret : Led → Value → Prop) : Prop :=
  ∀ mean mg mb, ConM w mean mg mb f news vs dd uu (fun news' r => ∃ tl, news' = tl ++ news ∧ (∀ p ∈ tl, ∀ q ∈ news, q.1 ≠ p.1) ∧ Ret tl r)
theorem ConM.mono {w : World} {mean : ExcName → Option Value} {mg mb : Str → Option Value} {f : Addr} {news : Led} {vs : List Value} {dd uu : Nat} {Ret Ret' : Led → Value → Prop} (C : ConM w mean mg mb f news vs dd uu Ret) (k : ∀ n v, Ret n v → Ret' n v) : ConM w mean mg mb f news vs dd uu Ret' :=
  fun dp un gd cn cs a ccd cl outer A₀ base h₀ L m s Q E B F X N T hk hd hu hret => C dp un gd cn cs a ccd cl outer A₀ base h₀ L m s Q E B F X N T hk hd hu fun r n' h' tk' F' N' hr => hret r n' h' tk' F' N' (k _ _ hr)
/-- a test -/
noncomputable def EB (w : World) (F : Fi) (L : Addr) (V : Env) (σ : Sg) (e : Expr) (R : Bool → Sg → Prop) : Prop :=
  ∀ (c : Cx w F L) (h : Heap) (tk : Nat) (Q : Bool → Shared → Prop) (E : Value → Shared → Prop), SS c.h₀ L σ h → (∀ b σ' h' tk', SS c.h₀ L σ' h' → R b σ' → Q b (c.at h' tk')) →
    wpAny (model Challenge.rw_pf0204_01.row.prog w) c.A (isTrue e V (eval e V)) Q E (c.at h tk)
noncomputable def cmpI : CmpOp → Int → Int → Option Bool
  | .LtE, x, y => some (decide (x ≤ y))
  | .Lt, x, y => some (decide (x < y))
  | .GtE, x, y => some (decide (x ≥ y))
  | .Gt, x, y => some (decide (x > y))
  | .Eq, x, y => some (x == y)
  | .NotEq, x, y => some (x != y)
  | _, _, _ => none
/-- what follows a statement -/
noncomputable def SQ (w : World) (F : Fi) (L : Addr) (rest : List Stmt) (R : Flow → Sg → Prop) : Flow → Sg → Prop
  | .next, σ => ST w F L σ rest R
  | f, σ => R f σ

/-- storing a value under a name of either kind -/
noncomputable def EN (w : World) (F : Fi) (L : Addr) (σ : Sg) (n : Str) (v : Value) (R : Sg → Prop) : Prop :=
  ∀ (c : Cx w F L) (h : Heap) (tk : Nat) (Q : Unit → Shared → Prop) (E : Value → Shared → Prop), SS c.h₀ L σ h → (∀ σ' h' tk', SS c.h₀ L σ' h' → R σ' → Q () (c.at h' tk')) → wpAny (model Challenge.rw_pf0204_01.row.prog w) c.A (storeName (F.env L) n v) Q E (c.at h tk)
section
variable {w : World} {F : Fi} {L : Addr} {V : Env} {σ : Sg} {e l r : Expr} {p pos : Pos} {sp : Vw} {sps : List Vw} {x y : Int} {op : CmpOp} {b : Bool}
theorem sp_use {sp : Vw} {P Q : Value → Prop} (h : sp.all P) (k : ∀ v, P v → Q v) : sp.all Q := match sp, h with
  | .v _, h => k _ h
  | .i _, h => fun t => k _ (h t)
theorem cmp_int {M : Model} {A : Around} {w : World} {t u : Tok} {s : Shared} {Q E : Value → Shared → Prop} (hc : cmpI op x y = some b) (h : Q (.bool b) s) : wpAny (model Challenge.rw_pf0204_01.row.prog w) A (compareOp op (.int x t) (.int y u)) Q E s := by
  cases op <;> simp only [cmpI, Option.some.injEq, reduceCtorEq] at hc <;> subst hc
  · exact P.eq_int h
  · exact P.ne_int h
  · exact P.lt_int h
  · exact P.le_int h
  · exact P.gt_int h
  · exact P.ge_int h
theorem ep_cmp (a : EP w F L V σ l (.i x)) (b' : EP w F L V σ r (.i y)) (hc : cmpI op x y = some b) (hm : behindInMarks op r = false) : EP w F L V σ (.Compare l [op] [r] p) (.v (.bool b)) :=
  fun c h tk Q E S hq => wpAny_Compare1 (a c h tk _ E S fun _ _ => b' c h _ _ E S fun _ _ => cmp_int (M := model Challenge.rw_pf0204_01.row.prog w) hc (hq _)) hm
variable {R : Value → Sg → Prop} {RB : Bool → Sg → Prop} {RF : Flow → Sg → Prop}
theorem eb_cmp (a : EP w F L V σ l (.i x)) (b' : EP w F L V σ r (.i y)) (hc : cmpI op x y = some b) (hm : behindInMarks op r = false) (hR : RB b σ) : EB w F L V σ (.Compare l [op] [r] p) RB :=
  fun c h tk Q E S hq => wpAny_isTrue_Compare1 (a c h tk _ E S fun _ _ => b' c h _ _ E S fun _ _ => cmp_int (M := model Challenge.rw_pf0204_01.row.prog w) hc (wpAny_truthy_bool (hq _ _ _ _ S hR))) hm
theorem eb_plain (a : EG w F L V σ e fun v σ' => ∃ b, v = .bool b ∧ RB b σ') (he : ∀ whole, isTrue e V whole = (do let v ← whole; standAt e.pos; holding [v] (truthy v))) : EB w F L V σ e RB :=
  fun c h tk Q E S hq => isTrue_plain (a c h tk _ E S fun v σ' h' tk' S' ⟨b, hv, hr⟩ => by subst hv; exact wpAny_truthy_bool (hq _ _ _ _ S' hr)) (he _)
theorem eb_not (a : EB w F L V σ e fun b σ' => RB (!b) σ') : EB w F L V σ (.UnaryOp .Not e p) RB :=
  fun c h tk Q E S hq => isTrue_not (a c h tk _ E S fun b σ' h' tk' S' hr => hq _ _ _ _ S' hr)
theorem eb_or0 (hR : RB false σ) : EB w F L V σ (.BoolOp .Or [] p) RB := fun c h tk Q E S hq => isTrue_or_nil (hq _ _ _ _ S hR)
theorem eb_and {rest : List Expr} (a : EB w F L V σ e fun b σ' => if b = true then EB w F L V σ' (.BoolOp .And rest p) RB else RB false σ') : EB w F L V σ (.BoolOp .And (e :: rest) p) RB :=
  fun c h tk Q E S hq => isTrue_and (a c h tk _ E S fun b σ' h' tk' S' hr => by
    cases b
    · exact hq _ _ _ _ S' hr
    · exact hr c h' tk' _ E S' hq)
theorem eb_or {rest : List Expr} (a : EB w F L V σ e fun b σ' => if b = true then RB true σ' else EB w F L V σ' (.BoolOp .Or rest p) RB) : EB w F L V σ (.BoolOp .Or (e :: rest) p) RB :=
  fun c h tk Q E S hq => isTrue_or (a c h tk _ E S fun b σ' h' tk' S' hr => by
    cases b
    · exact hr c h' tk' _ E S' hq
    · exact hq _ _ _ _ S' hr)
theorem eg_p (a : EP w F L V σ e sp) (hR : sp.all fun v => R v σ) : EG w F L V σ e R :=
  fun c h tk Q E S hq => a c h tk Q E S (sp_use hR fun _ hr _ => hq _ _ _ _ S hr)
theorem eg_mono {R' : Value → Sg → Prop} (a : EG w F L V σ e R) (k : ∀ v σ', R v σ' → R' v σ') : EG w F L V σ e R' :=
  fun c h tk Q E S hq => a c h tk Q E S fun v σ' h' tk' S' hr => hq v σ' h' tk' S' (k _ _ hr)
/-- expressions, one behind the other -/
noncomputable def EL (w : World) (F : Fi) (L : Addr) (V : Env) (σ : Sg) (es : List Expr) (R : List Value → Sg → Prop) : Prop :=
  ∀ (c : Cx w F L) (h : Heap) (tk : Nat) (pos : Pos) (Q : List Value → Shared → Prop) (E : Value → Shared → Prop), SS c.h₀ L σ h → (∀ vs σ' h' tk', SS c.h₀ L σ' h' → R vs σ' → Q vs (c.at h' tk')) →
    wpAny (model Challenge.rw_pf0204_01.row.prog w) c.A (spliced (backTo pos (starEach es V))) Q E (c.at h tk)
variable {RL : List Value → Sg → Prop} {es : List Expr}
theorem el_nil (hR : RL [] σ) : EL w F L V σ [] RL := fun c h tk pos Q E S hq => args_nil (hq _ _ _ _ S hR)
theorem el_cons (a : EG w F L V σ e fun v σ' => EL w F L V σ' es fun vs σ'' => RL (v :: vs) σ'') (he : starEach (e :: es) V = (false, eval e V) :: starEach es V) : EL w F L V σ (e :: es) RL :=
  fun c h tk pos Q E S hq => args_cons (a c h tk _ E S fun v σ' h' tk' S' hr => hr c h' tk' pos _ E S' fun vs σ'' h'' tk'' S'' hr' => hq _ _ _ _ S'' hr') he
theorem all_use {sps : List Vw} : ∀ {P Q : List Value → Prop}, allL sps P → (∀ vs, P vs → Q vs) → allL sps Q := by
  induction sps with
  | nil => exact fun h k => k _ h
  | cons s r ih =>
    intro P Q h k
    cases s with
    | v x => exact ih (P := fun vs => P (x :: vs)) h fun vs => k _
    | i n => exact fun t => ih (P := fun vs => P (.int n t :: vs)) (h t) fun vs => k _
theorem el_p (a : EPs w F L V σ es sps) (hR : allL sps fun vs => RL vs σ) : EL w F L V σ es RL :=
  fun c h tk pos Q E S hq => a c h tk pos Q E S (all_use hR fun _ hr _ => hq _ _ _ _ S hr)
/-- tuples and lists written out -/
theorem eg_tuple {k : Nat} (a : EL w F L V σ es fun vs σ' => vs.length ≤ sizeLine ∧ ∀ a, R (.ref a) (σ'.app [(a, tuO vs 0)])) : EG w F L V σ (.Tuple es k p) R :=
  fun c h tk Q E S hq => Tuple_ (a c h tk p _ E S fun vs σ' h' tk' S' ⟨hs, hr⟩ => by
    exact newTuple_N S'.fr S'.nw (fun h'' F'' N'' => hq _ _ _ _ (S'.made F'' N'' fun q hq => Nat.ne_of_lt (S'.lt q hq)) (hr _)) hs)
theorem eg_list (a : EL w F L V σ es fun vs σ' => vs.length ≤ sizeLine ∧ ∀ a, R (.ref a) (σ'.new (a, lsO vs 0))) : EG w F L V σ (.List es p) R :=
  fun c h tk Q E S hq => List_ (a c h tk p _ E S fun vs σ' h' tk' S' ⟨hs, hr⟩ => by
    exact newList_N S'.fr S'.nw (fun h'' F'' N'' => hq _ _ _ _ (S'.madeM F'' N'' fun q hq => Nat.ne_of_lt (S'.lt q hq)) (hr _)) hs)
/-- a call of a def whose contract is at hand -/
theorem call_con {f : Addr} {vs : List Value} {dd uu : Nat} {Ret : Led → Value → Prop} (C : ConD w f σ.led vs dd uu Ret) (hk : F.cs.kind = .function) (h1 : dd ≤ F.dd) (h2 : uu ≤ F.uu)
    (hR : ∀ v tl, Ret tl v → R v (σ.app tl)) (c : Cx w F L) (h : Heap) (tk : Nat) (Q E : Value → Shared → Prop) (S : SS c.h₀ L σ h) (hq : ∀ v σ' h' tk', SS c.h₀ L σ' h' → R v σ' → Q v (c.at h' tk')) :
    wpAny (model Challenge.rw_pf0204_01.row.prog w) c.A (call (.ref f) vs) Q E (c.at h tk) := by
  refine con_use (C c.mean c.mg c.mb) c.B S.fr c.X S.nw c.T hk (Nat.lt_of_le_of_lt (Nat.add_le_add_left h1 _) c.hd) (Nat.lt_of_le_of_lt (Nat.add_le_add_left h2 _) c.hu) ?_
  rintro r news' h' tk' F' N' ⟨tl, rfl, ht, hr⟩
  exact hq _ _ _ _ (S.tell F' N' ht) (hR _ _ hr)
-- statements
variable {n n2 n3 : Str} {v : Value} {p1 p2 p3 : Pos} {rest body orelse : List Stmt}
theorem st_next (hR : RF .next σ) : ST w F L σ [] RF := fun c h tk Q E _ S hq => wpAny_execs_nil (hq _ _ _ _ S hR)
theorem st_seq {st : Stmt} (a : ∀ (c : Cx w F L) (h : Heap) (tk : Nat) (Q : Flow → Shared → Prop) (E : Value → Shared → Prop), PassesOwn (model Challenge.rw_pf0204_01.row.prog w) c.A (F.env L) E → SS c.h₀ L σ h →
      (∀ fl σ' h' tk', SS c.h₀ L σ' h' → SQ w F L rest RF fl σ' → Q fl (c.at h' tk')) → wpAny (model Challenge.rw_pf0204_01.row.prog w) c.A (exec st (F.env L)) Q E (c.at h tk)) : ST w F L σ (st :: rest) RF :=
  fun c h tk Q E hE S hq => wpAny_execs_cons (a c h tk _ E hE S fun fl σ' h' tk' S' hr => match fl, hr with
    | .next, hr => hr c h' tk' Q E hE S' hq
    | .cont, hr => hq _ _ _ _ S' hr
    | .brk, hr => hq _ _ _ _ S' hr
    | .ret _, hr => hq _ _ _ _ S' hr)
theorem store_l {Q : Unit → Shared → Prop} {c : Cx w F L} {E : Value → Shared → Prop} {h : Heap} {tk : Nat} (hk : F.cs.kind = .function) (hx : (F.env L).kindOf n = some .local) (S : SS c.h₀ L σ h) (hq : ∀ h' tk', SS c.h₀ L (σ.set n v) h' → Q () (c.at h' tk')) :
    wpAny (model Challenge.rw_pf0204_01.row.prog w) c.A (storeName (F.env L) n v) Q E (c.at h tk) :=
  storeX_L S.fr S.nw (fun _ F' N' => hq _ _ (S.set F' N')) hk hx
theorem st_set (a : EG w F L (F.env L) σ e fun v σ' => ST w F L (σ'.set n v) rest RF) (hk : F.cs.kind = .function) (hx : (F.env L).kindOf n = some .local) (hsw : swapsWith e (some (.Name n p1)) p.line (F.env L) = pure false) : ST w F L σ (.Assign [.Name n p1] e p :: rest) RF :=
  st_seq fun c h tk Q E _ S hq => wpAny_Assign_Name (a c h tk _ E S fun _ _ _ _ S' hr => store_l hk hx S' fun _ _ S'' => hq _ _ _ _ S'' hr) hsw
theorem st_setp (a : EP w F L (F.env L) σ e sp) (hr : sp.all fun v => ST w F L (σ.set n v) rest RF) (hk : F.cs.kind = .function) (hx : (F.env L).kindOf n = some .local) (hsw : swapsWith e (some (.Name n p1)) p.line (F.env L) = pure false) : ST w F L σ (.Assign [.Name n p1] e p :: rest) RF :=
  st_set (eg_p a hr) hk hx hsw
/-- `a, b = (e1, e2)`: stored from behind -/
theorem st_swap2 {e1 e2 : Expr} {k k' : Nat} (a : EL w F L (F.env L) σ [e1, e2] fun vs σ' => ∃ v1 v2, vs = [v1, v2] ∧ ST w F L ((σ'.set n2 v2).set n v1) rest RF) (hk : F.cs.kind = .function) (hx : (F.env L).kindOf n = some .local) (hx2 : (F.env L).kindOf n2 = some .local)
    (hs : swapsWithSole [.Tuple [.Name n p1, .Name n2 p2] k p3] (.Tuple [e1, e2] k' pos) p.line (F.env L) = pure false) (hw : swappedStores [.Tuple [.Name n p1, .Name n2 p2] k p3] (.Tuple [e1, e2] k' pos) (F.env L) = pure (some [n, n2])) :
    ST w F L σ (.Assign [.Tuple [.Name n p1, .Name n2 p2] k p3] (.Tuple [e1, e2] k' pos) p :: rest) RF :=
  st_seq fun c h tk Q E _ S hq => Assign_Tuple_swapped (Tuple_ (a c h tk pos _ E S fun vs σ' h' tk' S' ⟨v1, v2, hv, hr⟩ => by
    subst hv
    refine newTuple_N S'.fr S'.nw (fun h2 F2 N2 => ?_) (show 2 ≤ sizeLine by decide)
    refine unpackItemsN_ F2 N2 (items := #[v1, v2]) (News.isTup N2 (.head _)) rfl rfl ?_
    intro h3 F3 N3
    have S3 : SS c.h₀ L σ' h3 := ⟨F3, S'.kn, fun p hp => N3 p (.tail _ hp), S'.dm, S'.ab⟩
    refine assignInOrder_cons (bindName_ (store_l hk hx2 S3 fun h4 tk4 S4 => ?_))
    refine assignInOrder_cons (bindName_ (store_l hk hx S4 fun h5 tk5 S5 => ?_))
    exact assignInOrder_nil (hq _ _ _ _ S5 hr))) hs hw
theorem st_if {test : Expr} (a : EB w F L (F.env L) σ test fun b σ' => (b = true → ST w F L σ' body (SQ w F L rest RF)) ∧ (b = false → ST w F L σ' orelse (SQ w F L rest RF))) : ST w F L σ (.If test body orelse p :: rest) RF :=
  st_seq fun c h tk Q E hE S hq => wpAny_If (a c h tk _ E S fun b σ' h' tk' S' hr => by
    cases b
    · exact hr.2 rfl c h' tk' Q E hE S' hq
    · exact hr.1 rfl c h' tk' Q E hE S' hq)
theorem st_ret (a : EG w F L (F.env L) σ e fun v σ' => RF (.ret v) σ') : ST w F L σ (.Return (some e) p :: rest) RF :=
  st_seq fun c h tk Q E hE S hq => wpAny_Return_some (a c h tk _ E S fun v σ' h' tk' S' hr => hq _ _ _ _ S' hr)
theorem st_retp (a : EP w F L (F.env L) σ e sp) (hr : sp.all fun v => RF (.ret v) σ) : ST w F L σ (.Return (some e) p :: rest) RF := st_ret (eg_p a hr)
theorem st_swap2p {e1 e2 : Expr} {k k' : Nat} {s1 s2 : Vw} (a : EP w F L (F.env L) σ e1 s1) (b : EP w F L (F.env L) σ e2 s2) (hr : s1.all fun v1 => s2.all fun v2 => ST w F L ((σ.set n2 v2).set n v1) rest RF)
    (hk : F.cs.kind = .function) (hx : (F.env L).kindOf n = some .local) (hx2 : (F.env L).kindOf n2 = some .local)
    (he : starEach [e1, e2] (F.env L) = (false, eval e1 (F.env L)) :: starEach [e2] (F.env L)) (he2 : starEach [e2] (F.env L) = (false, eval e2 (F.env L)) :: starEach [] (F.env L))
    (hs : swapsWithSole [.Tuple [.Name n p1, .Name n2 p2] k p3] (.Tuple [e1, e2] k' pos) p.line (F.env L) = pure false) (hw : swappedStores [.Tuple [.Name n p1, .Name n2 p2] k p3] (.Tuple [e1, e2] k' pos) (F.env L) = pure (some [n, n2])) :
    ST w F L σ (.Assign [.Tuple [.Name n p1, .Name n2 p2] k p3] (.Tuple [e1, e2] k' pos) p :: rest) RF :=
  st_swap2 (el_p (eps_cons a (eps_cons b eps_nil he2) he) (sps := [s1, s2]) (match s1, s2, hr with
    | .v _, .v _, hr => ⟨_, _, rfl, hr⟩
    | .v _, .i _, hr => fun t => ⟨_, _, rfl, hr t⟩
    | .i _, .v _, hr => fun t => ⟨_, _, rfl, hr t⟩
    | .i _, .i _, hr => fun t u => ⟨_, _, rfl, hr t u⟩)) hk hx hx2 hs hw
/-- an if over two ints -/
theorem st_ifc {P : Prop} [Decidable P] (a : EP w F L (F.env L) σ l (.i x)) (b' : EP w F L (F.env L) σ r (.i y)) (hc : cmpI op x y = some (decide P)) (hm : behindInMarks op r = false)
    (ht : P → ST w F L σ body (SQ w F L rest RF)) (hf : ¬P → ST w F L σ orelse (SQ w F L rest RF)) : ST w F L σ (.If (.Compare l [op] [r] p1) body orelse p :: rest) RF :=
  st_if (eb_cmp a b' hc hm ⟨fun h => ht (of_decide_eq_true h), fun h => hf (of_decide_eq_false h)⟩)
end

section
variable {w : World} {news : Led} {f : Addr} {vs : List Value} {dd uu : Nat} {Ret : Led → Value → Prop}
/-- how a def ends: what it made, over the caller's objects -/
noncomputable def Done (news : Led) (Ret : Led → Value → Prop) (fl : Flow) (σ : Sg) : Prop :=
  ∃ v tl, (fl = .ret v ∨ fl = .next ∧ v = .none) ∧ σ.ba = news ∧ (∀ p ∈ tl, p ∈ σ.mu ++ σ.ow.flatten) ∧ Ret tl v
theorem done_ret {σ : Sg} {v : Value} (tl : Led) (hr : Ret tl v) (hb : σ.ba = news) (ht : ∀ p ∈ tl, p ∈ σ.mu ++ σ.ow.flatten) : Done news Ret (.ret v) σ := ⟨v, tl, .inl rfl, hb, ht, hr⟩
theorem done_ret0 {σ : Sg} {v : Value} (hr : Ret [] v) (hb : σ.ba = news) : Done news Ret (.ret v) σ := ⟨v, [], .inl rfl, hb, fun _ h => (nomatch h), hr⟩
noncomputable abbrev nm (ns : List String) (vs : List Value) : List (Str × Value) := (ns.map Str.ofString).zip vs
theorem con_plain (ps : List String) {name qual : Str} {params : Arguments} {body : List Stmt} {scope : Scope} {dV kV doc pm cdv ct oc : Value} {an od : Option Addr} {osl : Array (Option Value)} 
    (ho : (hd.heap_39 w.params).lookup f = some ⟨oc, od, .func (fnOf name qual params body scope dV kV doc pm an cdv ct), osl⟩) (hcd : codeIn (hd.heap_39 w.params) cdv qual = true)
    (hbind : bindArgs (fnOf name qual params body scope dV kV doc pm an cdv ct) ⟨vs, []⟩ = pure (nm ps vs)) (hloc : ((nm ps vs).all fun x => decide (scope.names.lookup x.1 = some .local)) = true)
    (hco : scope.isCoroutine = false) (hgen : scope.isGenerator = false) (hk : scope.kind = .function) (hcell : ∀ x ∈ scope.names, x.2 ≠ .cell) (hcl : ∀ L : Addr, cellsFrom (L + 1) scope.names [] = [])
    (hST : ∀ L, ST w ⟨qual, scope, f, cdv, dd, uu⟩ L ⟨fun y => (nm ps vs).reverse.lookup y, (nm ps vs).reverse, [], [], news⟩ body (Done news Ret)) : ConD w f news vs (dd + 1) (uu + 3) Ret := by
  intro mean mg mb dp un gd cn cs a ccd cl outer A₀ base h₀ L m s Q E B F X N T hk' hd' hu hret
  refine wpAny_call ?_
  refine code_def B F X N T rfl rfl hk' ho hcd (Nat.lt_of_le_of_lt (Nat.le_add_right _ _) hd') (BindsTo.of_eq hbind) (locs hloc) ?_ hco hgen hk hcell
  intro g L' h₁ FG F' N' B' X' T'
  have hA : (ktrTop dp un gd cn cs L a ccd cl outer).deeper (envOf qual scope L' f cdv) = ktrTop (dp + 1) (un + 3) gd qual scope L' f cdv (cellsFrom (L' + 1) scope.names []) (envX cn cs L a ccd cl :: outer) := by rw [hcl L']; rfl
  have hV : envOf qual scope L' f cdv = (⟨qual, scope, f, cdv, dd, uu⟩ : Fi).env L' := by show envOf qual scope L' f cdv = envX qual scope L' f cdv (cellsFrom (L' + 1) scope.names []); rw [hcl L']; rfl
  rw [hA, hV]
  refine hST L' ⟨dp + 1, un + 3, gd, _, _, base, g, mean, mg, mb, s.gens, s.drawn, s.os, B', X', T', by simpa [Nat.add_assoc, Nat.add_comm 1] using hd', by simpa [Nat.add_assoc, Nat.add_comm 3] using hu⟩ h₁ _ _ _ PassesOwn.leaving ⟨F', fun x v hv => hv, N', trivial, fun p hp => nomatch hp⟩ ?_
  rintro fl σ' h' tk' S' ⟨v, tl, hv, hb, ht, hr⟩
  refine leaveK_ S'.fr S'.nw fun F3 N3 => ?_
  have fin : Q v { s with heap := h', toks := tk' } := by
    refine hret v (tl ++ news) h' tk' F3 (fun p hp => N3 p ?_) ⟨tl, rfl, fun p hp q hq => ?_, hr⟩
    · rcases List.mem_append.mp hp with hp | hp
      · rcases List.mem_append.mp (ht p hp) with hp | hp
        · exact List.mem_append_left _ hp
        · exact List.mem_append_right _ (List.mem_append_left _ hp)
      · exact List.mem_append_right _ (List.mem_append_right _ (hb ▸ hp))
    · rcases List.mem_append.mp (ht p hp) with hp | hp
      · exact (dist_mem S'.dm p hp q (List.mem_append_right _ (hb ▸ hq))).symm
      · exact (S'.ab p hp q (hb ▸ hq)).symm
  rcases hv with rfl | ⟨rfl, rfl⟩
  · exact fin
  · exact fin
end
end
section
/-- what a state says beside the heap -/
structure SK (σ : Sg) : Prop where
  kn : ∀ x v, σ.l.lookup x = some v → σ.m x = some v
  dm : Dist σ.mu (σ.ow.flatten ++ σ.ba)
  ab : ∀ p ∈ σ.ow.flatten, ∀ q ∈ σ.ba, p.1 ≠ q.1
theorem SS.sk {h₀ h : Heap} {L : Addr} {σ : Sg} (S : SS h₀ L σ h) : SK σ := ⟨S.kn, S.dm, S.ab⟩
theorem SK.ss {h₀ h : Heap} {L : Addr} {σ : Sg} (K : SK σ) (F : Fr h₀ L h σ.m) (N : News h₀ L h σ.led) : SS h₀ L σ h := ⟨F, K.kn, N, K.dm, K.ab⟩
theorem SK.new {σ : Sg} {I : Addr} {o : Obj} (K : SK σ) (h : ∀ p ∈ σ.led, p.1 ≠ I) : SK (σ.new (I, o)) :=
  ⟨K.kn, ⟨fun q hq => (h q (List.mem_append_left _ hq)).symm, fun q hq => (h q (List.mem_append_right _ hq)).symm, K.dm⟩, K.ab⟩
theorem SK.off {σ : Sg} {I : Addr} {o : Obj} (K : SK (σ.new (I, o))) : ∀ p ∈ σ.led, p.1 ≠ I := fun p hp => (List.mem_append.mp hp).elim (fun h => (K.dm.1 p h).symm) fun h => (K.dm.2.1 p h).symm
theorem SK.old {σ : Sg} {I : Addr} {o : Obj} (K : SK (σ.new (I, o))) : SK σ := ⟨K.kn, K.dm.2.2, K.ab⟩
/-- the one says less than the other -/
noncomputable def Lo (σ σ' : Sg) : Prop := ∀ h₀ L h, SS h₀ L σ h → SS h₀ L σ' h
theorem Lo.rfl {σ : Sg} : Lo σ σ := fun _ _ _ h => h
noncomputable abbrev Sg.blk (σ : Sg) (I : Addr) (oI : Obj) (C : Addr) (oC : Obj) (D : Addr) (ys : List Value) : Sg := { σ with mu := (I, oI) :: (C, oC) :: (D, LCg.lst ys) :: σ.mu }
theorem SK.blk {σ : Sg} {I C D : Addr} {oI oC : Obj} {ys : List Value} (K : SK σ) (off : LCg.Off3 I C D σ.led) (ne : I ≠ C ∧ I ≠ D ∧ C ≠ D) : SK (σ.blk I oI C oC D ys) :=
  have o := off.mem
  ⟨K.kn, ⟨fun q hq => by
      rcases List.mem_cons.mp hq with rfl | hq
      · exact ne.1
      · rcases List.mem_cons.mp hq with rfl | hq
        · exact ne.2.1
        · exact (o q (List.mem_append_left _ hq)).1.symm, fun q hq => (o q (List.mem_append_right _ hq)).1.symm,
    ⟨fun q hq => by
      rcases List.mem_cons.mp hq with rfl | hq
      · exact ne.2.2
      · exact (o q (List.mem_append_left _ hq)).2.1.symm, fun q hq => (o q (List.mem_append_right _ hq)).2.1.symm,
      ⟨fun q hq => (o q (List.mem_append_left _ hq)).2.2.symm, fun q hq => (o q (List.mem_append_right _ hq)).2.2.symm, K.dm⟩⟩⟩, K.ab⟩
theorem SK.unblk {σ : Sg} {I C D : Addr} {oI oC : Obj} {ys : List Value} (K : SK (σ.blk I oI C oC D ys)) : SK σ ∧ LCg.Off3 I C D σ.led :=
  have d := K.dm
  ⟨⟨K.kn, d.2.2.2.2.2.2, K.ab⟩, LCg.Off3.of fun p hp => (List.mem_append.mp hp).elim
    (fun h => ⟨(d.1 p (.tail _ (.tail _ h))).symm, (d.2.2.1 p (.tail _ h)).symm, (d.2.2.2.2.1 p h).symm⟩)
    fun h => ⟨(d.2.1 p h).symm, (d.2.2.2.1 p h).symm, (d.2.2.2.2.2.1 p h).symm⟩⟩

section
variable {w : World} {F : Fi} {L : Addr} {V : Env} {σ : Sg} {n x : Str} {p px pos : Pos} {body rest : List Stmt} {iter elt : Expr} {RF : Flow → Sg → Prop} {R : Value → Sg → Prop}
/-- another account of the state, of which J tells -/
inductive LoJ (σ : Sg) (f : Sg → Sg) (J : Sg → Prop) : Prop
  | mk (σ' : Sg) (lo : Lo σ (f σ')) (j : J σ')
/-- how a turn of a for ends -/
noncomputable def Turn (w : World) (F : Fi) (L : Addr) (rest : List Stmt) (RF : Flow → Sg → Prop) (I : Addr) (oI : Obj) (J : Sg → Prop) : Flow → Sg → Prop
  | .ret v, σ => RF (.ret v) σ
  | .brk, σ => ST w F L σ rest RF
  | _, σ => LoJ σ (fun σ' => σ'.new (I, oI)) J
theorem items_st {I ax : Addr} {o : Obj} {ty : String} (J : List Value → Sg → Prop) (keep : ∀ r σ, J r σ → At σ (ax, o)) (c : Cx w F L) (Q : Flow → Shared → Prop) (E : Value → Shared → Prop) (s : Shared) (hs : ∀ h tk, ({ s with heap := h, toks := tk } : Shared) = c.at h tk)
    (hE : PassesOwn (model Challenge.rw_pf0204_01.row.prog w) c.A (F.env L) E)
    (turn : ∀ oI v r σ, J (v :: r) σ → EN w F L (σ.new (I, oI)) x v fun σ' => ST w F L σ' body (Turn w F L rest RF I oI (J r)))
    (fin : ∀ σ, J [] σ → ST w F L σ rest RF) (hq : ∀ fl σ' h' tk', SS c.h₀ L σ' h' → SQ w F L rest RF fl σ' → Q fl (c.at h' tk')) :
    ∀ (r : List Value) (σ : Sg), J r σ → SK σ → (∀ p ∈ σ.led, p.1 ≠ I) → ItemsRest Challenge.rw_pf0204_01.row.prog w c.A E c.h₀ (F.env L) (.Name x px) body Q s [(I, ty)] [(ax, o)] (r.map .val) σ.m σ.led := by
  intro r
  induction r with
  | nil =>
    intro σ hJ K _
    exact ItemsRest.zero fun h tk F' N' => hs h tk ▸ hq .next σ h tk (K.ss F' N') (fin σ hJ)
  | cons v r ih =>
    intro σ hJ K hI
    refine ItemsRest.val fun h tk F' oI hoI N' => ?_
    rw [hs]
    refine assign_Name (turn oI v r σ hJ c h tk _ E ((K.new (o := oI) hI).ss F' N') fun σ1 h1 tk1 S1 hr1 => ?_)
    refine hr1 c h1 tk1 _ E hE S1 fun fl σ' h2 tk2 S2 ht => ?_
    cases fl with
    | ret v => exact hq (.ret v) σ' h2 tk2 S2 ht
    | brk => exact hq .next σ' h2 tk2 S2 ht
    | next =>
      obtain ⟨σ'', lo, hJ'⟩ := ht
      have S3 := lo _ _ _ S2
      refine ⟨h2, tk2, σ''.m, σ''.led, (hs h2 tk2).symm.trans (by rw [← hs h tk]), S3.fr, S3.nw, fun p hp q hq' => ?_, ⟨(keep _ _ hJ').mem, trivial⟩, ih σ'' hJ' S3.sk.old S3.sk.off⟩
      rw [List.mem_singleton.mp hq']
      exact S3.sk.off p hp
    | cont =>
      obtain ⟨σ'', lo, hJ'⟩ := ht
      have S3 := lo _ _ _ S2
      refine ⟨h2, tk2, σ''.m, σ''.led, (hs h2 tk2).symm.trans (by rw [← hs h tk]), S3.fr, S3.nw, fun p hp q hq' => ?_, ⟨(keep _ _ hJ').mem, trivial⟩, ih σ'' hJ' S3.sk.old S3.sk.off⟩
      rw [List.mem_singleton.mp hq']
      exact S3.sk.off p hp
/-- what a for goes over, with its invariant -/
inductive ForSrc (w : World) (F : Fi) (L : Addr) (x : Str) (body rest : List Stmt) (RF : Flow → Sg → Prop) (v : Value) (σ1 : Sg) : Prop
  | mk (a : Addr) (vs : List Value) (k : Nat) (cl : String) (J : List Value → Sg → Prop) (hv : v = .ref a) (hcl : cl = "list" ∨ cl = "tuple") (hJ : J vs σ1) (keep : ∀ r σ, J r σ → At σ (a, { cls := .type cl, data := .seq vs.toArray k }))
      (turn : ∀ I oI v r σ, J (v :: r) σ → EN w F L (σ.new (I, oI)) x v fun σ' => ST w F L σ' body (Turn w F L rest RF I oI (J r))) (fin : ∀ σ, J [] σ → ST w F L σ rest RF)
theorem st_for (src : EG w F L (F.env L) σ iter (ForSrc w F L x body rest RF))
    (hf : ∀ v, foldedSetIterable iter (F.env L) v = pure v) : ST w F L σ (.For (.Name x px) iter body [] p :: rest) RF :=
  st_seq fun c h tk Q E hE S hq => For_turns (env := F.env L) S.fr (src c h tk _ E S fun v σ1 h1 tk1 S1 ⟨a, vs, k, cl, J, hv, hcl, hJ, keep, turn, fin⟩ => by
    subst hv
    rcases hcl with rfl | rfl
    · exact iter_listTurns rfl S1.fr S1.nw (keep _ _ hJ).mem rfl rfl fun I hI => items_st J keep c Q E _ (fun _ _ => rfl) hE (turn I) fin hq vs σ1 hJ S1.sk fun p hp => Nat.ne_of_lt (hI p hp)
    · exact iter_tupTurns rfl S1.fr S1.nw (keep _ _ hJ).mem rfl rfl fun I hI => items_st J keep c Q E _ (fun _ _ => rfl) hE (turn I) fin hq vs σ1 hJ S1.sk fun p hp => Nat.ne_of_lt (hI p hp)) hf hE
/-- a comprehension over one name -/
structure Cmp (w : World) (F : Fi) (L : Addr) (V : Env) (elt : Expr) (x : Str) (scope : Scope) (cl : List (Str × Addr)) (m₀ : Str → Option Value) (n : Nat) (P : Nat → Value → Prop) (Sr : Led → Prop) (J : Nat → List Value → Sg → Prop) : Prop where
  m : ∀ i ys σ, J i ys σ → σ.m = m₀
  sr : ∀ i ys σ, J i ys σ → Sr σ.led
  turn : ∀ i v ys σ I oI C oC D m₂, i < n → P i v → J i ys σ → LCg.NsObj oC m₂ → m₂ x = some v → EG w F L (compEnvC scope cl C V) (σ.blk I oI C oC D ys) elt fun y σ' => LoJ σ' (fun σ'' => σ''.blk I oI C oC D ys) (J (i + 1) (ys ++ [y]))
theorem Cmp.go {scope : Scope} {cl : List (Str × Addr)} {m₀ : Str → Option Value} {k : Nat} {P : Nat → Value → Prop} {Sr : Led → Prop} {J : Nat → List Value → Sg → Prop} (K : Cmp w F L V elt x scope cl m₀ k P Sr J) {Fin : List Value → Led → Prop} (c : Cx w F L) (s : Shared) (hs : ∀ h tk, ({ s with heap := h, toks := tk } : Shared) = c.at h tk)
    (fin : ∀ ys σ, J k ys σ → SK σ → Fin ys σ.led) : ∀ (j i : Nat) (ys : List Value) (σ : Sg), i + j = k → J i ys σ → SK σ → LCg.CompRest Challenge.rw_pf0204_01.row.prog w c.A c.h₀ L m₀ V elt x scope cl s Sr P Fin j i ys σ.led := by
  intro j
  induction j with
  | zero =>
    intro i ys σ hi hJ hK
    have e : i = k := by omega
    subst e
    exact LCg.CompRest.zero (fin ys σ hJ hK)
  | succ j ih =>
    intro i ys σ hi hJ hK
    refine LCg.CompRest.succ fun v I oI C oC D m₂ h tk E' hP hC hx F' N' off ne => ?_
    rw [hs]
    have hm := K.m _ _ _ hJ
    subst hm
    refine K.turn i v ys σ I oI C oC D m₂ (by omega) hP hJ hC hx c h tk _ E' ((hK.blk off ne).ss F' N') fun y σ' h' tk' S' ⟨σ'', lo, hJ'⟩ => ?_
    have S3 := lo _ _ _ S'
    have hm' := K.m _ _ _ hJ'
    have F3 : Fr c.h₀ L h' σ.m := hm' ▸ S3.fr
    obtain ⟨K3, off3⟩ := S3.sk.unblk
    exact ⟨h', tk', σ''.led, rfl, F3, S3.nw, off3, K.sr _ _ _ hJ', ih (i + 1) (ys ++ [y]) σ'' (by omega) hJ' K3⟩
/-- where a comprehension reads -/
inductive CSrc (w : World) (F : Fi) (L : Addr) (V : Env) (elt : Expr) (x : Str) (scope : Scope) (cl : List (Str × Addr)) (m₀ : Str → Option Value) (R : List Value → Sg → Prop) (v : Value) (σ : Sg) : Prop
  | mk (a : Addr) (its : List Value) (k : Nat) (J : Nat → List Value → Sg → Prop) (hv : v = .ref a) (hsz : its.length ≤ sizeLine) (hJ : J 0 [] σ) (keep : ∀ i ys σ, J i ys σ → At σ (a, lsO its k))
    (K : Cmp w F L V elt x scope cl m₀ its.length (fun i v => its[i]? = some v) (fun _ => True) J) (hR : ∀ ys σ, J its.length ys σ → R ys σ)
/-- the source of a comprehension, and what it goes on to -/
noncomputable def CI (w : World) (F : Fi) (L : Addr) (V : Env) (σ : Sg) (iter elt : Expr) (x : Str) (scope : Scope) (cl : List (Str × Addr)) (RL : List Value → Sg → Prop) : Prop :=
  ∀ (Fin : Shared → List Value → Led → Prop) (c : Cx w F L) (h : Heap) (tk : Nat) (E : Value → Shared → Prop), SS c.h₀ L σ h → (∀ s₂, (∀ h tk, ({ s₂ with heap := h, toks := tk } : Shared) = c.at h tk) → ∀ ys σ', RL ys σ' → SK σ' → Fin s₂ ys σ'.led) →
    wpAny (model Challenge.rw_pf0204_01.row.prog w) c.A (eval iter V) (LCg.CompSrc Challenge.rw_pf0204_01.row.prog w c.A c.h₀ L σ.m V elt x scope cl Fin) E (c.at h tk)
theorem ci_list {scope : Scope} {cl : List (Str × Addr)} {RL : List Value → Sg → Prop} (src : EG w F L V σ iter (fun v σ1 => σ1.m = σ.m ∧ CSrc w F L V elt x scope cl σ.m RL v σ1)) : CI w F L V σ iter elt x scope cl RL :=
  fun Fin c h tk E S fin => src c h tk _ E S fun v σ1 h1 tk1 S1 ⟨hm, a, its, k, J, hv, hsz, hJ, keep, K, hR⟩ => by
    subst hv
    refine LCg.CompSrc.ledger rfl (hm ▸ S1.fr) S1.nw (keep _ _ _ hJ).mem (by simpa using hsz) fun g => ?_
    have K' : Cmp w F L V elt x scope cl σ.m its.length (fun i v => its.toArray[i]? = some v) (LCg.SrcAt c.h₀ a its.toArray) J := ⟨K.m, fun i ys σ hJ => .inr ⟨_, (keep _ _ _ hJ).mem, rfl, _, rfl⟩, fun i v ys σ I oI C oC D m₂ hi hP => K.turn i v ys σ I oI C oC D m₂ hi (by simpa using hP)⟩
    have := K'.go (Fin := Fin { c.at h1 tk1 with heap := g }) c { c.at h1 tk1 with heap := g } (fun _ _ => rfl) (fun ys σ' hJ' hK => fin _ (fun _ _ => rfl) ys σ' (hR ys σ' hJ') hK) its.length 0 [] σ1 (by simp) hJ S1.sk
    simpa using this
theorem ci_range {scope : Scope} {cl : List (Str × Addr)} {RL : List Value → Sg → Prop} {func e : Expr} {fp : Pos} {b : Int} {k : Nat} (J : Nat → List Value → Sg → Prop) (hf : EP w F L V σ func (.v (.type "range"))) (hb : EP w F L V σ e (.i b)) (hk : b = (k : Int)) (hk2 : k ≤ 1000) (hJ : J 0 [] σ)
    (K : Cmp w F L V elt x scope cl σ.m k (fun i v => ∃ t, v = .int (i : Int) t) (fun _ => True) J) (hR : ∀ ys σ', J k ys σ' → RL ys σ')
    (he : starEach [e] V = (false, eval e V) :: starEach [] V) (hc : eval (.Call func [e] [] fp) V = (do callWith fp (← eval func V) [] (backTo fp (starEach [e] V)) (backToKw fp (keywordEach [] V)))) : CI w F L V σ (.Call func [e] [] fp) elt x scope cl RL :=
  fun Fin c h tk E S fin => Call_ (hf c h tk _ E S fun tk1 => callWith_type1 (args_cons (hb c h tk1 _ E S fun t tk2 => args_nil (call_range_1 (by
    have up : ∀ b o, h.get? b = some o → (h.push { cls := .type "range", data := .fields #[.int 0 tk2, .int b t, .int 1 (tk2 + 1)] }).get? b = some o := fun b o e => Heap.get?_push_of_some _ e
    refine LCg.CompSrc.range (n := k) rfl (S.fr.keeps fun b o e => Heap.get?_push_of_some _ e) (S.nw.grown fun b o e => Heap.get?_push_of_some _ e) (IsRange.new h 0 b 1 _ _ _) (small_one (by decide) (by decide) (by omega) (by omega)) (by rw [rangeSize_one]; split <;> omega) (Nat.le_trans hk2 (by rw [sizeLine_eq]; decide)) fun g => ?_
    have K' : Cmp w F L V elt x scope cl σ.m k (fun i v => ∃ t, v = .int ((0 : Int) + (i : Int)) t) (fun _ => True) J := ⟨K.m, K.sr, fun i v ys σ I oI C oC D m₂ hi hP => K.turn i v ys σ I oI C oC D m₂ hi (by simpa using hP)⟩
    exact K'.go c _ (fun _ _ => rfl) (fun ys σ' hJ' hK => fin _ (fun _ _ => rfl) ys σ' (hR ys σ' hJ') hK) k 0 [] σ (by omega) hJ S.sk))) he) he rfl) hc
theorem eg_comp {scope : Scope} {cl : List (Str × Addr)} (src : CI w F L V σ iter elt x scope cl (fun ys σ' => σ'.m = σ.m ∧ ∀ D, R (.ref D) (σ'.new (D, LCg.lst ys))))
    (hclos : closureFor scope V = pure cl) (hcell : ∀ y ∈ scope.names, y.2 ≠ .cell) (hkind : scope.kind = .function) (hnames : ∀ y ∈ scope.names, y.2 = .local → scope.names.lookup y.1 = some .local) (hx : scope.names.lookup x = some .local)
    (hs : ∀ v, foldedSetIterable iter V v = pure v) : EG w F L V σ (.ListComp elt [⟨.Name x px, iter, [], 0⟩] scope pos) R :=
  fun c h tk Q E S hq => LCg.ListComp_U S.fr hclos hcell hkind hnames hx (src _ c h tk E S fun s₂ hs₂ ys σ' ⟨hm, hR⟩ hK D h' tk' F' N' off => by
    rw [hs₂]
    have off' : ∀ p ∈ σ'.led, p.1 ≠ D := by
      intro p hp
      generalize σ'.led = l at off hp
      induction l with
      | nil => cases hp
      | cons q r ih =>
        rcases List.mem_cons.mp hp with rfl | hp
        · exact off.1
        · exact ih off.2 hp
    exact hq _ _ _ _ ((hK.new off').ss (hm ▸ F') N') (hR D)) hs
theorem st_comp {scope : Scope} {cl : List (Str × Addr)} {y : Str} {py : Pos} (src : CI w F L (F.env L) σ iter elt x scope cl (fun ys σ' => σ'.m = σ.m ∧ ∀ D, ST w F L ((σ'.new (D, LCg.lst ys)).set y (.ref D)) rest RF))
    (hclos : closureFor scope (F.env L) = pure cl) (hcell : ∀ y ∈ scope.names, y.2 ≠ .cell) (hkind : scope.kind = .function) (hnames : ∀ y ∈ scope.names, y.2 = .local → scope.names.lookup y.1 = some .local) (hx : scope.names.lookup x = some .local)
    (hs : ∀ v, foldedSetIterable iter (F.env L) v = pure v) (hsw : swapsWith (.ListComp elt [⟨.Name x px, iter, [], 0⟩] scope pos) (some (.Name y py)) p.line (F.env L) = pure true) (hk : F.cs.kind = .function) (hy : (F.env L).kindOf y = some .local) :
    ST w F L σ (.Assign [.Name y py] (.ListComp elt [⟨.Name x px, iter, [], 0⟩] scope pos) p :: rest) RF :=
  st_seq fun c h tk Q E _ S hq => LCg.Assign_ListComp_U S.fr rfl hsw hclos hcell hkind hnames hx hy (by show (F.cs.kind == .class || (F.cs.kind == .module && _)) = false; rw [hk]; rfl) (src _ c h tk E S fun s₂ hs₂ ys σ' ⟨hm, hR⟩ hK D h' tk' F' N' off => by
    rw [hs₂]
    have off' : ∀ p ∈ σ'.led, p.1 ≠ D := by
      intro p hp
      generalize σ'.led = l at off hp
      induction l with
      | nil => cases hp
      | cons q r ih =>
        rcases List.mem_cons.mp hp with rfl | hp
        · exact off.1
        · exact ih off.2 hp
    refine hq .next ((σ'.new (D, LCg.lst ys)).set y (.ref D)) _ _ ?_ (hR D)
    have K2 := hK.new (o := LCg.lst ys) off'
    exact ⟨by show Fr _ _ _ (fun z => if z = y then some (.ref D) else σ'.m z); exact hm ▸ F', fun z v hz => by
      show (if z = y then some (.ref D) else σ'.m z) = some v
      by_cases e : z = y
      · subst e; rw [if_pos rfl]; simpa [List.lookup] using hz
      · have : (z == y) = false := by simpa using e
        rw [if_neg e]; exact K2.kn z v (by simpa [List.lookup, this] using hz), N', K2.dm, K2.ab⟩) hs
end
end
section
/-- a call of a value -/
noncomputable def EK (w : World) (F : Fi) (L : Addr) (σ : Sg) (f : Value) (vs : List Value) (R : Value → Sg → Prop) : Prop :=
  ∀ (c : Cx w F L) (h : Heap) (tk : Nat) (Q E : Value → Shared → Prop), SS c.h₀ L σ h → (∀ v σ' h' tk', SS c.h₀ L σ' h' → R v σ' → Q v (c.at h' tk')) →
    wpAny (model Challenge.rw_pf0204_01.row.prog w) c.A (call f vs) Q E (c.at h tk)
section
variable {w : World} {F : Fi} {L : Addr} {V : Env} {σ : Sg} {e l func : Expr} {es : List Expr} {p pos p1 p2 p3 : Pos} {x : Int} {t : Tok} {R : Value → Sg → Prop} {RF : Flow → Sg → Prop} {RB : Bool → Sg → Prop} {a : Addr} {vs : List Value} {k : Nat} {n n2 n3 : Str} {v : Value} {rest body : List Stmt}
theorem ek_con {f : Addr} {dd uu : Nat} {Ret : Led → Value → Prop} (C : ConD w f σ.led vs dd uu Ret) (hk : F.cs.kind = .function) (h1 : dd ≤ F.dd) (h2 : uu ≤ F.uu) (hR : ∀ v tl, Ret tl v → R v (σ.app tl)) : EK w F L σ (.ref f) vs R :=
  fun c h tk Q E S hq => call_con C hk h1 h2 hR c h tk Q E S hq
theorem ek_list {cl : String} (hm : At σ (a, { cls := .type cl, data := .seq vs.toArray k })) (hcl : cl = "list" ∨ cl = "tuple") (hz : vs.length ≤ sizeLine) (hR : ∀ D c, R (.ref D) (σ.new (D, lsO vs c))) : EK w F L σ (.type "list") [.ref a] R :=
  fun c h tk Q E S hq => by
    rcases hcl with rfl | rfl
    · exact kup_listOf S.fr S.nw hm.mem (by simp) (fun D c' h' F' N' l1 => hq _ _ _ _ (S.madeM F' N' fun q hq => Nat.ne_of_lt (l1 q hq)) (hR D c')) (by simpa using hz)
    · exact kup_listOfT S.fr S.nw hm.mem (by simp) (fun D c' h' F' N' l1 => hq _ _ _ _ (S.madeM F' N' fun q hq => Nat.ne_of_lt (l1 q hq)) (hR D c')) (by simpa using hz)
theorem ek_tuple (hm : At σ (a, lsO vs k)) (hz : vs.length ≤ 16384) (hR : ∀ D, R (.ref D) (σ.app [(D, tuO vs 0)])) : EK w F L σ (.type "tuple") [.ref a] R :=
  fun c h tk Q E S hq => kde_tupleOf S.fr S.nw (S.nw.isList hm.mem) (by simpa using hz) rfl fun D h' F' N' l1 => hq _ _ _ _ (S.made F' N' fun q hq => Nat.ne_of_lt (l1 q hq)) (hR D)
theorem ek_append {i : Nat} (hm : σ.mu[i]? = some (a, lsO vs k)) (hz : vs.length ≤ sizeLine) (hR : R .none (σ.put i (a, lsO (vs ++ [v]) (k + 1)))) : EK w F L σ (.builtin "list.append") [.ref a, v] R :=
  fun c h tk Q E S hq => append_K (its := vs.toArray) (n := k) S.fr S.nw (by rw [List.push_toArray]; exact (dist_upd S.dm hm (o' := lsO (vs ++ [v]) (k + 1))).1) (fun h' F' N' => hq _ _ _ _ (S.puts hm F' N') hR) (by rw [List.size_toArray]; exact hz)
theorem ek_pop {i : Nat} (hm : σ.mu[i]? = some (a, lsO (vs ++ [v]) k)) (hz : vs.length ≤ 1000) (hR : R v (σ.put i (a, lsO vs (k + 1)))) : EK w F L σ (.builtin "list.pop") [.ref a] R :=
  fun c h tk Q E S hq => kl_pop S.fr S.nw (its := (vs ++ [v]).toArray) (p := vs) (y := v) (by show kl_last (vs ++ [v]) = some (vs, v); exact kpa_last v vs) (dist_upd S.dm hm (o' := lsO vs (k + 1))).1 (by show (vs ++ [v]).length ≤ _; rw [sizeLine_eq, List.length_append]; simp only [List.length_cons, List.length_nil]; omega) (fun h' F' N' => hq _ _ _ _ (S.puts hm F' N') hR)
/-- calls written out -/
theorem eg_callF {f : Addr} (hf : EP w F L V σ func (.v (.ref f))) (hkeep : keepIn (hd.heap_39 w.params) (.ref f) = true) (ha : EL w F L V σ (e :: es) fun vs σ' => EK w F L σ' (.ref f) vs R)
    (he : starEach (e :: es) V = (false, eval e V) :: starEach es V) (hpl : ∀ pos, (backTo pos (starEach es V)).any (·.1) = false)
    (hc : eval (.Call func (e :: es) [] pos) V = (do callWith pos (← eval func V) [] (backTo pos (starEach (e :: es) V)) (backToKw pos (keywordEach [] V)))) : EG w F L V σ (.Call func (e :: es) [] pos) R :=
  fun c h tk Q E S hq => Call_ (hf c h tk _ E S fun tk' => callWith_K c.X hkeep (ha c h tk' pos _ E S fun vs σ' h' tk'' S' hr => ⟨c.X.keeps S'.fr.keep, hr c h' tk'' Q E S' hq⟩) he (hpl pos)) hc
theorem eg_callT {T : String} (hf : EP w F L V σ func (.v (.type T))) (ha : EL w F L V σ (e :: es) fun vs σ' => EK w F L σ' (.type T) vs R)
    (he : starEach (e :: es) V = (false, eval e V) :: starEach es V) (hpl : ∀ pos, (backTo pos (starEach es V)).any (·.1) = false)
    (hc : eval (.Call func (e :: es) [] pos) V = (do callWith pos (← eval func V) [] (backTo pos (starEach (e :: es) V)) (backToKw pos (keywordEach [] V)))) : EG w F L V σ (.Call func (e :: es) [] pos) R :=
  fun c h tk Q E S hq => Call_ (hf c h tk _ E S fun tk' => callWith_type1 (ha c h tk' pos _ E S fun vs σ' h' tk'' S' hr => hr c h' tk'' Q E S' hq) he (hpl pos)) hc
theorem eg_callB {id : String} (hf : EP w F L V σ func (.v (.builtin id))) (ha : EL w F L V σ (e :: es) fun vs σ' => EK w F L σ' (.builtin id) vs R)
    (he : starEach (e :: es) V = (false, eval e V) :: starEach es V) (hpl : ∀ pos, (backTo pos (starEach es V)).any (·.1) = false)
    (hc : eval (.Call func (e :: es) [] pos) V = (do callWith pos (← eval func V) [] (backTo pos (starEach (e :: es) V)) (backToKw pos (keywordEach [] V)))) : EG w F L V σ (.Call func (e :: es) [] pos) R :=
  fun c h tk Q E S hq => Call_ (hf c h tk _ E S fun tk' => callWith_builtin1 (ha c h tk' pos _ E S fun vs σ' h' tk'' S' hr => hr c h' tk'' Q E S' hq) he (hpl pos)) hc
theorem ep_len {cl : String} (hf : EP w F L V σ func (.v (.builtin "len"))) (ha : EP w F L V σ e (.v (.ref a))) (hm : At σ (a, { cls := .type cl, data := .seq vs.toArray k })) (hcl : cl = "list" ∨ cl = "tuple") (hz : vs.length ≤ 16384)
    (he : starEach [e] V = (false, eval e V) :: starEach [] V) (hc : eval (.Call func [e] [] pos) V = (do callWith pos (← eval func V) [] (backTo pos (starEach [e] V)) (backToKw pos (keywordEach [] V)))) : EP w F L V σ (.Call func [e] [] pos) (.i (vs.length : Int)) :=
  fun c h tk Q E S hq => Call_ (hf c h tk _ E S fun tk' => callWith_builtin1 (args_cons (ha c h tk' _ E S fun tk'' => args_nil (by
    rcases hcl with rfl | rfl
    · exact kun_lenL (S.nw.isList hm.mem) (by simp) (by omega) (hq _ _)
    · exact kun_lenT (S.nw.isTup hm.mem) (by simp) (by omega) (hq _ _))) he) he rfl) hc
/-- a method of a list -/
theorem eg_lmeth0 {o : Expr} {name : Str} {id : String} {apos : Pos} {pl : Sem Bool} (ho : EP w F L V σ o (.v (.ref a))) (hm : At σ (a, lsO vs k)) (slot : Slot "list" name id) (hty : typeOf (.builtin id) = pure (.type "method_descriptor"))
    (ha : EK w F L σ (.builtin id) [.ref a] R)
    (he : eval (.Call (.Attribute o name apos) [] [] pos) V = (do
      let ov ← eval o V
      standAt apos.atName
      let (f, first) ← holding [ov] (getMethod ov name pl)
      callWith pos f first (backTo pos (starEach [] V)) (backToKw pos (keywordEach [] V)))) : EG w F L V σ (.Call (.Attribute o name apos) [] [] pos) R :=
  fun c h tk Q E S hq => methodCall_KW (ho c h tk _ E S fun tk' => listMethod_K S.nw hm.mem slot hty (callWith_method0 (ha c h tk' Q E S hq))) he
theorem eg_lmeth {o : Expr} {name : Str} {id : String} {apos : Pos} {pl : Sem Bool} (ho : EP w F L V σ o (.v (.ref a))) (hm : At σ (a, lsO vs k)) (slot : Slot "list" name id) (hty : typeOf (.builtin id) = pure (.type "method_descriptor"))
    (ha : EL w F L V σ (e :: es) fun us σ' => EK w F L σ' (.builtin id) (.ref a :: us) R) (he : starEach (e :: es) V = (false, eval e V) :: starEach es V) (hpl : ∀ pos, (backTo pos (starEach es V)).any (·.1) = false)
    (hc : eval (.Call (.Attribute o name apos) (e :: es) [] pos) V = (do
      let ov ← eval o V
      standAt apos.atName
      let (f, first) ← holding [ov] (getMethod ov name pl)
      callWith pos f first (backTo pos (starEach (e :: es) V)) (backToKw pos (keywordEach [] V)))) : EG w F L V σ (.Call (.Attribute o name apos) (e :: es) [] pos) R :=
  fun c h tk Q E S hq => methodCall_KW (ho c h tk _ E S fun tk' => listMethod_K S.nw hm.mem slot hty (callWith_method1 (ha c h tk' pos _ E S fun us σ' h' tk'' S' hr => hr c h' tk'' Q E S' hq) he (hpl pos))) hc
theorem st_expr (a : EG w F L (F.env L) σ e fun v σ' => v = .none ∧ ST w F L σ' rest RF) (hi : interactive (F.env L) = false) (hs : swapsWith e none p.line (F.env L) = pure false) : ST w F L σ (.Expr e p :: rest) RF :=
  st_seq fun c h tk Q E _ S hq => wpAny_Expr (a c h tk _ E S fun v σ' h' tk' S' ⟨hv, hr⟩ => by subst hv; exact hq .next _ _ _ S' hr) hi hs
end
end
section
section
variable {w : World} {F : Fi} {L : Addr} {V : Env} {σ : Sg} {e l func : Expr} {es : List Expr} {p pos p1 p2 p3 : Pos} {x : Int} {t : Tok} {R : Value → Sg → Prop} {RF : Flow → Sg → Prop} {RB : Bool → Sg → Prop} {a : Addr} {vs zs : List Value} {k : Nat} {n n2 n3 : Str} {v : Value} {rest body : List Stmt}
noncomputable def WTurn (w : World) (F : Fi) (L : Addr) (rest : List Stmt) (RF : Flow → Sg → Prop) (J : Sg → Prop) : Flow → Sg → Prop
  | .ret v, σ => RF (.ret v) σ
  | .brk, σ => ST w F L σ rest RF
  | _, σ => J σ
theorem st_while {test : Expr} (J : Nat → Sg → Prop) {i : Nat} (h0 : J i σ)
    (turn : ∀ k σ, J k σ → EB w F L (F.env L) σ test fun b σ' => (b = true → ST w F L σ' body (WTurn w F L rest RF fun σ'' => ∃ j, j < k ∧ J j σ'')) ∧ (b = false → ST w F L σ' rest RF)) : ST w F L σ (.While test body [] p :: rest) RF :=
  st_seq fun c h tk Q E hE S hq => by
    have loop : ∀ k, ∀ j, j < k → ∀ σ h tk, J j σ → SS c.h₀ L σ h → WhlRest Challenge.rw_pf0204_01.row.prog w c.A E (F.env L) test body [] Q 1 (c.at h tk) := by
      intro k
      induction k with
      | zero => exact fun j hj => absurd hj (Nat.not_lt_zero _)
      | succ k ih =>
        intro j hj σ h tk hJ S
        refine whl_turn hE (turn j σ hJ c h tk _ E S fun b σ' h' tk' S' hr => ?_)
        cases b with
        | false => exact WhlIf.no rfl (wpAny_execs_nil (hq .next σ' h' tk' S' (hr.2 rfl)))
        | true =>
          refine WhlIf.yes rfl (hr.1 rfl c h' tk' _ E hE S' fun fl σ'' h'' tk'' S'' ht => ?_)
          cases fl with
          | ret v => exact hq (.ret v) σ'' h'' tk'' S'' ht
          | brk => exact hq .next σ'' h'' tk'' S'' ht
          | next => obtain ⟨i, hi, hJ'⟩ := ht; exact ih i (by omega) σ'' h'' tk'' hJ' S''
          | cont => obtain ⟨i, hi, hJ'⟩ := ht; exact ih i (by omega) σ'' h'' tk'' hJ' S''
    exact whl_start 1 (loop (i + 1) i (Nat.lt_succ_self i) σ h tk h0 S)
/-- a name that a block reads stands in a cell -/
theorem store_c {i : Nat} {b : Addr} {o : Obj} {v₀ : Option Value} {Q : Unit → Shared → Prop} {c : Cx w F L} {E : Value → Shared → Prop} {h : Heap} {tk : Nat} (hk : F.cs.kind = .function) (hx : (F.env L).kindOf n = some .cell) (hc : (F.cells L).lookup n = some b) (hm : σ.mu[i]? = some (b, o)) (hd : o.data = .cell v₀)
    (S : SS c.h₀ L σ h) (hq : ∀ o' h' tk', o'.data = .cell (some v) → SS c.h₀ L (σ.put i (b, o')) h' → Q () (c.at h' tk')) : wpAny (model Challenge.rw_pf0204_01.row.prog w) c.A (storeName (F.env L) n v) Q E (c.at h tk) :=
  wpAny_storeName_cell hk hx hc ⟨o, (S.nw _ (At.mu i hm).mem).1, hd⟩ fun h' hv hs => by
    obtain ⟨o', ho', hd'⟩ := hv
    obtain ⟨pre, post, e1, e2, h1, h2⟩ := (dist_upd S.dm hm (o' := o')).1.split
    have z := S.nw _ (At.mu i hm).mem
    refine hq o' h' _ hd' (S.puts hm (S.fr.change hs z.2.1 z.2.2) ?_)
    show News _ _ _ (σ.mu.set i (b, o') ++ (σ.ow.flatten ++ σ.ba))
    rw [e2]
    have N' : News c.h₀ L h (pre ++ (b, o) :: post) := e1 ▸ S.nw
    exact news_set N' h1 h2 hs ho'
theorem en_l {R : Sg → Prop} (hk : F.cs.kind = .function) (hx : (F.env L).kindOf n = some .local) (hR : R (σ.set n v)) : EN w F L σ n v R := fun _ _ _ _ _ S hq => store_l hk hx S fun _ _ S' => hq _ _ _ S' hR
theorem en_c {R : Sg → Prop} (i : Nat) {b : Addr} {o : Obj} {v₀ : Option Value} (hk : F.cs.kind = .function) (hx : (F.env L).kindOf n = some .cell) (hc : (F.cells L).lookup n = some b) (hm : σ.mu[i]? = some (b, o)) (hd : o.data = .cell v₀) (hR : ∀ o' : Obj, o'.data = .cell (some v) → R (σ.put i (b, o'))) : EN w F L σ n v R :=
  fun _ _ _ _ _ S hq => store_c hk hx hc hm hd S fun o' _ _ hd' S' => hq _ _ _ S' (hR o' hd')
theorem st_setn (a : EG w F L (F.env L) σ e fun v σ' => EN w F L σ' n v fun σ'' => ST w F L σ'' rest RF) (hsw : swapsWith e (some (.Name n p1)) p.line (F.env L) = pure false) : ST w F L σ (.Assign [.Name n p1] e p :: rest) RF :=
  st_seq fun c h tk Q E _ S hq => wpAny_Assign_Name (a c h tk _ E S fun _ _ _ _ S' hr => hr c _ _ _ E S' fun _ _ _ S'' hr' => hq _ _ _ _ S'' hr') hsw
/-- `a, b = e` over a tuple -/
theorem st_unpack2 {q : Nat} (he : EG w F L (F.env L) σ e fun v σ' => ∃ a v1 v2 j, v = .ref a ∧ At σ' (a, tuO [v1, v2] j) ∧ EN w F L σ' n v1 fun σ1 => EN w F L σ1 n2 v2 fun σ2 => ST w F L σ2 rest RF)
    (hs : swapsWithSole [.Tuple [.Name n p1, .Name n2 p2] q p3] e p.line (F.env L) = pure false) (hw : swappedStores [.Tuple [.Name n p1, .Name n2 p2] q p3] e (F.env L) = pure none)
    (hae : assignEach [.Name n p1, .Name n2 p2] (F.env L) = [(false, assign (.Name n p1) (F.env L)), (false, assign (.Name n2 p2) (F.env L))]) : ST w F L σ (.Assign [.Tuple [.Name n p1, .Name n2 p2] q p3] e p :: rest) RF :=
  st_seq fun c h tk Q E _ S hq => Assign_Tuple (he c h tk _ E S fun v σ' h' tk' S' ⟨a, v1, v2, j, hv, hm, hr⟩ => by
    subst hv
    refine assign_Tuple_tuple rfl (S'.nw.isTup hm.mem) (by rw [hae]; rfl) (by rw [hae]; rfl) fun h2 hx => ?_
    have S2 : SS c.h₀ L σ' h2 := ⟨S'.fr.extBut hx (Nat.le_refl _), S'.kn, fun p hp => ⟨hx _ _ (Nat.ne_of_lt (S'.lt p hp)) (S'.nw p hp).1, (S'.nw p hp).2⟩, S'.dm, S'.ab⟩
    rw [hae]
    refine assignInOrder_cons (assign_Name (hr c h2 tk' _ E S2 fun σ1 h3 tk3 S3 hr3 => ?_))
    refine assignInOrder_cons (assign_Name (hr3 c h3 tk3 _ E S3 fun σ2 h4 tk4 S4 hr4 => ?_))
    exact assignInOrder_nil (hq .next _ _ _ S4 hr4)) hs hw
/-- `a, b, c = (e1, e2, e3)` -/
theorem st_asg3 {e1 e2 e3 : Expr} {p4 : Pos} {q q' : Nat} (he : EL w F L (F.env L) σ [e1, e2, e3] fun vs σ' => ∃ v1 v2 v3, vs = [v1, v2, v3] ∧ EN w F L σ' n v1 fun σ1 => EN w F L σ1 n2 v2 fun σ2 => EN w F L σ2 n3 v3 fun σ3 => ST w F L σ3 rest RF)
    (hs : swapsWithSole [.Tuple [.Name n p1, .Name n2 p2, .Name n3 p3] q p4] (.Tuple [e1, e2, e3] q' pos) p.line (F.env L) = pure false) (hw : swappedStores [.Tuple [.Name n p1, .Name n2 p2, .Name n3 p3] q p4] (.Tuple [e1, e2, e3] q' pos) (F.env L) = pure none)
    (hae : assignEach [.Name n p1, .Name n2 p2, .Name n3 p3] (F.env L) = [(false, assign (.Name n p1) (F.env L)), (false, assign (.Name n2 p2) (F.env L)), (false, assign (.Name n3 p3) (F.env L))]) :
    ST w F L σ (.Assign [.Tuple [.Name n p1, .Name n2 p2, .Name n3 p3] q p4] (.Tuple [e1, e2, e3] q' pos) p :: rest) RF :=
  st_seq fun c h tk Q E _ S hq => Assign_Tuple (Tuple_ (he c h tk pos _ E S fun vs σ' h' tk' S' ⟨v1, v2, v3, hv, hr⟩ => by
    subst hv
    refine newTuple_N S'.fr S'.nw (fun h1 F1 N1 => ?_) (show 3 ≤ sizeLine by decide)
    refine assign_Tuple_tuple rfl (News.isTup N1 (.head _)) (by rw [hae]; rfl) (by rw [hae]; rfl) fun h2 hx => ?_
    have lt : ∀ p ∈ σ'.led, p.1 < h1.objs.size := fun p hp => Heap.lt_size (N1 p (.tail _ hp)).1
    have S2 : SS c.h₀ L σ' h2 := ⟨F1.extBut hx (Nat.le_refl _), S'.kn, fun p hp => ⟨hx _ _ (Nat.ne_of_lt (lt p hp)) (N1 p (.tail _ hp)).1, (N1 p (.tail _ hp)).2⟩, S'.dm, S'.ab⟩
    rw [hae]
    refine assignInOrder_cons (assign_Name (hr c h2 tk' _ E S2 fun σ1 h3 tk3 S3 hr3 => ?_))
    refine assignInOrder_cons (assign_Name (hr3 c h3 tk3 _ E S3 fun σ2 h4 tk4 S4 hr4 => ?_))
    refine assignInOrder_cons (assign_Name (hr4 c h4 tk4 _ E S4 fun σ3 h5 tk5 S5 hr5 => ?_))
    exact assignInOrder_nil (hq .next _ _ _ S5 hr5))) hs hw
/-- a slice of a list; the slice object is let go -/
theorem part_none {c : Cx w F L} {h : Heap} {tk : Nat} {Q : Value → Shared → Prop} {E : Value → Shared → Prop} (hq : Q .none (c.at h tk)) : wpAny (model Challenge.rw_pf0204_01.row.prog w) c.A (evalPart none V) Q E (c.at h tk) := wpAny_pure hq
theorem part_some {c : Cx w F L} {h : Heap} {tk : Nat} {Q : Value → Shared → Prop} {E : Value → Shared → Prop} (a : EP w F L V σ e (.i x)) (S : SS c.h₀ L σ h) (hq : ∀ t tk', Q (.int x t) (c.at h tk')) : wpAny (model Challenge.rw_pf0204_01.row.prog w) c.A (evalPart (some e) V) Q E (c.at h tk) := a c h tk Q E S hq
theorem eg_slrev (ha : EP w F L V σ l (.v (.ref a))) (hm : At σ (a, lsO vs k)) (hst : EP w F L V σ e (.i (-1))) (hz : vs.length ≤ sizeLine) (hR : ∀ D, R (.ref D) (σ.new (D, lsO vs.reverse 0)))
    (hs : ∀ D, ∃ ops, subscripted (.Slice none none (some e) p1) false (.ref a) (.ref D) = operate ops (getItem (.ref a) (.ref D))) (hg : ∀ r, letTemporaryGo l (.ref a) r = pure ()) : EG w F L V σ (.Subscript l (.Slice none none (some e) p1) p) R :=
  fun c h tk Q E S hq => Subscript_ (ha c h tk _ E S fun tk' => wpAny_Slice (part_none (part_none (part_some hst S fun t tk'' =>
    krv_lit (s := c.at h tk'') S.fr S.nw (S.nw.isList hm.mem) (IsPart.int _ _) rfl (fun D h' F' N' l1 => hq _ _ _ _ (S.madeM F' (by simpa [W.listOf] using N') fun q hq => Nat.ne_of_lt (l1 q hq)) (hR D)) (hs _).choose_spec hg (by rw [List.size_toArray]; exact hz)))))
theorem eg_sl {lo hi : Option Int} {el eu : Option Expr} (ha : EP w F L V σ l (.v (.ref a))) (hm : At σ (a, lsO vs k)) (hlo : (el = none ∧ lo = none) ∨ ∃ e x, el = some e ∧ lo = some x ∧ EP w F L V σ e (.i x)) (hhi : (eu = none ∧ hi = none) ∨ ∃ e x, eu = some e ∧ hi = some x ∧ EP w F L V σ e (.i x))
    (hz : vs.length ≤ sizeLine) (hzs : kms_pick vs lo hi = zs) (hR : ∀ D, R (.ref D) (σ.new (D, lsO zs 0)))
    (hs : ∀ D, subscripted (.Slice el eu none p1) false (.ref a) (.ref D) = operate [.ref D, .ref a] (getItem (.ref a) (.ref D))) (hg : ∀ r, letTemporaryGo l (.ref a) r = pure ()) : EG w F L V σ (.Subscript l (.Slice el eu none p1) p) R :=
  fun c h tk Q E S hq => Subscript_ (ha c h tk _ E S fun tk' => wpAny_Slice (by
    have fin : ∀ vl vu tk3, IsPart vl lo → IsPart vu hi → wpAny (model Challenge.rw_pf0204_01.row.prog w) c.A (subscriptTail l (.Slice el eu none p1) (.ref a) (.ref h.objs.size)) Q E (c.at (h.push { cls := .type "slice", data := .fields #[vl, vu, .none] }) tk3) := fun vl vu tk3 il iu =>
      kms_slice_lit (s := c.at h tk3) S.fr S.nw (S.nw.isList hm.mem) il iu hzs (fun D h' F' N' l1 => hq _ _ _ _ (S.madeM F' N' fun q hq => Nat.ne_of_lt (l1 q hq)) (hR D)) (hs _) hg (by rw [List.size_toArray]; exact hz)
    rcases hlo with ⟨rfl, rfl⟩ | ⟨e1, x1, rfl, rfl, E1⟩
    · refine part_none ?_
      rcases hhi with ⟨rfl, rfl⟩ | ⟨e2, x2, rfl, rfl, E2⟩
      · exact part_none (part_none (fin _ _ _ .none .none))
      · exact part_some E2 S fun t tk2 => part_none (fin _ _ _ .none (.int _ _))
    · refine part_some E1 S fun t1 tk1 => ?_
      rcases hhi with ⟨rfl, rfl⟩ | ⟨e2, x2, rfl, rfl, E2⟩
      · exact part_none (part_none (fin _ _ _ (.int _ _) .none))
      · exact part_some E2 S fun t tk2 => part_none (fin _ _ _ (.int _ _) (.int _ _))))
theorem ep_lneg {sl : Expr} {j : Nat} {y : Int} (a' : EP w F L V σ l (.v (.ref a))) (b : EP w F L V σ sl (.i y)) (hm : At σ (a, lsO vs k)) (h0 : y < 0) (hlo : -(2 ^ 63) ≤ y) (hj : seqIndex? y vs.length = some j) (hx : vs[j]? = some v)
    (hs : ∀ u, subscripted sl false (.ref a) (.int y u) = operate [.ref a, .int y u] (getItem (.ref a) (.int y u))) : EP w F L V σ (.Subscript l sl p) (.v v) :=
  fun cx h tk Q E S hq => Subscript_ (a' cx h tk _ E S fun _ => b cx h _ _ E S fun t _ => kde_neg (S.nw.isList hm.mem) h0 hlo hj hx (hq _) (hs t))
theorem eg_slmid {el eu : Expr} {v0 v1 v2 v3 : Value} (ha : EP w F L V σ l (.v (.ref a))) (hvs : (vs = [v0, v1, v2] ∧ zs = [v1]) ∨ (vs = [v0, v1, v2, v3] ∧ zs = [v1, v2])) (hm : At σ (a, tuO vs k)) (E1 : EP w F L V σ el (.i 1)) (E2 : EP w F L V σ eu (.i (-1))) (hR : ∀ D, R (.ref D) (σ.app [(D, tuO zs 0)]))
    (hs : ∀ D, subscripted (.Slice (some el) (some eu) none p1) false (.ref a) (.ref D) = operate [.ref D, .ref a] (getItem (.ref a) (.ref D))) (hg : ∀ r, letTemporaryGo l (.ref a) r = pure ()) : EG w F L V σ (.Subscript l (.Slice (some el) (some eu) none p1) p) R :=
  fun c h tk Q E S hq => Subscript_ (ha c h tk _ E S fun tk' => wpAny_Slice (part_some E1 S fun t1 tk1 => part_some E2 S fun t2 tk2 => part_none (by
    rcases hvs with ⟨rfl, rfl⟩ | ⟨rfl, rfl⟩
    · exact slice_mid3 (s := c.at h tk2) S.fr S.nw (S.nw.isTup hm.mem) (fun D h' F' N' l1 => hq _ _ _ _ (S.made F' N' fun q hq => Nat.ne_of_lt (l1 q hq)) (hR D)) (hs _) hg
    · exact slice_mid4 (s := c.at h tk2) S.fr S.nw (S.nw.isTup hm.mem) (fun D h' F' N' l1 => hq _ _ _ _ (S.made F' N' fun q hq => Nat.ne_of_lt (l1 q hq)) (hR D)) (hs _) hg)))
end
theorem cells_desc {n0 : Nat} : ∀ (names : List (Str × NameKind)) (n : Nat) (acc : List (Str × Addr)), acc.Pairwise (fun p q => @LT.lt Nat _ q.2 p.2) → (∀ p ∈ acc, @LT.lt Nat _ p.2 n ∧ @LE.le Nat _ n0 p.2) → n0 ≤ n → (cellsFrom n names acc).Pairwise (fun p q => @LT.lt Nat _ q.2 p.2) ∧ ∀ p ∈ cellsFrom n names acc, @LE.le Nat _ n0 p.2 := by
  intro names
  induction names with
  | nil => exact fun n acc h1 h2 _ => ⟨h1, fun p hp => (h2 p hp).2⟩
  | cons y r ih =>
    intro n acc h1 h2 h3
    obtain ⟨y, k⟩ := y
    unfold cellsFrom
    split
    · refine ih (n + 1) _ (List.pairwise_cons.mpr ⟨fun p hp => (h2 p hp).1, h1⟩) (fun p hp => ?_) (Nat.le_succ_of_le h3)
      rcases List.mem_cons.mp hp with rfl | hp
      · exact ⟨Nat.lt_succ_self _, h3⟩
      · exact ⟨Nat.lt_succ_of_lt (h2 p hp).1, (h2 p hp).2⟩
    · exact ih n acc h1 h2 h3
theorem cells_dist {cm : Str → Option Value} {n0 : Nat} {news : Led} (hn : ∀ p ∈ news, @LT.lt Nat _ p.1 n0) {cl : List (Str × Addr)} {cells : Led} (Y : CellsAre cm cl cells) : cl.Pairwise (fun p q => @LT.lt Nat _ q.2 p.2) → (∀ p ∈ cl, @LE.le Nat _ n0 p.2) → Dist cells news ∧ ∀ q ∈ cells, ∃ p ∈ cl, p.2 = q.1 := by
  induction Y with
  | nil => exact fun _ _ => ⟨trivial, fun _ h => nomatch h⟩
  | cons hd r ih =>
    intro h1 h2
    obtain ⟨a, b⟩ := ih (List.pairwise_cons.mp h1).2 fun p hp => h2 p (.tail _ hp)
    refine ⟨⟨fun q hq => ?_, fun q hq => ?_, a⟩, fun q hq => ?_⟩
    · obtain ⟨p, hp, e⟩ := b q hq
      exact Nat.ne_of_gt (e ▸ (List.pairwise_cons.mp h1).1 p hp)
    · exact Nat.ne_of_gt (Nat.lt_of_lt_of_le (hn q hq) (h2 _ (.head _)))
    · rcases List.mem_cons.mp hq with rfl | hq
      · exact ⟨_, .head _, rfl⟩
      · obtain ⟨p, hp, e⟩ := b q hq
        exact ⟨p, .tail _ hp, e⟩
theorem bindL_known {kd : Str → Option NameKind} : ∀ (binds : List (Str × Value)) (m : Str → Option Value) (x : Str) (v : Value), (binds.filter fun y => decide (kd y.1 = some .local)).reverse.lookup x = some v → bindL kd binds m x = some v := by
  have key : ∀ (binds : List (Str × Value)) (m : Str → Option Value) (x : Str), bindL kd binds m x = ((binds.filter fun y => decide (kd y.1 = some .local)).reverse.lookup x).or (m x) := by
    intro binds
    induction binds with
    | nil => intro m x; rfl
    | cons b r ih =>
      intro m x
      obtain ⟨n, z⟩ := b
      unfold bindL
      rw [ih]
      by_cases h : kd n = some .local
      · rw [if_pos h, List.filter_cons_of_pos (by simpa using h), List.reverse_cons, List.lookup_append]
        by_cases e : x = n
        · subst e
          simp [List.lookup]
        · have : (x == n) = false := by simpa using e
          simp [List.lookup, this, e]
      · rw [if_neg h, List.filter_cons_of_neg (by simpa using h)]
  intro binds m x v h
  rw [key, h]
  rfl
section
variable {w : World} {news : Led} {f : Addr} {vs : List Value} {dd uu : Nat} {Ret : Led → Value → Prop}
/-- a def with cells -/
theorem con_cells (ps : List String) {name qual : Str} {params : Arguments} {body : List Stmt} {scope : Scope} {dV kV doc pm cdv ct oc : Value} {an od : Option Addr} {osl : Array (Option Value)}
    (ho : (hd.heap_39 w.params).lookup f = some ⟨oc, od, .func (fnOf name qual params body scope dV kV doc pm an cdv ct), osl⟩) (hcd : codeIn (hd.heap_39 w.params) cdv qual = true)
    (hbind : bindArgs (fnOf name qual params body scope dV kV doc pm an cdv ct) ⟨vs, []⟩ = pure (nm ps vs)) (hkinds : ((nm ps vs).all fun y => scope.names.lookup y.1 == some .local || scope.names.lookup y.1 == some .cell) = true) (hnd : ((cellsFrom 0 scope.names []).map (·.1)).Nodup)
    (hco : scope.isCoroutine = false) (hgen : scope.isGenerator = false) (hk : scope.kind = .function)
    (hST : ∀ L cells, CellsAre (bindC ((⟨qual, scope, f, cdv, dd, uu⟩ : Fi).env L).kindOf (nm ps vs) fun _ => none) (cellsFrom (L + 1) scope.names []) cells →
      ST w ⟨qual, scope, f, cdv, dd, uu⟩ L ⟨bindL ((⟨qual, scope, f, cdv, dd, uu⟩ : Fi).env L).kindOf (nm ps vs) fun _ => none, ((nm ps vs).filter fun y => decide (((⟨qual, scope, f, cdv, dd, uu⟩ : Fi).env L).kindOf y.1 = some .local)).reverse, cells, [], news⟩ body (Done news Ret)) : ConD w f news vs (dd + 1) (uu + 3) Ret := by
  intro mean mg mb dp un gd cn cs a ccd cl outer A₀ base h₀ L m s Q E B F X N T hk' hd' hu hret
  refine wpAny_call ?_
  refine code_defC B F X N T rfl rfl hk' ho hcd (Nat.lt_of_le_of_lt (Nat.le_add_right _ _) hd') (BindsTo.of_eq hbind) hkinds hnd ?_ hco hgen hk
  intro g L' h₁ tk cells FG F' N' Y B' X' T' l1
  obtain ⟨p1, p2⟩ := cells_desc (n0 := L' + 1) scope.names (L' + 1) [] .nil (fun _ h => nomatch h) (Nat.le_refl _)
  have D := (cells_dist (fun p hp => Nat.lt_succ_of_lt (l1 p hp)) Y p1 p2).1
  refine hST L' cells Y ⟨dp + 1, un + 3, gd, envX cn cs L a ccd cl :: outer, ktrTop dp un gd cn cs L a ccd cl outer, base, g, mean, mg, mb, s.gens, s.drawn, s.os, B', X', T', by simpa [Nat.add_assoc, Nat.add_comm 1] using hd', by simpa [Nat.add_assoc, Nat.add_comm 3] using hu⟩ h₁ tk _ _ PassesOwn.leaving ⟨F', fun x v hv => bindL_known _ _ x v hv, N', D, fun p hp => nomatch hp⟩ ?_
  rintro fl σ' h' tk' S' ⟨v, tl, hv, hb, ht, hr⟩
  refine leaveK_ S'.fr S'.nw fun F3 N3 => ?_
  have fin : Q v { s with heap := h', toks := tk' } := by
    refine hret v (tl ++ news) h' tk' F3 (fun p hp => N3 p ?_) ⟨tl, rfl, fun p hp q hq => ?_, hr⟩
    · rcases List.mem_append.mp hp with hp | hp
      · rcases List.mem_append.mp (ht p hp) with hp | hp
        · exact List.mem_append_left _ hp
        · exact List.mem_append_right _ (List.mem_append_left _ hp)
      · exact List.mem_append_right _ (List.mem_append_right _ (hb ▸ hp))
    · rcases List.mem_append.mp (ht p hp) with hp | hp
      · exact (dist_mem S'.dm p hp q (List.mem_append_right _ (hb ▸ hq))).symm
      · exact (S'.ab p hp q (hb ▸ hq)).symm
  rcases hv with rfl | ⟨rfl, rfl⟩
  · exact fin
  · exact fin
end
end
section
theorem dist_get {mu n : Led} (d : Dist mu n) : ∀ {i j : Nat} {p q : Addr × Obj}, mu[i]? = some p → mu[j]? = some q → i ≠ j → p.1 ≠ q.1 := by
  induction mu with
  | nil => intro i j p q h; cases h
  | cons a r ih =>
    intro i j p q hi hj hne
    cases i with
    | zero =>
      cases j with
      | zero => exact absurd rfl hne
      | succ j =>
        have e : a = p := Option.some.inj hi
        exact e ▸ d.1 q (List.mem_of_getElem? (l := r) (i := j) hj)
    | succ i =>
      cases j with
      | zero =>
        have e : a = q := Option.some.inj hj
        exact e ▸ (d.1 p (List.mem_of_getElem? (l := r) (i := i) hi)).symm
      | succ j => exact ih d.2.2 (i := i) (j := j) hi hj (fun e => hne (congrArg (· + 1) e))
theorem dist_pick {mu n n' : Led} (d : Dist mu n) (js : List Nat) (hn : ∀ q ∈ n', q ∈ n ∨ q ∈ js.filterMap (mu[·]?)) : ∀ is : List Nat, (is ++ js).Nodup → Dist (is.filterMap (mu[·]?)) n' := by
  intro is
  induction is with
  | nil => exact fun _ => trivial
  | cons i r ih =>
    intro hnd
    rw [List.cons_append, List.nodup_cons] at hnd
    cases e : mu[i]? with
    | none => rw [List.filterMap_cons_none (by exact e)]; exact ih hnd.2
    | some p =>
      rw [List.filterMap_cons_some (by exact e)]
      have other : ∀ l : List Nat, (∀ j ∈ l, j ≠ i) → ∀ q ∈ l.filterMap (mu[·]?), p.1 ≠ q.1 := fun l hl q hq => by
        obtain ⟨j, hj, hq⟩ := List.mem_filterMap.mp hq
        exact dist_get d e hq (hl j hj).symm
      refine ⟨other r fun j hj h => hnd.1 (List.mem_append_left _ (h ▸ hj)), fun q hq => ?_, ih hnd.2⟩
      rcases hn q hq with h | h
      · exact dist_mem d p (List.mem_of_getElem? e) q h
      · exact other js (fun j hj h => hnd.1 (List.mem_append_right _ (h ▸ hj))) q h
theorem mem_lookup {x : Str} {v : Value} : ∀ {l : List (Str × Value)}, l.lookup x = some v → (x, v) ∈ l := by
  intro l
  induction l with
  | nil => exact fun h => nomatch h
  | cons a r ih =>
    intro hx
    rw [List.lookup_cons] at hx
    by_cases e : (x == a.1) = true
    · rw [e] at hx
      have e1 : x = a.1 := by simpa using e
      have e2 : a.2 = v := Option.some.inj hx
      exact e1 ▸ e2 ▸ List.mem_cons_self
    · rw [Bool.not_eq_true _ |>.mp e] at hx
      exact List.mem_cons_of_mem _ (ih hx)
/-- some names, some changing objects, some of these to stand from now on, some groups -/
noncomputable abbrev Sg.pick (σ : Sg) (ns : List String) (is js : List Nat) (gs : List Led) : Sg :=
  { σ with l := ns.filterMap (fun n => (σ.l.lookup (Str.ofString n)).map (Str.ofString n, ·)), mu := is.filterMap (σ.mu[·]?), ow := (js.filterMap (σ.mu[·]?)) :: gs }
theorem lo_pick {σ : Sg} (ns : List String) (is js : List Nat) (gs : List Led) (hg : ∀ q ∈ gs.flatten, q ∈ σ.ow.flatten) (hnd : (is ++ js).Nodup) : Lo σ (σ.pick ns is js gs) := fun h₀ L h S => by
  have hp : ∀ l : List Nat, ∀ q ∈ l.filterMap (σ.mu[·]?), q ∈ σ.mu := fun l q hq => by
    obtain ⟨i, _, hi⟩ := List.mem_filterMap.mp hq
    exact List.mem_of_getElem? hi
  refine ⟨S.fr, fun x v hx => ?_, fun q hq => S.nw q ?_, dist_pick S.dm js (fun q hq => ?_) is hnd, fun q hq b hb => ?_⟩
  · have hm := mem_lookup hx
    obtain ⟨n, _, hn⟩ := List.mem_filterMap.mp hm
    obtain ⟨z, hz, e⟩ := Option.map_eq_some_iff.mp hn
    cases e
    exact S.kn _ _ hz
  · simp only [Sg.led, Sg.pick, List.flatten_cons, List.mem_append] at hq ⊢
    rcases hq with h | (h | h) | h
    · exact .inl (hp _ _ h)
    · exact .inl (hp _ _ h)
    · exact .inr (.inl (hg _ h))
    · exact .inr (.inr h)
  · simp only [Sg.pick, List.flatten_cons, List.mem_append] at hq ⊢
    rcases hq with (h | h) | h
    · exact .inr h
    · exact .inl (.inl (hg _ h))
    · exact .inl (.inr h)
  · simp only [Sg.pick, List.flatten_cons, List.mem_append] at hq
    rcases hq with h | h
    · exact dist_mem S.dm q (hp _ _ h) b (List.mem_append_right _ hb)
    · exact S.ab q (hg _ h) b hb
theorem lo_all {σ : Sg} (ns : List String) (is js : List Nat) (hnd : (is ++ js).Nodup) : Lo σ (σ.pick ns is js σ.ow) := lo_pick ns is js σ.ow (fun _ h => h) hnd
section
variable {w : World} {F : Fi} {L : Addr} {V : Env} {σ σ' : Sg} {e l r func : Expr} {es : List Expr} {p pos p1 p2 p3 : Pos} {x : Int} {t : Tok} {R : Value → Sg → Prop} {RF : Flow → Sg → Prop} {RB : Bool → Sg → Prop} {a c : Addr} {vs zs : List Value} {k : Nat} {n n2 n3 : Str} {v : Value} {rest body : List Stmt} {o : Obj} {scope : Scope} {cl : List (Str × Addr)} {C : Addr} {m₂ : Str → Option Value}
theorem st_lo (lo : Lo σ σ') (a : ST w F L σ' body RF) : ST w F L σ body RF := fun c h tk Q E hE S hq => a c h tk Q E hE (lo _ _ _ S) hq
/-- names within a comprehension -/
theorem epb_own (hm : At σ (C, o)) (hC : LCg.NsObj o m₂) (hx : m₂ n = some v) (hk : (compEnvC scope cl C V).scope.kind = .function) (hl : (compEnvC scope cl C V).kindOf n = some .local) (hd : (n == ("__debug__" : Str)) = false) : EP w F L (compEnvC scope cl C V) σ (.Name n p) (.v v) :=
  fun c h tk Q E S hq => LCgL.ld_own S.nw hm.mem hC hx (hq _) hk hl hd
theorem epb_cell (hc : cl.lookup n = some c) (hm : At σ (c, o)) (ho : o.data = .cell (some v)) (hk : (compEnvC scope cl C V).scope.kind = .function) (hx : (compEnvC scope cl C V).kindOf n = some .cell) (hb : (n == ("__debug__" : Str)) = false) : EP w F L (compEnvC scope cl C V) σ (.Name n p) (.v v) :=
  fun _ h tk Q E S hq => lcf_cell S.nw hc hm.mem ho (hq _) hk hx hb
theorem epb_glob (e : nsIn (hd.heap_39 w.params) mainGlobals n = some (some v)) (hk : (compEnvC scope cl C V).scope.kind = .function) (hx : (compEnvC scope cl C V).kindOf n = some .globalImplicit) (hd : (n == ("__debug__" : Str)) = false) (hgl : V.globals = mainGlobals) : EP w F L (compEnvC scope cl C V) σ (.Name n p) (.v v) :=
  fun c h tk Q E S hq => LCgL.ld_global S.fr c.X c.T e (hq _) hgl hk hx hd
theorem epb_built (e : nsIn (hd.heap_39 w.params) mainGlobals n = some none) (hv : bootBuiltins n = some v) (hn : n ≠ "__name__") (hk : (compEnvC scope cl C V).scope.kind = .function) (hx : (compEnvC scope cl C V).kindOf n = some .globalImplicit) (hd : (n == ("__debug__" : Str)) = false) (hgl : V.globals = mainGlobals) (hbl : V.builtins = builtinsNs) : EP w F L (compEnvC scope cl C V) σ (.Name n p) (.v v) :=
  fun c h tk Q E S hq => LCgL.ld_built S.fr c.X c.T e hv hn (hq _) hgl hbl hk hx hd
variable {test : Expr} {orelse : List Stmt}
/-- an if whose test leaves the state as it was -/
theorem st_ifB (B : Bool) (a : EB w F L (F.env L) σ test fun b σ' => b = B ∧ Lo σ' σ) (t : B = true → ST w F L σ body (SQ w F L rest RF)) (f : B = false → ST w F L σ orelse (SQ w F L rest RF)) : ST w F L σ (.If test body orelse p :: rest) RF :=
  st_seq fun c h tk Q E hE S hq => wpAny_If (a c h tk _ E S fun b σ' h' tk' S' hr => by
    obtain ⟨rfl, lo⟩ := hr
    cases b
    · exact f rfl c h' tk' Q E hE (lo _ _ _ S') hq
    · exact t rfl c h' tk' Q E hE (lo _ _ _ S') hq)
theorem lo_app0 : Lo (σ.app []) σ := fun _ _ _ S => ⟨S.fr, S.kn, S.nw, S.dm, S.ab⟩
end
end
section
section
variable {w : World} {F : Fi} {L : Addr} {V : Env} {σ σ' : Sg} {e l r func test : Expr} {es : List Expr} {p pos p1 p2 p3 : Pos} {x y : Int} {t : Tok} {R : Value → Sg → Prop} {RL : List Value → Sg → Prop} {RF : Flow → Sg → Prop} {RB : Bool → Sg → Prop} {a c : Addr} {vs zs : List Value} {k : Nat} {n n2 n3 : Str} {v : Value} {rest body orelse : List Stmt} {b : Bool} {op : CmpOp} {sps : List Vw}
theorem ep_bool {k} : EP w F L V σ (.Constant (.bool b) k p) (.v (.bool b)) := fun c h tk Q E S hq => wpAny_Constant_bool (hq _)
theorem ep_none {k} : EP w F L V σ (.Constant .none k p) (.v .none) := fun c h tk Q E S hq => wpAny_Constant_none (hq _)
theorem eg_pv (a : EP w F L V σ e (.v v)) (hR : R v σ) : EG w F L V σ e R := eg_p a hR
theorem eg_pi (a : EP w F L V σ e (.i x)) (hR : ∀ t, R (.int x t) σ) : EG w F L V σ e R := eg_p a hR
theorem el_v (a : EP w F L V σ e (.v v)) (he : starEach (e :: es) V = (false, eval e V) :: starEach es V) (hR : EL w F L V σ es fun vs σ' => RL (v :: vs) σ') : EL w F L V σ (e :: es) RL := el_cons (eg_pv a hR) he
theorem el_i (a : EP w F L V σ e (.i x)) (he : starEach (e :: es) V = (false, eval e V) :: starEach es V) (hR : ∀ t, EL w F L V σ es fun vs σ' => RL (.int x t :: vs) σ') : EL w F L V σ (e :: es) RL := el_cons (eg_pi a hR) he
theorem eb_pv (a : EP w F L V σ e (.v (.bool b))) (he : ∀ whole, isTrue e V whole = (do let v ← whole; standAt e.pos; holding [v] (truthy v))) (hR : RB b σ) : EB w F L V σ e RB := eb_plain (eg_pv a ⟨b, rfl, hR⟩) he
theorem st_setv (a : EP w F L (F.env L) σ e (.v v)) (hk : F.cs.kind = .function) (hx : (F.env L).kindOf n = some .local) (hsw : swapsWith e (some (.Name n p1)) p.line (F.env L) = pure false) (hr : ST w F L (σ.set n v) rest RF) : ST w F L σ (.Assign [.Name n p1] e p :: rest) RF := st_setp a hr hk hx hsw
theorem st_seti (a : EP w F L (F.env L) σ e (.i x)) (hk : F.cs.kind = .function) (hx : (F.env L).kindOf n = some .local) (hsw : swapsWith e (some (.Name n p1)) p.line (F.env L) = pure false) (hr : ∀ t, ST w F L (σ.set n (.int x t)) rest RF) : ST w F L σ (.Assign [.Name n p1] e p :: rest) RF := st_setp a hr hk hx hsw
theorem st_retv (a : EP w F L (F.env L) σ e (.v v)) (hr : RF (.ret v) σ) : ST w F L σ (.Return (some e) p :: rest) RF := st_retp a hr
theorem st_reti (a : EP w F L (F.env L) σ e (.i x)) (hr : ∀ t, RF (.ret (.int x t)) σ) : ST w F L σ (.Return (some e) p :: rest) RF := st_retp a hr
theorem st_ifyes (a : EP w F L (F.env L) σ l (.i x)) (b' : EP w F L (F.env L) σ r (.i y)) (hc : cmpI op x y = some true) (hm : behindInMarks op r = false) (ht : ST w F L σ body (SQ w F L rest RF)) : ST w F L σ (.If (.Compare l [op] [r] p1) body orelse p :: rest) RF :=
  st_if (eb_cmp a b' hc hm ⟨fun _ => ht, fun h => (nomatch h)⟩)
theorem st_ifno (a : EP w F L (F.env L) σ l (.i x)) (b' : EP w F L (F.env L) σ r (.i y)) (hc : cmpI op x y = some false) (hm : behindInMarks op r = false) (ht : ST w F L σ orelse (SQ w F L rest RF)) : ST w F L σ (.If (.Compare l [op] [r] p1) body orelse p :: rest) RF :=
  st_if (eb_cmp a b' hc hm ⟨fun h => (nomatch h), fun _ => ht⟩)
/-- `o.append(e)` -/
theorem st_append {o : Expr} {apos : Pos} {pl : Sem Bool} (ho : EP w F L (F.env L) σ o (.v (.ref a))) (hm : At σ (a, lsO vs k)) (he : EG w F L (F.env L) σ e fun v σ' => ∃ i vs k, σ'.mu[i]? = some (a, lsO vs k) ∧ vs.length ≤ sizeLine ∧ ST w F L (σ'.put i (a, lsO (vs ++ [v]) (k + 1))) rest RF)
    (h1 : starEach [e] (F.env L) = (false, eval e (F.env L)) :: starEach [] (F.env L))
    (hc : eval (.Call (.Attribute o (Str.ofString "append") apos) [e] [] pos) (F.env L) = (do
      let ov ← eval o (F.env L)
      standAt apos.atName
      let (f, first) ← holding [ov] (getMethod ov (Str.ofString "append") pl)
      callWith pos f first (backTo pos (starEach [e] (F.env L))) (backToKw pos (keywordEach [] (F.env L)))))
    (hi : interactive (F.env L) = false) (hs : swapsWith (.Call (.Attribute o (Str.ofString "append") apos) [e] [] pos) none p.line (F.env L) = pure false) : ST w F L σ (.Expr (.Call (.Attribute o (Str.ofString "append") apos) [e] [] pos) p :: rest) RF :=
  st_expr (eg_lmeth ho hm PySem.F.slot_list_append PySem.F.type_list_append (el_cons (eg_mono he fun v σ' ⟨i, vs, k, hm', hz, hr⟩ => el_nil (ek_append hm' hz ⟨rfl, hr⟩)) h1) h1 (fun _ => rfl) hc) hi hs
theorem appv {o : Expr} {apos : Pos} {pl : Sem Bool} {i : Nat} (ho : EP w F L (F.env L) σ o (.v (.ref a))) (hm : σ.mu[i]? = some (a, lsO vs k)) (he : EP w F L (F.env L) σ e (.v v)) (hz : vs.length ≤ sizeLine) (hr : ST w F L (σ.put i (a, lsO (vs ++ [v]) (k + 1))) rest RF)
    (h1 : starEach [e] (F.env L) = (false, eval e (F.env L)) :: starEach [] (F.env L))
    (hc : eval (.Call (.Attribute o (Str.ofString "append") apos) [e] [] pos) (F.env L) = (do
      let ov ← eval o (F.env L)
      standAt apos.atName
      let (f, first) ← holding [ov] (getMethod ov (Str.ofString "append") pl)
      callWith pos f first (backTo pos (starEach [e] (F.env L))) (backToKw pos (keywordEach [] (F.env L)))))
    (hi : interactive (F.env L) = false) (hs : swapsWith (.Call (.Attribute o (Str.ofString "append") apos) [e] [] pos) none p.line (F.env L) = pure false) : ST w F L σ (.Expr (.Call (.Attribute o (Str.ofString "append") apos) [e] [] pos) p :: rest) RF :=
  st_append ho (.mu i hm) (eg_pv he ⟨i, vs, k, hm, hz, hr⟩) h1 hc hi hs
end
section
variable {w : World} {F : Fi} {L : Addr} {V : Env} {σ : Sg} {l : Expr} {p p1 : Pos} {RB : Bool → Sg → Prop} {a : Addr} {vs : List Value} {k : Nat} {b : Bool}
theorem eb_ne0 (ha : EP w F L V σ l (.v (.ref a))) (hm : At σ (a, lsO vs k)) (hb : b = !vs.isEmpty) (hR : RB b σ) (hbm : behindInMarks .NotEq (.List [] p1) = false) : EB w F L V σ (.Compare l [.NotEq] [.List [] p1] p) RB :=
  fun c h tk Q E S hq => wpAny_isTrue_Compare1 (ha c h tk _ E S fun tk' => List_ (args_nil (newList_N S.fr S.nw (fun h' F' N' => by
    have S' : SS c.h₀ L σ h' := ⟨F', S.kn, fun p hp => N' p (.tail _ hp), S.dm, S.ab⟩
    have hu : c.A.units < cLine := Nat.lt_of_le_of_lt (Nat.le_add_right _ _) c.hu
    cases vs with
    | nil => exact ne_empty (N'.isList (.tail _ hm.mem)) (N'.isList (.head _)) hu (wpAny_truthy_bool (hq _ _ _ _ S' (by simpa [hb] using hR)))
    | cons v r => exact ne_full (N'.isList (.tail _ hm.mem)) (N'.isList (.head _)) (by simp) hu (wpAny_truthy_bool (hq _ _ _ _ S' (by simpa [hb] using hR)))) (Nat.zero_le _)))) hbm
theorem eb_eq0 (ha : EP w F L V σ l (.v (.ref a))) (hm : At σ (a, lsO vs k)) (hb : b = vs.isEmpty) (hR : RB b σ) (hbm : behindInMarks .Eq (.List [] p1) = false) : EB w F L V σ (.Compare l [.Eq] [.List [] p1] p) RB :=
  fun c h tk Q E S hq => wpAny_isTrue_Compare1 (ha c h tk _ E S fun tk' => List_ (args_nil (newList_N S.fr S.nw (fun h' F' N' => by
    have S' : SS c.h₀ L σ h' := ⟨F', S.kn, fun p hp => N' p (.tail _ hp), S.dm, S.ab⟩
    have hu : c.A.units < cLine := Nat.lt_of_le_of_lt (Nat.le_add_right _ _) c.hu
    cases vs with
    | nil => exact eq_empty (N'.isList (.tail _ hm.mem)) (N'.isList (.head _)) hu (wpAny_truthy_bool (hq _ _ _ _ S' (by simpa [hb] using hR)))
    | cons v r => exact eq_full (N'.isList (.tail _ hm.mem)) (N'.isList (.head _)) (by simp) hu (wpAny_truthy_bool (hq _ _ _ _ S' (by simpa [hb] using hR)))) (Nat.zero_le _)))) hbm
end
section
variable {w : World} {F : Fi} {L : Addr} {V : Env} {σ : Sg} {e func : Expr} {p pos : Pos} {x y : Int} {t u : Tok} {R : Value → Sg → Prop}
theorem ep_abs (hf : EP w F L V σ func (.v (.builtin "abs"))) (ha : EP w F L V σ e (.i x))
    (he : starEach [e] V = (false, eval e V) :: starEach [] V) (hc : eval (.Call func [e] [] pos) V = (do callWith pos (← eval func V) [] (backTo pos (starEach [e] V)) (backToKw pos (keywordEach [] V)))) : EP w F L V σ (.Call func [e] [] pos) (.i (if x < 0 then -x else x)) :=
  fun c h tk Q E S hq => Call_ (hf c h tk _ E S fun tk' => callWith_builtin1 (args_cons (ha c h tk' _ E S fun t tk'' => args_nil (call_abs_int fun u tk3 => hq u tk3)) he) he rfl) hc
theorem ek_max (hR : R (.int (if y > x then y else x) (if y > x then u else t)) σ) : EK w F L σ (.builtin "max") [.int x t, .int y u] R :=
  fun c h tk Q E S hq => max_two_N rfl S.fr S.nw fun h' tk' F' N' => hq _ σ h' tk' ⟨F', S.kn, N', S.dm, S.ab⟩ hR
end
theorem sz {n : Nat} (h : n ≤ 1000) : n ≤ sizeLine := Nat.le_trans h (by rw [sizeLine_eq]; decide)
end
section
theorem kf_all {w : World} : (hd.heap_39 w.params, Challenge.rw_pf0204_01.row.prog) = (hd.heap_39 w.params, Challenge.rw_pf0204_01.row.prog) := by
  k_fill
  rfl
local macro_rules | `(tactic| walk_at "MG") => `(tactic| first | assumption | exact List.Mem.head _ | exact .tail _ (.head _) | exact .tail _ (.tail _ (.head _)))
local macro_rules | `(tactic| walk_at "AT") => `(tactic| first | exact At.ba (by assumption) | exact At.fl (by assumption) | exact At.mu 0 rfl | exact At.mu 1 rfl | exact At.mu 2 rfl | exact At.mu 3 rfl | exact At.mu 4 rfl | exact At.ow 0 _ rfl (by walk_at "MG") | exact At.ow 1 _ rfl (by walk_at "MG") | exact At.ow 2 _ rfl (by walk_at "MG") | exact At.ow 3 _ rfl (by walk_at "MG") | exact At.mu 5 rfl | exact At.mu 6 rfl | exact At.mu 7 rfl | exact At.mu 8 rfl | exact At.mu 9 rfl | exact At.mu 10 rfl | exact At.mu 11 rfl | exact At.mu 12 rfl | exact At.mu 13 rfl | exact At.mu 14 rfl | exact At.mu 15 rfl | exact At.mu 16 rfl | exact At.mu 17 rfl )
local macro_rules | `(tactic| walk_at "EV") => `(tactic| first
  | ((with_reducible show EP _ _ _ (compEnvC _ _ _ _) _ (Expr.Name _ _) _); first | exact epb_own (by walk_at "AT") (by assumption) (by assumption) rfl rfl rfl | exact epb_cell rfl (by walk_at "AT") (by assumption) rfl rfl rfl | exact epb_glob (by k_is) rfl rfl rfl rfl | exact epb_built (by k_is) (by boot_by_name) (by decide) rfl rfl rfl rfl rfl)
  | ((with_reducible show EP _ _ _ (Fi.env _ _) _ (Expr.Name _ _) _); first | exact ep_local rfl rfl rfl rfl | exact ep_cell rfl (by walk_at "AT") (by assumption) rfl rfl rfl | exact ep_glob (by k_is) rfl rfl rfl | exact ep_built (by k_is) (by boot_by_name) (by decide) rfl rfl rfl)
  | ((with_reducible show EP _ _ _ _ _ (Expr.Subscript _ (Expr.UnaryOp _ _ _) _) _); first
    | exact ep_lneg (by walk_at "EV") (by walk_at "EI") (by walk_at "AT") (by decide) (by decide) rfl rfl (by intro _; with_unfolding_all rfl)
    | exact ep_tup (by walk_at "EV") (by walk_at "EI") (by walk_at "AT") rfl rfl (by decide) (by decide) (by intro _; with_unfolding_all rfl))
  | ((with_reducible show EP _ _ _ _ _ (Expr.Subscript _ _ _) _); first
    | exact ep_tup (by walk_at "EV") (by walk_at "EI") (by walk_at "AT") rfl rfl (by decide) (by decide) (by intro _; with_unfolding_all rfl)
    | exact ep_lst (by walk_at "EV") (by walk_at "EI") (by walk_at "AT") (by decide) rfl (by decide) (by intro _; with_unfolding_all rfl) (by intro _; with_unfolding_all rfl))
  | ((with_reducible show EP _ _ _ _ _ (Expr.Compare _ [_] [_] _) _); exact ep_cmp (by walk_at "EI") (by walk_at "EI") rfl (by with_unfolding_all rfl))
  | ((with_reducible show EP _ _ _ _ _ (Expr.Constant (Const.bool _) _ _) _); exact ep_bool)
  | ((with_reducible show EP _ _ _ _ _ (Expr.Constant Const.none _ _) _); exact ep_none))
local macro_rules | `(tactic| walk_at "EI") => `(tactic| first
  | ((with_reducible show EP _ _ _ _ _ (Expr.Constant (Const.int _) _ _) _); exact ep_const)
  | ((with_reducible show EP _ _ _ _ _ (Expr.BinOp _ Operator.Add _ _) _); exact ep_add (by walk_at "EI") (by walk_at "EI"))
  | ((with_reducible show EP _ _ _ _ _ (Expr.BinOp _ Operator.Sub _ _) _); exact ep_sub (by walk_at "EI") (by walk_at "EI"))
  | ((with_reducible show EP _ _ _ _ _ (Expr.BinOp _ Operator.Mult _ _) _); exact ep_mul (by walk_at "EI") (by walk_at "EI") (by mul_fits))
  | ((with_reducible show EP _ _ _ _ _ (Expr.BinOp _ Operator.FloorDiv _ _) _); exact ep_fdiv (by walk_at "EI") (by walk_at "EI") (by first | decide | assumption | omega) (by first | exact PyProof.noPylong_of_log2 (by decide +kernel) | exact PyProof.noPylong_small (by omega)))
  | ((with_reducible show EP _ _ _ _ _ (Expr.BinOp _ Operator.Mod _ _) _); exact ep_mod (by walk_at "EI") (by walk_at "EI") (by first | decide | assumption | omega))
  | ((with_reducible show EP _ _ _ _ _ (Expr.BinOp _ Operator.Pow _ _) _); exact ep_pow (by walk_at "EI") (by walk_at "EI") (by decide) (by decide) (by assumption))
  | ((with_reducible show EP _ _ _ _ _ (Expr.UnaryOp UnaryOp.USub _ _) _); exact ep_neg (by walk_at "EI"))
  | ((with_reducible show EP _ _ _ _ _ (Expr.Call (Expr.Name _ _) [_] [] _) _); exact ep_len (by walk_at "EV") (by walk_at "EV") (by walk_at "AT") (by first | exact Or.inl rfl | exact Or.inr rfl) (by first | assumption | decide | omega | (simp only [List.length_cons, List.length_nil, List.length_append]; omega)) rfl rfl)
  | ((with_reducible show EP _ _ _ _ _ (Expr.Call (Expr.Name _ _) [_] [] _) _); exact ep_abs (by walk_at "EV") (by walk_at "EI") rfl rfl)
  | exact ep_i (by walk_at "EV"))
local macro_rules | `(tactic| walk_at "EE") => `(tactic| first | walk_at "EI" | walk_at "EV")
local macro_rules | `(tactic| walk_at "EG") => `(tactic| first
  | refine eg_pi (by walk_at "EI") (fun _ => ?_)
  | refine eg_pv (by walk_at "EV") ?_
  | ((with_reducible show EG _ _ _ _ _ (Expr.Tuple _ _ _) _); refine eg_tuple ?_)
  | ((with_reducible show EG _ _ _ _ _ (Expr.List _ _) _); refine eg_list ?_)
  | ((with_reducible show EG _ _ _ _ _ (Expr.Call _ (_ :: _) [] _) _); first
    | refine eg_callF (by walk_at "EV") (by k_is) ?_ rfl (fun _ => rfl) rfl
    | refine eg_callT (by walk_at "EV") ?_ rfl (fun _ => rfl) rfl
    | refine eg_callB (by walk_at "EV") ?_ rfl (fun _ => rfl) rfl))
local macro_rules | `(tactic| walk_at "EL") => `(tactic| first
  | ((with_reducible show EL _ _ _ _ _ [] _); refine el_nil ?_)
  | refine el_i (by walk_at "EI") rfl (fun _ => ?_)
  | refine el_v (by walk_at "EV") rfl ?_
  | refine el_cons ?_ rfl)
local macro_rules | `(tactic| walk_at "EN") => `(tactic| first | refine en_l rfl rfl ?_ | refine en_c 0 rfl rfl rfl rfl (by assumption) (fun _ _ => ?_) | refine en_c 1 rfl rfl rfl rfl (by assumption) (fun _ _ => ?_) | refine en_c 2 rfl rfl rfl rfl (by assumption) (fun _ _ => ?_) | refine en_c 3 rfl rfl rfl rfl (by assumption) (fun _ _ => ?_) | refine en_c 4 rfl rfl rfl rfl (by assumption) (fun _ _ => ?_) | refine en_c 5 rfl rfl rfl rfl (by assumption) (fun _ _ => ?_) | refine en_c 6 rfl rfl rfl rfl (by assumption) (fun _ _ => ?_) | refine en_c 7 rfl rfl rfl rfl (by assumption) (fun _ _ => ?_) | refine en_c 8 rfl rfl rfl rfl (by assumption) (fun _ _ => ?_) | refine en_c 9 rfl rfl rfl rfl (by assumption) (fun _ _ => ?_) | refine en_c 10 rfl rfl rfl rfl (by assumption) (fun _ _ => ?_) | refine en_c 11 rfl rfl rfl rfl (by assumption) (fun _ _ => ?_))
local macro_rules | `(tactic| walk_at "ST") => `(tactic| first
  | ((with_reducible show ST _ _ _ _ (Stmt.Assign [Expr.Tuple _ _ _] (Expr.Tuple _ _ _) _ :: _) _); refine st_swap2p (by walk_at "EE") (by walk_at "EE") ?_ rfl rfl rfl rfl rfl rfl rfl; (try dsimp only [Vw.all]); (try intros))
  | ((with_reducible show ST _ _ _ _ (Stmt.Assign [Expr.Name _ _] _ _ :: _) _); first
    | refine st_seti (by walk_at "EI") rfl rfl rfl (fun _ => ?_)
    | refine st_setv (by walk_at "EV") rfl rfl rfl ?_
    | refine st_setn ?_ rfl)
  | ((with_reducible show ST _ _ _ _ (Stmt.If (Expr.Compare _ [_] [_] _) _ _ _ :: _) _); first
    | refine st_ifyes (by walk_at "EI") (by walk_at "EI") (by first | rfl | decide) (by with_unfolding_all rfl) ?_
    | refine st_ifno (by walk_at "EI") (by walk_at "EI") (by first | rfl | decide) (by with_unfolding_all rfl) ?_
    | (refine st_ifc (by walk_at "EI") (by walk_at "EI") rfl (by with_unfolding_all rfl) ?_ ?_ <;> intro _))
  | ((with_reducible show ST _ _ _ _ (Stmt.Return (some _) _ :: _) _); first
    | refine st_reti (by walk_at "EI") (fun _ => ?_)
    | refine st_retv (by walk_at "EV") ?_
    | refine st_ret ?_)
  | ((with_reducible show ST _ _ _ _ (Stmt.Expr (Expr.Call (Expr.Attribute _ (PySem.Str.ofString "append") _) [_] [] _) _ :: _) _); first | refine appv (i := 0) (by walk_at "EV") rfl (by walk_at "EV") (by first | assumption | decide) ?_ rfl rfl rfl rfl | refine appv (i := 1) (by walk_at "EV") rfl (by walk_at "EV") (by first | assumption | decide) ?_ rfl rfl rfl rfl | refine appv (i := 2) (by walk_at "EV") rfl (by walk_at "EV") (by first | assumption | decide) ?_ rfl rfl rfl rfl | refine appv (i := 3) (by walk_at "EV") rfl (by walk_at "EV") (by first | assumption | decide) ?_ rfl rfl rfl rfl | refine appv (i := 4) (by walk_at "EV") rfl (by walk_at "EV") (by first | assumption | decide) ?_ rfl rfl rfl rfl)
  | ((with_reducible show ST _ _ _ _ [] _); refine st_next ?_; show ST _ _ _ _ _ _)
  | ((with_reducible show EN _ _ _ _ _ _ _); walk_at "EN")
  | ((with_reducible show EL _ _ _ _ _ _ _); walk_at "EL")
  | ((with_reducible show EG _ _ _ _ _ _ _); walk_at "EG"))
section
noncomputable def isNear (px py ax ay bx by' bound : Int) : Bool :=
  if (bx - ax) * (px - ax) + (by' - ay) * (py - ay) ≤ 0 then decide ((px - ax) * (px - ax) + (py - ay) * (py - ay) ≤ bound * bound)
  else if (bx - ax) * (bx - ax) + (by' - ay) * (by' - ay) ≤ (bx - ax) * (px - ax) + (by' - ay) * (py - ay) then decide ((px - bx) * (px - bx) + (py - by') * (py - by') ≤ bound * bound)
  else decide (((bx - ax) * (py - ay) - (by' - ay) * (px - ax)) * ((bx - ax) * (py - ay) - (by' - ay) * (px - ax)) ≤ bound * bound * ((bx - ax) * (bx - ax) + (by' - ay) * (by' - ay)))
theorem near_con {w : World} {news : Led} {a1 a2 a3 : Addr} {x1 y1 x2 y2 x3 y3 b : Int} {t1 t2 t3 u1 u2 u3 tb : Tok} {n1 n2 n3 : Nat}
    (h1 : (a1, tp x1 y1 t1 u1 n1) ∈ news) (h2 : (a2, tp x2 y2 t2 u2 n2) ∈ news) (h3 : (a3, tp x3 y3 t3 u3 n3) ∈ news)
    (b1 : -1000 ≤ x1 ∧ x1 ≤ 1000) (c1 : -1000 ≤ y1 ∧ y1 ≤ 1000) (b2 : -1000 ≤ x2 ∧ x2 ≤ 1000) (c2 : -1000 ≤ y2 ∧ y2 ≤ 1000) (b3 : -1000 ≤ x3 ∧ x3 ≤ 1000) (c3 : -1000 ≤ y3 ∧ y3 ≤ 1000) (bb : 0 ≤ b ∧ b ≤ 100) :
    ConD w 124 news [.ref a1, .ref a2, .ref a3, .int b tb] 3 30 (fun tl r => tl = [] ∧ r = .bool (isNear x1 y1 x2 y2 x3 y3 b)) := by
  refine con_plain ["spot", "one", "other", "bound"] (dd := 2) (uu := 27) (by k_is) (by k_is) rfl rfl rfl rfl rfl (by decide) (fun _ => rfl) ?_
  intro L
  repeat' (walk_at "ST")
  all_goals (refine done_ret0 ⟨rfl, ?_⟩ rfl; unfold isNear; first | (rw [if_pos (by assumption)]; done) | (rw [if_neg (by assumption), if_pos (by assumption)]; done) | (rw [if_neg (by assumption), if_neg (by assumption)]; done))
end
section
noncomputable def flatB (b : Int) : List Pt → Bool
  | [p1, p2, p3] => isNear p2.1 p2.2 p1.1 p1.2 p3.1 p3.2 b
  | [p1, p2, p3, p4] => isNear p2.1 p2.2 p1.1 p1.2 p4.1 p4.2 b && isNear p3.1 p3.2 p1.1 p1.2 p4.1 p4.2 b
  | _ => true
noncomputable def lastP (ps : List Pt) : Pt := ps.getLastD (0, 0)
noncomputable def fsp (b : Int) : Nat → List Pt → List Pt
  | 0, ps => [lastP ps]
  | k + 1, ps => if flatB b ps = true then [lastP ps] else fsp b k (cut ps).1 ++ fsp b k (cut ps).2
noncomputable def PtOk (p : Pt) : Prop := (-1000 ≤ p.1 ∧ p.1 ≤ 1000) ∧ (-1000 ≤ p.2 ∧ p.2 ≤ 1000)
noncomputable def PsOk (ps : List Pt) : Prop := (ps.length = 3 ∨ ps.length = 4) ∧ ∀ p ∈ ps, PtOk p
theorem PtOk.mid {p q : Pt} (h : PtOk p) (k : PtOk q) : PtOk (mid p q) := by
  unfold PtOk at *
  dsimp only [Fl.mid]
  omega
theorem PsOk.cut {ps : List Pt} (h : PsOk ps) : PsOk (cut ps).1 ∧ PsOk (cut ps).2 := by
  obtain ⟨hl, hp⟩ := h
  rcases ps with _ | ⟨p1, _ | ⟨p2, _ | ⟨p3, _ | ⟨p4, _ | ⟨p5, r⟩⟩⟩⟩⟩ <;> simp only [List.length_cons, List.length_nil] at hl
  all_goals try omega
  · have h1 := hp p1 (by simp)
    have h2 := hp p2 (by simp)
    have h3 := hp p3 (by simp)
    have a := h1.mid h2
    have b := h2.mid h3
    have c := a.mid b
    refine ⟨⟨.inl rfl, ?_⟩, .inl rfl, ?_⟩ <;> simp only [Fl.cut, List.forall_mem_cons]
    · exact ⟨h1, a, c, List.forall_mem_nil _⟩
    · exact ⟨c, b, h3, List.forall_mem_nil _⟩
  · have h1 := hp p1 (by simp)
    have h2 := hp p2 (by simp)
    have h3 := hp p3 (by simp)
    have h4 := hp p4 (by simp)
    have a := h1.mid h2
    have b := h2.mid h3
    have c := h3.mid h4
    have d := a.mid b
    have e := b.mid c
    have f := d.mid e
    refine ⟨⟨.inr rfl, ?_⟩, .inr rfl, ?_⟩ <;> simp only [Fl.cut, List.forall_mem_cons]
    · exact ⟨h1, a, d, f, List.forall_mem_nil _⟩
    · exact ⟨f, e, c, h4, List.forall_mem_nil _⟩
noncomputable def ItemIn (base : Led) (v : Value) (x : List Pt × Nat) : Prop := ∃ a n tv t, v = .ref a ∧ (a, ({ cls := .type "tuple", data := .seq #[tv, .int (x.2 : Int) t] n } : Obj)) ∈ base ∧ TupIn base tv x.1
theorem ItemIn.mono {b b' : Led} {v : Value} {x : List Pt × Nat} (h : ItemIn b v x) (s : ∀ p ∈ b, p ∈ b') : ItemIn b' v x :=
  let ⟨a, n, tv, t, e, m, k⟩ := h; ⟨a, n, tv, t, e, s _ m, k.mono s⟩
noncomputable def wt (K : Nat) : List (List Pt × Nat) → Nat
  | [] => 0
  | x :: r => 2 ^ (K - x.2 + 1) - 1 + wt K r
noncomputable def restP (b : Int) (K : Nat) : List (List Pt × Nat) → List Pt
  | [] => []
  | x :: r => restP b K r ++ fsp b (K - x.2) x.1
theorem fsp_len (b : Int) : ∀ (k : Nat) (ps : List Pt), (fsp b k ps).length ≤ 2 ^ k
  | 0, _ => Nat.le_refl _
  | k + 1, ps => by
    unfold fsp
    have h := fsp_len b k
    split
    · exact Nat.one_le_two_pow
    · rw [List.length_append, Nat.pow_succ]
      have := h (cut ps).1
      have := h (cut ps).2
      omega
theorem wt_snoc (K : Nat) (x : List Pt × Nat) : ∀ l, wt K (l ++ [x]) = wt K l + (2 ^ (K - x.2 + 1) - 1)
  | [] => by simp only [List.nil_append, wt]; omega
  | y :: l => by simp only [List.cons_append, wt, wt_snoc K x l]; omega
theorem restP_snoc (b : Int) (K : Nat) (x : List Pt × Nat) : ∀ l, restP b K (l ++ [x]) = fsp b (K - x.2) x.1 ++ restP b K l
  | [] => by simp only [List.nil_append, restP, List.append_nil]
  | y :: l => by simp only [List.cons_append, restP, restP_snoc b K x l, List.append_assoc]
theorem wt_len (K : Nat) : ∀ l, l.length ≤ wt K l
  | [] => Nat.le_refl _
  | x :: l => by
    have h := wt_len K l
    have : 2 ≤ 2 ^ (K - x.2 + 1) := by rw [Nat.pow_succ]; have := Nat.one_le_two_pow (n := K - x.2); omega
    rw [List.length_cons]; unfold wt; omega
noncomputable def SpotsRet (news : Led) (qs : List Pt) (tl : Led) (r : Value) : Prop := ∃ F n fv, r = .ref F ∧ (F, ({ cls := .type "list", data := .seq fv.toArray n } : Obj)) ∈ tl ∧ All2 (PtIn (tl ++ news)) fv qs
theorem leaf_deep {b : Int} {K d : Nat} {ps : List Pt} (h : (K : Int) ≤ (d : Int)) : fsp b (K - d) ps = [lastP ps] := by
  rw [show K - d = 0 by omega]
  rfl
theorem leaf_flat {b : Int} {k : Nat} {ps : List Pt} (h : flatB b ps = true) : fsp b k ps = [lastP ps] := by
  cases k with
  | zero => rfl
  | succ k => unfold fsp; rw [if_pos h]
theorem cls_ne {o : Obj} (q : o.cls = .type "list") (r : o.cls = .type "tuple") : False := by
  rw [r] at q
  exact absurd (Value.type.inj q) (by decide)
theorem TupIn.off {l l' : Led} {v : Value} {ps : List Pt} (h : TupIn l v ps) (s : ∀ x ∈ l, x ∈ l' ∨ x.2.cls = .type "list") : TupIn l' v ps := by
  obtain ⟨a, n, vs, e, m, k⟩ := h
  refine ⟨a, n, vs, e, (s _ m).resolve_right (fun q => cls_ne q rfl), All2.mono (fun v p q => ?_) k⟩
  obtain ⟨a', t, u, n', e', m'⟩ := q
  exact ⟨a', t, u, n', e', (s _ m').resolve_right (fun q => cls_ne q rfl)⟩
end
section
theorem flat_gen {w : World} {news : Led} {aS a1 an : Addr} {vs zs : List Value} {nS n1 nn : Nat} {b : Int} {tb t1 u1 tn un : Tok} {pa pz : Pt} {zp : List Pt} (hS : (aS, tupO vs nS) ∈ news) (hvs : ∃ v0 v1 v2 v3, (vs = [v0, v1, v2] ∧ zs = [v1]) ∨ (vs = [v0, v1, v2, v3] ∧ zs = [v1, v2]))
    (h0 : seqIndex? 0 vs.length = some 0 ∧ vs[0]? = some (.ref a1)) (hn : ∃ j, seqIndex? (-1) vs.length = some j ∧ vs[j]? = some (.ref an)) (m1 : (a1, tp pa.1 pa.2 t1 u1 n1) ∈ news) (mn : (an, tp pz.1 pz.2 tn un nn) ∈ news) (hz : All2 (PtIn news) zs zp) (oa : PtOk pa) (oz : PtOk pz) (op : ∀ p ∈ zp, PtOk p) (bb : 0 ≤ b ∧ b ≤ 100) :
    ConD w 131 news [.ref aS, .int b tb] 6 60 (fun tl r => tl = [] ∧ r = .bool (zp.all fun p => isNear p.1 p.2 pa.1 pa.2 pz.1 pz.2 b)) := by
  obtain ⟨v0, v1, v2, v3, hvs⟩ := hvs
  obtain ⟨j0, g0⟩ := h0
  obtain ⟨jn, jn1, gn⟩ := hn
  refine con_plain ["spots", "bound"] (dd := 5) (uu := 57) (by k_is) (by k_is) rfl rfl rfl rfl rfl (by decide) (fun _ => rfl) ?_
  intro L
  refine st_lo (lo_all ["spots", "bound"] [] [] (by decide)) ?_
  refine st_for (eg_slmid (by walk_at "EV") hvs (by walk_at "AT") (by walk_at "EI") (by walk_at "EI") (fun D => ⟨D, zs, 0, "tuple", fun r σ => ∃ m gs rp, σ = ⟨m, [(Str.ofString "spots", .ref aS), (Str.ofString "bound", .int b tb)], [], gs, news⟩ ∧ (D, tuO zs 0) ∈ gs.flatten ∧ All2 (PtIn news) r rp ∧ (∀ p ∈ rp, PtOk p) ∧ (zp.all fun p => isNear p.1 p.2 pa.1 pa.2 pz.1 pz.2 b) = rp.all fun p => isNear p.1 p.2 pa.1 pa.2 pz.1 pz.2 b, rfl, .inr rfl, ⟨_, _, zp, rfl, List.mem_append_left _ (.head _), hz, op, rfl⟩, ?keep, ?turn, ?fin⟩) (by intro _; with_unfolding_all rfl) (by intro _; with_unfolding_all rfl)) (fun _ => rfl)
  case keep => rintro r σ ⟨m, gs, rp, rfl, hD, _⟩; exact At.fl (List.mem_append_left _ hD)
  case fin =>
    rintro σ ⟨m, gs, rp, rfl, hD, h1, _, h2⟩
    rcases rp with _ | ⟨_, _⟩
    · walk_at "ST"
      exact done_ret0 ⟨rfl, congrArg Value.bool h2.symm⟩ rfl
    · exact h1.elim
  case turn =>
    rintro I oI v r σ ⟨m, gs, rp, rfl, hD, h1, h3, h2⟩
    rcases rp with _ | ⟨p, rp⟩
    · exact h1.elim
    obtain ⟨⟨a, t, u, n, rfl, ma⟩, h1⟩ := h1
    have ok := h3 p (.head _)
    refine en_l rfl rfl ?_
    refine st_if (eb_not (eb_plain ?_ (fun _ => rfl)))
    walk_at "EG"
    walk_at "EL"
    refine el_v (ep_tup (by walk_at "EV") (by walk_at "EI") (by walk_at "AT") j0 g0 (by decide) (by decide) (by intro _; with_unfolding_all rfl)) rfl ?_
    refine el_v (ep_tup (by walk_at "EV") (by walk_at "EI") (by walk_at "AT") jn1 gn (by decide) (by decide) (by intro _; with_unfolding_all rfl)) rfl ?_
    walk_at "EL"
    refine el_nil (ek_con (near_con (At.ba ma).mem (At.ba m1).mem (At.ba mn).mem ok.1 ok.2 oa.1 oa.2 oz.1 oz.2 bb) rfl (by decide) (by decide) ?_)
    rintro v tl ⟨rfl, rfl⟩
    refine ⟨_, rfl, fun hf => ?_, fun ht => ?_⟩
    · have e : isNear p.1 p.2 pa.1 pa.2 pz.1 pz.2 b = false := by simpa using hf
      walk_at "ST"
      exact done_ret0 ⟨rfl, congrArg Value.bool (by rw [h2, List.all_cons, e]; rfl)⟩ rfl
    · have e : isNear p.1 p.2 pa.1 pa.2 pz.1 pz.2 b = true := by simpa using ht
      refine st_next (st_lo (lo_all ["spots", "bound"] [0] [] (by decide)) (st_next ⟨_, Lo.rfl, _, [] :: [] :: gs, rp, rfl, hD, h1, fun q hq => h3 q (.tail _ hq), by rw [h2, List.all_cons, e]; rfl⟩))
theorem flat_con {w : World} {news : Led} {aS : Addr} {vs : List Value} {nS : Nat} {b : Int} {tb : Tok} {ps : List Pt} (hS : (aS, tupO vs nS) ∈ news) (hv : All2 (PtIn news) vs ps) (hl : ps.length = 3 ∨ ps.length = 4) (hp : ∀ p ∈ ps, PtOk p) (bb : 0 ≤ b ∧ b ≤ 100) :
    ConD w 131 news [.ref aS, .int b tb] 6 60 (fun tl r => tl = [] ∧ r = .bool (flatB b ps)) := by
  rcases ps with _ | ⟨p1, _ | ⟨p2, _ | ⟨p3, _ | ⟨p4, _ | ⟨p5, r⟩⟩⟩⟩⟩ <;> simp only [List.length_cons, List.length_nil] at hl
  all_goals try omega
  all_goals rcases vs with _ | ⟨v1, _ | ⟨v2, _ | ⟨v3, vs⟩⟩⟩
  all_goals try exact hv.elim
  all_goals try exact hv.2.elim
  all_goals try exact hv.2.2.elim
  · rcases vs with _ | ⟨_, _⟩
    · obtain ⟨⟨a1, t1, u1, n1, rfl, m1⟩, h2, ⟨an, tn, un, nn, rfl, mn⟩, _⟩ := hv
      have := flat_gen (w := w) (tb := tb) (zs := [v2]) (zp := [p2]) hS ⟨_, _, _, v2, .inl ⟨rfl, rfl⟩⟩ ⟨rfl, rfl⟩ ⟨2, rfl, rfl⟩ m1 mn ⟨h2, trivial⟩ (hp _ (by simp)) (hp _ (by simp)) (fun p h => hp p (by rw [List.mem_singleton.mp h]; simp)) bb
      simpa [flatB] using this
    · exact hv.2.2.2.elim
  · rcases vs with _ | ⟨v4, _ | ⟨_, _⟩⟩
    · exact hv.2.2.2.elim
    · obtain ⟨⟨a1, t1, u1, n1, rfl, m1⟩, h2, h3, ⟨an, tn, un, nn, rfl, mn⟩, _⟩ := hv
      have := flat_gen (w := w) (tb := tb) (zs := [v2, v3]) (zp := [p2, p3]) hS ⟨_, _, _, _, .inr ⟨rfl, rfl⟩⟩ ⟨rfl, rfl⟩ ⟨3, rfl, rfl⟩ m1 mn ⟨h2, h3, trivial⟩ (hp _ (by simp)) (hp _ (by simp)) (fun p h => hp p (by rcases List.mem_cons.mp h with rfl | h; simp; rw [List.mem_singleton.mp h]; simp)) bb
      simpa [flatB] using this
    · exact hv.2.2.2.2.elim
end
section
theorem middle_con {w : World} {news : Led} {a1 a2 : Addr} {x1 y1 x2 y2 : Int} {t1 t2 u1 u2 : Tok} {n1 n2 : Nat}
    (h1 : (a1, tp x1 y1 t1 u1 n1) ∈ news) (h2 : (a2, tp x2 y2 t2 u2 n2) ∈ news) :
    ConD w 138 news [.ref a1, .ref a2] 3 30 (fun tl r => ∃ a t u n, r = .ref a ∧ tl = [(a, tp ((x1 + x2) / 2) ((y1 + y2) / 2) t u n)]) := by
  refine con_plain ["one", "other"] (dd := 2) (uu := 27) (by k_is) (by k_is) rfl rfl rfl rfl rfl (by decide) (fun _ => rfl) ?_
  intro L
  repeat' (walk_at "ST")
  refine ⟨Nat.le_of_ble_eq_true rfl, fun a => ?_⟩
  rw [Int.fdiv_eq_ediv_of_nonneg _ (by decide), Int.fdiv_eq_ediv_of_nonneg _ (by decide)]
  exact done_ret [(a, _)] ⟨a, _, _, _, rfl, rfl⟩ rfl (fun _ h => h)
end
section
noncomputable def mids : List Pt → List Pt
  | p :: q :: r => mid p q :: mids (q :: r)
  | _ => []
noncomputable def heads : Nat → List Pt → List Pt
  | 0, _ => []
  | k + 1, r => r.headD (0, 0) :: heads k (mids r)
noncomputable def tails : Nat → List Pt → List Pt
  | 0, _ => []
  | k + 1, r => r.getLastD (0, 0) :: tails k (mids r)
theorem cut_heads {ps : List Pt} (h : ps.length = 3 ∨ ps.length = 4) : heads ps.length ps = (cut ps).1 ∧ (tails ps.length ps).reverse = (cut ps).2 := by
  rcases ps with _ | ⟨p1, _ | ⟨p2, _ | ⟨p3, _ | ⟨p4, _ | ⟨p5, r⟩⟩⟩⟩⟩ <;> simp only [List.length_cons, List.length_nil] at h
  all_goals try omega
  · exact ⟨rfl, rfl⟩
  · exact ⟨rfl, rfl⟩
/-- the state at the head of the loop: a row of k + 1 spots is left -/
structure HJ (news : Led) (A1 A2 B : Addr) (ps : List Pt) (k : Nat) (m : Str → Option Value) (σ : Sg) (D : Addr) (rv fv lv : List Value) (rp fp lp : List Pt) (oc : Obj) (gs : List Led) (c1 c2 rc : Nat) : Prop where
  st : σ = ⟨m, [(Str.ofString "firsts", .ref A1), (Str.ofString "lasts", .ref A2)], [(A1, lsO fv c1), (A2, lsO lv c2), (B, oc), (D, lsO rv rc)], gs, news⟩
  cell : oc.data = .cell (some (.ref D))
  row : All2 (PtIn (gs.flatten ++ news)) rv rp
  fs : All2 (PtIn (gs.flatten ++ news)) fv fp
  ls : All2 (PtIn (gs.flatten ++ news)) lv lp
  len : rp.length = k + 1
  fl : fv.length + k ≤ 3
  ll : lv.length + k ≤ 3
  hh : heads ps.length ps = fp ++ heads (k + 1) rp
  tt : tails ps.length ps = lp ++ tails (k + 1) rp
theorem mids_get : ∀ {r : List Pt} {i : Nat} {p q : Pt}, r[i]? = some p → r[i + 1]? = some q → (mids r)[i]? = some (mid p q)
  | p :: q :: r, 0, _, _, h1, h2 => by cases h1; cases h2; rfl
  | p :: q :: r, i + 1, a, b, h1, h2 => mids_get (r := q :: r) (i := i) h1 h2
  | [p], i, _, _, _, h2 => by simp at h2
  | [], i, _, _, h1, _ => by simp at h1
theorem mids_len : ∀ r : List Pt, (mids r).length = r.length - 1
  | [] => rfl
  | [_] => rfl
  | p :: q :: r => by show (mids (q :: r)).length + 1 = _; rw [mids_len]; rfl
theorem seq_last (n : Nat) : seqIndex? (-1) (n + 1) = some n := by
  unfold seqIndex?
  simp
  omega
theorem get_last {α : Type} (a : α) (r : List α) : (a :: r)[r.length]? = some ((a :: r).getLast (by simp)) := by
  rw [List.getLast_eq_getElem]
  simp
theorem All2.last {α β : Type} {R : α → β → Prop} {a : α} {r : List α} {m : List β} {d : β} (h : All2 R (a :: r) m) : R ((a :: r).getLast (by simp)) (m.getLastD d) := by
  induction r generalizing a m with
  | nil =>
    rcases m with _ | ⟨b, _ | ⟨c, m⟩⟩
    · exact h.elim
    · exact h.1
    · exact h.2.elim
  | cons x r ih =>
    rcases m with _ | ⟨b, _ | ⟨c, m⟩⟩
    · exact h.elim
    · exact h.2.elim
    · have := ih h.2
      rw [List.getLast_cons (by simp)]
      simpa using this
theorem All2.head {α β : Type} {R : α → β → Prop} {a : α} {r : List α} {m : List β} {d : β} (h : All2 R (a :: r) m) : R a (m.headD d) := by
  rcases m with _ | ⟨b, m⟩
  · exact h.elim
  · exact h.1
theorem All2.rev {α β : Type} {R : α → β → Prop} : ∀ {l : List α} {m : List β}, All2 R l m → All2 R l.reverse m.reverse
  | [], [], _ => trivial
  | a :: l, b :: m, h => by
    rw [List.reverse_cons, List.reverse_cons]
    exact All2.append (All2.rev h.2) ⟨h.1, trivial⟩
  | [], _ :: _, x => x.elim
  | _ :: _, [], x => x.elim
theorem cut_done {news tl : Led} {gs : List Led} {T TA TB : Addr} {fv lv : List Value} {ps fp lp : List Pt} (hl : ps.length = 3 ∨ ps.length = 4) (htl : tl = (T, tuO [.ref TA, .ref TB] 0) :: (TB, tuO lv.reverse 0) :: (TA, tuO fv 0) :: gs.flatten)
    (hf : All2 (PtIn (gs.flatten ++ news)) fv fp) (hv : All2 (PtIn (gs.flatten ++ news)) lv lp) (h1 : heads ps.length ps = fp ++ []) (h2 : tails ps.length ps = lp ++ []) : CutRet news ps tl (.ref T) := by
  obtain ⟨c1, c2⟩ := cut_heads hl
  have up : ∀ v p, PtIn (gs.flatten ++ news) v p → PtIn (tl ++ news) v p := fun v p h => h.mono fun x hx => by
    rw [htl]
    exact .tail _ (.tail _ (.tail _ hx))
  refine ⟨T, TA, TB, 0, rfl, by rw [htl]; exact .head _, ⟨TA, 0, fv, rfl, by rw [htl]; exact .tail _ (.tail _ (.head _)), ?_⟩, ⟨TB, 0, lv.reverse, rfl, by rw [htl]; exact .tail _ (.head _), ?_⟩⟩
  · rw [← c1, h1, List.append_nil]; exact All2.mono up hf
  · rw [← c2, h2, List.append_nil]; exact All2.mono up hv.rev
theorem cmp_ne1 {k : Nat} {n : Nat} (h : n = k + 2) : cmpI .Eq (n : Int) 1 = some false := by
  subst h
  show some (((k + 2 : Nat) : Int) == 1) = some false
  rw [beq_eq_false_iff_ne.mpr (by omega)]
theorem All2.get? {α β : Type} {R : α → β → Prop} : ∀ {l : List α} {m : List β} {i : Nat}, All2 R l m → i < m.length → ∃ a b, l[i]? = some a ∧ m[i]? = some b ∧ R a b
  | a :: _, b :: _, 0, h, _ => ⟨a, b, rfl, rfl, h.1⟩
  | _ :: l, _ :: m, i + 1, h, hi => All2.get? (l := l) (m := m) (i := i) h.2 (Nat.lt_of_succ_lt_succ hi)
  | [], [], _, _, hi => absurd hi (Nat.not_lt_zero _)
  | [], _ :: _, _, x, _ => x.elim
  | _ :: _, [], _, x, _ => x.elim
theorem take_snoc {α : Type} {l : List α} {i : Nat} {a : α} (h : l[i]? = some a) : l.take (i + 1) = l.take i ++ [a] := by
  rw [List.take_add_one, h]
  rfl
theorem halves_con {w : World} {news : Led} {aS : Addr} {vs : List Value} {nS : Nat} {ps : List Pt} (hS : (aS, tupO vs nS) ∈ news) (hv : All2 (PtIn news) vs ps) (hl : ps.length = 3 ∨ ps.length = 4) :
    ConD w 143 news [.ref aS] 6 80 (CutRet news ps) := by
  have hvl : vs.length ≤ 4 := by rw [hv.length]; omega
  refine con_cells ["spots"] (dd := 5) (uu := 77) (by k_is) (by k_is) rfl rfl (by decide +kernel) rfl rfl rfl ?_
  intro L cells Y
  obtain ⟨oc, rfl, dc⟩ := CellsAre.one Y
  clear Y
  refine st_asg3 ?_ rfl rfl rfl
  refine el_cons ?_ rfl
  walk_at "EG"
  repeat' (walk_at "EL")
  refine ek_list (by walk_at "AT") (.inr rfl) (sz (by omega)) (fun D c => ?_)
  refine el_cons ?_ rfl
  walk_at "EG"
  repeat' (walk_at "EL")
  refine ⟨Nat.le_of_ble_eq_true rfl, fun A1 => ?_⟩
  refine el_cons ?_ rfl
  walk_at "EG"
  repeat' (walk_at "EL")
  refine ⟨Nat.le_of_ble_eq_true rfl, fun A2 => ?_⟩
  refine el_nil ⟨_, _, _, rfl, ?_⟩
  refine en_c 3 rfl rfl rfl rfl dc (fun oc2 dc2 => ?_)
  repeat' (walk_at "ST")
  refine st_lo (lo_all ["firsts", "lasts"] [1, 0, 3, 2] [] (by decide)) ?_
  refine st_while (fun k σ => ∃ m D rv fv lv rp fp lp oc gs c1 c2 rc, HJ news A1 A2 (L + 1) ps k m σ D rv fv lv rp fp lp oc gs c1 c2 rc) (i := ps.length - 1)
    ⟨_, D, vs, [], [], ps, [], [], oc2, [[]], 0, 0, c, ⟨rfl, dc2, hv, trivial, trivial, by omega, by show 0 + _ ≤ 3; omega, by show 0 + _ ≤ 3; omega, by rw [show ps.length - 1 + 1 = ps.length by omega]; rfl, by rw [show ps.length - 1 + 1 = ps.length by omega]; rfl⟩⟩ ?_
  rintro k σ ⟨m, D, rv, fv, lv, rp, fp, lp, oc, gs, c1, c2, rc, ⟨rfl, dcell, hrow, hfs, hls, hlen, hfl, hll, hhh, htt⟩⟩
  refine eb_pv ep_bool (fun _ => rfl) ⟨fun _ => ?_, fun h => (nomatch h)⟩
  have hrl := hrow.length
  rcases rv with _ | ⟨r0, rr⟩
  · rw [hlen] at hrl; exact absurd hrl (by simp)
  have hz1 : fv.length ≤ sizeLine := sz (by omega)
  have hz2 : lv.length ≤ sizeLine := sz (by omega)
  walk_at "ST"
  have hfs' : All2 (PtIn (gs.flatten ++ news)) (fv ++ [r0]) (fp ++ [rp.headD (0, 0)]) := hfs.append ⟨hrow.head, trivial⟩
  have hls' : All2 (PtIn (gs.flatten ++ news)) (lv ++ [(r0 :: rr).getLast (by simp)]) (lp ++ [rp.getLastD (0, 0)]) := hls.append ⟨hrow.last, trivial⟩
  refine appv (i := 1) (ep_local rfl rfl rfl rfl) rfl (ep_lneg (by walk_at "EV") (by walk_at "EI") (by walk_at "AT") (by decide) (by decide) (seq_last rr.length) (get_last r0 rr) (by intro _; with_unfolding_all rfl)) hz2 ?_ rfl rfl rfl rfl
  generalize (r0 :: rr).getLast (by simp) = rl at hls'
  rw [List.length_cons, hlen] at hrl
  rcases k with _ | k
  · obtain rfl : rr = [] := List.length_eq_zero_iff.mp (by omega)
    walk_at "ST"
    walk_at "ST"
    walk_at "EG"
    refine el_cons ?_ rfl
    walk_at "EG"
    repeat' (walk_at "EL")
    refine ek_tuple (by walk_at "AT") (by rw [List.length_append]; simp only [List.length_cons, List.length_nil]; omega) (fun TA => ?_)
    refine el_cons ?_ rfl
    walk_at "EG"
    refine el_cons ?_ rfl
    refine eg_slrev (by walk_at "EV") (by walk_at "AT") (by walk_at "EI") (sz (by rw [List.length_append]; simp only [List.length_cons, List.length_nil]; omega)) (fun TR => ?_) (by intro _; exact ⟨_, by with_unfolding_all rfl⟩) (by intro _; with_unfolding_all rfl)
    repeat' (walk_at "EL")
    refine ek_tuple (by walk_at "AT") (by rw [List.length_reverse, List.length_append]; simp only [List.length_cons, List.length_nil]; omega) (fun TB => ?_)
    repeat' (walk_at "EL")
    refine ⟨Nat.le_of_ble_eq_true rfl, fun T => ?_⟩
    exact done_ret _ (cut_done hl rfl hfs' hls' (by rw [hhh, List.append_assoc]; rfl) (by rw [htt, List.append_assoc]; rfl)) rfl (fun _ h => List.mem_append_right _ h)
  · refine st_ifno (by walk_at "EI") (by walk_at "EI") (cmp_ne1 (k := k) (by simp only [List.length_cons]; omega)) (by with_unfolding_all rfl) ?_
    walk_at "ST"
    refine st_setn (eg_comp (ci_range (k := k + 1) (fun i ys σ' => ∃ gs', σ' = ⟨m, [(Str.ofString "firsts", .ref A1), (Str.ofString "lasts", .ref A2)], [(A1, lsO (fv ++ [r0]) (c1 + 1)), (A2, lsO (lv ++ [rl]) (c2 + 1)), (L + 1, oc), (D, lsO (r0 :: rr) rc)], gs' ++ gs, news⟩ ∧ All2 (PtIn ((gs' ++ gs).flatten ++ news)) ys ((mids rp).take i))
      (by walk_at "EV") (by walk_at "EI") ?hk ?hk2 ⟨[], rfl, trivial⟩ ⟨?m, fun _ _ _ _ => trivial, ?turn⟩ ?fin rfl rfl) rfl (by decide) rfl (by decide) rfl (fun _ => rfl)) rfl
    case hk => simp only [List.length_cons]; omega
    case hk2 => omega
    case m => rintro i ys σ ⟨gs', rfl, _⟩; rfl
    case turn =>
      rintro i v ys σ I oI C oC D' m₂ hi ⟨t, rfl⟩ ⟨gs', rfl, hys⟩ hC hx
      obtain ⟨v1, p1, g1, q1, ⟨a1, t1, u1, n1, rfl, m1⟩⟩ := hrow.get? (i := i) (by omega)
      obtain ⟨v2, p2, g2, q2, ⟨a2, t2, u2, n2, rfl, m2⟩⟩ := hrow.get? (i := i + 1) (by omega)
      have up : ∀ x ∈ gs.flatten ++ news, x ∈ (gs' ++ gs).flatten ++ news := fun x h => by
        rw [List.flatten_append, List.append_assoc]
        exact List.mem_append_right _ h
      refine eg_callF (by walk_at "EV") (by k_is) ?_ rfl (fun _ => rfl) rfl
      refine el_v (ep_lst (k := (i : Int)) (by walk_at "EV") (by walk_at "EI") (by walk_at "AT") (Int.natCast_nonneg i) (by rw [Int.toNat_natCast]; exact g1) (by omega) (by intro _; with_unfolding_all rfl) (by intro _; with_unfolding_all rfl)) rfl ?_
      refine el_v (ep_lst (k := (i : Int) + 1) (by walk_at "EV") (by walk_at "EI") (by walk_at "AT") (by omega) (by rw [show ((i : Int) + 1).toNat = i + 1 by omega]; exact g2) (by omega) (by intro _; with_unfolding_all rfl) (by intro _; with_unfolding_all rfl)) rfl ?_
      refine el_nil (ek_con (middle_con (At.fl (up _ m1)).mem (At.fl (up _ m2)).mem) rfl (by decide) (by decide) ?_)
      rintro v tl ⟨a, t', u', n', rfl, rfl⟩
      refine ⟨_, Lo.rfl, [_] :: gs', rfl, ?_⟩
      rw [take_snoc (mids_get q1 q2)]
      exact All2.append (All2.mono (fun _ _ h => h.mono fun x hx => .tail _ hx) hys) ⟨ptm (.head _), trivial⟩
    case fin =>
      rintro ys σ' ⟨gs', rfl, hys⟩
      refine ⟨rfl, fun D' => en_c 3 rfl rfl rfl rfl dcell fun oc' dc' => ?_⟩
      rw [List.take_of_length_le (by rw [mids_len]; omega)] at hys
      have up : ∀ v p, PtIn (gs.flatten ++ news) v p → PtIn (([] :: (gs' ++ gs)).flatten ++ news) v p := fun v p h => h.mono fun x h => by
        rw [List.flatten_cons, List.nil_append, List.flatten_append, List.append_assoc]
        exact List.mem_append_right _ h
      refine st_lo (lo_all ["firsts", "lasts"] [1, 2, 3, 0] [] (by decide)) (st_next ⟨k, Nat.lt_succ_self k, m, D', ys, fv ++ [r0], lv ++ [rl], mids rp, fp ++ [rp.headD (0, 0)], lp ++ [rp.getLastD (0, 0)], oc', [] :: (gs' ++ gs), _, _, _, rfl, dc', hys, All2.mono up hfs', All2.mono up hls', ?_, ?_, ?_, ?_, ?_⟩)
      · rw [mids_len]; omega
      · rw [List.length_append]; simp only [List.length_cons, List.length_nil]; omega
      · rw [List.length_append]; simp only [List.length_cons, List.length_nil]; omega
      · rw [hhh, List.append_assoc]; rfl
      · rw [htt, List.append_assoc]; rfl
end
section
/-- what stands at the head of the loop of flat_spots -/
structure SD where
  lv : List Value
  fv : List Value
  st : List (List Pt × Nat)
  fd : List Pt
  gs : List Led
  c1 : Nat
  c2 : Nat
structure SJ (news : Led) (A1 A2 : Addr) (b : Int) (tb tk : Tok) (K : Nat) (ps : List Pt) (k : Nat) (σ : Sg) (d : SD) : Prop where
  st : ∃ m, σ = ⟨m, [(Str.ofString "left", .ref A1), (Str.ofString "found", .ref A2), (Str.ofString "bound", .int b tb), (Str.ofString "most", .int (K : Int) tk)], [(A1, lsO d.lv d.c1), (A2, lsO d.fv d.c2)], d.gs, news⟩
  left : All2 (ItemIn (d.gs.flatten ++ news)) d.lv d.st
  found : All2 (PtIn (d.gs.flatten ++ news)) d.fv d.fd
  ok : ∀ x ∈ d.st, PsOk x.1 ∧ x.2 ≤ K
  all : d.fd ++ restP b K d.st = fsp b K ps
  wt : wt K d.st = k
theorem SJ.lens {news : Led} {A1 A2 : Addr} {b : Int} {tb tk : Tok} {K : Nat} {ps : List Pt} {k : Nat} {σ : Sg} {d : SD} (J : SJ news A1 A2 b tb tk K ps k σ d) (hK : K ≤ 3) (hk : k ≤ 15) : d.lv.length ≤ 15 ∧ d.fv.length ≤ 8 := by
  refine ⟨by rw [J.left.length]; exact Nat.le_trans (wt_len K _) (J.wt ▸ hk), ?_⟩
  have h := congrArg List.length J.all
  rw [List.length_append] at h
  have h2 := fsp_len b K ps
  have h3 : 2 ^ K ≤ 2 ^ 3 := Nat.pow_le_pow_right (by decide) hK
  rw [J.found.length]
  omega
theorem spots_con {w : World} {news : Led} {aS : Addr} {nS : Nat} {vs : List Value} {ps : List Pt} {b : Int} {K : Nat} {tb tk : Tok}
    (hS : (aS, lsO vs nS) ∈ news) (hv : All2 (PtIn news) vs ps) (ok : PsOk ps) (bb : 0 ≤ b ∧ b ≤ 100) (hK : K ≤ 3) :
    ConD w 150 news [.ref aS, .int b tb, .int (K : Int) tk] 14 200 (SpotsRet news (fsp b K ps)) := by
  refine con_plain ["spots", "bound", "most"] (dd := 13) (uu := 197) (by k_is) (by k_is) rfl rfl rfl rfl rfl (by decide) (fun _ => rfl) ?_
  intro L
  refine st_swap2 ?_ rfl rfl rfl rfl rfl
  walk_at "ST"
  walk_at "ST"
  repeat' (walk_at "EL")
  refine ⟨Nat.le_of_ble_eq_true rfl, fun A2 => ?_⟩
  repeat' (walk_at "ST")
  refine ek_tuple (by walk_at "AT") (by have := hv.length; obtain h | h := ok.1 <;> omega) (fun T => ?_)
  repeat' (walk_at "ST")
  refine ⟨Nat.le_of_ble_eq_true rfl, fun T0 => ?_⟩
  repeat' (walk_at "ST")
  refine ⟨Nat.le_of_ble_eq_true rfl, fun A1 => ?_⟩
  repeat' (walk_at "ST")
  refine ⟨_, _, rfl, ?_⟩
  refine st_lo (lo_all ["left", "found", "bound", "most"] [0, 1] [] (by decide)) ?_
  have hvl := hv.length
  refine st_while (fun k σ => k ≤ 15 ∧ ∃ d, SJ news A1 A2 b tb tk K ps k σ d) (i := wt K [(ps, 0)])
    ⟨?h15, ⟨[.ref T0], [], [(ps, 0)], [], _, 0, 0⟩, ⟨⟨_, rfl⟩, ⟨⟨T0, 0, .ref T, _, rfl, .head _, T, 0, vs, rfl, .tail _ (.head _), All2.mono (fun _ _ q => q.mono fun x hx => .tail _ (.tail _ hx)) hv⟩, trivial⟩, trivial, ?hok, ?hall, rfl⟩⟩ ?turn
  case h15 =>
    show 2 ^ (K - 0 + 1) - 1 + 0 ≤ 15
    have : 2 ^ (K - 0 + 1) ≤ 2 ^ 4 := Nat.pow_le_pow_right (by decide) (by omega)
    omega
  case hok =>
    intro x hx
    rw [List.mem_singleton.mp hx]
    exact ⟨ok, Nat.zero_le _⟩
  case hall => show [] ++ ([] ++ fsp b (K - 0) ps) = fsp b K ps; simp
  rintro k σ ⟨hk, ⟨lv, fv, st, fd, gs, c1, c2⟩, J⟩
  obtain ⟨len1, len2⟩ := J.lens hK hk
  obtain ⟨⟨m, rfl⟩, hL, hF, hok, hall, hwt⟩ := J
  dsimp only at hL hF hok hall hwt len1 len2 ⊢
  refine eb_ne0 (by walk_at "EV") (by walk_at "AT") rfl ⟨fun h => ?_, fun h => ?_⟩ rfl
  rotate_left
  · have hlv : lv = [] := by simpa using h
    subst hlv
    rcases st with _ | ⟨_, _⟩
    · walk_at "ST"
      refine done_ret ((A2, lsO fv c2) :: gs.flatten) ⟨A2, c2, fv, rfl, .head _, ?_⟩ rfl (fun p hp => ?_)
      · rw [← hall]
        show All2 _ fv (fd ++ [])
        rw [List.append_nil]
        exact All2.mono (fun _ _ q => q.mono fun x hx => .tail _ hx) hF
      · rcases List.mem_cons.mp hp with rfl | hp
        · exact List.mem_append_left _ (.tail _ (.head _))
        · exact List.mem_append_right _ hp
    · exact hL.elim
  rcases List.eq_nil_or_concat lv with rfl | ⟨xs, v, rfl⟩
  · simp at h
  clear h
  rw [List.concat_eq_append] at *
  obtain ⟨st', ⟨ps', d⟩, rfl, hL', ⟨ai, ni, tv, ti, rfl, mi, ⟨ah, nh, vs', rfl, mh, hv'⟩⟩⟩ := All2.snoc hL
  obtain ⟨⟨ok1, ok2⟩, hd⟩ := hok (ps', d) (List.mem_append_right _ (List.mem_singleton.mpr rfl))
  dsimp only at mi mh hv' ok1 ok2 hd
  have okP : PsOk ps' := ⟨ok1, ok2⟩
  rw [List.length_append, List.length_singleton] at len1
  refine st_unpack2 (eg_lmeth0 (by walk_at "EV") (At.mu 0 rfl) PySem.F.slot_list_pop PySem.F.type_list_pop (ek_pop (i := 0) rfl (by omega) ⟨ai, .ref ah, .int (d : Int) ti, ni, rfl, At.fl mi, ?_⟩) rfl) rfl rfl rfl
  walk_at "ST"
  walk_at "ST"
  have hvl' := hv'.length
  obtain ⟨r0, rr, rfl⟩ : ∃ r0 rr, vs' = r0 :: rr := by
    rcases vs' with _ | ⟨a, r⟩
    · exfalso; rw [List.length_nil] at hvl'; omega
    · exact ⟨_, _, rfl⟩
  refine st_ifB (decide ((d : Int) ≥ (K : Int)) || flatB b ps') (eb_or (eb_cmp (by walk_at "EI") (by walk_at "EI") rfl (by with_unfolding_all rfl) ?_)) (fun hB => ?_) (fun hB => ?_)
  · by_cases c : (d : Int) ≥ (K : Int)
    · rw [decide_eq_true c, if_pos rfl]
      exact ⟨rfl, Lo.rfl⟩
    · rw [decide_eq_false c, if_neg (by decide)]
      refine eb_or (eb_plain ?_ (fun _ => rfl))
      walk_at "EG"
      repeat' (walk_at "EL")
      refine ek_con (flat_con (At.fl mh).mem (All2.mono (fun _ _ q => q.mono fun x hx => List.mem_append_right _ hx) hv') ok1 ok2 bb) rfl (by decide) (by decide) ?_
      rintro v tl ⟨rfl, rfl⟩
      refine ⟨_, rfl, ?_⟩
      rw [Bool.false_or]
      cases flatB b ps' with
      | true => exact ⟨rfl, lo_app0⟩
      | false => exact eb_or0 ⟨rfl, lo_app0⟩
  · have hl : fsp b (K - d) ps' = [lastP ps'] := by
      rw [Bool.or_eq_true, decide_eq_true_iff] at hB
      rcases hB with h | h
      · exact leaf_deep h
      · exact leaf_flat h
    refine appv (i := 1) (by walk_at "EV") rfl (ep_tup (by walk_at "EV") (by walk_at "EI") (by walk_at "AT") (seq_last rr.length) (get_last r0 rr) (by decide) (by decide) (by intro _; with_unfolding_all rfl)) (sz (by omega)) ?_ rfl rfl rfl rfl
    refine st_next (st_lo (lo_all ["left", "found", "bound", "most"] [0, 1] [] (by decide)) (st_next ⟨wt K st', ?_, ?_, ⟨xs, fv ++ [_], st', fd ++ [lastP ps'], [] :: gs, _, _⟩, ⟨_, rfl⟩, hL', hF.append ⟨hv'.last, trivial⟩, fun x hx => hok x (List.mem_append_left _ hx), ?_, rfl⟩))
    · rw [← hwt, wt_snoc]
      have := Nat.one_le_two_pow (n := K - d)
      rw [Nat.pow_succ]; dsimp only; omega
    · rw [wt_snoc] at hwt; omega
    · rw [restP_snoc] at hall
      dsimp only at hall
      rw [hl] at hall
      rw [List.append_assoc]; exact hall
  · rw [Bool.or_eq_false_iff, decide_eq_false_iff_not] at hB
    obtain ⟨hd2, hfl⟩ := hB
    have hdK : d + 1 ≤ K := by omega
    obtain ⟨ok3, ok4⟩ := okP.cut
    refine st_unpack2 ?_ rfl rfl rfl
    walk_at "EG"
    repeat' (walk_at "EL")
    refine ek_con (halves_con (At.fl mh).mem (All2.mono (fun _ _ q => q.mono fun x hx => List.mem_append_right _ hx) hv') ok1) rfl (by decide) (by decide) ?_
    rintro v tl ⟨TT, TA, TB, nT, rfl, mT, tA, tB⟩
    have off : ∀ x ∈ tl ++ ([(A1, lsO xs (c1 + 1)), (A2, lsO fv c2)] ++ (gs.flatten ++ news)), x ∈ tl ++ (gs.flatten ++ news) ∨ x.2.cls = .type "list" := fun x hx => by
      rcases List.mem_append.mp hx with h | h
      · exact .inl (List.mem_append_left _ h)
      · rcases List.mem_append.mp h with h | h
        · rcases List.mem_cons.mp h with rfl | h
          · exact .inr rfl
          · rw [List.mem_singleton.mp h]; exact .inr rfl
        · exact .inl (List.mem_append_right _ h)
    replace tA := tA.off off
    replace tB := tB.off off
    refine ⟨TT, _, _, nT, rfl, At.ow 0 _ rfl mT, ?_⟩
    walk_at "ST"
    walk_at "ST"
    refine st_append (by walk_at "EV") (At.mu 0 rfl) ?_ rfl rfl rfl rfl
    repeat' (walk_at "ST")
    refine ⟨Nat.le_of_ble_eq_true rfl, fun D2 => ⟨0, _, _, rfl, sz (by omega), ?_⟩⟩
    refine st_append (by walk_at "EV") (At.mu 0 rfl) ?_ rfl rfl rfl rfl
    repeat' (walk_at "ST")
    refine ⟨Nat.le_of_ble_eq_true rfl, fun D1 => ⟨0, _, _, rfl, sz (by rw [List.length_append, List.length_singleton]; omega), ?_⟩⟩
    have e2 : 2 ^ (K - d + 1) = 2 * 2 ^ (K - (d + 1) + 1) := by rw [show K - (d + 1) + 1 = K - d by omega, Nat.pow_succ]; omega
    have lt : wt K (st' ++ [((cut ps').2, d + 1)] ++ [((cut ps').1, d + 1)]) < wt K (st' ++ [(ps', d)]) := by
      rw [wt_snoc, wt_snoc, wt_snoc]
      have := Nat.one_le_two_pow (n := K - (d + 1) + 1)
      dsimp only
      omega
    have up : ∀ (y1 y2 : Addr × Obj), ∀ x ∈ tl ++ (gs.flatten ++ news), x ∈ ([] :: [y1] :: [y2] :: tl :: gs).flatten ++ news := fun y1 y2 x hx => .tail _ (.tail _ (by
      show x ∈ (tl ++ gs.flatten) ++ news
      rw [List.append_assoc]; exact hx))
    have up2 : ∀ (y1 y2 : Addr × Obj), ∀ x ∈ gs.flatten ++ news, x ∈ ([] :: [y1] :: [y2] :: tl :: gs).flatten ++ news := fun y1 y2 x hx => up y1 y2 x (List.mem_append_right _ hx)
    refine st_next (st_lo (lo_all ["left", "found", "bound", "most"] [0, 1] [] (by decide)) (st_next ⟨_, hwt ▸ lt, ?_, ⟨_, fv, st' ++ [((cut ps').2, d + 1)] ++ [((cut ps').1, d + 1)], fd, [] :: [_] :: [_] :: tl :: gs, _, _⟩, ⟨_, rfl⟩,
      All2.append (All2.append (All2.mono (fun _ _ q => q.mono (up2 _ _)) hL') ⟨⟨D2, 0, .ref TB, _, rfl, .tail _ (.head _), tB.mono (up _ _)⟩, trivial⟩) ⟨⟨D1, 0, .ref TA, _, rfl, .head _, tA.mono (up _ _)⟩, trivial⟩, All2.mono (fun _ _ q => q.mono (up2 _ _)) hF, ?_, ?_, rfl⟩))
    · exact Nat.le_of_lt (Nat.lt_of_lt_of_le lt (by rw [hwt]; exact hk))
    · intro x hx
      rcases List.mem_append.mp hx with hx | hx
      · rcases List.mem_append.mp hx with hx | hx
        · exact hok x (List.mem_append_left _ hx)
        · rw [List.mem_singleton.mp hx]; exact ⟨ok4, hdK⟩
      · rw [List.mem_singleton.mp hx]; exact ⟨ok3, hdK⟩
    · rw [restP_snoc] at hall
      dsimp only at hall
      obtain ⟨j, hj⟩ : ∃ j, K - d = j + 1 := ⟨K - d - 1, by omega⟩
      rw [hj, fsp, if_neg (by rw [hfl]; decide)] at hall
      show fd ++ restP b K (st' ++ [((cut ps').2, d + 1)] ++ [((cut ps').1, d + 1)]) = _
      rw [restP_snoc, restP_snoc]
      dsimp only
      rw [show K - (d + 1) = j by omega, ← hall, List.append_assoc]
end
section
section
variable {prog : Program} {w : World} {A : Around} {E : Value → Shared → Prop} {s : Shared} {h₀ : Heap} {L : Addr} {m : Str → Option Value}

theorem comp_loop {elt target iter : PySem.Expr} {ifs : List PySem.Expr} {scope : Scope} {pos : Pos} {it acc : Value} {env : Env} {R : Result → Shared → Prop} (I : Nat → Shared → Prop)
    (turn : ∀ n s, I n s → ∀ E', wpAny (model prog w) A (pyNext it) (fun r s₁ => match r with
      | none => R (.ok .next) s₁
      | some v => wpAny (model prog w) A (letOwnedTupleGo target it v) (fun _ s₁' => wpAny (model prog w) A (assign target env v) (fun _ s₂ =>
          wpAny (model prog w) A (forIn ifs true fun c r => if r = true then do let ok ← isTrue c env (eval c env); pure (ForInStep.yield ok) else pure (ForInStep.yield r)) (fun ok s₃ =>
            if ok = true then wpAny (model prog w) A (eval elt env) (fun x s₄ =>
              wpAny (model prog w) A (call (.builtin "list.append") [acc, x]) (fun _ s₅ => ∃ m, m < n ∧ I m s₅) E' s₄) E' s₃
            else ∃ m, m < n ∧ I m s₃) E' s₂) E' s₁') E' s₁) E' s)
    (n : Nat) (h : I n s) :
    codeAny (model prog w) A (.compLoop (.ListComp elt [⟨target, iter, ifs, 0⟩] scope pos) 0 it acc env) R s := by
  refine codeAny_loop rfl I (fun n s hI => ?_) n h
  show wpAny _ A ((compTurn (.ListComp elt [⟨target, iter, ifs, 0⟩] scope pos) 0 it acc env).onRaise (fun x => do noteFrame x env; theTreesLotGoes x)) _ _ s
  refine wpAny_noted ?_
  rw [compTurn_list]
  refine wpAny_bind (wpAny_standAt (wpAny_bind (wpAny_mono (turn n s hI _) (fun r s₁ h₁ => ?_) fun _ _ h' => h')))
  cases r with
  | none => exact wpAny_pure h₁
  | some v =>
    refine wpAny_bind (wpAny_mono h₁ (fun _ s₁' h₁' => ?_) fun _ _ h' => h')
    refine wpAny_bind (wpAny_mono h₁' (fun _ s₂ h₂ => wpAny_bind (wpAny_mono h₂ (fun ok s₃ h₃ => ?_) fun _ _ h' => h')) fun _ _ h' => h')
    cases ok with
    | false => exact wpAny_pure ⟨rfl, h₃⟩
    | true =>
      exact wpAny_bind (wpAny_bind (wpAny_mono h₃ (fun x s₄ h₄ => wpAny_bind (wpAny_mono h₄ (fun _ s₅ h₅ => wpAny_pure (wpAny_pure ⟨rfl, h₅⟩)) fun _ _ h' => h')) fun _ _ h' => h'))

/-- the end of a turn's element (or of a test that failed): objects `new` made, nothing else changed -/
noncomputable def BEnd (h₀ : Heap) (L : Addr) (m : Str → Option Value) (s₀ : Shared) (led : Led) (K : Led → Value → Prop) (x : Value) (s₄ : Shared) : Prop :=
  ∃ h' tk new, s₄ = { s₀ with heap := h', toks := tk } ∧ Fr h₀ L h' m ∧ News h₀ L h' (new ++ led) ∧ (∀ p ∈ new, ∀ q ∈ led, q.1 ≠ p.1) ∧ K new x
noncomputable def BStep (prog : Program) (w : World) (A : Around) (h₀ : Heap) (L : Addr) (m : Str → Option Value) (elt : PySem.Expr) (ifs : List PySem.Expr) (cenv : Env) (s : Shared) (D : Addr) (Hs : Nat → Value → Led → Prop) (J : Nat → List Value → Led → Prop) (n : Nat) : Prop :=
  ∀ i v ys news frm own h tk (E' : Value → Shared → Prop), i < n → J i ys news → Hs i v frm → Fr h₀ L h m → News h₀ L h (own ++ (D, LCg.lst ys) :: (frm ++ news)) →
    wpAny (model prog w) A (forIn ifs true fun c r => if r = true then do let ok ← isTrue c cenv (eval c cenv); pure (ForInStep.yield ok) else pure (ForInStep.yield r)) (fun ok s₃ =>
      if ok = true then wpAny (model prog w) A (eval elt cenv) (BEnd h₀ L m { s with heap := h, toks := tk } (own ++ (D, LCg.lst ys) :: (frm ++ news)) (fun new x => J (i + 1) (ys ++ [x]) (new ++ news))) E' s₃
      else BEnd h₀ L m { s with heap := h, toks := tk } (own ++ (D, LCg.lst ys) :: (frm ++ news)) (fun new _ => J (i + 1) ys (new ++ news)) .none s₃) E' { s with heap := h, toks := tk }

theorem blk {elt target iter : PySem.Expr} {ifs : List PySem.Expr} {scope : Scope} {pos : Pos} {cenv : Env} {R : Result → Shared → Prop} {I D : Addr} {fp wr adr : List Addr} {n : Nat} {P Md : Nat → Value → Heap → Prop} {St : Nat → Heap → Prop} {Fq : Led → Prop} {Hs : Nat → Value → Led → Prop} {J : Nat → List Value → Led → Prop} {frm₀ news₀ : Led}
    (W : KTurns prog w A target I fp wr n P Md St) (hsz : n ≤ sizeLine) (hIo : ∀ i h, St i h → ∀ b ∈ wr, ∃ o, h.get? b = some o) (hwr : ∀ b ∈ wr, h₀.get? b = none)
    (hLf : L ∉ fp) (hDL : D ≠ L) (hD₀ : h₀.get? D = none) (hDf : D ∉ fp) (ha₀ : ∀ b ∈ adr, h₀.get? b = none) (haL : L ∉ adr) (haD : D ∉ adr) (haf : ∀ b ∈ adr, b ∉ fp) (hF : ∀ frm, Fq frm → frm.map (·.1) = adr)
    (hassign : ∀ i v ys news frm (s' : Shared) (Q : Unit → Shared → Prop) (E' : Value → Shared → Prop), i < n → P i v s'.heap → Fq frm → J i ys news → News h₀ L s'.heap ((D, LCg.lst ys) :: (frm ++ news)) →
      (∀ h' tk frm', Fq frm' → Hs i v frm' → (∀ p ∈ frm', h'.get? p.1 = some p.2) → (∀ b o, b ∉ adr → s'.heap.get? b = some o → h'.get? b = some o) → Q () { s' with heap := h', toks := tk }) →
      wpAny (model prog w) A (assign target cenv v) Q E' s')
    (step : BStep prog w A h₀ L m elt ifs cenv s D Hs J n)
    (hst : St 0 s.heap) (F : Fr h₀ L s.heap m) (N : News h₀ L s.heap ((D, LCg.lst []) :: (frm₀ ++ news₀))) (hq : Fq frm₀) (hJ : J 0 [] news₀) (off : ∀ p ∈ news₀, p.1 ∉ wr ∧ p.1 ≠ D ∧ p.1 ∉ adr)
    (hR : ∀ h tk ys news frm, Fr h₀ L h m → News h₀ L h ((D, LCg.lst ys) :: (frm ++ news)) → Fq frm → J n ys news → (∀ p ∈ news, p.1 ∉ wr ∧ p.1 ≠ D ∧ p.1 ∉ adr) → R (.ok .next) { s with heap := h, toks := tk }) :
    codeAny (model prog w) A (.compLoop (.ListComp elt [⟨target, iter, ifs, 0⟩] scope pos) 0 (.ref I) (.ref D) cenv) R s := by
  have hDw : D ∉ wr := fun h => hDf (W.sub _ h)
  have hLw : L ∉ wr := fun h => hLf (W.sub _ h)
  have haw : ∀ b ∈ adr, b ∉ wr := fun b hb h => haf b hb (W.sub _ h)
  have old : ∀ b o, h₀.get? b = some o → b ∉ wr := fun b o e hb => by rw [hwr b hb] at e; cases e
  have olda : ∀ b o, h₀.get? b = some o → b ∉ adr := fun b o e hb => by rw [ha₀ b hb] at e; cases e
  have inF : ∀ frm, Fq frm → ∀ p ∈ frm, p.1 ∈ adr := fun frm hf p hp => by rw [← hF frm hf]; exact List.mem_map_of_mem hp
  refine comp_loop (fun k s' => ∃ h' tk i ys frm news, s' = { s with heap := h', toks := tk } ∧ i ≤ n ∧ k = n + 1 - i ∧ ys.length ≤ i ∧ St i h' ∧ Fr h₀ L h' m ∧ News h₀ L h' ((D, LCg.lst ys) :: (frm ++ news)) ∧ Fq frm ∧ (∀ p ∈ news, p.1 ∉ wr ∧ p.1 ≠ D ∧ p.1 ∉ adr) ∧ J i ys news) ?_ (n + 1)
    ⟨s.heap, s.toks, 0, [], frm₀, news₀, rfl, Nat.zero_le _, rfl, Nat.le_refl _, hst, F, N, hq, off, hJ⟩
  rintro k s' ⟨h', tk, i, ys, frm, news, rfl, hi, rfl, hyl, hst', F', N', hq', off', hJ'⟩ E'
  -- what keeps all but wr
  have nextW : ∀ h₁ : Heap, (∀ b o, b ∉ wr → h'.get? b = some o → h₁.get? b = some o) → Fr h₀ L h₁ m ∧ News h₀ L h₁ ((D, LCg.lst ys) :: (frm ++ news)) := fun h₁ hk₁ =>
    ⟨⟨F'.ns.at' fun o e => hk₁ _ o hLw e, fun b o e => hk₁ b o (old b o e) (F'.keep b o e), F'.above⟩, fun p hp => ⟨hk₁ _ _ (by
      rcases List.mem_cons.mp hp with rfl | hp
      · exact hDw
      · rcases List.mem_append.mp hp with hp | hp
        · exact haw _ (inF frm hq' p hp)
        · exact (off' p hp).1) (N' p hp).1, (N' p hp).2⟩⟩
  by_cases hlt : i < n
  · refine W.item i _ _ _ hlt hst' fun v h₁ tk₁ hMd hk₁ => ?_
    refine W.go i v _ _ _ hMd fun h₂ hP hst₂ hk₂ => ?_
    have hk₁₂ : ∀ b o, b ∉ wr → h'.get? b = some o → h₂.get? b = some o := fun b o hb x => hk₂ b o hb (hk₁ b o hb x)
    obtain ⟨F₂, N₂⟩ := nextW h₂ hk₁₂
    refine hassign i v ys news frm _ _ _ hlt hP hq' hJ' N₂ fun h₃ tk₃ frm₃ hq₃ hHs hf₃ hk₃ => ?_
    have F₃ : Fr h₀ L h₃ m := ⟨F₂.ns.at' fun o e => hk₃ _ o haL e, fun b o e => hk₃ b o (olda b o e) (F₂.keep b o e), F₂.above⟩
    have hst₃ : St (i + 1) h₃ := W.frame _ _ _ hst₂ fun b hb o e => hk₃ b o (fun q => haf b q hb) e
    have Nown : News h₀ L h₃ (PyProof.Rows.ownOf h₀ fp h₃) := news_ownOf hLf
    have N₃ : News h₀ L h₃ (PyProof.Rows.ownOf h₀ fp h₃ ++ (D, LCg.lst ys) :: (frm₃ ++ news)) := by
      intro p hp
      rcases List.mem_append.mp hp with hp | hp
      · exact Nown p hp
      · rcases List.mem_cons.mp hp with rfl | hp
        · exact ⟨hk₃ _ _ haD (N₂ _ (List.mem_cons_self)).1, hDL, hD₀⟩
        · rcases List.mem_append.mp hp with hp | hp
          · have hpa := inF frm₃ hq₃ p hp
            exact ⟨hf₃ p hp, fun e => haL (e ▸ hpa), ha₀ _ hpa⟩
          · have z := N₂ p (List.mem_cons_of_mem _ (List.mem_append_right _ hp))
            exact ⟨hk₃ _ _ (off' p hp).2.2 z.1, z.2⟩
    -- what a turn's end gives
    have fin : ∀ (K : Led → Value → Prop) x s₄, BEnd h₀ L m { s with heap := h₃, toks := tk₃ } (PyProof.Rows.ownOf h₀ fp h₃ ++ (D, LCg.lst ys) :: (frm₃ ++ news)) K x s₄ →
        ∃ h₄ tk₄ new, s₄ = { s with heap := h₄, toks := tk₄ } ∧ Fr h₀ L h₄ m ∧ News h₀ L h₄ ((D, LCg.lst ys) :: (frm₃ ++ (new ++ news))) ∧ St (i + 1) h₄ ∧ (∀ p ∈ new ++ news, p.1 ∉ wr ∧ p.1 ≠ D ∧ p.1 ∉ adr) ∧ K new x := by
      rintro K x s₄ ⟨h₄, tk₄, new, rfl, F₄, N₄, ab, hK⟩
      refine ⟨h₄, tk₄, new, rfl, F₄, fun p hp => N₄ p ?_, W.frame _ _ _ hst₃ fun b hb o e => ?_, ?_, hK⟩
      · simp only [List.mem_cons, List.mem_append] at hp ⊢
        rcases hp with h | h | h | h
        · exact .inr (.inr (.inl h))
        · exact .inr (.inr (.inr (.inl h)))
        · exact .inl h
        · exact .inr (.inr (.inr (.inr h)))
      · cases hn : h₀.get? b with
        | some o₀ =>
          have : o₀ = o := by have q := F₃.keep b o₀ hn; rw [e] at q; exact (Option.some.inj q).symm
          exact this ▸ F₄.keep b o₀ hn
        | none => exact (N₄ _ (List.mem_append_right _ (List.mem_append_left _ (mem_ownOf hb hn e)))).1
      · intro p hp
        rcases List.mem_append.mp hp with hp | hp
        · have a := ab p hp
          refine ⟨fun hw => ?_, fun hw => ?_, fun hw => ?_⟩
          · obtain ⟨o, ho⟩ := hIo _ _ hst₃ _ hw
            exact a (p.1, o) (List.mem_append_left _ (mem_ownOf (W.sub _ hw) (hwr _ hw) ho)) rfl
          · exact a (D, LCg.lst ys) (List.mem_append_right _ List.mem_cons_self) hw.symm
          · rw [← hF frm₃ hq₃] at hw
            obtain ⟨q, hq, e⟩ := List.mem_map.mp hw
            exact a q (List.mem_append_right _ (List.mem_cons_of_mem _ (List.mem_append_left _ hq))) e
        · exact off' p hp
    refine wpAny_mono (step i v ys news frm₃ _ h₃ tk₃ E' hlt hJ' hHs F₃ N₃) (fun ok s₃ h₃' => ?_) fun _ _ e => e
    cases ok with
    | false =>
      simp only [Bool.false_eq_true, if_false] at h₃' ⊢
      obtain ⟨h₄, tk₄, new, rfl, F₄, N₄, hst₄, off₄, hJ₄⟩ := fin _ _ _ h₃'
      exact ⟨n + 1 - (i + 1), by omega, h₄, tk₄, i + 1, ys, frm₃, new ++ news, rfl, hlt, rfl, by omega, hst₄, F₄, N₄, hq₃, off₄, hJ₄⟩
    | true =>
      simp only [if_true] at h₃' ⊢
      refine wpAny_mono h₃' (fun x s₄ h₄' => ?_) fun _ _ e => e
      obtain ⟨h₄, tk₄, new, rfl, F₄, N₄, hst₄, off₄, hJ₄⟩ := fin _ _ _ h₄'
      refine append_at (hsz := by show ys.toArray.size ≤ sizeLine; rw [List.size_toArray]; omega) (N₄ _ List.mem_cons_self).1 fun h₅ hs₅ hD₅ => ?_
      refine ⟨n + 1 - (i + 1), by omega, h₅, tk₄, i + 1, ys ++ [x], frm₃, new ++ news, rfl, hlt, rfl, by rw [List.length_append, List.length_singleton]; omega, W.frame _ _ _ hst₄ fun b hb o e => hs₅.extBut b o (fun q => hDf (q ▸ hb)) e, F₄.change hs₅ hDL hD₀, fun p hp => ?_, hq₃, off₄, hJ₄⟩
      rcases List.mem_cons.mp hp with rfl | hp'
      · exact ⟨hD₅.trans (congrArg some (LCg.lst_snoc ys x)), hDL, hD₀⟩
      · have z := N₄ p (List.mem_cons_of_mem _ hp')
        refine ⟨hs₅.extBut _ _ ?_ z.1, z.2⟩
        rcases List.mem_append.mp hp' with hp' | hp'
        · intro e
          have := inF frm₃ hq₃ p hp'
          rw [e] at this
          exact haD this
        · exact (off₄ p hp').2.1
  · obtain rfl : i = n := Nat.le_antisymm hi (Nat.not_lt.mp hlt)
    refine W.done _ _ _ hst' fun h₁ tk₁ hk₁ => ?_
    obtain ⟨F₁, N₁⟩ := nextW h₁ hk₁
    exact hR h₁ tk₁ ys news frm F₁ N₁ hq' hJ' off'

theorem fresh_of {h h₀ : Heap} {m : Str → Option Value} (F : Fr h₀ L h m) : ∀ a, h.objs.size ≤ a → h₀.get? a = none := fun a ha => by
  cases e : h₀.get? a with
  | none => rfl
  | some o' => exact absurd (Heap.lt_size (F.keep a o' e)) (Nat.not_lt.mpr ha)
/-- the block's ground, no cells of its own -/
theorem blk_start {elt target iter : PySem.Expr} {ifs : List PySem.Expr} {scope : Scope} {pos : Pos} {env : Env} {cl : List (Str × Addr)} {I : Addr} {base : Led} {s₂ : Shared} {RR : Value → Addr → Result → Shared → Prop} {Stt : Heap → Prop}
    (hcell : ∀ y ∈ scope.names, y.2 ≠ .cell) (hkind : scope.kind = .function) (hst : Stt s₂.heap) (hsk : ∀ h h' : Heap, Stt h → (∀ b o, h.get? b = some o → h'.get? b = some o) → Stt h')
    (hself : ∀ (s' : Shared) (Q : Value → Shared → Prop) (E' : Value → Shared → Prop), Stt s'.heap → Q (.ref I) s' → wpAny (model prog w) A (pyIter (.ref I)) Q E' s')
    (F : Fr h₀ L s₂.heap m) (N : News h₀ L s₂.heap base)
    (cont : ∀ C h₁ tk oC m', @LT.lt Nat _ s₂.heap.objs.size C → Stt h₁ → Fr h₀ L h₁ m → News h₀ L h₁ ((s₂.heap.objs.size, LCg.lst []) :: ([(C, oC)] ++ base)) → LCg.NsObj oC m' → h₀.get? C = none → C ≠ L →
      codeAny (model prog w) A (.compLoop (.ListComp elt [⟨target, iter, ifs, 0⟩] scope pos) 0 (.ref I) (.ref s₂.heap.objs.size) (compEnvC scope cl C env)) (RR (.ref s₂.heap.objs.size) C) { s₂ with heap := h₁, toks := tk }) :
    wpAny (model prog w) A (newList []) (fun acc s₃ => wpAny (model prog w) A (newFunctionEnv scope env.globals cl [] env.qual none .none (some env)) (fun cenv s₄ =>
      codeAny (model prog w) A (.compStart (.ListComp elt [⟨target, iter, ifs, 0⟩] scope pos) 0 (.ref I) acc { cenv with scope := relabel scope env }) (RR acc cenv.locals) s₄) E s₃) E s₂ := by
  refine wpAny_newObj_type (wpAny_newFunctionEnv hcell (by intro y hy; simp at hy) (fun h₁ hns₁ hsb₁ => ?_) hkind)
  dsimp only at hns₁ hsb₁ ⊢
  generalize hH2 : s₂.heap.push { cls := .type "list", dict := none, data := .seq ([] : List Value).toArray } = H2 at hns₁ hsb₁ ⊢
  have hC : H2.objs.size = s₂.heap.objs.size + 1 := by rw [← hH2, Heap.size_push]
  have old : ∀ b o, s₂.heap.get? b = some o → h₁.get? b = some o := fun b o e => hsb₁.extBut b o (by rw [hC]; exact Nat.ne_of_lt (Nat.lt_succ_of_lt (Heap.lt_size e))) (Heap.get?_push_of_some _ (hH2 ▸ Heap.get?_push_of_some _ e))
  have hDC : s₂.heap.objs.size ≠ H2.objs.size := by rw [hC]; exact Nat.ne_of_lt (Nat.lt_succ_self _)
  have hacc : h₁.get? s₂.heap.objs.size = some (LCg.lst []) := hsb₁.extBut _ _ hDC (Heap.get?_push_of_some _ (hH2 ▸ Heap.get?_push_size _ rfl))
  have hst₁ := hsk _ _ hst old
  obtain ⟨oC, heC, hoC⟩ := LCg.ns_obj hns₁
  have hLlt : @LT.lt Nat _ L s₂.heap.objs.size := F.ns.lt
  have hD₀ := fresh_of F s₂.heap.objs.size (Nat.le_refl _)
  have hC₀ := fresh_of F H2.objs.size (by rw [hC]; exact Nat.le_succ _)
  have c := cont H2.objs.size h₁ (s₂.toks + ([] : List (Str × Value)).length) oC _ (by rw [hC]; exact Nat.lt_succ_self _) hst₁ (F.keeps old) (fun p hp => by
    rcases List.mem_cons.mp hp with rfl | hp
    · exact ⟨hacc, Nat.ne_of_gt hLlt, hD₀⟩
    · rcases List.mem_cons.mp hp with rfl | hp
      · exact ⟨heC, Nat.ne_of_gt (by rw [hC]; exact Nat.lt_succ_of_lt hLlt), hC₀⟩
      · exact ⟨old _ _ (N p hp).1, (N p hp).2⟩) hoC hC₀ (Nat.ne_of_gt (by rw [hC]; exact Nat.lt_succ_of_lt hLlt))
  exact codeAny_compStart_list c (hself _ _ _ hst₁ c)

noncomputable def PairIn (led : Led) (v : Value) (pr : Value × Value) : Prop := ∃ T n, v = .ref T ∧ (T, ({ cls := .type "tuple", data := .seq #[pr.1, pr.2] n } : Obj)) ∈ led
theorem All2.get {α β : Type} {R : α → β → Prop} : ∀ {l : List α} {k : List β} {i : Nat} {a : α}, All2 R l k → l[i]? = some a → ∃ b, k[i]? = some b ∧ R a b
  | [], [], _, _, _, h => by simp at h
  | x :: l, y :: k, 0, a, r, h => by
    have e : x = a := by simpa using h
    exact ⟨y, rfl, e ▸ r.1⟩
  | x :: l, y :: k, i + 1, a, r, h => by
    obtain ⟨b, e, q⟩ := All2.get (l := l) (k := k) (i := i) r.2 (by simpa using h)
    exact ⟨b, by simpa using e, q⟩
  | [], _ :: _, _, _, r, _ => r.elim
  | _ :: _, [], _, _, r, _ => r.elim
section
variable {env : Env} {elt iter : PySem.Expr} {ifs : List PySem.Expr} {x x₂ : Str} {px px₂ tp pos : Pos} {kk : Nat} {scope : Scope} {cl : List (Str × Addr)}
noncomputable abbrev pairBody (prog : Program) (w : World) (A : Around) (E : Value → Shared → Prop) (elt target iter : PySem.Expr) (ifs : List PySem.Expr) (scope : Scope) (pos : Pos) (env : Env) (cl : List (Str × Addr)) (RR : Value → Addr → Result → Shared → Prop) (it : Value) (s₂ : Shared) : Prop :=
  wpAny (model prog w) A (newList []) (fun acc s₃ => wpAny (model prog w) A (newFunctionEnv scope env.globals cl [] env.qual none .none (some env)) (fun cenv s₄ =>
      codeAny (model prog w) A (.compStart (.ListComp elt [⟨target, iter, ifs, 0⟩] scope pos) 0 it acc { cenv with scope := relabel scope env }) (RR acc cenv.locals) s₄) E s₃) E s₂
theorem pair_core {RR : Value → Addr → Result → Shared → Prop} {ax k : _} {its : List Value} {prs : List (Value × Value)} {base : Led} {J : Nat → List Value → Prop}
    (hcell : ∀ y ∈ scope.names, y.2 ≠ .cell) (hkind : scope.kind = .function) (hx : scope.names.lookup x = some .local) (hx₂ : scope.names.lookup x₂ = some .local) (hxx : x ≠ x₂)
    (hh : A.handled = none) (F : Fr h₀ L s.heap m) (N : News h₀ L s.heap base) (hm : (ax, ({ cls := .type "list", data := .seq (List.toArray its) k } : Obj)) ∈ base) (hp : All2 (PairIn base) its prs) (hsz : its.length ≤ sizeLine) (hJ : J 0 [])
    (step : ∀ i v₁ v₂ ys oC m₂ own C D h tk (E' : Value → Shared → Prop), prs[i]? = some (v₁, v₂) → J i ys → LCg.NsObj oC m₂ → m₂ x = some v₁ → m₂ x₂ = some v₂ → Fr h₀ L h m → News h₀ L h (own ++ (D, LCg.lst ys) :: (C, oC) :: base) →
      wpAny (model prog w) A (forIn ifs true fun c r => if r = true then do let ok ← isTrue c (compEnvC scope cl C env) (eval c (compEnvC scope cl C env)); pure (ForInStep.yield ok) else pure (ForInStep.yield r)) (fun ok s₃ =>
        if ok = true then wpAny (model prog w) A (eval elt (compEnvC scope cl C env)) (BEnd h₀ L m { s with heap := h, toks := tk } (own ++ (D, LCg.lst ys) :: (C, oC) :: base) (fun new x => new = [] ∧ J (i + 1) (ys ++ [x]))) E' s₃
        else BEnd h₀ L m { s with heap := h, toks := tk } (own ++ (D, LCg.lst ys) :: (C, oC) :: base) (fun new _ => new = [] ∧ J (i + 1) ys) .none s₃) E' { s with heap := h, toks := tk })
    (hRR : ∀ ys D C h tk m', J its.length ys → AllLt D base → Fr h₀ L h m → News h₀ L h ((D, LCg.lst ys) :: base) → (∀ p ∈ (D, LCg.lst ys) :: base, p.1 ≠ C) → h.Ns C m' → h₀.get? C = none → C ≠ L → D ≠ L → h₀.get? D = none → RR (.ref D) C (.ok .next) { s with heap := h, toks := tk }) :
    wpAny (model prog w) A (pyIter (.ref ax)) (pairBody prog w A E elt (.Tuple [.Name x px, .Name x₂ px₂] kk tp) iter ifs scope pos env cl RR) E s := by
  have hl : s.heap.IsList ax its.toArray := N.isList hm
  have hlt : ax < s.heap.objs.size := Heap.lt_size (N _ hm).1
  refine wpAny_pyIter_list hl ?_
  have up : ∀ b o, s.heap.get? b = some o → (s.heap.push { cls := .type "list_iterator", data := .fields #[.ref ax, .int 0 0] }).get? b = some o := fun b o e => Heap.get?_push_of_some _ e
  have hne : ax ≠ s.heap.objs.size := Nat.ne_of_lt hlt
  have W0 := Walks.list (prog := prog) (w := w) (A := A) hh s.heap.objs.size ax hne its.toArray
  have W := KTurns.ofWalks (target := .Tuple [.Name x px, .Name x₂ px₂] kk tp) W0 (fun i v s' Q E' st hQ => by
    cases v with
    | ref T => exact wpAny_letOwnedTupleGo_listiter st.1 hQ
    | _ => exact wpAny_pure hQ)
  have hLlt : @LT.lt Nat _ L s.heap.objs.size := F.ns.lt
  have hI₀ := fresh_of F s.heap.objs.size (Nat.le_refl _)
  have hLI : L ≠ s.heap.objs.size := Nat.ne_of_lt hLlt
  have hLax : L ≠ ax := fun e => (N _ hm).2.1 e.symm
  refine blk_start (I := s.heap.objs.size) (Stt := fun h => h.IsListIter s.heap.objs.size ax 0 ∧ h.IsList ax its.toArray) (base := base) hcell hkind ⟨⟨_, Heap.get?_push_size _ rfl, rfl, rfl⟩, hl.push _⟩
    (fun h h' st k => ⟨st.1.at fun o e => k _ o e, st.2.at fun o e => k _ o e⟩) (fun s' Q E' st hQ => W0.self 0 _ _ _ st hQ) (F.keeps up) (N.grown up) ?_
  intro C h₁ tk oC m' hDC hst₁ F₁ N₁ hoC hC₀ hCL
  dsimp only at hDC N₁ ⊢
  have hsI : (s.heap.push { cls := .type "list_iterator", data := .fields #[.ref ax, .int 0 0] }).objs.size = s.heap.objs.size + 1 := Heap.size_push ..
  rw [hsI] at hDC N₁ ⊢
  generalize hD : s.heap.objs.size + 1 = D at hDC N₁ ⊢
  have hlb : ∀ p ∈ base, @LT.lt Nat _ p.1 s.heap.objs.size := fun p hp => Heap.lt_size (N p hp).1
  have hDI : @LT.lt Nat _ s.heap.objs.size D := by rw [← hD]; exact Nat.lt_succ_self _
  have hD₀ := fresh_of F D (Nat.le_of_lt hDI)
  have hDL : D ≠ L := Nat.ne_of_gt (Nat.lt_trans hLlt hDI)
  refine blk (s := { s with heap := h₁, toks := tk }) (D := D) (adr := [C]) (Fq := fun frm => ∃ oC m', frm = [(C, oC)] ∧ LCg.NsObj oC m') (Hs := fun i v frm => ∃ v₁ v₂ oC m₂, prs[i]? = some (v₁, v₂) ∧ frm = [(C, oC)] ∧ LCg.NsObj oC m₂ ∧ m₂ x = some v₁ ∧ m₂ x₂ = some v₂)
    (J := fun i ys news => news = base ∧ J i ys) (frm₀ := [(C, oC)]) (news₀ := base) W (by simpa using hsz) ?_ ?_ ?_ hDL hD₀ ?_ ?_ ?_ ?_ ?_ ?_ ?_ ?_ hst₁ F₁ N₁ ⟨oC, m', rfl, hoC⟩ ⟨rfl, hJ⟩ ?_ ?_
  · intro i h st b hb
    rw [List.mem_singleton.mp hb]
    obtain ⟨o, e, _⟩ := st.1
    exact ⟨o, e⟩
  · intro b hb
    rw [List.mem_singleton.mp hb]
    exact hI₀
  · intro hb
    simp only [List.mem_cons, List.not_mem_nil, or_false] at hb
    exact hb.elim hLI hLax
  · intro hb
    simp only [List.mem_cons, List.not_mem_nil, or_false] at hb
    exact hb.elim (Nat.ne_of_gt hDI) (Nat.ne_of_gt (Nat.lt_trans hlt hDI))
  · intro b hb
    rw [List.mem_singleton.mp hb]
    exact hC₀
  · intro hb
    exact hCL (List.mem_singleton.mp hb).symm
  · intro hb
    exact Nat.ne_of_lt hDC (List.mem_singleton.mp hb)
  · intro b hb
    rw [List.mem_singleton.mp hb]
    intro hb
    simp only [List.mem_cons, List.not_mem_nil, or_false] at hb
    exact hb.elim (Nat.ne_of_gt (Nat.lt_trans hDI hDC)) (Nat.ne_of_gt (Nat.lt_trans hlt (Nat.lt_trans hDI hDC)))
  · rintro frm ⟨oC', m'', rfl, _⟩
    rfl
  · rintro i v ys news frm s' Q E' hi hP ⟨oC', m'', rfl, hoC'⟩ ⟨rfl, hJi⟩ N' hQ
    obtain ⟨⟨v₁, v₂⟩, hpr, T, nT, rfl, hT⟩ := All2.get hp (show its[i]? = some v by simpa using hP)
    have hTg : s'.heap.IsTuple T #[v₁, v₂] := ⟨_, (N' _ (List.mem_cons_of_mem _ (List.mem_append_right _ hT))).1, rfl, _, rfl⟩
    have hCn : s'.heap.Ns C m'' := hoC'.ns (N' (C, oC') (List.mem_cons_of_mem _ (List.mem_append_left _ List.mem_cons_self))).1
    refine kcp_assign (env := compEnvC scope cl C env) hh hTg (lookup_relabel_local hx) (lookup_relabel_local hx₂) (by simp [compEnvC, relabel, hkind]) hCn fun h' tk hn hk => ?_
    obtain ⟨oC2, heC2, hoC2⟩ := LCg.ns_obj hn
    refine hQ h' tk [(C, oC2)] ⟨_, _, rfl, hoC2⟩ ⟨v₁, v₂, oC2, _, hpr, rfl, hoC2, ?_, ?_⟩ (fun p hp => ?_) (fun b o hb e => hk b o (fun q => hb (List.mem_singleton.mpr q)) e)
    · simp [hxx]
    · simp
    · rw [List.mem_singleton.mp hp]; exact heC2
  · rintro i v ys news frm own h tk' E' hi ⟨rfl, hJi⟩ ⟨v₁, v₂, oC', m₂, hpr, rfl, hoC', e1, e2⟩ F' N'
    refine wpAny_mono (step i v₁ v₂ ys oC' m₂ own C D h tk' E' hpr hJi hoC' e1 e2 F' N') (fun ok s₃ q => ?_) fun _ _ e => e
    have conv : ∀ (ys' : List Value) x s₄, BEnd h₀ L m { s with heap := h, toks := tk' } (own ++ (D, LCg.lst ys) :: (C, oC') :: news) (fun new _ => new = [] ∧ J (i + 1) ys') x s₄ →
        BEnd h₀ L m { s with heap := h, toks := tk' } (own ++ (D, LCg.lst ys) :: ([(C, oC')] ++ news)) (fun new _ => new ++ news = news ∧ J (i + 1) ys') x s₄ := by
      rintro ys' x s₄ ⟨h', tk, new, e, F', N', ab, rfl, hj⟩
      exact ⟨h', tk, [], e, F', N', ab, rfl, hj⟩
    cases ok with
    | false => exact conv ys .none s₃ q
    | true => exact wpAny_mono q (fun x s₄ q => conv (ys ++ [x]) x s₄ q) fun _ _ e => e
  · intro p hp
    have := hlb p hp
    refine ⟨fun hb => ?_, Nat.ne_of_lt (Nat.lt_trans this hDI), fun hb => ?_⟩
    · exact Nat.ne_of_lt this (List.mem_singleton.mp hb)
    · exact Nat.ne_of_lt (Nat.lt_trans this (Nat.lt_trans hDI hDC)) (List.mem_singleton.mp hb)
  · rintro h tk' ys news frm F' N' ⟨oC', m'', rfl, hoC'⟩ ⟨rfl, hJn⟩ off
    refine hRR ys D C h tk' m'' (by simpa using hJn) (allLt_iff.mpr fun p hp => Nat.lt_trans (hlb p hp) hDI) F' (con_drop N' fun p hp => ?_) ?_ (hoC'.ns (N' (C, oC') (List.mem_cons_of_mem _ List.mem_cons_self)).1) hC₀ hCL hDL hD₀
    · rcases List.mem_cons.mp hp with h | h
      · rw [h]; exact List.mem_cons_self
      · exact List.mem_cons_of_mem _ (List.mem_append_right _ h)
    · intro p hp
      rcases List.mem_cons.mp hp with h | h
      · rw [h]; exact Nat.ne_of_lt hDC
      · exact fun e => (off p h).2.2 (List.mem_singleton.mpr e)

theorem post_use {y : Str} {py : Pos} {Q : Value → Shared → Prop} {base : Led} {ys : List Value} {D C : Addr} {m' : Str → Option Value} (hLe : env.locals = L)
    (hy : env.kindOf y = some .local) (hpl : (env.scope.kind == .class || (env.scope.kind == .module && env.locals != env.globals)) = false)
    (F : Fr h₀ L s.heap m) (N : News h₀ L s.heap ((D, LCg.lst ys) :: base)) (off : ∀ p ∈ (D, LCg.lst ys) :: base, p.1 ≠ C) (hn : s.heap.Ns C m') (hC₀ : h₀.get? C = none) (hCL : C ≠ L)
    (fin : ∀ h tk, Fr h₀ L h (fun z => if z = y then some (.ref D) else m z) → News h₀ L h ((D, LCg.lst ys) :: base) → Q .none { s with heap := h, toks := tk }) :
    compPost (model prog w) A E (some (assign (.Name y py) env)) Q (.ref D) C (.ok .next) s := by
  subst hLe
  show wpAny _ A (assign (.Name y py) env (.ref D)) _ _ _
  refine wpAny_assign_Name (wpAny_storeName_local hy F.ns (fun h₂ hn₂ hs₂ => ?_) hpl)
  have hL₀ : h₀.get? env.locals = none := Heap.get?_none_of_le F.above
  have F₂ : Fr h₀ env.locals h₂ (fun z => if z = y then some (.ref D) else m z) := ⟨hn₂, fun b o e => hs₂.extBut b o (fun q => by rw [q, hL₀] at e; cases e) (F.keep b o e), F.above⟩
  exact ⟨m', hn.sameBut hs₂ hCL, fun h'' hs'' => fin h'' _ (F₂.change hs'' hCL hC₀) fun p hp => ⟨hs''.extBut _ _ (off p hp) (hs₂.extBut _ _ (N p hp).2.1 (N p hp).1), (N p hp).2⟩⟩
theorem post_eval {Q : Value → Shared → Prop} {base : Led} {ys : List Value} {D C : Addr} {m' : Str → Option Value}
    (F : Fr h₀ L s.heap m) (N : News h₀ L s.heap ((D, LCg.lst ys) :: base)) (off : ∀ p ∈ (D, LCg.lst ys) :: base, p.1 ≠ C) (hn : s.heap.Ns C m') (hC₀ : h₀.get? C = none) (hCL : C ≠ L)
    (fin : ∀ h tk, Fr h₀ L h m → News h₀ L h ((D, LCg.lst ys) :: base) → Q (.ref D) { s with heap := h, toks := tk }) :
    compPost (model prog w) A E none Q (.ref D) C (.ok .next) s :=
  ⟨m', hn, fun h'' hs'' => fin h'' s.toks (F.change hs'' hCL hC₀) fun p hp => ⟨hs''.extBut _ _ (off p hp) (N p hp).1, (N p hp).2⟩⟩
theorem eval_comp {target : PySem.Expr} {Q : Value → Shared → Prop}
    (hclos : closureFor scope env = pure cl) (hkind : scope.kind = .function) (hnames : ∀ y ∈ scope.names, y.2 = .local → scope.names.lookup y.1 = some .local)
    (h : wpAny (model prog w) A (eval iter env) (fun xv s₁ => wpAny (model prog w) A (pyIter xv) (pairBody prog w A E elt target iter ifs scope pos env cl (compPost (model prog w) A E none Q)) E s₁) E s)
    (hs : ∀ x, foldedSetIterable iter env x = pure x := by intro _; rfl) :
    wpAny (model prog w) A (eval (.ListComp elt [⟨target, iter, ifs, 0⟩] scope pos) env) Q E s := by
  rw [eval_ListComp]
  exact wpAny_comprehension_free (use := none) rfl hs hclos hkind hnames h
theorem assign_comp {target : PySem.Expr} {y : Str} {py spos : Pos} {Q : Flow → Shared → Prop}
    (hsw : swapsWith (.ListComp elt [⟨target, iter, ifs, 0⟩] scope pos) (some (.Name y py)) spos.line env = pure true)
    (hclos : closureFor scope env = pure cl) (hkind : scope.kind = .function) (hnames : ∀ y ∈ scope.names, y.2 = .local → scope.names.lookup y.1 = some .local)
    (h : wpAny (model prog w) A (eval iter env) (fun xv s₁ => wpAny (model prog w) A (pyIter xv) (pairBody prog w A E elt target iter ifs scope pos env cl (compPost (model prog w) A E (some (assign (.Name y py) env)) (fun _ s' => Q .next s'))) E s₁) E s)
    (hs : ∀ x, foldedSetIterable iter env x = pure x := by intro _; rfl) :
    wpAny (model prog w) A (exec (.Assign [.Name y py] (.ListComp elt [⟨target, iter, ifs, 0⟩] scope pos) spos) env) Q E s := by
  rw [exec_Assign_Name_used _ _ _ _ hsw]
  refine wpAny_bind (wpAny_standAt (wpAny_bind ?_))
  show wpAny _ A (do let _ ← comprehension (.ListComp elt [⟨target, iter, ifs, 0⟩] scope pos) scope env _ (newList []) false (eval iter env) (some (assign (.Name y py) env))) _ _ s
  exact wpAny_bind (wpAny_mono (wpAny_comprehension_free (use := some (assign (.Name y py) env)) (Q := fun _ s' => Q .next s') rfl hs hclos hkind hnames h) (fun _ s' hq => wpAny_pure (wpAny_pure hq)) fun _ _ e => e)
end
theorem nfe2 {M : Model} {A : Around} {E : Value → Shared → Prop} {s : Shared} {scope : Scope} {a b r f1 f2 : Str} {globals : Addr} {cl : List (Str × Addr)} {qual : Str} {env : Env} {Q : Env → Shared → Prop} {z : Str}
    (hn : scope.names = [(z, .local), (a, .cell), (b, .cell), (r, .globalImplicit), (f1, .free), (f2, .free)])
    (h : Q { scope := scope, locals := s.heap.objs.size, globals := globals, cells := (b, s.heap.objs.size + 2) :: (a, s.heap.objs.size + 1) :: cl, qual := qual, func := none, code := env.code, frame := env.frame, builtins := env.builtins }
      { s with heap := ((s.heap.push { cls := .type "dict", data := .dict #[] }).push { cls := .type "cell", data := .cell none }).push { cls := .type "cell", data := .cell none } }) :
    wpAny M A (newFunctionEnv scope globals cl [] qual none .none (some env)) Q E s := by
  simp only [newFunctionEnv, Option.isSome_some, if_true]
  refine wpAny_bind (wpAny_alloc ?_)
  rw [hn]
  simp only [List.forIn_cons, List.forIn_nil]
  refine wpAny_bind ?_
  refine wpAny_bind (wpAny_pure ?_)
  dsimp only
  refine wpAny_bind ?_
  refine wpAny_bind (wpAny_alloc ?_)
  refine wpAny_pure ?_
  dsimp only
  refine wpAny_bind ?_
  refine wpAny_bind (wpAny_alloc ?_)
  refine wpAny_pure ?_
  dsimp only
  refine wpAny_bind ?_
  refine wpAny_pure ?_
  dsimp only
  refine wpAny_bind ?_
  refine wpAny_pure ?_
  dsimp only
  refine wpAny_bind ?_
  refine wpAny_pure ?_
  dsimp only
  refine wpAny_pure ?_
  refine wpAny_bind (wpAny_pure (wpAny_pure ?_))
  simpa only [Heap.size_push] using h

theorem assign_cells {prog : Program} {w : World} {A : Around} {E : Value → Shared → Prop} {s : Shared} {env : Env} {a b : Str} {pa pb tp : Pos} {kk : Nat} {T c1 c2 : Addr} {x y : Value} {u1 u2 : Option Value} {Q : Unit → Shared → Prop} (hh : A.handled = none) (ht : s.heap.IsTuple T #[x, y])
    (hk : env.scope.kind = .function) (ha : env.kindOf a = some .cell) (hb : env.kindOf b = some .cell) (hc1 : env.cells.lookup a = some c1) (hc2 : env.cells.lookup b = some c2) (h1 : s.heap.IsCell c1 u1) (h2 : s.heap.IsCell c2 u2) (hne : c1 ≠ c2)
    (h : ∀ (h' : Heap), h'.IsCell c1 (some x) → h'.IsCell c2 (some y) → (∀ c o, c ≠ c1 → c ≠ c2 → s.heap.get? c = some o → h'.get? c = some o) → Q () { s with heap := h' }) :
    wpAny (model prog w) A (assign (.Tuple [.Name a pa, .Name b pb] kk tp) env (.ref T)) Q E s := by
  refine wpAny_assign_Tuple hh ht rfl rfl fun h₁ he₁ => ?_
  have up₁ : ∀ c o, s.heap.get? c = some o → h₁.get? c = some o := fun c o e => he₁ c o (Nat.ne_of_lt (Heap.lt_size e)) e
  show wpAny _ _ (assignInOrder [assign (.Name a pa) env, assign (.Name b pb) env] [x, y]) _ _ _
  refine assignInOrder_cons ?_
  refine wpAny_assign_Name (wpAny_storeName_cell hk ha hc1 (h1.keeps up₁) fun h₂ i2 s2 => ?_)
  refine assignInOrder_cons ?_
  refine wpAny_assign_Name (wpAny_storeName_cell hk hb hc2 ((h2.keeps up₁).sameBut s2 (Ne.symm hne)) fun h₃ i3 s3 => ?_)
  refine assignInOrder_nil ?_
  exact h h₃ (i2.sameBut s3 hne) i3 fun c o e1 e2 e => s3.extBut c o e2 (s2.extBut c o e1 (up₁ c o e))
end
section
variable {h₀ h' : Heap} {L : Addr} {m : Str → Option Value} {s : Shared} {tk : Nat} {led : Led} {K : Led → Value → Prop} {x : Value} {D : Addr} {o : Obj}
end
end
section
noncomputable abbrev celO (v : Option Value) : Obj := { cls := .type "cell", data := .cell v }
theorem ns_new : LCg.NsObj ({ cls := .type "dict", data := .dict #[] } : Obj) (fun _ => none) := ⟨#[], _, rfl, fun _ h => by simp at h, fun _ => rfl⟩
section
variable {prog : Program} {w : World} {A : Around} {E : Value → Shared → Prop} {s : Shared} {h₀ : Heap} {L : Addr} {m : Str → Option Value} {env : Env} {elt iter : PySem.Expr} {ifs : List PySem.Expr} {a b r f1 f2 z0 : Str} {pa pb tp pos : Pos} {kk : Nat} {scope : Scope} {cl : List (Str × Addr)}
theorem blk_start2 {target : PySem.Expr} {I : Addr} {base : Led} {s₂ : Shared} {RR : Value → Addr → Result → Shared → Prop} {Stt : Heap → Prop}
    (hn : scope.names = [(z0, .local), (a, .cell), (b, .cell), (r, .globalImplicit), (f1, .free), (f2, .free)]) (hst : Stt s₂.heap) (hsk : ∀ h h' : Heap, Stt h → (∀ b o, h.get? b = some o → h'.get? b = some o) → Stt h')
    (hself : ∀ (s' : Shared) (Q : Value → Shared → Prop) (E' : Value → Shared → Prop), Stt s'.heap → Q (.ref I) s' → wpAny (model prog w) A (pyIter (.ref I)) Q E' s')
    (F : Fr h₀ L s₂.heap m) (N : News h₀ L s₂.heap base)
    (cont : ∀ h₁ tk oC, Stt h₁ → Fr h₀ L h₁ m → News h₀ L h₁ ((s₂.heap.objs.size, LCg.lst []) :: ([(s₂.heap.objs.size + 1, oC), (s₂.heap.objs.size + 1 + 1, celO none), (s₂.heap.objs.size + 1 + 2, celO none)] ++ base)) → LCg.NsObj oC (fun _ => none) →
      codeAny (model prog w) A (.compLoop (.ListComp elt [⟨target, iter, ifs, 0⟩] scope pos) 0 (.ref I) (.ref s₂.heap.objs.size) (compEnvC scope ((b, s₂.heap.objs.size + 1 + 2) :: (a, s₂.heap.objs.size + 1 + 1) :: cl) (s₂.heap.objs.size + 1) env)) (RR (.ref s₂.heap.objs.size) (s₂.heap.objs.size + 1)) { s₂ with heap := h₁, toks := tk }) :
    pairBody prog w A E elt target iter ifs scope pos env cl RR (.ref I) s₂ := by
  refine wpAny_newObj_type (nfe2 hn ?_)
  dsimp only
  generalize hH2 : s₂.heap.push { cls := .type "list", dict := none, data := .seq ([] : List Value).toArray } = H2
  have hC : H2.objs.size = s₂.heap.objs.size + 1 := by rw [← hH2, Heap.size_push]
  rw [hC]
  have e2 : ∀ b o, s₂.heap.get? b = some o → H2.get? b = some o := fun b o e => hH2 ▸ Heap.get?_push_of_some _ e
  have hacc : H2.get? s₂.heap.objs.size = some (LCg.lst []) := hH2 ▸ Heap.get?_push_size _ rfl
  generalize hH5 : ((H2.push { cls := .type "dict", data := .dict #[] }).push { cls := .type "cell", data := .cell none }).push { cls := .type "cell", data := .cell none } = H5
  have e5 : ∀ b o, H2.get? b = some o → H5.get? b = some o := fun b o e => hH5 ▸ Heap.get?_push_of_some _ (Heap.get?_push_of_some _ (Heap.get?_push_of_some _ e))
  have gC : H5.get? (s₂.heap.objs.size + 1) = some { cls := .type "dict", data := .dict #[] } := by
    rw [← hC, ← hH5]
    exact Heap.get?_push_of_some _ (Heap.get?_push_of_some _ (Heap.get?_push_size _ rfl))
  have g1 : H5.get? (s₂.heap.objs.size + 1 + 1) = some (celO none) := by
    rw [← hC, ← hH5]
    have := Heap.get?_push_size (H2.push { cls := .type "dict", data := .dict #[] }) (o := celO none) rfl
    rw [Heap.size_push] at this
    exact Heap.get?_push_of_some _ this
  have g2 : H5.get? (s₂.heap.objs.size + 1 + 2) = some (celO none) := by
    rw [← hC, ← hH5]
    have := Heap.get?_push_size ((H2.push { cls := .type "dict", data := .dict #[] }).push (celO none)) (o := celO none) rfl
    rw [Heap.size_push, Heap.size_push] at this
    exact this
  have old : ∀ b o, s₂.heap.get? b = some o → H5.get? b = some o := fun b o e => e5 b o (e2 b o e)
  have hLlt : @LT.lt Nat _ L s₂.heap.objs.size := F.ns.lt
  have fr := fresh_of F
  have c := cont H5 s₂.toks _ (hsk _ _ hst old) (F.keeps old) (fun p hp => by
    rcases List.mem_cons.mp hp with rfl | hp
    · exact ⟨e5 _ _ hacc, Nat.ne_of_gt hLlt, fr _ (Nat.le_refl _)⟩
    · rcases List.mem_cons.mp hp with rfl | hp
      · exact ⟨gC, Nat.ne_of_gt (Nat.lt_succ_of_lt hLlt), fr _ (Nat.le_succ _)⟩
      · rcases List.mem_cons.mp hp with rfl | hp
        · exact ⟨g1, Nat.ne_of_gt (Nat.lt_succ_of_lt (Nat.lt_succ_of_lt hLlt)), fr _ (Nat.le_trans (Nat.le_succ _) (Nat.le_succ _))⟩
        · rcases List.mem_cons.mp hp with rfl | hp
          · exact ⟨g2, Nat.ne_of_gt (Nat.lt_succ_of_lt (Nat.lt_succ_of_lt (Nat.lt_succ_of_lt hLlt))), fr _ (Nat.le_trans (Nat.le_succ _) (Nat.le_trans (Nat.le_succ _) (Nat.le_succ _)))⟩
          · exact ⟨old _ _ (N p hp).1, (N p hp).2⟩) ns_new
  exact codeAny_compStart_list c (hself _ _ _ (hsk _ _ hst old) c)

theorem zip_core {RR : Value → Addr → Result → Shared → Prop} {l1 l2 : Addr} {xs ys : List Value} {n1 n2 : Nat} {base : Led} {J : Nat → List Value → Led → Prop}
    (hn : scope.names = [(z0, .local), (a, .cell), (b, .cell), (r, .globalImplicit), (f1, .free), (f2, .free)]) (hkind : scope.kind = .function) (hab : (a == b) = false)
    (hka : ∀ cl C, (compEnvC scope cl C env).kindOf a = some .cell) (hkb : ∀ cl C, (compEnvC scope cl C env).kindOf b = some .cell)
    (hh : A.handled = none) (F : Fr h₀ L s.heap m) (N : News h₀ L s.heap base) (hm1 : (l1, ({ cls := .type "list", data := .seq xs.toArray n1 } : Obj)) ∈ base) (hm2 : (l2, ({ cls := .type "list", data := .seq ys.toArray n2 } : Obj)) ∈ base)
    (hT : ∀ v ∈ xs, v ∈ xs) (hsz : min xs.length ys.length ≤ sizeLine) (hJ : J 0 [] [])
    (step : ∀ i x y ys' new own C c1 c2 D oC o1 o2 h tk (E' : Value → Shared → Prop), xs[i]? = some x → ys[i]? = some y → J i ys' new → o1.data = .cell (some x) → o2.data = .cell (some y) → Fr h₀ L h m →
      News h₀ L h (own ++ (D, LCg.lst ys') :: (C, oC) :: (c1, o1) :: (c2, o2) :: (new ++ base)) →
      wpAny (model prog w) A (eval elt (compEnvC scope ((b, c2) :: (a, c1) :: cl) C env)) (BEnd h₀ L m { s with heap := h, toks := tk } (own ++ (D, LCg.lst ys') :: (C, oC) :: (c1, o1) :: (c2, o2) :: (new ++ base)) (fun nw x' => J (i + 1) (ys' ++ [x']) (nw ++ new))) E' { s with heap := h, toks := tk })
    (hRR : ∀ ys' new D C h tk m', J (min xs.length ys.length) ys' new → AllLt D base → (∀ p ∈ new, ∀ q ∈ base, q.1 ≠ p.1) → (∀ p ∈ new, p.1 ≠ D) → Fr h₀ L h m → News h₀ L h ((D, LCg.lst ys') :: (new ++ base)) → (∀ p ∈ (D, LCg.lst ys') :: (new ++ base), p.1 ≠ C) → h.Ns C m' → h₀.get? C = none → C ≠ L →
      RR (.ref D) C (.ok .next) { s with heap := h, toks := tk }) :
    wpAny (model prog w) A (call (.type "zip") [.ref l1, .ref l2]) (fun xv s₁ => wpAny (model prog w) A (pyIter xv) (pairBody prog w A E elt (.Tuple [.Name a pa, .Name b pb] kk tp) iter [] scope pos env cl RR) E s₁) E s := by
  have hax1 := N _ hm1
  have hax2 := N _ hm2
  have hl1 : s.heap.IsList l1 xs.toArray := N.isList hm1
  have hl2 : s.heap.IsList l2 ys.toArray := N.isList hm2
  have hlt1 : l1 < s.heap.objs.size := Heap.lt_size hax1.1
  have hlt2 : l2 < s.heap.objs.size := Heap.lt_size hax2.1
  have hLs : L < s.heap.objs.size := F.ns.lt
  have Dz : ZipApart (s.heap.objs.size + 4) (s.heap.objs.size + 2) (s.heap.objs.size + 3) s.heap.objs.size (s.heap.objs.size + 1) l1 l2 := ktu_apart _ _ _ hlt1 hlt2
  have Wt := WalksT.zip2 (prog := prog) (w := w) (A := A) hh _ _ _ _ _ _ _ Dz xs.toArray ys.toArray
  have W := KTurns.ofWalksU (elts := [.Name a pa, .Name b pb]) (k := kk) (pos := tp) Wt.toU
  refine call_zip_2 hl1 hl2 fun h' hz hTI hTO hi1 hi2 hsize hk => ?_
  refine wpAny_pyIter_zip hz ?_
  have F' := F.keeps hk
  have N' := N.grown hk
  refine blk_start2 (s₂ := { s with heap := h' }) (I := s.heap.objs.size + 4) (base := base) (Stt := fun h => IsZip h (s.heap.objs.size + 4) (s.heap.objs.size + 2) (s.heap.objs.size + 3) .none ∧ IsPair h (s.heap.objs.size + 2) (.ref s.heap.objs.size) (.ref (s.heap.objs.size + 1)) ∧ (∃ a b, IsPair h (s.heap.objs.size + 3) a b) ∧ h.IsListIter s.heap.objs.size l1 0 ∧ h.IsListIter (s.heap.objs.size + 1) l2 0 ∧ h.IsList l1 xs.toArray ∧ h.IsList l2 ys.toArray)
    hn ⟨hz, hTI, ⟨_, _, hTO⟩, hi1, hi2, hl1.at fun o e => hk _ _ e, hl2.at fun o e => hk _ _ e⟩ (fun h h'' st k => Wt.frame 0 h h'' st fun b _ o e => k b o e) (fun s' Q E' st hQ => wpAny_pyIter_zip st.1 hQ) F' N' ?_
  intro h₁ tk oC hst₁ F₁ N₁ hoC
  dsimp only at N₁ ⊢
  rw [hsize] at N₁ ⊢
  generalize hS : s.heap.objs.size = S at *
  have hlb : ∀ p ∈ base, @LT.lt Nat _ p.1 S := fun p hp => hS ▸ Heap.lt_size (N p hp).1
  have fr : ∀ a, @LE.le Nat _ S a → h₀.get? a = none := fun a ha => fresh_of F a (hS ▸ ha)
  have w4 : ∀ b ∈ [S + 4, S + 3, S, S + 1], @LE.le Nat _ S b ∧ @LT.lt Nat _ b (S + 5) := by
    intro b hb
    simp only [List.mem_cons, List.not_mem_nil, or_false] at hb
    rcases hb with rfl | rfl | rfl | rfl <;> exact ⟨by first | exact Nat.le_refl _ | exact Nat.le_add_right _ _, by first | exact Nat.add_lt_add_left (by decide) _ | exact Nat.lt_add_of_pos_right (by decide)⟩
  have f7 : ∀ b ∈ [S + 4, S + 2, S + 3, S, S + 1, l1, l2], @LT.lt Nat _ b (S + 5) ∧ b ≠ L := by
    intro b hb
    simp only [List.mem_cons, List.not_mem_nil, or_false] at hb
    rcases hb with rfl | rfl | rfl | rfl | rfl | rfl | rfl
    · exact ⟨Nat.add_lt_add_left (by decide) _, Nat.ne_of_gt (Nat.lt_of_lt_of_le hLs (Nat.le_add_right _ _))⟩
    · exact ⟨Nat.add_lt_add_left (by decide) _, Nat.ne_of_gt (Nat.lt_of_lt_of_le hLs (Nat.le_add_right _ _))⟩
    · exact ⟨Nat.add_lt_add_left (by decide) _, Nat.ne_of_gt (Nat.lt_of_lt_of_le hLs (Nat.le_add_right _ _))⟩
    · exact ⟨Nat.lt_add_of_pos_right (by decide), Nat.ne_of_gt hLs⟩
    · exact ⟨Nat.add_lt_add_left (by decide) _, Nat.ne_of_gt (Nat.lt_of_lt_of_le hLs (Nat.le_add_right _ _))⟩
    · exact ⟨Nat.lt_of_lt_of_le hlt1 (Nat.le_add_right _ _), hax1.2.1⟩
    · exact ⟨Nat.lt_of_lt_of_le hlt2 (Nat.le_add_right _ _), hax2.2.1⟩
  have hadr : ∀ b ∈ [S + 5 + 1, S + 5 + 1 + 1, S + 5 + 1 + 2], @LT.lt Nat _ (S + 5) b := by
    intro b hb
    simp only [List.mem_cons, List.not_mem_nil, or_false] at hb
    rcases hb with rfl | rfl | rfl
    · exact Nat.lt_succ_self _
    · exact Nat.lt_succ_of_lt (Nat.lt_succ_self _)
    · exact Nat.lt_succ_of_lt (Nat.lt_succ_of_lt (Nat.lt_succ_self _))
  have hS5 : ∀ b, @LT.lt Nat _ (S + 5) b → @LE.le Nat _ S b := fun b hb => Nat.le_trans (Nat.le_add_right _ _) (Nat.le_of_lt hb)
  have hL5 : @LT.lt Nat _ L (S + 5) := Nat.lt_of_lt_of_le hLs (Nat.le_add_right _ _)
  refine blk (s := { s with heap := h₁, toks := tk }) (D := S + 5) (adr := [S + 5 + 1, S + 5 + 1 + 1, S + 5 + 1 + 2])
    (Fq := fun frm => ∃ oC o1 o2 u1 u2 m', frm = [(S + 5 + 1, oC), (S + 5 + 1 + 1, o1), (S + 5 + 1 + 2, o2)] ∧ LCg.NsObj oC m' ∧ o1.data = .cell u1 ∧ o2.data = .cell u2)
    (Hs := fun i v frm => ∃ x y oC o1 o2, xs[i]? = some x ∧ ys[i]? = some y ∧ frm = [(S + 5 + 1, oC), (S + 5 + 1 + 1, o1), (S + 5 + 1 + 2, o2)] ∧ o1.data = .cell (some x) ∧ o2.data = .cell (some y))
    (J := fun i ys' news => ∃ new, news = new ++ base ∧ (∀ p ∈ new, (∀ q ∈ base, q.1 ≠ p.1) ∧ p.1 ≠ S + 5) ∧ J i ys' new) (frm₀ := [(S + 5 + 1, oC), (S + 5 + 1 + 1, celO none), (S + 5 + 1 + 2, celO none)]) (news₀ := base) W (by simpa using hsz) ?_ ?_ ?_ (Nat.ne_of_gt hL5) (fr _ (Nat.le_add_right _ _)) ?_ ?_ ?_ ?_ ?_ ?_ ?_ ?_ hst₁ F₁ N₁ ⟨oC, _, _, none, none, _, rfl, hoC, rfl, rfl⟩ ⟨[], rfl, (fun _ h => nomatch h), hJ⟩ ?_ ?_
  · rintro i h ⟨hz, hTI, ⟨a, b, hTO⟩, ⟨o1, ho1, _⟩, ⟨o2, ho2, _⟩, _⟩ b' hb
    simp only [List.mem_cons, List.not_mem_nil, or_false] at hb
    rcases hb with rfl | rfl | rfl | rfl
    · exact ⟨_, hz⟩
    · exact ⟨_, hTO⟩
    · exact ⟨_, ho1⟩
    · exact ⟨_, ho2⟩
  · exact fun b hb => fr b (w4 b hb).1
  · exact fun hb => (f7 L hb).2 rfl
  · exact fun hb => Nat.lt_irrefl _ (f7 _ hb).1
  · exact fun b hb => fr b (hS5 b (hadr b hb))
  · exact fun hb => Nat.lt_irrefl _ (Nat.lt_trans hL5 (hadr L hb))
  · exact fun hb => Nat.lt_irrefl _ (hadr _ hb)
  · exact fun b hb hf => Nat.lt_irrefl _ (Nat.lt_trans (f7 b hf).1 (hadr b hb))
  · rintro frm ⟨oC', o1, o2, u1, u2, m', rfl, _⟩
    rfl
  · rintro i v ys' news frm s' Q E' hi ⟨T, vals, rfl, ⟨x, y, hx, hy, rfl⟩, hTt⟩ ⟨oC', o1, o2, u1, u2, m', rfl, hoC', d1, d2⟩ _ N'' hQ
    have hx' : xs[i]? = some x := by simpa using hx
    have hy' : ys[i]? = some y := by simpa using hy
    have g1 := (N'' (S + 5 + 1 + 1, o1) (by simp)).1
    have g2 := (N'' (S + 5 + 1 + 2, o2) (by simp)).1
    have gC := (N'' (S + 5 + 1, oC') (by simp)).1
    refine assign_cells (env := compEnvC scope ((b, S + 5 + 1 + 2) :: (a, S + 5 + 1 + 1) :: cl) (S + 5 + 1) env) (c1 := S + 5 + 1 + 1) (c2 := S + 5 + 1 + 2) hh hTt hkind (hka _ _) (hkb _ _) ?_ ?_ ⟨o1, g1, d1⟩ ⟨o2, g2, d2⟩ (Nat.ne_of_lt (Nat.lt_succ_self _)) fun h' ⟨p1, q1, r1⟩ ⟨p2, q2, r2⟩ hk' => ?_
    · show List.lookup a ((b, S + 5 + 1 + 2) :: (a, S + 5 + 1 + 1) :: cl) = _
      simp only [List.lookup_cons, hab, beq_self_eq_true]
    · show List.lookup b ((b, S + 5 + 1 + 2) :: (a, S + 5 + 1 + 1) :: cl) = _
      simp only [List.lookup_cons, beq_self_eq_true]
    · refine hQ h' s'.toks [(S + 5 + 1, oC'), (S + 5 + 1 + 1, p1), (S + 5 + 1 + 2, p2)] ⟨oC', p1, p2, _, _, m', rfl, hoC', r1, r2⟩ ⟨x, y, oC', p1, p2, hx', hy', rfl, r1, r2⟩ ?_ fun b o hb e => hk' b o (fun q => hb (by simp [q])) (fun q => hb (by simp [q])) e
      intro p hp
      simp only [List.mem_cons, List.not_mem_nil, or_false] at hp
      rcases hp with rfl | rfl | rfl
      · exact hk' _ _ (Nat.ne_of_lt (Nat.lt_succ_self _)) (Nat.ne_of_lt (Nat.lt_succ_of_lt (Nat.lt_succ_self _))) gC
      · exact q1
      · exact q2
  · rintro i v ys' news frm own h tk' E' hi ⟨new, rfl, hab', hJi⟩ ⟨x, y, oC', o1, o2, hx, hy, rfl, d1, d2⟩ F'' N''
    refine wpAny_tests_nil ?_
    simp only [if_true]
    refine wpAny_mono (step i x y ys' new own _ _ _ _ oC' o1 o2 h tk' E' hx hy hJi d1 d2 F'' N'') (fun x' s₄ q => ?_) fun _ _ e => e
    obtain ⟨h', tk, nw, e, F', N', ab, hj⟩ := q
    refine ⟨h', tk, nw, e, F', N', ab, nw ++ new, by rw [List.append_assoc], fun p hp => ?_, hj⟩
    rcases List.mem_append.mp hp with hp | hp
    · have := ab p hp
      refine ⟨fun q hq => this q ?_, Ne.symm (this (S + 5, LCg.lst ys') (by simp))⟩
      simp only [List.mem_append, List.mem_cons]
      exact .inr (.inr (.inr (.inr (.inr (.inr hq)))))
    · exact hab' p hp
  · intro p hp
    have := hlb p hp
    refine ⟨fun hb => Nat.lt_irrefl _ (Nat.lt_of_lt_of_le this (w4 _ hb).1), Nat.ne_of_lt (Nat.lt_of_lt_of_le this (Nat.le_add_right _ _)), fun hb => Nat.lt_irrefl _ (Nat.lt_of_lt_of_le this (hS5 _ (hadr _ hb)))⟩
  · rintro h tk' ys' news frm F'' N'' ⟨oC', o1, o2, u1, u2, m', rfl, hoC', _, _⟩ ⟨new, rfl, hab', hJn⟩ off
    refine hRR ys' new (S + 5) (S + 5 + 1) h tk' m' (by simpa using hJn) (allLt_iff.mpr fun p hp => Nat.lt_of_lt_of_le (hlb p hp) (Nat.le_add_right _ _)) (fun p hp => (hab' p hp).1) (fun p hp => (hab' p hp).2) F'' (con_drop N'' fun p hp => ?_) ?_ (hoC'.ns (N'' (S + 5 + 1, oC') (by simp)).1) (fr _ (hS5 _ (Nat.lt_succ_self _))) (Nat.ne_of_gt (Nat.lt_succ_of_lt hL5))
    · rcases List.mem_cons.mp hp with h | h
      · rw [h]; exact List.mem_cons_self
      · exact List.mem_cons_of_mem _ (List.mem_append_right _ h)
    · intro p hp
      rcases List.mem_cons.mp hp with h | h
      · rw [h]; exact Nat.ne_of_lt (Nat.lt_succ_self _)
      · exact fun e => (off p h).2.2 (by simp [e])
end
end
section
theorem SK.app {σ : Sg} {g : Led} (K : SK σ) (hg : ∀ p ∈ g, ∀ q ∈ σ.led, q.1 ≠ p.1) : SK (σ.app g) :=
  ⟨K.kn, by
    show Dist σ.mu ((g :: σ.ow).flatten ++ σ.ba)
    rw [List.flatten_cons, List.append_assoc]
    exact dist_more K.dm fun p hp q hq => hg q hq p (List.mem_append_left _ hp),
   fun p hp q hq => by
    rw [Sg.app, List.flatten_cons] at hp
    rcases List.mem_append.mp hp with h | h
    · exact (hg p h q (List.mem_append_right _ (List.mem_append_right _ hq))).symm
    · exact K.ab p h q hq⟩
section
variable {w : World} {F : Fi} {L : Addr} {σ : Sg} {p px pos pa pb tp ip : Pos} {rest : List Stmt} {elt func e1 e2 : Expr} {RF : Flow → Sg → Prop} {scope : Scope} {cl : List (Str × Addr)} {y a b z0 r f1 f2 : Str} {py : Pos} {kk : Nat}
/-- `y = [elt for a, b in zip(e1, e2)]` where a and b are read by a block within -/
inductive ZSrc (w : World) (F : Fi) (L : Addr) (scope : Scope) (cl : List (Str × Addr)) (a b : Str) (elt : Expr) (y : Str) (rest : List Stmt) (RF : Flow → Sg → Prop) (m : Str → Option Value) (us : List Value) (σ1 : Sg) : Prop
  | mk (hm : σ1.m = m) (l1 l2 : Addr) (xs ys : List Value) (n1 n2 : Nat) (J : Nat → List Value → Led → Prop) (hus : us = [.ref l1, .ref l2]) (m1 : At σ1 (l1, lsO xs n1)) (m2 : At σ1 (l2, lsO ys n2)) (hsz : min xs.length ys.length ≤ 1000) (hJ : J 0 [] [])
      (step : ∀ i x z ys' new C c1 c2 oC o1 o2 ba, xs[i]? = some x → ys[i]? = some z → J i ys' new → o1.data = .cell (some x) → o2.data = .cell (some z) → (∀ p ∈ (C, oC) :: (c1, o1) :: (c2, o2) :: (new ++ σ1.led), p ∈ ba) →
        EG w F L (compEnvC scope ((b, c2) :: (a, c1) :: cl) C (F.env L)) ⟨m, [], [], [], ba⟩ elt fun x' σ' => σ'.m = m ∧ σ'.ba = ba ∧ J (i + 1) (ys' ++ [x']) ((σ'.mu ++ σ'.ow.flatten) ++ new))
      (fin : ∀ ys' new D, J (min xs.length ys.length) ys' new → (∀ p ∈ new, ∀ q ∈ σ1.led, q.1 ≠ p.1) → ST w F L (((σ1.app new).new (D, LCg.lst ys')).set y (.ref D)) rest RF)
theorem st_zip (hf : EP w F L (F.env L) σ func (.v (.type "zip")))
    (args : EL w F L (F.env L) σ [e1, e2] (ZSrc w F L scope cl a b elt y rest RF σ.m))
    (hn : scope.names = [(z0, .local), (a, .cell), (b, .cell), (r, .globalImplicit), (f1, .free), (f2, .free)]) (hkind : scope.kind = .function) (hab : (a == b) = false)
    (hka : ∀ cl C, (compEnvC scope cl C (F.env L)).kindOf a = some .cell) (hkb : ∀ cl C, (compEnvC scope cl C (F.env L)).kindOf b = some .cell)
    (hclos : closureFor scope (F.env L) = pure cl) (hnames : ∀ y ∈ scope.names, y.2 = .local → scope.names.lookup y.1 = some .local)
    (he : starEach [e1, e2] (F.env L) = (false, eval e1 (F.env L)) :: starEach [e2] (F.env L)) (hpl : ∀ pos, (backTo pos (starEach [e2] (F.env L))).any (·.1) = false)
    (hc : eval (.Call func [e1, e2] [] ip) (F.env L) = (do callWith ip (← eval func (F.env L)) [] (backTo ip (starEach [e1, e2] (F.env L))) (backToKw ip (keywordEach [] (F.env L)))))
    (hs : ∀ v, foldedSetIterable (.Call func [e1, e2] [] ip) (F.env L) v = pure v)
    (hsw : swapsWith (.ListComp elt [⟨.Tuple [.Name a pa, .Name b pb] kk tp, .Call func [e1, e2] [] ip, [], 0⟩] scope pos) (some (.Name y py)) p.line (F.env L) = pure true) (hk : F.cs.kind = .function) (hy : (F.env L).kindOf y = some .local) :
    ST w F L σ (.Assign [.Name y py] (.ListComp elt [⟨.Tuple [.Name a pa, .Name b pb] kk tp, .Call func [e1, e2] [] ip, [], 0⟩] scope pos) p :: rest) RF :=
  st_seq fun c h tk Q E _ S hq => assign_comp hsw hclos hkind hnames (Call_ (hf c h tk _ E S fun tk1 => callWith_type1 (args c h tk1 ip _ E S fun us σ1 h1 tk2 S1 ⟨hm, l1, l2, xs, ys, n1, n2, J, hus, m1, m2, hsz, hJ, step, fin⟩ => by
    subst hus
    have K1 := S1.sk
    refine zip_core (L := L) (m := σ.m) (base := σ1.led) (J := fun i ys' new => J i ys' new) hn hkind hab hka hkb rfl (hm ▸ S1.fr) S1.nw m1.mem m2.mem (fun _ h => h) (sz hsz) hJ ?_ ?_
    · intro i x z ys' new own C c1 c2 D oC o1 o2 h' tk' E' hx hz hJ' d1 d2 F' N'
      refine step i x z ys' new C c1 c2 oC o1 o2 (own ++ (D, LCg.lst ys') :: (C, oC) :: (c1, o1) :: (c2, o2) :: (new ++ σ1.led)) hx hz hJ' d1 d2 (fun p hp => List.mem_append_right _ (.tail _ hp)) c h' tk' _ E' ⟨F', fun _ _ h => (nomatch h), N', trivial, fun _ h => (nomatch h)⟩ fun x' σ' h2 tk2 S2 ⟨hm2, hba, hJ2⟩ => ?_
      refine ⟨h2, tk2, σ'.mu ++ σ'.ow.flatten, rfl, hm2 ▸ S2.fr, fun p hp => S2.nw p ?_, ?_, hJ2⟩
      · rw [Sg.led, hba, ← List.append_assoc]; exact hp
      · intro p hp q hq
        rcases List.mem_append.mp hp with h | h
        · exact (dist_mem S2.dm p h q (List.mem_append_right _ (hba ▸ hq))).symm
        · exact (S2.ab p h q (hba ▸ hq)).symm
    · intro ys' new D C h' tk' m' hJ' lD nD nn F' N' offC hn' hC0 hCL
      refine post_use rfl hy (by show (F.cs.kind == .class || (F.cs.kind == .module && _)) = false; rw [hk]; rfl) F' N' offC hn' hC0 hCL ?_
      intro h3 tk3 F3 N3
      have K2 := K1.app nD
      have hD : ∀ q ∈ (σ1.app new).led, q.1 ≠ D := fun q hq => by
        simp only [Sg.led, Sg.app, List.flatten_cons, List.mem_append] at hq
        rcases hq with h | (h | h) | h
        · exact Nat.ne_of_lt (allLt_iff.mp lD q (List.mem_append_left _ h))
        · exact nn q h
        · exact Nat.ne_of_lt (allLt_iff.mp lD q (List.mem_append_right _ (List.mem_append_left _ h)))
        · exact Nat.ne_of_lt (allLt_iff.mp lD q (List.mem_append_right _ (List.mem_append_right _ h)))
      have K3 := K2.new (o := LCg.lst ys') hD
      refine hq .next (((σ1.app new).new (D, LCg.lst ys')).set y (.ref D)) _ _ ⟨?_, fun z v hz => ?_, fun q hq => N3 q ?_, K3.dm, K3.ab⟩ (fin ys' new D hJ' nD)
      · show Fr _ _ _ (fun z => if z = y then some (.ref D) else σ1.m z)
        rw [hm]; exact F3
      · show (if z = y then some (.ref D) else σ1.m z) = some v
        by_cases e : z = y
        · subst e; rw [if_pos rfl]; simpa [List.lookup] using hz
        · have : (z == y) = false := by simpa using e
          rw [if_neg e]; exact K3.kn z v (by simpa [List.lookup, this] using hz)
      · simp only [Sg.led, Sg.set, Sg.new, Sg.app, List.flatten_cons, List.cons_append, List.mem_cons, List.mem_append] at hq ⊢
        rcases hq with h | h | (h | h) | h <;> simp [h]) he (hpl _)) hc) hs
end
end
section
noncomputable abbrev bl (mn bf : Int) (p q : Pt) : Pt := (p.1 * (mn - bf) + q.1 * bf, p.2 * (mn - bf) + q.2 * bf)
noncomputable def blends (mn bf : Int) : List Pt → List Pt
  | p :: q :: r => bl mn bf p q :: blends mn bf (q :: r)
  | _ => []
noncomputable def LsIn (led : Led) (v : Value) (q : Pt) : Prop := ∃ a t u, v = .ref a ∧ (a, LCg.lst [.int q.1 t, .int q.2 u]) ∈ led
theorem LsIn.mono {l l' : Led} {v : Value} {q : Pt} (h : LsIn l v q) (s : ∀ x ∈ l, x ∈ l') : LsIn l' v q := let ⟨a, t, u, e, m⟩ := h; ⟨a, t, u, e, s _ m⟩
theorem blends_get {mn bf : Int} : ∀ {qs : List Pt} {i : Nat} {p q : Pt}, qs[i]? = some p → qs[i + 1]? = some q → (blends mn bf qs)[i]? = some (bl mn bf p q)
  | p :: q :: r, 0, _, _, h1, h2 => by cases h1; cases h2; rfl
  | p :: q :: r, i + 1, a, b, h1, h2 => blends_get (qs := q :: r) (i := i) h1 h2
  | [p], i, _, _, _, h2 => by simp at h2
  | [], i, _, _, h1, _ => by simp at h1
theorem blends_len (mn bf : Int) : ∀ qs : List Pt, (blends mn bf qs).length = qs.length - 1
  | [] => rfl
  | [_] => rfl
  | p :: q :: r => by show (blends mn bf (q :: r)).length + 1 = _; rw [blends_len]; rfl
noncomputable def place (mn bf : Int) : Nat → List Pt → Pt
  | 0, qs => qs.headD (0, 0)
  | k + 1, qs => place mn bf k (blends mn bf qs)
/-- a spot as a tuple or as a list of two -/
noncomputable def SqIn (led : Led) (v : Value) (q : Pt) : Prop := ∃ a ty t u n, v = .ref a ∧ (ty = "tuple" ∨ ty = "list") ∧ (a, ({ cls := .type ty, data := .seq [.int q.1 t, .int q.2 u].toArray n } : Obj)) ∈ led
theorem PtIn.sq {led : Led} {v : Value} {q : Pt} (h : PtIn led v q) : SqIn led v q := let ⟨a, t, u, n, e, m⟩ := h; ⟨a, _, t, u, n, e, .inl rfl, m⟩
theorem LsIn.sq {led : Led} {v : Value} {q : Pt} (h : LsIn led v q) : SqIn led v q := let ⟨a, t, u, e, m⟩ := h; ⟨a, _, t, u, _, e, .inr rfl, m⟩
noncomputable def coord (i : Nat) (q : Pt) : Int := if i = 0 then q.1 else q.2
theorem ep_sq {w : World} {F : Fi} {L : Addr} {V : Env} {σ : Sg} {l sl : Expr} {p : Pos} {x : Addr} {i : Nat} {ty : String} {q : Pt} {t u : Tok} {n : Nat} (a : EP w F L V σ l (.v (.ref x))) (b : EP w F L V σ sl (.i (i : Int))) (hi : i < 2) (hty : ty = "tuple" ∨ ty = "list")
    (hm : At σ (x, ({ cls := .type ty, data := .seq [.int q.1 t, .int q.2 u].toArray n } : Obj))) (hs : ∀ (k : Int) u, subscripted sl false (.ref x) (.int k u) = operate [.ref x, .int k u] (getItem (.ref x) (.int k u))) (hg : ∀ r, letTemporaryGo l (.ref x) r = pure ()) : EP w F L V σ (.Subscript l sl p) (.i (coord i q)) := by
  obtain rfl | rfl : i = 0 ∨ i = 1 := by omega
  · rcases hty with rfl | rfl
    · exact ep_i (ep_tup a b hm rfl rfl (by decide) (by decide) (hs _))
    · exact ep_i (ep_lst a b hm (by decide) rfl (by decide) (hs _) hg)
  · rcases hty with rfl | rfl
    · exact ep_i (ep_tup a b hm rfl rfl (by decide) (by decide) (hs _))
    · exact ep_i (ep_lst a b hm (by decide) rfl (by decide) (hs _) hg)
theorem mulR8 {a b : Int} (h : b.natAbs ≤ 2000) : IntMulOk a b := IntMulOk.of_right (intBits_le_64 (by omega) (by omega))
theorem sl_tail {rv : List Value} (h : rv.length ≤ 4) : kms_pick rv (some 1) none = rv.tail := by
  rcases rv with _ | ⟨a, _ | ⟨b, _ | ⟨c, _ | ⟨d, _ | ⟨e, r⟩⟩⟩⟩⟩
  · rfl
  · rfl
  · rfl
  · rfl
  · rfl
  · exact absurd h (by simp)
theorem tail_get {α : Type} {xs : List α} {i : Nat} : xs.tail[i]? = xs[i + 1]? := by cases xs <;> simp
theorem two_of {ys : List Value} {f : Nat → Int} (h : ys.length = 2) (g : ∀ j, j < 2 → ∃ t, ys[j]? = some (.int (f j) t)) : ∃ t u, ys = [.int (f 0) t, .int (f 1) u] := by
  rcases ys with _ | ⟨a, _ | ⟨b, _ | ⟨c, r⟩⟩⟩
  · cases h
  · cases h
  · obtain ⟨t, e⟩ := g 0 (by decide)
    obtain ⟨u, e'⟩ := g 1 (by decide)
    exact ⟨t, u, by rw [Option.some.inj e, Option.some.inj e']⟩
  · cases h
theorem snoc_get {ys : List Value} {f : Nat → Int} {i : Nat} {t : Tok} (h : ys.length = i) (g : ∀ j, j < i → ∃ t, ys[j]? = some (.int (f j) t)) : (ys ++ [Value.int (f i) t]).length = i + 1 ∧ ∀ j, j < i + 1 → ∃ t', (ys ++ [Value.int (f i) t])[j]? = some (.int (f j) t') := by
  subst h
  refine ⟨by rw [List.length_append]; rfl, fun j hj => ?_⟩
  by_cases e : j < ys.length
  · obtain ⟨t', h'⟩ := g j e
    exact ⟨t', by rw [List.getElem?_append_left e]; exact h'⟩
  · have : j = ys.length := by omega
    subst this
    exact ⟨t, by simp⟩
theorem cmp_gt1 {n : Nat} : cmpI .Gt (n : Int) 1 = some (decide (1 < n)) := by
  show some (decide ((n : Int) > 1)) = _
  congr 1
  exact decide_eq_decide.mpr (by omega)
/-- the state at the head of the loop -/
structure PJ (news : Led) (a1 a2 : Addr) (mn bf : Int) (ps : List Pt) (k : Nat) (σ : Sg) (A : Addr) (rv : List Value) (qs : List Pt) (c : Nat) (o1 o2 : Obj) (gs : List Led) : Prop where
  st : ∃ m, σ = ⟨m, [(Str.ofString "row", .ref A)], [(A, lsO rv c), (a1, o1), (a2, o2)], gs, news⟩
  d1 : ∃ t, o1.data = .cell (some (.int mn t))
  d2 : ∃ t, o2.data = .cell (some (.int bf t))
  row : All2 (SqIn (gs.flatten ++ news)) rv qs
  own : k + 1 < ps.length → All2 (LsIn gs.flatten) rv qs
  len : qs.length = k + 1
  kb : k + 1 ≤ ps.length
  val : place mn bf k qs = place mn bf (ps.length - 1) ps
theorem place_con {w : World} {news : Led} {aS : Addr} {vs : List Value} {ps : List Pt} {nS : Nat} {bf mn : Int} {tb tm : Tok} (hbf : 0 ≤ bf ∧ bf ≤ 8) (hmn : 0 ≤ mn ∧ mn ≤ 8)
    (hS : (aS, lsO vs nS) ∈ news) (hv : All2 (PtIn news) vs ps) (hl : ps.length = 3 ∨ ps.length = 4) :
    ConD w 326 news [.ref aS, .int bf tb, .int mn tm] 8 100 (fun tl r => ∃ a t u, r = .ref a ∧ tl = [(a, LCg.lst [.int (place mn bf (ps.length - 1) ps).1 t, .int (place mn bf (ps.length - 1) ps).2 u])]) := by
  have hvl := hv.length
  refine con_cells ["spots", "before", "many"] (dd := 7) (uu := 97) (by k_is) (by k_is) rfl rfl (by decide +kernel) rfl rfl rfl ?_
  intro L cells Y
  obtain ⟨o1, o2, rfl, d1, d2⟩ := CellsAre.two Y
  clear Y
  have e1 : o1.data = .cell (some (.int mn tm)) := d1
  have e2 : o2.data = .cell (some (.int bf tb)) := d2
  clear d1 d2
  refine st_setn ?_ rfl
  walk_at "EG"
  repeat' (walk_at "EL")
  refine ek_list (by walk_at "AT") (.inl rfl) (sz (by omega)) (fun D c => ?_)
  walk_at "ST"
  refine st_lo (lo_all ["row"] [0, 1, 2] [] (by decide)) ?_
  refine st_while (fun k σ => ∃ A rv qs c o1 o2 gs, PJ news (L + 1 + 1) (L + 1) mn bf ps k σ A rv qs c o1 o2 gs) (i := ps.length - 1)
    ⟨D, vs, ps, c, o1, o2, [[]], ⟨_, rfl⟩, ⟨_, e1⟩, ⟨_, e2⟩, All2.mono (fun _ _ h => h.sq) hv, fun h => by omega, by omega, by omega, rfl⟩ ?_
  clear e1 e2
  rintro k σ ⟨A, rv, qs, c, o1, o2, gs, ⟨⟨m, rfl⟩, ⟨t1, d1⟩, ⟨t2, d2⟩, hrow, hown, hlen, hkb, hval⟩⟩
  have hrl := hrow.length
  refine eb_cmp (by walk_at "EI") (by walk_at "EI") cmp_gt1 (by with_unfolding_all rfl) ⟨fun h => ?_, fun h => ?_⟩
  rotate_left
  · have h0 := of_decide_eq_false h
    obtain rfl : k = 0 := by omega
    rcases rv with _ | ⟨r0, _ | ⟨r1, rv⟩⟩
    · exact absurd (hrl.trans hlen) (by simp)
    · rcases qs with _ | ⟨q0, _ | ⟨q1, qs⟩⟩
      · exact hrow.elim
      · obtain ⟨⟨a, t, u, rfl, ma⟩, _⟩ := hown (by omega)
        walk_at "ST"
        exact done_ret [(a, _)] ⟨a, t, u, rfl, by rw [← hval]⟩ rfl (fun p hp => by rw [List.mem_singleton.mp hp]; exact List.mem_append_right _ ma)
      · exact hrow.2.elim
    · exact absurd (hrl.trans hlen) (by simp)
  have hk1 := of_decide_eq_true h
  obtain ⟨k, rfl⟩ : ∃ j, k = j + 1 := ⟨k - 1, by omega⟩
  have hz : rv.length ≤ sizeLine := sz (by omega)
  refine st_zip (z0 := Str.ofString ".0") (r := Str.ofString "range") (f1 := _) (f2 := _) (by walk_at "EV") ?args rfl rfl (by decide) (fun _ _ => rfl) (fun _ _ => rfl) rfl (by decide) rfl (fun _ => rfl) rfl (fun _ => rfl) rfl rfl rfl
  case args =>
    walk_at "EL"
    refine el_cons (eg_sl (lo := some 1) (hi := none) (zs := rv.tail) (by walk_at "EV") (by walk_at "AT") (.inr ⟨_, _, rfl, rfl, by walk_at "EI"⟩) (.inl ⟨rfl, rfl⟩) hz ?tl (fun D => el_nil ?go) (by intro _; with_unfolding_all rfl) (by intro _; with_unfolding_all rfl)) rfl
    case tl => exact sl_tail (by omega)
    case go =>
      refine ⟨rfl, A, D, rv, rv.tail, c, 0, fun i ys new => All2 (LsIn new) ys ((blends mn bf qs).take i), rfl, At.mu 1 rfl, At.mu 0 rfl, by rw [List.length_tail]; omega, trivial, ?step, ?fin⟩
      case step =>
        intro i x z ys' new C c1 c2 oC p1 p2 ba hx hz' hJ q1 q2 sub
        rw [tail_get] at hz'
        obtain ⟨p, hp, ⟨ax, tyx, tx, ux, nx, rfl, htx, mx⟩⟩ := All2.get hrow hx
        obtain ⟨q, hq, ⟨az, tyz, tz, uz, nz, rfl, htz, mz⟩⟩ := All2.get hrow hz'
        have b1 : (c1, p1) ∈ ba := sub _ (.tail _ (.head _))
        have b2 : (c2, p2) ∈ ba := sub _ (.tail _ (.tail _ (.head _)))
        have up : ∀ x ∈ gs.flatten ++ news, x ∈ ba := fun x h => sub _ (.tail _ (.tail _ (.tail _ (List.mem_append_right _ (List.mem_append_right _ h)))))
        have b3 : (L + 1 + 1, o1) ∈ ba := sub _ (.tail _ (.tail _ (.tail _ (List.mem_append_right _ (.tail _ (.tail _ (.head _)))))))
        have b4 : (L + 1, o2) ∈ ba := sub _ (.tail _ (.tail _ (.tail _ (List.mem_append_right _ (.tail _ (.tail _ (.tail _ (.head _))))))))
        have b5 := up _ mx
        have b6 := up _ mz
        clear sub
        refine eg_comp (ci_range (k := 2) (fun i ys σ' => σ' = ⟨m, [], [], [], ba⟩ ∧ ys.length = i ∧ ∀ j, j < i → ∃ t, ys[j]? = some (.int (coord j p * (mn - bf) + coord j q * bf) t)) (by walk_at "EV") (by walk_at "EI") rfl (by decide) ⟨rfl, rfl, fun _ h => absurd h (Nat.not_lt_zero _)⟩ ⟨?m2, fun _ _ _ _ => trivial, ?turn2⟩ ?fin2 rfl rfl) rfl (by decide) rfl (by decide) rfl (fun _ => rfl)
        case m2 => rintro _ _ _ ⟨rfl, _⟩; rfl
        case turn2 =>
          rintro j v ys σ I oI C2 oC2 D2 m₂ hj ⟨t, rfl⟩ ⟨rfl, hyl, hys⟩ hC hx2
          refine eg_pi (ep_add (ep_mul (ep_sq (by walk_at "EV") (by walk_at "EI") hj htx (At.ba b5) (by intro _ _; with_unfolding_all rfl) (by intro _; with_unfolding_all rfl)) (by walk_at "EI") (mulR8 (by omega))) (ep_mul (ep_sq (by walk_at "EV") (by walk_at "EI") hj htz (At.ba b6) (by intro _ _; with_unfolding_all rfl) (by intro _; with_unfolding_all rfl)) (by walk_at "EI") (mulR8 (by omega)))) (fun t' => ⟨_, Lo.rfl, rfl, snoc_get hyl hys⟩)
        case fin2 =>
          rintro ys σ' ⟨rfl, hyl, hys⟩
          obtain ⟨t, u, rfl⟩ := two_of hyl hys
          refine ⟨rfl, fun D2 => ⟨rfl, rfl, ?_⟩⟩
          show All2 (LsIn ((D2, _) :: new)) (ys' ++ [.ref D2]) ((blends mn bf qs).take (i + 1))
          rw [take_snoc (blends_get hp hq)]
          exact All2.append (All2.mono (fun _ _ h => h.mono fun x hx => .tail _ hx) hJ) ⟨⟨D2, t, u, rfl, .head _⟩, trivial⟩
      case fin =>
        intro ys' new D2 hJ nD
        rw [List.take_of_length_le (by rw [blends_len, List.length_tail]; omega)] at hJ
        refine st_lo (lo_all ["row"] [0, 3, 4] [] (by decide)) (st_next ⟨k, Nat.lt_succ_self k, D2, ys', blends mn bf qs, _, o1, o2, [] :: new :: gs, ⟨_, rfl⟩, ⟨_, d1⟩, ⟨_, d2⟩, All2.mono (fun _ _ h => (h.mono fun x hx => show x ∈ (new ++ gs.flatten) ++ news from List.mem_append_left _ (List.mem_append_left _ hx)).sq) hJ, fun _ => All2.mono (fun _ _ h => h.mono fun x hx => show x ∈ new ++ gs.flatten from List.mem_append_left _ hx) hJ, by rw [blends_len]; omega, by omega, hval⟩)
end
section
noncomputable def gapV (hx hy W X Y : Int) : Int :=
  let a := hx * W - X
  let b := hy * W - Y
  let a' := if a < 0 then -a else a
  let b' := if b < 0 then -b else b
  if b' > a' then b' else a'
theorem gap_con {w : World} {news : Led} {a1 a2 : Addr} {hx hy X Y W : Int} {t1 u1 t2 u2 tw : Tok} {n1 n2 : Nat} (hW : 0 ≤ W ∧ W ≤ 1000)
    (h1 : (a1, tp hx hy t1 u1 n1) ∈ news) (h2 : (a2, lsO [.int X t2, .int Y u2] n2) ∈ news) :
    ConD w 333 news [.ref a1, .ref a2, .int W tw] 3 40 (fun tl r => tl = [] ∧ ∃ t, r = .int (gapV hx hy W X Y) t) := by
  refine con_plain ["here", "place", "whole"] (dd := 2) (uu := 37) (by k_is) (by k_is) rfl rfl rfl rfl rfl (by decide) (fun _ => rfl) ?_
  intro L
  repeat' (walk_at "ST")
  exact ek_max (done_ret0 ⟨rfl, _, rfl⟩ rfl)
end
section
noncomputable def beside (X Y W ox oy px py bd : Int) : Bool :=
  if (px - ox) * (X - ox * W) + (py - oy) * (Y - oy * W) ≤ 0 then decide ((X - ox * W) ^ 2 + (Y - oy * W) ^ 2 ≤ (bd * W) ^ 2)
  else if ((px - ox) * (px - ox) + (py - oy) * (py - oy)) * W ≤ (px - ox) * (X - ox * W) + (py - oy) * (Y - oy * W) then decide ((X - px * W) ^ 2 + (Y - py * W) ^ 2 ≤ (bd * W) ^ 2)
  else decide (((px - ox) * (Y - oy * W) - (py - oy) * (X - ox * W)) ^ 2 ≤ (bd * W) ^ 2 * ((px - ox) * (px - ox) + (py - oy) * (py - oy)))
theorem prodB {a b : Int} (A B : Nat) (ha : a.natAbs ≤ A) (hb : b.natAbs ≤ B) : (a * b).natAbs ≤ A * B := by
  rw [Int.natAbs_mul]
  exact Nat.mul_le_mul ha hb
theorem mulL {a b : Int} (h : a.natAbs ≤ 2000000) : IntMulOk a b := IntMulOk.of_left (intBits_le_64 (by omega) (by omega))
theorem mulR {a b : Int} (h : b.natAbs ≤ 2000000) : IntMulOk a b := IntMulOk.of_right (intBits_le_64 (by omega) (by omega))
theorem bsB {v o W : Int} (hW : 0 ≤ W ∧ W ≤ 1000) (hv : -1000000 ≤ v ∧ v ≤ 1000000) (ho : -1000 ≤ o ∧ o ≤ 1000) : (v - o * W).natAbs ≤ 2000000 := by
  have := prodB 1000 1000 (a := o) (b := W) (by omega) (by omega)
  omega
theorem bsD {p o : Int} (hp : -1000 ≤ p ∧ p ≤ 1000) (ho : -1000 ≤ o ∧ o ≤ 1000) : (p - o).natAbs ≤ 2000 := by omega
theorem bs64 {a : Int} (h : a.natAbs ≤ 8000000000) : a.natAbs < 2 ^ 64 := Nat.lt_of_le_of_lt h (by decide)
theorem bsS {a b : Int} (ha : a.natAbs ≤ 2000) (hb : b.natAbs ≤ 2000) : IntMulOk (a * b) (a * b) ∧ (a * a + b * b).natAbs ≤ 8000000 := by
  have h1 := prodB 2000 2000 ha ha
  have h2 := prodB 2000 2000 hb hb
  have h3 := prodB 2000 2000 ha hb
  exact ⟨IntMulOk.of_left (intBits_le_64 (by omega) (by omega)), by omega⟩
theorem mulR2 {a b : Int} (h : b.natAbs ≤ 8000000) : IntMulOk a b := IntMulOk.of_right (intBits_le_64 (by omega) (by omega))
theorem bsT {a b c d : Int} (ha : a.natAbs ≤ 2000) (hb : b.natAbs ≤ 2000000) (hc : c.natAbs ≤ 2000) (hd : d.natAbs ≤ 2000000) : (a * b - c * d).natAbs ≤ 8000000000 := by
  have h1 := prodB 2000 2000000 ha hb
  have h2 := prodB 2000 2000000 hc hd
  omega
local macro_rules | `(tactic| mul_fits) => `(tactic| first | exact mulL (Nat.le_trans (by assumption) (by decide)) | exact mulR (Nat.le_trans (by assumption) (by decide)) | exact mulL (by assumption) | exact mulR (by assumption) | exact mulR2 (by assumption))
theorem beside_con {w : World} {news : Led} {a1 a2 a3 : Addr} {pX pY W ox oy px py bd : Int} {t1 u1 t2 u2 t3 u3 tw td : Tok} {n1 n2 n3 : Nat} (hW : 0 ≤ W ∧ W ≤ 1000) (hX : -1000000 ≤ pX ∧ pX ≤ 1000000) (hY : -1000000 ≤ pY ∧ pY ≤ 1000000)
    (b1 : -1000 ≤ ox ∧ ox ≤ 1000) (b2 : -1000 ≤ oy ∧ oy ≤ 1000) (b3 : -1000 ≤ px ∧ px ≤ 1000) (b4 : -1000 ≤ py ∧ py ≤ 1000) (b5 : 0 ≤ bd ∧ bd ≤ 100)
    (h1 : (a1, lsO [.int pX t1, .int pY u1] n1) ∈ news) (h2 : (a2, tp ox oy t2 u2 n2) ∈ news) (h3 : (a3, tp px py t3 u3 n3) ∈ news) :
    ConD w 340 news [.ref a1, .int W tw, .ref a2, .ref a3, .int bd td] 3 40 (fun tl r => tl = [] ∧ r = .bool (beside pX pY W ox oy px py bd)) := by
  have q1 := bsB hW hX b1
  have q2 := bsB hW hY b2
  have q3 := bsB hW hX b3
  have q4 := bsB hW hY b4
  have q5 := bsD b3 b1
  have q6 := bsD b4 b2
  have q7 : W.natAbs ≤ 2000 := by omega
  have q8 := (bsS q5 q6).2
  have p1 := bs64 (Nat.le_trans q1 (by decide))
  have p2 := bs64 (Nat.le_trans q2 (by decide))
  have p3 := bs64 (Nat.le_trans q3 (by decide))
  have p4 := bs64 (Nat.le_trans q4 (by decide))
  have p5 : (bd * W).natAbs < 2 ^ 64 := bs64 (Nat.le_trans (prodB 100 1000 (by omega) (by omega)) (by decide))
  have p6 := bs64 (bsT q5 q2 q6 q1)
  refine con_plain ["place", "whole", "one", "other", "bound"] (dd := 2) (uu := 37) (by k_is) (by k_is) rfl rfl rfl rfl rfl (by decide) (fun _ => rfl) ?_
  intro L
  repeat' (walk_at "ST")
  all_goals (refine done_ret0 ⟨rfl, ?_⟩ rfl; unfold beside; first | (rw [if_pos (by assumption)]; rfl) | (rw [if_neg (by assumption), if_pos (by assumption)]; rfl) | (rw [if_neg (by assumption), if_neg (by assumption)]; rfl))
end
section
theorem sq_nonneg' (a : Int) : 0 ≤ a * a := by
  rcases Int.le_total 0 a with h | h
  · exact Int.mul_nonneg h h
  · have := Int.mul_nonneg (Int.neg_nonneg_of_nonpos h) (Int.neg_nonneg_of_nonpos h)
    rwa [Int.neg_mul_neg] at this
theorem le_of_sq {a b : Int} (hb : 0 ≤ b) (h : a * a ≤ b * b) : a ≤ b := by
  refine Int.not_lt.mp fun hl => ?_
  have h1 : b * b ≤ a * b := Int.mul_le_mul_of_nonneg_right (by omega) hb
  have h2 : a * b < a * a := Int.mul_lt_mul_of_pos_left hl (by omega)
  omega
/-- the sum of two vectors is no longer than their lengths together -/
theorem tri {a b c d A B : Int} (hA : 0 ≤ A) (hB : 0 ≤ B) (h : a * a + b * b ≤ A * A) (k : c * c + d * d ≤ B * B) : (a + c) * (a + c) + (b + d) * (b + d) ≤ (A + B) * (A + B) := by
  have q : a * c + b * d ≤ A * B := by
    refine le_of_sq (Int.mul_nonneg hA hB) ?_
    have h1 : (a * a + b * b) * (c * c + d * d) ≤ (A * A) * (c * c + d * d) := Int.mul_le_mul_of_nonneg_right h (by have := sq_nonneg' c; have := sq_nonneg' d; omega)
    have h2 : (A * A) * (c * c + d * d) ≤ (A * A) * (B * B) := Int.mul_le_mul_of_nonneg_left k (sq_nonneg' A)
    have h3 := sq_nonneg' (a * d - b * c)
    grind
  grind
theorem scale {a b A w : Int} (h : a * a + b * b ≤ A * A) : (w * a) * (w * a) + (w * b) * (w * b) ≤ (w * A) * (w * A) := by
  have := Int.mul_le_mul_of_nonneg_left h (sq_nonneg' w)
  grind
/-- a vector within bound*W of the segment, told by a point of it at T of s*W, is found beside it -/
theorem beside_of {X Y W ox oy px py bd s T : Int} (hs : 0 < s) (hT : 0 ≤ T) (hT2 : T ≤ s * W)
    (h : (s * (X - ox * W) - T * (px - ox)) * (s * (X - ox * W) - T * (px - ox)) + (s * (Y - oy * W) - T * (py - oy)) * (s * (Y - oy * W) - T * (py - oy)) ≤ (s * (bd * W)) * (s * (bd * W))) :
    beside X Y W ox oy px py bd = true := by
  have ss : 0 < s * s := Int.mul_pos hs hs
  have sq2 : ∀ a : Int, a ^ 2 = a * a := fun a => by grind
  unfold beside
  simp only [sq2]
  split
  · next h1 =>
    simp only [decide_eq_true_eq]
    refine Int.le_of_mul_le_mul_left (a := s * s) ?_ ss
    have a1 := Int.mul_nonneg (Int.mul_nonneg (Int.le_of_lt hs) hT) (Int.sub_nonneg.mpr h1)
    have a2 := Int.mul_nonneg (sq_nonneg' T) (Int.add_nonneg (sq_nonneg' (px - ox)) (sq_nonneg' (py - oy)))
    generalize X - ox * W = x at *
    generalize Y - oy * W = y at *
    generalize px - ox = v at *
    generalize py - oy = u at *
    generalize bd * W = q at *
    grind
  · split
    · next h1 h2 =>
      simp only [decide_eq_true_eq]
      refine Int.le_of_mul_le_mul_left (a := s * s) ?_ ss
      have e1 : X - px * W = (X - ox * W) - (px - ox) * W := by grind
      have e2 : Y - py * W = (Y - oy * W) - (py - oy) * W := by grind
      rw [e1, e2]
      have a1 := Int.mul_nonneg (Int.mul_nonneg (Int.le_of_lt hs) (Int.sub_nonneg.mpr hT2)) (Int.sub_nonneg.mpr h2)
      have a2 := Int.mul_nonneg (sq_nonneg' (s * W - T)) (Int.add_nonneg (sq_nonneg' (px - ox)) (sq_nonneg' (py - oy)))
      generalize X - ox * W = x at *
      generalize Y - oy * W = y at *
      generalize px - ox = v at *
      generalize py - oy = u at *
      generalize bd * W = q at *
      grind
    · next h1 h2 =>
      simp only [decide_eq_true_eq]
      refine Int.le_of_mul_le_mul_left (a := s * s) ?_ ss
      generalize X - ox * W = x at *
      generalize Y - oy * W = y at *
      generalize px - ox = v at *
      generalize py - oy = u at *
      generalize bd * W = q at *
      have a1 := Int.mul_le_mul_of_nonneg_right h (Int.add_nonneg (sq_nonneg' v) (sq_nonneg' u))
      have a2 := sq_nonneg' (v * (s * x - T * v) + u * (s * y - T * u))
      grind
/-- what is near has a point of the segment close by -/
theorem near_pt {px py ax ay bx by' b : Int} (h : isNear px py ax ay bx by' b = true) {s : Int} (hs : s = (if (bx - ax) * (bx - ax) + (by' - ay) * (by' - ay) = 0 then 1 else (bx - ax) * (bx - ax) + (by' - ay) * (by' - ay))) :
    ∃ t, 0 ≤ t ∧ t ≤ s ∧ (s * (px - ax) - t * (bx - ax)) * (s * (px - ax) - t * (bx - ax)) + (s * (py - ay) - t * (by' - ay)) * (s * (py - ay) - t * (by' - ay)) ≤ (s * b) * (s * b) := by
  have s1 : 0 ≤ (bx - ax) * (bx - ax) + (by' - ay) * (by' - ay) := Int.add_nonneg (sq_nonneg' _) (sq_nonneg' _)
  have hs0 : 0 < s := by rw [hs]; split <;> omega
  unfold isNear at h
  split at h
  · next h1 =>
    simp only [decide_eq_true_eq] at h
    refine ⟨0, Int.le_refl _, by omega, ?_⟩
    have := Int.mul_le_mul_of_nonneg_left h (sq_nonneg' s)
    generalize px - ax = x at *
    generalize py - ay = y at *
    grind
  · split at h
    · next h1 h2 =>
      simp only [decide_eq_true_eq] at h
      by_cases z : (bx - ax) * (bx - ax) + (by' - ay) * (by' - ay) = 0
      · exfalso
        have z1 := sq_nonneg' (bx - ax)
        have z2 := sq_nonneg' (by' - ay)
        have y1 : (bx - ax) * (bx - ax) = 0 := by omega
        have y2 : (by' - ay) * (by' - ay) = 0 := by omega
        have x1 : bx - ax = 0 := (Int.mul_eq_zero.mp y1).elim id id
        have x2 : by' - ay = 0 := (Int.mul_eq_zero.mp y2).elim id id
        rw [x1, x2] at h1
        simp at h1
      · refine ⟨s, by omega, Int.le_refl _, ?_⟩
        have := Int.mul_le_mul_of_nonneg_left h (sq_nonneg' s)
        have e1 : s * (px - ax) - s * (bx - ax) = s * (px - bx) := by grind
        have e2 : s * (py - ay) - s * (by' - ay) = s * (py - by') := by grind
        rw [e1, e2]
        generalize px - bx = x at *
        generalize py - by' = y at *
        grind
    · next h1 h2 =>
      simp only [decide_eq_true_eq] at h
      by_cases z : (bx - ax) * (bx - ax) + (by' - ay) * (by' - ay) = 0
      · omega
      · rw [if_neg z] at hs
        refine ⟨(bx - ax) * (px - ax) + (by' - ay) * (py - ay), by omega, by omega, ?_⟩
        subst hs
        have := Int.mul_le_mul_of_nonneg_left h s1
        generalize px - ax = x at *
        generalize py - ay = y at *
        generalize bx - ax = v at *
        generalize by' - ay = u at *
        grind
end
section
/-- x*F lies at most E/2 below a -/
noncomputable def Ap (F E x a : Int) : Prop := 0 ≤ 2 * (a - F * x) ∧ 2 * (a - F * x) ≤ E
theorem Ap.mid {F E E' x y a b : Int} (hF : 0 ≤ F) (h : Ap F E x a) (k : Ap F E' y b) : Ap (2 * F) (E + E' + 2 * F) ((x + y) / 2) (a + b) := by
  unfold Ap at *
  have h1 : 0 ≤ F * (x + y - 2 * ((x + y) / 2)) := Int.mul_nonneg hF (by omega)
  have h2 : 0 ≤ F * (1 - (x + y - 2 * ((x + y) / 2))) := Int.mul_nonneg hF (by omega)
  generalize (x + y) / 2 = m at *
  constructor <;> grind
theorem Ap.dbl {F E x a : Int} (h : Ap F E x a) : Ap (2 * F) (2 * E) x (2 * a) := by
  unfold Ap at *
  constructor <;> grind
theorem Ap.up {F E E' F' a' x a : Int} (h : Ap F E x a) (hE : E ≤ E') (hF : F' = F) (ha : a' = a) : Ap F' E' x a' := by
  subst hF ha
  exact ⟨h.1, by have := h.2; omega⟩
noncomputable def Apx (F E : Int) (c e : Pt) : Prop := Ap F E c.1 e.1 ∧ Ap F E c.2 e.2
noncomputable abbrev addP (p q : Pt) : Pt := (p.1 + q.1, p.2 + q.2)
noncomputable abbrev dblP (p : Pt) : Pt := (2 * p.1, 2 * p.2)
theorem Apx.mid {F E E' : Int} {c c' e e' : Pt} (hF : 0 ≤ F) (h : Apx F E c e) (k : Apx F E' c' e') : Apx (2 * F) (E + E' + 2 * F) (mid c c') (addP e e') := ⟨h.1.mid hF k.1, h.2.mid hF k.2⟩
theorem Apx.dbl {F E : Int} {c e : Pt} (h : Apx F E c e) : Apx (2 * F) (2 * E) c (dblP e) := ⟨h.1.dbl, h.2.dbl⟩
theorem Apx.up {F E E' F' : Int} {c e : Pt} (h : Apx F E c e) (hE : E ≤ E') (hF : F' = F) : Apx F' E' c e := ⟨h.1.up hE hF rfl, h.2.up hE hF rfl⟩
/-- the halves of the true curve, in whole numbers -/
noncomputable def exc : List Pt → List Pt × List Pt
  | [p1, p2, p3] => ([dblP (dblP p1), dblP (addP p1 p2), addP (addP p1 p2) (addP p2 p3)], [addP (addP p1 p2) (addP p2 p3), dblP (addP p2 p3), dblP (dblP p3)])
  | [p1, p2, p3, p4] => ([dblP (dblP (dblP p1)), dblP (dblP (addP p1 p2)), dblP (addP (addP p1 p2) (addP p2 p3)), addP (addP (addP p1 p2) (addP p2 p3)) (addP (addP p2 p3) (addP p3 p4))],
      [addP (addP (addP p1 p2) (addP p2 p3)) (addP (addP p2 p3) (addP p3 p4)), dblP (addP (addP p2 p3) (addP p3 p4)), dblP (dblP (addP p3 p4)), dblP (dblP (dblP p4))])
  | l => (l, l)
structure Rl (K n : Nat) (ps : List Pt) (W : Int) (k : Nat) (d lo : Int) (cs es : List Pt) (F : Int) : Prop where
  len : (n = 2 ∧ cs.length = 3) ∨ (n = 3 ∧ cs.length = 4)
  dk : d + (k : Int) = (K : Int)
  d0 : 0 ≤ d
  Fp : 0 < F
  w : F * ((2 : Int) ^ k) ^ n = W
  ap : All2 (Apx F (3 * d * F)) cs es
  pl : ∀ s, place ((2 : Int) ^ K) (lo + s) n ps = place ((2 : Int) ^ k) s n es
theorem two_pos (k : Nat) : 0 < (2 : Int) ^ k := Int.pow_pos (by decide)
theorem place2_half {m s : Int} {p1 p2 p3 : Pt} : place m s 2 (exc [p1, p2, p3]).1 = place (m * 2) s 2 [p1, p2, p3] := by
  simp only [exc, place, blends, List.headD_cons, bl, addP, dblP, Prod.mk.injEq]
  constructor <;> grind
theorem place2_half2 {m s : Int} {p1 p2 p3 : Pt} : place m s 2 (exc [p1, p2, p3]).2 = place (m * 2) (m + s) 2 [p1, p2, p3] := by
  simp only [exc, place, blends, List.headD_cons, bl, addP, dblP, Prod.mk.injEq]
  constructor <;> grind
theorem place3_half {m s : Int} {p1 p2 p3 p4 : Pt} : place m s 3 (exc [p1, p2, p3, p4]).1 = place (m * 2) s 3 [p1, p2, p3, p4] := by
  simp only [exc, place, blends, List.headD_cons, bl, addP, dblP, Prod.mk.injEq]
  constructor <;> grind
theorem place3_half2 {m s : Int} {p1 p2 p3 p4 : Pt} : place m s 3 (exc [p1, p2, p3, p4]).2 = place (m * 2) (m + s) 3 [p1, p2, p3, p4] := by
  simp only [exc, place, blends, List.headD_cons, bl, addP, dblP, Prod.mk.injEq]
  constructor <;> grind
variable {K n : Nat} {ps : List Pt} {W : Int} {k : Nat} {d lo F b : Int} {cs es : List Pt}
theorem Rl.step (h : Rl K n ps W (k + 1) d lo cs es F) : Rl K n ps W k (d + 1) lo (cut cs).1 (exc es).1 (F * 2 ^ n) ∧ Rl K n ps W k (d + 1) (lo + 2 ^ k) (cut cs).2 (exc es).2 (F * 2 ^ n) := by
  obtain ⟨len, dk, d0, Fp, w, ap, pl⟩ := h
  have F0 : 0 ≤ F := Int.le_of_lt Fp
  have dF : 0 ≤ d * F := Int.mul_nonneg d0 F0
  rcases len with ⟨rfl, hl⟩ | ⟨rfl, hl⟩
  · rcases cs with _ | ⟨c1, _ | ⟨c2, _ | ⟨c3, _ | ⟨c4, r⟩⟩⟩⟩ <;> simp only [List.length_cons, List.length_nil] at hl
    all_goals try omega
    rcases es with _ | ⟨e1, _ | ⟨e2, _ | ⟨e3, _ | ⟨e4, r⟩⟩⟩⟩
    · exact ap.elim
    · exact ap.2.elim
    · exact ap.2.2.elim
    · obtain ⟨a1, a2, a3, _⟩ := ap
      have m1 := a1.mid F0 a2
      have m2 := a2.mid F0 a3
      have m3 := m1.mid (by omega) m2
      have w' : F * 2 ^ 2 * ((2 : Int) ^ k) ^ 2 = W := by rw [← w]; grind
      refine ⟨⟨.inl ⟨rfl, rfl⟩, by omega, by omega, by omega, w', ⟨a1.dbl.dbl.up (by grind) (by grind), m1.dbl.up (by grind) (by grind), m3.up (by grind) (by grind), trivial⟩, fun s => ?_⟩,
        .inl ⟨rfl, rfl⟩, by omega, by omega, by omega, w', ⟨m3.up (by grind) (by grind), m2.dbl.up (by grind) (by grind), a3.dbl.dbl.up (by grind) (by grind), trivial⟩, fun s => ?_⟩
      · rw [place2_half, pl, Int.pow_succ]
      · rw [place2_half2, Int.add_assoc, pl, Int.pow_succ]
    · exact ap.2.2.2.elim
  · rcases cs with _ | ⟨c1, _ | ⟨c2, _ | ⟨c3, _ | ⟨c4, _ | ⟨c5, r⟩⟩⟩⟩⟩ <;> simp only [List.length_cons, List.length_nil] at hl
    all_goals try omega
    rcases es with _ | ⟨e1, _ | ⟨e2, _ | ⟨e3, _ | ⟨e4, _ | ⟨e5, r⟩⟩⟩⟩⟩
    · exact ap.elim
    · exact ap.2.elim
    · exact ap.2.2.elim
    · exact ap.2.2.2.elim
    · obtain ⟨a1, a2, a3, a4, _⟩ := ap
      have m1 := a1.mid F0 a2
      have m2 := a2.mid F0 a3
      have m3 := a3.mid F0 a4
      have m4 := m1.mid (by omega) m2
      have m5 := m2.mid (by omega) m3
      have m6 := m4.mid (by omega) m5
      have w' : F * 2 ^ 3 * ((2 : Int) ^ k) ^ 3 = W := by rw [← w]; grind
      refine ⟨⟨.inr ⟨rfl, rfl⟩, by omega, by omega, by omega, w', ⟨a1.dbl.dbl.dbl.up (by grind) (by grind), m1.dbl.dbl.up (by grind) (by grind), m4.dbl.up (by grind) (by grind), m6.up (by grind) (by grind), trivial⟩, fun s => ?_⟩,
        .inr ⟨rfl, rfl⟩, by omega, by omega, by omega, w', ⟨m6.up (by grind) (by grind), m5.dbl.up (by grind) (by grind), m3.dbl.dbl.up (by grind) (by grind), a4.dbl.dbl.dbl.up (by grind) (by grind), trivial⟩, fun s => ?_⟩
      · rw [place3_half, pl, Int.pow_succ]
      · rw [place3_half2, Int.add_assoc, pl, Int.pow_succ]
    · exact ap.2.2.2.2.elim
end
section
theorem err {gx gy D : Int} (h1 : 0 ≤ 2 * gx ∧ 2 * gx ≤ 3 * D) (h2 : 0 ≤ 2 * gy ∧ 2 * gy ≤ 3 * D) : gx * gx + gy * gy ≤ (3 * D) * (3 * D) := by
  have a1 : (2 * gx) * (2 * gx) ≤ (3 * D) * (3 * D) := Int.le_trans (Int.mul_le_mul_of_nonneg_right h1.2 h1.1) (Int.mul_le_mul_of_nonneg_left h1.2 (by omega))
  have a2 : (2 * gy) * (2 * gy) ≤ (3 * D) * (3 * D) := Int.le_trans (Int.mul_le_mul_of_nonneg_right h2.2 h2.1) (Int.mul_le_mul_of_nonneg_left h2.2 (by omega))
  have a3 := sq_nonneg' (3 * D)
  grind
theorem nsq {a b A B : Int} (h : a * a + b * b ≤ A * A) (h0 : 0 ≤ A) (hAB : A ≤ B) : a * a + b * b ≤ B * B := by
  have : A * A ≤ B * B := Int.le_trans (Int.mul_le_mul_of_nonneg_right hAB h0) (Int.mul_le_mul_of_nonneg_left hAB (by omega))
  omega
variable {K n : Nat} {ps : List Pt} {W : Int} {k : Nat} {d lo F b : Int} {cs es : List Pt}
/-- side o p of the told row lies beside P -/
noncomputable def Sd (W bd : Int) (P : Pt) : Pt → List Pt → Prop
  | _, [] => False
  | o, p :: r => beside P.1 P.2 W o.1 o.2 p.1 p.2 bd = true ∨ Sd W bd P p r
theorem Sd.left {W bd : Int} {P : Pt} : ∀ {o : Pt} {l l' : List Pt}, Sd W bd P o l → Sd W bd P o (l ++ l')
  | _, [], _, h => h.elim
  | _, _ :: _, _, h => h.elim .inl fun h => .inr (Sd.left h)
theorem Sd.right {W bd : Int} {P : Pt} : ∀ {o : Pt} {l l' : List Pt}, Sd W bd P (l.getLastD o) l' → Sd W bd P o (l ++ l')
  | _, [], _, h => h
  | o, a :: l, l', h => .inr (Sd.right (o := a) (l := l) (by rwa [List.getLastD_cons] at h))
theorem one_side {P o p : Pt} {W bd : Int} (h : beside P.1 P.2 W o.1 o.2 p.1 p.2 bd = true) : Sd W bd P o [p] := .inl h
/-- a place within the error of the first spot -/
theorem at_first {P o p : Pt} {W d bd : Int} (hW : 0 ≤ W) (hd : 0 ≤ d) (hb : 3 * d ≤ bd) (h : Ap W (3 * (d * W)) o.1 P.1 ∧ Ap W (3 * (d * W)) o.2 P.2) : beside P.1 P.2 W o.1 o.2 p.1 p.2 bd = true := by
  refine beside_of (s := 1) (T := 0) (by decide) (Int.le_refl _) (by omega) ?_
  have e := err (D := d * W) h.1 h.2
  have : 0 ≤ d * W := Int.mul_nonneg hd hW
  have k := nsq e (by omega) (B := bd * W) (by have := Int.mul_le_mul_of_nonneg_right hb hW; grind)
  grind
theorem at_last {P o p : Pt} {W d bd : Int} (hW : 0 ≤ W) (hd : 0 ≤ d) (hb : 3 * d ≤ bd) (h : Ap W (3 * (d * W)) p.1 P.1 ∧ Ap W (3 * (d * W)) p.2 P.2) : beside P.1 P.2 W o.1 o.2 p.1 p.2 bd = true := by
  refine beside_of (s := 1) (T := W) (by decide) hW (by omega) ?_
  have e := err (D := d * W) h.1 h.2
  have : 0 ≤ d * W := Int.mul_nonneg hd hW
  have k := nsq e (by omega) (B := bd * W) (by have := Int.mul_le_mul_of_nonneg_right hb hW; grind)
  grind
theorem pl_end2 {m : Int} {p1 p2 p3 : Pt} : place m m 2 [p1, p2, p3] = (m ^ 2 * p3.1, m ^ 2 * p3.2) := by
  simp only [place, blends, List.headD_cons, bl, Prod.mk.injEq]
  constructor <;> grind
theorem pl_end3 {m : Int} {p1 p2 p3 p4 : Pt} : place m m 3 [p1, p2, p3, p4] = (m ^ 3 * p4.1, m ^ 3 * p4.2) := by
  simp only [place, blends, List.headD_cons, bl, Prod.mk.injEq]
  constructor <;> grind
theorem pl_zero2 {m : Int} {p1 p2 p3 : Pt} : place m 0 2 [p1, p2, p3] = (m ^ 2 * p1.1, m ^ 2 * p1.2) := by
  simp only [place, blends, List.headD_cons, bl, Prod.mk.injEq]
  constructor <;> grind
theorem pl_zero3 {m : Int} {p1 p2 p3 p4 : Pt} : place m 0 3 [p1, p2, p3, p4] = (m ^ 3 * p1.1, m ^ 3 * p1.2) := by
  simp only [place, blends, List.headD_cons, bl, Prod.mk.injEq]
  constructor <;> grind
theorem Ap.times {F E x a : Int} (g : Int) (hg : 0 ≤ g) (h : Ap F E x a) : Ap (F * g) (E * g) x (g * a) := by
  unfold Ap at *
  have h1 := Int.mul_nonneg h.1 hg
  have h2 := Int.mul_le_mul_of_nonneg_right h.2 hg
  constructor <;> grind
theorem pow_nn (k n : Nat) : 0 ≤ ((2 : Int) ^ k) ^ n := Int.le_of_lt (Int.pow_pos (two_pos k))
theorem Rl.W0 (h : Rl K n ps W k d lo cs es F) : 0 ≤ W := by rw [← h.w]; exact Int.mul_nonneg (Int.le_of_lt h.Fp) (pow_nn _ _)
theorem Rl.last (h : Rl K n ps W k d lo cs es F) : Ap W (3 * (d * W)) (lastP cs).1 (place ((2 : Int) ^ K) (lo + 2 ^ k) n ps).1 ∧ Ap W (3 * (d * W)) (lastP cs).2 (place ((2 : Int) ^ K) (lo + 2 ^ k) n ps).2 := by
  obtain ⟨len, dk, d0, Fp, w, ap, pl⟩ := h
  rw [pl]
  rcases len with ⟨rfl, hl⟩ | ⟨rfl, hl⟩
  · rcases cs with _ | ⟨c1, _ | ⟨c2, _ | ⟨c3, _ | ⟨c4, r⟩⟩⟩⟩ <;> simp only [List.length_cons, List.length_nil] at hl
    all_goals try omega
    rcases es with _ | ⟨e1, _ | ⟨e2, _ | ⟨e3, _ | ⟨e4, r⟩⟩⟩⟩
    · exact ap.elim
    · exact ap.2.elim
    · exact ap.2.2.elim
    · rw [pl_end2]
      have a := ap.2.2.1
      exact ⟨(a.1.times _ (pow_nn k 2)).up (by rw [← w]; grind) w.symm rfl, (a.2.times _ (pow_nn k 2)).up (by rw [← w]; grind) w.symm rfl⟩
    · exact ap.2.2.2.elim
  · rcases cs with _ | ⟨c1, _ | ⟨c2, _ | ⟨c3, _ | ⟨c4, _ | ⟨c5, r⟩⟩⟩⟩⟩ <;> simp only [List.length_cons, List.length_nil] at hl
    all_goals try omega
    rcases es with _ | ⟨e1, _ | ⟨e2, _ | ⟨e3, _ | ⟨e4, _ | ⟨e5, r⟩⟩⟩⟩⟩
    · exact ap.elim
    · exact ap.2.elim
    · exact ap.2.2.elim
    · exact ap.2.2.2.elim
    · rw [pl_end3]
      have a := ap.2.2.2.1
      exact ⟨(a.1.times _ (pow_nn k 3)).up (by rw [← w]; grind) w.symm rfl, (a.2.times _ (pow_nn k 3)).up (by rw [← w]; grind) w.symm rfl⟩
    · exact ap.2.2.2.2.elim
theorem Rl.first (h : Rl K n ps W k d lo cs es F) : Ap W (3 * (d * W)) (cs.headD (0, 0)).1 (place ((2 : Int) ^ K) lo n ps).1 ∧ Ap W (3 * (d * W)) (cs.headD (0, 0)).2 (place ((2 : Int) ^ K) lo n ps).2 := by
  obtain ⟨len, dk, d0, Fp, w, ap, pl⟩ := h
  rw [show lo = lo + 0 by omega, pl]
  rcases len with ⟨rfl, hl⟩ | ⟨rfl, hl⟩
  · rcases cs with _ | ⟨c1, _ | ⟨c2, _ | ⟨c3, _ | ⟨c4, r⟩⟩⟩⟩ <;> simp only [List.length_cons, List.length_nil] at hl
    all_goals try omega
    rcases es with _ | ⟨e1, _ | ⟨e2, _ | ⟨e3, _ | ⟨e4, r⟩⟩⟩⟩
    · exact ap.elim
    · exact ap.2.elim
    · exact ap.2.2.elim
    · rw [pl_zero2]
      have a := ap.1
      exact ⟨(a.1.times _ (pow_nn k 2)).up (by rw [← w]; grind) w.symm rfl, (a.2.times _ (pow_nn k 2)).up (by rw [← w]; grind) w.symm rfl⟩
    · exact ap.2.2.2.elim
  · rcases cs with _ | ⟨c1, _ | ⟨c2, _ | ⟨c3, _ | ⟨c4, _ | ⟨c5, r⟩⟩⟩⟩⟩ <;> simp only [List.length_cons, List.length_nil] at hl
    all_goals try omega
    rcases es with _ | ⟨e1, _ | ⟨e2, _ | ⟨e3, _ | ⟨e4, _ | ⟨e5, r⟩⟩⟩⟩⟩
    · exact ap.elim
    · exact ap.2.elim
    · exact ap.2.2.elim
    · exact ap.2.2.2.elim
    · rw [pl_zero3]
      have a := ap.1
      exact ⟨(a.1.times _ (pow_nn k 3)).up (by rw [← w]; grind) w.symm rfl, (a.2.times _ (pow_nn k 3)).up (by rw [← w]; grind) w.symm rfl⟩
    · exact ap.2.2.2.2.elim
/-- the flat leaf, one vector u of the spots between and an error g in all -/
theorem flat_core {P o p : Pt} {W d bd b s T ux uy gx gy A : Int} (hW : 0 ≤ W) (hd : 0 ≤ d) (hb : 3 * d + b ≤ bd) (hs : 0 < s) (hT : 0 ≤ T) (hT2 : T ≤ s * W) (hA : 0 ≤ A) (hA2 : A ≤ s * (b * W))
    (hu : ux * ux + uy * uy ≤ A * A) (h1 : 0 ≤ 2 * gx ∧ 2 * gx ≤ 3 * (d * W)) (h2 : 0 ≤ 2 * gy ∧ 2 * gy ≤ 3 * (d * W))
    (ex : s * (P.1 - o.1 * W) - T * (p.1 - o.1) = ux + s * gx) (ey : s * (P.2 - o.2 * W) - T * (p.2 - o.2) = uy + s * gy) : beside P.1 P.2 W o.1 o.2 p.1 p.2 bd = true := by
  refine beside_of hs hT hT2 ?_
  rw [ex, ey]
  have dW : 0 ≤ d * W := Int.mul_nonneg hd hW
  have e := scale (w := s) (err h1 h2)
  have q := tri hA (Int.mul_nonneg (Int.le_of_lt hs) (by omega)) hu e
  refine nsq q (Int.add_nonneg hA (Int.mul_nonneg (Int.le_of_lt hs) (by omega))) ?_
  have z : 0 ≤ s * ((bd - 3 * d - b) * W) := Int.mul_nonneg (Int.le_of_lt hs) (Int.mul_nonneg (by omega) hW)
  grind
theorem wsum {w δ D : Int} (hw : 0 ≤ w) (h : 0 ≤ 2 * δ ∧ 2 * δ ≤ D) : 0 ≤ 2 * (w * δ) ∧ 2 * (w * δ) ≤ w * D := by
  have a := Int.mul_nonneg hw h.1
  have b := Int.mul_le_mul_of_nonneg_left h.2 hw
  constructor <;> grind
theorem sig_pos {x y : Int} : 0 < (if x * x + y * y = 0 then (1 : Int) else x * x + y * y) := by
  have := sq_nonneg' x
  have := sq_nonneg' y
  split <;> omega
theorem flat_leaf3 {P c1 c2 c3 e1 e2 e3 : Pt} {W d bd b w1 w2 w3 F : Int} (hF : 0 ≤ F) (hd : 0 ≤ d) (hb0 : 0 ≤ b) (hb : 3 * d + b ≤ bd) (g1 : 0 ≤ w1) (g2 : 0 ≤ w2) (g3 : 0 ≤ w3) (hw : F * (w1 + w2 + w3) = W)
    (a1 : Apx F (3 * d * F) c1 e1) (a2 : Apx F (3 * d * F) c2 e2) (a3 : Apx F (3 * d * F) c3 e3) (hx : P.1 = w1 * e1.1 + w2 * e2.1 + w3 * e3.1) (hy : P.2 = w1 * e1.2 + w2 * e2.2 + w3 * e3.2)
    (hn : isNear c2.1 c2.2 c1.1 c1.2 c3.1 c3.2 b = true) : beside P.1 P.2 W c1.1 c1.2 c3.1 c3.2 bd = true := by
  obtain ⟨t, t0, ts, hu⟩ := near_pt hn rfl
  generalize hs : (if (c3.1 - c1.1) * (c3.1 - c1.1) + (c3.2 - c1.2) * (c3.2 - c1.2) = 0 then (1 : Int) else (c3.1 - c1.1) * (c3.1 - c1.1) + (c3.2 - c1.2) * (c3.2 - c1.2)) = s at *
  have sp : 0 < s := by rw [← hs]; exact sig_pos
  clear hs
  have s0 : 0 ≤ s := Int.le_of_lt sp
  have x1 := wsum g1 a1.1
  have x2 := wsum g2 a2.1
  have x3 := wsum g3 a3.1
  have y1 := wsum g1 a1.2
  have y2 := wsum g2 a2.2
  have y3 := wsum g3 a3.2
  have Fw2 := Int.mul_nonneg hF g2
  have Fw1 := Int.mul_nonneg hF g1
  have Fw3 := Int.mul_nonneg hF g3
  have sb := Int.mul_nonneg s0 hb0
  have z1 := Int.mul_nonneg (Int.mul_nonneg Fw2 s0) hb0
  have z2 := Int.mul_nonneg (Int.mul_nonneg Fw1 s0) hb0
  have z3 := Int.mul_nonneg (Int.mul_nonneg Fw3 s0) hb0
  have T2 := Int.mul_nonneg Fw2 (Int.sub_nonneg.mpr ts)
  have T1 := Int.mul_nonneg Fw1 s0
  refine flat_core (d := d) (b := b) (s := s) (T := F * w2 * t + F * w3 * s) (ux := F * w2 * (s * (c2.1 - c1.1) - t * (c3.1 - c1.1))) (uy := F * w2 * (s * (c2.2 - c1.2) - t * (c3.2 - c1.2)))
    (gx := w1 * (e1.1 - F * c1.1) + w2 * (e2.1 - F * c2.1) + w3 * (e3.1 - F * c3.1)) (gy := w1 * (e1.2 - F * c1.2) + w2 * (e2.2 - F * c2.2) + w3 * (e3.2 - F * c3.2)) (A := F * w2 * (s * b)) ?_ hd hb sp ?_ ?_ ?_ ?_ (scale hu) ⟨?_, ?_⟩ ⟨?_, ?_⟩ ?_ ?_
  · rw [← hw]; exact Int.mul_nonneg hF (by omega)
  · exact Int.add_nonneg (Int.mul_nonneg Fw2 t0) (Int.mul_nonneg Fw3 s0)
  · rw [← hw]; grind
  · exact Int.mul_nonneg Fw2 sb
  · rw [← hw]; grind
  · omega
  · rw [← hw]; grind
  · omega
  · rw [← hw]; grind
  · rw [hx, ← hw]; grind
  · rw [hy, ← hw]; grind
theorem flat_leaf4 {P c1 c2 c3 c4 e1 e2 e3 e4 : Pt} {W d bd b w1 w2 w3 w4 F : Int} (hF : 0 ≤ F) (hd : 0 ≤ d) (hb0 : 0 ≤ b) (hb : 3 * d + b ≤ bd) (g1 : 0 ≤ w1) (g2 : 0 ≤ w2) (g3 : 0 ≤ w3) (g4 : 0 ≤ w4) (hw : F * (w1 + w2 + w3 + w4) = W)
    (a1 : Apx F (3 * d * F) c1 e1) (a2 : Apx F (3 * d * F) c2 e2) (a3 : Apx F (3 * d * F) c3 e3) (a4 : Apx F (3 * d * F) c4 e4) (hx : P.1 = w1 * e1.1 + w2 * e2.1 + w3 * e3.1 + w4 * e4.1) (hy : P.2 = w1 * e1.2 + w2 * e2.2 + w3 * e3.2 + w4 * e4.2)
    (hn : isNear c2.1 c2.2 c1.1 c1.2 c4.1 c4.2 b = true) (hn' : isNear c3.1 c3.2 c1.1 c1.2 c4.1 c4.2 b = true) : beside P.1 P.2 W c1.1 c1.2 c4.1 c4.2 bd = true := by
  obtain ⟨t, t0, ts, hu⟩ := near_pt hn rfl
  obtain ⟨t', t0', ts', hu'⟩ := near_pt hn' rfl
  generalize hs : (if (c4.1 - c1.1) * (c4.1 - c1.1) + (c4.2 - c1.2) * (c4.2 - c1.2) = 0 then (1 : Int) else (c4.1 - c1.1) * (c4.1 - c1.1) + (c4.2 - c1.2) * (c4.2 - c1.2)) = s at *
  have sp : 0 < s := by rw [← hs]; exact sig_pos
  clear hs
  have s0 : 0 ≤ s := Int.le_of_lt sp
  have x1 := wsum g1 a1.1
  have x2 := wsum g2 a2.1
  have x3 := wsum g3 a3.1
  have x4 := wsum g4 a4.1
  have y1 := wsum g1 a1.2
  have y2 := wsum g2 a2.2
  have y3 := wsum g3 a3.2
  have y4 := wsum g4 a4.2
  have Fw1 := Int.mul_nonneg hF g1
  have Fw2 := Int.mul_nonneg hF g2
  have Fw3 := Int.mul_nonneg hF g3
  have Fw4 := Int.mul_nonneg hF g4
  have sb := Int.mul_nonneg s0 hb0
  have z1 := Int.mul_nonneg (Int.mul_nonneg Fw1 s0) hb0
  have z4 := Int.mul_nonneg (Int.mul_nonneg Fw4 s0) hb0
  have T2 := Int.mul_nonneg Fw2 (Int.sub_nonneg.mpr ts)
  have T3 := Int.mul_nonneg Fw3 (Int.sub_nonneg.mpr ts')
  have T1 := Int.mul_nonneg Fw1 s0
  have A2 := Int.mul_nonneg Fw2 sb
  have A3 := Int.mul_nonneg Fw3 sb
  refine flat_core (d := d) (b := b) (s := s) (T := F * w2 * t + F * w3 * t' + F * w4 * s) (ux := F * w2 * (s * (c2.1 - c1.1) - t * (c4.1 - c1.1)) + F * w3 * (s * (c3.1 - c1.1) - t' * (c4.1 - c1.1))) (uy := F * w2 * (s * (c2.2 - c1.2) - t * (c4.2 - c1.2)) + F * w3 * (s * (c3.2 - c1.2) - t' * (c4.2 - c1.2)))
    (gx := w1 * (e1.1 - F * c1.1) + w2 * (e2.1 - F * c2.1) + w3 * (e3.1 - F * c3.1) + w4 * (e4.1 - F * c4.1)) (gy := w1 * (e1.2 - F * c1.2) + w2 * (e2.2 - F * c2.2) + w3 * (e3.2 - F * c3.2) + w4 * (e4.2 - F * c4.2)) (A := F * w2 * (s * b) + F * w3 * (s * b)) ?_ hd hb sp ?_ ?_ ?_ ?_ (tri A2 A3 (scale hu) (scale hu')) ⟨?_, ?_⟩ ⟨?_, ?_⟩ ?_ ?_
  · rw [← hw]; exact Int.mul_nonneg hF (by omega)
  · exact Int.add_nonneg (Int.add_nonneg (Int.mul_nonneg Fw2 t0) (Int.mul_nonneg Fw3 t0')) (Int.mul_nonneg Fw4 s0)
  · rw [← hw]; grind
  · exact Int.add_nonneg A2 A3
  · rw [← hw]; grind
  · omega
  · rw [← hw]; grind
  · omega
  · rw [← hw]; grind
  · rw [hx, ← hw]; grind
  · rw [hy, ← hw]; grind
theorem Rl.flat {bd s : Int} (h : Rl K n ps W k d lo cs es F) (hs : 0 ≤ s) (hs2 : s ≤ 2 ^ k) (hb0 : 0 ≤ b) (hb : 3 * d + b ≤ bd) (hf : flatB b cs = true) :
    beside (place ((2 : Int) ^ K) (lo + s) n ps).1 (place ((2 : Int) ^ K) (lo + s) n ps).2 W (cs.headD (0, 0)).1 (cs.headD (0, 0)).2 (lastP cs).1 (lastP cs).2 bd = true := by
  obtain ⟨len, dk, d0, Fp, w, ap, pl⟩ := h
  rw [pl]
  have s1 : 0 ≤ (2 : Int) ^ k - s := by omega
  generalize (2 : Int) ^ k = m at *
  rcases len with ⟨rfl, hl⟩ | ⟨rfl, hl⟩
  · rcases cs with _ | ⟨c1, _ | ⟨c2, _ | ⟨c3, _ | ⟨c4, r⟩⟩⟩⟩ <;> simp only [List.length_cons, List.length_nil] at hl
    all_goals try omega
    rcases es with _ | ⟨e1, _ | ⟨e2, _ | ⟨e3, _ | ⟨e4, r⟩⟩⟩⟩
    · exact ap.elim
    · exact ap.2.elim
    · exact ap.2.2.elim
    · obtain ⟨a1, a2, a3, _⟩ := ap
      refine flat_leaf3 (w1 := (m - s) * (m - s)) (w2 := 2 * ((m - s) * s)) (w3 := s * s) (Int.le_of_lt Fp) d0 hb0 hb (Int.mul_nonneg s1 s1) (by have := Int.mul_nonneg s1 hs; omega) (Int.mul_nonneg hs hs) (by rw [← w]; grind) a1 a2 a3 ?_ ?_ hf
      · simp only [place, blends, List.headD_cons, bl]; grind
      · simp only [place, blends, List.headD_cons, bl]; grind
    · exact ap.2.2.2.elim
  · rcases cs with _ | ⟨c1, _ | ⟨c2, _ | ⟨c3, _ | ⟨c4, _ | ⟨c5, r⟩⟩⟩⟩⟩ <;> simp only [List.length_cons, List.length_nil] at hl
    all_goals try omega
    rcases es with _ | ⟨e1, _ | ⟨e2, _ | ⟨e3, _ | ⟨e4, _ | ⟨e5, r⟩⟩⟩⟩⟩
    · exact ap.elim
    · exact ap.2.elim
    · exact ap.2.2.elim
    · exact ap.2.2.2.elim
    · obtain ⟨a1, a2, a3, a4, _⟩ := ap
      obtain ⟨f1, f2⟩ := Bool.and_eq_true_iff.mp hf
      refine flat_leaf4 (w1 := (m - s) * ((m - s) * (m - s))) (w2 := 3 * ((m - s) * (m - s) * s)) (w3 := 3 * ((m - s) * (s * s))) (w4 := s * (s * s)) (Int.le_of_lt Fp) d0 hb0 hb (Int.mul_nonneg s1 (Int.mul_nonneg s1 s1))
        (by have := Int.mul_nonneg (Int.mul_nonneg s1 s1) hs; omega) (by have := Int.mul_nonneg s1 (Int.mul_nonneg hs hs); omega) (Int.mul_nonneg hs (Int.mul_nonneg hs hs)) (by rw [← w]; grind) a1 a2 a3 a4 ?_ ?_ f1 f2
      · simp only [place, blends, List.headD_cons, bl]; grind
      · simp only [place, blends, List.headD_cons, bl]; grind
    · exact ap.2.2.2.2.elim
theorem cut_ends (h : (n = 2 ∧ cs.length = 3) ∨ (n = 3 ∧ cs.length = 4)) : (cut cs).1.headD (0, 0) = cs.headD (0, 0) ∧ lastP (cut cs).1 = (cut cs).2.headD (0, 0) ∧ lastP (cut cs).2 = lastP cs := by
  rcases cs with _ | ⟨c1, _ | ⟨c2, _ | ⟨c3, _ | ⟨c4, _ | ⟨c5, r⟩⟩⟩⟩⟩ <;> simp only [List.length_cons, List.length_nil] at h
  all_goals try omega
  · exact ⟨rfl, rfl, rfl⟩
  · exact ⟨rfl, rfl, rfl⟩
theorem fsp_last (h : (n = 2 ∧ cs.length = 3) ∨ (n = 3 ∧ cs.length = 4)) : ∀ o, (fsp b k cs).getLastD o = lastP cs := by
  induction k generalizing cs with
  | zero => exact fun o => rfl
  | succ k ih =>
    intro o
    unfold fsp
    split
    · rfl
    · have e2 : (n = 2 ∧ (cut cs).2.length = 3) ∨ (n = 3 ∧ (cut cs).2.length = 4) := by
        rcases cs with _ | ⟨c1, _ | ⟨c2, _ | ⟨c3, _ | ⟨c4, _ | ⟨c5, r⟩⟩⟩⟩⟩ <;> simp only [List.length_cons, List.length_nil] at h
        all_goals try omega
        · exact .inl ⟨by omega, rfl⟩
        · exact .inr ⟨by omega, rfl⟩
      rw [← (cut_ends h).2.2, ← ih e2 o]
      have : fsp b k (cut cs).2 ≠ [] := fun e => by
        have h0 := ih e2 (0, 0)
        have h1 := ih e2 (1, 1)
        rw [e] at h0 h1
        rw [← h0] at h1
        exact absurd (congrArg Prod.fst h1) (by decide)
      simp [List.getLastD_eq_getLast?, List.getLast?_append, List.getLast?_eq_some_getLast this]
theorem fsp_ne (h : (n = 2 ∧ cs.length = 3) ∨ (n = 3 ∧ cs.length = 4)) : fsp b k cs ≠ [] := fun e => by
  have h0 := fsp_last (b := b) (k := k) h (0, 0)
  have h1 := fsp_last (b := b) (k := k) h (1, 1)
  rw [e] at h0 h1
  rw [← h0] at h1
  exact absurd (congrArg Prod.fst h1) (by decide)
noncomputable def Gr (M : Int) (ok : Pt → Int → Prop) : Int → List Pt → Prop
  | _, [] => True
  | a, t :: r => ∃ j, a < j ∧ j ≤ M ∧ ok t j ∧ Gr M ok j r
theorem Gr.mono {M : Int} {ok : Pt → Int → Prop} : ∀ {l : List Pt} {a a' : Int}, Gr M ok a l → a' ≤ a → Gr M ok a' l
  | [], _, _, _, _ => trivial
  | _ :: _, _, _, ⟨j, h1, h2, h3, h4⟩, h => ⟨j, by omega, h2, h3, h4⟩
theorem Gr.append {M : Int} {ok : Pt → Int → Prop} {c : Int} (hc : c ≤ M) : ∀ {l l' : List Pt} {a : Int}, Gr c ok a l → a ≤ c → Gr M ok c l' → Gr M ok a (l ++ l')
  | [], _, _, _, h, k => k.mono h
  | _ :: _, _, _, ⟨j, h1, h2, h3, h4⟩, h, k => ⟨j, h1, by omega, h3, Gr.append hc h4 h2 k⟩
noncomputable def okAt (K n : Nat) (ps : List Pt) (W : Int) (t : Pt) (j : Int) : Prop := 2 * gapV t.1 t.2 W (place ((2 : Int) ^ K) j n ps).1 (place ((2 : Int) ^ K) j n ps).2 ≤ 3 * (K : Int) * W
theorem gap_ok {t q : Pt} {W D : Int} (h : Ap W D t.1 q.1 ∧ Ap W D t.2 q.2) : 2 * gapV t.1 t.2 W q.1 q.2 ≤ D := by
  unfold Ap at h
  unfold gapV
  rw [Int.mul_comm t.1 W, Int.mul_comm t.2 W]
  generalize W * t.1 = a at *
  generalize W * t.2 = c at *
  dsimp only
  split <;> split <;> split <;> omega
theorem told_ok (h : Rl K n ps W k d lo cs es F) : Gr (lo + 2 ^ k) (okAt K n ps W) lo (fsp b k cs) := by
  have W0 := h.W0
  have leaf : ∀ {k d lo cs es F}, Rl K n ps W k d lo cs es F → Gr (lo + 2 ^ k) (okAt K n ps W) lo [lastP cs] := by
    intro k d lo cs es F h
    refine ⟨lo + 2 ^ k, by have := two_pos k; omega, Int.le_refl _, ?_, trivial⟩
    refine Int.le_trans (gap_ok h.last) ?_
    have := Int.mul_nonneg (show 0 ≤ (K : Int) - d by have := h.dk; omega) W0
    grind
  induction k generalizing d lo cs es F with
  | zero => exact leaf h
  | succ k ih =>
    unfold fsp
    split
    · exact leaf h
    · obtain ⟨h1, h2⟩ := h.step
      have e : lo + (2 : Int) ^ (k + 1) = lo + 2 ^ k + 2 ^ k := by rw [Int.pow_succ]; omega
      rw [e]
      have := two_pos k
      exact Gr.append (by omega) (ih h1) (by omega) (ih h2)
theorem sides_ok {bd s : Int} (h : Rl K n ps W k d lo cs es F) (hs : 0 ≤ s) (hs2 : s ≤ 2 ^ k) (hb0 : 0 ≤ b) (hb : 3 * (K : Int) + b ≤ bd) : Sd W bd (place ((2 : Int) ^ K) (lo + s) n ps) (cs.headD (0, 0)) (fsp b k cs) := by
  induction k generalizing d lo cs es F s with
  | zero =>
    refine one_side ?_
    have dk := h.dk
    rcases (show s = 0 ∨ s = 1 by simp only [Int.pow_zero] at hs2; omega) with rfl | rfl
    · have := h.first
      rw [Int.add_zero]
      exact at_first h.W0 h.d0 (by omega) this
    · have := h.last
      rw [Int.pow_zero] at this
      exact at_last h.W0 h.d0 (by omega) this
  | succ k ih =>
    unfold fsp
    split
    · next hf =>
      exact one_side (h.flat hs hs2 hb0 (by have := h.dk; omega) hf)
    · obtain ⟨h1, h2⟩ := h.step
      have e := cut_ends h.len
      rw [← e.1]
      by_cases hk : s ≤ 2 ^ k
      · exact Sd.left (ih h1 hs hk)
      · refine Sd.right ?_
        rw [fsp_last h1.len, e.2.1]
        have := ih h2 (s := s - 2 ^ k) (by omega) (by rw [Int.pow_succ] at hs2; omega)
        rwa [show lo + 2 ^ k + (s - 2 ^ k) = lo + s by omega] at this
theorem rl_start (h : (n = 2 ∧ ps.length = 3) ∨ (n = 3 ∧ ps.length = 4)) : Rl K n ps (((2 : Int) ^ K) ^ n) K 0 0 ps ps 1 := by
  refine ⟨h, by omega, Int.le_refl _, by decide, by omega, ?_, fun s => by rw [Int.zero_add]⟩
  have : ∀ l : List Pt, All2 (Apx 1 (3 * 0 * 1)) l l := fun l => by
    induction l with
    | nil => trivial
    | cons a l ih => exact ⟨⟨⟨by omega, by omega⟩, by omega, by omega⟩, ih⟩
  exact this ps
theorem law_told (h : (n = 2 ∧ ps.length = 3) ∨ (n = 3 ∧ ps.length = 4)) : Gr ((2 : Int) ^ K) (okAt K n ps (((2 : Int) ^ K) ^ n)) 0 (fsp b K ps) := by
  have := told_ok (b := b) (rl_start (K := K) h)
  rwa [Int.zero_add] at this
theorem law_sides {j : Int} (h : (n = 2 ∧ ps.length = 3) ∨ (n = 3 ∧ ps.length = 4)) (hj : 0 ≤ j) (hj2 : j ≤ 2 ^ K) (hb0 : 0 ≤ b) : Sd (((2 : Int) ^ K) ^ n) (b + 3 * (K : Int)) (place ((2 : Int) ^ K) j n ps) (ps.headD (0, 0)) (fsp b K ps) := by
  have := sides_ok (b := b) (bd := b + 3 * (K : Int)) (rl_start (K := K) h) hj hj2 hb0 (by omega)
  rwa [Int.zero_add] at this
end
section
noncomputable def PtB (p : Pt) : Prop := (-60 ≤ p.1 ∧ p.1 ≤ 60) ∧ (-60 ≤ p.2 ∧ p.2 ≤ 60)
theorem natK {c k : Int} (e : c = 1 + k) (h0 : 0 ≤ k) (h : k < 3) : ∃ K : Nat, (K : Int) = c ∧ 1 ≤ K ∧ K ≤ 3 := ⟨c.toNat, by omega, by omega, by omega⟩
theorem two_pow8 {K : Nat} (h1 : 1 ≤ K) (h3 : K ≤ 3) : 2 ≤ (2 : Int) ^ K ∧ (2 : Int) ^ K ≤ 8 := by
  rcases (show K = 1 ∨ K = 2 ∨ K = 3 by omega) with rfl | rfl | rfl <;> decide
theorem PtB.ok {p : Pt} (h : PtB p) : PtOk p := by
  unfold PtB at h
  unfold PtOk
  omega
theorem all2_last {l : Led} : ∀ {vs : List Value} {qs : List Pt}, All2 (PtIn l) vs qs → qs ≠ [] → ∃ a t u n, vs.getLast? = some (.ref a) ∧ (a, tp (qs.getLastD (0, 0)).1 (qs.getLastD (0, 0)).2 t u n) ∈ l
  | [], [], _, h => absurd rfl h
  | [v], [q], ⟨⟨a, t, u, n, e, m⟩, _⟩, _ => ⟨a, t, u, n, by rw [e]; rfl, m⟩
  | v :: v' :: r, q :: q' :: s, ⟨_, h⟩, _ => by
    obtain ⟨a, t, u, n, e, m⟩ := all2_last (vs := v' :: r) (qs := q' :: s) h (by simp)
    exact ⟨a, t, u, n, by rw [List.getLast?_cons_cons]; exact e, by rw [List.getLastD_cons, List.getLastD_cons]; rw [List.getLastD_cons] at m; exact m⟩
  | [], _ :: _, h, _ => h.elim
  | _ :: _, [], h, _ => h.elim
  | [v], q :: q' :: s, h, _ => h.2.elim
  | v :: v' :: r, [q], h, _ => h.2.elim
noncomputable def kept (B : Int) (gs : List Pt) : List Int := (gs.filter fun g => decide (g.2 ≤ B)).map (·.1)
noncomputable def IntIs (v : Value) (j : Int) : Prop := ∃ t, v = .int j t
theorem kept_snoc {B : Int} {gs : List Pt} {i : Nat} {g : Pt} (h : gs[i]? = some g) : kept B (gs.take (i + 1)) = kept B (gs.take i) ++ (if g.2 ≤ B then [g.1] else []) := by
  unfold kept
  rw [List.take_add_one, h]
  simp only [Option.toList_some, List.filter_append, List.map_append]
  congr 1
  by_cases e : g.2 ≤ B <;> simp [e]
theorem pairs_of {l : Led} : ∀ {vs : List Value} {gs : List Pt}, All2 (PtIn l) vs gs → ∃ prs, All2 (PairIn l) vs prs ∧ All2 (fun pr g => ∃ t u, pr = (Value.int g.1 t, Value.int g.2 u)) prs gs
  | [], [], _ => ⟨[], trivial, trivial⟩
  | v :: r, g :: q, ⟨⟨a, t, u, n, e, m⟩, k⟩ => by
    obtain ⟨prs, x, y⟩ := pairs_of k
    exact ⟨(.int g.1 t, .int g.2 u) :: prs, ⟨⟨a, n, e, m⟩, x⟩, ⟨t, u, rfl⟩, y⟩
  | [], _ :: _, h => h.elim
  | _ :: _, [], h => h.elim
theorem kept_first {B b M j : Int} {g : Int → Int} (hb : b < j) (hj : j ≤ M) (hg : g j ≤ B) :
    ∃ j0 r, kept B ((List.range (M + 1 - (b + 1)).toNat).map fun i : Nat => (b + 1 + (i : Int), g (b + 1 + (i : Int)))) = j0 :: r ∧ b < j0 ∧ j0 ≤ j := by
  have key : ∀ (k : Nat) (c : Int), c ≤ j → j < c + k → ∃ j0 r, kept B ((List.range k).map fun i : Nat => (c + (i : Int), g (c + (i : Int)))) = j0 :: r ∧ c ≤ j0 ∧ j0 ≤ j := by
    intro k
    induction k with
    | zero => intro c h1 h2; omega
    | succ k ih =>
      intro c h1 h2
      rw [List.range_succ_eq_map, List.map_cons, List.map_map]
      unfold kept
      by_cases e : g c ≤ B
      · rw [List.filter_cons, if_pos (by simpa using e), List.map_cons]
        exact ⟨c, _, by simp only [Int.natCast_zero, Int.add_zero]; rfl, Int.le_refl _, h1⟩
      · have hc : c ≠ j := fun q => e (by rw [q]; exact hg)
        obtain ⟨j0, r, h3, h4, h5⟩ := ih (c + 1) (by omega) (by omega)
        refine ⟨j0, r, ?_, by omega, h5⟩
        rw [List.filter_cons, if_neg (by simpa using e)]
        unfold kept at h3
        rw [← h3]
        congr 2
        apply List.map_congr_left
        intro i _
        have : c + 1 + (i : Int) = c + ((i + 1 : Nat) : Int) := by omega
        simp only [Function.comp, Nat.succ_eq_add_one, this]
  obtain ⟨j0, r, h1, h2, h3⟩ := key (M + 1 - (b + 1)).toNat (b + 1) (by omega) (by omega)
  exact ⟨j0, r, h1, by omega, h3⟩
theorem int_rows : ∀ {vs : List Value} {j : Int} {r : List Int}, All2 IntIs vs (j :: r) → ∃ t vs', vs = .int j t :: vs'
  | v :: vs, j, r, ⟨⟨t, e⟩, _⟩ => ⟨t, vs, by rw [e]⟩
  | [], _, _, h => h.elim
theorem all2_map_get {α : Type} {R : Value → α → Prop} {vs : List Value} {k : Nat} {f : Nat → α} (h : All2 R vs ((List.range k).map f)) {i : Nat} (hi : i < k) : ∃ v, vs[i]? = some v ∧ R v (f i) := by
  have hl : vs.length = k := by rw [h.length]; simp
  have e : vs[i]? = some vs[i] := List.getElem?_eq_getElem (by omega)
  obtain ⟨b, hb, hr⟩ := All2.get h e
  rw [List.getElem?_map, List.getElem?_range hi] at hb
  have : f i = b := by simpa using hb
  exact ⟨_, e, this ▸ hr⟩
theorem rows_keep {B : Int} {gs : List Pt} {ys : List Value} {i : Nat} {g : Pt} {t : Tok} (h : All2 IntIs ys (kept B (gs.take i))) (hg : gs[i]? = some g) (e : g.2 ≤ B) : All2 IntIs (ys ++ [.int g.1 t]) (kept B (gs.take (i + 1))) := by
  rw [kept_snoc hg, if_pos e]
  exact All2.append h ⟨⟨t, rfl⟩, trivial⟩
theorem rows_skip {B : Int} {gs : List Pt} {ys : List Value} {i : Nat} {g : Pt} (h : All2 IntIs ys (kept B (gs.take i))) (hg : gs[i]? = some g) (e : ¬ g.2 ≤ B) : All2 IntIs ys (kept B (gs.take (i + 1))) := by
  rw [kept_snoc hg, if_neg e, List.append_nil]
  exact h
theorem wbnd {K nn : Nat} {ps : List Pt} (h1 : 1 ≤ K) (h3 : K ≤ 3) (h : (nn = 2 ∧ ps.length = 3) ∨ (nn = 3 ∧ ps.length = 4)) : 0 ≤ ((2 : Int) ^ K) ^ nn ∧ ((2 : Int) ^ K) ^ nn ≤ 1000 := by
  rcases (show K = 1 ∨ K = 2 ∨ K = 3 by omega) with rfl | rfl | rfl <;> rcases h with ⟨rfl, _⟩ | ⟨rfl, _⟩ <;> decide
theorem all2_zip {α β γ δ : Type} {R : α → γ → Prop} {T : β → δ → Prop} : ∀ {xs : List α} {ps : List γ} {ys : List β} {qs : List δ}, All2 R xs ps → All2 T ys qs → All2 (fun (a : α × β) (b : γ × δ) => R a.1 b.1 ∧ T a.2 b.2) (List.zip xs ys) (List.zip ps qs)
  | [], [], _, _, _, _ => by simp [All2]
  | _ :: _, _ :: _, [], [], _, _ => by simp [All2]
  | _ :: _, _ :: _, _ :: _, _ :: _, h, k => ⟨⟨h.1, k.1⟩, all2_zip h.2 k.2⟩
  | _ :: _, _ :: _, _ :: _, [], _, k => k.elim
  | _ :: _, _ :: _, [], _ :: _, _, k => k.elim
  | [], _ :: _, _, _, h, _ => h.elim
  | _ :: _, [], _, _, h, _ => h.elim
theorem sd_zip {W bd : Int} {P : Pt} : ∀ {o : Pt} {l : List Pt}, Sd W bd P o l → ∃ (j : Nat) (o' p' : Pt), (List.zip (o :: l) l)[j]? = some (o', p') ∧ beside P.1 P.2 W o'.1 o'.2 p'.1 p'.2 bd = true
  | _, [], h => h.elim
  | o, p :: r, .inl h => ⟨0, o, p, rfl, h⟩
  | o, p :: r, .inr h => by
    obtain ⟨j, o', p', e, q⟩ := sd_zip h
    exact ⟨j + 1, o', p', e, q⟩
theorem lastP_ok {ps : List Pt} (h : PsOk ps) : PtOk (lastP ps) := by
  obtain ⟨hl, hp⟩ := h
  have hne : ps ≠ [] := by rintro rfl; simp at hl
  unfold lastP
  rw [List.getLastD_eq_getLast?, List.getLast?_eq_some_getLast hne]
  exact hp _ (List.getLast_mem hne)
theorem fsp_ok {b : Int} : ∀ {k : Nat} {ps : List Pt}, PsOk ps → ∀ q ∈ fsp b k ps, PtOk q
  | 0, ps, h, q, hq => by rw [List.mem_singleton.mp hq]; exact lastP_ok h
  | k + 1, ps, h, q, hq => by
    unfold fsp at hq
    split at hq
    · rw [List.mem_singleton.mp hq]; exact lastP_ok h
    · rcases List.mem_append.mp hq with hq | hq
      · exact fsp_ok h.cut.1 q hq
      · exact fsp_ok h.cut.2 q hq
noncomputable def Bd (B : Int) (q : Pt) : Prop := (-B ≤ q.1 ∧ q.1 ≤ B) ∧ (-B ≤ q.2 ∧ q.2 ≤ B)
theorem bl_one {mn bf x y B : Int} (h0 : 0 ≤ bf) (h1 : bf ≤ mn) (hx : -B ≤ x ∧ x ≤ B) (hy : -B ≤ y ∧ y ≤ B) : -(mn * B) ≤ x * (mn - bf) + y * bf ∧ x * (mn - bf) + y * bf ≤ mn * B := by
  have a1 := Int.mul_le_mul_of_nonneg_right hx.1 (show 0 ≤ mn - bf by omega)
  have a2 := Int.mul_le_mul_of_nonneg_right hx.2 (show 0 ≤ mn - bf by omega)
  have a3 := Int.mul_le_mul_of_nonneg_right hy.1 h0
  have a4 := Int.mul_le_mul_of_nonneg_right hy.2 h0
  constructor <;> grind
theorem blends_bd {mn bf B : Int} (h0 : 0 ≤ bf) (h1 : bf ≤ mn) : ∀ {qs : List Pt}, (∀ q ∈ qs, Bd B q) → ∀ q ∈ blends mn bf qs, Bd (mn * B) q
  | [], _, q, hq => by simp [blends] at hq
  | [_], _, q, hq => by simp [blends] at hq
  | a :: b :: r, h, q, hq => by
    rcases List.mem_cons.mp hq with rfl | hq
    · have ha := h a (by simp)
      have hb := h b (by simp)
      exact ⟨bl_one h0 h1 ha.1 hb.1, bl_one h0 h1 ha.2 hb.2⟩
    · exact blends_bd h0 h1 (fun x hx => h x (List.mem_cons_of_mem _ hx)) q hq
theorem place_bd {mn bf : Int} (h0 : 0 ≤ bf) (h1 : bf ≤ mn) (h8 : mn ≤ 8) : ∀ (n : Nat) {B : Int} {qs : List Pt}, 0 ≤ B → (∀ q ∈ qs, Bd B q) → Bd (8 ^ n * B) (place mn bf n qs)
  | 0, B, [], hB, h => by simp only [place, List.headD_nil, Bd]; omega
  | 0, B, a :: r, hB, h => by
    have := h a (by simp)
    simpa [place] using this
  | n + 1, B, qs, hB, h => by
    have hm : mn * B ≤ 8 * B := Int.mul_le_mul_of_nonneg_right h8 hB
    have h2 : ∀ q ∈ blends mn bf qs, Bd (8 * B) q := fun q hq => by
      have := blends_bd h0 h1 h q hq
      unfold Bd at *
      omega
    have := place_bd h0 h1 h8 n (B := 8 * B) (by omega) h2
    rw [show (8 : Int) ^ (n + 1) * B = 8 ^ n * (8 * B) by rw [Int.pow_succ, Int.mul_assoc]]
    exact this
noncomputable def SideP (W bd : Int) (o : Pt) (l : List Pt) (q : Pt) : Prop := Sd W bd q o l ∧ (-1000000 ≤ q.1 ∧ q.1 ≤ 1000000) ∧ (-1000000 ≤ q.2 ∧ q.2 ≤ 1000000)
theorem sideP_all {K n : Nat} {b : Int} {pf : Pt} {psr : List Pt} (h : (n = 2 ∧ (pf :: psr).length = 3) ∨ (n = 3 ∧ (pf :: psr).length = 4)) (hB : ∀ p ∈ pf :: psr, PtB p) (hb0 : 0 ≤ b) (hM : (2 : Int) ^ K ≤ 8) :
    ∀ q ∈ (List.range ((2 : Int) ^ K + 1 - 0).toNat).map (fun j : Nat => place ((2 : Int) ^ K) (j : Int) n (pf :: psr)), SideP (((2 : Int) ^ K) ^ n) (b + 3 * (K : Int)) pf (fsp b K (pf :: psr)) q := by
  intro q hq
  obtain ⟨j, hj, rfl⟩ := List.mem_map.mp hq
  have hj' := List.mem_range.mp hj
  have hb : Bd (8 ^ n * 60) (place ((2 : Int) ^ K) (j : Int) n (pf :: psr)) := place_bd (by omega) (by omega) hM n (by omega) (fun p hp => by have := hB p hp; exact this)
  have hbb : (8 : Int) ^ n * 60 ≤ 1000000 := by rcases h with ⟨rfl, _⟩ | ⟨rfl, _⟩ <;> decide
  refine ⟨law_sides h (by omega) (by omega) hb0, ?_, ?_⟩
  · have := hb.1; omega
  · have := hb.2; omega
noncomputable def SdJ (W bd : Int) (P : Pt) (zs : List (Pt × Pt)) (i : Nat) (ys : List Value) : Prop := (∃ (j : Nat) (o p : Pt), j < i ∧ zs[j]? = some (o, p) ∧ beside P.1 P.2 W o.1 o.2 p.1 p.2 bd = true) → ys ≠ []
theorem SdJ.keep {W bd : Int} {P : Pt} {zs : List (Pt × Pt)} {i : Nat} {ys : List Value} {v : Value} : SdJ W bd P zs (i + 1) (ys ++ [v]) := fun _ => by simp
theorem SdJ.skip {W bd : Int} {P o p : Pt} {zs : List (Pt × Pt)} {i : Nat} {ys : List Value} (h : SdJ W bd P zs i ys) (hg : zs[i]? = some (o, p)) (hb : ¬ beside P.1 P.2 W o.1 o.2 p.1 p.2 bd = true) : SdJ W bd P zs (i + 1) ys := by
  rintro ⟨j, o', p', hj, e, q⟩
  by_cases h' : j < i
  · exact h ⟨j, o', p', h', e, q⟩
  · have : j = i := by omega
    subst this
    rw [hg] at e
    cases e
    exact absurd q hb
theorem SdJ.fin {W bd : Int} {P : Pt} {o : Pt} {l : List Pt} {k : Nat} {ys : List Value} (h : SdJ W bd P (List.zip (o :: l) l) k ys) (hk : (List.zip (o :: l) l).length ≤ k) (hs : Sd W bd P o l) : ∃ v r, ys = v :: r := by
  obtain ⟨j, o', p', e, q⟩ := sd_zip hs
  have hj := (List.getElem?_eq_some_iff.mp e).1
  exact List.exists_cons_of_ne_nil (h ⟨j, o', p', by omega, e, q⟩)
theorem All2.cons2 {α β : Type} {R : α → β → Prop} {a : α} {b : β} {l : List α} {k : List β} (h : R a b) (t : All2 R l k) : All2 R (a :: l) (b :: k) := ⟨h, t⟩
theorem PsOk.head {pf : Pt} {r : List Pt} (h : PsOk (pf :: r)) : PtOk pf := h.2 _ List.mem_cons_self
theorem zip_ok {pf : Pt} {l : List Pt} {i : Nat} {o p : Pt} (hf : PtOk pf) (hl : ∀ q ∈ l, PtOk q) (h : (List.zip (pf :: l) l)[i]? = some (o, p)) : PtOk o ∧ PtOk p := by
  have hm := List.mem_of_getElem? h
  obtain ⟨h1, h2⟩ := List.of_mem_zip hm
  refine ⟨?_, hl _ h2⟩
  rcases List.mem_cons.mp h1 with e | e
  · rw [e]; exact hf
  · exact hl _ e
end
section
section
variable {prog : Program} {w : World} {A : Around} {E : Value → Shared → Prop} {s : Shared}
theorem loadIfAlive_at {a : Addr} {Q : Option Obj → Shared → Prop} (h : Q (s.heap.get? a) s) : wpAny (model prog w) A (loadIfAlive a) Q E s := fun Γ p _ => by
  show Sem.wp _ Γ (.loadIfAlive a .pure) _ _ p s
  rw [Sem.wp_loadIfAlive]
  exact h
noncomputable abbrev zipO (f0 : Value) (b : Bool) (TI TO : Addr) : Obj := { cls := .type "zip", dict := none, data := .fields #[f0, .bool b, .bool false, .ref TI, .ref TO], slots := #[] }
theorem zip_kept {z TI TO T : Addr} {b : Bool} {o : Obj} {Q : Bool → Shared → Prop} (hz : s.heap.get? z = some (zipO (rawInt T) b TI TO)) (hT : s.heap.get? T = some o)
    (hQ : ∀ h', h'.get? z = some (zipO (rawInt T) true TI TO) → Heap.SameBut z s.heap h' → Q false { s with heap := h' }) :
    wpAny (model prog w) A (Builtin.SmallTypes.ownedTupleIsFree (.ref z)) Q E s := by
  unfold Builtin.SmallTypes.ownedTupleIsFree
  refine wpAny_bind (wpAny_field hz rfl (x := rawInt T) rfl ?_)
  show wpAny _ _ (loadIfAlive (T : Int).toNat >>= _) _ _ _
  refine wpAny_bind (loadIfAlive_at ?_)
  rw [show ((T : Nat) : Int).toNat = T from Int.toNat_natCast T]
  rw [hT]
  show wpAny _ _ (field (.ref z) 1 >>= _) _ _ _
  refine wpAny_bind (wpAny_field hz rfl (x := .bool b) rfl ?_)
  cases b with
  | true =>
    refine wpAny_ite_split (fun h => absurd h (by decide)) fun _ => ?_
    exact wpAny_pure (hQ s.heap hz (Heap.SameBut.refl ..))
  | false =>
    refine wpAny_ite_split (fun _ => ?_) fun h => absurd (by decide) h
    refine wpAny_bind (wpAny_setField_rec hz (by simp) fun h₁ hz₁ hs₁ => ?_)
    exact wpAny_pure (hQ h₁ hz₁ hs₁)
theorem zip_item2 {z TI TO i1 i2 l1 l2 T : Addr} {b : Bool} {k1 k2 : Nat} {xs ys : Array Value} {x y : Value} {o : Obj} {Q : Value → Shared → Prop} (D : ZipApart z TI TO i1 i2 l1 l2)
    (hz : s.heap.get? z = some (zipO (rawInt T) b TI TO)) (hT : s.heap.get? T = some o) (hTI : IsPair s.heap TI (.ref i1) (.ref i2))
    (h1 : s.heap.IsListIter i1 l1 k1) (h2 : s.heap.IsListIter i2 l2 k2) (hl1 : s.heap.IsList l1 xs) (hl2 : s.heap.IsList l2 ys) (hx : xs[k1]? = some x) (hy : ys[k2]? = some y)
    (hQ : ∀ h', h'.get? z = some (zipO (rawInt T) true TI TO) → h'.IsListIter i1 l1 (k1 + 1) → h'.IsListIter i2 l2 (k2 + 1) → IsPair h' s.heap.objs.size x y →
      (∀ c o, c ≠ z → c ≠ i1 → c ≠ i2 → s.heap.get? c = some o → h'.get? c = some o) → Q (.ref s.heap.objs.size) { s with heap := h' }) :
    wpAny (model prog w) A (Builtin.«zip.__next__» ⟨[.ref z], []⟩) (fun fin s' => ∃ v, fin = .done (.ret v) ∧ Q v s') E s := by
  show wpAny _ _ (field (.ref z) 2 >>= _) _ _ _
  refine wpAny_bind (wpAny_field hz rfl (x := .bool false) rfl ?_)
  show wpAny _ _ (field (.ref z) 3 >>= _) _ _ _
  refine wpAny_bind (wpAny_field hz rfl (x := .ref TI) rfl ?_)
  refine wpAny_bind (wpAny_seqItems hTI rfl ?_)
  show wpAny _ _ (Builtin.SmallTypes.ownedTupleIsFree (.ref z) >>= _) _ _ _
  refine wpAny_bind (zip_kept hz hT fun h₁ hz₁ hs₁ => ?_)
  refine wpAny_ite_split (fun h => absurd h (by decide)) fun _ => ?_
  simp only [List.forIn_toArray, List.forIn_cons, List.forIn_nil]
  refine wpAny_bind (wpAny_bind (wpAny_bind (wpAny_holding ?_)))
  show wpAny _ _ (Builtin.SmallTypes.nextOf (.ref i1) >>= _) _ _ _
  refine wpAny_bind (wpAny_nextOf_list_item (h1.extBut hs₁.extBut D.i1z) (hl1.extBut hs₁.extBut D.l1z) hx fun h₂ h1₂ hs₂ => wpAny_pure ?_)
  refine wpAny_pure ?_
  refine wpAny_bind (wpAny_bind (wpAny_holding ?_))
  show wpAny _ _ (Builtin.SmallTypes.nextOf (.ref i2) >>= _) _ _ _
  refine wpAny_bind (wpAny_nextOf_list_item ((h2.extBut hs₁.extBut D.i2z).extBut hs₂.extBut D.i12.symm) ((hl2.extBut hs₁.extBut D.l2z).extBut hs₂.extBut D.l2i1) hy fun h₃ h2₃ hs₃ => wpAny_pure ?_)
  refine wpAny_pure (wpAny_pure ?_)
  refine wpAny_bind (wpAny_newTuple (hsz := by rw [sizeLine_eq]; exact Nat.le_of_ble_eq_true rfl) ?_)
  have hsz : h₃.objs.size = s.heap.objs.size := by rw [hs₃.1, hs₂.1, hs₁.1]
  have k3 : ∀ c o, c ≠ z → c ≠ i1 → c ≠ i2 → s.heap.get? c = some o → h₃.get? c = some o := fun c o c1 c2 c3 e => hs₃.extBut _ _ c3 (hs₂.extBut _ _ c2 (hs₁.extBut _ _ c1 e))
  refine wpAny_pure ⟨_, rfl, ?_⟩
  show Q (.ref h₃.objs.size) _
  have hp := Heap.get?_push_size h₃ (o := { cls := .type "tuple", data := .seq #[x, y] }) rfl
  rw [hsz] at hp ⊢
  exact hQ _ (Heap.get?_push_of_some _ (hs₃.extBut _ _ D.i2z.symm (hs₂.extBut _ _ D.i1z.symm hz₁))) ((h1₂.extBut hs₃.extBut D.i12).at fun o e => Heap.get?_push_of_some _ e) (h2₃.at fun o e => Heap.get?_push_of_some _ e) hp
    fun c o c1 c2 c3 e => Heap.get?_push_of_some _ (k3 c o c1 c2 c3 e)
theorem zip_end2 {z TI TO i1 i2 l1 l2 T : Addr} {b : Bool} {k1 k2 : Nat} {xs ys : Array Value} {o : Obj} {Q : Fin → Shared → Prop} (hh : A.handled = none) (D : ZipApart z TI TO i1 i2 l1 l2)
    (hz : s.heap.get? z = some (zipO (rawInt T) b TI TO)) (hT : s.heap.get? T = some o) (hTI : IsPair s.heap TI (.ref i1) (.ref i2))
    (h1 : s.heap.IsListIter i1 l1 k1) (hl1 : s.heap.IsList l1 xs) (h2 : s.heap.IsListIter i2 l2 k2) (hl2 : s.heap.IsList l2 ys) (hend : xs[k1]? = none ∨ ys[k2]? = none)
    (hE : ∀ h' e, (∀ c o, c ≠ z → c ≠ i1 → c ≠ i2 → s.heap.get? c = some o → h'.get? c = some o) → (∃ o, h'.get? e = some o ∧ o.cls = .type "StopIteration") → E (.ref e) { s with heap := h' }) :
    wpAny (model prog w) A (Builtin.«zip.__next__» ⟨[.ref z], []⟩) Q E s := by
  show wpAny _ _ (field (.ref z) 2 >>= _) _ _ _
  refine wpAny_bind (wpAny_field hz rfl (x := .bool false) rfl ?_)
  show wpAny _ _ (field (.ref z) 3 >>= _) _ _ _
  refine wpAny_bind (wpAny_field hz rfl (x := .ref TI) rfl ?_)
  refine wpAny_bind (wpAny_seqItems hTI rfl ?_)
  show wpAny _ _ (Builtin.SmallTypes.ownedTupleIsFree (.ref z) >>= _) _ _ _
  refine wpAny_bind (zip_kept hz hT fun h₁ hz₁ hs₁ => ?_)
  refine wpAny_ite_split (fun h => absurd h (by decide)) fun _ => ?_
  simp only [List.forIn_toArray, List.forIn_cons, List.forIn_nil]
  refine wpAny_bind (wpAny_bind (wpAny_bind (wpAny_holding ?_)))
  show wpAny _ _ (Builtin.SmallTypes.nextOf (.ref i1) >>= _) _ _ _
  cases hx : xs[k1]? with
  | none =>
    exact wpAny_bind (wpAny_nextOf_list_end hh (h1.extBut hs₁.extBut D.i1z) (hl1.extBut hs₁.extBut D.l1z) hx fun h₂ e hs₂ he => hE h₂ e (fun c o c1 c2 _ x => hs₂ _ _ c2 (hs₁.extBut _ _ c1 x)) he)
  | some x =>
    have hy : ys[k2]? = none := by rcases hend with h | h; rw [hx] at h; cases h; exact h
    refine wpAny_bind (wpAny_nextOf_list_item (h1.extBut hs₁.extBut D.i1z) (hl1.extBut hs₁.extBut D.l1z) hx fun h₂ h1₂ hs₂ => wpAny_pure ?_)
    refine wpAny_pure ?_
    refine wpAny_bind (wpAny_bind (wpAny_holding ?_))
    show wpAny _ _ (Builtin.SmallTypes.nextOf (.ref i2) >>= _) _ _ _
    exact wpAny_bind (wpAny_nextOf_list_end hh ((h2.extBut hs₁.extBut D.i2z).extBut hs₂.extBut D.i12.symm) ((hl2.extBut hs₁.extBut D.l2z).extBut hs₂.extBut D.l2i1) hy fun h₃ e hs₃ he => hE h₃ e (fun c o c1 c2 c3 x => hs₃ _ _ c3 (hs₂.extBut _ _ c2 (hs₁.extBut _ _ c1 x))) he)
theorem next_item2 {z TI TO i1 i2 l1 l2 T : Addr} {b : Bool} {k1 k2 : Nat} {xs ys : Array Value} {x y : Value} {o : Obj} {Q : Option Value → Shared → Prop} (D : ZipApart z TI TO i1 i2 l1 l2)
    (hz : s.heap.get? z = some (zipO (rawInt T) b TI TO)) (hT : s.heap.get? T = some o) (hTI : IsPair s.heap TI (.ref i1) (.ref i2))
    (h1 : s.heap.IsListIter i1 l1 k1) (h2 : s.heap.IsListIter i2 l2 k2) (hl1 : s.heap.IsList l1 xs) (hl2 : s.heap.IsList l2 ys) (hx : xs[k1]? = some x) (hy : ys[k2]? = some y)
    (hQ : ∀ h', h'.get? z = some (zipO (rawInt T) true TI TO) → h'.IsListIter i1 l1 (k1 + 1) → h'.IsListIter i2 l2 (k2 + 1) → IsPair h' s.heap.objs.size x y →
      (∀ c o, c ≠ z → c ≠ i1 → c ≠ i2 → s.heap.get? c = some o → h'.get? c = some o) → Q (some (.ref s.heap.objs.size)) { s with heap := h' }) :
    wpAny (model prog w) A (pyNext (.ref z)) Q E s := by
  have hTy : s.TypeIs (.ref z) "zip" := ⟨_, hz, rfl⟩
  unfold pyNext
  exact wpAny_bind (wpAny_attempt (wpAny_callSpecial?_slot (name := Str.ofString "__next__") hTy F.slot_zip_next
    (wpAny_call_entry F.slot_zip_next hTy F.entry_zip_next
      (zip_item2 D hz hT hTI h1 h2 hl1 hl2 hx hy fun h' a1 a2 a3 a4 a5 => wpAny_pure (hQ h' a1 a2 a3 a4 a5)) (F.args_zip_next_1 _))))
theorem next_end2 {z TI TO i1 i2 l1 l2 T : Addr} {b : Bool} {k1 k2 : Nat} {xs ys : Array Value} {o : Obj} {Q : Option Value → Shared → Prop} (hh : A.handled = none) (D : ZipApart z TI TO i1 i2 l1 l2)
    (hz : s.heap.get? z = some (zipO (rawInt T) b TI TO)) (hT : s.heap.get? T = some o) (hTI : IsPair s.heap TI (.ref i1) (.ref i2))
    (h1 : s.heap.IsListIter i1 l1 k1) (h2 : s.heap.IsListIter i2 l2 k2) (hl1 : s.heap.IsList l1 xs) (hl2 : s.heap.IsList l2 ys) (hend : xs[k1]? = none ∨ ys[k2]? = none)
    (hQ : ∀ h', (∀ c o, c ≠ z → c ≠ i1 → c ≠ i2 → s.heap.get? c = some o → h'.get? c = some o) → Q none { s with heap := h' }) : wpAny (model prog w) A (pyNext (.ref z)) Q E s := by
  have hTy : s.TypeIs (.ref z) "zip" := ⟨_, hz, rfl⟩
  unfold pyNext
  refine wpAny_bind (wpAny_attempt (wpAny_callSpecial?_slot (name := Str.ofString "__next__") hTy F.slot_zip_next
    (wpAny_call_entry F.slot_zip_next hTy F.entry_zip_next (zip_end2 hh D hz hT hTI h1 hl1 h2 hl2 hend fun h' e hk he => ?_) (F.args_zip_next_1 _))))
  obtain ⟨o, ho, hc⟩ := he
  refine wpAny_bind (wpAny_isInstance (T := "StopIteration") (b := true) ⟨o, ho, hc⟩ isSubtype_stop ?_)
  exact wpAny_pure (hQ _ hk)
/-- one tuple that list(zip(..)) has gathered -/
noncomputable def Gat (z i1 i2 S : Addr) (h : Heap) (v : Value) (p : Value × Value) : Prop := ∃ T : Addr, v = .ref T ∧ IsPair h T p.1 p.2 ∧ T ≠ z ∧ T ≠ i1 ∧ T ≠ i2 ∧ @LT.lt Nat _ S T
theorem Gat.keep {z i1 i2 S : Addr} {h h' : Heap} {v : Value} {p : Value × Value} (g : Gat z i1 i2 S h v p) (k : ∀ c o, c ≠ z → c ≠ i1 → c ≠ i2 → c ≠ S → h.get? c = some o → h'.get? c = some o) : Gat z i1 i2 S h' v p :=
  let ⟨T, e, t, a, b, c, d⟩ := g; ⟨T, e, k _ _ a b c (Nat.ne_of_gt d) t, a, b, c, d⟩
theorem gather {R : Result → Shared → Prop} {z TI TO i1 i2 l1 l2 S : Addr} {xs ys : List Value} {prs : List (Value × Value)} {res : Value} (hh : A.in1.handled = none) (D : ZipApart z TI TO i1 i2 l1 l2) (hp : prs = List.zip xs ys) (hn : prs.length ≤ sizeLine)
    (Sz : S ≠ z) (S1 : S ≠ i1) (S2 : S ≠ i2) (ST : S ≠ TI) (Sl1 : S ≠ l1) (Sl2 : S ≠ l2) :
    ∀ (k i : Nat) (h : Heap) (tk : Nat) (acc : List Value) (c : Nat) (T : Addr) (b : Bool), prs.length - i = k → i ≤ prs.length → h.get? z = some (zipO (rawInt T) b TI TO) → (∃ o, h.get? T = some o ∧ T ≠ z ∧ T ≠ i1 ∧ T ≠ i2 ∧ T ≠ S) → IsPair h TI (.ref i1) (.ref i2) →
      h.IsListIter i1 l1 i → h.IsListIter i2 l2 i → h.IsList l1 xs.toArray → h.IsList l2 ys.toArray → h.get? S = some { cls := .type "list", dict := none, data := .seq acc.toArray c, slots := #[] } → All2 (Gat z i1 i2 S h) acc (prs.take i) →
      (∀ h' tk' acc' c', (∀ c o, c ≠ z → c ≠ i1 → c ≠ i2 → c ≠ S → h.get? c = some o → h'.get? c = some o) → h'.get? S = some { cls := .type "list", dict := none, data := .seq (List.toArray acc') c', slots := #[] } → All2 (Gat z i1 i2 S h') acc' prs → R (.ok (.ret res)) { s with heap := h', toks := tk' }) →
      codeAny (model prog w) A (.builtin "list.extend.loop" ⟨[.ref S, .ref z, res], []⟩) R { s with heap := h, toks := tk } := by
  have len : prs.length = min xs.length ys.length := by rw [hp, List.length_zip]
  intro k
  induction k with
  | zero =>
    intro i h tk acc c T b hk hi hz ⟨oT, hT, t1, t2, t3, t4⟩ hTI h1 h2 hl1 hl2 hS hacc hR
    have hin : i = prs.length := by omega
    refine codeAny_builtin F.entry_extend_loop ?_
    rw [Around.under_plainId F.plain_extend_loop _]
    show wpAny _ A.in1 (pyNext (.ref z) >>= _) _ _ _
    refine wpAny_bind (next_end2 hh D hz hT hTI h1 h2 hl1 hl2 ?_ fun h' hk' => ?_)
    · rcases Nat.le_total xs.length ys.length with q | q
      · exact .inl (by simp; omega)
      · exact .inr (by simp; omega)
    · refine wpAny_pure (hR h' tk acc c (fun c o c1 c2 c3 _ e => hk' c o c1 c2 c3 e) (hk' _ _ Sz S1 S2 hS) ?_)
      rw [hin, List.take_length] at hacc
      exact All2.mono (fun _ _ g => g.keep fun c o c1 c2 c3 _ e => hk' c o c1 c2 c3 e) hacc
  | succ k ih =>
    intro i h tk acc c T b hk hi hz ⟨oT, hT, t1, t2, t3, t4⟩ hTI h1 h2 hl1 hl2 hS hacc hR
    have hlt : i < prs.length := by omega
    have hix : i < xs.length := by omega
    have hiy : i < ys.length := by omega
    refine codeAny_builtin F.entry_extend_loop ?_
    rw [Around.under_plainId F.plain_extend_loop _]
    show wpAny _ A.in1 (pyNext (.ref z) >>= _) _ _ _
    refine wpAny_bind (next_item2 (x := xs[i]) (y := ys[i]) D hz hT hTI h1 h2 hl1 hl2 (by simp [hix]) (by simp [hiy]) fun h' hz' h1' h2' hN hk' => ?_)
    dsimp only at hN hk'
    have hS' := hk' _ _ Sz S1 S2 hS
    have lt : ∀ {c o}, h.get? c = some o → h.objs.size ≠ c := fun e => Nat.ne_of_gt (Heap.lt_size e)
    have la : acc.length = i := by rw [hacc.length, List.length_take]; omega
    show wpAny _ A.in1 (updateSeq S (·.push (.ref h.objs.size)) >>= _) _ _ _
    refine wpAny_bind ?_
    refine wpAny_updateSeq hS' rfl (wpAny_pure ⟨plainId_quiet F.plain_extend_loop _, ?_⟩) (by show acc.toArray.size ≤ _; rw [List.size_toArray]; omega) (by show (acc.toArray.push _).size ≤ sizeLine + 1; rw [Array.size_push, List.size_toArray]; omega)
    have up : ∀ c o, c ≠ S → h'.get? c = some o → (h'.update S (Obj.mapSeq (·.push (.ref h.objs.size)))).get? c = some o := fun c o hc e => (Heap.get?_update_other _ _ (fun q : S = c => hc q.symm)).trans e
    have up2 : ∀ c o, c ≠ z → c ≠ i1 → c ≠ i2 → c ≠ S → h.get? c = some o → (h'.update S (Obj.mapSeq (·.push (.ref h.objs.size)))).get? c = some o := fun c o c1 c2 c3 c4 e => up c o c4 (hk' c o c1 c2 c3 e)
    refine ih (i + 1) _ tk (acc ++ [.ref h.objs.size]) (c + 1) T true (by omega) hlt (up _ _ (Ne.symm Sz) hz') ⟨oT, up2 _ _ t1 t2 t3 t4 hT, t1, t2, t3, t4⟩ (up2 _ _ D.TIz D.TIi1 D.TIi2 (Ne.symm ST) hTI) (h1'.at fun o e => up _ o (Ne.symm S1) e) (h2'.at fun o e => up _ o (Ne.symm S2) e)
      (hl1.at fun o e => up2 _ o D.l1z D.l1i1 D.l1i2 (Ne.symm Sl1) e) (hl2.at fun o e => up2 _ o D.l2z D.l2i1 D.l2i2 (Ne.symm Sl2) e) ?_ ?_ fun h'' tk' acc' c' hk'' hS'' hacc' => hR h'' tk' acc' c' (fun c o c1 c2 c3 c4 e => hk'' c o c1 c2 c3 c4 (up2 c o c1 c2 c3 c4 e)) hS'' hacc'
    · rw [Heap.get?_update_self _ hS' rfl]
      simp [Obj.mapSeq]
    · rw [List.take_add_one]
      have e : prs[i]? = some (xs[i], ys[i]) := by rw [hp, List.getElem?_zip_eq_some]; simp [hix, hiy]
      rw [e]
      refine All2.append (All2.mono (fun _ _ g => g.keep up2) hacc) ⟨⟨h.objs.size, rfl, up _ _ (lt hS) hN, lt hz, ?_, ?_, Heap.lt_size hS⟩, trivial⟩
      · obtain ⟨o, e, _⟩ := h1; exact lt e
      · obtain ⟨o, e, _⟩ := h2; exact lt e
theorem gat_led {z i1 i2 S : Addr} {h : Heap} : ∀ {acc : List Value} {prs : List (Value × Value)}, All2 (Gat z i1 i2 S h) acc prs → ∃ tl, All2 (PairIn tl) acc prs ∧ ∀ p ∈ tl, h.get? p.1 = some p.2 ∧ @LT.lt Nat _ S p.1
  | [], [], _ => ⟨[], trivial, fun _ h => nomatch h⟩
  | v :: r, p :: q, ⟨⟨T, e, t, _, _, _, d⟩, k⟩ => by
    obtain ⟨tl, a, b⟩ := gat_led k
    refine ⟨(T, { cls := .type "tuple", data := .seq #[p.1, p.2] }) :: tl, ⟨⟨T, _, e, List.mem_cons_self⟩, All2.mono (fun _ _ ⟨T, n, e, m⟩ => ⟨T, n, e, List.mem_cons_of_mem _ m⟩) a⟩, fun x hx => ?_⟩
    rcases List.mem_cons.mp hx with h | h
    · rw [h]; exact ⟨t, d⟩
    · exact b x h
  | [], _ :: _, h => h.elim
  | _ :: _, [], h => h.elim
structure ZipAt (h₀ : Heap) (L : Addr) (news : Led) (h : Heap) (z l1 l2 : Addr) (xs ys : List Value) (TI TO i1 i2 : Addr) : Prop where
  D : ZipApart z TI TO i1 i2 l1 l2
  hz : IsZip h z TI TO .none
  hTI : IsPair h TI (.ref i1) (.ref i2)
  hTO : IsPair h TO .none .none
  h1 : h.IsListIter i1 l1 0
  h2 : h.IsListIter i2 l2 0
  hl1 : h.IsList l1 xs.toArray
  hl2 : h.IsList l2 ys.toArray
  fresh : ∀ a, (a = z ∨ a = TI ∨ a = TO ∨ a = i1 ∨ a = i2) → h₀.get? a = none ∧ a ≠ L ∧ a ≠ l1 ∧ a ≠ l2 ∧ ∀ p ∈ news, p.1 ≠ a
theorem zip_call {h₀ : Heap} {L : Addr} {m : Str → Option Value} {news : Led} {l1 l2 : Addr} {xs ys : List Value} {n1 n2 : Nat} {Q : Value → Shared → Prop} (F : Fr h₀ L s.heap m) (N : News h₀ L s.heap news)
    (hm1 : (l1, ({ cls := .type "list", data := .seq xs.toArray n1 } : Obj)) ∈ news) (hm2 : (l2, ({ cls := .type "list", data := .seq ys.toArray n2 } : Obj)) ∈ news)
    (h : ∀ z TI TO i1 i2 h', Fr h₀ L h' m → News h₀ L h' news → ZipAt h₀ L news h' z l1 l2 xs ys TI TO i1 i2 → Q (.ref z) { s with heap := h' }) :
    wpAny (model prog w) A (call (.type "zip") [.ref l1, .ref l2]) Q E s := by
  have hl1 : s.heap.IsList l1 xs.toArray := N.isList hm1
  have hl2 : s.heap.IsList l2 ys.toArray := N.isList hm2
  have g1 : l1 < s.heap.objs.size := Heap.lt_size (N _ hm1).1
  have g2 : l2 < s.heap.objs.size := Heap.lt_size (N _ hm2).1
  refine call_zip_2 hl1 hl2 fun h' hz hTI hTO hi1 hi2 hsize hk => ?_
  have F' := F.keeps hk
  refine h _ _ _ _ _ h' F' (N.grown hk) ⟨ktu_apart _ _ _ g1 g2, hz, hTI, hTO, hi1, hi2, hl1.at fun o e => hk _ o e, hl2.at fun o e => hk _ o e, fun a ha => ?_⟩
  have hge : @LE.le Nat _ s.heap.objs.size a := by
    rcases ha with rfl | rfl | rfl | rfl | rfl <;> first | exact Nat.le_refl _ | exact Nat.le_add_right _ _
  exact ⟨fresh_of F a hge, Nat.ne_of_gt (Nat.lt_of_lt_of_le F.ns.lt hge), Nat.ne_of_gt (Nat.lt_of_lt_of_le g1 hge), Nat.ne_of_gt (Nat.lt_of_lt_of_le g2 hge), fun p hp => Nat.ne_of_lt (Nat.lt_of_lt_of_le (Heap.lt_size (N p hp).1) hge)⟩
theorem zip_no_len : typeLookup (.type "zip") "__len__" = pure none := by rw [typeLookup_type, builtinLookup_eq_fast]; kernel_rfl
theorem zip_no_hint : typeLookup (.type "zip") "__length_hint__" = pure none := by rw [typeLookup_type, builtinLookup_eq_fast]; kernel_rfl
theorem hint_zip {z : Addr} {Q : Bool → Shared → Prop} (hT : s.TypeIs (.ref z) "zip") (h : Q true s) : wpAny (model prog w) A (Builtin.List.listLengthHint (.ref z)) Q E s := by
  unfold Builtin.List.listLengthHint
  refine wpAny_bind (wpAny_specialOf hT zip_no_len ?_)
  show wpAny _ A (specialOf (Value.ref z) (Str.ofString "__length_hint__") >>= _) _ _ _
  refine wpAny_bind (wpAny_specialOf hT zip_no_hint ?_)
  exact wpAny_pure h
theorem list_zip {h₀ : Heap} {L : Addr} {m : Str → Option Value} {news : Led} {z l1 l2 TI TO i1 i2 : Addr} {xs ys : List Value} {Q : Value → Shared → Prop} (hh : A.handled = none) (F : Fr h₀ L s.heap m) (N : News h₀ L s.heap news)
    (Z : ZipAt h₀ L news s.heap z l1 l2 xs ys TI TO i1 i2) (hn : xs.length ≤ 1000) (hx : 0 < xs.length) (hy : 0 < ys.length)
    (h : ∀ S c acc tl h' tk, Fr h₀ L h' m → News h₀ L h' ((S, ({ cls := .type "list", data := .seq (List.toArray acc) c } : Obj)) :: (tl ++ news)) → All2 (PairIn tl) acc (List.zip xs ys) → (∀ p ∈ news, p.1 < S) → (∀ p ∈ tl, @LT.lt Nat _ S p.1) → Q (.ref S) { s with heap := h', toks := tk }) :
    wpAny (model prog w) A (call (.type "list") [.ref z]) Q E s := by
  obtain ⟨D, hz, hTI, hTO, h1, h2, hl1, hl2, fr⟩ := Z
  generalize hSz : s.heap.objs.size = S
  have lt : ∀ {c o}, s.heap.get? c = some o → @LT.lt Nat _ c S := fun e => hSz ▸ Heap.lt_size e
  have z1 := lt hz
  have z2 := lt hTI
  have z3 := lt hTO
  have z4 : @LT.lt Nat _ i1 S := by obtain ⟨_, e, _⟩ := h1; exact lt e
  have z5 : @LT.lt Nat _ i2 S := by obtain ⟨_, e, _⟩ := h2; exact lt e
  have z6 : @LT.lt Nat _ l1 S := by obtain ⟨_, e, _⟩ := hl1; exact lt e
  have z7 : @LT.lt Nat _ l2 S := by obtain ⟨_, e, _⟩ := hl2; exact lt e
  refine callType_codes (Q₁ := fun obj s₁ => obj = .ref s.heap.objs.size ∧ s₁ = { s with heap := s.heap.push { cls := .type "list", data := .seq #[] } }) PySem.F.called_list (PySem.F.typeCall_list_1 _) PySem.F.entry_list_init
    (code_list_new _ ⟨rfl, rfl⟩) fun obj s₁ h₁ => ?_
  obtain ⟨rfl, rfl⟩ := h₁
  have hS : (s.heap.push { cls := .type "list", data := .seq #[] }).get? s.heap.objs.size = some { cls := .type "list", data := .seq #[] } := Heap.get?_push_size _ rfl
  have up : ∀ c o, s.heap.get? c = some o → (s.heap.push { cls := .type "list", data := .seq #[] }).get? c = some o := fun c o e => Heap.get?_push_of_some _ e
  refine ⟨⟨_, hS, rfl⟩, PySem.F.args_list_init_2 _ _, ?_⟩
  rw [hSz] at hS ⊢
  generalize s.heap.push { cls := .type "list", data := .seq #[] } = H at hS up ⊢
  show wpAny _ _ (do let old ← Builtin.List.listItems (.ref S); Builtin.List.listUpdate (.ref S) (fun _ => #[]); letGo old.toList.reverse; Builtin.List.listExtendWith (.ref S) (.ref z) .none) _ _ _
  refine wpAny_bind ?_
  unfold Builtin.List.listItems
  refine wpAny_bind (wpAny_seqItems hS rfl (wpAny_pure ?_))
  show wpAny _ _ (updateSeq S (fun _ => #[]) >>= fun _ => letGo (#[] : Array Value).toList.reverse >>= fun _ => Builtin.List.listExtendWith (.ref S) (.ref z) .none) _ _ _
  refine wpAny_bind (wpAny_updateSeq hS rfl ?_)
  have hS₂ := Heap.get?_update_self (Obj.mapSeq (fun _ => (#[] : Array Value))) hS rfl
  have oth : ∀ b o, s.heap.get? b = some o → (H.update S (Obj.mapSeq (fun _ => (#[] : Array Value)))).get? b = some o :=
    fun b o e => (Heap.get?_update_other _ _ (Nat.ne_of_gt (lt e))).trans (up b o e)
  generalize H.update S (Obj.mapSeq (fun _ => (#[] : Array Value))) = H2 at hS₂ oth ⊢
  refine wpAny_bind (wpAny_letGo ?_)
  unfold Builtin.List.listExtendWith
  refine wpAny_bind (wpAny_typeOf (T := "zip") ⟨_, oth _ _ hz, rfl⟩ ?_)
  have e1 : Builtin.List.listSameRef (.ref S) (.ref z) = false := by
    have : S ≠ z := Nat.ne_of_gt z1
    simp [Builtin.List.listSameRef, this]
  have e2 : (Value.type "zip" == Value.type "list") = false := by decide
  have e3 : (Value.type "zip" == Value.type "tuple") = false := by decide
  simp only [e1, e2, e3, Bool.or_false, Bool.false_eq_true, if_false]
  refine wpAny_bind (wpAny_pyIter_zip (oth _ _ hz) ?_)
  refine wpAny_bind (wpAny_holding (hint_zip ⟨_, oth _ _ hz, rfl⟩ ?_))
  refine wpAny_ite_split (fun _ => ?_) fun h => absurd (by simp) h
  refine wpAny_bind (wpAny_rule ?_)
  refine wpAny_bind ?_
  show wpAny _ _ (updateSeq S (·.push .none) >>= fun _ => updateSeq S (·.pop)) _ _ _
  refine wpAny_bind (wpAny_updateSeq hS₂ rfl ?_)
  have hS₃ := Heap.get?_update_self (Obj.mapSeq (·.push Value.none)) hS₂ rfl
  refine wpAny_updateSeq (hz := by seq_fits) hS₃ rfl ?_
  have hS₄ := Heap.get?_update_self (Obj.mapSeq (·.pop)) hS₃ rfl
  replace oth : ∀ b o, s.heap.get? b = some o → ((H2.update S (Obj.mapSeq (·.push Value.none))).update S (Obj.mapSeq (·.pop))).get? b = some o :=
    fun b o e => (Heap.get?_update_other _ _ (Nat.ne_of_gt (lt e))).trans ((Heap.get?_update_other _ _ (Nat.ne_of_gt (lt e))).trans (oth b o e))
  generalize (H2.update S (Obj.mapSeq (·.push Value.none))).update S (Obj.mapSeq (·.pop)) = H4 at hS₄ oth ⊢
  clear hS₂ hS₃
  refine wpAny_pure ⟨plainId_quiet PySem.F.plain_extend_loop _, ?_⟩
  -- the first turn
  refine codeAny_builtin PySem.F.entry_extend_loop ?_
  rw [Around.under_plainId PySem.F.plain_extend_loop _]
  show wpAny _ _ (pyNext (.ref z) >>= _) _ _ _
  have hx' : xs.toArray[0]? = some xs[0] := by simp [hx]
  have hy' : ys.toArray[0]? = some ys[0] := by simp [hy]
  refine wpAny_bind (wpAny_pyNext_zip_item D (oth _ _ hz) (oth _ _ hTI) (oth _ _ hTO) (h1.at fun o e => oth _ o e) (h2.at fun o e => oth _ o e) (hl1.at fun o e => oth _ o e) (hl2.at fun o e => oth _ o e) hx' hy' fun h' hz' hTO' h1' h2' hN hsize' hk' => ?_)
  dsimp only at hz' hN hk' hsize'
  have T0 : @LT.lt Nat _ S H4.objs.size := Heap.lt_size hS₄
  generalize H4.objs.size = T at *
  have hS' := hk' _ _ (Nat.ne_of_gt z1) (Nat.ne_of_gt z3) (Nat.ne_of_gt z4) (Nat.ne_of_gt z5) hS₄
  show wpAny _ _ (updateSeq S (·.push (.ref T)) >>= _) _ _ _
  refine wpAny_bind ?_
  refine wpAny_updateSeq hS' rfl (wpAny_pure ⟨plainId_quiet PySem.F.plain_extend_loop _, ?_⟩) (by rw [sizeLine_eq]; exact Nat.le_of_ble_eq_true rfl) (by rw [sizeLine_eq]; exact Nat.le_of_ble_eq_true rfl)
  have up3 : ∀ c o, c ≠ S → h'.get? c = some o → (h'.update S (Obj.mapSeq (·.push (.ref T)))).get? c = some o := fun c o hc e => (Heap.get?_update_other _ _ (fun q : S = c => hc q.symm)).trans e
  have up4 : ∀ c o, c ≠ z → c ≠ TO → c ≠ i1 → c ≠ i2 → s.heap.get? c = some o → (h'.update S (Obj.mapSeq (·.push (.ref T)))).get? c = some o := fun c o c1 c2 c3 c4 e => up3 c o (Nat.ne_of_lt (lt e)) (hk' c o c1 c2 c3 c4 (oth c o e))
  have Tz : @Ne Nat T z := Nat.ne_of_gt (Nat.lt_trans z1 T0)
  have T1 : @Ne Nat T i1 := Nat.ne_of_gt (Nat.lt_trans z4 T0)
  have T2 : @Ne Nat T i2 := Nat.ne_of_gt (Nat.lt_trans z5 T0)
  refine gather (prs := List.zip xs ys) (by exact hh) D rfl (by rw [List.length_zip, sizeLine_eq]; omega) (Nat.ne_of_gt z1) (Nat.ne_of_gt z4) (Nat.ne_of_gt z5) (Nat.ne_of_gt z2) (Nat.ne_of_gt z6) (Nat.ne_of_gt z7) _ 1 _ _ [.ref T] 3 T false rfl (by rw [List.length_zip]; omega)
    (up3 _ _ (Nat.ne_of_lt z1) hz') ⟨_, up3 _ _ (Nat.ne_of_gt T0) hN, Tz, T1, T2, Nat.ne_of_gt T0⟩ (up4 _ _ D.TIz D.TITO D.TIi1 D.TIi2 hTI) (h1'.at fun o e => up3 _ o (Nat.ne_of_lt z4) e) (h2'.at fun o e => up3 _ o (Nat.ne_of_lt z5) e)
    (hl1.at fun o e => up4 _ o D.l1z D.l1TO D.l1i1 D.l1i2 e) (hl2.at fun o e => up4 _ o D.l2z D.l2TO D.l2i1 D.l2i2 e) ?_ ?_ ?_
  · have e := Heap.get?_update_self (Obj.mapSeq (·.push (Value.ref T))) hS' rfl
    exact e
  · obtain ⟨x0, xr, rfl⟩ : ∃ a r, xs = a :: r := by cases xs with | nil => simp at hx | cons a r => exact ⟨a, r, rfl⟩
    obtain ⟨y0, yr, rfl⟩ : ∃ a r, ys = a :: r := by cases ys with | nil => simp at hy | cons a r => exact ⟨a, r, rfl⟩
    exact ⟨⟨T, rfl, up3 _ _ (Nat.ne_of_gt T0) hN, Tz, T1, T2, T0⟩, trivial⟩
  · intro h'' tk' acc' c' hk'' hS'' hacc'
    obtain ⟨tl, ha, ht⟩ := gat_led hacc'
    have k5 : ∀ c o, c ≠ z → c ≠ TO → c ≠ i1 → c ≠ i2 → s.heap.get? c = some o → h''.get? c = some o := fun c o c1 c2 c3 c4 e => hk'' c o c1 c3 c4 (Nat.ne_of_lt (lt e)) (up4 c o c1 c2 c3 c4 e)
    have fz := fr z (.inl rfl)
    have fTO := fr TO (.inr (.inr (.inl rfl)))
    have f1 := fr i1 (.inr (.inr (.inr (.inl rfl))))
    have f2 := fr i2 (.inr (.inr (.inr (.inr rfl))))
    have F' : Fr h₀ L h'' m := ⟨F.ns.at' fun o e => k5 L o (Ne.symm fz.2.1) (Ne.symm fTO.2.1) (Ne.symm f1.2.1) (Ne.symm f2.2.1) e, fun b o e => k5 b o (fun q => by rw [q, fz.1] at e; cases e) (fun q => by rw [q, fTO.1] at e; cases e) (fun q => by rw [q, f1.1] at e; cases e) (fun q => by rw [q, f2.1] at e; cases e) (F.keep b o e), F.above⟩
    have hLS : @LT.lt Nat _ L S := hSz ▸ F.ns.lt
    have fS : ∀ a, @LE.le Nat _ S a → h₀.get? a = none := fun a ha => fresh_of F a (hSz ▸ ha)
    refine ⟨rfl, h S c' acc' tl h'' tk' F' (fun p hp => ?_) ha (fun p hp => lt (N p hp).1) fun p hp => (ht p hp).2⟩
    rcases List.mem_cons.mp hp with rfl | hp
    · exact ⟨hS'', Nat.ne_of_gt hLS, fS _ (Nat.le_refl _)⟩
    · rcases List.mem_append.mp hp with hp | hp
      · exact ⟨(ht p hp).1, Nat.ne_of_gt (Nat.lt_trans hLS (ht p hp).2), fS _ (Nat.le_of_lt (ht p hp).2)⟩
      · exact ⟨k5 _ _ (fz.2.2.2.2 p hp) (fTO.2.2.2.2 p hp) (f1.2.2.2.2 p hp) (f2.2.2.2.2 p hp) (N p hp).1, (N p hp).2⟩
end
end
section
noncomputable def ptNe (p q : Pt) : Bool := !(p.1 == q.1 && p.2 == q.2)
theorem ptNe_iff {p q : Pt} : ptNe p q = true ↔ p ≠ q := by
  unfold ptNe
  constructor
  · intro h e
    subst e
    simp at h
  · intro h
    by_cases h1 : p.1 = q.1
    · have h2 : p.2 ≠ q.2 := fun e => h (Prod.ext h1 e)
      simp [h2]
    · simp [h1]
section
variable {prog : Program} {w : World} {A : Around} {E : Value → Shared → Prop} {s : Shared}
open PySem.SeqAt in
theorem ne_pts {a b : Addr} {x y x' y' : Int} {t u t' u' : Tok} {n n' : Nat} {Q : Value → Shared → Prop} (ha : s.heap.get? a = some (tp x y t u n)) (hb : s.heap.get? b = some (tp x' y' t' u' n')) (hu : A.units < cLine) (h : Q (.bool (ptNe (x, y) (x', y'))) s) :
    wpAny (model prog w) A (compareOp .NotEq (.ref a) (.ref b)) Q E s := by
  refine cmp_ofNotEq (RcNeAt.tuples (l := a) (b := b) (items := #[.int x t, .int y u]) (items2 := #[.int x' t', .int y' u']) (e := fun j => if j = 0 then x == x' else y == y') ⟨_, ha, rfl, _, rfl⟩ ⟨_, hb, rfl, _, rfl⟩ hu (fun j h1 h2 => ?_) prog w E Q ?_)
  · have h3 : j < 2 := h1
    match j, h3 with
    | 0, _ => exact EqAt.int_int (A := A.in1) (s := s) x t x' t'
    | 1, _ => exact EqAt.int_int (A := A.in1) (s := s) y u y' u'
  · have e : (!((List.range (min (#[Value.int x t, .int y u] : Array Value).size (#[Value.int x' t', .int y' u'] : Array Value).size)).all (fun j => if j = 0 then x == x' else y == y') && (#[Value.int x t, .int y u] : Array Value).size == (#[Value.int x' t', .int y' u'] : Array Value).size)) = ptNe (x, y) (x', y') := by
      show (!((List.range 2).all (fun j => if j = 0 then x == x' else y == y') && true)) = _
      unfold ptNe
      simp [List.range_succ]
    rw [e]
    exact h
end
theorem dist_app {mu m2 n : Led} (d : Dist mu (m2 ++ n)) (d2 : Dist m2 n) : Dist (mu ++ m2) n := by
  induction mu with
  | nil => exact d2
  | cons p r ih => exact ⟨fun q hq => (List.mem_append.mp hq).elim (d.1 q) fun h => d.2.1 q (List.mem_append_left _ h), fun q hq => d.2.1 q (List.mem_append_right _ hq), ih d.2.2⟩
/-- a contract: the first objects may be changed, others are made: some to be changed, some to stand -/
noncomputable def ConV (w : World) (f : Addr) (mu0 ba : Led) (vs : List Value) (dd uu : Nat) (Ret : Led → Led → Led → Value → Prop) : Prop :=
  ∀ (mean : ExcName → Option Value) (mg mb : Str → Option Value) (dp un : Nat) (gd : Option (List Code)) (cn : Str) (cs : Scope) (a : Addr) (ccd : Value) (cl : List (Str × Addr)) (outer : List Env) (A₀ : Around) (base h₀ : Heap) (L : Addr) (m : Str → Option Value) (s : Shared) (R : Result → Shared → Prop),
    Below A₀ base outer h₀ → Fr h₀ L s.heap m → (hd.heap_39 w.params).In h₀ → News h₀ L s.heap (mu0 ++ ba) → Top hd.view_39 (looseW hd.view_39 [Str.ofString "fraction"]) mean mg mb h₀ → cs.kind = .function → dp + dd < recursionLimit → un + uu < cLine →
    (∀ r nw mu' tl h' tk', Fr h₀ L h' m → News h₀ L h' (nw ++ (mu' ++ (tl ++ ba))) → mu'.map (·.1) = mu0.map (·.1) → (∀ p ∈ mu', ∀ q ∈ tl, p.1 ≠ q.1) → (∀ p ∈ tl, ∀ q ∈ ba, p.1 ≠ q.1) → Dist nw (mu' ++ (tl ++ ba)) → Ret nw mu' tl r → R (.ok (.ret r)) { s with heap := h', toks := tk' }) →
    codeAny (model Challenge.rw_pf0204_01.row.prog w) (ktrTop dp un gd cn cs L a ccd cl outer) (.call (.ref f) ⟨vs, []⟩) R s
noncomputable def ConU (w : World) (f : Addr) (mu0 ba : Led) (vs : List Value) (dd uu : Nat) (Ret : Led → Led → Value → Prop) : Prop := ConV w f mu0 ba vs dd uu fun nw mu' tl r => nw = [] ∧ Ret mu' tl r
theorem dist_part {nw rs n X : Led} (D : Dist (nw ++ rs) n) (h : ∀ p ∈ X, p ∈ rs ++ n) : Dist nw X := by
  induction nw with
  | nil => trivial
  | cons a r ih => exact ⟨fun q hq => D.1 q (List.mem_append_left _ hq), fun q hq => (List.mem_append.mp (h q hq)).elim (fun h => D.1 q (List.mem_append_right _ h)) (D.2.1 q), ih D.2.2⟩
theorem dist_sub {nw X Y : Led} (D : Dist nw X) (h : ∀ p ∈ Y, p ∈ X) : Dist nw Y := by
  induction nw with
  | nil => trivial
  | cons a r ih => exact ⟨D.1, fun q hq => D.2.1 q (h q hq), ih D.2.2⟩
theorem st_mono {w : World} {F : Fi} {L : Addr} {σ : Sg} {b : List Stmt} {RF RF' : Flow → Sg → Prop} (a : ST w F L σ b RF) (k : ∀ fl σ', RF fl σ' → RF' fl σ') : ST w F L σ b RF' :=
  fun c h tk Q E hE S hq => a c h tk Q E hE S fun fl σ' h' tk' S' r => hq fl σ' h' tk' S' (k fl σ' r)
section
variable {w : World} {mu0 ba : Led} {f : Addr} {vs : List Value} {dd uu : Nat}
/-- how a def ends that changes the caller's objects -/
noncomputable def DoneV (mu0 ba : Led) (Ret : Led → Led → Led → Value → Prop) (fl : Flow) (σ : Sg) : Prop := ∃ v nw rs mu' tl, (fl = .ret v ∨ fl = .next ∧ v = .none) ∧ σ.ba = ba ∧ σ.mu = nw ++ rs ∧ (∀ p ∈ mu', p ∈ rs) ∧ mu'.map (·.1) = mu0.map (·.1) ∧ (∀ p ∈ tl, p ∈ σ.ow.flatten) ∧ Ret nw mu' tl v
noncomputable def DoneU (mu0 ba : Led) (Ret : Led → Led → Value → Prop) (fl : Flow) (σ : Sg) : Prop := ∃ v mu' tl, (fl = .ret v ∨ fl = .next ∧ v = .none) ∧ σ.ba = ba ∧ (∀ p ∈ mu', p ∈ σ.mu) ∧ mu'.map (·.1) = mu0.map (·.1) ∧ (∀ p ∈ tl, p ∈ σ.ow.flatten) ∧ Ret mu' tl v
theorem con_V {Ret : Led → Led → Led → Value → Prop} (ps : List String) {name qual : Str} {params : Arguments} {body : List Stmt} {scope : Scope} {dV kV doc pm cdv ct oc : Value} {an od : Option Addr} {osl : Array (Option Value)}
    (ho : (hd.heap_39 w.params).lookup f = some ⟨oc, od, .func (fnOf name qual params body scope dV kV doc pm an cdv ct), osl⟩) (hcd : codeIn (hd.heap_39 w.params) cdv qual = true)
    (hbind : bindArgs (fnOf name qual params body scope dV kV doc pm an cdv ct) ⟨vs, []⟩ = pure (nm ps vs)) (hkinds : ((nm ps vs).all fun y => scope.names.lookup y.1 == some .local || scope.names.lookup y.1 == some .cell) = true) (hnd : ((cellsFrom 0 scope.names []).map (·.1)).Nodup)
    (hco : scope.isCoroutine = false) (hgen : scope.isGenerator = false) (hk : scope.kind = .function) (hD : Dist mu0 ba)
    (hST : ∀ L cells, CellsAre (bindC ((⟨qual, scope, f, cdv, dd, uu⟩ : Fi).env L).kindOf (nm ps vs) fun _ => none) (cellsFrom (L + 1) scope.names []) cells →
      ST w ⟨qual, scope, f, cdv, dd, uu⟩ L ⟨bindL ((⟨qual, scope, f, cdv, dd, uu⟩ : Fi).env L).kindOf (nm ps vs) fun _ => none, ((nm ps vs).filter fun y => decide (((⟨qual, scope, f, cdv, dd, uu⟩ : Fi).env L).kindOf y.1 = some .local)).reverse, cells ++ mu0, [], ba⟩ body (DoneV mu0 ba Ret)) : ConV w f mu0 ba vs (dd + 1) (uu + 3) Ret := by
  intro mean mg mb dp un gd cn cs a ccd cl outer A₀ base h₀ L m s R B F X N T hk' hd' hu hret
  refine code_defC B F X N T rfl rfl hk' ho hcd (Nat.lt_of_le_of_lt (Nat.le_add_right _ _) hd') (BindsTo.of_eq hbind) hkinds hnd ?_ hco hgen hk
  intro g L' h₁ tk cells FG F' N' Y B' X' T' l1
  obtain ⟨p1, p2⟩ := cells_desc (n0 := L' + 1) scope.names (L' + 1) [] .nil (fun _ h => nomatch h) (Nat.le_refl _)
  have D := dist_app (cells_dist (fun p hp => Nat.lt_succ_of_lt (l1 p hp)) Y p1 p2).1 hD
  refine hST L' cells Y ⟨dp + 1, un + 3, gd, envX cn cs L a ccd cl :: outer, ktrTop dp un gd cn cs L a ccd cl outer, base, g, mean, mg, mb, s.gens, s.drawn, s.os, B', X', T', by simpa [Nat.add_assoc, Nat.add_comm 1] using hd', by simpa [Nat.add_assoc, Nat.add_comm 3] using hu⟩ h₁ tk _ _ PassesOwn.leaving ⟨F', fun x v hv => bindL_known _ _ x v hv, fun p hp => N' p (by simpa [Sg.led] using hp), D, fun p hp => nomatch hp⟩ ?_
  rintro fl σ' h' tk' S' ⟨v, nw, rs, mu', tl, hv, hba, h0, h1, h2, h3, hr⟩
  refine leaveK_ S'.fr S'.nw fun F3 N3 => ?_
  have D' := S'.dm
  rw [h0] at D'
  have sub : ∀ p ∈ mu' ++ (tl ++ ba), p ∈ rs ++ (σ'.ow.flatten ++ σ'.ba) := fun p hp => by
    rcases List.mem_append.mp hp with hp | hp
    · exact List.mem_append_left _ (h1 p hp)
    · rcases List.mem_append.mp hp with hp | hp
      · exact List.mem_append_right _ (List.mem_append_left _ (h3 p hp))
      · exact List.mem_append_right _ (List.mem_append_right _ (hba ▸ hp))
  have fin : R (.ok (.ret v)) { s with heap := h', toks := tk' } := hret v nw mu' tl h' tk' F3 (fun p hp => N3 p (by
    show p ∈ σ'.mu ++ _
    rw [h0, List.append_assoc]
    rcases List.mem_append.mp hp with hp | hp
    · exact List.mem_append_left _ hp
    · exact List.mem_append_right _ (sub p hp))) h2 (fun p hp q hq => dist_mem S'.dm p (h0 ▸ List.mem_append_right _ (h1 p hp)) q (List.mem_append_left _ (h3 q hq))) (fun p hp q hq => S'.ab p (h3 p hp) q (hba ▸ hq)) (dist_part D' sub) hr
  rcases hv with rfl | ⟨rfl, rfl⟩
  · exact fin
  · exact fin
variable {Ret : Led → Led → Value → Prop}
theorem con_U (ps : List String) {name qual : Str} {params : Arguments} {body : List Stmt} {scope : Scope} {dV kV doc pm cdv ct oc : Value} {an od : Option Addr} {osl : Array (Option Value)}
    (ho : (hd.heap_39 w.params).lookup f = some ⟨oc, od, .func (fnOf name qual params body scope dV kV doc pm an cdv ct), osl⟩) (hcd : codeIn (hd.heap_39 w.params) cdv qual = true)
    (hbind : bindArgs (fnOf name qual params body scope dV kV doc pm an cdv ct) ⟨vs, []⟩ = pure (nm ps vs)) (hkinds : ((nm ps vs).all fun y => scope.names.lookup y.1 == some .local || scope.names.lookup y.1 == some .cell) = true) (hnd : ((cellsFrom 0 scope.names []).map (·.1)).Nodup)
    (hco : scope.isCoroutine = false) (hgen : scope.isGenerator = false) (hk : scope.kind = .function) (hD : Dist mu0 ba)
    (hST : ∀ L cells, CellsAre (bindC ((⟨qual, scope, f, cdv, dd, uu⟩ : Fi).env L).kindOf (nm ps vs) fun _ => none) (cellsFrom (L + 1) scope.names []) cells →
      ST w ⟨qual, scope, f, cdv, dd, uu⟩ L ⟨bindL ((⟨qual, scope, f, cdv, dd, uu⟩ : Fi).env L).kindOf (nm ps vs) fun _ => none, ((nm ps vs).filter fun y => decide (((⟨qual, scope, f, cdv, dd, uu⟩ : Fi).env L).kindOf y.1 = some .local)).reverse, cells ++ mu0, [], ba⟩ body (DoneU mu0 ba Ret)) : ConU w f mu0 ba vs (dd + 1) (uu + 3) Ret :=
  con_V ps ho hcd hbind hkinds hnd hco hgen hk hD fun L cells Y => st_mono (hST L cells Y) fun fl σ' ⟨v, mu', tl, h1, h2, h3, h4, h5, h6⟩ => ⟨v, [], σ'.mu, mu', tl, h1, h2, rfl, h3, h4, h5, rfl, h6⟩
theorem dist_swap {mu0 mu' mu1 tl n : Led} (D : Dist (mu0 ++ mu1) n) (e : mu'.map (·.1) = mu0.map (·.1)) (h : ∀ p ∈ mu', ∀ q ∈ tl, p.1 ≠ q.1) (h2 : ∀ p ∈ tl, ∀ q ∈ mu1 ++ n, p.1 ≠ q.1) : Dist (mu' ++ mu1) (tl ++ n) := by
  induction mu0 generalizing mu' with
  | nil =>
    obtain rfl : mu' = [] := by simpa using e
    exact dist_more D fun p hp q hq => (h2 q hq p (List.mem_append_left _ hp)).symm
  | cons a r ih =>
    rcases mu' with _ | ⟨a', r'⟩
    · cases e
    · obtain ⟨e1, e2⟩ := List.cons.inj e
      have fst : ∀ q ∈ r', ∃ q' ∈ r, q.1 = q'.1 := fun q hq => by
        have : q.1 ∈ r.map (·.1) := e2 ▸ List.mem_map_of_mem hq
        obtain ⟨q', hq', e⟩ := List.mem_map.mp this
        exact ⟨q', hq', e.symm⟩
      refine ⟨fun q hq => ?_, fun q hq => ?_, ih D.2.2 e2 fun p hp => h p (.tail _ hp)⟩
      · show a'.1 ≠ q.1
        rw [show a'.1 = a.1 from e1]
        rcases List.mem_append.mp hq with hq | hq
        · obtain ⟨q', hq', e⟩ := fst q hq
          rw [e]; exact D.1 q' (List.mem_append_left _ hq')
        · exact D.1 q (List.mem_append_right _ hq)
      · rcases List.mem_append.mp hq with hq | hq
        · exact h a' (.head _) q hq
        · show a'.1 ≠ q.1
          rw [show a'.1 = a.1 from e1]; exact D.2.1 q hq
theorem ek_conV {F : Fi} {L : Addr} {σ : Sg} {mu1 : Led} {RV : Led → Led → Led → Value → Prop} {R : Value → Sg → Prop} (C : Dist mu0 (mu1 ++ (σ.ow.flatten ++ σ.ba)) → ConV w f mu0 (mu1 ++ (σ.ow.flatten ++ σ.ba)) vs dd uu RV) (hmu : σ.mu = mu0 ++ mu1) (hk : F.cs.kind = .function) (h1 : dd ≤ F.dd) (h2 : uu ≤ F.uu)
    (hR : ∀ v nw mu' tl, mu'.map (·.1) = mu0.map (·.1) → RV nw mu' tl v → R v ⟨σ.m, σ.l, nw ++ (mu' ++ mu1), tl :: σ.ow, σ.ba⟩) : EK w F L σ (.ref f) vs R :=
  fun c h tk Q E S hq => wpAny_call (C (dist_part (hmu ▸ S.dm) fun _ h => h) _ _ _ _ _ _ _ _ _ _ _ _ _ _ _ _ _ _ _ c.B S.fr c.X (by have := S.nw; rwa [Sg.led, hmu, List.append_assoc] at this) c.T hk (Nat.lt_of_le_of_lt (Nat.add_le_add_left h1 _) c.hd) (Nat.lt_of_le_of_lt (Nat.add_le_add_left h2 _) c.hu)
    fun r nw mu' tl h' tk' F' N' e o1 o2 dn hr => hq _ ⟨σ.m, σ.l, nw ++ (mu' ++ mu1), tl :: σ.ow, σ.ba⟩ _ _ ⟨F', S.kn, fun p hp => N' p (by
      simp only [Sg.led, List.flatten_cons, List.mem_append] at hp ⊢
      rcases hp with (h | h | h) | (h | h) | h <;> simp [h]), by
        have D := S.dm
        rw [hmu] at D
        show Dist (nw ++ (mu' ++ mu1)) ((tl ++ σ.ow.flatten) ++ σ.ba)
        rw [List.append_assoc]
        refine dist_app (dist_sub dn fun p hp => ?_) (dist_swap D e o1 o2)
        simp only [List.mem_append] at hp ⊢
        rcases hp with (h | h) | h | h | h <;> simp [h], fun p hp q hq => by
        rcases List.mem_append.mp hp with hp | hp
        · exact o2 p hp q (List.mem_append_right _ (List.mem_append_right _ hq))
        · exact S.ab p hp q hq⟩ (hR r nw mu' tl e hr))
theorem ek_conU {F : Fi} {L : Addr} {σ : Sg} {mu1 : Led} {R : Value → Sg → Prop} (C : Dist mu0 (mu1 ++ (σ.ow.flatten ++ σ.ba)) → ConU w f mu0 (mu1 ++ (σ.ow.flatten ++ σ.ba)) vs dd uu Ret) (hmu : σ.mu = mu0 ++ mu1) (hk : F.cs.kind = .function) (h1 : dd ≤ F.dd) (h2 : uu ≤ F.uu)
    (hR : ∀ v mu' tl, mu'.map (·.1) = mu0.map (·.1) → Ret mu' tl v → R v ⟨σ.m, σ.l, mu' ++ mu1, tl :: σ.ow, σ.ba⟩) : EK w F L σ (.ref f) vs R :=
  ek_conV C hmu hk h1 h2 fun v nw mu' tl e ⟨e2, hr⟩ => by subst e2; exact hR v mu' tl e hr
end
theorem cells_unc {cm : Str → Option Value} {n : Str} {c : Addr} {cs : List (Str × Addr)} {cells : Led} (x : CellsAre cm ((n, c) :: cs) cells) : ∃ o r, cells = (c, o) :: r ∧ o.data = .cell (cm n) ∧ CellsAre cm cs r := by
  cases x with | cons h r => exact ⟨_, _, rfl, h, r⟩
theorem cells_unn {cm : Str → Option Value} {cells : Led} (x : CellsAre cm [] cells) : cells = [] := by
  cases x; rfl
-- CellsAre.unc
/-- the source of the law's numbers -/
structure Sc where
  v0 : Int
  v1 : Int
  t0 : Tok
  t1 : Tok
  n : Nat
  row : List Value
  nR : Nat
noncomputable abbrev Sc.s (c : Sc) (R : Addr) : Obj := srcO c.v0 c.v1 c.t0 c.t1 R c.n
noncomputable abbrev Sc.r (c : Sc) : Obj := rowO c.row c.nR
noncomputable def Sc.ok (c : Sc) : Prop := 0 ≤ c.v1 ∧ c.v1 < 2147483647 ∧ IntRow c.row
theorem mem_set {mu : Led} {i : Nat} {q p : Addr × Obj} (h : p ∈ mu.set i q) : p = q ∨ ∃ k, k ≠ i ∧ mu[k]? = some p := by
  obtain ⟨k, hk⟩ := List.mem_iff_getElem?.mp h
  by_cases e : k = i
  · subst e
    rw [List.getElem?_set] at hk
    split at hk
    · split at hk
      · exact .inl (Option.some.inj hk).symm
      · cases hk
    · exact absurd rfl (by assumption)
  · rw [List.getElem?_set_ne (fun h => e h.symm)] at hk
    exact .inr ⟨k, e, hk⟩
section
variable {w : World} {F : Fi} {L : Addr} {V : Env} {σ : Sg} {e l r func : Expr} {es : List Expr} {p pos p1 p2 p3 : Pos} {x y top : Int} {t tt : Tok} {R : Value → Sg → Prop} {RF : Flow → Sg → Prop} {RB : Bool → Sg → Prop} {RL : List Value → Sg → Prop} {a S Rw : Addr} {k i j : Nat} {n n2 : Str} {v : Value} {rest body : List Stmt}
theorem ek_take {c : Sc} (mS : σ.mu[i]? = some (S, c.s Rw)) (mR : σ.mu[j]? = some (Rw, c.r)) (hij : i ≠ j) (hc : c.ok) (ht : 1 ≤ top) (ht2 : top ≤ 200) (hk : F.cs.kind = .function) (h1 : 3 ≤ F.dd) (h2 : 30 ≤ F.uu)
    (hR : ∀ k t (c' : Sc), 0 ≤ k → k < top → c'.ok → R (.int k t) ((σ.put i (S, c'.s Rw)).put j (Rw, c'.r))) : EK w F L σ (.ref 314) [.ref S, .int top tt] R :=
  fun cx h tk Q E SS' hq => by
    have hne : S ≠ Rw := dist_get SS'.dm mS mR hij
    have off : ∀ q : Addr × Obj, ∀ k', σ.mu[k']? = some q → k' ≠ i → k' ≠ j → q.1 ≠ S ∧ q.1 ≠ Rw := fun q k' h a b => ⟨dist_get SS'.dm h mS a, dist_get SS'.dm h mR b⟩
    have offn : ∀ q ∈ σ.ow.flatten ++ σ.ba, q.1 ≠ S ∧ q.1 ≠ Rw := fun q hq => ⟨(dist_mem SS'.dm _ (List.mem_of_getElem? mS) q hq).symm, (dist_mem SS'.dm _ (List.mem_of_getElem? mR) q hq).symm⟩
    have con := take_con (w := w) (mean := cx.mean) (mg := cx.mg) (mb := cx.mb) (rest := σ.led.filter fun q => decide (q.1 ≠ S) && decide (q.1 ≠ Rw)) (S := S) (R := Rw) (t0 := c.t0) (t1 := c.t1) (tt := tt) (n := c.n) (nR := c.nR) (v0 := c.v0) hc.1 hc.2.1 hc.2.2 hne
      (fun q hq => by have := (List.mem_filter.mp hq).2; simp at this; exact this.1) (fun q hq => by have := (List.mem_filter.mp hq).2; simp at this; exact this.2) ht ht2
    refine con_use con cx.B SS'.fr cx.X (fun q hq => SS'.nw q ?_) cx.T hk (Nat.lt_of_le_of_lt (Nat.add_le_add_left h1 _) cx.hd) (Nat.lt_of_le_of_lt (Nat.add_le_add_left h2 _) cx.hu) ?_
    · rcases List.mem_cons.mp hq with rfl | hq
      · exact List.mem_append_left _ (List.mem_of_getElem? mS)
      · rcases List.mem_cons.mp hq with rfl | hq
        · exact List.mem_append_left _ (List.mem_of_getElem? mR)
        · exact (List.mem_filter.mp hq).1
    · rintro r' news' h' tk' F' N' ⟨k, t', v0', t0', v1', t1', n', row', nR', rfl, g1, g2, g3, g4, g5, rfl⟩
      have d1 := (dist_upd SS'.dm mS (o' := (⟨v0', v1', t0', t1', n', row', nR'⟩ : Sc).s Rw)).2.1
      have mR' : (σ.mu.set i (S, (⟨v0', v1', t0', t1', n', row', nR'⟩ : Sc).s Rw))[j]? = some (Rw, c.r) := by rw [List.getElem?_set_ne hij]; exact mR
      have d2 := (dist_upd d1 mR' (o' := (⟨v0', v1', t0', t1', n', row', nR'⟩ : Sc).r)).2.1
      refine hq _ ((σ.put i (S, (⟨v0', v1', t0', t1', n', row', nR'⟩ : Sc).s Rw)).put j (Rw, (⟨v0', v1', t0', t1', n', row', nR'⟩ : Sc).r)) h' tk' ⟨F', SS'.kn, fun q hq => ?_, d2, SS'.ab⟩ (hR k t' ⟨v0', v1', t0', t1', n', row', nR'⟩ g1 g2 ⟨g3, g4, g5⟩)
      have keep : q ∈ σ.led → q.1 ≠ S ∧ q.1 ≠ Rw → h'.get? q.1 = some q.2 ∧ q.1 ≠ L ∧ cx.h₀.get? q.1 = none := fun hm ho => N' q (.tail _ (.tail _ (List.mem_filter.mpr ⟨hm, by simp [ho.1, ho.2]⟩)))
      rcases List.mem_append.mp hq with hq | hq
      · rcases mem_set hq with rfl | ⟨k1, hk1, hq⟩
        · exact N' _ (.tail _ (.head _))
        · by_cases e : k1 = i
          · subst e
            rw [List.getElem?_set_self (List.getElem?_eq_some_iff.mp mS).1] at hq
            cases hq
            exact N' _ (.head _)
          · rw [List.getElem?_set_ne (fun h => e h.symm)] at hq
            exact keep (List.mem_append_left _ (List.mem_of_getElem? hq)) (off q k1 hq e hk1)
      · exact keep (List.mem_append_right _ hq) (offn q hq)
theorem eg_subG (a : EG w F L V σ l fun v σ1 => ∃ x t y, v = .int x t ∧ EP w F L V σ1 r (.i y) ∧ ∀ u, R (.int (x - y) u) σ1) : EG w F L V σ (.BinOp l .Sub r p) R :=
  fun c h tk Q E S hq => wpAny_BinOp (a c h tk _ E S fun v σ1 h1 tk1 S1 ⟨x, t, y, hv, hr, hR⟩ => by
    subst hv
    exact hr c h1 tk1 _ E S1 fun u tk2 => P.sub_int (hq _ _ _ _ S1 (hR _)))
theorem eg_addG (a : EP w F L V σ l (.i x)) (b : EG w F L V σ r fun v σ1 => ∃ y t, v = .int y t ∧ ∀ u, R (.int (x + y) u) σ1) : EG w F L V σ (.BinOp l .Add r p) R :=
  fun c h tk Q E S hq => wpAny_BinOp (a c h tk _ E S fun t tk1 => b c h tk1 _ E S fun v σ1 h1 tk2 S1 ⟨y, u, hv, hR⟩ => by
    subst hv
    exact P.add_int (hq _ _ _ _ S1 (hR _)))
theorem st_swap2n {e1 e2 : Expr} {k k' : Nat} (a : EL w F L (F.env L) σ [e1, e2] fun vs σ' => ∃ v1 v2, vs = [v1, v2] ∧ EN w F L σ' n2 v2 fun σ1 => EN w F L σ1 n v1 fun σ2 => ST w F L σ2 rest RF)
    (hs : swapsWithSole [.Tuple [.Name n p1, .Name n2 p2] k p3] (.Tuple [e1, e2] k' pos) p.line (F.env L) = pure false) (hw : swappedStores [.Tuple [.Name n p1, .Name n2 p2] k p3] (.Tuple [e1, e2] k' pos) (F.env L) = pure (some [n, n2])) :
    ST w F L σ (.Assign [.Tuple [.Name n p1, .Name n2 p2] k p3] (.Tuple [e1, e2] k' pos) p :: rest) RF :=
  st_seq fun c h tk Q E _ S hq => Assign_Tuple_swapped (Tuple_ (a c h tk pos _ E S fun vs σ' h' tk' S' ⟨v1, v2, hv, hr⟩ => by
    subst hv
    refine newTuple_N S'.fr S'.nw (fun h2 F2 N2 => ?_) (show 2 ≤ sizeLine by decide)
    refine unpackItemsN_ F2 N2 (items := #[v1, v2]) (News.isTup N2 (.head _)) rfl rfl ?_
    intro h3 F3 N3
    have S3 : SS c.h₀ L σ' h3 := ⟨F3, S'.kn, fun p hp => N3 p (.tail _ hp), S'.dm, S'.ab⟩
    refine assignInOrder_cons (bindName_ (hr c h3 _ _ E S3 fun σ1 h4 tk4 S4 hr4 => ?_))
    refine assignInOrder_cons (bindName_ (hr4 c h4 tk4 _ E S4 fun σ2 h5 tk5 S5 hr5 => ?_))
    exact assignInOrder_nil (hq _ _ _ _ S5 hr5))) hs hw
theorem eb_nept {b : Addr} {x' y' : Int} {t' u u' : Tok} {m m' : Nat} (ha : EP w F L V σ l (.v (.ref a))) (hb : EP w F L V σ r (.v (.ref b))) (m1 : At σ (a, tp x y t u m)) (m2 : At σ (b, tp x' y' t' u' m')) (hbm : behindInMarks .NotEq r = false) (hR : RB (ptNe (x, y) (x', y')) σ) : EB w F L V σ (.Compare l [.NotEq] [r] p) RB :=
  fun c h tk Q E S hq => wpAny_isTrue_Compare1 (ha c h tk _ E S fun tk1 => hb c h tk1 _ E S fun tk2 => ne_pts (S.nw.get m1.mem) (S.nw.get m2.mem) (Nat.lt_of_le_of_lt (Nat.le_add_right _ _) c.hu) (wpAny_truthy_bool (hq _ _ _ _ S hR))) hbm
theorem eb_eq0G (ha : EG w F L V σ l fun v σ' => ∃ a vs k, v = .ref a ∧ At σ' (a, lsO vs k) ∧ RB vs.isEmpty σ') (hbm : behindInMarks .Eq (.List [] p1) = false) : EB w F L V σ (.Compare l [.Eq] [.List [] p1] p) RB :=
  fun c h tk Q E S hq => wpAny_isTrue_Compare1 (ha c h tk _ E S fun v σ' h' tk' S' ⟨a, vs, k, hv, hm, hR⟩ => by
    subst hv
    refine List_ (args_nil (newList_N S'.fr S'.nw (fun h' F' N' => ?_) (Nat.zero_le _)))
    have S2 : SS c.h₀ L σ' h' := ⟨F', S'.kn, fun p hp => N' p (.tail _ hp), S'.dm, S'.ab⟩
    have hu : c.A.units < cLine := Nat.lt_of_le_of_lt (Nat.le_add_right _ _) c.hu
    cases vs with
    | nil => exact eq_empty (N'.isList (.tail _ hm.mem)) (N'.isList (.head _)) hu (wpAny_truthy_bool (hq _ _ _ _ S2 hR))
    | cons v r => exact eq_full (N'.isList (.tail _ hm.mem)) (N'.isList (.head _)) (by simp) hu (wpAny_truthy_bool (hq _ _ _ _ S2 hR))) hbm
inductive ConcP (w : World) (F : Fi) (L : Addr) (V : Env) (r : Expr) (R : Value → Sg → Prop) (v : Value) (σ1 : Sg) : Prop
  | mk (A : Addr) (z : Value) (n1 : Nat) (B : Addr) (fv : List Value) (n2 : Nat) (hv : v = .ref A) (m1 : At σ1 (A, lsO [z] n1)) (hr : EP w F L V σ1 r (.v (.ref B))) (m2 : At σ1 (B, lsO fv n2)) (hz : fv.length ≤ 1000) (hR : ∀ D, R (.ref D) (σ1.new (D, lsO (z :: fv) 0)))
theorem eg_concat (ha : EG w F L V σ l (ConcP w F L V r R)) : EG w F L V σ (.BinOp l .Add r p) R :=
  fun c h tk Q E S hq => wpAny_BinOp (ha c h tk _ E S fun v σ1 h1 tk1 S1 ⟨A, z, n1, B, fv, n2, hv, m1, hr, m2, hz, hR⟩ => by
    subst hv
    exact hr c h1 tk1 _ E S1 fun tk2 => kmk_add_lit S1.fr S1.nw (S1.nw.isList m1.mem) (S1.nw.isList m2.mem) (zs := z :: fv) (by simp) (fun D h' F' N' l1 => hq _ _ _ _ (S1.madeM F' N' fun q hq => Nat.ne_of_lt (l1 q hq)) (hR D)) (by rw [sizeLine_eq]; simp; omega))
inductive LZip (R : Value → Sg → Prop) (us : List Value) (σ1 : Sg) : Prop
  | mk (l1 l2 : Addr) (xs ys : List Value) (n1 n2 : Nat) (hus : us = [.ref l1, .ref l2]) (m1 : At σ1 (l1, lsO xs n1)) (m2 : At σ1 (l2, lsO ys n2)) (g1 : xs.length ≤ 1000) (g2 : 0 < xs.length) (g3 : 0 < ys.length)
    (hR : ∀ D c acc tl, All2 (PairIn tl) acc (List.zip xs ys) → R (.ref D) ((σ1.app tl).new (D, lsO acc c)))
theorem eg_listzip {zf e1 e2 : Expr} {ip : Pos} (hl : EP w F L V σ func (.v (.type "list"))) (hz : EP w F L V σ zf (.v (.type "zip")))
    (ha : EL w F L V σ [e1, e2] (LZip R))
    (h1 : starEach [e1, e2] V = (false, eval e1 V) :: starEach [e2] V) (h2 : ∀ pos, (backTo pos (starEach [e2] V)).any (·.1) = false)
    (h3 : starEach [.Call zf [e1, e2] [] ip] V = (false, eval (.Call zf [e1, e2] [] ip) V) :: starEach [] V)
    (hc1 : eval (.Call zf [e1, e2] [] ip) V = (do callWith ip (← eval zf V) [] (backTo ip (starEach [e1, e2] V)) (backToKw ip (keywordEach [] V))))
    (hc2 : eval (.Call func [.Call zf [e1, e2] [] ip] [] pos) V = (do callWith pos (← eval func V) [] (backTo pos (starEach [.Call zf [e1, e2] [] ip] V)) (backToKw pos (keywordEach [] V)))) : EG w F L V σ (.Call func [.Call zf [e1, e2] [] ip] [] pos) R :=
  fun c h tk Q E S hq => Call_ (hl c h tk _ E S fun tk1 => callWith_type1 (args_cons (Call_ (hz c h tk1 _ E S fun tk2 => callWith_type1 (ha c h tk2 ip _ E S fun us σ1 h' tk' S1 ⟨l1, l2, xs, ys, n1, n2, hus, m1, m2, g1, g2, g3, hR⟩ => by
    subst hus
    refine zip_call S1.fr S1.nw m1.mem m2.mem fun z TI TO i1 i2 h2 F2 N2 Z => args_nil (list_zip rfl F2 N2 Z g1 g2 g3 fun D c' acc tl h3 tk3 F3 N3 hacc lD ltl => ?_)
    have ht : ∀ p ∈ tl, ∀ q ∈ σ1.led, q.1 ≠ p.1 := fun p hp q hq => Nat.ne_of_lt (Nat.lt_trans (lD q hq) (ltl p hp))
    have K := (S1.sk.app ht).new (I := D) (o := lsO acc c') (fun q hq => by
      simp only [Sg.led, List.flatten_cons, List.mem_append] at hq
      rcases hq with h | (h | h) | h
      · exact Nat.ne_of_lt (lD q (List.mem_append_left _ h))
      · exact Nat.ne_of_gt (ltl q h)
      · exact Nat.ne_of_lt (lD q (List.mem_append_right _ (List.mem_append_left _ h)))
      · exact Nat.ne_of_lt (lD q (List.mem_append_right _ (List.mem_append_right _ h))))
    refine hq _ _ _ _ (K.ss F3 fun q hq => N3 q ?_) (hR D c' acc tl hacc)
    simp only [Sg.led, List.flatten_cons, List.cons_append, List.mem_cons, List.mem_append] at hq ⊢
    rcases hq with h | h | (h | h) | h <;> simp [h]) h1 (h2 _)) hc1) h3) h3 rfl) hc2
variable {iter elt test : Expr} {scope : Scope} {cl : List (Str × Addr)} {x₂ : Str} {xn : Str}
theorem ci_rangeG {fp : Pos} (hf : EP w F L V σ func (.v (.type "range"))) (hb : EG w F L V σ e fun v σ1 => σ1.m = σ.m ∧ ∃ (k : Nat) (t : Tok) (J : Nat → List Value → Sg → Prop), v = .int (k : Int) t ∧ k ≤ 1000 ∧ J 0 [] σ1 ∧ Cmp w F L V elt xn scope cl σ.m k (fun i v => ∃ t, v = .int (i : Int) t) (fun _ => True) J ∧ ∀ ys σ', J k ys σ' → RL ys σ')
    (he : starEach [e] V = (false, eval e V) :: starEach [] V) (hc : eval (.Call func [e] [] fp) V = (do callWith fp (← eval func V) [] (backTo fp (starEach [e] V)) (backToKw fp (keywordEach [] V)))) : CI w F L V σ (.Call func [e] [] fp) elt xn scope cl RL :=
  fun Fin c h tk E S fin => Call_ (hf c h tk _ E S fun tk1 => callWith_type1 (args_cons (hb c h tk1 _ E S fun v σ1 h1 tk2 S1 ⟨hm, k, t, J, hv, hk2, hJ, K, hR⟩ => by
    subst hv
    exact args_nil (call_range_1 (by
      refine LCg.CompSrc.range (n := k) rfl (hm ▸ S1.fr.keeps fun b o e => Heap.get?_push_of_some _ e) (S1.nw.grown fun b o e => Heap.get?_push_of_some _ e) (IsRange.new h1 0 (k : Int) 1 _ _ _) (small_one (by decide) (by decide) (by omega) (by omega)) (by rw [rangeSize_one]; split <;> omega) (Nat.le_trans hk2 (by rw [sizeLine_eq]; decide)) fun g => ?_
      have K' : Cmp w F L V elt xn scope cl σ.m k (fun i v => ∃ t, v = .int ((0 : Int) + (i : Int)) t) (fun _ => True) J := ⟨K.m, K.sr, fun i v ys σ I oI C oC D m₂ hi hP => K.turn i v ys σ I oI C oC D m₂ hi (by simpa using hP)⟩
      exact K'.go c _ (fun _ _ => rfl) (fun ys σ' hJ' hK => fin _ (fun _ _ => rfl) ys σ' (hR ys σ' hJ') hK) k 0 [] σ1 (by omega) hJ S1.sk))) he) he rfl) hc
theorem ci_range2 {e1 e2 : Expr} {fp : Pos} {a b : Int} {k : Nat} (J : Nat → List Value → Sg → Prop) (hf : EP w F L V σ func (.v (.type "range"))) (ha : EP w F L V σ e1 (.i a)) (hb : EP w F L V σ e2 (.i b)) (hk : b = a + (k : Int)) (ha2 : -1000 ≤ a ∧ a ≤ 1000) (hk2 : k ≤ 1000) (hJ : J 0 [] σ)
    (K : Cmp w F L V elt xn scope cl σ.m k (fun i v => ∃ t, v = .int (a + (i : Int)) t) (fun _ => True) J) (hR : ∀ ys σ', J k ys σ' → RL ys σ')
    (he : starEach [e1, e2] V = (false, eval e1 V) :: starEach [e2] V) (he2 : starEach [e2] V = (false, eval e2 V) :: starEach [] V) (hc : eval (.Call func [e1, e2] [] fp) V = (do callWith fp (← eval func V) [] (backTo fp (starEach [e1, e2] V)) (backToKw fp (keywordEach [] V)))) (hpl : (backTo fp (starEach [e2] V)).any (·.1) = false) : CI w F L V σ (.Call func [e1, e2] [] fp) elt xn scope cl RL :=
  fun Fin c h tk E S fin => Call_ (hf c h tk _ E S fun tk1 => callWith_type1 (args_cons (ha c h tk1 _ E S fun t tk2 => args_cons (hb c h tk2 _ E S fun u tk3 => args_nil (call_range_2 (by
      refine LCg.CompSrc.range (n := k) rfl (S.fr.keeps fun b o e => Heap.get?_push_of_some _ e) (S.nw.grown fun b o e => Heap.get?_push_of_some _ e) (IsRange.new h a b 1 _ _ _) (small_one (by omega) (by omega) (by omega) (by omega)) (by rw [rangeSize_one]; split <;> omega) (Nat.le_trans hk2 (by rw [sizeLine_eq]; decide)) fun g => ?_
      exact K.go c _ (fun _ _ => rfl) (fun ys σ' hJ' hK => fin _ (fun _ _ => rfl) ys σ' (hR ys σ' hJ') hK) k 0 [] σ (by omega) hJ S.sk))) he2) he) he hpl) hc
/-- what a comprehension over pairs with a test wants to know -/
inductive PSrc (w : World) (F : Fi) (L : Addr) (V : Env) (elt test : Expr) (xn x₂ : Str) (scope : Scope) (cl : List (Str × Addr)) (m₀ : Str → Option Value) (R : List Value → Sg → Prop) (v : Value) (σ1 : Sg) : Prop
  | mk (ax : Addr) (its : List Value) (prs : List (Value × Value)) (k : Nat) (J : Nat → List Value → Prop) (hv : v = .ref ax) (m1 : At σ1 (ax, lsO its k)) (hp : All2 (PairIn σ1.led) its prs) (hsz : its.length ≤ 1000) (hJ : J 0 [])
    (step : ∀ i v1 v2 ys C oC m₂ ba, prs[i]? = some (v1, v2) → J i ys → LCg.NsObj oC m₂ → m₂ xn = some v1 → m₂ x₂ = some v2 → (∀ p ∈ (C, oC) :: σ1.led, p ∈ ba) →
      EB w F L (compEnvC scope cl C V) ⟨m₀, [], [], [], ba⟩ test fun b σ' => σ'.m = m₀ ∧ σ'.ba = ba ∧ (b = true → EG w F L (compEnvC scope cl C V) σ' elt fun y σ'' => σ''.m = m₀ ∧ σ''.ba = ba ∧ J (i + 1) (ys ++ [y])) ∧ (b = false → J (i + 1) ys))
    (fin : ∀ ys, J its.length ys → R ys σ1)
theorem pairs_core {kk : Nat} {px px₂ tp ip : Pos} {RR : Value → Addr → Result → Shared → Prop} {RL : List Value → Sg → Prop} {c : Cx w F L} {h : Heap} {tk : Nat} {E : Value → Shared → Prop} {σ1 : Sg} {v : Value} (S1 : SS c.h₀ L σ1 h) (P : PSrc w F L V elt test xn x₂ scope cl σ1.m RL v σ1)
    (hcell : ∀ y ∈ scope.names, y.2 ≠ .cell) (hkind : scope.kind = .function) (hx : scope.names.lookup xn = some .local) (hx₂ : scope.names.lookup x₂ = some .local) (hxx : xn ≠ x₂)
    (hRR : ∀ ys D C h tk m', RL ys σ1 → (∀ q ∈ σ1.led, q.1 ≠ D) → Fr c.h₀ L h σ1.m → News c.h₀ L h ((D, LCg.lst ys) :: σ1.led) → (∀ p ∈ (D, LCg.lst ys) :: σ1.led, p.1 ≠ C) → h.Ns C m' → c.h₀.get? C = none → C ≠ L → RR (.ref D) C (.ok .next) (c.at h tk)) :
    wpAny (model Challenge.rw_pf0204_01.row.prog w) c.A (pyIter v) (pairBody Challenge.rw_pf0204_01.row.prog w c.A E elt (.Tuple [.Name xn px, .Name x₂ px₂] kk tp) iter [test] scope pos V cl RR) E (c.at h tk) := by
  obtain ⟨ax, its, prs, k, J, rfl, m1, hp, hsz, hJ, step, fin⟩ := P
  refine pair_core (J := J) hcell hkind hx hx₂ hxx rfl S1.fr S1.nw m1.mem hp (sz hsz) hJ ?_ (fun ys D C h tk m' hJ' lD F' N' offC hn hC0 hCL _ _ => hRR ys D C h tk m' (fin ys hJ') (fun q hq => Nat.ne_of_lt (allLt_iff.mp lD q hq)) F' N' offC hn hC0 hCL)
  intro i v1 v2 ys oC m₂ own C D h' tk' E' hpr hJ' hC e1 e2 F' N'
  have st := step i v1 v2 ys C oC m₂ (own ++ (D, LCg.lst ys) :: (C, oC) :: σ1.led) hpr hJ' hC e1 e2 (fun p hp => List.mem_append_right _ (.tail _ hp)) c h' tk'
  simp only [List.forIn_cons, List.forIn_nil, if_true]
  refine wpAny_bind (wpAny_bind (st _ E' ⟨F', fun _ _ h => (nomatch h), N', trivial, fun _ h => (nomatch h)⟩ fun b σ' h2 tk2 S2 ⟨hm2, hba, ht, hf⟩ => ?_))
  refine wpAny_pure (wpAny_pure ?_)
  cases b with
  | true =>
    rw [if_pos rfl]
    refine ht rfl c h2 tk2 _ E' S2 fun y σ'' h3 tk3 S3 ⟨hm3, hba3, hJ3⟩ => ⟨h3, tk3, [], rfl, hm3 ▸ S3.fr, fun p hp => S3.nw p ?_, fun _ h => (nomatch h), rfl, hJ3⟩
    rw [Sg.led, hba3]; exact List.mem_append_right _ (List.mem_append_right _ hp)
  | false =>
    rw [if_neg (by decide)]
    refine ⟨h2, tk2, [], rfl, hm2 ▸ S2.fr, fun p hp => S2.nw p ?_, fun _ h => (nomatch h), rfl, hf rfl⟩
    rw [Sg.led, hba]; exact List.mem_append_right _ (List.mem_append_right _ hp)
end
end
section
section
variable {w : World} {F : Fi} {L : Addr} {V : Env} {σ : Sg} {iter elt test : Expr} {p pos px px₂ tp py : Pos} {R : Value → Sg → Prop} {RF : Flow → Sg → Prop} {scope : Scope} {cl : List (Str × Addr)} {xn x₂ y : Str} {kk : Nat} {rest : List Stmt}
theorem st_pairs (src : EG w F L (F.env L) σ iter fun v σ1 => PSrc w F L (F.env L) elt test xn x₂ scope cl σ1.m (fun ys σ1 => ∀ D, ST w F L ((σ1.new (D, LCg.lst ys)).set y (.ref D)) rest RF) v σ1)
    (hclos : closureFor scope (F.env L) = pure cl) (hcell : ∀ y ∈ scope.names, y.2 ≠ .cell) (hkind : scope.kind = .function) (hnames : ∀ y ∈ scope.names, y.2 = .local → scope.names.lookup y.1 = some .local) (hx : scope.names.lookup xn = some .local) (hx₂ : scope.names.lookup x₂ = some .local) (hxx : xn ≠ x₂)
    (hs : ∀ v, foldedSetIterable iter (F.env L) v = pure v) (hsw : swapsWith (.ListComp elt [⟨.Tuple [.Name xn px, .Name x₂ px₂] kk tp, iter, [test], 0⟩] scope pos) (some (.Name y py)) p.line (F.env L) = pure true) (hk : F.cs.kind = .function) (hy : (F.env L).kindOf y = some .local) :
    ST w F L σ (.Assign [.Name y py] (.ListComp elt [⟨.Tuple [.Name xn px, .Name x₂ px₂] kk tp, iter, [test], 0⟩] scope pos) p :: rest) RF :=
  st_seq fun c h tk Q E _ S hq => assign_comp hsw hclos hkind hnames (src c h tk _ E S fun v σ1 h1 tk1 S1 P => pairs_core (ip := pos) S1 P hcell hkind hx hx₂ hxx fun ys D C h tk m' hR lD F' N' offC hn hC0 hCL => by
    refine post_use rfl hy (by show (F.cs.kind == .class || (F.cs.kind == .module && _)) = false; rw [hk]; rfl) F' N' offC hn hC0 hCL ?_
    intro h3 tk3 F3 N3
    have K := S1.sk.new (o := LCg.lst ys) lD
    refine hq .next ((σ1.new (D, LCg.lst ys)).set y (.ref D)) _ _ ⟨F3, fun z v hz => ?_, N3, K.dm, K.ab⟩ (hR D)
    show (if z = y then some (.ref D) else σ1.m z) = some v
    by_cases e : z = y
    · subst e; rw [if_pos rfl]; simpa [List.lookup] using hz
    · have : (z == y) = false := by simpa using e
      rw [if_neg e]; exact K.kn z v (by simpa [List.lookup, this] using hz)) hs
theorem eg_pairs (src : EG w F L V σ iter fun v σ1 => PSrc w F L V elt test xn x₂ scope cl σ1.m (fun ys σ1 => ∀ D, R (.ref D) (σ1.new (D, LCg.lst ys))) v σ1)
    (hclos : closureFor scope V = pure cl) (hcell : ∀ y ∈ scope.names, y.2 ≠ .cell) (hkind : scope.kind = .function) (hnames : ∀ y ∈ scope.names, y.2 = .local → scope.names.lookup y.1 = some .local) (hx : scope.names.lookup xn = some .local) (hx₂ : scope.names.lookup x₂ = some .local) (hxx : xn ≠ x₂)
    (hs : ∀ v, foldedSetIterable iter V v = pure v) : EG w F L V σ (.ListComp elt [⟨.Tuple [.Name xn px, .Name x₂ px₂] kk tp, iter, [test], 0⟩] scope pos) R :=
  fun c h tk Q E S hq => eval_comp hclos hkind hnames (src c h tk _ E S fun v σ1 h1 tk1 S1 P => pairs_core (ip := pos) S1 P hcell hkind hx hx₂ hxx fun ys D C h tk m' hR lD F' N' offC hn hC0 hCL => by
    refine post_eval F' N' offC hn hC0 hCL ?_
    intro h3 tk3 F3 N3
    exact hq _ _ _ _ ((S1.sk.new (o := LCg.lst ys) lD).ss F3 N3) (hR D)) hs
theorem st_asg2 {e1 e2 : Expr} {n n2 : Str} {p1 p2 p3 : Pos} {q q' : Nat} (he : EL w F L (F.env L) σ [e1, e2] fun vs σ' => ∃ v1 v2, vs = [v1, v2] ∧ EN w F L σ' n v1 fun σ1 => EN w F L σ1 n2 v2 fun σ2 => ST w F L σ2 rest RF)
    (hs : swapsWithSole [.Tuple [.Name n p1, .Name n2 p2] q p3] (.Tuple [e1, e2] q' pos) p.line (F.env L) = pure false) (hw : swappedStores [.Tuple [.Name n p1, .Name n2 p2] q p3] (.Tuple [e1, e2] q' pos) (F.env L) = pure none)
    (hae : assignEach [.Name n p1, .Name n2 p2] (F.env L) = [(false, assign (.Name n p1) (F.env L)), (false, assign (.Name n2 p2) (F.env L))]) :
    ST w F L σ (.Assign [.Tuple [.Name n p1, .Name n2 p2] q p3] (.Tuple [e1, e2] q' pos) p :: rest) RF :=
  st_seq fun c h tk Q E _ S hq => Assign_Tuple (Tuple_ (he c h tk pos _ E S fun vs σ' h' tk' S' ⟨v1, v2, hv, hr⟩ => by
    subst hv
    refine newTuple_N S'.fr S'.nw (fun h1 F1 N1 => ?_) (show 2 ≤ sizeLine by decide)
    refine assign_Tuple_tuple rfl (News.isTup N1 (.head _)) (by rw [hae]; rfl) (by rw [hae]; rfl) fun h2 hx => ?_
    have lt : ∀ p ∈ σ'.led, p.1 < h1.objs.size := fun p hp => Heap.lt_size (N1 p (.tail _ hp)).1
    have S2 : SS c.h₀ L σ' h2 := ⟨F1.extBut hx (Nat.le_refl _), S'.kn, fun p hp => ⟨hx _ _ (Nat.ne_of_lt (lt p hp)) (N1 p (.tail _ hp)).1, (N1 p (.tail _ hp)).2⟩, S'.dm, S'.ab⟩
    rw [hae]
    refine assignInOrder_cons (assign_Name (hr c h2 tk' _ E S2 fun σ1 h3 tk3 S3 hr3 => ?_))
    refine assignInOrder_cons (assign_Name (hr3 c h3 tk3 _ E S3 fun σ2 h4 tk4 S4 hr4 => ?_))
    exact assignInOrder_nil (hq .next _ _ _ S4 hr4))) hs hw
theorem ep_powN {l r : Expr} {x y : Int} {k : Nat} (a : EP w F L V σ l (.i x)) (b : EP w F L V σ r (.i y)) (m : y = (k : Int)) (m2 : y ≤ 1000000) (m3 : x.natAbs < 2 ^ 64) : EP w F L V σ (.BinOp l .Pow r p) (.i (x ^ k)) := by
  have h := ep_pow (p := p) a b (by omega) m2 m3
  rwa [show y.toNat = k by omega] at h
theorem st_gen {m : Str → Option Value} {l : List (Str × Value)} {mu ba : Led} {ow : List Led} {b : List Stmt} (h : ∀ m, ST w F L ⟨m, l, mu, ow, ba⟩ b RF) : ST w F L ⟨m, l, mu, ow, ba⟩ b RF := h m
theorem eg_mulG {l r : Expr} {x : Int} (a : EP w F L V σ l (.i x)) (b : EG w F L V σ r fun v σ1 => ∃ y t, v = .int y t ∧ IntMulOk x y ∧ ∀ u, R (.int (x * y) u) σ1) : EG w F L V σ (.BinOp l .Mult r p) R :=
  fun c h tk Q E S hq => wpAny_BinOp (a c h tk _ E S fun t tk1 => b c h tk1 _ E S fun v σ1 h1 tk2 S1 ⟨y, u, hv, hm, hR⟩ => by
    subst hv
    exact P.mul_int (hq _ _ _ _ S1 (hR _)) hm)
end
/-- no point of the plane -/
noncomputable def NoPt (o : Obj) : Prop := (o.cls = .type "list" ∨ o.cls = .type "dict") ∨ ∃ v, o.data = .cell v
theorem PtIn.cut {mu led : Led} {v : Value} {p : Pt} (h : PtIn led v p) {led' : Led} (k : ∀ x ∈ led, x ∈ mu ∨ x ∈ led') (hm : ∀ x ∈ mu, NoPt x.2) : PtIn led' v p := by
  obtain ⟨a, t, u, n, e, m⟩ := h
  refine ⟨a, t, u, n, e, (k _ m).elim (fun h => ?_) id⟩
  rcases hm _ h with (h | h) | ⟨v, h⟩
  · exact absurd (show Value.type "tuple" = Value.type "list" from h) (by intro h; injection h with h; exact absurd h (by decide))
  · exact absurd (show Value.type "tuple" = Value.type "dict" from h) (by intro h; injection h with h; exact absurd h (by decide))
  · cases h
theorem seq_lastN {n : Nat} (h : 0 < n) : seqIndex? (-1) n = some (n - 1) := by
  obtain ⟨m, rfl⟩ : ∃ m, n = m + 1 := ⟨n - 1, by omega⟩
  unfold seqIndex?
  have e : (if (-1 : Int) < 0 then -1 + ((m + 1 : Nat) : Int) else -1) = (m : Int) := by rw [if_pos (by decide)]; omega
  rw [e]
  dsimp only
  rw [if_pos (by simp; omega)]
  rfl
theorem fn_inj {K : Frag} {f : Addr} {name qual name' qual' : Str} {params params' : Arguments} {body body' : List Stmt} {scope scope' : Scope} {dV kV doc pm cdv ct oc dV' kV' doc' pm' cdv' ct' oc' : Value} {an od an' od' : Option Addr} {osl osl' : Array (Option Value)}
    (h : K.lookup f = some ⟨oc, od, .func (fnOf name qual params body scope dV kV doc pm an cdv ct), osl⟩) (h' : K.lookup f = some ⟨oc', od', .func (fnOf name' qual' params' body' scope' dV' kV' doc' pm' an' cdv' ct'), osl'⟩) : qual = qual' ∧ body = body' ∧ scope = scope' ∧ cdv = cdv' := by
  have e := Option.some.inj (h.symm.trans h')
  have e2 := congrArg Obj.data e
  have e3 := Data.func.inj e2
  unfold fnOf at e3
  injection e3
  refine ⟨by assumption, FuncBody.stmts.inj (by assumption), by assumption, by assumption⟩
end
section
/-- the nine cells of _law_spots_right, over what else may change -/
noncomputable abbrev cel (L : Addr) (a b c d e f g h i : Obj) (t : Led) : Led := (L + 1 + 1 + 1 + 1 + 1 + 1 + 1 + 1 + 1, a) :: (L + 1 + 1 + 1 + 1 + 1 + 1 + 1 + 1, b) :: (L + 1 + 1 + 1 + 1 + 1 + 1 + 1, c) :: (L + 1 + 1 + 1 + 1 + 1 + 1, d) :: (L + 1 + 1 + 1 + 1 + 1, e) :: (L + 1 + 1 + 1 + 1, f) :: (L + 1 + 1 + 1, g) :: (L + 1 + 1, h) :: (L + 1, i) :: t
theorem right_5 {w : World} {rest : Led} {S R L : Addr} {c c4 : Sc} {oc cdv ct dV kV doc pm : Value} {od an : Option Addr} {osl : Array (Option Value)} {name qual : Str} {params : Arguments} {scope : Scope} {tail : List Stmt} {K : Nat} {b : Int} {uk ub : Tok} {D : Addr} {ys : List Value} {ps : List Pt} {nn : Nat} {um uw ub' : Tok} {bv : Int} {DP Fa : Addr} {nF : Nat} {fv zs : List Value} {H : List Led} {G' : Led} {m : Str → Option Value} {x1 z2 y3 y4 y5 y6 y7 y8 x9 : Obj} {s1 s2 s3 s4 s5 s6 s7 : Stmt} (ho : (hd.heap_39 w.params).lookup 345 = some ⟨oc, od, .func (fnOf name qual params (s1 :: s2 :: s3 :: s4 :: s5 :: s6 :: s7 :: tail) scope dV kV doc pm an cdv ct), osl⟩) (hc4 : c4.ok) (hb1 : 1 ≤ b) (hb6 : b ≤ 6) (hK1 : 1 ≤ K) (hK3 : K ≤ 3) (hB : ∀ p ∈ ps, PtB p) (hnn : (nn = 2 ∧ ps.length = 3) ∨ (nn = 3 ∧ ps.length = 4))
    (e1 : x1.data = .cell none) (f3 : y3.data = .cell (some (.ref DP))) (f4 : y4.data = .cell (some (.int (((2 : Int) ^ K) ^ nn) uw))) (f5 : y5.data = .cell (some (.int ((2 : Int) ^ K) um))) (f6 : y6.data = .cell (some (.int (K : Int) uk))) (f7 : y7.data = .cell (some (.int b ub))) (f8 : y8.data = .cell (some (.ref D))) (e9 : x9.data = .cell (some (.ref S))) (mF : (Fa, lsO fv nF) ∈ G') (mD : (D, LCg.lst ys) ∈ G') (mDP : (DP, LCg.lst zs) ∈ G') (hF : All2 (PtIn G') fv (fsp b K ps)) (hys : All2 (PtIn G') ys ps) (hzs : All2 (LsIn G') zs ((List.range (2 ^ K + 1)).map fun j : Nat => place ((2 : Int) ^ K) (j : Int) nn ps)) (upH : ∀ x ∈ G', x ∈ H.flatten ++ rest) :
    ST w ⟨qual, scope, 345, cdv, 24, 297⟩ L ⟨m, [(Str.ofString "before", .int bv ub'), (Str.ofString "told", .ref Fa)], (cel L x1 z2 y3 y4 y5 y6 y7 y8 x9 [(S, Sc.s c4 R), (R, Sc.r c4)]), H, rest⟩ tail (DoneU [(S, c.s R), (R, c.r)] rest (fun mu' tl r => r = .bool true ∧ tl = [] ∧ ∃ c' : Sc, c'.ok ∧ mu' = [(S, c'.s R), (R, c'.r)])) := by
  obtain ⟨rfl, hb, rfl, rfl⟩ := fn_inj ho (by k_is)
  simp only [List.cons.injEq] at hb
  obtain ⟨-, -, -, -, -, -, -, rfl⟩ := hb
  clear ho
  have hps : ps.length = 3 ∨ ps.length = 4 := by omega
  have ok : PsOk ps := ⟨hps, fun p hp => (hB p hp).ok⟩
  have hM := two_pow8 hK1 hK3
  have hW := wbnd (ps := ps) hK1 hK3 hnn
  have hMn : 2 ^ K ≤ 8 := by exact_mod_cast hM.2
  have hMc : ((2 ^ K : Nat) : Int) = (2 : Int) ^ K := by rw [Int.natCast_pow]; rfl
  have hfl := hF.length
  have hle := fsp_len b K ps
  have hfp : 0 < fv.length := by rw [hfl]; exact List.length_pos_iff.mpr (fsp_ne (b := b) (k := K) hnn)
  have hfv8 : fv.length ≤ 8 := by omega
  rcases ps with _ | ⟨pf, psr⟩
  · simp at hnn
  rcases ys with _ | ⟨vf, ysr⟩
  · exact hys.elim
  obtain ⟨⟨af, tf, uf, nf9, rfl, mf⟩, hysr⟩ := hys
  have hsp := sideP_all (b := b) hnn hB (by omega) hM.2
  rw [show ((2 : Int) ^ K + 1 - 0).toNat = 2 ^ K + 1 by omega] at hsp
  have mD' := upH _ mD
  have mF' := upH _ mF
  refine st_setn (eg_listzip (by walk_at "EV") (by walk_at "EV") (el_cons (eg_concat ?_) rfl) rfl (fun _ => rfl) rfl rfl rfl) rfl
  walk_at "EG"
  repeat' (walk_at "EL")
  refine ⟨Nat.le_of_ble_eq_true rfl, fun A => ⟨A, _, 0, Fa, fv, nF, rfl, At.mu 0 rfl, by walk_at "EV", At.fl (upH _ mF), by omega, fun Dc => el_v (by walk_at "EV") rfl (el_nil ⟨Dc, Fa, _, fv, 0, nF, rfl, At.mu 0 rfl, At.fl (upH _ mF), by rw [List.length_cons]; omega, Nat.succ_pos _, hfp, fun Sd c acc tlz hacc => en_l rfl rfl ?_⟩)⟩⟩
  have hal : acc.length ≤ 9 := by rw [hacc.length, List.length_zip, List.length_cons]; omega
  obtain ⟨H2, hH2⟩ : ∃ H2, H2 = [(Sd, lsO acc c)] :: tlz :: H := ⟨_, rfl⟩
  refine st_lo (σ' := ⟨_, [(Str.ofString "sides", .ref Sd)], (cel L x1 z2 y3 y4 y5 y6 y7 y8 x9 [(S, Sc.s c4 R), (R, Sc.r c4)]), [(Sd, lsO acc c)] :: tlz :: H, rest⟩) (lo_all ["sides"] [3, 4, 5, 6, 7, 8, 9, 10, 11, 12, 13] [0] (by decide)) ?_
  rw [← hH2]
  refine st_gen fun m3 => ?_
  obtain ⟨H', hH'⟩ : ∃ H', H' = H2.flatten ++ rest := ⟨_, rfl⟩
  have mSd : (Sd, lsO acc c) ∈ H' := by rw [hH', hH2]; exact .head _
  have hacc' : All2 (PairIn H') acc ((Value.ref af :: fv).zip fv) := All2.mono (fun _ _ ⟨T, n, e, m⟩ => ⟨T, n, e, by rw [hH', hH2]; refine .tail _ ?_; show _ ∈ (tlz ++ H.flatten) ++ rest; exact List.mem_append_left _ (List.mem_append_left _ m)⟩) hacc
  have upJ : ∀ x ∈ G', x ∈ H' := fun x hx => by
    rw [hH', hH2]
    refine .tail _ ?_
    show x ∈ (tlz ++ H.flatten) ++ rest
    rw [List.append_assoc]; exact List.mem_append_right _ (upH _ hx)
  replace hF := All2.mono (fun _ _ h => h.mono upJ) hF
  replace hzs := All2.mono (fun _ _ h => h.mono upJ) hzs
  replace mf := upJ _ mf
  have mDP' := upJ _ mDP
  have upH2 : ∀ (og : List Led) x, x ∈ H' → x ∈ (og ++ H2).flatten ++ rest := fun og x hx => by
    rw [List.flatten_append, List.append_assoc]; exact List.mem_append_right _ (hH' ▸ hx)
  clear hH2 hacc upJ upH mD' mF'
  refine st_for (eg_pv (by walk_at "EV") ⟨DP, zs, zs.length, "list", fun r σ => ∃ m z1 qs og, σ = ⟨m, [(Str.ofString "sides", .ref Sd)], (cel L z1 z2 y3 y4 y5 y6 y7 y8 x9 [(S, Sc.s c4 R), (R, Sc.r c4)]), og ++ H2, rest⟩ ∧ (∃ v, z1.data = .cell v) ∧ All2 (LsIn H') r qs ∧ ∀ q ∈ qs, SideP (((2 : Int) ^ K) ^ nn) (b + 3 * (K : Int)) pf (fsp b K (pf :: psr)) q, rfl, .inl rfl,
    ⟨m3, x1, _, [], rfl, ⟨_, e1⟩, hzs, hsp⟩, ?keep2, ?turn2, ?fin2⟩) (fun _ => rfl)
  case keep2 => rintro r σ ⟨m, z1, qs, og, rfl, -⟩; exact At.fl (upH2 og _ mDP')
  case turn2 =>
    rintro I oI v r σ ⟨m, z1, qs, og, rfl, ⟨v1, d1⟩, hv, hP⟩
    rcases qs with _ | ⟨q, qs⟩
    · exact hv.elim
    obtain ⟨⟨aq, tq, uq, rfl, mq⟩, hv⟩ := hv
    obtain ⟨hsd, hq1, hq2⟩ := hP q (List.mem_cons_self)
    replace hP := fun q' hq' => hP q' (List.mem_cons_of_mem _ hq')
    refine en_c 1 rfl rfl rfl rfl d1 (fun w1 d1' => ?_)
    refine st_if (eb_eq0G (eg_pairs (eg_pv (by walk_at "EV") ⟨Sd, acc, (Value.ref af :: fv).zip fv, c, SdJ (((2 : Int) ^ K) ^ nn) (b + 3 * (K : Int)) q (List.zip (pf :: fsp b K (pf :: psr)) (fsp b K (pf :: psr))), rfl, At.fl (upH2 og _ mSd), All2.mono (fun _ _ ⟨T, n, e, m⟩ => ⟨T, n, e, (At.fl (upH2 og _ m)).mem⟩) hacc', by omega, (fun ⟨_, _, _, hj, _⟩ => absurd hj (Nat.not_lt_zero _)), ?step6, ?fin6⟩) rfl (by decide) rfl (by decide) rfl rfl (by decide) (fun _ => rfl)) rfl)
    case step6 =>
      intro i v₁ v₂ ys' C oC m₂ ba hpr hJ hC e1' e2' sub
      obtain ⟨⟨go, gp⟩, hg, ⟨ag, tg, ug, ng, e3', mg3⟩, ⟨ap, tp3, up3, np3, e4', mp3⟩⟩ := All2.get (all2_zip (T := PtIn H') (All2.cons2 (show PtIn H' (Value.ref af) pf from ⟨af, tf, uf, nf9, rfl, mf⟩) hF) hF) hpr
      dsimp only at e3' e4' mg3 mp3
      subst e3' e4'
      obtain ⟨⟨hg1, hg2⟩, ⟨hg3, hg4⟩⟩ := zip_ok (PsOk.head ok) (fsp_ok (b := b) (k := K) ok) hg
      have bC := sub _ (.head _)
      have bP := sub _ (List.mem_of_getElem? (i := 2) rfl)
      have bW := sub _ (List.mem_of_getElem? (i := 5) rfl)
      have bM := sub _ (List.mem_of_getElem? (i := 7) rfl)
      have bB := sub _ (List.mem_of_getElem? (i := 8) rfl)
      have bq := sub _ (.tail _ (At.fl (upH2 og _ mq)).mem)
      have bg := sub _ (.tail _ (At.fl (upH2 og _ mg3)).mem)
      have bp := sub _ (.tail _ (At.fl (upH2 og _ mp3)).mem)
      clear sub
      refine eb_plain ?_ (fun _ => rfl)
      walk_at "EG"
      repeat' (walk_at "EL")
      refine ek_con (beside_con hW hq1 hq2 hg1 hg2 hg3 hg4 ⟨by omega, by omega⟩ bq bg bp) rfl (by decide) (by decide) ?_
      rintro v tl ⟨rfl, rfl⟩
      exact ⟨_, rfl, rfl, rfl, fun hb => eg_pi (by walk_at "EI") fun t => ⟨rfl, rfl, SdJ.keep⟩, fun hb => SdJ.skip hJ hg (by rw [hb]; decide)⟩
    case fin6 =>
      intro rs hJ Dr
      obtain ⟨vy, rs', rfl⟩ := SdJ.fin hJ (by rw [hacc'.length, List.length_zip, List.length_zip, List.length_cons, List.length_cons]; omega) hsd
      refine ⟨Dr, _, _, rfl, At.mu 0 rfl, fun h => (nomatch (show false = true from h)), fun _ => st_next ?_⟩
      exact st_next ⟨⟨m, [(Str.ofString "sides", .ref Sd)], (cel L w1 z2 y3 y4 y5 y6 y7 y8 x9 [(S, Sc.s c4 R), (R, Sc.r c4)]), [] :: (og ++ H2), rest⟩, lo_all ["sides"] [1, 2, 3, 4, 5, 6, 7, 8, 9, 10, 11, 12] [] (by decide), m, w1, qs, [] :: og, rfl, ⟨_, d1'⟩, hv, hP⟩
  case fin2 =>
    rintro σ ⟨m, z1, qs, og, rfl, -⟩
    refine st_retv (by walk_at "EV") ⟨_, [(S, c4.s R), (R, c4.r)], [], .inl rfl, rfl, ?_, rfl, fun _ h => (nomatch h), rfl, rfl, c4, hc4, rfl⟩
    intro p hp
    rcases List.mem_cons.mp hp with rfl | hp
    · exact List.mem_of_getElem? (i := 9) rfl
    · rw [List.mem_singleton.mp hp]; exact List.mem_of_getElem? (i := 10) rfl
theorem right_4 {w : World} {rest : Led} {S R L : Addr} {c c4 : Sc} {oc cdv ct dV kV doc pm : Value} {od an : Option Addr} {osl : Array (Option Value)} {name qual : Str} {params : Arguments} {scope : Scope} {tail : List Stmt} {K : Nat} {b : Int} {uk ub : Tok} {D : Addr} {ys : List Value} {ps : List Pt} {nn : Nat} {um uw u0 : Tok} {DP Fa : Addr} {nF : Nat} {fv zs : List Value} {G : List Led} {m1 : Str → Option Value} {x1 x2 y3 y4 y5 y6 y7 y8 x9 : Obj} {s1 s2 s3 s4 s5 : Stmt} (ho : (hd.heap_39 w.params).lookup 345 = some ⟨oc, od, .func (fnOf name qual params (s1 :: s2 :: s3 :: s4 :: s5 :: tail) scope dV kV doc pm an cdv ct), osl⟩) (hc4 : c4.ok) (hb1 : 1 ≤ b) (hb6 : b ≤ 6) (hK1 : 1 ≤ K) (hK3 : K ≤ 3) (hB : ∀ p ∈ ps, PtB p) (hnn : (nn = 2 ∧ ps.length = 3) ∨ (nn = 3 ∧ ps.length = 4))
    (e1 : x1.data = .cell none) (e2 : x2.data = .cell none) (f3 : y3.data = .cell (some (.ref DP))) (f4 : y4.data = .cell (some (.int (((2 : Int) ^ K) ^ nn) uw))) (f5 : y5.data = .cell (some (.int ((2 : Int) ^ K) um))) (f6 : y6.data = .cell (some (.int (K : Int) uk))) (f7 : y7.data = .cell (some (.int b ub))) (f8 : y8.data = .cell (some (.ref D))) (e9 : x9.data = .cell (some (.ref S))) (mF : (Fa, lsO fv nF) ∈ G.flatten ++ rest) (mD : (D, LCg.lst ys) ∈ G.flatten ++ rest) (mDP : (DP, LCg.lst zs) ∈ G.flatten ++ rest) (hF : All2 (PtIn (G.flatten ++ rest)) fv (fsp b K ps)) (hys : All2 (PtIn (G.flatten ++ rest)) ys ps) (hzs : All2 (LsIn (G.flatten ++ rest)) zs ((List.range (2 ^ K + 1)).map fun j : Nat => place ((2 : Int) ^ K) (j : Int) nn ps)) :
    ST w ⟨qual, scope, 345, cdv, 24, 297⟩ L ⟨m1, [(Str.ofString "before", .int 0 u0), (Str.ofString "told", .ref Fa)], (cel L x1 x2 y3 y4 y5 y6 y7 y8 x9 [(S, Sc.s c4 R), (R, Sc.r c4)]), G, rest⟩ tail (DoneU [(S, c.s R), (R, c.r)] rest (fun mu' tl r => r = .bool true ∧ tl = [] ∧ ∃ c' : Sc, c'.ok ∧ mu' = [(S, c'.s R), (R, c'.r)])) := by
  obtain ⟨rfl, hb, rfl, rfl⟩ := fn_inj ho (by k_is)
  simp only [List.cons.injEq] at hb
  obtain ⟨-, -, -, -, -, rfl⟩ := hb
  clear ho
  have hps : ps.length = 3 ∨ ps.length = 4 := by omega
  have hys2 : ys.length = ps.length := hys.length
  have hM := two_pow8 hK1 hK3
  have hW := wbnd (ps := ps) hK1 hK3 hnn
  have hMn : 2 ^ K ≤ 8 := by exact_mod_cast hM.2
  have hfl := hF.length
  have hle := fsp_len b K ps
  have hle8 : ((fsp b K ps).length : Int) ≤ (2 : Int) ^ K := by exact_mod_cast hle
  have hne2 : fsp b K ps ≠ [] := fsp_ne (b := b) (k := K) hnn
  obtain ⟨la, lt, lu, ln, hla, mla⟩ := all2_last hF hne2
  obtain ⟨lb, lt', lu', ln', hlb, mlb⟩ := all2_last hys (by rintro rfl; simp at hnn)
  rw [fsp_last hnn] at mla
  have hfp : 0 < fv.length := by rw [hfl]; exact List.length_pos_iff.mpr hne2
  have hfv8 : fv.length ≤ 8 := by omega
  have hMc : ((2 ^ K : Nat) : Int) = (2 : Int) ^ K := by rw [Int.natCast_pow]; rfl
  refine st_if (eb_or (eb_nept (ep_lneg (by walk_at "EV") (by walk_at "EI") (At.fl mF) (by decide) (by decide) (seq_lastN hfp) (by rw [← List.getLast?_eq_getElem?]; exact hla) (by intro _; with_unfolding_all rfl)) (ep_lneg (by walk_at "EV") (by walk_at "EI") (At.fl mD) (by decide) (by decide) (seq_lastN (by omega)) (by rw [← List.getLast?_eq_getElem?]; exact hlb) (by intro _; with_unfolding_all rfl)) (At.fl mla) (At.fl mlb) rfl ?_))
  rw [if_neg (show ¬ ptNe _ _ = true from by unfold ptNe lastP; simp)]
  refine eb_or (eb_cmp (by walk_at "EI") (by walk_at "EI") rfl (by with_unfolding_all rfl) ?_)
  rw [if_neg (by rw [decide_eq_true_iff]; omega)]
  refine eb_or0 ⟨fun h => absurd h (by decide), fun _ => st_next ?_⟩
  clear mla mlb hla hlb
  obtain ⟨G', hG'⟩ : ∃ G', G' = G.flatten ++ rest := ⟨_, rfl⟩
  have upG : ∀ (og : List Led) x, x ∈ G' → x ∈ (og ++ G).flatten ++ rest := fun og x hx => by
    rw [List.flatten_append, List.append_assoc]; exact List.mem_append_right _ (hG' ▸ hx)
  rw [← hG'] at mF mD mDP hF hys hzs
  clear hG'
  refine st_for (eg_pv (by walk_at "EV") ⟨Fa, fv, nF, "list", fun r σ => ∃ m z2 tb b' qs og, σ = ⟨m, [(Str.ofString "before", .int b' tb), (Str.ofString "told", .ref Fa)], (cel L x1 z2 y3 y4 y5 y6 y7 y8 x9 [(S, Sc.s c4 R), (R, Sc.r c4)]), og ++ G, rest⟩ ∧ (∃ v, z2.data = .cell v) ∧ All2 (PtIn G') r qs ∧ Gr ((2 : Int) ^ K) (okAt K nn ps (((2 : Int) ^ K) ^ nn)) b' qs ∧ 0 ≤ b', rfl, .inl rfl,
    ⟨m1, x2, u0, 0, _, [], rfl, ⟨_, e2⟩, hF, law_told hnn, Int.le_refl _⟩, ?keep1, ?turn1, ?fin1⟩) (fun _ => rfl)
  case keep1 => rintro r σ ⟨m, z2, tb, b', qs, og, rfl, -⟩; exact At.fl (upG og _ mF)
  case turn1 =>
    rintro I oI v r σ ⟨m, z2, tb, b', qs, og, rfl, ⟨v2, d2⟩, hv, hgr, hb0⟩
    rcases qs with _ | ⟨q, qs⟩
    · exact hv.elim
    obtain ⟨⟨aq, tq, uq, nq, rfl, mq⟩, hv⟩ := hv
    obtain ⟨j, hj1, hj2, hok, hgr⟩ := hgr
    refine en_c 2 rfl rfl rfl rfl d2 (fun w2 d2' => ?_)
    have upg : ∀ (gg : List Led) x, x ∈ G' → x ∈ (gg ++ (og ++ G)).flatten ++ rest := fun gg x hx => by rw [← List.append_assoc]; exact upG _ x hx
    refine st_comp (ci_range2 (k := ((2 : Int) ^ K + 1 - (b' + 1)).toNat) (fun i gy σ' => ∃ gg : List Led, σ' = ⟨m, [(Str.ofString "before", .int b' tb), (Str.ofString "told", .ref Fa)], ((I, oI) :: cel L x1 w2 y3 y4 y5 y6 y7 y8 x9 [(S, Sc.s c4 R), (R, Sc.r c4)]), gg ++ (og ++ G), rest⟩ ∧ All2 (PtIn gg.flatten) gy ((List.range i).map fun i : Nat => (b' + 1 + (i : Int), 2 * gapV q.1 q.2 (((2 : Int) ^ K) ^ nn) (place ((2 : Int) ^ K) (b' + 1 + (i : Int)) nn ps).1 (place ((2 : Int) ^ K) (b' + 1 + (i : Int)) nn ps).2)))
      (by walk_at "EV") (by walk_at "EI") (by walk_at "EI") (by omega) (by omega) (by omega) ⟨[], rfl, trivial⟩ ⟨?m4, fun _ _ _ _ => trivial, ?turn4⟩ ?fin4 rfl rfl rfl rfl) rfl (by decide) rfl (by decide) rfl (fun _ => rfl) rfl rfl rfl
    case m4 => rintro _ _ _ ⟨_, rfl, _⟩; rfl
    case turn4 =>
      rintro i v gy σ I2 oI2 C oC D' m₂ hi ⟨t, rfl⟩ ⟨gg, rfl, hgy⟩ hC hx
      obtain ⟨vp, hvp, ap, tp', up, rfl, mp⟩ := all2_map_get hzs (i := (b' + 1 + (i : Int)).toNat) (by omega)
      rw [show (((b' + 1 + (i : Int)).toNat : Nat) : Int) = b' + 1 + (i : Int) by omega] at mp
      refine eg_tuple ?_
      refine el_v (by walk_at "EV") rfl (el_cons (eg_mulG (by walk_at "EI") ?_) rfl)
      walk_at "EG"
      refine el_v (by walk_at "EV") rfl (el_v (ep_lst (by walk_at "EV") (by walk_at "EI") (At.fl (upg gg _ mDP)) (by omega) hvp (by omega) (by intro _; with_unfolding_all rfl) (by intro _; with_unfolding_all rfl)) rfl ?_)
      repeat' (walk_at "EL")
      refine ek_con (gap_con hW (At.fl (upg gg _ mq)).mem (At.fl (upg gg _ mp)).mem) rfl (by decide) (by decide) ?_
      rintro v tl ⟨rfl, tg, rfl⟩
      refine ⟨_, _, rfl, mulL (by decide), fun ug => el_nil ⟨Nat.le_of_ble_eq_true rfl, fun T => ⟨_, Lo.rfl, [_] :: [] :: gg, rfl, ?_⟩⟩⟩
      rw [List.range_succ, List.map_append]
      exact All2.append (All2.mono (fun _ _ h => h.mono fun x hx => .tail _ hx) hgy) ⟨⟨T, t, ug, 0, rfl, .head _⟩, trivial⟩
    case fin4 =>
      rintro gy σ' ⟨gg, rfl, hgy⟩
      refine ⟨rfl, fun Dg => ?_⟩
      obtain ⟨gs, hgs⟩ : ∃ gs, gs = (List.range ((2 : Int) ^ K + 1 - (b' + 1)).toNat).map (fun i : Nat => (b' + 1 + (i : Int), 2 * gapV q.1 q.2 (((2 : Int) ^ K) ^ nn) (place ((2 : Int) ^ K) (b' + 1 + (i : Int)) nn ps).1 (place ((2 : Int) ^ K) (b' + 1 + (i : Int)) nn ps).2)) := ⟨_, rfl⟩
      rw [← hgs] at hgy
      have hkf := kept_first (g := fun j => 2 * gapV q.1 q.2 (((2 : Int) ^ K) ^ nn) (place ((2 : Int) ^ K) j nn ps).1 (place ((2 : Int) ^ K) j nn ps).2) hj1 hj2 hok
      rw [← hgs] at hkf
      obtain ⟨j0, jr, hkf, hj3, hj4⟩ := hkf
      have hgl : gs.length ≤ 9 := by rw [hgs, List.length_map, List.length_range]; omega
      clear hgs
      obtain ⟨prs, hp1, hp2⟩ := pairs_of hgy
      refine st_pairs (eg_pv (by walk_at "EV") ⟨Dg, gy, prs, _, fun i ys' => All2 IntIs ys' (kept (3 * (K : Int) * ((2 : Int) ^ K) ^ nn) (gs.take i)), rfl, At.mu 0 rfl, All2.mono (fun _ _ ⟨T, n, e, m⟩ => ⟨T, n, e, List.mem_append_right _ (List.mem_append_left _ (by rw [List.flatten_append]; exact List.mem_append_left _ m))⟩) hp1, by rw [hgy.length]; omega, trivial, ?step5, ?fin5⟩) rfl (by decide) rfl (by decide) rfl rfl (by decide) (fun _ => rfl) rfl rfl rfl
      case step5 =>
        intro i v₁ v₂ ys' C oC m₂ ba hpr hJ hC e1' e2' sub
        obtain ⟨g, hg, tg, ug, e⟩ := All2.get hp2 hpr
        obtain ⟨rfl, rfl⟩ := Prod.mk.inj e
        have bC := sub _ (.head _)
        have bM := sub _ (List.mem_of_getElem? (i := 8) rfl)
        have bW := sub _ (List.mem_of_getElem? (i := 6) rfl)
        clear sub e
        refine eb_cmp (by walk_at "EI") (ep_mul (ep_mul (by walk_at "EI") (by walk_at "EI") (mulL (by decide))) (by walk_at "EI") (mulR (by omega))) rfl (by with_unfolding_all rfl) ⟨rfl, rfl, fun hb => ?_, fun hb => rows_skip hJ hg (of_decide_eq_false hb)⟩
        exact eg_pv (by walk_at "EV") ⟨rfl, rfl, rows_keep hJ hg (of_decide_eq_true hb)⟩
      case fin5 =>
        intro rs hJ Dr
        rw [List.take_of_length_le (by rw [hgy.length]; exact Nat.le_refl _), hkf] at hJ
        obtain ⟨t0r, rs', rfl⟩ := int_rows hJ
        refine st_if (eb_eq0 (by walk_at "EV") (At.mu 0 rfl) rfl ⟨fun h => (nomatch (show false = true from h)), fun _ => st_next ?_⟩ rfl)
        refine st_setv (v := .int j0 t0r) (by walk_at "EV") rfl rfl rfl ?_
        exact st_next ⟨⟨_, [(Str.ofString "before", .int j0 t0r), (Str.ofString "told", .ref Fa)], (cel L x1 w2 y3 y4 y5 y6 y7 y8 x9 [(S, Sc.s c4 R), (R, Sc.r c4)]), [] :: (gg ++ (og ++ G)), rest⟩, lo_all ["before", "told"] [2, 3, 4, 5, 6, 7, 8, 9, 10, 11, 12, 13] [] (by decide),
          _, w2, t0r, j0, qs, [] :: (gg ++ og), by rw [List.cons_append, List.append_assoc], ⟨_, d2'⟩, hv, hgr.mono hj4, by omega⟩
  case fin1 =>
    rintro σ ⟨m, z2, tb, b', qs, og, rfl, ⟨v2, d2⟩, -⟩
    exact right_5 (by k_is) hc4 hb1 hb6 hK1 hK3 hB hnn e1 f3 f4 f5 f6 f7 f8 e9 mF mD mDP hF hys hzs (upG og)
theorem right_3 {w : World} {rest : Led} {S R L : Addr} {c c4 : Sc} {oc cdv ct dV kV doc pm : Value} {od an : Option Addr} {osl : Array (Option Value)} {name qual : Str} {params : Arguments} {scope : Scope} {tail : List Stmt} {K : Nat} {b : Int} {uk ub : Tok} {D : Addr} {ys : List Value} {ps : List Pt} {nn : Nat} {um uw u0 : Tok} {Fa : Addr} {nF : Nat} {fv : List Value} {tl : Led} {gs : List Led} {m1 : Str → Option Value} {x1 x2 x3 y4 y5 y6 y7 y8 x9 : Obj} {s1 s2 s3 s4 : Stmt} (ho : (hd.heap_39 w.params).lookup 345 = some ⟨oc, od, .func (fnOf name qual params (s1 :: s2 :: s3 :: s4 :: tail) scope dV kV doc pm an cdv ct), osl⟩) (hc4 : c4.ok) (hb1 : 1 ≤ b) (hb6 : b ≤ 6) (hK1 : 1 ≤ K) (hK3 : K ≤ 3) (hB : ∀ p ∈ ps, PtB p) (hnn : (nn = 2 ∧ ps.length = 3) ∨ (nn = 3 ∧ ps.length = 4))
    (e1 : x1.data = .cell none) (e2 : x2.data = .cell none) (e3 : x3.data = .cell none) (f4 : y4.data = .cell (some (.int (((2 : Int) ^ K) ^ nn) uw))) (f5 : y5.data = .cell (some (.int ((2 : Int) ^ K) um))) (f6 : y6.data = .cell (some (.int (K : Int) uk))) (f7 : y7.data = .cell (some (.int b ub))) (f8 : y8.data = .cell (some (.ref D))) (e9 : x9.data = .cell (some (.ref S))) (mF : (Fa, lsO fv nF) ∈ tl) (hF : All2 (PtIn ((tl :: [(D, LCg.lst ys)] :: gs).flatten ++ rest)) fv (fsp b K ps)) (hys : All2 (PtIn gs.flatten) ys ps) :
    ST w ⟨qual, scope, 345, cdv, 24, 297⟩ L ⟨m1, [(Str.ofString "before", .int 0 u0), (Str.ofString "told", .ref Fa)], (cel L x1 x2 x3 y4 y5 y6 y7 y8 x9 [(S, Sc.s c4 R), (R, Sc.r c4)]), tl :: [(D, LCg.lst ys)] :: gs, rest⟩ tail (DoneU [(S, c.s R), (R, c.r)] rest (fun mu' tl r => r = .bool true ∧ tl = [] ∧ ∃ c' : Sc, c'.ok ∧ mu' = [(S, c'.s R), (R, c'.r)])) := by
  obtain ⟨rfl, hb, rfl, rfl⟩ := fn_inj ho (by k_is)
  simp only [List.cons.injEq] at hb
  obtain ⟨-, -, -, -, rfl⟩ := hb
  clear ho
  have hps : ps.length = 3 ∨ ps.length = 4 := by omega
  have hM := two_pow8 hK1 hK3
  have hnl : ps.length - 1 = nn := by omega
  have hMn : 2 ^ K ≤ 8 := by exact_mod_cast hM.2
  refine st_setn (eg_comp (ci_range (k := 2 ^ K + 1) (fun i zs σ' => ∃ zg : List Led, σ' = ⟨m1, [(Str.ofString "before", .int 0 u0), (Str.ofString "told", .ref Fa)], (cel L x1 x2 x3 y4 y5 y6 y7 y8 x9 [(S, Sc.s c4 R), (R, Sc.r c4)]), zg ++ (tl :: [(D, LCg.lst ys)] :: gs), rest⟩ ∧ All2 (LsIn zg.flatten) zs ((List.range i).map fun j : Nat => place ((2 : Int) ^ K) (j : Int) nn ps)) (by walk_at "EV") (by walk_at "EI") (by rw [Int.natCast_add, Int.natCast_pow]; rfl) (by omega) ⟨[], rfl, trivial⟩ ⟨?m3, fun _ _ _ _ => trivial, ?turn3⟩ ?fin3 rfl rfl) rfl (by decide) rfl (by decide) rfl (fun _ => rfl)) rfl
  case m3 => rintro _ _ _ ⟨_, rfl, _⟩; rfl
  case turn3 =>
    rintro i v zs σ I oI C oC D' m₂ hi ⟨t, rfl⟩ ⟨zg, rfl, hzs⟩ hC hx
    walk_at "EG"
    repeat' (walk_at "EL")
    have up : ∀ x ∈ (D, LCg.lst ys) :: gs.flatten, x ∈ (zg ++ (tl :: [(D, LCg.lst ys)] :: gs)).flatten := fun x hx => by
      rw [List.flatten_append]; exact List.mem_append_right _ (List.mem_append_right _ hx)
    refine ek_con (place_con (ps := ps) (vs := ys) ⟨by omega, by omega⟩ ⟨by omega, hM.2⟩ (At.fl (List.mem_append_left _ (up _ (.head _)))).mem (All2.mono (fun _ _ h => h.mono fun x hx => (At.fl (List.mem_append_left _ (up _ (.tail _ hx)))).mem) hys) hps) rfl (by decide) (by decide) ?_
    rintro v tl' ⟨a, t', u', rfl, rfl⟩
    refine ⟨_, Lo.rfl, [_] :: zg, rfl, ?_⟩
    rw [List.range_succ, List.map_append, hnl]
    exact All2.append (All2.mono (fun _ _ h => h.mono fun x hx => .tail _ hx) hzs) ⟨⟨a, t', u', rfl, .head _⟩, trivial⟩
  case fin3 =>
    rintro zs σ' ⟨zg, rfl, hzs⟩
    refine ⟨rfl, fun DP => en_c 3 rfl rfl rfl rfl (by assumption) (fun y3 f3 => ?_)⟩
    obtain ⟨G, hG⟩ : ∃ G, G = [(DP, LCg.lst zs)] :: (zg ++ (tl :: [(D, LCg.lst ys)] :: gs)) := ⟨_, rfl⟩
    have up : ∀ x ∈ (tl :: [(D, LCg.lst ys)] :: gs).flatten ++ rest, x ∈ G.flatten ++ rest := fun x hx => by
      rw [hG, List.flatten_cons, List.flatten_append]
      rcases List.mem_append.mp hx with hx | hx
      · exact List.mem_append_left _ (List.mem_append_right _ (List.mem_append_right _ hx))
      · exact List.mem_append_right _ hx
    have mDP : (DP, LCg.lst zs) ∈ G.flatten ++ rest := by rw [hG]; exact .head _
    replace mF := up _ (List.mem_append_left _ (List.mem_append_left _ mF))
    have mD := up (D, LCg.lst ys) (List.mem_append_left _ (List.mem_append_right _ (.head _)))
    replace hF := All2.mono (fun _ _ h => h.mono up) hF
    replace hys := All2.mono (fun _ _ h => h.mono fun x hx => up x (List.mem_append_left _ (List.mem_append_right _ (.tail _ hx)))) hys
    replace hzs : All2 (LsIn (G.flatten ++ rest)) zs _ := All2.mono (fun _ _ h => h.mono fun x hx => by rw [hG, List.flatten_cons, List.flatten_append]; exact List.mem_append_left _ (List.mem_append_right _ (List.mem_append_left _ hx))) hzs
    refine st_lo (σ' := ⟨m1, [(Str.ofString "before", .int 0 u0), (Str.ofString "told", .ref Fa)], (cel L x1 x2 y3 y4 y5 y6 y7 y8 x9 [(S, Sc.s c4 R), (R, Sc.r c4)]), G, rest⟩) (hG ▸ lo_all ["before", "told"] [1, 2, 3, 4, 5, 6, 7, 8, 9, 10, 11] [0] (by decide)) ?_
    exact right_4 (by k_is) hc4 hb1 hb6 hK1 hK3 hB hnn e1 e2 f3 f4 f5 f6 f7 f8 e9 mF mD mDP hF hys hzs
theorem right_2 {w : World} {rest : Led} {S R L : Addr} {c c4 : Sc} {oc cdv ct dV kV doc pm : Value} {od an : Option Addr} {osl : Array (Option Value)} {name qual : Str} {params : Arguments} {scope : Scope} {tail : List Stmt} {K : Nat} {b : Int} {uk ub : Tok} {D : Addr} {ys : List Value} {ps : List Pt} {gs : List Led} {m0 : Str → Option Value} {x1 x2 x3 x4 x5 y6 y7 y8 x9 : Obj} {s1 s2 : Stmt} (ho : (hd.heap_39 w.params).lookup 345 = some ⟨oc, od, .func (fnOf name qual params (s1 :: s2 :: tail) scope dV kV doc pm an cdv ct), osl⟩) (hc4 : c4.ok) (hb1 : 1 ≤ b) (hb6 : b ≤ 6) (hK1 : 1 ≤ K) (hK3 : K ≤ 3) (hB : ∀ p ∈ ps, PtB p) (hps : ps.length = 3 ∨ ps.length = 4)
    (e1 : x1.data = .cell none) (e2 : x2.data = .cell none) (e3 : x3.data = .cell none) (e4 : x4.data = .cell none) (e5 : x5.data = .cell none) (f6 : y6.data = .cell (some (.int (K : Int) uk))) (f7 : y7.data = .cell (some (.int b ub))) (f8 : y8.data = .cell (some (.ref D))) (e9 : x9.data = .cell (some (.ref S))) (hys : All2 (PtIn gs.flatten) ys ps) :
    ST w ⟨qual, scope, 345, cdv, 24, 297⟩ L ⟨m0, [], (cel L x1 x2 x3 x4 x5 y6 y7 y8 x9 [(S, Sc.s c4 R), (R, Sc.r c4)]), [(D, LCg.lst ys)] :: gs, rest⟩ tail (DoneU [(S, c.s R), (R, c.r)] rest (fun mu' tl r => r = .bool true ∧ tl = [] ∧ ∃ c' : Sc, c'.ok ∧ mu' = [(S, c'.s R), (R, c'.r)])) := by
  obtain ⟨rfl, hb, rfl, rfl⟩ := fn_inj ho (by k_is)
  simp only [List.cons.injEq] at hb
  obtain ⟨-, -, rfl⟩ := hb
  clear ho
  have hys2 : ys.length = ps.length := hys.length
  obtain ⟨nn, hnn⟩ : ∃ nn, (nn = 2 ∧ ps.length = 3) ∨ (nn = 3 ∧ ps.length = 4) := ⟨ps.length - 1, by omega⟩
  have ok : PsOk ps := ⟨hps, fun p hp => (hB p hp).ok⟩
  have hM := two_pow8 hK1 hK3
  have hW := wbnd (ps := ps) hK1 hK3 hnn
  refine st_asg2 (el_i (x := 2 ^ K) (ep_pow (y := (K : Int)) (by walk_at "EI") (by walk_at "EI") (by omega) (by omega) (by decide)) rfl (fun um => el_cons ?_ rfl)) rfl rfl rfl
  walk_at "EG"
  repeat' (walk_at "EL")
  refine ek_con (spots_con (K := K) (ps := ps) (List.mem_append_right _ (.head _)) (All2.mono (fun _ _ h => h.mono fun x hx => List.mem_append_right _ (.tail _ (List.mem_append_left _ hx))) hys) ok ⟨by omega, by omega⟩ hK3) rfl (by decide) (by decide) ?_
  rintro v tl ⟨Fa, nF, fv, rfl, mF, hF⟩
  replace hF : All2 (PtIn ((tl :: [(D, LCg.lst ys)] :: gs).flatten ++ rest)) fv (fsp b K ps) := All2.mono (fun _ _ h => h.cut (mu := (cel L x1 x2 x3 x4 x5 y6 y7 y8 x9 [(S, Sc.s c4 R), (R, Sc.r c4)])) (fun x hx => by
    rcases List.mem_append.mp hx with hx | hx
    · exact .inr (List.mem_append_left _ (List.mem_append_left _ hx))
    · rcases List.mem_append.mp hx with hx | hx
      · exact .inl hx
      · rcases List.mem_append.mp hx with hx | hx
        · exact .inr (List.mem_append_left _ (List.mem_append_right _ hx))
        · exact .inr (List.mem_append_right _ hx)) (by simp only [List.forall_mem_cons]; exact ⟨.inr ⟨_, e1⟩, .inr ⟨_, e2⟩, .inr ⟨_, e3⟩, .inr ⟨_, e4⟩, .inr ⟨_, e5⟩, .inr ⟨_, f6⟩, .inr ⟨_, f7⟩, .inr ⟨_, f8⟩, .inr ⟨_, e9⟩, .inl (.inl rfl), .inl (.inl rfl), fun _ h => (nomatch h)⟩)) hF
  have hfl := hF.length
  have hle := fsp_len b K ps
  have hle8 : ((fsp b K ps).length : Int) ≤ (2 : Int) ^ K := by exact_mod_cast hle
  refine el_nil ⟨_, _, rfl, en_c 4 rfl rfl rfl rfl (by assumption) (fun y5 f5 => en_l rfl rfl ?_)⟩
  refine st_asg2 (el_i (x := ((2 : Int) ^ K) ^ nn) (ep_powN (x := 2 ^ K) (y := (ys.length : Int) - 1) (by walk_at "EI") (by walk_at "EI") (by omega) (by omega) (by omega)) rfl (fun uw => ?_)) rfl rfl rfl
  refine el_i (by walk_at "EI") rfl (fun u0 => ?_)
  refine el_nil ⟨_, _, rfl, en_c 3 rfl rfl rfl rfl (by assumption) (fun y4 f4 => en_l rfl rfl ?_)⟩
  exact st_lo (σ' := ⟨_, [(Str.ofString "before", .int 0 u0), (Str.ofString "told", .ref Fa)], (cel L x1 x2 x3 y4 y5 y6 y7 y8 x9 [(S, Sc.s c4 R), (R, Sc.r c4)]), tl :: [(D, LCg.lst ys)] :: gs, rest⟩) Lo.rfl (right_3 (by k_is) hc4 hb1 hb6 hK1 hK3 hB hnn e1 e2 e3 f4 f5 f6 f7 f8 e9 mF hF hys)
theorem right_con {w : World} {rest : Led} {S R : Addr} (c : Sc) (hc : c.ok) (hne : S ≠ R) (oS : ∀ p ∈ rest, p.1 ≠ S) (oR : ∀ p ∈ rest, p.1 ≠ R) :
    ConU w 345 [(S, c.s R), (R, c.r)] rest [.ref S] 25 300 (fun mu' tl r => r = .bool true ∧ tl = [] ∧ ∃ c' : Sc, c'.ok ∧ mu' = [(S, c'.s R), (R, c'.r)]) := by
  refine con_U (mu0 := [(S, c.s R), (R, c.r)]) ["source"] (dd := 24) (uu := 297) (by k_is) (by k_is) rfl rfl (by decide +kernel) rfl rfl rfl ⟨fun q hq => by rw [List.mem_singleton.mp hq]; exact hne, fun q hq => (oS q hq).symm, fun _ h => (nomatch h), fun q hq => (oR q hq).symm, trivial⟩ ?_
  intro L cells Y
  obtain ⟨x1, r1, rfl, d1, Y⟩ := cells_unc Y
  obtain ⟨x2, r2, rfl, d2, Y⟩ := cells_unc Y
  obtain ⟨x3, r3, rfl, d3, Y⟩ := cells_unc Y
  obtain ⟨x4, r4, rfl, d4, Y⟩ := cells_unc Y
  obtain ⟨x5, r5, rfl, d5, Y⟩ := cells_unc Y
  obtain ⟨x6, r6, rfl, d6, Y⟩ := cells_unc Y
  obtain ⟨x7, r7, rfl, d7, Y⟩ := cells_unc Y
  obtain ⟨x8, r8, rfl, d8, Y⟩ := cells_unc Y
  obtain ⟨x9, r9, rfl, d9, Y⟩ := cells_unc Y
  obtain rfl := cells_unn Y
  have e1 : x1.data = .cell none := d1
  have e2 : x2.data = .cell none := d2
  have e3 : x3.data = .cell none := d3
  have e4 : x4.data = .cell none := d4
  have e5 : x5.data = .cell none := d5
  have e6 : x6.data = .cell none := d6
  have e7 : x7.data = .cell none := d7
  have e8 : x8.data = .cell none := d8
  have e9 : x9.data = .cell (some (.ref S)) := d9
  clear d1 d2 d3 d4 d5 d6 d7 d8 d9
  refine st_lo (lo_all [] [0, 1, 2, 3, 4, 5, 6, 7, 8, 9, 10] [] (by decide)) ?_
  generalize (bindL _ _ _) = m0
  refine st_setn (eg_comp (ci_rangeG (by walk_at "EV") (eg_addG (by walk_at "EI") ?tk1) rfl rfl) rfl (by decide) rfl (by decide) rfl (fun _ => rfl)) rfl
  walk_at "EG"
  repeat' (walk_at "EL")
  refine ek_take (c := c) (i := 9) (j := 10) rfl rfl (by decide) hc (by decide) (by decide) rfl (by decide) (by decide) ?_
  intro k t c1 k0 k1 hc1
  refine ⟨k, t, rfl, fun u => ⟨rfl, (3 + k).toNat, u, fun i ys σ' => ∃ (c' : Sc) (gs : List Led) (ps : List Pt), σ' = ⟨m0, [], (cel L x1 x2 x3 x4 x5 x6 x7 x8 x9 [(S, Sc.s c' R), (R, Sc.r c')]), gs, rest⟩ ∧ c'.ok ∧ All2 (PtIn gs.flatten) ys ps ∧ ps.length = i ∧ ∀ p ∈ ps, PtB p, by rw [show (((3 + k).toNat : Nat) : Int) = 3 + k by omega], by omega, ⟨c1, _, [], rfl, hc1, trivial, rfl, fun _ h => (nomatch h)⟩, ⟨?m1, fun _ _ _ _ => trivial, ?turn1⟩, ?fin1⟩⟩
  case m1 => rintro _ _ _ ⟨_, _, _, rfl, _⟩; rfl
  case turn1 =>
    rintro i v ys σ I oI C oC D m₂ hi ⟨t1, rfl⟩ ⟨c2, gs, ps, rfl, hc2, hys, hl, hB⟩ hC hx
    refine eg_tuple (el_cons (eg_subG ?_) rfl)
    walk_at "EG"
    repeat' (walk_at "EL")
    refine ek_take (c := c2) (i := 12) (j := 13) rfl rfl (by decide) hc2 (by decide) (by decide) rfl (by decide) (by decide) ?_
    intro a ta c3 a0 a1 hc3
    refine ⟨a, ta, 60, rfl, by walk_at "EI", fun ua => el_cons (eg_subG ?_) rfl⟩
    walk_at "EG"
    repeat' (walk_at "EL")
    refine ek_take (c := c3) (i := 12) (j := 13) rfl rfl (by decide) hc3 (by decide) (by decide) rfl (by decide) (by decide) ?_
    intro b tb c4 b0 b1 hc4
    refine ⟨b, tb, 60, rfl, by walk_at "EI", fun ub => el_nil ⟨Nat.le_of_ble_eq_true rfl, fun T => ⟨_, Lo.rfl, c4, [_] :: gs, ps ++ [(a - 60, b - 60)], rfl, hc4, ?_, ?_, ?_⟩⟩⟩
    · exact All2.append (All2.mono (fun _ _ h => h.mono fun x hx => .tail _ hx) hys) ⟨⟨T, ua, ub, 0, rfl, .head _⟩, trivial⟩
    · rw [List.length_append, hl]; rfl
    · intro p hp
      rcases List.mem_append.mp hp with hp | hp
      · exact hB p hp
      · rw [List.mem_singleton.mp hp]; exact ⟨by constructor <;> dsimp only <;> omega, by constructor <;> dsimp only <;> omega⟩
  case fin1 =>
    rintro ys σ' ⟨c2, gs, ps, rfl, hc2, hys, hl, hB⟩
    refine ⟨rfl, fun D => ?_⟩
    refine en_c 8 rfl rfl rfl rfl (by assumption) (fun y8 f8 => ?_)
    refine st_lo (σ' := ⟨m0, [], (cel L x1 x2 x3 x4 x5 x6 x7 y8 x9 [(S, Sc.s c2 R), (R, Sc.r c2)]), [(D, LCg.lst ys)] :: gs, rest⟩) (lo_all [] [1, 2, 3, 4, 5, 6, 7, 8, 9, 10, 11] [0] (by decide)) ?_
    clear e8
    refine st_asg2 (el_cons (eg_addG (by walk_at "EI") ?_) rfl) rfl rfl rfl
    walk_at "EG"
    repeat' (walk_at "EL")
    refine ek_take (c := c2) (i := 9) (j := 10) rfl rfl (by decide) hc2 (by decide) (by decide) rfl (by decide) (by decide) ?_
    intro b0 tb c3 b00 b06 hc3
    refine ⟨b0, tb, rfl, fun ub => el_cons (eg_addG (by walk_at "EI") ?_) rfl⟩
    walk_at "EG"
    repeat' (walk_at "EL")
    refine ek_take (c := c3) (i := 9) (j := 10) rfl rfl (by decide) hc3 (by decide) (by decide) rfl (by decide) (by decide) ?_
    intro k0' tk0 c4 k00 k03 hc4
    refine ⟨k0', tk0, rfl, fun uk => el_nil ?_⟩
    obtain ⟨b, hbe, hb1, hb6⟩ : ∃ b, b = 1 + b0 ∧ 1 ≤ b ∧ b ≤ 6 := ⟨_, rfl, by omega, by omega⟩
    obtain ⟨K, hKe, hK1, hK3⟩ := natK rfl k00 k03
    rw [← hKe, ← hbe]
    clear hKe hbe b00 b06 k00 k03 hc2 hc3
    refine ⟨_, _, rfl, en_c 6 rfl rfl rfl rfl (by assumption) (fun y7 f7 => en_c 5 rfl rfl rfl rfl (by assumption) (fun y6 f6 => ?_))⟩
    exact st_lo (σ' := ⟨m0, [], (cel L x1 x2 x3 x4 x5 y6 y7 y8 x9 [(S, Sc.s c4 R), (R, Sc.r c4)]), [(D, LCg.lst ys)] :: gs, rest⟩) Lo.rfl (right_2 (by k_is) hc4 hb1 hb6 hK1 hK3 hB (by omega) e1 e2 e3 e4 e5 f6 f7 f8 e9 hys)
end
section
noncomputable def setA (n : Str) (v : Value) : List (Str × Value) → List (Str × Value)
  | [] => [(n, v)]
  | p :: r => if n == p.1 then (n, v) :: r else p :: setA n v r
theorem setA_look {n : Str} {v : Value} {x : Str} : ∀ l : List (Str × Value), (setA n v l).lookup x = if x = n then some v else l.lookup x := by
  intro l
  induction l with
  | nil =>
    by_cases e : x = n
    · subst e; simp [setA, List.lookup]
    · have : (x == n) = false := by simpa using e
      simp [setA, List.lookup, this, e]
  | cons p r ih =>
    unfold setA
    by_cases h : n = p.1
    · rw [if_pos (by simpa using h)]
      by_cases e : x = n
      · subst e; simp [List.lookup]
      · have h1 : (x == n) = false := by simpa using e
        have h2 : (x == p.1) = false := by rw [← h]; exact h1
        simp [List.lookup, h1, h2, e]
    · rw [if_neg (by simpa using h), List.lookup_cons, List.lookup_cons, ih]
      by_cases e : x = n
      · subst e
        have : (x == p.1) = false := by simpa using h
        simp [this]
      · simp [e]
theorem isStr_str {s n : Str} {t : Tok} : (Value.str s t).isStr n = (s == n) := by
  first | rfl | simp [Value.isStr]
noncomputable def Keys (es : List DictEntry) : Prop := ∀ e ∈ es, ∃ s t, e.key = .str s t
/-- the dict of an object of a class: what its attributes are -/
noncomputable def HasA (k : Nat) (o : Obj) (l : List (Str × Value)) : Prop := ∃ es n, o = dictOf es n ∧ es.length ≤ k ∧ Keys es ∧ ∀ x, (es.find? (·.key.isStr x)).map (·.val) = l.lookup x
theorem getL_of {es : List DictEntry} (hk : Keys es) (x : Str) : getL x es = some ((es.find? (·.key.isStr x)).map (·.val)) := by
  have h : es.any (·.refKey) = false := by
    rw [List.any_eq_false]
    intro e he
    obtain ⟨s, t, h⟩ := hk e he
    simp [DictEntry.refKey, h]
  unfold getL
  cases es.find? (·.key.isStr x) with
  | none => simp [h]
  | some e => rfl
theorem hasA_nil : HasA 0 (dictOf [] 0) [] := ⟨[], 0, rfl, Nat.le_refl _, fun _ h => (nomatch h), fun _ => rfl⟩
theorem putL_ok {n : Str} {h : Int} {t : Tok} {v : Value} {es : List DictEntry} (hk : Keys es) : (putL n h (.str n t) v es).length ≤ es.length + 1 ∧ Keys (putL n h (.str n t) v es) ∧ ∀ x, ((putL n h (.str n t) v es).find? (·.key.isStr x)).map (·.val) = if x = n then some v else (es.find? (·.key.isStr x)).map (·.val) := by
  induction es with
  | nil =>
    refine ⟨Nat.le_refl _, fun e he => ?_, fun x => ?_⟩
    · rw [List.mem_singleton.mp he]; exact ⟨_, _, rfl⟩
    · by_cases e : x = n
      · subst e; simp [putL, isStr_str]
      · have : (n == x) = false := by simpa using fun h => e h.symm
        simp [putL, isStr_str, this, e]
  | cons e r ih =>
    obtain ⟨s, t', hs⟩ := hk e (.head _)
    obtain ⟨i1, i2, i3⟩ := ih fun e he => hk e (.tail _ he)
    unfold putL
    by_cases c : s = n
    · rw [if_pos (by rw [hs, isStr_str]; simpa using c)]
      refine ⟨Nat.le_succ _, fun a ha => ?_, fun x => ?_⟩
      · rcases List.mem_cons.mp ha with rfl | ha
        · exact ⟨s, t', hs⟩
        · exact hk a (.tail _ ha)
      · by_cases d : x = n
        · subst d; simp [hs, isStr_str, c]
        · have : (s == x) = false := by rw [c]; simpa using fun h => d h.symm
          simp [hs, isStr_str, this, d]
    · rw [if_neg (by rw [hs, isStr_str]; simpa using c)]
      refine ⟨Nat.succ_le_succ i1, fun a ha => ?_, fun x => ?_⟩
      · rcases List.mem_cons.mp ha with rfl | ha
        · exact ⟨s, t', hs⟩
        · exact i2 a ha
      · rw [List.find?_cons, List.find?_cons, hs, isStr_str]
        by_cases d : s = x
        · have hx : ¬ x = n := fun h => c (d.trans h)
          simp [d, hx]
        · have : (s == x) = false := by simpa using d
          rw [this]
          exact i3 x
section
variable {w : World} {F : Fi} {L : Addr} {V : Env} {σ : Sg} {e o func : Expr} {es : List Expr} {p pos p1 p2 apos : Pos} {R : Value → Sg → Prop} {RF : Flow → Sg → Prop} {x dx C f : Addr} {k : Nat} {n xn : Str} {v : Value} {rest : List Stmt} {l : List (Str × Value)} {od : Obj} {vs : List Value}
/-- a field of an object of a class -/
theorem ep_attr {attr : Option Value} (ho : EP w F L V σ (.Name xn p1) (.v (.ref x))) (hx : At σ (x, instObj C dx)) (hdx : At σ (dx, od)) (hA : HasA k od l) (hv : l.lookup n = some v) (hg : plainGet (hd.heap_39 w.params) C n = true) (hh : hasDictIn (hd.heap_39 w.params) C = true)
    (ha : findIn (hd.heap_39 w.params) (.ref C) n = some attr) (hn : noGet (hd.heap_39 w.params) attr = true) (hv2 : handedIn v = true)
    (he : eval (.Attribute (.Name xn p1) n p) V = (do
      let o ← eval (.Name xn p1) V
      standAt p.atName
      let r ← holding [o] (getAttr o n true)
      letTemporaryGo (.Name xn p1) o r
      pure r)) : EP w F L V σ (.Attribute (.Name xn p1) n p) (.v v) :=
  fun c h tk Q E S hq => Attribute_Name_ (ho c h tk _ E S fun tk' => by
    obtain ⟨es, k', rfl, _, hk, hl⟩ := hA
    exact get_own S.fr c.X (InstAt.of_news S.nw hx.mem hdx.mem) hg hh ha hn (by rw [getL_of hk, hl, hv]) hv2 (hq _)) he
/-- a field set -/
inductive SetP (w : World) (F : Fi) (L : Addr) (o : Expr) (C : Addr) (n : Str) (rest : List Stmt) (RF : Flow → Sg → Prop) (v : Value) (σ' : Sg) : Prop
  | mk (x dx : Addr) (i : Nat) (od : Obj) (k : Nat) (l : List (Str × Value)) (ho : EP w F L (F.env L) σ' o (.v (.ref x))) (hx : At σ' (x, instObj C dx)) (hi : σ'.mu[i]? = some (dx, od)) (hA : HasA k od l) (hk9 : k ≤ 900)
    (hR : ∀ od', HasA (k + 1) od' (setA n v l) → ST w F L (σ'.put i (dx, od')) rest RF)
theorem st_seta (he : EG w F L (F.env L) σ e (SetP w F L o C n rest RF))
    (hs : findIn (hd.heap_39 w.params) (.ref C) "__setattr__" = some (some (.builtin "object.__setattr__"))) (hp : plainOver (hd.heap_39 w.params) C = true) (ht : takerIn (hd.heap_39 w.params) C n = some none) (hh : hasDictIn (hd.heap_39 w.params) C = true)
    (hsw : swapsWith e (some (.Attribute o n apos)) p.line (F.env L) = pure false) : ST w F L σ (.Assign [.Attribute o n apos] e p :: rest) RF :=
  st_seq fun c h tk Q E _ S hq => plainObj_wpAny_Assign_Attribute (he c h tk _ E S fun v σ' h1 tk1 S1 ⟨x, dx, i, od, k, l, ho, hx, hi, hA, hk9, hR⟩ => ho c h1 tk1 _ E S1 fun tk2 => by
    obtain ⟨es, k', rfl, hlen, hk, hl⟩ := hA
    obtain ⟨u1, u2, _⟩ := dist_upd S1.dm hi (o' := dictOf (putL n (PyData.keyHash w.params n) (.str n (tk2 + 1)) v es) (putN n es k'))
    obtain ⟨q1, q2, q3⟩ := putL_ok (n := n) (h := PyData.keyHash w.params n) (t := tk2 + 1) (v := v) hk
    refine set_dict S1.fr c.X S1.nw (InstAt.of_news S1.nw hx.mem (List.mem_append_left _ (List.mem_of_getElem? hi))) rfl hs hp ht hh (by rw [getL_of hk]; rfl) rfl u1 (Nat.le_trans q1 (Nat.le_trans (Nat.succ_le_succ hlen) (by omega))) fun h' F' N' => ?_
    exact hq .next (σ'.put i (dx, dictOf (putL n (PyData.keyHash w.params n) (.str n (tk2 + 1)) v es) (putN n es k'))) _ _ ⟨F', S1.kn, N', u2, S1.ab⟩ (hR _ ⟨_, _, rfl, Nat.le_trans q1 (Nat.succ_le_succ hlen), q2, fun y => by rw [q3, hl, setA_look]⟩)) hsw
/-- a method of an object of a class called -/
theorem eg_meth {pl : Sem Bool} (ho : EP w F L V σ o (.v (.ref x))) (hx : At σ (x, instObj C dx)) (hdx : At σ (dx, od)) (hA : HasA k od l) (hv : l.lookup n = none) (hg : plainGet (hd.heap_39 w.params) C n = true)
    (hf : findIn (hd.heap_39 w.params) (.ref C) n = some (some (.ref f))) (ht : isFn (hd.heap_39 w.params) (.ref f) = true) (hkeep : keepIn (hd.heap_39 w.params) (.ref f) = true) (ha : EL w F L V σ (e :: es) fun vs σ' => EK w F L σ' (.ref f) (.ref x :: vs) R)
    (he : starEach (e :: es) V = (false, eval e V) :: starEach es V) (hpl : ∀ pos, (backTo pos (starEach es V)).any (·.1) = false)
    (hc : eval (.Call (.Attribute o n apos) (e :: es) [] pos) V = (do
      let ov ← eval o V
      standAt apos.atName
      let (f, first) ← holding [ov] (getMethod ov n pl)
      callWith pos f first (backTo pos (starEach (e :: es) V)) (backToKw pos (keywordEach [] V)))) : EG w F L V σ (.Call (.Attribute o n apos) (e :: es) [] pos) R :=
  fun c h tk Q E S hq => methodCall_KW (ho c h tk _ E S fun tk' => by
    obtain ⟨es', k', rfl, _, hk, hl⟩ := hA
    refine method_inst S.fr c.X (InstAt.of_news S.nw hx.mem hdx.mem) hg hf ht (by rw [getL_of hk, hl, hv]) ?_
    exact callWith_K c.X hkeep (ha c h tk' pos _ E S fun vs σ' h' tk'' S' hr => ⟨c.X.keeps S'.fr.keep, hr c h' tk'' Q E S' hq⟩) he (hpl pos)) hc
/-- an object of a class made -/
theorem ek_make {Ret : Addr → Led → Led → Led → Value → Prop} {dd uu : Nat} {fI : Addr} (hm : makesIn (hd.heap_39 w.params) C = true) (hi : findIn (hd.heap_39 w.params) (.ref C) "__init__" = some (some (.ref fI))) (hf : isFn (hd.heap_39 w.params) (.ref fI) = true)
    (con : ∀ x dx, x ≠ dx → (∀ q ∈ σ.led, q.1 ≠ dx) → ConV w fI [(dx, dictOf [] 0)] ((x, instObj C dx) :: σ.led) (.ref x :: vs) dd uu (Ret dx)) (hk : F.cs.kind = .function) (h1 : dd + 1 ≤ F.dd) (h2 : uu + 1 ≤ F.uu)
    (hR : ∀ x dx nw mu' tl v, mu'.map (·.1) = [dx] → Ret dx nw mu' tl v → v = .none ∧ R (.ref x) ⟨σ.m, σ.l, nw ++ (mu' ++ σ.mu), (tl ++ [(x, instObj C dx)]) :: σ.ow, σ.ba⟩) : EK w F L σ (.ref C) vs R :=
  fun c h tk Q E S hq => call_cls S.fr c.X S.nw hm hi hf fun x dx h' F' N' l1 l2 => by
    have off : ∀ q ∈ σ.led, q.1 ≠ dx := fun q hq => Nat.ne_of_lt (l1 q hq)
    have off2 : ∀ q ∈ σ.led, q.1 ≠ x := fun q hq => Nat.ne_of_lt (Nat.lt_trans (l1 q hq) l2)
    refine con x dx (Nat.ne_of_gt l2) off _ _ _ (c.dp + 1) (c.un + 1) (pushGuards (Code.builtin "type.__call__" ⟨.ref C :: vs, []⟩).guards c.gd) _ _ _ _ _ _ _ _ _ _ _ _ _ c.B F' c.X (fun q hq => N' q ?_) c.T hk (by have := c.hd; omega) (by have := c.hu; omega) ?_
    · rcases List.mem_cons.mp hq with rfl | hq
      · exact .tail _ (.head _)
      · rcases List.mem_cons.mp hq with rfl | hq
        · exact .head _
        · exact .tail _ (.tail _ hq)
    · intro r nw mu' tl h2' tk' F2 N2 e o1 o2 dn hr
      obtain ⟨rfl, hR⟩ := hR x dx nw mu' tl r e hr
      refine ⟨rfl, hq _ ⟨σ.m, σ.l, nw ++ (mu' ++ σ.mu), (tl ++ [(x, instObj C dx)]) :: σ.ow, σ.ba⟩ _ _ ⟨F2, S.kn, fun p hp => N2 p ?_, ?_, fun p hp q hq => ?_⟩ hR⟩
      · simp only [Sg.led, List.flatten_cons, List.mem_append, List.mem_cons, List.not_mem_nil, or_false] at hp ⊢
        rcases hp with (h | h | h) | ((h | h) | h) | h <;> simp only [h, true_or, or_true]
      · have D : Dist ([(dx, dictOf [] 0)] ++ σ.mu) ([(x, instObj C dx)] ++ (σ.ow.flatten ++ σ.ba)) := ⟨fun q hq => (off q (List.mem_append_left _ hq)).symm, fun q hq => by
          rcases List.mem_append.mp hq with hq | hq
          · rw [List.mem_singleton.mp hq]; exact Nat.ne_of_lt l2
          · exact (off q (List.mem_append_right _ hq)).symm, dist_more S.dm fun p hp q hq => by
            rw [List.mem_singleton.mp hq]; exact off2 p (List.mem_append_left _ hp)⟩
        show Dist (nw ++ (mu' ++ σ.mu)) (((tl ++ [(x, instObj C dx)]) ++ σ.ow.flatten) ++ σ.ba)
        rw [List.append_assoc, List.append_assoc]
        refine dist_app (dist_sub dn fun p hp => ?_) (dist_swap D e o1 fun p hp q hq => o2 p hp q ?_)
        · simp only [Sg.led, List.mem_append, List.mem_cons, List.not_mem_nil, or_false] at hp ⊢
          rcases hp with (h | h) | h | h | h | h <;> simp only [h, true_or, or_true]
        · simp only [Sg.led, List.mem_append, List.mem_cons, List.not_mem_nil, or_false] at hq ⊢
          rcases hq with h | h | h | h <;> simp only [h, true_or, or_true]
      · simp only [List.flatten_cons, List.mem_append, List.mem_singleton] at hp
        rcases hp with (hp | hp) | hp
        · exact o2 p hp q (.tail _ (List.mem_append_right _ (List.mem_append_right _ hq)))
        · rw [hp]; exact (off2 q (List.mem_append_right _ (List.mem_append_right _ hq))).symm
        · exact S.ab p hp q hq
end
end
section
/-- a pair of ints, made or of the top -/
noncomputable def Pt2 (w : World) (news : Led) (a : Addr) (x y : Int) : Prop := (∃ t u n, (a, tp x y t u n) ∈ news) ∨ ∃ t u n, (hd.heap_39 w.params).lookup a = some (tp x y t u n)
section
variable {w : World} {F : Fi} {L : Addr} {V : Env} {σ : Sg} {l sl : Expr} {p : Pos} {a : Addr} {x y : Int}
theorem pt2_tup {c : Cx w F L} {h : Heap} (S : SS c.h₀ L σ h) (hp : Pt2 w σ.led a x y) : ∃ t u, IsTup h a (List.toArray [.int x t, .int y u]) := by
  rcases hp with ⟨t, u, n, m⟩ | ⟨t, u, n, e⟩
  · exact ⟨t, u, S.nw.isTup m⟩
  · exact ⟨t, u, ⟨_, c.X.keeps S.fr.keep _ _ e, rfl, _, rfl⟩⟩
theorem ep_pt0 (ha : EP w F L V σ l (.v (.ref a))) (hs : EP w F L V σ sl (.i 0)) (hp : Pt2 w σ.led a x y) (hg : ∀ u, subscripted sl false (.ref a) (.int 0 u) = operate [.ref a, .int 0 u] (getItem (.ref a) (.int 0 u))) : EP w F L V σ (.Subscript l sl p) (.i x) :=
  fun c h tk Q E S hq => Subscript_ (ha c h tk _ E S fun _ => hs c h _ _ E S fun t _ => by
    obtain ⟨t1, u1, ht⟩ := pt2_tup S hp
    exact item_tupleT (j := 0) ht (by decide) (by decide) rfl rfl (hq _ _) (hg t))
theorem ep_pt1 (ha : EP w F L V σ l (.v (.ref a))) (hs : EP w F L V σ sl (.i 1)) (hp : Pt2 w σ.led a x y) (hg : ∀ u, subscripted sl false (.ref a) (.int 1 u) = operate [.ref a, .int 1 u] (getItem (.ref a) (.int 1 u))) : EP w F L V σ (.Subscript l sl p) (.i y) :=
  fun c h tk Q E S hq => Subscript_ (ha c h tk _ E S fun _ => hs c h _ _ E S fun t _ => by
    obtain ⟨t1, u1, ht⟩ := pt2_tup S hp
    exact item_tupleT (j := 1) ht (by decide) (by decide) rfl rfl (hq _ _) (hg t))
end
section
variable {w : World} {news : Led} {f : Addr} {vs : List Value} {dd uu : Nat} {Ret : Led → Value → Prop}
theorem con_plainB (ps : List String) {name qual : Str} {params : Arguments} {body : List Stmt} {scope : Scope} {dV kV doc pm cdv ct oc : Value} {an od : Option Addr} {osl : Array (Option Value)} 
    (ho : (hd.heap_39 w.params).lookup f = some ⟨oc, od, .func (fnOf name qual params body scope dV kV doc pm an cdv ct), osl⟩) (hcd : codeIn (hd.heap_39 w.params) cdv qual = true)
    (hbind : ∀ s : Shared, (hd.heap_39 w.params).In s.heap → BindsTo s (fnOf name qual params body scope dV kV doc pm an cdv ct) ⟨vs, []⟩ (nm ps vs)) (hloc : ((nm ps vs).all fun x => decide (scope.names.lookup x.1 = some .local)) = true)
    (hco : scope.isCoroutine = false) (hgen : scope.isGenerator = false) (hk : scope.kind = .function) (hcell : ∀ x ∈ scope.names, x.2 ≠ .cell) (hcl : ∀ L : Addr, cellsFrom (L + 1) scope.names [] = [])
    (hST : ∀ L, ST w ⟨qual, scope, f, cdv, dd, uu⟩ L ⟨fun y => (nm ps vs).reverse.lookup y, (nm ps vs).reverse, [], [], news⟩ body (Done news Ret)) : ConD w f news vs (dd + 1) (uu + 3) Ret := by
  intro mean mg mb dp un gd cn cs a ccd cl outer A₀ base h₀ L m s Q E B F X N T hk' hd' hu hret
  refine wpAny_call ?_
  refine code_def B F X N T rfl rfl hk' ho hcd (Nat.lt_of_le_of_lt (Nat.le_add_right _ _) hd') (hbind s (X.keeps F.keep)) (locs hloc) ?_ hco hgen hk hcell
  intro g L' h₁ FG F' N' B' X' T'
  have hA : (ktrTop dp un gd cn cs L a ccd cl outer).deeper (envOf qual scope L' f cdv) = ktrTop (dp + 1) (un + 3) gd qual scope L' f cdv (cellsFrom (L' + 1) scope.names []) (envX cn cs L a ccd cl :: outer) := by rw [hcl L']; rfl
  have hV : envOf qual scope L' f cdv = (⟨qual, scope, f, cdv, dd, uu⟩ : Fi).env L' := by show envOf qual scope L' f cdv = envX qual scope L' f cdv (cellsFrom (L' + 1) scope.names []); rw [hcl L']; rfl
  rw [hA, hV]
  refine hST L' ⟨dp + 1, un + 3, gd, _, _, base, g, mean, mg, mb, s.gens, s.drawn, s.os, B', X', T', by simpa [Nat.add_assoc, Nat.add_comm 1] using hd', by simpa [Nat.add_assoc, Nat.add_comm 3] using hu⟩ h₁ _ _ _ PassesOwn.leaving ⟨F', fun x v hv => hv, N', trivial, fun p hp => nomatch hp⟩ ?_
  rintro fl σ' h' tk' S' ⟨v, tl, hv, hb, ht, hr⟩
  refine leaveK_ S'.fr S'.nw fun F3 N3 => ?_
  have fin : Q v { s with heap := h', toks := tk' } := by
    refine hret v (tl ++ news) h' tk' F3 (fun p hp => N3 p ?_) ⟨tl, rfl, fun p hp q hq => ?_, hr⟩
    · rcases List.mem_append.mp hp with hp | hp
      · rcases List.mem_append.mp (ht p hp) with hp | hp
        · exact List.mem_append_left _ hp
        · exact List.mem_append_right _ (List.mem_append_left _ hp)
      · exact List.mem_append_right _ (List.mem_append_right _ (hb ▸ hp))
    · rcases List.mem_append.mp (ht p hp) with hp | hp
      · exact (dist_mem S'.dm p hp q (List.mem_append_right _ (hb ▸ hq))).symm
      · exact (S'.ab p hp q (hb ▸ hq)).symm
  rcases hv with rfl | ⟨rfl, rfl⟩
  · exact fin
  · exact fin
end
end
section
theorem mulL3 {a b : Int} (h : a.natAbs ≤ 2000000) : IntMulOk a b := IntMulOk.of_left (intBits_le_64 (by omega) (by omega))
theorem eqF {y z : Int} (h : y ≠ z) : cmpI .Eq y z = some false := by
  show some (y == z) = _
  rw [beq_false_of_ne h]
theorem ltF {y z : Int} (h : ¬ y < z) : cmpI .Lt y z = some false := by
  show some (decide (y < z)) = _
  rw [decide_eq_false h]
theorem gcd_start {x y : Int} (hy : 0 < y) : 0 ≤ (if x < 0 then -x else x) ∧ 0 ≤ y ∧ Int.gcd (if x < 0 then -x else x) y = Int.gcd x y := by
  refine ⟨by split <;> omega, by omega, ?_⟩
  split
  · exact Int.neg_gcd
  · rfl
theorem gcd_step {a b : Int} {g : Nat} (h1 : 0 ≤ a) (h2 : 0 ≤ b) (h : Int.gcd a b = g) (hb : 0 < b) : 0 ≤ b ∧ 0 ≤ a.fmod b ∧ Int.gcd b (a.fmod b) = g := by
  rw [Int.fmod_eq_emod_of_nonneg _ h2]
  refine ⟨h2, Int.emod_nonneg _ (by omega), ?_⟩
  have e : a = b * (a / b) + a % b := (Int.mul_ediv_add_emod a b).symm
  rw [Int.gcd_comm, ← h]
  conv => rhs; rw [e]
  rw [Int.add_comm, Int.gcd_comm (a % b), Int.gcd_comm (a % b + b * (a / b))]
  first | exact (Int.gcd_add_mul_self_right ..).symm | simp
theorem gcd_meas {a b : Int} (hb : 0 < b) : (a.fmod b).toNat < b.toNat := by
  rw [Int.fmod_eq_emod_of_nonneg _ (by omega)]
  have := Int.emod_lt_of_pos a hb
  have := Int.emod_nonneg a (show b ≠ 0 by omega)
  omega
theorem gcd_end {a b x y : Int} (hb : ¬ 0 < b) (h : Int.gcd a b = Int.gcd x y) (h1 : 0 ≤ a) (h2 : 0 ≤ b) : a = (Int.gcd x y : Int) := by
  have : b = 0 := by omega
  subst this
  rw [← h, Int.gcd_zero_right, Int.natAbs_of_nonneg h1]
theorem gcd_bd {x y : Int} (hy : 0 < y ∧ y ≤ 1000000) : 0 < (Int.gcd x y : Int) ∧ (Int.gcd x y : Int) ≤ 1000000 := by
  have h3 : 0 < Int.gcd x y := Int.gcd_pos_of_ne_zero_right _ (by omega)
  have h4 : Int.gcd x y ≤ y.natAbs := Int.gcd_le_natAbs_right _ (by omega)
  omega
noncomputable abbrev fr1 (x y : Int) : Int := x / (Int.gcd x y : Int)
noncomputable abbrev fr2 (x y : Int) : Int := y / (Int.gcd x y : Int)
noncomputable abbrev FrRet (x y : Int) (tl : Led) (r : Value) : Prop := ∃ a t u n, r = .ref a ∧ tl = [(a, tp (fr1 x y) (fr2 x y) t u n)]
theorem mulB {a b : Int} (ha : -300 ≤ a ∧ a ≤ 300) (hb : -300 ≤ b ∧ b ≤ 300) : -90000 ≤ a * b ∧ a * b ≤ 90000 := by
  rcases Int.le_total 0 b with h | h
  · have h1 : a * b ≤ 300 * b := Int.mul_le_mul_of_nonneg_right ha.2 h
    have h2 : -300 * b ≤ a * b := Int.mul_le_mul_of_nonneg_right ha.1 h
    omega
  · have h1 : a * (-b) ≤ 300 * (-b) := Int.mul_le_mul_of_nonneg_right ha.2 (by omega)
    have h2 : -300 * (-b) ≤ a * (-b) := Int.mul_le_mul_of_nonneg_right ha.1 (by omega)
    simp only [Int.mul_neg] at h1 h2
    omega
theorem mulP {a b : Int} (ha : 0 < a ∧ a ≤ 300) (hb : 0 < b ∧ b ≤ 300) : 0 < a * b ∧ a * b ≤ 1000000 :=
  ⟨Int.mul_pos ha.1 hb.1, by have := mulB (a := a) (b := b) ⟨by omega, ha.2⟩ ⟨by omega, hb.2⟩; omega⟩
/-- p over q is n over 24 -/
noncomputable def Vl (n p q : Int) : Prop := p * 24 = n * q ∧ (0 < q ∧ q ≤ 24) ∧ (-90 ≤ p ∧ p ≤ 90)
theorem fr_val {X Y : Int} (hY : 0 < Y) : fr1 X Y * Y = X * fr2 X Y ∧ 0 < fr2 X Y ∧ fr2 X Y ≤ Y ∧ (fr1 X Y).natAbs ≤ X.natAbs := by
  have hg : 0 < Int.gcd X Y := Int.gcd_pos_of_ne_zero_right _ (by omega)
  obtain ⟨a, ha⟩ := Int.gcd_dvd_left (a := X) (b := Y)
  obtain ⟨b, hb⟩ := Int.gcd_dvd_right (a := X) (b := Y)
  have hg' : (0 : Int) < (Int.gcd X Y : Int) := by omega
  have e1 : fr1 X Y = a := by unfold fr1; exact Int.ediv_eq_of_eq_mul_right (by omega) ha
  have e2 : fr2 X Y = b := by unfold fr2; exact Int.ediv_eq_of_eq_mul_right (by omega) hb
  rw [e1, e2]
  generalize (Int.gcd X Y : Int) = g at *
  have hb0 : 0 < b := by
    rcases Int.lt_trichotomy b 0 with h | h | h
    · have := Int.mul_neg_of_pos_of_neg hg' h; omega
    · subst h; omega
    · exact h
  refine ⟨by rw [ha, hb]; grind, hb0, ?_, ?_⟩
  · rw [hb]
    have := Int.mul_le_mul_of_nonneg_right (show 1 ≤ g by omega) (Int.le_of_lt hb0)
    omega
  · rw [ha, Int.natAbs_mul]
    exact Nat.le_mul_of_pos_left _ (by omega)
theorem Vl.of {n X Y : Int} (e : X * 24 = n * Y) (hY : 0 < Y ∧ Y ≤ 24) (hX : -90 ≤ X ∧ X ≤ 90) : Vl n (fr1 X Y) (fr2 X Y) := by
  obtain ⟨h1, h2, h3, h4⟩ := fr_val (X := X) hY.1
  generalize fr1 X Y = p at *
  generalize fr2 X Y = q at *
  refine ⟨Int.eq_of_mul_eq_mul_right (show Y ≠ 0 by omega) ?_, ⟨h2, by omega⟩, by omega⟩
  grind
theorem fr_zero {Y : Int} (hY : 0 < Y) : fr1 0 Y = 0 ∧ fr2 0 Y = 1 := by
  unfold fr1 fr2
  rw [Int.gcd_zero_left]
  refine ⟨by simp, ?_⟩
  rw [show ((Y.natAbs : Nat) : Int) = Y by omega]
  exact Int.ediv_self (by omega)
/-- twelve times it, rounded -/
theorem fine_val {n p q : Int} (e : p * 2 = n * q) (hq : 0 < q) : (2 * p + q) / (2 * q) = (n + 1) / 2 := by
  rw [show 2 * p + q = (n + 1) * q by grind]
  exact Int.mul_ediv_mul_of_pos_left _ _ hq
noncomputable abbrev VRet (n : Int) (tl : Led) (r : Value) : Prop := ∃ p q, Vl n p q ∧ ∃ a t u k, r = .ref a ∧ tl = [(a, tp p q t u k)]
noncomputable abbrev ZRet (tl : Led) (r : Value) : Prop := ∃ a t u k, r = .ref a ∧ tl = [(a, tp 0 1 t u k)]
theorem conD_mono {w : World} {f : Addr} {news : Led} {vs : List Value} {dd uu : Nat} {Ret Ret' : Led → Value → Prop} (C : ConD w f news vs dd uu Ret) (h : ∀ tl r, Ret tl r → Ret' tl r) : ConD w f news vs dd uu Ret' :=
  fun mean mg mb => (C mean mg mb).mono fun _ _ ⟨tl, e, o, r⟩ => ⟨tl, e, o, h _ _ r⟩
local macro_rules | `(tactic| walk_at "EI") => `(tactic| first
  | ((with_reducible show EP _ _ _ _ _ (Expr.Subscript _ (Expr.Constant (Const.int 0) _ _) _) _); exact ep_pt0 (by walk_at "EV") ep_const (by assumption) (by intro _; with_unfolding_all rfl))
  | ((with_reducible show EP _ _ _ _ _ (Expr.Subscript _ (Expr.Constant (Const.int 1) _ _) _) _); exact ep_pt1 (by walk_at "EV") ep_const (by assumption) (by intro _; with_unfolding_all rfl))
  | ((with_reducible show EP _ _ _ _ _ (Expr.BinOp _ Operator.Mult _ _) _); exact ep_mul (by walk_at "EI") (by walk_at "EI") (mulL3 (by omega))))
section
variable {w : World} {news : Led} {a1 a2 : Addr} {x y x1 y1 x2 y2 n : Int} {t u t1 t2 u1 u2 : Tok} {n1 n2 : Nat}
theorem div_con (hy : 0 < y) : ConD w 81 news [.int x t, .int y u] 3 30 (fun tl r => tl = [] ∧ ∃ t', r = .int (Int.gcd x y : Int) t') := by
  refine con_plain ["one", "other"] (dd := 2) (uu := 27) (by k_is) (by k_is) rfl rfl rfl rfl rfl (by decide) (fun _ => rfl) ?_
  intro L
  walk_at "ST"
  refine st_lo (lo_all ["second", "first"] [] [] (by decide)) ?_
  refine st_while (fun k σ => ∃ m a ta b tb gs, σ = ⟨m, [(Str.ofString "second", .int b tb), (Str.ofString "first", .int a ta)], [], gs, news⟩ ∧ (0 ≤ a ∧ 0 ≤ b ∧ Int.gcd a b = Int.gcd x y) ∧ b.toNat = k) (i := y.toNat) ⟨_, _, _, _, _, _, rfl, gcd_start hy, rfl⟩ ?_
  rintro k σ ⟨m, a, ta, b, tb, gs, rfl, ⟨ha, hb, hg⟩, hk⟩
  refine eb_cmp (by walk_at "EI") (by walk_at "EI") rfl (by with_unfolding_all rfl) ⟨fun h => ?_, fun h => ?_⟩
  · have h := of_decide_eq_true h
    walk_at "ST"
    exact st_lo (lo_all ["second", "first"] [] [] (by decide)) (st_next ⟨_, hk ▸ gcd_meas (a := a) h, _, _, _, _, _, _, rfl, gcd_step ha hb hg h, rfl⟩)
  · have h := of_decide_eq_false h
    refine st_retv (by walk_at "EV") ?_
    rw [gcd_end h hg ha hb]
    exact done_ret0 ⟨rfl, _, rfl⟩ rfl
theorem fra_con (hx : -1000000 ≤ x ∧ x ≤ 1000000) (hy : 0 < y ∧ y ≤ 1000000) : ConD w 89 news [.int x t, .int y u] 5 50 (FrRet x y) := by
  obtain ⟨hx1, hx2⟩ := hx
  obtain ⟨hg1, hg2⟩ := gcd_bd (x := x) hy
  obtain ⟨hy1, hy2⟩ := hy
  refine con_plainB ["top", "bottom"] (dd := 4) (uu := 47) (by k_is) (by k_is) (fun s X => binds_K X rfl (by k_is) rfl rfl rfl) rfl rfl rfl rfl (by decide) (fun _ => rfl) ?_
  intro L
  refine st_ifno (by walk_at "EI") (by walk_at "EI") (eqF (by omega)) (by with_unfolding_all rfl) (st_next ?_)
  show ST _ _ _ _ _ _
  refine st_ifno (by walk_at "EI") (by walk_at "EI") (ltF (by omega)) (by with_unfolding_all rfl) (st_next ?_)
  show ST _ _ _ _ _ _
  walk_at "ST"
  walk_at "EG"
  repeat' (walk_at "EL")
  refine ek_con (div_con hy1) rfl (by decide) (by decide) ?_
  rintro v tl ⟨rfl, t', rfl⟩
  repeat' (walk_at "ST")
  refine ⟨Nat.le_of_ble_eq_true rfl, fun a => ?_⟩
  rw [Int.fdiv_eq_ediv_of_nonneg _ (Int.le_of_lt hg1), Int.fdiv_eq_ediv_of_nonneg _ (Int.le_of_lt hg1)]
  exact done_ret [(a, _)] ⟨a, _, _, _, rfl, rfl⟩ rfl (fun _ h => h)
theorem plus_con (h1 : Pt2 w news a1 x1 y1) (h2 : Pt2 w news a2 x2 y2) (bx1 : -300 ≤ x1 ∧ x1 ≤ 300) (by1 : 0 < y1 ∧ y1 ≤ 300) (bx2 : -300 ≤ x2 ∧ x2 ≤ 300) (by2 : 0 < y2 ∧ y2 ≤ 300) :
    ConD w 96 news [.ref a1, .ref a2] 8 80 (FrRet (x1 * y2 + x2 * y1) (y1 * y2)) := by
  refine con_plain ["a", "b"] (dd := 7) (uu := 77) (by k_is) (by k_is) rfl rfl rfl rfl rfl (by decide) (fun _ => rfl) ?_
  intro L
  have q1 := mulB bx1 (b := y2) ⟨by omega, by2.2⟩
  have q2 := mulB bx2 (b := y1) ⟨by omega, by1.2⟩
  repeat' (walk_at "ST")
  refine ek_con (fra_con ⟨by omega, by omega⟩ (mulP by1 by2)) rfl (by decide) (by decide) ?_
  rintro v tl ⟨a, t, u, n, rfl, rfl⟩
  exact done_ret [(a, _)] ⟨a, _, _, _, rfl, rfl⟩ rfl (fun _ h => h)
theorem times_con (h1 : Pt2 w news a1 x1 y1) (h2 : Pt2 w news a2 x2 y2) (bx1 : -300 ≤ x1 ∧ x1 ≤ 300) (by1 : 0 < y1 ∧ y1 ≤ 300) (bx2 : -300 ≤ x2 ∧ x2 ≤ 300) (by2 : 0 < y2 ∧ y2 ≤ 300) :
    ConD w 103 news [.ref a1, .ref a2] 8 80 (FrRet (x1 * x2) (y1 * y2)) := by
  refine con_plain ["a", "b"] (dd := 7) (uu := 77) (by k_is) (by k_is) rfl rfl rfl rfl rfl (by decide) (fun _ => rfl) ?_
  intro L
  have q1 := mulB bx1 bx2
  repeat' (walk_at "ST")
  refine ek_con (fra_con ⟨by omega, by omega⟩ (mulP by1 by2)) rfl (by decide) (by decide) ?_
  rintro v tl ⟨a, t, u, n, rfl, rfl⟩
  exact done_ret [(a, _)] ⟨a, _, _, _, rfl, rfl⟩ rfl (fun _ h => h)
theorem rounded_con (h1 : Pt2 w news a1 x1 y1) (bx1 : -3000 ≤ x1 ∧ x1 ≤ 3000) (by1 : 0 < y1 ∧ y1 ≤ 300) : ConD w 110 news [.ref a1] 3 30 (fun tl r => tl = [] ∧ ∃ t, r = .int ((2 * x1 + y1) / (2 * y1)) t) := by
  refine con_plain ["a"] (dd := 2) (uu := 27) (by k_is) (by k_is) rfl rfl rfl rfl rfl (by decide) (fun _ => rfl) ?_
  intro L
  refine st_reti (by walk_at "EI") (fun t => ?_)
  rw [Int.fdiv_eq_ediv_of_nonneg _ (by omega)]
  exact done_ret0 ⟨rfl, t, rfl⟩ rfl
theorem times_one (h2 : Pt2 w news a2 x2 y2) (v : Vl n x2 y2) : ConD w 103 news [.ref 74, .ref a2] 8 80 (VRet n) := by
  obtain ⟨ve, ⟨v1, v2⟩, v3, v4⟩ := v
  exact conD_mono (times_con (x1 := 1) (y1 := 1) (.inr ⟨_, _, _, by k_is⟩) h2 (by omega) (by omega) (by omega) (by omega)) fun tl r ⟨a, t, u, k, e1, e2⟩ => ⟨_, _, Vl.of (by simp only [Int.one_mul]; exact ve) (by omega) (by omega), a, t, u, k, e1, e2⟩
theorem times_zero (h2 : Pt2 w news a2 x2 y2) (v : Vl n x2 y2) : ConD w 103 news [.ref 73, .ref a2] 8 80 ZRet := by
  obtain ⟨ve, ⟨v1, v2⟩, v3, v4⟩ := v
  exact conD_mono (times_con (x1 := 0) (y1 := 1) (.inr ⟨_, _, _, by k_is⟩) h2 (by omega) (by omega) (by omega) (by omega)) fun tl r ⟨a, t, u, k, e1, e2⟩ => ⟨a, t, u, k, e1, by rw [e2, Int.zero_mul, Int.one_mul, (fr_zero v1).1, (fr_zero v1).2]⟩
theorem plus_right (h1 : Pt2 w news a1 x1 y1) (h2 : Pt2 w news a2 0 1) (v : Vl n x1 y1) : ConD w 96 news [.ref a1, .ref a2] 8 80 (VRet n) := by
  obtain ⟨ve, ⟨v1, v2⟩, v3, v4⟩ := v
  exact conD_mono (plus_con h1 h2 (by omega) (by omega) (by omega) (by omega)) fun tl r ⟨a, t, u, k, e1, e2⟩ => ⟨_, _, Vl.of (by simp only [Int.mul_one, Int.zero_mul, Int.add_zero]; exact ve) (by omega) (by omega), a, t, u, k, e1, e2⟩
theorem plus_left (h1 : Pt2 w news a1 0 1) (h2 : Pt2 w news a2 x2 y2) (v : Vl n x2 y2) : ConD w 96 news [.ref a1, .ref a2] 8 80 (VRet n) := by
  obtain ⟨ve, ⟨v1, v2⟩, v3, v4⟩ := v
  exact conD_mono (plus_con h1 h2 (by omega) (by omega) (by omega) (by omega)) fun tl r ⟨a, t, u, k, e1, e2⟩ => ⟨_, _, Vl.of (by simp only [Int.one_mul, Int.mul_one, Int.zero_mul, Int.zero_add]; exact ve) (by omega) (by omega), a, t, u, k, e1, e2⟩
/-- twelve times a value -/
noncomputable def Tw (n p q : Int) : Prop := p * 2 = n * q ∧ (0 < q ∧ q ≤ 300) ∧ (-3000 ≤ p ∧ p ≤ 3000)
theorem times_grain (h1 : Pt2 w news a1 x1 y1) (h2 : Pt2 w news a2 12 1) (v : Vl n x1 y1) : ConD w 103 news [.ref a1, .ref a2] 8 80 (fun tl r => ∃ p q, Tw n p q ∧ ∃ a t u k, r = .ref a ∧ tl = [(a, tp p q t u k)]) := by
  obtain ⟨ve, ⟨v1, v2⟩, v3, v4⟩ := v
  refine conD_mono (times_con h1 h2 (by omega) (by omega) (by omega) (by omega)) fun tl r ⟨a, t, u, k, e1, e2⟩ => ⟨_, _, ?_, a, t, u, k, e1, e2⟩
  obtain ⟨f1, f2, f3, f4⟩ := fr_val (X := x1 * 12) (Y := y1 * 1) (by omega)
  generalize fr1 (x1 * 12) (y1 * 1) = p at *
  generalize fr2 (x1 * 12) (y1 * 1) = q at *
  refine ⟨Int.eq_of_mul_eq_mul_right (show y1 ≠ 0 by omega) ?_, ⟨f2, by omega⟩, by omega⟩
  grind
theorem rounded_fine (h1 : Pt2 w news a1 x1 y1) (v : Tw n x1 y1) : ConD w 110 news [.ref a1] 3 30 (fun tl r => tl = [] ∧ ∃ t, r = .int ((n + 1) / 2) t) := by
  obtain ⟨ve, ⟨v1, v2⟩, v3⟩ := v
  exact conD_mono (rounded_con h1 v3 ⟨v1, v2⟩) fun tl r ⟨e, t, e2⟩ => ⟨e, t, by rw [e2, fine_val ve v1]⟩
end
end
local macro_rules | `(tactic| walk_at "EV") => `(tactic| ((with_reducible show EP _ _ _ _ _ (Expr.Attribute _ _ _) _); exact ep_attr (by walk_at "EV") (by walk_at "AT") (by walk_at "AT") (by assumption) (by first | rfl | assumption) (by k_is) (by k_is) (by k_is) (by k_is) rfl (by with_unfolding_all rfl)))
section
/-- a pair of values, each a pair of ints -/
noncomputable def VP (led : Led) (r : Value) (nx ny : Int) : Prop := ∃ a b1 b2 j x0 x1 y0 y1, r = .ref a ∧ (a, tuO [.ref b1, .ref b2] j) ∈ led ∧ (∃ t u n, (b1, tp x0 x1 t u n) ∈ led) ∧ (∃ t u n, (b2, tp y0 y1 t u n) ∈ led) ∧ Vl nx x0 x1 ∧ Vl ny y0 y1
theorem VP.mono {led led' : Led} {r : Value} {nx ny : Int} (h : VP led r nx ny) (k : ∀ p ∈ led, p ∈ led') : VP led' r nx ny := by
  obtain ⟨a, b1, b2, j, x0, x1, y0, y1, e, m, ⟨t, u, n, m1⟩, ⟨t', u', n', m2⟩, v1, v2⟩ := h
  exact ⟨a, b1, b2, j, x0, x1, y0, y1, e, k _ m, ⟨t, u, n, k _ m1⟩, ⟨t', u', n', k _ m2⟩, v1, v2⟩
noncomputable abbrev matL : List (Str × Value) := [(Str.ofString "a", .ref 74), (Str.ofString "b", .ref 73), (Str.ofString "c", .ref 73), (Str.ofString "d", .ref 74), (Str.ofString "e", .ref 73), (Str.ofString "f", .ref 73)]
section
variable {w : World} {news : Led} {M d : Addr} {od : Obj} {k : Nat} {v : Value} {nx ny : Int}
theorem vec_con (hM : (M, instObj 289 d) ∈ news) (hdm : (d, od) ∈ news) (hA : HasA k od matL) (hv : VP news v nx ny) : ConD w 258 news [.ref M, v] 11 110 (fun tl r => VP tl r nx ny) := by
  obtain ⟨aP, b1, b2, jP, x0, x1, y0, y1, rfl, hP, ⟨t1, u1, n1, m1⟩, ⟨t2, u2, n2, m2⟩, v1, v2⟩ := hv
  refine con_plain ["self", "p"] (dd := 10) (uu := 107) (by k_is) (by k_is) rfl rfl rfl rfl rfl (by decide) (fun _ => rfl) ?_
  intro L
  refine st_unpack2 (eg_pv (by walk_at "EV") ⟨aP, _, _, _, rfl, At.ba hP, en_l rfl rfl (en_l rfl rfl ?_)⟩) rfl rfl rfl
  walk_at "ST"
  walk_at "EG"
  refine el_cons ?_ rfl
  walk_at "EG"
  refine el_cons ?_ rfl
  walk_at "EG"
  repeat' (walk_at "EL")
  refine ek_con (times_one (.inl ⟨_, _, _, (At.ba m1).mem⟩) v1) rfl (by decide) (by decide) ?_
  rintro r1 tl1 ⟨p1, q1, w1, a1, t3, u3, k3, rfl, rfl⟩
  refine el_cons ?_ rfl
  walk_at "EG"
  repeat' (walk_at "EL")
  refine ek_con (times_zero (.inl ⟨_, _, _, (At.ba m2).mem⟩) v2) rfl (by decide) (by decide) ?_
  rintro r2 tl2 ⟨a2, t4, u4, k4, rfl, rfl⟩
  refine el_nil ?_
  refine ek_con (plus_right (.inl ⟨_, _, _, (At.ow 1 _ rfl (.head _)).mem⟩) (.inl ⟨_, _, _, (At.ow 0 _ rfl (.head _)).mem⟩) w1) rfl (by decide) (by decide) ?_
  rintro r3 tl3 ⟨p3, q3, w3, a3, t5, u5, k5, rfl, rfl⟩
  refine el_cons ?_ rfl
  walk_at "EG"
  refine el_cons ?_ rfl
  walk_at "EG"
  repeat' (walk_at "EL")
  refine ek_con (times_zero (.inl ⟨_, _, _, (At.ba m1).mem⟩) v1) rfl (by decide) (by decide) ?_
  rintro r4 tl4 ⟨a4, t6, u6, k6, rfl, rfl⟩
  refine el_cons ?_ rfl
  walk_at "EG"
  repeat' (walk_at "EL")
  refine ek_con (times_one (.inl ⟨_, _, _, (At.ba m2).mem⟩) v2) rfl (by decide) (by decide) ?_
  rintro r5 tl5 ⟨p5, q5, w5, a5, t7, u7, k7, rfl, rfl⟩
  refine el_nil ?_
  refine ek_con (plus_left (.inl ⟨_, _, _, (At.ow 1 _ rfl (.head _)).mem⟩) (.inl ⟨_, _, _, (At.ow 0 _ rfl (.head _)).mem⟩) w5) rfl (by decide) (by decide) ?_
  rintro r6 tl6 ⟨p6, q6, w6, a6, t8, u8, k8, rfl, rfl⟩
  refine el_nil ⟨Nat.le_of_ble_eq_true rfl, fun T => ?_⟩
  refine done_ret _ ?_ rfl (fun _ h => h)
  exact ⟨T, a3, a6, 0, _, _, _, _, rfl, List.mem_of_getElem? (i := 0) rfl, ⟨_, _, _, List.mem_of_getElem? (i := 4) rfl⟩, ⟨_, _, _, List.mem_of_getElem? (i := 1) rfl⟩, w3, w6⟩
theorem point_con (hM : (M, instObj 289 d) ∈ news) (hdm : (d, od) ∈ news) (hA : HasA k od matL) (hv : VP news v nx ny) : ConD w 265 news [.ref M, v] 13 130 (fun tl r => VP tl r nx ny) := by
  refine con_plain ["self", "p"] (dd := 12) (uu := 127) (by k_is) (by k_is) rfl rfl rfl rfl rfl (by decide) (fun _ => rfl) ?_
  intro L
  refine st_unpack2 (eg_meth (by walk_at "EV") (by walk_at "AT") (by walk_at "AT") (by assumption) rfl (by k_is) (by k_is) (by k_is) (by k_is) ?_ rfl (fun _ => rfl) rfl) rfl rfl rfl
  repeat' (walk_at "EL")
  refine ek_con (vec_con hM hdm hA hv) rfl (by decide) (by decide) ?_
  rintro r1 tl1 ⟨aP, b1, b2, jP, x0, x1, y0, y1, rfl, hP, ⟨t1, u1, n1, m1⟩, ⟨t2, u2, n2, m2⟩, v1, v2⟩
  refine ⟨aP, _, _, _, rfl, At.ow 0 _ rfl hP, en_l rfl rfl (en_l rfl rfl ?_)⟩
  walk_at "ST"
  walk_at "EG"
  refine el_cons ?_ rfl
  walk_at "EG"
  repeat' (walk_at "EL")
  refine ek_con (plus_right (.inl ⟨_, _, _, (At.ow 0 _ rfl m1).mem⟩) (.inr ⟨_, _, _, by k_is⟩) v1) rfl (by decide) (by decide) ?_
  rintro r3 tl3 ⟨p3, q3, w3, a3, t5, u5, k5, rfl, rfl⟩
  refine el_cons ?_ rfl
  walk_at "EG"
  repeat' (walk_at "EL")
  refine ek_con (plus_right (.inl ⟨_, _, _, (At.ow 1 _ rfl m2).mem⟩) (.inr ⟨_, _, _, by k_is⟩) v2) rfl (by decide) (by decide) ?_
  rintro r6 tl6 ⟨p6, q6, w6, a6, t8, u8, k8, rfl, rfl⟩
  refine el_nil ⟨Nat.le_of_ble_eq_true rfl, fun T => ?_⟩
  refine done_ret _ ?_ rfl (fun _ h => h)
  exact ⟨T, a3, a6, 0, _, _, _, _, rfl, List.mem_of_getElem? (i := 0) rfl, ⟨_, _, _, List.mem_of_getElem? (i := 2) rfl⟩, ⟨_, _, _, List.mem_of_getElem? (i := 1) rfl⟩, w3, w6⟩
theorem spot_con {tg : Tok} (hM : (M, instObj 289 d) ∈ news) (hdm : (d, od) ∈ news) (hA : HasA k od matL) (hv : VP news v nx ny) : ConD w 117 news [.ref M, v, .int 12 tg] 16 160 (fun tl r => PtIn tl r ((nx + 1) / 2, (ny + 1) / 2)) := by
  refine con_plain ["matrix", "p", "grain"] (dd := 15) (uu := 157) (by k_is) (by k_is) rfl rfl rfl rfl rfl (by decide) (fun _ => rfl) ?_
  intro L
  refine st_unpack2 (eg_meth (by walk_at "EV") (by walk_at "AT") (by walk_at "AT") (by assumption) rfl (by k_is) (by k_is) (by k_is) (by k_is) ?_ rfl (fun _ => rfl) rfl) rfl rfl rfl
  repeat' (walk_at "EL")
  refine ek_con (point_con hM hdm hA hv) rfl (by decide) (by decide) ?_
  rintro r1 tl1 ⟨aP, b1, b2, jP, x0, x1, y0, y1, rfl, hP, ⟨t1, u1, n1, m1⟩, ⟨t2, u2, n2, m2⟩, v1, v2⟩
  refine ⟨aP, _, _, _, rfl, At.ow 0 _ rfl hP, en_l rfl rfl (en_l rfl rfl ?_)⟩
  walk_at "ST"
  walk_at "EG"
  refine el_cons ?_ rfl
  walk_at "EG"
  refine el_cons ?_ rfl
  walk_at "EG"
  walk_at "EL"
  refine el_cons ?_ rfl
  walk_at "EG"
  repeat' (walk_at "EL")
  refine ⟨Nat.le_of_ble_eq_true rfl, fun T1 => el_nil ?_⟩
  refine ek_con (times_grain (.inl ⟨_, _, _, (At.ow 1 _ rfl m1).mem⟩) (.inl ⟨_, _, _, (At.ow 0 _ rfl (.head _)).mem⟩) v1) rfl (by decide) (by decide) ?_
  rintro r3 tl3 ⟨p3, q3, w3, a3, t5, u5, k5, rfl, rfl⟩
  refine el_nil ?_
  refine ek_con (rounded_fine (.inl ⟨_, _, _, (At.ow 0 _ rfl (.head _)).mem⟩) w3) rfl (by decide) (by decide) ?_
  rintro r4 tl4 ⟨rfl, t6, rfl⟩
  refine el_cons ?_ rfl
  walk_at "EG"
  refine el_cons ?_ rfl
  walk_at "EG"
  walk_at "EL"
  refine el_cons ?_ rfl
  walk_at "EG"
  repeat' (walk_at "EL")
  refine ⟨Nat.le_of_ble_eq_true rfl, fun T2 => el_nil ?_⟩
  refine ek_con (times_grain (.inl ⟨_, _, _, (At.ow 4 _ rfl m2).mem⟩) (.inl ⟨_, _, _, (At.ow 0 _ rfl (.head _)).mem⟩) v2) rfl (by decide) (by decide) ?_
  rintro r5 tl5 ⟨p5, q5, w5, a5, t7, u7, k7, rfl, rfl⟩
  refine el_nil ?_
  refine ek_con (rounded_fine (.inl ⟨_, _, _, (At.ow 0 _ rfl (.head _)).mem⟩) w5) rfl (by decide) (by decide) ?_
  rintro r6 tl6 ⟨rfl, t8, rfl⟩
  refine el_nil ⟨Nat.le_of_ble_eq_true rfl, fun T => ?_⟩
  exact done_ret [(T, _)] ⟨T, _, _, _, rfl, .head _⟩ rfl (fun _ h => List.mem_append_right _ (List.mem_append_left _ h))
end
end
section
/-- unlike neighbours, with what is found so far -/
noncomputable def unq (acc : List Pt) : List Pt → List Pt
  | [] => acc
  | p :: r => unq (if acc.getLast? = some p then acc else acc ++ [p]) r
theorem unq_skip {fq qs : List Pt} {p : Pt} {r : List Pt} (h : fq.getLast? = some p) (e : unq fq (p :: qs) = r) : unq fq qs = r := by
  unfold unq at e
  rwa [if_pos h] at e
theorem unq_add {fq qs : List Pt} {p : Pt} {r : List Pt} (h : fq.getLast? ≠ some p) (e : unq fq (p :: qs) = r) : unq (fq ++ [p]) qs = r := by
  rw [unq, if_neg h] at e
  exact e
theorem last_ne {fq : List Pt} {f q : Pt} (h : ptNe f q = true) : (fq ++ [f]).getLast? ≠ some q := by
  have := ptNe_iff.mp h
  simp [this]
theorem last_eq {fq : List Pt} {f q : Pt} (h : ptNe f q = false) : (fq ++ [f]).getLast? = some q := by
  have : f = q := by
    by_cases e : f = q
    · exact e
    · rw [ptNe_iff.mpr e] at h; cases h
  simp [this]
/-- a spot put on grains -/
noncomputable def rnd (m : Int) (p : Pt) : Pt := ((2 * p.1 + m) / (2 * m), (2 * p.2 + m) / (2 * m))
theorem piece_val {n p : Int} (hn : -90 ≤ n ∧ n ≤ 90) (hp : 2 ≤ p ∧ p ≤ 24) (hd : p ∣ 24) (h : n.fmod p = 0) : Vl n (n.fdiv p) (Int.fdiv 24 p) := by
  rw [Int.fmod_eq_emod_of_nonneg _ (by omega)] at h
  rw [Int.fdiv_eq_ediv_of_nonneg _ (show 0 ≤ p by omega), Int.fdiv_eq_ediv_of_nonneg _ (show 0 ≤ p by omega)]
  obtain ⟨k, rfl⟩ := Int.dvd_of_emod_eq_zero h
  obtain ⟨c, hc⟩ := hd
  have e1 : p * k / p = k := Int.mul_ediv_cancel_left _ (by omega)
  have e2 : (24 : Int) / p = c := by rw [hc]; exact Int.mul_ediv_cancel_left _ (by omega)
  rw [e1, e2]
  have hc0 : 0 < c := by
    rcases Int.lt_trichotomy c 0 with q | q | q
    · have := Int.mul_neg_of_pos_of_neg (show 0 < p by omega) q; omega
    · subst q; omega
    · exact q
  have a1 := Int.mul_le_mul_of_nonneg_right (show 1 ≤ p by omega) (Int.le_of_lt hc0)
  refine ⟨by rw [hc]; grind, ⟨hc0, by omega⟩, ?_⟩
  have hk : k.natAbs ≤ (p * k).natAbs := by rw [Int.natAbs_mul]; exact Nat.le_mul_of_pos_left _ (by omega)
  omega
theorem whole_val {n : Int} (hn : -90 ≤ n ∧ n ≤ 90) : Vl n n 24 := ⟨rfl, by omega, hn⟩
section
variable {w : World} {news : Led}
theorem rnd_con {a : Addr} {p : Pt} {t u tm : Tok} {n : Nat} (h : (a, tp p.1 p.2 t u n) ∈ news) :
    ConD w 157 news [.ref a, .int 4 tm] 3 30 (fun tl r => PtIn tl r (rnd 4 p)) := by
  refine con_plain ["spot", "many"] (dd := 2) (uu := 27) (by k_is) (by k_is) rfl rfl rfl rfl rfl (by decide) (fun _ => rfl) ?_
  intro L
  repeat' (walk_at "ST")
  refine ⟨Nat.le_of_ble_eq_true rfl, fun T => ?_⟩
  rw [Int.fdiv_eq_ediv_of_nonneg _ (show (0 : Int) ≤ 2 * 4 by decide), Int.fdiv_eq_ediv_of_nonneg _ (show (0 : Int) ≤ 2 * 4 by decide)]
  exact done_ret [(T, _)] ⟨T, _, _, _, rfl, .head _⟩ rfl (fun _ h => h)
theorem uniq_con {aS : Addr} {nS : Nat} {vs : List Value} {ps : List Pt} (hS : (aS, lsO vs nS) ∈ news) (hv : All2 (PtIn news) vs ps) (hl : ps.length ≤ 20) :
    ConD w 164 news [.ref aS] 5 60 (fun tl r => ∃ a n fv, r = .ref a ∧ (a, lsO fv n) ∈ tl ∧ All2 (PtIn news) fv (unq [] ps) ∧ fv.length ≤ 20) := by
  refine con_plain ["spots"] (dd := 4) (uu := 57) (by k_is) (by k_is) rfl rfl rfl rfl rfl (by decide) (fun _ => rfl) ?_
  intro L
  walk_at "ST"
  walk_at "EG"
  repeat' (walk_at "EL")
  refine ⟨Nat.zero_le _, fun fa => en_l rfl rfl ?_⟩
  refine st_lo (lo_all ["found", "spots"] [0] [] (by decide)) ?_
  refine st_for (eg_pv (by walk_at "EV") ⟨aS, vs, nS, "list", fun r σ => ∃ m fv fq qs n gs, σ = ⟨m, [(Str.ofString "found", .ref fa), (Str.ofString "spots", .ref aS)], [(fa, lsO fv n)], gs, news⟩ ∧ All2 (PtIn news) fv fq ∧ All2 (PtIn news) r qs ∧ unq fq qs = unq [] ps ∧ fq.length + qs.length ≤ 20, rfl, .inl rfl, ?h0, ?keep, ?turn, ?fin⟩) (fun _ => rfl)
  case h0 => exact ⟨_, [], [], ps, 0, [[]], rfl, trivial, hv, rfl, by simpa using hl⟩
  case keep => rintro r σ ⟨m, fv, fq, qs, n, gs, rfl, -⟩; exact At.ba hS
  case turn =>
    rintro I oI v r σ ⟨m, fv, fq, qs, n, gs, rfl, hf, hv', ha, hlen⟩
    rcases qs with _ | ⟨q, qs⟩
    · exact hv'.elim
    obtain ⟨⟨aq, tq, uq, nq, rfl, mq⟩, hv'⟩ := hv'
    have hfl := hf.length
    rw [List.length_cons] at hlen
    have hq : PtIn news (.ref aq) q := ⟨aq, tq, uq, nq, rfl, mq⟩
    refine en_l rfl rfl ?_
    rcases List.eq_nil_or_concat fv with rfl | ⟨xs, v, rfl⟩
    · rcases fq with _ | ⟨_, _⟩
      · refine st_if (eb_or (eb_eq0 (by walk_at "EV") (At.mu 1 rfl) (b := true) rfl ?_ rfl))
        rw [if_pos rfl]
        refine ⟨fun _ => ?_, fun h => (nomatch (show true = false from h))⟩
        refine appv (i := 1) (by walk_at "EV") rfl (by walk_at "EV") (by decide) ?_ rfl rfl rfl rfl
        exact st_next (st_next ⟨⟨_, [(Str.ofString "found", .ref fa), (Str.ofString "spots", .ref aS)], [(fa, lsO ([] ++ [.ref aq]) (n + 1))], [] :: gs, news⟩, lo_all ["found", "spots"] [0, 1] [] (by decide), _, _, [q], qs, _, _, rfl, (show All2 (PtIn news) [.ref aq] [q] from ⟨hq, trivial⟩), hv', unq_add (by simp) ha, by simp at hlen ⊢; omega⟩)
      · exact hf.elim
    · rw [List.concat_eq_append] at *
      obtain ⟨fq', fl, rfl, hf1, ⟨al, tl, ul, nl, rfl, ml⟩⟩ := All2.snoc hf
      refine st_if (eb_or (eb_eq0 (by walk_at "EV") (At.mu 1 rfl) (b := false) (by simp) ?_ rfl))
      rw [if_neg (by decide)]
      refine eb_or (eb_nept (ep_lneg (by walk_at "EV") (by walk_at "EI") (At.mu 1 rfl) (by decide) (by decide) (seq_lastN (by simp)) (by simp) (by intro _; with_unfolding_all rfl)) (by walk_at "EV") (At.ba ml) (At.ba mq) rfl ?_)
      by_cases hb : ptNe fl q = true
      · rw [if_pos hb]
        refine ⟨fun _ => ?_, fun h => (nomatch (show true = false from h))⟩
        refine appv (i := 1) (by walk_at "EV") rfl (by walk_at "EV") (sz (by omega)) ?_ rfl rfl rfl rfl
        exact st_next (st_next ⟨⟨_, [(Str.ofString "found", .ref fa), (Str.ofString "spots", .ref aS)], [(fa, lsO (_ ++ [.ref aq]) (n + 1))], [] :: gs, news⟩, lo_all ["found", "spots"] [0, 1] [] (by decide), _, _, _, qs, _, _, rfl, hf.append (m' := [q]) ⟨hq, trivial⟩, hv', unq_add (last_ne hb) ha, by rw [List.length_append, List.length_singleton]; omega⟩)
      · rw [if_neg hb]
        refine eb_or0 ⟨fun h => (nomatch (show false = true from h)), fun _ => ?_⟩
        exact st_next (st_next ⟨⟨_, [(Str.ofString "found", .ref fa), (Str.ofString "spots", .ref aS)], [(fa, lsO _ n)], [] :: gs, news⟩, lo_all ["found", "spots"] [0, 1] [] (by decide), _, _, _, qs, _, _, rfl, hf, hv', unq_skip (last_eq (eq_false_of_ne_true hb)) ha, by omega⟩)
  case fin =>
    rintro σ ⟨m, fv, fq, qs, n, gs, rfl, hf, hv', ha, hlen⟩
    rcases qs with _ | ⟨q, qs⟩
    · refine st_retv (by walk_at "EV") ?_
      exact done_ret [(fa, lsO fv n)] ⟨fa, n, fv, rfl, .head _, by rw [← ha]; exact hf, by rw [hf.length]; simpa using hlen⟩ rfl (fun p hp => by rw [List.mem_singleton.mp hp]; exact List.mem_append_left _ (.head _))
    · exact hv'.elim
theorem lawfr_con {n : Int} {tn : Tok} (hn : -90 ≤ n ∧ n ≤ 90) : ConD w 352 news [.int n tn] 5 60 (VRet n) := by
  refine con_plain ["number"] (dd := 4) (uu := 57) (by k_is) (by k_is) rfl rfl rfl rfl rfl (by decide) (fun _ => rfl) ?_
  intro L
  refine st_for ?_ (fun _ => rfl)
  walk_at "EG"
  repeat' (walk_at "EL")
  refine ⟨Nat.le_of_ble_eq_true rfl, fun A => ⟨A, _, 0, "list", fun r σ => ∃ m gs, σ = ⟨m, [(Str.ofString "number", .int n tn)], [(A, lsO _ 0)], gs, news⟩ ∧ ∀ v ∈ r, ∃ p t, v = .int p t ∧ (2 ≤ p ∧ p ≤ 24) ∧ p ∣ 24, rfl, .inl rfl, ⟨_, [], rfl, ?vals⟩, (by rintro r σ ⟨m, gs, rfl, -⟩; exact At.mu 0 rfl), ?turn, ?fin⟩⟩
  case vals =>
    simp only [List.forall_mem_cons]
    exact ⟨⟨_, _, rfl, by omega, by decide⟩, ⟨_, _, rfl, by omega, by decide⟩, ⟨_, _, rfl, by omega, by decide⟩, ⟨_, _, rfl, by omega, by decide⟩, ⟨_, _, rfl, by omega, by decide⟩, ⟨_, _, rfl, by omega, by decide⟩, ⟨_, _, rfl, by omega, by decide⟩, List.forall_mem_nil _⟩
  case turn =>
    rintro I oI v r σ ⟨m, gs, rfl, hv⟩
    obtain ⟨p, t, rfl, hp, hd⟩ := hv v List.mem_cons_self
    have hp1 := hp.1
    have hp2 := hp.2
    refine en_l rfl rfl ?_
    refine st_ifc (P := n.fmod p = 0) (by walk_at "EI") (by walk_at "EI") rfl (by with_unfolding_all rfl) (fun h => ?_) fun h => ?_
    · walk_at "ST"
      repeat' (walk_at "EG")
      repeat' (walk_at "EL")
      refine ⟨Nat.le_of_ble_eq_true rfl, fun T => ?_⟩
      exact done_ret [(T, _)] ⟨_, _, piece_val hn hp hd h, T, _, _, _, rfl, rfl⟩ rfl (fun p hp => by rw [List.mem_singleton.mp hp]; exact List.mem_append_right _ (.head _))
    · exact st_next (st_next ⟨⟨_, [(Str.ofString "number", .int n tn)], [(A, lsO _ 0)], [] :: gs, news⟩, lo_all ["number"] [0, 1] [] (by decide), _, _, rfl, fun v hv' => hv v (List.mem_cons_of_mem _ hv')⟩)
  case fin =>
    rintro σ ⟨m, gs, rfl, -⟩
    walk_at "ST"
    repeat' (walk_at "EG")
    repeat' (walk_at "EL")
    refine ⟨Nat.le_of_ble_eq_true rfl, fun T => ?_⟩
    exact done_ret [(T, _)] ⟨_, _, whole_val hn, T, _, _, _, rfl, rfl⟩ rfl (fun p hp => by rw [List.mem_singleton.mp hp]; exact List.mem_append_right _ (.head _))
theorem grains_con {n : Int} {tn : Tok} : ConD w 359 news [.int n tn] 3 30 (fun tl r => tl = [] ∧ ∃ t, r = .int ((2 * (n + 1).fdiv 2 + 4).fdiv 8) t) := by
  refine con_plain ["number"] (dd := 2) (uu := 27) (by k_is) (by k_is) rfl rfl rfl rfl rfl (by decide) (fun _ => rfl) ?_
  intro L
  refine st_seti (ep_fdiv (by walk_at "EI") (by walk_at "EI") (by decide) (PyProof.noPylong_small (by omega))) rfl rfl rfl (fun _ => ?_)
  refine st_reti (ep_fdiv (by walk_at "EI") (by walk_at "EI") (by decide) (PyProof.noPylong_small (by decide))) (fun t => ?_)
  exact done_ret0 ⟨rfl, t, rfl⟩ rfl
end
end
section
theorem seq_firstN {n : Nat} (h : 0 < n) : seqIndex? 0 n = some 0 := by
  obtain ⟨m, rfl⟩ : ∃ m, n = m + 1 := ⟨n - 1, by omega⟩
  unfold seqIndex?
  have e : (if (0 : Int) < 0 then 0 + ((m + 1 : Nat) : Int) else 0) = 0 := if_neg (by decide)
  rw [e]
  dsimp only
  rw [if_pos (by simp)]
  rfl
section
variable {prog : Program} {w : World} {A : Around} {E : Value → Shared → Prop} {s : Shared}
open PySem.SeqAt in
theorem eq_due {l1 l2 a b c d : Addr} {x1 y1 x2 y2 x3 y3 x4 y4 : Int} {t1 u1 t2 u2 t3 u3 t4 u4 : Tok} {n1 n2 n3 n4 : Nat} {Q : Value → Shared → Prop} (h1 : s.heap.IsList l1 #[.ref a, .ref b]) (h2 : s.heap.IsList l2 #[.ref c, .ref d])
    (ha : s.heap.get? a = some (tp x1 y1 t1 u1 n1)) (hb : s.heap.get? b = some (tp x2 y2 t2 u2 n2)) (hc : s.heap.get? c = some (tp x3 y3 t3 u3 n3)) (hd : s.heap.get? d = some (tp x4 y4 t4 u4 n4)) (e1 : x1 = x3) (e2 : y1 = y3) (e3 : x2 = x4) (e4 : y2 = y4)
    (hu : A.units < cLine) (hu1 : A.in1.units < cLine) (h : Q (.bool true) s) : wpAny (model prog w) A (compareOp .Eq (.ref l1) (.ref l2)) Q E s := by
  subst e1 e2 e3 e4
  have pr : ∀ {p q : Addr} {x y : Int} {t u t' u' : Tok} {n n' : Nat}, s.heap.get? p = some (tp x y t u n) → s.heap.get? q = some (tp x y t' u' n') → EqAt A.in1 s (.ref p) (.ref q) true := by
    intro p q x y t u t' u' n n' hp hq
    by_cases hne : p = q
    · subst hne; exact EqAt.same _
    refine EqAt.of_refs hne (RcAt.tuples (l := p) (b := q) (items := #[.int x t, .int y u]) (items2 := #[.int x t', .int y u']) (e := fun _ => true) ⟨_, hp, rfl, _, rfl⟩ ⟨_, hq, rfl, _, rfl⟩ hu1 (fun j h1 h2 => ?_))
    have h3 : j < 2 := h1
    match j, h3 with
    | 0, _ => have := EqAt.int_int (A := A.in1.in1) (s := s) x t x t'; simpa using this
    | 1, _ => have := EqAt.int_int (A := A.in1.in1) (s := s) y u y u'; simpa using this
  refine cmp_ofEq (RcAt.lists (e := fun _ => true) h1 h2 rfl hu (fun j g1 g2 => ?_) prog w E Q h)
  have h3 : j < 2 := g1
  match j, h3 with
  | 0, _ => exact pr ha hc
  | 1, _ => exact pr hb hd
end
section
variable {w : World} {F : Fi} {L : Addr} {V : Env} {σ : Sg} {e e2 l r : Expr} {es : List Expr} {p pos p1 : Pos} {R : Value → Sg → Prop} {RB : Bool → Sg → Prop} {v : Value} {k i : Nat}
theorem eb_isNone (ha : EP w F L V σ l (.v v)) (hp : plainIs v .none = true) (hne : v ≠ .none) (hbm : behindInMarks .Is (.Constant .none k p1) = false) (hR : RB false σ) : EB w F L V σ (.Compare l [.Is] [.Constant .none k p1] p) RB :=
  fun c h tk Q E S hq => wpAny_isTrue_Compare1 (ha c h tk _ E S fun tk1 => wpAny_Constant_none (wpAny_is_other hp hne (wpAny_truthy_bool (hq _ _ _ _ S hR)))) hbm
theorem ek_extend {D b : Addr} {x : Value} {fv : List Value} {n n2 : Nat} (hi : σ.mu[i]? = some (D, lsO [x] n)) (hb : At σ (b, lsO fv n2)) (hne : fv ≠ []) (hl : fv.length ≤ 100) (hR : R .none (σ.put i (D, lsO (x :: fv) (n + 1)))) : EK w F L σ (.builtin "list.extend") [.ref D, .ref b] R :=
  fun c h tk Q E S hq => by
    obtain ⟨u1, u2, _⟩ := dist_upd S.dm hi (o' := lsO (x :: fv) (n + 1))
    refine kl_extend S.fr S.nw hb.mem (by simp) ?_ u1 ?_ ?_ ?_ fun h' F' N' => hq _ (σ.put i (D, lsO (x :: fv) (n + 1))) _ _ ⟨F', S.kn, N', u2, S.ab⟩ hR
    · have := List.length_pos_iff.mpr hne
      simp; omega
    · simp [Builtin.List.listTooLong, sizeLine_eq]; omega
    · simp [sizeLine_eq]
    · simp [sizeLine_eq]; omega
theorem ep_lstA {sl : Expr} {a : Addr} {vs : List Value} {n : Nat} {y : Int} (ha : EP w F L V σ l (.v (.ref a))) (b : EP w F L V σ sl (.i y)) (hm : At σ (a, lsO vs n)) (h0 : 0 ≤ y) (hx : vs[y.toNat]? = some v) (hhi : y < 2 ^ 63)
    (hs : ∀ u, subscripted sl false (.ref a) (.int y u) = operate [.ref a, .int y u] (getItem (.ref a) (.int y u))) : EP w F L V σ (.Subscript l sl p) (.v v) :=
  fun cx h tk Q E S hq => Subscript_ (ha cx h tk _ E S fun _ => b cx h _ _ E S fun t _ => kba_turn (value' := .Name (Str.ofString "_") ⟨0, 0, 0, 0⟩) (fun _ => rfl) (item_listL (S.nw.isList hm.mem) h0 hhi hx (hq _) (hs t) (fun _ => rfl)))
theorem ek_lo {σ' : Sg} {f : Value} {vs : List Value} (lo : Lo σ σ') (a : EK w F L σ' f vs R) : EK w F L σ f vs R := fun c h tk Q E S hq => a c h tk Q E (lo _ _ _ S) hq
theorem eg_callF0 {f : Addr} {func : Expr} (hf : EP w F L V σ func (.v (.ref f))) (hkeep : keepIn (hd.heap_39 w.params) (.ref f) = true) (ha : EK w F L σ (.ref f) [] R)
    (hc : eval (.Call func [] [] pos) V = (do callWith pos (← eval func V) [] (backTo pos (starEach [] V)) (backToKw pos (keywordEach [] V)))) : EG w F L V σ (.Call func [] [] pos) R :=
  fun c h tk Q E S hq => Call_ (hf c h tk _ E S fun tk' => callWith_K0 (c.X.keeps S.fr.keep) hkeep (ha c h tk' Q E S hq)) hc
theorem eg_not {b : Bool} (a : EP w F L V σ e (.v (.bool b))) (hR : R (.bool (!b)) σ) : EG w F L V σ (.UnaryOp .Not e p) R :=
  fun c h tk Q E S hq => wpAny_UnaryOp (a c h tk _ E S fun tk' => not_of (wpAny_truthy_bool (hq _ _ _ _ S hR)))
theorem eg_and (a : EG w F L V σ e fun v σ1 => v = .bool true ∧ EG w F L V σ1 (.BoolOp .And (e2 :: es) p) R) : EG w F L V σ (.BoolOp .And (e :: e2 :: es) p) R :=
  fun c h tk Q E S hq => BoolOp_and (a c h tk _ E S fun v σ1 h1 tk1 S1 ⟨hv, hR⟩ => by
    subst hv
    exact wpAny_truthy_bool (hR c h1 tk1 Q E S1 hq))
theorem eg_and1 (a : EG w F L V σ e R) : EG w F L V σ (.BoolOp .And [e] p) R := fun c h tk Q E S hq => BoolOp_one (a c h tk Q E S hq)
inductive Due (w : World) (F : Fi) (L : Addr) (V : Env) (r : Expr) (R : Value → Sg → Prop) (v : Value) (σ1 : Sg) : Prop
  | mk (l1 a b : Addr) (n1 : Nat) (l2 c d : Addr) (n2 : Nat) (hv : v = .ref l1) (m1 : At σ1 (l1, lsO [.ref a, .ref b] n1)) (hr : EP w F L V σ1 r (.v (.ref l2))) (m2 : At σ1 (l2, lsO [.ref c, .ref d] n2)) (x1 y1 x2 y2 : Int)
    (p1 : PtIn σ1.led (.ref a) (x1, y1)) (p2 : PtIn σ1.led (.ref b) (x2, y2)) (p3 : PtIn σ1.led (.ref c) (x1, y1)) (p4 : PtIn σ1.led (.ref d) (x2, y2)) (hR : R (.bool true) σ1)
theorem eg_eqdue (a : EG w F L V σ l (Due w F L V r R)) (hbm : behindInMarks .Eq r = false) (hu : 1 ≤ F.uu) : EG w F L V σ (.Compare l [.Eq] [r] p) R :=
  fun c h tk Q E S hq => wpAny_Compare1 (a c h tk _ E S fun v σ1 h1 tk1 S1 D => by
    obtain ⟨l1, a, b, n1, l2, c', d, n2, hv, m1, hr, m2, x1, y1, x2, y2, p1, p2, p3, p4, hR⟩ := D
    subst hv
    obtain ⟨_, t1, u1, k1, e1, q1⟩ := p1; obtain ⟨_, t2, u2, k2, e2, q2⟩ := p2; obtain ⟨_, t3, u3, k3, e3, q3⟩ := p3; obtain ⟨_, t4, u4, k4, e4, q4⟩ := p4
    cases e1; cases e2; cases e3; cases e4
    exact hr c h1 tk1 _ E S1 fun tk2 => eq_due (S1.nw.isList m1.mem) (S1.nw.isList m2.mem) (S1.nw.get q1) (S1.nw.get q2) (S1.nw.get q3) (S1.nw.get q4) rfl rfl rfl rfl (Nat.lt_of_le_of_lt (Nat.le_add_right _ _) c.hu) (Nat.lt_of_le_of_lt (Nat.add_le_add_left hu _) c.hu) (hq _ _ _ _ S1 hR)) hbm
end
end
section
theorem hasA_pos {k : Nat} {od : Obj} {l l' : List (Str × Value)} (h : HasA k od l) (e : l = l') : HasA k od l' := e ▸ h
noncomputable abbrev flL (M Cn Sp : Addr) (q : Tok × Tok × Tok × Tok) (st he : Value) : List (Str × Value) :=
  [(Str.ofString "matrix", .ref M), (Str.ofString "most", .int 2 q.1), (Str.ofString "many", .int 4 q.2.1), (Str.ofString "grain", .int 12 q.2.2.1), (Str.ofString "bound", .int 8 q.2.2.2), (Str.ofString "contours", .ref Cn), (Str.ofString "start", st), (Str.ofString "here", he), (Str.ofString "spots", .ref Sp)]
section
variable {w : World} {news : Led}
theorem mat_init {x dx : Addr} (h1 : x ≠ dx) (h2 : ∀ q ∈ news, q.1 ≠ dx) : ConU w 244 [(dx, dictOf [] 0)] ((x, instObj 289 dx) :: news) [.ref x, .ref 74, .ref 73, .ref 73, .ref 74, .ref 73, .ref 73] 3 30 (fun mu' tl r => r = .none ∧ tl = [] ∧ ∃ od, mu' = [(dx, od)] ∧ HasA 6 od matL) := by
  refine con_U ["self", "a", "b", "c", "d", "e", "f"] (dd := 2) (uu := 27) (by k_is) (by k_is) rfl rfl (by decide +kernel) rfl rfl rfl ⟨fun _ h => (nomatch h), fun q hq => (by
    rcases List.mem_cons.mp hq with rfl | hq
    · exact h1.symm
    · exact (h2 q hq).symm), trivial⟩ ?_
  intro L cells Y
  obtain rfl := cells_unn Y
  clear Y
  refine st_seta (C := 289) (eg_pv (by walk_at "EV") ⟨x, dx, 0, _, _, _, by walk_at "EV", At.ba (.head _), rfl, hasA_nil, by decide, fun od1 a1 => ?_⟩) (by k_is) (by k_is) (by k_is) (by k_is) rfl
  refine st_seta (C := 289) (eg_pv (by walk_at "EV") ⟨x, dx, 0, _, _, _, by walk_at "EV", At.ba (.head _), rfl, a1, by decide, fun od2 a2 => ?_⟩) (by k_is) (by k_is) (by k_is) (by k_is) rfl
  refine st_seta (C := 289) (eg_pv (by walk_at "EV") ⟨x, dx, 0, _, _, _, by walk_at "EV", At.ba (.head _), rfl, a2, by decide, fun od3 a3 => ?_⟩) (by k_is) (by k_is) (by k_is) (by k_is) rfl
  refine st_seta (C := 289) (eg_pv (by walk_at "EV") ⟨x, dx, 0, _, _, _, by walk_at "EV", At.ba (.head _), rfl, a3, by decide, fun od4 a4 => ?_⟩) (by k_is) (by k_is) (by k_is) (by k_is) rfl
  refine st_seta (C := 289) (eg_pv (by walk_at "EV") ⟨x, dx, 0, _, _, _, by walk_at "EV", At.ba (.head _), rfl, a4, by decide, fun od5 a5 => ?_⟩) (by k_is) (by k_is) (by k_is) (by k_is) rfl
  refine st_seta (C := 289) (eg_pv (by walk_at "EV") ⟨x, dx, 0, _, _, _, by walk_at "EV", At.ba (.head _), rfl, a5, by decide, fun od6 a6 => ?_⟩) (by k_is) (by k_is) (by k_is) (by k_is) rfl
  exact st_next ⟨.none, [(dx, od6)], [], .inr ⟨rfl, rfl⟩, rfl, fun _ h => h, rfl, fun _ h => (nomatch h), rfl, rfl, od6, rfl, hasA_pos a6 rfl⟩
theorem ident_con : ConD w 300 news [] 6 60 (fun tl r => ∃ M d od, r = .ref M ∧ (M, instObj 289 d) ∈ tl ∧ (d, od) ∈ tl ∧ HasA 6 od matL) := by
  refine con_plain [] (dd := 5) (uu := 57) (by k_is) (by k_is) rfl rfl rfl rfl rfl (by decide) (fun _ => rfl) ?_
  intro L
  walk_at "ST"
  walk_at "EG"
  repeat' (walk_at "EL")
  refine ek_make (dd := 3) (uu := 30) (Ret := fun dx nw mu' tl r => nw = [] ∧ r = .none ∧ tl = [] ∧ ∃ od, mu' = [(dx, od)] ∧ HasA 6 od matL) (by k_is) (by k_is) (by k_is) (fun x dx h1 h2 => mat_init h1 h2) rfl (by decide) (by decide) ?_
  rintro x dx nw mu' tl v e ⟨rfl, rfl, rfl, od, rfl, hA⟩
  exact ⟨rfl, done_ret _ ⟨x, dx, od, rfl, List.mem_of_getElem? (i := 1) rfl, List.mem_of_getElem? (i := 0) rfl, hA⟩ rfl (fun _ h => h)⟩
theorem fl_init {x dx M : Addr} {t1 t2 t3 : Tok} (h1 : x ≠ dx) (h2 : ∀ q ∈ news, q.1 ≠ dx) : ConV w 178 [(dx, dictOf [] 0)] ((x, instObj 226 dx) :: news) [.ref x, .ref M, .int 3 t1, .int 2 t2, .int 2 t3] 3 30 (fun nw mu' tl r => r = .none ∧ ∃ od q Cn Sp, nw = [(Cn, lsO [] 0)] ∧ mu' = [(dx, od)] ∧ tl = [(Sp, lsO [] 0)] ∧ HasA 9 od (flL M Cn Sp q .none .none)) := by
  refine con_V ["self", "matrix", "grain", "bound", "most"] (dd := 2) (uu := 27) (by k_is) (by k_is) rfl rfl (by decide +kernel) rfl rfl rfl ⟨fun _ h => (nomatch h), fun q hq => (by
    rcases List.mem_cons.mp hq with rfl | hq
    · exact h1.symm
    · exact (h2 q hq).symm), trivial⟩ ?_
  intro L cells Y
  obtain rfl := cells_unn Y
  clear Y
  refine st_seta (C := 226) (eg_pv (by walk_at "EV") ⟨x, dx, 0, _, _, _, by walk_at "EV", At.ba (.head _), rfl, hasA_nil, by decide, fun od1 a1 => ?_⟩) (by k_is) (by k_is) (by k_is) (by k_is) rfl
  refine st_seta (C := 226) (eg_pi (by walk_at "EI") fun u1 => ⟨x, dx, 0, _, _, _, by walk_at "EV", At.ba (.head _), rfl, a1, by decide, fun od2 a2 => ?_⟩) (by k_is) (by k_is) (by k_is) (by k_is) rfl
  refine st_seta (C := 226) (eg_pi (x := 4) (ep_powN (x := 2) (k := 2) (by walk_at "EI") (by walk_at "EI") rfl (by decide) (by decide)) fun u2 => ⟨x, dx, 0, _, _, _, by walk_at "EV", At.ba (.head _), rfl, a2, by decide, fun od3 a3 => ?_⟩) (by k_is) (by k_is) (by k_is) (by k_is) rfl
  have mx : (x, instObj 226 dx) ∈ (x, instObj 226 dx) :: news := .head _
  refine st_seta (C := 226) (eg_pi (x := 12) (ep_mul (x := 3) (y := 4) (by walk_at "EI") (by walk_at "EI") (by mul_fits)) fun u3 => ⟨x, dx, 0, _, _, _, by walk_at "EV", At.ba (.head _), rfl, a3, by decide, fun od4 a4 => ?_⟩) (by k_is) (by k_is) (by k_is) (by k_is) rfl
  refine st_seta (C := 226) (eg_pi (x := 8) (ep_mul (x := 2) (y := 4) (by walk_at "EI") (by walk_at "EI") (by mul_fits)) fun u4 => ⟨x, dx, 0, _, _, _, by walk_at "EV", At.ba (.head _), rfl, a4, by decide, fun od5 a5 => ?_⟩) (by k_is) (by k_is) (by k_is) (by k_is) rfl
  refine st_seta (C := 226) (eg_list (el_nil ⟨Nat.zero_le _, fun Cn => ⟨x, dx, 1, _, _, _, by walk_at "EV", At.ba (.head _), rfl, a5, by decide, fun od6 a6 => ?_⟩⟩)) (by k_is) (by k_is) (by k_is) (by k_is) rfl
  refine st_seta (C := 226) (eg_pv (by walk_at "EV") ⟨x, dx, 1, _, _, _, by walk_at "EV", At.ba (.head _), rfl, a6, by decide, fun od7 a7 => ?_⟩) (by k_is) (by k_is) (by k_is) (by k_is) rfl
  refine st_seta (C := 226) (eg_pv (by walk_at "EV") ⟨x, dx, 1, _, _, _, by walk_at "EV", At.ba (.head _), rfl, a7, by decide, fun od8 a8 => ?_⟩) (by k_is) (by k_is) (by k_is) (by k_is) rfl
  refine st_seta (C := 226) (eg_list (el_nil ⟨Nat.zero_le _, fun Sp => ⟨x, dx, 2, _, _, _, by walk_at "EV", At.ba (.head _), rfl, a8, by decide, fun od9 a9 => ?_⟩⟩)) (by k_is) (by k_is) (by k_is) (by k_is) rfl
  exact st_lo (lo_all [] [1, 2] [0] (by decide)) (st_next ⟨.none, [(Cn, lsO [] 0)], [(dx, od9)], [(dx, od9)], [(Sp, lsO [] 0)], .inr ⟨rfl, rfl⟩, rfl, rfl, fun _ h => h, rfl, fun _ h => h, rfl, od9, (u1, u2, u3, u4), Cn, Sp, rfl, rfl, rfl, hasA_pos a9 rfl⟩)
variable {Fa dF M d Cn Sp : Addr} {od om : Obj} {k km : Nat} {q : Tok × Tok × Tok × Tok} {st he v : Value} {nx ny : Int}
theorem fine_con (hF : (Fa, instObj 226 dF) ∈ news) (hdF : (dF, od) ∈ news) (hA : HasA k od (flL M Cn Sp q st he)) (hM : (M, instObj 289 d) ∈ news) (hdm : (d, om) ∈ news) (hB : HasA km om matL) (hv : VP news v nx ny) : ConD w 185 news [.ref Fa, v] 18 180 (fun tl r => PtIn tl r ((nx + 1) / 2, (ny + 1) / 2)) := by
  refine con_plain ["self", "p"] (dd := 17) (uu := 177) (by k_is) (by k_is) rfl rfl rfl rfl rfl (by decide) (fun _ => rfl) ?_
  intro L
  walk_at "ST"
  walk_at "EG"
  repeat' (walk_at "EL")
  refine ek_con (spot_con hM hdm hB hv) rfl (by decide) (by decide) ?_
  intro v tl hr
  exact done_ret tl hr rfl (fun _ h => List.mem_append_right _ (List.mem_append_left _ h))
end
end
section
theorem HasA.dict {k : Nat} {o : Obj} {l : List (Str × Value)} (h : HasA k o l) : o.cls = .type "dict" := by
  obtain ⟨es, n, rfl, _⟩ := h
  rfl
section
variable {w : World} {news : Led} {Fa dF M Cn Sp : Addr} {od : Obj} {k nc ns : Nat} {q : Tok × Tok × Tok × Tok} {st he : Value} {cs vs : List Value} {ps : List Pt}
theorem end_con (hF : (Fa, instObj 226 dF) ∈ news) (hA : HasA k od (flL M Cn Sp q st he)) (hk : k ≤ 800) (hS : (Sp, lsO vs ns) ∈ news) (hv : All2 (PtIn news) vs ps) (hl : ps.length ≤ 9) (hcs : cs.length ≤ 9) (hD : Dist [(dF, od), (Cn, lsO cs nc)] news) :
    ConU w 197 [(dF, od), (Cn, lsO cs nc)] news [.ref Fa, .bool false] 8 90 (fun mu' tl r => r = .none ∧ ∃ od' Sp' cs' nc', mu' = [(dF, od'), (Cn, lsO cs' nc')] ∧ HasA (k + 1) od' (flL M Cn Sp' q st he) ∧ (Sp', lsO [] 0) ∈ tl ∧ (ps.length ≤ 1 → cs' = cs) ∧
      (1 < ps.length → ∃ T U fv, cs' = cs ++ [.ref T] ∧ (T, tuO [.ref U, .bool false] 0) ∈ tl ∧ (U, tuO fv 0) ∈ tl ∧ fv.length ≤ 20 ∧ All2 (PtIn (tl ++ news)) fv (unq [] (ps.map (rnd 4))))) := by
  have hvl := hv.length
  refine con_U ["self", "is_closed"] (dd := 7) (uu := 87) (by k_is) (by k_is) rfl rfl (by decide +kernel) rfl rfl rfl hD ?_
  intro L cells Y
  obtain ⟨x1, r1, rfl, d1, Y⟩ := cells_unc Y
  obtain rfl := cells_unn Y
  have e1 : x1.data = .cell (some (.ref Fa)) := d1
  clear d1 Y
  refine st_lo (lo_all ["is_closed"] [0, 1, 2] [] (by decide)) ?_
  refine st_gen fun m => ?_
  refine st_setn ?_ rfl
  walk_at "EG"
  refine el_cons (eg_comp (ci_list (eg_pv (by walk_at "EV") ⟨rfl, Sp, vs, ns, fun i ys σ' => ∃ gg, σ' = ⟨m, [(Str.ofString "is_closed", .bool false)], [(L + 1, x1), (dF, od), (Cn, lsO cs nc)], gg, news⟩ ∧ All2 (PtIn gg.flatten) ys ((ps.take i).map (rnd 4)), rfl, sz (by omega), ⟨[[]], rfl, trivial⟩, ?keep, ⟨?m1, fun _ _ _ _ => trivial, ?turn⟩, ?fin⟩)) rfl (by decide) rfl (by decide) rfl (fun _ => rfl)) rfl
  case keep => rintro _ _ _ ⟨gg, rfl, -⟩; exact At.ba hS
  case m1 => rintro _ _ _ ⟨_, rfl, _⟩; rfl
  case turn =>
    rintro i v ys σ I oI C oC D m₂ hi hP ⟨gg, rfl, hys⟩ hC hx
    obtain ⟨p, hp, ⟨a, t, u, n, rfl, ma⟩⟩ := All2.get hv hP
    walk_at "EG"
    repeat' (walk_at "EL")
    refine ek_con (rnd_con (p := p) (At.ba ma).mem) rfl (by decide) (by decide) ?_
    rintro v tl hr
    refine ⟨_, Lo.rfl, tl :: gg, rfl, ?_⟩
    rw [List.take_add_one, hp, Option.toList_some, List.map_append]
    exact All2.append (All2.mono (fun _ _ h => h.mono fun x hx => List.mem_append_right _ hx) hys) ⟨hr.mono fun x hx => List.mem_append_left _ hx, trivial⟩
  case fin =>
    rintro ys σ' ⟨gg, rfl, hys⟩
    rw [hvl, List.take_length] at hys
    refine ⟨rfl, fun D => el_nil ?_⟩
    refine ek_con (uniq_con (At.mu 0 rfl).mem (All2.mono (fun _ _ h => h.mono fun x hx => List.mem_append_right _ (List.mem_append_left _ hx)) hys) (by rw [List.length_map]; omega)) rfl (by decide) (by decide) ?_
    rintro v tl ⟨U', nU, fv, rfl, mU, hfv, hfl⟩
    replace hfv : All2 (PtIn (gg.flatten ++ news)) fv (unq [] (ps.map (rnd 4))) := All2.mono (fun _ _ h => h.cut (mu := [(D, LCg.lst ys), (L + 1, x1), (dF, od), (Cn, lsO cs nc)]) (fun x hx => List.mem_append.mp hx) (by
      simp only [List.forall_mem_cons]
      exact ⟨.inl (.inl rfl), .inr ⟨_, e1⟩, .inl (.inr hA.dict), .inl (.inl rfl), fun _ h => (nomatch h)⟩)) hfv
    refine en_l rfl rfl ?_
    refine st_lo (σ' := ⟨_, [(Str.ofString "spots", .ref U'), (Str.ofString "is_closed", .bool false)], [(L + 1, x1), (dF, od), (Cn, lsO cs nc)], [(D, LCg.lst ys)] :: tl :: gg, news⟩) (lo_all ["spots", "is_closed"] [1, 2, 3] [0] (by decide)) ?_
    refine st_if (eb_and (eb_pv (b := false) (by walk_at "EV") (fun _ => rfl) ?_))
    rw [if_neg (by decide)]
    refine ⟨fun h => (nomatch (show false = true from h)), fun _ => st_next ?_⟩
    show ST _ _ _ _ _ _
    by_cases h1 : 1 < ps.length
    · refine st_if (eb_or (eb_cmp (ep_len (by walk_at "EV") (by walk_at "EV") (At.ba hS) (.inl rfl) (by omega) rfl rfl) (by walk_at "EI") (b := true) (by show some (decide _) = _; rw [decide_eq_true (by omega)]) (by with_unfolding_all rfl) ?_))
      rw [if_pos rfl]
      refine ⟨fun _ => ?_, fun h => (nomatch (show true = false from h))⟩
      refine st_append (by walk_at "EV") (At.mu 2 rfl) ?_ rfl rfl rfl rfl
      walk_at "EG"
      refine el_cons ?_ rfl
      walk_at "EG"
      repeat' (walk_at "EL")
      refine ek_tuple (At.ow 1 _ rfl mU) (by omega) fun U => ?_
      repeat' (walk_at "EL")
      refine ⟨Nat.le_of_ble_eq_true rfl, fun T => ⟨2, cs, nc, rfl, sz (by omega), st_next ?_⟩⟩
      show ST _ _ _ _ _ _
      refine st_seta (C := 226) (eg_list (el_nil ⟨Nat.zero_le _, fun Sp' => ⟨Fa, dF, 2, od, k, _, by walk_at "EV", At.ba hF, rfl, hA, by omega, fun od' a' => ?_⟩⟩)) (by k_is) (by k_is) (by k_is) (by k_is) rfl
      refine st_lo (lo_all [] [2, 3] [0] (by decide)) (st_next ⟨.none, [(dF, od'), (Cn, lsO (cs ++ [Value.ref T]) (nc + 1))], _, .inr ⟨rfl, rfl⟩, rfl, fun _ h => h, rfl, fun _ h => h, rfl, od', Sp', _, _, rfl, hasA_pos a' rfl, List.mem_of_getElem? (i := 0) rfl, fun h => absurd h (by omega), fun _ => ⟨T, U, fv, rfl, List.mem_of_getElem? (i := 1) rfl, List.mem_of_getElem? (i := 2) rfl, hfl, All2.mono (fun _ _ h => h.mono fun x hx => ?_) hfv⟩⟩)
      rcases List.mem_append.mp hx with hx | hx
      · exact List.mem_append_left _ (.tail _ (.tail _ (.tail _ (.tail _ (List.mem_append_right tl hx)))))
      · exact List.mem_append_right _ hx
    · refine st_if (eb_or (eb_cmp (ep_len (by walk_at "EV") (by walk_at "EV") (At.ba hS) (.inl rfl) (by omega) rfl rfl) (by walk_at "EI") (b := false) (by show some (decide _) = _; rw [decide_eq_false (by omega)]) (by with_unfolding_all rfl) ?_))
      rw [if_neg (by decide)]
      refine eb_or (eb_and (eb_pv (b := false) (by walk_at "EV") (fun _ => rfl) ?_))
      rw [if_neg (by decide), if_neg (by decide)]
      refine eb_or0 ⟨fun h => (nomatch (show false = true from h)), fun _ => st_next ?_⟩
      show ST _ _ _ _ _ _
      refine st_seta (C := 226) (eg_list (el_nil ⟨Nat.zero_le _, fun Sp' => ⟨Fa, dF, 2, od, k, _, by walk_at "EV", At.ba hF, rfl, hA, by omega, fun od' a' => ?_⟩⟩)) (by k_is) (by k_is) (by k_is) (by k_is) rfl
      exact st_lo (lo_all [] [2, 3] [0] (by decide)) (st_next ⟨.none, [(dF, od'), (Cn, lsO cs nc)], _, .inr ⟨rfl, rfl⟩, rfl, fun _ h => h, rfl, fun _ h => h, rfl, od', Sp', _, _, rfl, hasA_pos a' rfl, List.mem_of_getElem? (i := 0) rfl, fun _ => rfl, fun h => absurd h h1⟩)
end
end
section
noncomputable abbrev fineP (p : Pt) : Pt := ((p.1 + 1) / 2, (p.2 + 1) / 2)
section
variable {w : World} {news : Led} {Fa dF M d Cn Sp : Addr} {od om : Obj} {k km nc ns : Nat} {q : Tok × Tok × Tok × Tok} {st he v : Value} {n : Pt}
theorem begin_con (hF : (Fa, instObj 226 dF) ∈ news) (hA : HasA k od (flL M Cn Sp q st he)) (hk : k ≤ 700) (hM : (M, instObj 289 d) ∈ news) (hdm : (d, om) ∈ news) (hB : HasA km om matL) (hS : (Sp, lsO [] ns) ∈ news) (hv : VP news v n.1 n.2) (hD : Dist [(dF, od), (Cn, lsO [] nc)] news) :
    ConV w 192 [(dF, od), (Cn, lsO [] nc)] news [.ref Fa, v] 22 220 (fun nw mu' tl r => r = .none ∧ ∃ od' Sp' r1 nc', nw = [(Sp', lsO [r1] 0)] ∧ mu' = [(dF, od'), (Cn, lsO [] nc')] ∧ HasA (k + 4) od' (flL M Cn Sp' q v v) ∧ PtIn tl r1 (fineP n)) := by
  refine con_V ["self", "p"] (dd := 21) (uu := 217) (by k_is) (by k_is) rfl rfl (by decide +kernel) rfl rfl rfl hD ?_
  intro L cells Y
  obtain rfl := cells_unn Y
  clear Y
  refine st_expr (eg_meth (by walk_at "EV") (At.ba hF) (At.mu 0 rfl) hA rfl (by k_is) (by k_is) (by k_is) (by k_is) ?_ rfl (fun _ => rfl) rfl) rfl rfl
  repeat' (walk_at "EL")
  refine ek_conU (mu0 := [(dF, od), (Cn, lsO [] nc)]) (mu1 := []) (fun _ => end_con (vs := []) (ps := []) hF hA (by omega) hS trivial (by decide) (by decide) hD) rfl rfl (by decide) (by decide) ?_
  rintro r mu' tl e ⟨rfl, od1, Sp1, cs1, nc1, rfl, a1, m1, c1, -⟩
  obtain rfl := c1 (by decide)
  refine ⟨rfl, ?_⟩
  refine st_seta (C := 226) (eg_pv (by walk_at "EV") ⟨Fa, dF, 0, od1, k + 1, _, by walk_at "EV", At.ba hF, rfl, a1, by omega, fun od2 a2 => ?_⟩) (by k_is) (by k_is) (by k_is) (by k_is) rfl
  refine st_seta (C := 226) (eg_pv (by walk_at "EV") ⟨Fa, dF, 0, od2, k + 1 + 1, _, by walk_at "EV", At.ba hF, rfl, a2, by omega, fun od3 a3 => ?_⟩) (by k_is) (by k_is) (by k_is) (by k_is) rfl
  replace a3 : HasA (k + 1 + 1 + 1) od3 (flL M Cn Sp1 q v v) := a3
  refine st_seta (C := 226) (eg_list (el_cons (eg_meth (by walk_at "EV") (At.ba hF) (At.mu 0 rfl) a3 rfl (by k_is) (by k_is) (by k_is) (by k_is) ?_ rfl (fun _ => rfl) rfl) rfl)) (by k_is) (by k_is) (by k_is) (by k_is) rfl
  repeat' (walk_at "EL")
  refine ek_con (fine_con (At.ba hF).mem (At.mu 0 rfl).mem a3 (At.ba hM).mem (At.ba hdm).mem hB (hv.mono fun p hp => (At.ba hp).mem)) rfl (by decide) (by decide) ?_
  rintro r1 tl1 hr1
  refine el_nil ⟨Nat.le_of_ble_eq_true rfl, fun Sp' => ⟨Fa, dF, 1, od3, k + 1 + 1 + 1, _, by walk_at "EV", At.ba hF, rfl, a3, by omega, fun od4 a4 => ?_⟩⟩
  exact st_next ⟨.none, [(Sp', lsO [r1] 0)], _, [(dF, od4), (Cn, lsO [] nc1)], _, .inr ⟨rfl, rfl⟩, rfl, rfl, fun _ h => h, rfl, fun _ h => h, rfl, od4, Sp', r1, nc1, rfl, rfl, hasA_pos a4 rfl, hr1.mono fun x hx => List.mem_append_left _ hx⟩
theorem go_con {aL ah : Addr} {nL : Nat} {x v2 v3 : Value} {p1 n2 n3 : Pt} (hF : (Fa, instObj 226 dF) ∈ news) (hA : HasA k od (flL M Cn Sp q st (.ref ah))) (hk : k ≤ 700) (hM : (M, instObj 289 d) ∈ news) (hdm : (d, om) ∈ news) (hB : HasA km om matL) (hL : (aL, lsO [v2, v3] nL) ∈ news)
    (hv2 : VP news v2 n2.1 n2.2) (hv3 : VP news v3 n3.1 n3.2) (hx : PtIn news x p1) (ok : PsOk [p1, fineP n2, fineP n3]) (hD : Dist [(dF, od), (Sp, lsO [x] ns)] news) :
    ConU w 202 [(dF, od), (Sp, lsO [x] ns)] news [.ref Fa, .ref aL] 24 250 (fun mu' tl r => r = .none ∧ ∃ od' fv, mu' = [(dF, od'), (Sp, lsO (x :: fv) (ns + 1))] ∧ HasA (k + 1) od' (flL M Cn Sp q st v3) ∧ All2 (PtIn (tl ++ news)) fv (fsp 8 2 [p1, fineP n2, fineP n3])) := by
  have hvs : All2 (fun v (n : Pt) => VP news v n.1 n.2) [v2, v3] [n2, n3] := ⟨hv2, hv3, trivial⟩
  refine con_U ["self", "points"] (dd := 23) (uu := 247) (by k_is) (by k_is) rfl rfl (by decide +kernel) rfl rfl rfl hD ?_
  intro L cells Y
  obtain ⟨x1, r1, rfl, d1, Y⟩ := cells_unc Y
  obtain rfl := cells_unn Y
  have e1 : x1.data = .cell (some (.ref Fa)) := d1
  clear d1 Y
  refine st_lo (lo_all ["points"] [0, 1, 2] [] (by decide)) ?_
  refine st_gen fun m => ?_
  refine st_if (eb_isNone (by walk_at "EV") rfl (by intro h; cases h) rfl ⟨fun h => (nomatch (show false = true from h)), fun _ => st_next ?_⟩)
  show ST _ _ _ _ _ _
  refine st_if (eb_eq0 (by walk_at "EV") (At.mu 2 rfl) (b := false) rfl ⟨fun h => (nomatch (show false = true from h)), fun _ => st_next ?_⟩ rfl)
  show ST _ _ _ _ _ _
  refine st_comp (ci_list (eg_pv (by walk_at "EV") ⟨rfl, aL, [v2, v3], nL, fun i ys σ' => ∃ gg, σ' = ⟨m, [(Str.ofString "points", .ref aL)], [(L + 1, x1), (dF, od), (Sp, lsO [x] ns)], gg, news⟩ ∧ All2 (PtIn gg.flatten) ys (([n2, n3].take i).map fineP), rfl, sz (by simp), ⟨[[]], rfl, trivial⟩, ?keep, ⟨?m1, fun _ _ _ _ => trivial, ?turn⟩, ?fin⟩)) rfl (by decide) rfl (by decide) rfl (fun _ => rfl) rfl rfl rfl
  case keep => rintro _ _ _ ⟨gg, rfl, -⟩; exact At.ba hL
  case m1 => rintro _ _ _ ⟨_, rfl, _⟩; rfl
  case turn =>
    rintro i v ys σ I oI C oC D m₂ hi hP ⟨gg, rfl, hys⟩ hC hx'
    obtain ⟨n, hn, hv⟩ := All2.get hvs hP
    refine eg_meth (by walk_at "EV") (At.ba hF) (At.mu 4 rfl) hA rfl (by k_is) (by k_is) (by k_is) (by k_is) ?_ rfl (fun _ => rfl) rfl
    repeat' (walk_at "EL")
    refine ek_con (fine_con (At.ba hF).mem (At.mu 4 rfl).mem hA (At.ba hM).mem (At.ba hdm).mem hB (hv.mono fun p hp => (At.ba hp).mem)) rfl (by decide) (by decide) ?_
    rintro r1 tl1 hr1
    refine ⟨_, Lo.rfl, tl1 :: gg, rfl, ?_⟩
    rw [List.take_add_one, hn, Option.toList_some, List.map_append]
    exact All2.append (All2.mono (fun _ _ h => h.mono fun x hx => List.mem_append_right _ hx) hys) ⟨hr1.mono fun x hx => List.mem_append_left _ hx, trivial⟩
  case fin =>
    rintro ys σ' ⟨gg, rfl, hys⟩
    refine ⟨rfl, fun Df => ?_⟩
    have hps : All2 (PtIn (gg.flatten ++ news)) (x :: ys) [p1, fineP n2, fineP n3] := ⟨hx.mono fun x hx => List.mem_append_right _ hx, All2.mono (fun _ _ h => h.mono fun x hx => List.mem_append_left _ hx) hys⟩
    have hyl : ys.length = 2 := hys.length
    refine st_expr (eg_lmeth (by walk_at "EV") (At.mu 3 rfl) PySem.F.slot_list_extend PySem.F.type_list_extend (el_cons ?_ rfl) rfl (fun _ => rfl) rfl) rfl rfl
    walk_at "EG"
    refine el_cons (eg_concat ?_) rfl
    walk_at "EG"
    refine el_v (ep_lneg (by walk_at "EV") (by walk_at "EI") (At.mu 3 rfl) (by decide) (by decide) rfl rfl (by intro _; with_unfolding_all rfl)) rfl ?_
    refine el_nil ⟨Nat.le_of_ble_eq_true rfl, fun A => ⟨A, _, 0, Df, ys, _, rfl, At.mu 0 rfl, by walk_at "EV", At.mu 1 rfl, by omega, fun Dc => ?_⟩⟩
    repeat' (walk_at "EL")
    refine ek_con (spots_con (K := 2) (b := 8) (ps := [p1, fineP n2, fineP n3]) (At.mu 0 rfl).mem (All2.mono (fun _ _ h => h.mono fun x hx => List.mem_append_right _ hx) hps) ok (by decide) (by decide)) rfl (by decide) (by decide) ?_
    rintro v tl ⟨F', nF, fv, rfl, mF, hFv⟩
    replace hFv : All2 (PtIn ((tl :: gg).flatten ++ news)) fv (fsp 8 2 [p1, fineP n2, fineP n3]) := All2.mono (fun _ _ h => h.cut (mu := [(Dc, lsO (x :: ys) 0), (A, lsO [x] 0), (Df, LCg.lst ys), (L + 1, x1), (dF, od), (Sp, lsO [x] ns)]) (fun x hx => by
      rcases List.mem_append.mp hx with hx | hx
      · exact .inr (List.mem_append_left _ (List.mem_append_left _ hx))
      · rcases List.mem_append.mp hx with hx | hx
        · exact .inl hx
        · rcases List.mem_append.mp hx with hx | hx
          · exact .inr (List.mem_append_left _ (List.mem_append_right _ hx))
          · exact .inr (List.mem_append_right _ hx)) (by simp only [List.forall_mem_cons]; exact ⟨.inl (.inl rfl), .inl (.inl rfl), .inl (.inl rfl), .inr ⟨_, e1⟩, .inl (.inr hA.dict), .inl (.inl rfl), fun _ h => (nomatch h)⟩)) hFv
    have hne : fsp 8 2 [p1, fineP n2, fineP n3] ≠ [] := fsp_ne (n := 2) (.inl ⟨rfl, rfl⟩)
    have hfl := hFv.length
    have hle := fsp_len 8 2 [p1, fineP n2, fineP n3]
    refine el_nil (ek_extend (i := 5) rfl (At.ow 0 _ rfl mF) (by rintro rfl; exact hne (List.length_eq_zero_iff.mp hfl.symm)) (by omega) ⟨rfl, ?_⟩)
    refine st_seta (C := 226) (eg_pv (ep_lneg (by walk_at "EV") (by walk_at "EI") (At.ba hL) (by decide) (by decide) rfl rfl (by intro _; with_unfolding_all rfl)) ⟨Fa, dF, 4, od, k, _, by walk_at "EV", At.ba hF, rfl, hA, by omega, fun od2 a2 => ?_⟩) (by k_is) (by k_is) (by k_is) (by k_is) rfl
    refine st_lo (lo_all [] [4, 5] [0, 1, 2] (by decide)) (st_next ⟨.none, [(dF, od2), (Sp, lsO (x :: fv) (ns + 1))], _, .inr ⟨rfl, rfl⟩, rfl, fun _ h => h, rfl, fun _ h => h, rfl, od2, fv, rfl, hasA_pos a2 rfl, All2.mono (fun _ _ h => h.mono fun x hx => ?_) hFv⟩)
    rcases List.mem_append.mp hx with hx | hx
    · exact List.mem_append_left _ (List.mem_append_right [_, _, _] hx)
    · exact List.mem_append_right _ hx
end
end
section
noncomputable def PtN (p : Pt) : Prop := (-90 ≤ p.1 ∧ p.1 ≤ 90) ∧ (-90 ≤ p.2 ∧ p.2 ≤ 90)
theorem fine_ok {p1 p2 p3 : Pt} (h : ∀ p ∈ [p1, p2, p3], PtN p) : PsOk [fineP p1, fineP p2, fineP p3] := by
  have h1 := h p1 (by simp)
  have h2 := h p2 (by simp)
  have h3 := h p3 (by simp)
  unfold PtN at h1 h2 h3
  refine ⟨.inl rfl, ?_⟩
  simp only [List.forall_mem_cons, PtOk, fineP]
  exact ⟨by omega, by omega, by omega, List.forall_mem_nil _⟩
theorem unq_len : ∀ (l acc : List Pt), (unq acc l).length ≤ acc.length + l.length
  | [], acc => Nat.le_refl _
  | p :: r, acc => by
    unfold unq
    refine Nat.le_trans (unq_len r _) ?_
    split <;> simp <;> omega
theorem unq_head : ∀ (l : List Pt) (acc : List Pt) (a : Pt) (t : List Pt), acc = a :: t → (unq acc l).head? = some a
  | [], acc, a, t, h => by subst h; rfl
  | p :: r, acc, a, t, h => by
    unfold unq
    split
    · exact unq_head r acc a t h
    · exact unq_head r _ a (t ++ [p]) (by rw [h]; rfl)
theorem unq_last : ∀ (l : List Pt) (acc : List Pt) (p : Pt), (unq acc (l ++ [p])).getLast? = some p
  | [], acc, p => by
    show (if acc.getLast? = some p then acc else acc ++ [p]).getLast? = some p
    split
    · assumption
    · simp
  | q :: r, acc, p => unq_last r _ p
theorem uq_ends {f : Pt → Pt} {a z : Pt} {l : List Pt} (hl : l ≠ []) (hz : ∀ o, l.getLastD o = z) : (unq [] ((a :: l).map f)).head? = some (f a) ∧ (unq [] ((a :: l).map f)).getLast? = some (f z) := by
  constructor
  · show (unq (if ([] : List Pt).getLast? = some (f a) then [] else [] ++ [f a]) (l.map f)).head? = _
    rw [if_neg (by simp)]
    exact unq_head _ _ (f a) [] rfl
  · have e := List.dropLast_concat_getLast hl
    have h2 : l.getLast hl = z := by
      have := hz a
      rw [List.getLastD_eq_getLast?, List.getLast?_eq_some_getLast hl] at this
      exact this
    rw [← e, h2, ← List.cons_append, List.map_append]
    exact unq_last _ _ _
theorem all2_ends {l : Led} {vs : List Value} {qs : List Pt} {a z : Pt} (h : All2 (PtIn l) vs qs) (ha : qs.head? = some a) (hz : qs.getLast? = some z) :
    ∃ b0 r t u n b1 t' u' n', vs = .ref b0 :: r ∧ (b0, tp a.1 a.2 t u n) ∈ l ∧ vs.getLast? = some (.ref b1) ∧ (b1, tp z.1 z.2 t' u' n') ∈ l := by
  have hne : qs ≠ [] := by rintro rfl; simp at ha
  obtain ⟨b1, t', u', n', e1, m1⟩ := all2_last h hne
  rw [List.getLastD_eq_getLast?, hz] at m1
  rcases qs with _ | ⟨q, qs⟩
  · exact absurd rfl hne
  rcases vs with _ | ⟨v, r⟩
  · exact h.elim
  obtain ⟨⟨b0, t, u, n, e0, m0⟩, _⟩ := h
  have : q = a := by simpa using ha
  subst this e0
  exact ⟨b0, r, t, u, n, b1, t', u', n', rfl, m0, e1, m1⟩
theorem grains_eq {n : Int} : (2 * ((n + 1) / 2) + 4) / (2 * 4) = (2 * (n + 1).fdiv 2 + 4).fdiv 8 := by
  rw [Int.fdiv_eq_ediv_of_nonneg _ (by decide), Int.fdiv_eq_ediv_of_nonneg _ (by decide)]
  rfl
theorem ends9 {l : Led} {fv9 : List Value} {p1 p2 p3 : Pt} (hU : All2 (PtIn l) fv9 (unq [] ((fineP p1 :: fsp 8 2 [fineP p1, fineP p2, fineP p3]).map (rnd 4)))) :
    ∃ b0 r t u n b1 t' u' n', fv9 = Value.ref b0 :: r ∧ (b0, tp (rnd 4 (fineP p1)).1 (rnd 4 (fineP p1)).2 t u n) ∈ l ∧ fv9.getLast? = some (.ref b1) ∧ (b1, tp (rnd 4 (fineP p3)).1 (rnd 4 (fineP p3)).2 t' u' n') ∈ l := by
  have hw : ((2 : Nat) = 2 ∧ ([fineP p1, fineP p2, fineP p3]).length = 3) ∨ ((2 : Nat) = 3 ∧ ([fineP p1, fineP p2, fineP p3]).length = 4) := .inl ⟨rfl, rfl⟩
  have h1 := fsp_ne (b := 8) (k := 2) hw
  have h2 : ∀ o, (fsp 8 2 [fineP p1, fineP p2, fineP p3]).getLastD o = fineP p3 := fun o => (fsp_last (b := 8) (k := 2) hw o).trans rfl
  generalize fsp 8 2 [fineP p1, fineP p2, fineP p3] = q at *
  obtain ⟨e1, e2⟩ := uq_ends (f := rnd 4) (a := fineP p1) h1 h2
  exact all2_ends hU e1 e2
noncomputable abbrev grP (p : Pt) : Pt := ((2 * (p.1 + 1).fdiv 2 + 4).fdiv 8, (2 * (p.2 + 1).fdiv 2 + 4).fdiv 8)
theorem cont_3 {w : World} {rest : Led} {S R L : Addr} {c c4 : Sc} {oc cdv ct dV kV doc pm : Value} {od9 an : Option Addr} {osl : Array (Option Value)} {name qual : Str} {params : Arguments} {scope : Scope} {tail : List Stmt} {m : Str → Option Value} {Fa P Dn dF M Cn Sp T U : Addr} {od : Obj} {k nc : Nat} {q : Tok × Tok × Tok × Tok} {st he v1 v2 v3 : Value} {N : List Led} {fv : List Value} {p1 p2 p3 : Pt} {s1 s2 s3 s4 s5 s6 : Stmt} (ho : (hd.heap_39 w.params).lookup 364 = some ⟨oc, od9, .func (fnOf name qual params (s1 :: s2 :: s3 :: s4 :: s5 :: s6 :: tail) scope dV kV doc pm an cdv ct), osl⟩) (hc4 : c4.ok)
    (mF : (Fa, instObj 226 dF) ∈ N.flatten ++ rest) (hA : HasA k od (flL M Cn Sp q st he)) (mT : (T, tuO [.ref U, .bool false] 0) ∈ N.flatten ++ rest) (mU : (U, tuO fv 0) ∈ N.flatten ++ rest) (hfl : fv.length ≤ 20) (hfv : All2 (PtIn (N.flatten ++ rest)) fv (unq [] ((fineP p1 :: fsp 8 2 [fineP p1, fineP p2, fineP p3]).map (rnd 4)))) (mN : (Dn, LCg.lst [v1, v2, v3]) ∈ N.flatten ++ rest) (hys : All2 (PtIn (N.flatten ++ rest)) [v1, v2, v3] [p1, p2, p3]) :
    ST w ⟨qual, scope, 364, cdv, 33, 397⟩ L ⟨m, [(Str.ofString "flattener", .ref Fa), (Str.ofString "points", .ref P), (Str.ofString "numbers", .ref Dn)], [(dF, od), (Cn, lsO [.ref T] nc), (S, c4.s R), (R, c4.r)], N, rest⟩ tail (DoneU [(S, c.s R), (R, c.r)] rest (fun mu' tl r => r = .bool true ∧ tl = [] ∧ ∃ c' : Sc, c'.ok ∧ mu' = [(S, c'.s R), (R, c'.r)])) := by
  obtain ⟨rfl, hb, rfl, rfl⟩ := fn_inj ho (by k_is)
  simp only [List.cons.injEq] at hb
  obtain ⟨-, -, -, -, -, -, rfl⟩ := hb
  clear ho
  have hf5 := unq_len ((fineP p1 :: fsp 8 2 [fineP p1, fineP p2, fineP p3]).map (rnd 4)) []
  have hle := fsp_len 8 2 [fineP p1, fineP p2, fineP p3]
  rw [List.length_map, List.length_cons, ← hfv.length] at hf5
  have hf6 : fv.length ≤ 5 := by simp only [List.length_nil] at hf5; omega
  obtain ⟨b0, r, t, u, n, b1, t', u', n', rfl, m0, hl, m1⟩ := ends9 hfv
  have eg : ∀ p : Pt, rnd 4 (fineP p) = grP p := fun p => Prod.ext grains_eq grains_eq
  rw [eg p1] at m0
  rw [eg p3] at m1
  refine st_unpack2 (eg_pv (ep_lstA (by walk_at "EV") (by walk_at "EI") (At.mu 1 rfl) (by decide) rfl (by decide) (by intro _; with_unfolding_all rfl)) ⟨T, .ref U, .bool false, 0, rfl, At.fl mT, en_l rfl rfl (en_l rfl rfl ?_)⟩) rfl rfl rfl
  refine st_gen fun m2 => ?_
  refine st_comp (ci_list (eg_list ?_)) rfl (by decide) rfl (by decide) rfl (fun _ => rfl) rfl rfl rfl
  repeat' (walk_at "EL")
  refine ⟨Nat.le_of_ble_eq_true rfl, fun A => ⟨rfl, A, [v1, v3], 0, fun i ys σ' => ∃ gg, σ' = ⟨m2, (Str.ofString "is_closed", .bool false) :: (Str.ofString "spots", .ref U) :: [(Str.ofString "flattener", .ref Fa), (Str.ofString "points", .ref P), (Str.ofString "numbers", .ref Dn)], [(A, lsO [v1, v3] 0), (dF, od), (Cn, lsO [.ref T] nc), (S, c4.s R), (R, c4.r)], gg ++ N, rest⟩ ∧ All2 (PtIn gg.flatten) ys (([p1, p3].take i).map grP), rfl, sz (by simp), ⟨[], rfl, trivial⟩, ?keep, ⟨?m1, fun _ _ _ _ => trivial, ?turn⟩, ?fin⟩⟩
  case keep => rintro _ _ _ ⟨gg, rfl, -⟩; exact At.mu 0 rfl
  case m1 => rintro _ _ _ ⟨_, rfl, _⟩; rfl
  case turn =>
    rintro i v ys σ I oI C oC D m₂ hi hP ⟨gg, rfl, hy⟩ hC hx
    obtain ⟨p, hp, ⟨a, t, u, n, rfl, ma⟩⟩ := All2.get (show All2 (PtIn (N.flatten ++ rest)) [v1, v3] [p1, p3] from ⟨hys.1, hys.2.2.1, trivial⟩) hP
    have ma' : (a, tp p.1 p.2 t u n) ∈ (gg ++ N).flatten ++ rest := by rw [List.flatten_append, List.append_assoc]; exact List.mem_append_right _ ma
    refine eg_tuple (el_cons ?_ rfl)
    walk_at "EG"
    repeat' (walk_at "EL")
    refine ek_con grains_con rfl (by decide) (by decide) ?_
    rintro r1 tl1 ⟨rfl, t1, rfl⟩
    refine el_cons ?_ rfl
    walk_at "EG"
    repeat' (walk_at "EL")
    refine ek_con grains_con rfl (by decide) (by decide) ?_
    rintro r2 tl2 ⟨rfl, t2, rfl⟩
    refine el_nil ⟨Nat.le_of_ble_eq_true rfl, fun T => ⟨_, Lo.rfl, [_] :: [] :: [] :: gg, rfl, ?_⟩⟩
    rw [List.take_add_one, hp, Option.toList_some, List.map_append]
    exact All2.append (All2.mono (fun _ _ h => h.mono fun x hx => .tail _ hx) hy) ⟨⟨T, _, _, _, rfl, .head _⟩, trivial⟩
  case fin =>
    rintro ys σ' ⟨gg, rfl, hy⟩
    refine ⟨rfl, fun Dd => ?_⟩
    rcases ys with _ | ⟨y1, _ | ⟨y2, _ | ⟨y3, r'⟩⟩⟩
    · exact hy.elim
    · exact hy.2.elim
    · obtain ⟨⟨c1, t3, u3, n3, rfl, q1⟩, ⟨c2, t4, u4, n4, rfl, q2⟩, -⟩ := hy
      have up : ∀ x ∈ N.flatten ++ rest, x ∈ (gg ++ N).flatten ++ rest := fun x hx => by rw [List.flatten_append, List.append_assoc]; exact List.mem_append_right _ hx
      have ug : ∀ x ∈ gg.flatten, x ∈ (gg ++ N).flatten ++ rest := fun x hx => by rw [List.flatten_append, List.append_assoc]; exact List.mem_append_left _ hx
      have mU' := up _ mU
      refine st_ret (eg_and (eg_not (by walk_at "EV") ⟨rfl, eg_and (eg_eqdue (eg_list (el_v (ep_tup (by walk_at "EV") (by walk_at "EI") (At.fl mU') (seq_firstN (Nat.succ_pos _)) rfl (by decide) (by decide) (by intro _; with_unfolding_all rfl)) rfl (el_v (ep_tup (by walk_at "EV") (by walk_at "EI") (At.fl mU') (seq_lastN (Nat.succ_pos _)) (by rw [← List.getLast?_eq_getElem?]; exact hl) (by decide) (by decide) (by intro _; with_unfolding_all rfl)) rfl (el_nil ⟨Nat.le_of_ble_eq_true rfl, fun A2 => ⟨A2, b0, b1, 0, Dd, c1, c2, _, rfl, At.mu 0 rfl, by walk_at "EV", At.mu 1 rfl, _, _, _, _, ⟨b0, _, _, _, rfl, (At.fl (up _ m0)).mem⟩, ⟨b1, _, _, _, rfl, (At.fl (up _ m1)).mem⟩, ⟨c1, _, _, _, rfl, (At.fl (ug _ q1)).mem⟩, ⟨c2, _, _, _, rfl, (At.fl (ug _ q2)).mem⟩, ?_⟩⟩)))) rfl (by decide))⟩))
      refine ⟨rfl, eg_and1 (eg_pv (ep_cmp (b := true) (by walk_at "EI") (by walk_at "EI") (by show some (decide _) = _; rw [decide_eq_true (by omega)]) (by with_unfolding_all rfl)) ?_)⟩
      refine ⟨_, [(S, c4.s R), (R, c4.r)], [], .inl rfl, rfl, ?_, rfl, fun _ h => (nomatch h), rfl, rfl, c4, hc4, rfl⟩
      intro p hp
      rcases List.mem_cons.mp hp with rfl | hp
      · exact List.mem_of_getElem? (i := 5) rfl
      · rw [List.mem_singleton.mp hp]; exact List.mem_of_getElem? (i := 6) rfl
    · exact hy.2.2.elim
theorem cont_2 {w : World} {rest : Led} {S R L : Addr} {c c4 : Sc} {oc cdv ct dV kV doc pm : Value} {od9 an : Option Addr} {osl : Array (Option Value)} {name qual : Str} {params : Arguments} {scope : Scope} {tail : List Stmt} {m : Str → Option Value} {Fa P Dn dF M d Cn Sp : Addr} {od om : Obj} {k km np ns : Nat} {q : Tok × Tok × Tok × Tok} {st he v1 v2 v3 w1 w2 w3 : Value} {N : List Led} {p1 p2 p3 : Pt} {s1 s2 s3 : Stmt} (ho : (hd.heap_39 w.params).lookup 364 = some ⟨oc, od9, .func (fnOf name qual params (s1 :: s2 :: s3 :: tail) scope dV kV doc pm an cdv ct), osl⟩) (hc4 : c4.ok) (hB : ∀ p ∈ [p1, p2, p3], PtN p)
    (mF : (Fa, instObj 226 dF) ∈ N.flatten ++ rest) (hA : HasA k od (flL M Cn Sp q st he)) (hk : k ≤ 600) (mM : (M, instObj 289 d) ∈ N.flatten ++ rest) (mdm : (d, om) ∈ N.flatten ++ rest) (hM : HasA km om matL) (mS : (Sp, lsO [] ns) ∈ N.flatten ++ rest) (h1 : VP (N.flatten ++ rest) w1 p1.1 p1.2) (h2 : VP (N.flatten ++ rest) w2 p2.1 p2.2) (h3 : VP (N.flatten ++ rest) w3 p3.1 p3.2) (mN : (Dn, LCg.lst [v1, v2, v3]) ∈ N.flatten ++ rest) (hys : All2 (PtIn (N.flatten ++ rest)) [v1, v2, v3] [p1, p2, p3]) :
    ST w ⟨qual, scope, 364, cdv, 33, 397⟩ L ⟨m, [(Str.ofString "flattener", .ref Fa), (Str.ofString "points", .ref P), (Str.ofString "numbers", .ref Dn)], [(P, lsO [w1, w2, w3] np), (Cn, lsO [] 0), (dF, od), (S, c4.s R), (R, c4.r)], N, rest⟩ tail (DoneU [(S, c.s R), (R, c.r)] rest (fun mu' tl r => r = .bool true ∧ tl = [] ∧ ∃ c' : Sc, c'.ok ∧ mu' = [(S, c'.s R), (R, c'.r)])) := by
  obtain ⟨rfl, hb, rfl, rfl⟩ := fn_inj ho (by k_is)
  simp only [List.cons.injEq] at hb
  obtain ⟨-, -, -, rfl⟩ := hb
  clear ho
  obtain ⟨ah, hw⟩ : ∃ a, w1 = .ref a := by obtain ⟨a, _, _, _, _, _, _, _, e, _⟩ := h1; exact ⟨a, e⟩
  subst hw
  refine st_lo (σ' := ⟨m, [(Str.ofString "flattener", .ref Fa), (Str.ofString "points", .ref P), (Str.ofString "numbers", .ref Dn)], [(dF, od), (Cn, lsO [] 0), (S, c4.s R), (R, c4.r)], [(P, lsO [.ref ah, w2, w3] np)] :: N, rest⟩) (lo_all ["flattener", "points", "numbers"] [2, 1, 3, 4] [0] (by decide)) ?_
  have mP : (P, lsO [.ref ah, w2, w3] np) ∈ ([(P, lsO [.ref ah, w2, w3] np)] :: N).flatten ++ rest := .head _
  refine st_expr (eg_meth (by walk_at "EV") (At.fl (.tail _ mF)) (At.mu 0 rfl) hA rfl (by k_is) (by k_is) (by k_is) (by k_is) ?_ rfl (fun _ => rfl) rfl) rfl rfl
  repeat' (walk_at "EL")
  refine ek_conV (mu0 := [(dF, od), (Cn, lsO [] 0)]) (mu1 := [(S, c4.s R), (R, c4.r)]) (fun hD => begin_con (n := p1) (.tail _ (.tail _ (.tail _ mF))) hA (by omega) (.tail _ (.tail _ (.tail _ mM))) (.tail _ (.tail _ (.tail _ mdm))) hM (.tail _ (.tail _ (.tail _ mS))) (h1.mono fun x hx => .tail _ (.tail _ (.tail _ hx))) hD) rfl rfl (by decide) (by decide) ?_
  rintro r nw mu' tl e ⟨rfl, od2, Sp2, r1, nc1, rfl, rfl, hA2, hr1⟩
  refine ⟨rfl, ?_⟩
  obtain ⟨N2, hN2⟩ : ∃ N2, N2 = tl :: [(P, lsO [.ref ah, w2, w3] np)] :: N := ⟨_, rfl⟩
  have up : ∀ x ∈ ([(P, lsO [.ref ah, w2, w3] np)] :: N).flatten ++ rest, x ∈ N2.flatten ++ rest := fun x hx => by
    rw [hN2, List.flatten_cons, List.append_assoc]; exact List.mem_append_right _ hx
  replace hr1 : PtIn (N2.flatten ++ rest) r1 (fineP p1) := hr1.mono fun x hx => by rw [hN2, List.flatten_cons, List.append_assoc]; exact List.mem_append_left _ hx
  replace mP := up _ mP
  have up' : ∀ x ∈ N.flatten ++ rest, x ∈ N2.flatten ++ rest := fun x hx => up x (.tail _ hx)
  replace mF := up' _ mF
  replace mM := up' _ mM
  replace mdm := up' _ mdm
  replace mN := up' _ mN
  replace hys := All2.mono (fun _ _ h => h.mono up') hys
  replace h2 := h2.mono up'
  replace h3 := h3.mono up'
  refine st_lo (σ' := ⟨m, [(Str.ofString "flattener", .ref Fa), (Str.ofString "points", .ref P), (Str.ofString "numbers", .ref Dn)], [(Sp2, lsO [r1] 0), (dF, od2), (Cn, lsO [] nc1), (S, c4.s R), (R, c4.r)], tl :: [(P, lsO [.ref ah, w2, w3] np)] :: N, rest⟩) Lo.rfl ?_
  rw [← hN2]
  clear hN2 up up' h1 mS
  refine st_expr (eg_meth (by walk_at "EV") (At.fl mF) (At.mu 1 rfl) hA2 rfl (by k_is) (by k_is) (by k_is) (by k_is) ?_ rfl (fun _ => rfl) rfl) rfl rfl
  refine el_cons (eg_sl (lo := some 1) (hi := none) (zs := [w2, w3]) (by walk_at "EV") (by walk_at "AT") (.inr ⟨_, _, rfl, rfl, by walk_at "EI"⟩) (.inl ⟨rfl, rfl⟩) (Nat.le_of_ble_eq_true rfl) rfl (fun aL => el_nil ?_) (by intro _; with_unfolding_all rfl) (by intro _; with_unfolding_all rfl)) rfl
  refine ek_lo (σ' := ⟨m, [(Str.ofString "flattener", .ref Fa), (Str.ofString "points", .ref P), (Str.ofString "numbers", .ref Dn)], [(dF, od2), (Sp2, lsO [r1] 0), (Cn, lsO [] nc1), (S, c4.s R), (R, c4.r)], [(aL, lsO [w2, w3] 0)] :: N2, rest⟩) (lo_all ["flattener", "points", "numbers"] [2, 1, 3, 4, 5] [0] (by decide)) ?_
  have upL : ∀ x ∈ N2.flatten ++ rest, x ∈ [(Cn, lsO [] nc1), (S, c4.s R), (R, c4.r)] ++ (([(aL, lsO [w2, w3] 0)] :: N2).flatten ++ rest) := fun x hx => .tail _ (.tail _ (.tail _ (.tail _ hx)))
  have okP : PsOk [fineP p1, fineP p2, fineP p3] := fine_ok hB
  refine ek_conU (mu0 := [(dF, od2), (Sp2, lsO [r1] 0)]) (mu1 := [(Cn, lsO [] nc1), (S, c4.s R), (R, c4.r)]) (fun hD => go_con (p1 := fineP p1) (n2 := p2) (n3 := p3) (upL _ mF) hA2 (by omega) (upL _ mM) (upL _ mdm) hM (.tail _ (.tail _ (.tail _ (.head _)))) (h2.mono upL) (h3.mono upL) (hr1.mono upL) okP hD) rfl rfl (by decide) (by decide) ?_
  rintro r mu' tl2 e ⟨rfl, od3, fv, rfl, hA3, hfv⟩
  refine ⟨rfl, ?_⟩
  obtain ⟨N3, hN3⟩ : ∃ N3, N3 = [(Sp2, lsO (r1 :: fv) 1)] :: tl2 :: [(aL, lsO [w2, w3] 0)] :: N2 := ⟨_, rfl⟩
  have up : ∀ x ∈ N2.flatten ++ rest, x ∈ N3.flatten ++ rest := fun x hx => by
    rw [hN3]
    refine .tail _ ?_
    show x ∈ (tl2 ++ ([(aL, lsO [w2, w3] 0)] ++ N2.flatten)) ++ rest
    rw [List.append_assoc, List.append_assoc]
    exact List.mem_append_right _ (.tail _ hx)
  have mS3 : (Sp2, lsO (r1 :: fv) 1) ∈ N3.flatten ++ rest := by rw [hN3]; exact .head _
  replace hfv : All2 (PtIn (N3.flatten ++ rest)) fv (fsp 8 2 [fineP p1, fineP p2, fineP p3]) := All2.mono (fun _ _ h => h.cut (mu := [(Cn, lsO [] nc1), (S, c4.s R), (R, c4.r)]) (fun x hx => by
    rcases List.mem_append.mp hx with hx | hx
    · refine .inr ?_
      rw [hN3]
      refine .tail _ ?_
      show x ∈ (tl2 ++ ([(aL, lsO [w2, w3] 0)] ++ N2.flatten)) ++ rest
      rw [List.append_assoc]
      exact List.mem_append_left _ hx
    · rcases List.mem_append.mp hx with hx | hx
      · exact .inl hx
      · refine .inr ?_
        rw [hN3]
        refine .tail _ ?_
        show x ∈ (tl2 ++ ([(aL, lsO [w2, w3] 0)] ++ N2.flatten)) ++ rest
        rw [List.append_assoc, List.append_assoc]
        exact List.mem_append_right _ hx) (by simp only [List.forall_mem_cons]; exact ⟨.inl (.inl rfl), .inl (.inl rfl), .inl (.inl rfl), fun _ h => (nomatch h)⟩)) hfv
  have hps : All2 (PtIn (N3.flatten ++ rest)) (r1 :: fv) (fineP p1 :: fsp 8 2 [fineP p1, fineP p2, fineP p3]) := ⟨hr1.mono up, hfv⟩
  have hle := fsp_len 8 2 [fineP p1, fineP p2, fineP p3]
  have hpos : 0 < (fsp 8 2 [fineP p1, fineP p2, fineP p3]).length := List.length_pos_iff.mpr (fsp_ne (b := 8) (k := 2) (n := 2) (.inl ⟨rfl, rfl⟩))
  replace mF := up _ mF
  replace mN := up _ mN
  replace hys := All2.mono (fun _ _ h => h.mono up) hys
  refine st_lo (σ' := ⟨m, [(Str.ofString "flattener", .ref Fa), (Str.ofString "points", .ref P), (Str.ofString "numbers", .ref Dn)], [(dF, od3), (Cn, lsO [] nc1), (S, c4.s R), (R, c4.r)], [(Sp2, lsO (r1 :: fv) 1)] :: tl2 :: [(aL, lsO [w2, w3] 0)] :: N2, rest⟩) (lo_all ["flattener", "points", "numbers"] [0, 2, 3, 4] [1] (by decide)) ?_
  rw [← hN3]
  clear hN3 up hfv hr1 h2 h3 mM mdm mP okP upL
  refine st_expr (eg_meth (by walk_at "EV") (At.fl mF) (At.mu 0 rfl) hA3 rfl (by k_is) (by k_is) (by k_is) (by k_is) ?_ rfl (fun _ => rfl) rfl) rfl rfl
  repeat' (walk_at "EL")
  have upL : ∀ x ∈ N3.flatten ++ rest, x ∈ [(S, c4.s R), (R, c4.r)] ++ (N3.flatten ++ rest) := fun x hx => .tail _ (.tail _ hx)
  refine ek_conU (mu0 := [(dF, od3), (Cn, lsO [] nc1)]) (mu1 := [(S, c4.s R), (R, c4.r)]) (fun hD => end_con (ps := fineP p1 :: fsp 8 2 [fineP p1, fineP p2, fineP p3]) (upL _ mF) hA3 (by omega) (upL _ mS3) (All2.mono (fun _ _ h => h.mono upL) hps) (by rw [List.length_cons]; omega) (by decide) hD) rfl rfl (by decide) (by decide) ?_
  rintro r mu' tl3 e ⟨rfl, od4, Sp4, cs4, nc4, rfl, hA4, mS4, -, hT⟩
  obtain ⟨T, U, fv4, rfl, mT, mU, hfl4, hfv4⟩ := hT (by rw [List.length_cons]; omega)
  refine ⟨rfl, ?_⟩
  have up3 : ∀ x ∈ N3.flatten ++ rest, x ∈ (tl3 :: N3).flatten ++ rest := fun x hx => by
    rw [List.flatten_cons, List.append_assoc]; exact List.mem_append_right _ hx
  have ut3 : ∀ x ∈ tl3, x ∈ (tl3 :: N3).flatten ++ rest := fun x hx => List.mem_append_left _ (List.mem_append_left _ hx)
  replace hfv4 : All2 (PtIn ((tl3 :: N3).flatten ++ rest)) fv4 _ := All2.mono (fun _ _ h => h.cut (mu := [(S, c4.s R), (R, c4.r)]) (fun x hx => by
    rcases List.mem_append.mp hx with hx | hx
    · exact .inr (ut3 _ hx)
    · rcases List.mem_append.mp hx with hx | hx
      · exact .inl hx
      · exact .inr (up3 _ hx)) (by simp only [List.forall_mem_cons]; exact ⟨.inl (.inl rfl), .inl (.inl rfl), fun _ h => (nomatch h)⟩)) hfv4
  exact st_lo (σ' := ⟨m, [(Str.ofString "flattener", .ref Fa), (Str.ofString "points", .ref P), (Str.ofString "numbers", .ref Dn)], [(dF, od4), (Cn, lsO [.ref T] nc4), (S, c4.s R), (R, c4.r)], tl3 :: N3, rest⟩) Lo.rfl (cont_3 (by k_is) hc4 (up3 _ mF) hA4 (ut3 _ mT) (ut3 _ mU) hfl4 hfv4 (up3 _ mN) (All2.mono (fun _ _ h => h.mono up3) hys))
theorem three_of {α : Type} {l : List α} (h : l.length = 3) : ∃ a b c, l = [a, b, c] := by
  rcases l with _ | ⟨a, _ | ⟨b, _ | ⟨c, _ | ⟨d, r⟩⟩⟩⟩
  · cases h
  · cases h
  · cases h
  · exact ⟨a, b, c, rfl⟩
  · exact absurd h (by simp)
theorem contour_con {w : World} {rest : Led} {S R : Addr} (c : Sc) (hc : c.ok) (hD : Dist [(S, c.s R), (R, c.r)] rest) :
    ConU w 364 [(S, c.s R), (R, c.r)] rest [.ref S] 34 400 (fun mu' tl r => r = .bool true ∧ tl = [] ∧ ∃ c' : Sc, c'.ok ∧ mu' = [(S, c'.s R), (R, c'.r)]) := by
  refine con_U (mu0 := [(S, c.s R), (R, c.r)]) ["source"] (dd := 33) (uu := 397) (by k_is) (by k_is) rfl rfl (by decide +kernel) rfl rfl rfl hD ?_
  intro L cells Y
  obtain ⟨x1, r1, rfl, d1, Y⟩ := cells_unc Y
  obtain rfl := cells_unn Y
  have e1 : x1.data = .cell (some (.ref S)) := d1
  clear d1 Y
  refine st_lo (lo_all [] [0, 1, 2] [] (by decide)) ?_
  refine st_gen fun m0 => ?_
  refine st_comp (ci_range (k := 3) (fun i ys σ' => ∃ (c' : Sc) (gs : List Led) (ps : List Pt), σ' = ⟨m0, [], [(L + 1, x1), (S, c'.s R), (R, c'.r)], gs, rest⟩ ∧ c'.ok ∧ All2 (PtIn gs.flatten) ys ps ∧ ps.length = i ∧ ∀ p ∈ ps, PtN p) (by walk_at "EV") (by walk_at "EI") rfl (by decide) ⟨c, _, [], rfl, hc, trivial, rfl, fun _ h => (nomatch h)⟩ ⟨?m1, fun _ _ _ _ => trivial, ?turn1⟩ ?fin1 rfl rfl) rfl (by decide) rfl (by decide) rfl (fun _ => rfl) rfl rfl rfl
  case m1 => rintro _ _ _ ⟨_, _, _, rfl, _⟩; rfl
  case turn1 =>
    rintro i v ys σ I oI C oC D m₂ hi ⟨t1, rfl⟩ ⟨c2, gs, ps, rfl, hc2, hys, hl, hB⟩ hC hx
    refine eg_tuple (el_cons (eg_subG ?_) rfl)
    walk_at "EG"
    repeat' (walk_at "EL")
    refine ek_take (c := c2) (i := 4) (j := 5) rfl rfl (by decide) hc2 (by decide) (by decide) rfl (by decide) (by decide) ?_
    intro a ta c3 a0 a1 hc3
    refine ⟨a, ta, 90, rfl, by walk_at "EI", fun ua => el_cons (eg_subG ?_) rfl⟩
    walk_at "EG"
    repeat' (walk_at "EL")
    refine ek_take (c := c3) (i := 4) (j := 5) rfl rfl (by decide) hc3 (by decide) (by decide) rfl (by decide) (by decide) ?_
    intro b tb c4 b0 b1 hc4
    refine ⟨b, tb, 90, rfl, by walk_at "EI", fun ub => el_nil ⟨Nat.le_of_ble_eq_true rfl, fun T => ⟨_, Lo.rfl, c4, [_] :: gs, ps ++ [(a - 90, b - 90)], rfl, hc4, ?_, ?_, ?_⟩⟩⟩
    · exact All2.append (All2.mono (fun _ _ h => h.mono fun x hx => .tail _ hx) hys) ⟨⟨T, ua, ub, 0, rfl, .head _⟩, trivial⟩
    · rw [List.length_append, hl]; rfl
    · intro p hp
      rcases List.mem_append.mp hp with hp | hp
      · exact hB p hp
      · rw [List.mem_singleton.mp hp]; exact ⟨by constructor <;> dsimp only <;> omega, by constructor <;> dsimp only <;> omega⟩
  case fin1 =>
    rintro ys σ' ⟨c2, gs, ps, rfl, hc2, hys, hl, hB⟩
    obtain ⟨p1, p2, p3, rfl⟩ := three_of hl
    obtain ⟨v1, v2, v3, rfl⟩ := three_of (hys.length.trans hl)
    refine ⟨rfl, fun Dn => ?_⟩
    clear hl hc
    refine st_lo (σ' := ⟨_, [(Str.ofString "numbers", .ref Dn)], [(L + 1, x1), (S, c2.s R), (R, c2.r)], [(Dn, LCg.lst [v1, v2, v3])] :: gs, rest⟩) (lo_all ["numbers"] [1, 2, 3] [0] (by decide)) ?_
    refine st_gen fun m2 => ?_
    refine st_swap2n (el_cons ?_ rfl) rfl rfl
    walk_at "EG"
    refine el_cons (eg_callF0 (by walk_at "EV") (by k_is) (ek_con ident_con rfl (by decide) (by decide) ?_) rfl) rfl
    rintro v tl ⟨M, d, om, rfl, mM, mdm, hM⟩
    repeat' (walk_at "EL")
    refine ek_make (dd := 3) (uu := 30) (Ret := fun dx nw mu' tl r => r = .none ∧ ∃ od q Cn Sp, nw = [(Cn, lsO [] 0)] ∧ mu' = [(dx, od)] ∧ tl = [(Sp, lsO [] 0)] ∧ HasA 9 od (flL M Cn Sp q .none .none)) (by k_is) (by k_is) (by k_is) (fun x dx h1 h2 => fl_init h1 h2) rfl (by decide) (by decide) ?_
    rintro Fa dF nw mu' tl1 r e ⟨rfl, od, q, Cn, Sp, rfl, rfl, rfl, hA⟩
    refine ⟨rfl, ?_⟩
    refine el_cons (eg_list (el_nil ⟨Nat.zero_le _, fun P => el_nil ⟨_, _, rfl, en_l rfl rfl (en_l rfl rfl ?_)⟩⟩)) rfl
    refine st_lo (σ' := ⟨_, [(Str.ofString "flattener", .ref Fa), (Str.ofString "points", .ref P), (Str.ofString "numbers", .ref Dn)], [(P, lsO [] 0), (Cn, lsO [] 0), (dF, od), (S, c2.s R), (R, c2.r)], [] :: [(Sp, lsO [] 0), (Fa, instObj 226 dF)] :: tl :: [(Dn, LCg.lst [v1, v2, v3])] :: gs, rest⟩) (lo_all ["flattener", "points", "numbers"] [0, 1, 2, 4, 5] [] (by decide)) ?_
    refine st_gen fun m3 => ?_
    obtain ⟨H, hH⟩ : ∃ H, H = [] :: [(Sp, lsO [] 0), (Fa, instObj 226 dF)] :: tl :: [(Dn, LCg.lst [v1, v2, v3])] :: gs := ⟨_, rfl⟩
    rw [← hH]
    obtain ⟨H', hH'⟩ : ∃ H', H' = H.flatten ++ rest := ⟨_, rfl⟩
    have mS : (Sp, lsO [] 0) ∈ H' := by rw [hH', hH]; exact .head _
    have mF : (Fa, instObj 226 dF) ∈ H' := by rw [hH', hH]; exact .tail _ (.head _)
    have ut : ∀ x ∈ tl, x ∈ H' := fun x hx => by
      rw [hH', hH]
      refine .tail _ (.tail _ ?_)
      show x ∈ (tl ++ _) ++ rest
      exact List.mem_append_left _ (List.mem_append_left _ hx)
    have uN : ∀ x ∈ (Dn, LCg.lst [v1, v2, v3]) :: gs.flatten, x ∈ H' := fun x hx => by
      rw [hH', hH]
      refine .tail _ (.tail _ ?_)
      show x ∈ (tl ++ ((Dn, LCg.lst [v1, v2, v3]) :: gs.flatten)) ++ rest
      exact List.mem_append_left _ (List.mem_append_right _ hx)
    replace mM := ut _ mM
    replace mdm := ut _ mdm
    have mN := uN _ (.head _)
    replace hys := All2.mono (fun _ _ h => h.mono fun x hx => uN x (.tail _ hx)) hys
    have upH : ∀ (og : List Led) x, x ∈ H' → x ∈ (og ++ H).flatten ++ rest := fun og x hx => by
      rw [List.flatten_append, List.append_assoc]; exact List.mem_append_right _ (hH' ▸ hx)
    clear hH hH' ut uN
    refine st_for (eg_pv (by walk_at "EV") ⟨Dn, [v1, v2, v3], 3, "list", fun r σ => ∃ m pv pq qs np og, σ = ⟨m, [(Str.ofString "flattener", .ref Fa), (Str.ofString "points", .ref P), (Str.ofString "numbers", .ref Dn)], [(P, lsO pv np), (Cn, lsO [] 0), (dF, od), (S, c2.s R), (R, c2.r)], og ++ H, rest⟩ ∧ All2 (fun v (n : Pt) => VP og.flatten v n.1 n.2) pv pq ∧ All2 (PtIn H') r qs ∧ pq ++ qs = [p1, p2, p3], rfl, .inl rfl, ⟨m3, [], [], _, 0, [], rfl, trivial, hys, rfl⟩, ?keep, ?turn, ?fin⟩) (fun _ => rfl)
    case keep => rintro r σ ⟨m, pv, pq, qs, np, og, rfl, -⟩; exact At.fl (upH og _ mN)
    case turn =>
      rintro I oI v r σ ⟨m, pv, pq, qs, np, og, rfl, hp, hv, e⟩
      rcases qs with _ | ⟨q', qs⟩
      · exact hv.elim
      obtain ⟨⟨aq, tq, uq, nq, rfl, mq⟩, hv⟩ := hv
      have hq : PtN q' := hB q' (e ▸ List.mem_append_right _ (.head _))
      have mq' := upH og _ mq
      have hpl : pv.length ≤ 3 := by
        have := congrArg List.length e
        rw [List.length_append, ← hp.length] at this
        simp only [List.length_cons, List.length_nil] at this
        omega
      refine en_l rfl rfl ?_
      refine st_append (by walk_at "EV") (At.mu 1 rfl) ?_ rfl rfl rfl rfl
      walk_at "EG"
      refine el_cons ?_ rfl
      walk_at "EG"
      repeat' (walk_at "EL")
      refine ek_con (lawfr_con hq.1) rfl (by decide) (by decide) ?_
      rintro r1 tl1 ⟨z1, z2, w1, a1, t1, u1, k1, rfl, rfl⟩
      have mq2 : (aq, tp q'.1 q'.2 tq uq nq) ∈ ([(a1, tp z1 z2 t1 u1 k1)] ++ (og ++ H).flatten) ++ rest := .tail _ mq'
      refine el_cons ?_ rfl
      walk_at "EG"
      repeat' (walk_at "EL")
      refine ek_con (lawfr_con hq.2) rfl (by decide) (by decide) ?_
      rintro r2 tl2 ⟨z3, z4, w2, a2, t2, u2, k2, rfl, rfl⟩
      refine el_nil ⟨Nat.le_of_ble_eq_true rfl, fun T => ⟨1, pv, np, rfl, sz (by omega), ?_⟩⟩
      refine st_next ⟨⟨_, [(Str.ofString "flattener", .ref Fa), (Str.ofString "points", .ref P), (Str.ofString "numbers", .ref Dn)], [(P, lsO (pv ++ [Value.ref T]) (np + 1)), (Cn, lsO [] 0), (dF, od), (S, c2.s R), (R, c2.r)], [] :: [(T, tuO [.ref a1, .ref a2] 0)] :: [(a2, tp z3 z4 t2 u2 k2)] :: [(a1, tp z1 z2 t1 u1 k1)] :: (og ++ H), rest⟩, lo_all ["flattener", "points", "numbers"] [0, 1, 2, 3, 4, 5] [] (by decide), _, _, pq ++ [q'], qs, np + 1, [] :: [_] :: [_] :: [_] :: og, rfl, ?_, hv, by rw [List.append_assoc]; exact e⟩
      exact All2.append (All2.mono (fun _ _ h => h.mono fun x hx => .tail _ (.tail _ (.tail _ hx))) hp) ⟨⟨T, a1, a2, 0, z1, z2, z3, z4, rfl, .head _, ⟨_, _, _, .tail _ (.tail _ (.head _))⟩, ⟨_, _, _, .tail _ (.head _)⟩, w1, w2⟩, trivial⟩
    case fin =>
      rintro σ ⟨m, pv, pq, qs, np, og, rfl, hp, hv, e⟩
      rcases qs with _ | ⟨q', qs⟩
      · rw [List.append_nil] at e
        subst e
        obtain ⟨w1, w2, w3, rfl⟩ := three_of hp.length
        have uo : ∀ x ∈ og.flatten, x ∈ (og ++ H).flatten ++ rest := fun x hx => by rw [List.flatten_append, List.append_assoc]; exact List.mem_append_left _ hx
        exact cont_2 (by k_is) hc2 hB (upH og _ mF) hA (by decide) (upH og _ mM) (upH og _ mdm) hM (upH og _ mS) (hp.1.mono uo) (hp.2.1.mono uo) (hp.2.2.1.mono uo) (upH og _ mN) (All2.mono (fun _ _ h => h.mono (upH og)) hys)
      · exact hv.elim
end
end
section
theorem calm_T_law : True := by
  w_top off
  trivial
section
variable {w : World} {mean : ExcName → Option Value} {mg mb : Str → Option Value} {f : Addr} {mu0 ba : Led} {vs : List Value} {dd uu : Nat} {Ret : Led → Led → Value → Prop}
    {dp un : Nat} {gd : Option (List Code)} {cn : Str} {cs : Scope} {a : Addr} {ccd : Value} {cl : List (Str × Addr)} {outer : List Env} {A₀ : Around} {base h₀ : Heap} {L : Addr} {m : Str → Option Value} {s : Shared} {Q E : Value → Shared → Prop}
theorem dist_two {S R : Addr} {o oR : Obj} (h : S ≠ R) : Dist [(S, o), (R, oR)] [] := ⟨fun q hq => by rw [List.mem_singleton.mp hq]; exact h, fun _ h => (nomatch h), fun _ h => (nomatch h), fun _ h => (nomatch h), trivial⟩
theorem ok_of {v0 v1 : Int} {t0 t1 : Tok} {n nR : Nat} {row : List Value} (h1 : 0 ≤ v1) (h2 : v1 < 2147483647) (h3 : IntRow row) : Sc.ok ⟨v0, v1, t0, t1, n, row, nR⟩ := ⟨h1, h2, h3⟩
theorem conU_use (C : ConU w f mu0 ba vs dd uu Ret) (B : Below A₀ base outer h₀) (F : Fr h₀ L s.heap m) (X : (hd.heap_39 w.params).In h₀) (N : News h₀ L s.heap (mu0 ++ ba)) (T : Top hd.view_39 (looseW hd.view_39 [Str.ofString "fraction"]) mean mg mb h₀) (hk : cs.kind = .function) (h1 : dp + dd < recursionLimit) (h2 : un + uu < cLine)
    (hret : ∀ r mu' tl h' tk', Fr h₀ L h' m → News h₀ L h' (mu' ++ (tl ++ ba)) → Ret mu' tl r → Q r { s with heap := h', toks := tk' }) :
    wpAny (model Challenge.rw_pf0204_01.row.prog w) (ktrTop dp un gd cn cs L a ccd cl outer) (call (.ref f) vs) Q E s :=
  wpAny_call (C _ _ _ _ _ _ _ _ _ _ _ _ _ _ _ _ _ _ _ B F X N T hk h1 h2 fun r nw mu' tl h' tk' F' N' _ _ _ _ hr => by
    obtain ⟨rfl, hr⟩ := hr
    exact hret r mu' tl h' tk' F' N' hr)
end
theorem no_raise {l : List Int} (h : decide (l = []) = false) (h2 : 0 < -(l.length : Int) ∨ (l.length : Int) ≤ 0) : False := by
  rcases l with _ | ⟨a, l⟩
  · simp at h
  · simp only [List.length_cons] at h2
    omega
theorem two_in {S R : Addr} {o oR : Obj} {all : Led} (h : (S, o) ∈ all) (h' : (R, oR) ∈ all) : ∀ p ∈ (S, o) :: (R, oR) :: ([] : Led), p ∈ all := by
  intro p hp
  simp only [List.mem_cons, List.not_mem_nil, or_false] at hp
  rcases hp with rfl | rfl <;> assumption
theorem row_nil : IntRow [] := ⟨(fun _ h => nomatch h), Nat.zero_le _⟩
theorem row_ints {vs : List Value} (h : ∀ v ∈ vs, ∃ i t, v = Value.int i t) (hl : vs.length ≤ 20) : IntRow vs := ⟨h, hl⟩
theorem look_names : namesOk hd.view_39 (looseW hd.view_39 [Str.ofString "fraction"]) (namesW hd.view_39 [Str.ofString "fraction"]) = true := by
  rw [Fast.te17448422675489707002, Fast.te821141287760084731]
  kernel_rfl
theorem look_imp : importsNone hd.view_39 = true := by
  rw [Fast.te2458874890965802552]
  kernel_rfl
local macro_rules | `(tactic| k_qdec) => `(tactic| first | exact look_names | exact look_imp)
theorem law_holds : PySem.Challenge.rw_pf0204_01.Holds := hd.head (by rfl) (by rfl) (by rfl) (by
  k_go0
  all_goals (try k_fold)
  (repeat' (first | (k_unfold; (try dsimp only)) | (k_end; wrow_close) | ((fail_if_success (with_reducible show wpAny _ _ (call (Value.ref 345) _) _ _ _)); first | walk1 | (dsimp only; walk1)) | (leave1; walk_say "STEP leave1"; try dsimp only) | fail "no step"))
  all_goals first
    | exact (no_raise (by assumption) (by assumption)).elim
    | skip
  all_goals (
    (rename Fr _ _ _ _ => lF); (rename News _ _ _ _ => lN)
    refine conU_use (right_con (rest := []) ⟨_, _, _, _, _, _, _⟩ (ok_of ?v1 ?v2 ?row) ?ne (fun _ h => nomatch h) (fun _ h => nomatch h)) (by k_asm) lF (by k_asm) (con_drop lN (two_in (List.Mem.head _) (by k_mem))) (by k_asm) rfl (by ktr_room) (by ktr_units) ?_
    case v1 => first | exact Int.fmod_nonneg_of_pos _ (by decide) | decide
    case v2 => first | exact Int.fmod_lt_of_pos _ (by decide) | decide
    case ne => k_ne
    case row => first
      | exact row_nil
      | (refine row_ints ?_ (Nat.le_of_ble_eq_true rfl); simp only [List.forall_mem_cons]; and_intros <;> first | exact List.forall_mem_nil _ | exact ⟨_, _, rfl⟩)
    clear lF lN
    rintro r nw tl5 h5 tk5 F5 N5 ⟨rfl, rfl, c1, b1, rfl⟩
    (repeat' (first | (k_unfold; (try dsimp only)) | (k_end; wrow_close) | ((fail_if_success (with_reducible show wpAny _ _ (call (Value.ref 364) _) _ _ _)); first | walk1 | (dsimp only; walk1)) | (leave1; walk_say "STEP leave1"; try dsimp only) | fail "no step"))
    (rename Fr _ _ _ _ => lF); (rename News _ _ _ _ => lN)
    refine conU_use (contour_con (rest := []) c1 b1 (dist_two ?ne)) (by k_asm) lF (by k_asm) lN (by k_asm) rfl (by ktr_room) (by ktr_units) ?_
    case ne => k_ne
    clear lF lN
    rintro r nw tl5 h5 tk5 F5 N5 ⟨rfl, rfl, c1, b1, rfl⟩
    k_steps)
  all_goals trace_state)
end
end
end Fl
end
open PySem PySem.W PyProof.Rows
theorem PySem.Challenge.cw_pf0204_01_holds : PySem.Challenge.rw_pf0204_01.Holds := by
  exact Fl.law_holds
