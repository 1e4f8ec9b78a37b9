import PyProof.Rows.All
import Wide.All
import OpenK.AllK
import Wide.FinOn
import PySem.Challenge.RW_pb0448_01
open PySem PySem.W PyProof.Rows
set_option Elab.async false
set_option maxRecDepth 100000
set_option maxHeartbeats 8000000
set_option rowWalk.seconds 0
set_option compiler.extract_closed false
set_option linter.all false
namespace hd
set_option linter.unusedVariables false
noncomputable def nth : List Stmt → Nat → Stmt
  | [], _ => .Pass ⟨0, 0, 0, 0⟩
  | a :: _, 0 => a
  | _ :: l, n + 1 => nth l n
noncomputable def fnArgs : Stmt → Arguments
  | .FunctionDef _ a _ _ _ _ _ _ _ _ => a
  | _ => ⟨[], [], none, [], [], none, []⟩
noncomputable def fnBody : Stmt → List Stmt
  | .FunctionDef _ _ b _ _ _ _ _ _ _ => b
  | _ => []
noncomputable def fnScope : Stmt → Scope
  | .FunctionDef _ _ _ _ _ _ s _ _ _ => s
  | _ => ⟨.function, [], false, false, []⟩
noncomputable def clsBody : Stmt → List Stmt
  | .ClassDef _ _ _ b _ _ _ _ _ _ _ => b
  | _ => []

noncomputable abbrev prog : Program := PySem.Challenge.rw_pb0448_01.row.toRowW.1
noncomputable def sx (s : String) : PySem.Str := Str.ofString s
noncomputable def vs (s : String) (n : Nat) : Value := Value.str (Str.ofString s) n
noncomputable def vr (n : Nat) : Value := Value.ref n
noncomputable def vi (n : Int) : Value := Value.int n (0 : Nat)
noncomputable def vt (s : String) : Value := Value.type s
noncomputable def vb (s : String) : Value := Value.builtin s
noncomputable def de (P : Params) (s : String) (n : Nat) (v : Value) : DictEntry := DictEntry.mk (PyData.keyHash P (Str.ofString s)) (Value.str (Str.ofString s) n) v
noncomputable def nN : Option Nat := @none Nat
noncomputable def nC : List (PySem.Str × Nat) := @List.nil (PySem.Str × Nat)
noncomputable def n0 : Array (Option Value) := List.toArray []
noncomputable def tu (l : List Value) : Obj := Obj.mk (Value.type "tuple") nN (Data.seq (List.toArray l) 0) (List.toArray [])
noncomputable def fi (l : List Value) : Obj := Obj.mk Value.none nN (Data.fields (List.toArray l)) (List.toArray [])
noncomputable def ft (s : String) (l : List Value) : Obj := Obj.mk (Value.type s) nN (Data.fields (List.toArray l)) (List.toArray [])
noncomputable def c0 : Stmt := by
  refine (?f : (K : Stmt) → (L : List Stmt) → prog.main.body.drop 0 = K :: L → Stmt) ?K ?L ?h
  case f => exact fun K _ _ => K
  case h => exact rfl
noncomputable def c1 : Stmt := by
  refine (?f : (K : Stmt) → (L : List Stmt) → prog.main.body.drop 1 = K :: L → Stmt) ?K ?L ?h
  case f => exact fun K _ _ => K
  case h => exact rfl
noncomputable def c2 : Stmt := by
  refine (?f : (K : Stmt) → (L : List Stmt) → prog.main.body.drop 2 = K :: L → Stmt) ?K ?L ?h
  case f => exact fun K _ _ => K
  case h => exact rfl
noncomputable def c3 : Stmt := by
  refine (?f : (K : Stmt) → (L : List Stmt) → prog.main.body.drop 3 = K :: L → Stmt) ?K ?L ?h
  case f => exact fun K _ _ => K
  case h => exact rfl
noncomputable def c4 : Stmt := by
  refine (?f : (K : Stmt) → (L : List Stmt) → prog.main.body.drop 4 = K :: L → Stmt) ?K ?L ?h
  case f => exact fun K _ _ => K
  case h => exact rfl
noncomputable def c5 : Stmt := by
  refine (?f : (K : Stmt) → (L : List Stmt) → prog.main.body.drop 5 = K :: L → Stmt) ?K ?L ?h
  case f => exact fun K _ _ => K
  case h => exact rfl
noncomputable def c6 : Stmt := by
  refine (?f : (K : Stmt) → (L : List Stmt) → prog.main.body.drop 6 = K :: L → Stmt) ?K ?L ?h
  case f => exact fun K _ _ => K
  case h => exact rfl
noncomputable def c7 : Stmt := by
  refine (?f : (K : Stmt) → (L : List Stmt) → prog.main.body.drop 7 = K :: L → Stmt) ?K ?L ?h
  case f => exact fun K _ _ => K
  case h => exact rfl
noncomputable def c8 : Stmt := by
  refine (?f : (K : Stmt) → (L : List Stmt) → prog.main.body.drop 8 = K :: L → Stmt) ?K ?L ?h
  case f => exact fun K _ _ => K
  case h => exact rfl
noncomputable def c9 : Stmt := by
  refine (?f : (K : Stmt) → (L : List Stmt) → prog.main.body.drop 9 = K :: L → Stmt) ?K ?L ?h
  case f => exact fun K _ _ => K
  case h => exact rfl
noncomputable def c10 : Stmt := by
  refine (?f : (K : Stmt) → (L : List Stmt) → prog.main.body.drop 10 = K :: L → Stmt) ?K ?L ?h
  case f => exact fun K _ _ => K
  case h => exact rfl
noncomputable def c11 : Stmt := by
  refine (?f : (K : Stmt) → (L : List Stmt) → prog.main.body.drop 11 = K :: L → Stmt) ?K ?L ?h
  case f => exact fun K _ _ => K
  case h => exact rfl
noncomputable def c12 : Stmt := by
  refine (?f : (K : Stmt) → (L : List Stmt) → prog.main.body.drop 12 = K :: L → Stmt) ?K ?L ?h
  case f => exact fun K _ _ => K
  case h => exact rfl
noncomputable def c13 : Stmt := by
  refine (?f : (K : Stmt) → (L : List Stmt) → prog.main.body.drop 13 = K :: L → Stmt) ?K ?L ?h
  case f => exact fun K _ _ => K
  case h => exact rfl
noncomputable def c14 : Stmt := by
  refine (?f : (K : Stmt) → (L : List Stmt) → prog.main.body.drop 14 = K :: L → Stmt) ?K ?L ?h
  case f => exact fun K _ _ => K
  case h => exact rfl
noncomputable def c15 : Stmt := by
  refine (?f : (K : Stmt) → (L : List Stmt) → prog.main.body.drop 15 = K :: L → Stmt) ?K ?L ?h
  case f => exact fun K _ _ => K
  case h => exact rfl
noncomputable def c16 : Stmt := by
  refine (?f : (K : Stmt) → (L : List Stmt) → prog.main.body.drop 16 = K :: L → Stmt) ?K ?L ?h
  case f => exact fun K _ _ => K
  case h => exact rfl
noncomputable def c17 : Stmt := by
  refine (?f : (K : Stmt) → (L : List Stmt) → prog.main.body.drop 17 = K :: L → Stmt) ?K ?L ?h
  case f => exact fun K _ _ => K
  case h => exact rfl
noncomputable def c18 : Stmt := by
  refine (?f : (K : Stmt) → (L : List Stmt) → prog.main.body.drop 18 = K :: L → Stmt) ?K ?L ?h
  case f => exact fun K _ _ => K
  case h => exact rfl
noncomputable def c19 : Stmt := by
  refine (?f : (K : Stmt) → (L : List Stmt) → prog.main.body.drop 19 = K :: L → Stmt) ?K ?L ?h
  case f => exact fun K _ _ => K
  case h => exact rfl
noncomputable def c20 : Stmt := by
  refine (?f : (K : Stmt) → (L : List Stmt) → prog.main.body.drop 20 = K :: L → Stmt) ?K ?L ?h
  case f => exact fun K _ _ => K
  case h => exact rfl
noncomputable def c21 : Stmt := by
  refine (?f : (K : Stmt) → (L : List Stmt) → prog.main.body.drop 21 = K :: L → Stmt) ?K ?L ?h
  case f => exact fun K _ _ => K
  case h => exact rfl
noncomputable def c22 : Stmt := by
  refine (?f : (K : Stmt) → (L : List Stmt) → prog.main.body.drop 22 = K :: L → Stmt) ?K ?L ?h
  case f => exact fun K _ _ => K
  case h => exact rfl
noncomputable def c23 : Stmt := by
  refine (?f : (K : Stmt) → (L : List Stmt) → prog.main.body.drop 23 = K :: L → Stmt) ?K ?L ?h
  case f => exact fun K _ _ => K
  case h => exact rfl
noncomputable def c24 : Stmt := by
  refine (?f : (K : Stmt) → (L : List Stmt) → prog.main.body.drop 24 = K :: L → Stmt) ?K ?L ?h
  case f => exact fun K _ _ => K
  case h => exact rfl
noncomputable def c25 : Stmt := by
  refine (?f : (K : Stmt) → (L : List Stmt) → prog.main.body.drop 25 = K :: L → Stmt) ?K ?L ?h
  case f => exact fun K _ _ => K
  case h => exact rfl
noncomputable def c26 : Stmt := by
  refine (?f : (K : Stmt) → (L : List Stmt) → prog.main.body.drop 26 = K :: L → Stmt) ?K ?L ?h
  case f => exact fun K _ _ => K
  case h => exact rfl
noncomputable def c27 : Stmt := by
  refine (?f : (K : Stmt) → (L : List Stmt) → prog.main.body.drop 27 = K :: L → Stmt) ?K ?L ?h
  case f => exact fun K _ _ => K
  case h => exact rfl
noncomputable def c28 : Stmt := by
  refine (?f : (K : Stmt) → (L : List Stmt) → prog.main.body.drop 28 = K :: L → Stmt) ?K ?L ?h
  case f => exact fun K _ _ => K
  case h => exact rfl
noncomputable def c29 : Stmt := by
  refine (?f : (K : Stmt) → (L : List Stmt) → prog.main.body.drop 29 = K :: L → Stmt) ?K ?L ?h
  case f => exact fun K _ _ => K
  case h => exact rfl
noncomputable def c30 : Stmt := by
  refine (?f : (K : Stmt) → (L : List Stmt) → prog.main.body.drop 30 = K :: L → Stmt) ?K ?L ?h
  case f => exact fun K _ _ => K
  case h => exact rfl
noncomputable def c31 : Stmt := by
  refine (?f : (K : Stmt) → (L : List Stmt) → prog.main.body.drop 31 = K :: L → Stmt) ?K ?L ?h
  case f => exact fun K _ _ => K
  case h => exact rfl
noncomputable def c32 : Stmt := by
  refine (?f : (K : Stmt) → (L : List Stmt) → prog.main.body.drop 32 = K :: L → Stmt) ?K ?L ?h
  case f => exact fun K _ _ => K
  case h => exact rfl
noncomputable def c33 : Stmt := by
  refine (?f : (K : Stmt) → (L : List Stmt) → prog.main.body.drop 33 = K :: L → Stmt) ?K ?L ?h
  case f => exact fun K _ _ => K
  case h => exact rfl
noncomputable def c34 : Stmt := by
  refine (?f : (K : Stmt) → (L : List Stmt) → prog.main.body.drop 34 = K :: L → Stmt) ?K ?L ?h
  case f => exact fun K _ _ => K
  case h => exact rfl
noncomputable def c35 : Stmt := by
  refine (?f : (K : Stmt) → (L : List Stmt) → prog.main.body.drop 35 = K :: L → Stmt) ?K ?L ?h
  case f => exact fun K _ _ => K
  case h => exact rfl
noncomputable def c36 : Stmt := by
  refine (?f : (K : Stmt) → (L : List Stmt) → prog.main.body.drop 36 = K :: L → Stmt) ?K ?L ?h
  case f => exact fun K _ _ => K
  case h => exact rfl
noncomputable def o43 (P : Params) : Obj := tu []
noncomputable def o44 (P : Params) : Obj := fi []
noncomputable def o45 (P : Params) : Obj := ft "code" [(vs "<module>" 182), (vs "<module>" 183), (vs "/claim/cut.py" 184), (vi 1), (vi 0), (vi 0), (vi 0), (vi 0), (vr 11), (Value.bool Bool.false), (vi 181), (vr 12), Value.none, Value.none, Value.none, Value.none, (vi 185), (vi 1), (vs "/claim/cut.py" 186)]
noncomputable def o46 (P : Params) : Obj := (Obj.mk (vt "frame") nN Data.plain (List.toArray [(some (vr 13)), (some (vr 3)), (some (vr 3)), none, (some (vs "__main__" 164)), none, (some (vr 0))]))
noncomputable def o49 (P : Params) : Obj := (Obj.mk Value.none nN (Data.dict (List.toArray [(de P "type.__subclasses__.Exception.0" 221 (vi 38)), (de P "type.__subclasses__.Exception.n" 222 (vi 1))]) (2 : Nat)) n0)
noncomputable def o50 (P : Params) : Obj := (Obj.mk (vt "dict") nN (Data.dict (List.toArray [(de P "__name__" 165 (vs "pagebase.errors" 194)), (de P "__doc__" 166 Value.none), (de P "__package__" 167 Value.none), (de P "__loader__" 168 (vb "__main__.__loader__#opaque")), (de P "__spec__" 169 Value.none), (de P "__annotations__" 170 (vr 6)), (de P "__builtins__" 171 (vr 4)), (de P "__file__" 173 (vs "/claim/cut.py" 172)), (de P "__cached__" 174 Value.none), (de P "_wall" 193 (vr 21)), (de P "PagebaseError" 224 (vr 38))]) (11 : Nat)) n0)
noncomputable def o51 (P : Params) : Obj := fi [(vi 1), (vi 0), (vr 20), (vi 5), (vi 0), (vr 27)]
noncomputable def o52 (P : Params) : Obj := tu []
noncomputable def o53 (P : Params) : Obj := fi []
noncomputable def o54 (P : Params) : Obj := tu [(vs "k" 190)]
noncomputable def o55 (P : Params) : Obj := tu []
noncomputable def o56 (P : Params) : Obj := (Obj.mk Value.none nN (Data.func (FuncData.mk (sx "_wall") (sx "_wall") (fnArgs c0) (FuncBody.stmts (fnBody c0)) (fnScope c0) (0 : Nat) nC Value.none Value.none Value.none Value.none nN Value.none Value.none (0 : Nat))) n0)
noncomputable def o57 (P : Params) : Obj := ft "code" [(vs "_wall" 187), (vs "_wall" 188), (vs "/claim/cut.py" 189), (vi 1), (vi 1), (vi 0), (vi 0), (vi 3), (vr 15), (Value.bool Bool.true), (vi 181), (vr 16), Value.none, (vr 17), (vr 18), (vr 19), (vi 191), (vi 1), (vs "/claim/cut.py" 192)]
noncomputable def o58 (P : Params) : Obj := (Obj.mk (vt "function") nN (Data.func (FuncData.mk (sx "_wall") (sx "_wall") (fnArgs c0) (FuncBody.stmts (fnBody c0)) (fnScope c0) (3 : Nat) nC Value.none Value.none Value.none (vs "__main__" 164) nN (vr 20) Value.none (0 : Nat))) n0)
noncomputable def o59 (P : Params) : Obj := tu [(vt "Exception")]
noncomputable def o60 (P : Params) : Obj := ft "builtin_function_or_method" [(vb "type.__prepare__"), (vt "type")]
noncomputable def o61 (P : Params) : Obj := (Obj.mk (vt "dict") nN (Data.dict (List.toArray [(de P "__module__" 203 (vs "pagebase.errors" 194)), (de P "__qualname__" 205 (vs "PagebaseError" 204)), (de P "__firstlineno__" 207 (Value.int 5 (206 : Nat))), (de P "__init__" 215 (vr 35)), (de P "__static_attributes__" 217 (vr 36))]) (5 : Nat)) n0)
noncomputable def o62 (P : Params) : Obj := tu []
noncomputable def o63 (P : Params) : Obj := fi [(vi 7), (vi 4), (vr 34)]
noncomputable def o64 (P : Params) : Obj := ft "code" [(vs "PagebaseError" 198), (vs "PagebaseError" 199), (vs "/claim/cut.py" 200), (vi 5), (vi 0), (vi 0), (vi 0), (vi 0), (vr 25), (Value.bool Bool.false), (vi 181), (vr 26), Value.none, Value.none, Value.none, Value.none, (vi 201), (vi 5), (vs "/claim/cut.py" 202)]
noncomputable def o65 (P : Params) : Obj := (Obj.mk (vt "frame") nN Data.plain (List.toArray [(some (vr 27)), (some (vr 3)), (some (vr 24)), none, (some (vs "pagebase.errors" 194)), none, (some (vr 0))]))
noncomputable def o66 (P : Params) : Obj := tu []
noncomputable def o67 (P : Params) : Obj := fi []
noncomputable def o68 (P : Params) : Obj := tu [(vs "self" 211), (vs "message" 212)]
noncomputable def o69 (P : Params) : Obj := tu []
noncomputable def o70 (P : Params) : Obj := (Obj.mk Value.none nN (Data.func (FuncData.mk (sx "__init__") (sx "PagebaseError.__init__") (fnArgs (nth (clsBody c2) 0)) (FuncBody.stmts (fnBody (nth (clsBody c2) 0))) (fnScope (nth (clsBody c2) 0)) (0 : Nat) nC Value.none Value.none Value.none Value.none nN Value.none Value.none (0 : Nat))) n0)
noncomputable def o71 (P : Params) : Obj := ft "code" [(vs "__init__" 208), (vs "PagebaseError.__init__" 209), (vs "/claim/cut.py" 210), (vi 7), (vi 2), (vi 0), (vi 0), (vi 3), (vr 29), (Value.bool Bool.true), (vi 181), (vr 30), Value.none, (vr 31), (vr 32), (vr 33), (vi 213), (vi 7), (vs "/claim/cut.py" 214)]
noncomputable def o72 (P : Params) : Obj := (Obj.mk (vt "function") nN (Data.func (FuncData.mk (sx "__init__") (sx "PagebaseError.__init__") (fnArgs (nth (clsBody c2) 0)) (FuncBody.stmts (fnBody (nth (clsBody c2) 0))) (fnScope (nth (clsBody c2) 0)) (3 : Nat) nC Value.none Value.none Value.none (vs "pagebase.errors" 194) nN (vr 34) Value.none (0 : Nat))) n0)
noncomputable def o73 (P : Params) : Obj := tu [(vs "message" 216)]
noncomputable def o74 (P : Params) : Obj := (Obj.mk (vt "dict") nN (Data.dict (List.toArray [(de P "__module__" 203 (vs "pagebase.errors" 194)), (de P "__firstlineno__" 207 (Value.int 5 (206 : Nat))), (de P "__init__" 215 (vr 35)), (de P "__static_attributes__" 217 (vr 36)), (de P "__weakref__" 219 (vr 39)), (de P "__doc__" 220 Value.none)]) (3 : Nat)) n0)
noncomputable def o75 (P : Params) : Obj := (Obj.mk (vt "type") nN (Data.cls (ClassData.mk (sx "PagebaseError") [(vt "Exception")] [(vr 38), (vt "Exception"), (vt "BaseException"), (vt "object")] (37 : Nat) (sx "PagebaseError") Bool.true [] [] Bool.false none Bool.false)) (List.toArray [(some (vr 22)), none, (some (vs "PagebaseError" 196)), (some (vs "PagebaseError" 204)), (some (vb "Exception.__new__")), (some (Value.bool Bool.true))]))
noncomputable def o76 (P : Params) : Obj := ft "getset_descriptor" [(vs "__weakref__" 218), (vr 38), (vb "ExceptionGroup.__weakref__"), Value.none]
noncomputable def o77 (P : Params) : Obj := ft "super" [(vr 38), (vr 38), (vr 38)]
noncomputable def o78 (P : Params) : Obj := ft "builtin_function_or_method" [(vb "object.__init_subclass__"), (vr 38)]
noncomputable def o79 (P : Params) : Obj := (Obj.mk (vt "dict") nN (Data.dict (List.toArray [(de P "__name__" 165 (vs "pagebase.errors" 194)), (de P "__doc__" 166 Value.none), (de P "__package__" 167 Value.none), (de P "__loader__" 168 (vb "__main__.__loader__#opaque")), (de P "__spec__" 169 Value.none), (de P "__annotations__" 170 (vr 6)), (de P "__builtins__" 171 (vr 4)), (de P "__file__" 173 (vs "/claim/cut.py" 172)), (de P "__cached__" 174 Value.none), (de P "_wall" 193 (vr 21)), (de P "PagebaseError" 224 (vr 38)), (de P "SqlError" 240 (vr 51))]) (12 : Nat)) n0)
noncomputable def o80 (P : Params) : Obj := fi [(vi 1), (vi 0), (vr 20), (vi 5), (vi 0), (vr 27), (vi 9), (vi 0), (vr 47)]
noncomputable def o81 (P : Params) : Obj := (Obj.mk (vt "type") nN (Data.cls (ClassData.mk (sx "PagebaseError") [(vt "Exception")] [(vr 38), (vt "Exception"), (vt "BaseException"), (vt "object")] (37 : Nat) (sx "PagebaseError") Bool.true [] [(vr 51)] Bool.false none Bool.false)) (List.toArray [(some (vr 22)), none, (some (vs "PagebaseError" 196)), (some (vs "PagebaseError" 204)), (some (vb "Exception.__new__")), (some (Value.bool Bool.true))]))
noncomputable def o82 (P : Params) : Obj := tu [(vr 38)]
noncomputable def o83 (P : Params) : Obj := ft "builtin_function_or_method" [(vb "type.__prepare__"), (vt "type")]
noncomputable def o84 (P : Params) : Obj := (Obj.mk (vt "dict") nN (Data.dict (List.toArray [(de P "__module__" 232 (vs "pagebase.errors" 194)), (de P "__qualname__" 234 (vs "SqlError" 233)), (de P "__firstlineno__" 236 (Value.int 9 (235 : Nat))), (de P "__static_attributes__" 237 (vr 49))]) (4 : Nat)) n0)
noncomputable def o85 (P : Params) : Obj := tu []
noncomputable def o86 (P : Params) : Obj := fi []
noncomputable def o87 (P : Params) : Obj := ft "code" [(vs "SqlError" 227), (vs "SqlError" 228), (vs "/claim/cut.py" 229), (vi 9), (vi 0), (vi 0), (vi 0), (vi 0), (vr 45), (Value.bool Bool.false), (vi 181), (vr 46), Value.none, Value.none, Value.none, Value.none, (vi 230), (vi 9), (vs "/claim/cut.py" 231)]
noncomputable def o88 (P : Params) : Obj := (Obj.mk (vt "frame") nN Data.plain (List.toArray [(some (vr 47)), (some (vr 3)), (some (vr 44)), none, (some (vs "pagebase.errors" 194)), none, (some (vr 0))]))
noncomputable def o89 (P : Params) : Obj := tu []
noncomputable def o90 (P : Params) : Obj := (Obj.mk (vt "dict") nN (Data.dict (List.toArray [(de P "__module__" 232 (vs "pagebase.errors" 194)), (de P "__firstlineno__" 236 (Value.int 9 (235 : Nat))), (de P "__static_attributes__" 237 (vr 49)), (de P "__doc__" 238 Value.none)]) (2 : Nat)) n0)
noncomputable def o91 (P : Params) : Obj := (Obj.mk (vt "type") nN (Data.cls (ClassData.mk (sx "SqlError") [(vr 38)] [(vr 51), (vr 38), (vt "Exception"), (vt "BaseException"), (vt "object")] (50 : Nat) (sx "SqlError") Bool.true [] [] Bool.false none Bool.false)) (List.toArray [(some (vr 42)), none, (some (vs "SqlError" 225)), (some (vs "SqlError" 233)), (some (vb "Exception.__new__")), (some (Value.bool Bool.true))]))
noncomputable def o92 (P : Params) : Obj := ft "super" [(vr 51), (vr 51), (vr 51)]
noncomputable def o93 (P : Params) : Obj := ft "builtin_function_or_method" [(vb "object.__init_subclass__"), (vr 51)]
noncomputable def o94 (P : Params) : Obj := (Obj.mk (vt "dict") nN (Data.dict (List.toArray [(de P "__name__" 165 (vs "pagebase.errors" 194)), (de P "__doc__" 166 Value.none), (de P "__package__" 167 Value.none), (de P "__loader__" 168 (vb "__main__.__loader__#opaque")), (de P "__spec__" 169 Value.none), (de P "__annotations__" 170 (vr 6)), (de P "__builtins__" 171 (vr 4)), (de P "__file__" 173 (vs "/claim/cut.py" 172)), (de P "__cached__" 174 Value.none), (de P "_wall" 193 (vr 21)), (de P "PagebaseError" 224 (vr 38)), (de P "SqlError" 240 (vr 51)), (de P "ParseError" 267 (vr 70))]) (13 : Nat)) n0)
noncomputable def o95 (P : Params) : Obj := fi [(vi 1), (vi 0), (vr 20), (vi 5), (vi 0), (vr 27), (vi 9), (vi 0), (vr 47), (vi 11), (vi 0), (vr 59)]
noncomputable def o96 (P : Params) : Obj := (Obj.mk (vt "type") nN (Data.cls (ClassData.mk (sx "SqlError") [(vr 38)] [(vr 51), (vr 38), (vt "Exception"), (vt "BaseException"), (vt "object")] (50 : Nat) (sx "SqlError") Bool.true [] [(vr 70)] Bool.false none Bool.false)) (List.toArray [(some (vr 42)), none, (some (vs "SqlError" 225)), (some (vs "SqlError" 233)), (some (vb "Exception.__new__")), (some (Value.bool Bool.true))]))
noncomputable def o97 (P : Params) : Obj := tu [(vr 51)]
noncomputable def o98 (P : Params) : Obj := ft "builtin_function_or_method" [(vb "type.__prepare__"), (vt "type")]
noncomputable def o99 (P : Params) : Obj := (Obj.mk (vt "dict") nN (Data.dict (List.toArray [(de P "__module__" 248 (vs "pagebase.errors" 194)), (de P "__qualname__" 250 (vs "ParseError" 249)), (de P "__firstlineno__" 252 (Value.int 11 (251 : Nat))), (de P "__init__" 261 (vr 67)), (de P "__static_attributes__" 264 (vr 68))]) (5 : Nat)) n0)
noncomputable def o100 (P : Params) : Obj := tu []
noncomputable def o101 (P : Params) : Obj := fi [(vi 13), (vi 4), (vr 66)]
noncomputable def o102 (P : Params) : Obj := ft "code" [(vs "ParseError" 243), (vs "ParseError" 244), (vs "/claim/cut.py" 245), (vi 11), (vi 0), (vi 0), (vi 0), (vi 0), (vr 57), (Value.bool Bool.false), (vi 181), (vr 58), Value.none, Value.none, Value.none, Value.none, (vi 246), (vi 11), (vs "/claim/cut.py" 247)]
noncomputable def o103 (P : Params) : Obj := (Obj.mk (vt "frame") nN Data.plain (List.toArray [(some (vr 59)), (some (vr 3)), (some (vr 56)), none, (some (vs "pagebase.errors" 194)), none, (some (vr 0))]))
noncomputable def o104 (P : Params) : Obj := tu []
noncomputable def o105 (P : Params) : Obj := fi []
noncomputable def o106 (P : Params) : Obj := tu [(vs "self" 256), (vs "message" 257), (vs "place" 258)]
noncomputable def o107 (P : Params) : Obj := tu []
noncomputable def o108 (P : Params) : Obj := (Obj.mk Value.none nN (Data.func (FuncData.mk (sx "__init__") (sx "ParseError.__init__") (fnArgs (nth (clsBody c4) 0)) (FuncBody.stmts (fnBody (nth (clsBody c4) 0))) (fnScope (nth (clsBody c4) 0)) (0 : Nat) nC Value.none Value.none Value.none Value.none nN Value.none Value.none (0 : Nat))) n0)
noncomputable def o109 (P : Params) : Obj := ft "code" [(vs "__init__" 253), (vs "ParseError.__init__" 254), (vs "/claim/cut.py" 255), (vi 13), (vi 3), (vi 0), (vi 0), (vi 3), (vr 61), (Value.bool Bool.true), (vi 181), (vr 62), Value.none, (vr 63), (vr 64), (vr 65), (vi 259), (vi 13), (vs "/claim/cut.py" 260)]
noncomputable def o110 (P : Params) : Obj := (Obj.mk (vt "function") nN (Data.func (FuncData.mk (sx "__init__") (sx "ParseError.__init__") (fnArgs (nth (clsBody c4) 0)) (FuncBody.stmts (fnBody (nth (clsBody c4) 0))) (fnScope (nth (clsBody c4) 0)) (3 : Nat) nC Value.none Value.none Value.none (vs "pagebase.errors" 194) nN (vr 66) Value.none (0 : Nat))) n0)
noncomputable def o111 (P : Params) : Obj := tu [(vs "message" 262), (vs "place" 263)]
noncomputable def o112 (P : Params) : Obj := (Obj.mk (vt "dict") nN (Data.dict (List.toArray [(de P "__module__" 248 (vs "pagebase.errors" 194)), (de P "__firstlineno__" 252 (Value.int 11 (251 : Nat))), (de P "__init__" 261 (vr 67)), (de P "__static_attributes__" 264 (vr 68)), (de P "__doc__" 265 Value.none)]) (2 : Nat)) n0)
noncomputable def o113 (P : Params) : Obj := (Obj.mk (vt "type") nN (Data.cls (ClassData.mk (sx "ParseError") [(vr 51)] [(vr 70), (vr 51), (vr 38), (vt "Exception"), (vt "BaseException"), (vt "object")] (69 : Nat) (sx "ParseError") Bool.true [] [] Bool.false none Bool.false)) (List.toArray [(some (vr 54)), none, (some (vs "ParseError" 241)), (some (vs "ParseError" 249)), (some (vb "Exception.__new__")), (some (Value.bool Bool.true))]))
noncomputable def o114 (P : Params) : Obj := ft "super" [(vr 70), (vr 70), (vr 70)]
noncomputable def o115 (P : Params) : Obj := ft "builtin_function_or_method" [(vb "object.__init_subclass__"), (vr 70)]
noncomputable def o116 (P : Params) : Obj := (Obj.mk (vt "dict") nN (Data.dict (List.toArray [(de P "__name__" 165 (vs "pagebase.words" 312)), (de P "__doc__" 166 Value.none), (de P "__package__" 167 Value.none), (de P "__loader__" 168 (vb "__main__.__loader__#opaque")), (de P "__spec__" 169 Value.none), (de P "__annotations__" 170 (vr 6)), (de P "__builtins__" 171 (vr 4)), (de P "__file__" 173 (vs "/claim/cut.py" 172)), (de P "__cached__" 174 Value.none), (de P "_wall" 193 (vr 21)), (de P "PagebaseError" 224 (vr 38)), (de P "SqlError" 240 (vr 51)), (de P "ParseError" 267 (vr 70)), (de P "MisuseError" 283 (vr 82)), (de P "HEX_DIGITS" 287 (vs "0123456789ABCDEF" 286)), (de P "hex_text" 296 (vr 91)), (de P "storage_class" 303 (vr 98)), (de P "write_literal" 311 (vr 105)), (de P "QUOTES" 315 (vs "'\"`[" 314)), (de P "BLANKS" 317 (vs " \t\n\x0d\x0c" 316)), (de P "FIGURES" 319 (vs "0123456789" 318)), (de P "HEX_FIGURES" 321 (vs "0123456789abcdefABCDEF" 320)), (de P "LETTERS" 323 (vs "abcdefghijklmnopqrstuvwxyzABCDEFGHIJKLMNOPQRSTUVWXYZ_" 322)), (de P "NAME_SIGNS" 327 (vs "abcdefghijklmnopqrstuvwxyzABCDEFGHIJKLMNOPQRSTUVWXYZ_0123456789$" 326))]) (24 : Nat)) n0)
noncomputable def o117 (P : Params) : Obj := fi [(vi 1), (vi 0), (vr 20), (vi 5), (vi 0), (vr 27), (vi 9), (vi 0), (vr 47), (vi 11), (vi 0), (vr 59), (vi 16), (vi 0), (vr 78), (vi 20), (vi 0), (vr 90), (vi 26), (vi 0), (vr 97), (vi 36), (vi 0), (vr 104)]
noncomputable def o118 (P : Params) : Obj := (Obj.mk (vt "type") nN (Data.cls (ClassData.mk (sx "PagebaseError") [(vt "Exception")] [(vr 38), (vt "Exception"), (vt "BaseException"), (vt "object")] (37 : Nat) (sx "PagebaseError") Bool.true [] [(vr 51), (vr 82)] Bool.false none Bool.false)) (List.toArray [(some (vr 22)), none, (some (vs "PagebaseError" 196)), (some (vs "PagebaseError" 204)), (some (vb "Exception.__new__")), (some (Value.bool Bool.true))]))
noncomputable def o119 (P : Params) : Obj := tu [(vr 38)]
noncomputable def o120 (P : Params) : Obj := ft "builtin_function_or_method" [(vb "type.__prepare__"), (vt "type")]
noncomputable def o121 (P : Params) : Obj := (Obj.mk (vt "dict") nN (Data.dict (List.toArray [(de P "__module__" 275 (vs "pagebase.errors" 194)), (de P "__qualname__" 277 (vs "MisuseError" 276)), (de P "__firstlineno__" 279 (Value.int 16 (278 : Nat))), (de P "__static_attributes__" 280 (vr 80))]) (4 : Nat)) n0)
noncomputable def o122 (P : Params) : Obj := tu []
noncomputable def o123 (P : Params) : Obj := fi []
noncomputable def o124 (P : Params) : Obj := ft "code" [(vs "MisuseError" 270), (vs "MisuseError" 271), (vs "/claim/cut.py" 272), (vi 16), (vi 0), (vi 0), (vi 0), (vi 0), (vr 76), (Value.bool Bool.false), (vi 181), (vr 77), Value.none, Value.none, Value.none, Value.none, (vi 273), (vi 16), (vs "/claim/cut.py" 274)]
noncomputable def o125 (P : Params) : Obj := (Obj.mk (vt "frame") nN Data.plain (List.toArray [(some (vr 78)), (some (vr 3)), (some (vr 75)), none, (some (vs "pagebase.errors" 194)), none, (some (vr 0))]))
noncomputable def o126 (P : Params) : Obj := tu []
noncomputable def o127 (P : Params) : Obj := (Obj.mk (vt "dict") nN (Data.dict (List.toArray [(de P "__module__" 275 (vs "pagebase.errors" 194)), (de P "__firstlineno__" 279 (Value.int 16 (278 : Nat))), (de P "__static_attributes__" 280 (vr 80)), (de P "__doc__" 281 Value.none)]) (2 : Nat)) n0)
noncomputable def o128 (P : Params) : Obj := (Obj.mk (vt "type") nN (Data.cls (ClassData.mk (sx "MisuseError") [(vr 38)] [(vr 82), (vr 38), (vt "Exception"), (vt "BaseException"), (vt "object")] (81 : Nat) (sx "MisuseError") Bool.true [] [] Bool.false none Bool.false)) (List.toArray [(some (vr 73)), none, (some (vs "MisuseError" 268)), (some (vs "MisuseError" 276)), (some (vb "Exception.__new__")), (some (Value.bool Bool.true))]))
noncomputable def o129 (P : Params) : Obj := ft "super" [(vr 82), (vr 82), (vr 82)]
noncomputable def o130 (P : Params) : Obj := ft "builtin_function_or_method" [(vb "object.__init_subclass__"), (vr 82)]
noncomputable def o131 (P : Params) : Obj := tu []
noncomputable def o132 (P : Params) : Obj := fi []
noncomputable def o133 (P : Params) : Obj := tu [(vs "octets" 291), (vs "signs" 292), (vs "octet" 293)]
noncomputable def o134 (P : Params) : Obj := tu []
noncomputable def o135 (P : Params) : Obj := (Obj.mk Value.none nN (Data.func (FuncData.mk (sx "hex_text") (sx "hex_text") (fnArgs c8) (FuncBody.stmts (fnBody c8)) (fnScope c8) (0 : Nat) nC Value.none Value.none Value.none Value.none nN Value.none Value.none (0 : Nat))) n0)
noncomputable def o136 (P : Params) : Obj := ft "code" [(vs "hex_text" 288), (vs "hex_text" 289), (vs "/claim/cut.py" 290), (vi 20), (vi 1), (vi 0), (vi 0), (vi 3), (vr 85), (Value.bool Bool.true), (vi 181), (vr 86), Value.none, (vr 87), (vr 88), (vr 89), (vi 294), (vi 20), (vs "/claim/cut.py" 295)]
noncomputable def o137 (P : Params) : Obj := (Obj.mk (vt "function") nN (Data.func (FuncData.mk (sx "hex_text") (sx "hex_text") (fnArgs c8) (FuncBody.stmts (fnBody c8)) (fnScope c8) (3 : Nat) nC Value.none Value.none Value.none (vs "pagebase.values" 284) nN (vr 90) Value.none (0 : Nat))) n0)
noncomputable def o138 (P : Params) : Obj := tu []
noncomputable def o139 (P : Params) : Obj := fi []
noncomputable def o140 (P : Params) : Obj := tu [(vs "v" 300)]
noncomputable def o141 (P : Params) : Obj := tu []
noncomputable def o142 (P : Params) : Obj := (Obj.mk Value.none nN (Data.func (FuncData.mk (sx "storage_class") (sx "storage_class") (fnArgs c9) (FuncBody.stmts (fnBody c9)) (fnScope c9) (0 : Nat) nC Value.none Value.none Value.none Value.none nN Value.none Value.none (0 : Nat))) n0)
noncomputable def o143 (P : Params) : Obj := ft "code" [(vs "storage_class" 297), (vs "storage_class" 298), (vs "/claim/cut.py" 299), (vi 26), (vi 1), (vi 0), (vi 0), (vi 3), (vr 92), (Value.bool Bool.true), (vi 181), (vr 93), Value.none, (vr 94), (vr 95), (vr 96), (vi 301), (vi 26), (vs "/claim/cut.py" 302)]
noncomputable def o144 (P : Params) : Obj := (Obj.mk (vt "function") nN (Data.func (FuncData.mk (sx "storage_class") (sx "storage_class") (fnArgs c9) (FuncBody.stmts (fnBody c9)) (fnScope c9) (3 : Nat) nC Value.none Value.none Value.none (vs "pagebase.values" 284) nN (vr 97) Value.none (0 : Nat))) n0)
noncomputable def o145 (P : Params) : Obj := tu []
noncomputable def o146 (P : Params) : Obj := fi []
noncomputable def o147 (P : Params) : Obj := tu [(vs "v" 307), (vs "kind" 308)]
noncomputable def o148 (P : Params) : Obj := tu []
noncomputable def o149 (P : Params) : Obj := (Obj.mk Value.none nN (Data.func (FuncData.mk (sx "write_literal") (sx "write_literal") (fnArgs c10) (FuncBody.stmts (fnBody c10)) (fnScope c10) (0 : Nat) nC Value.none Value.none Value.none Value.none nN Value.none Value.none (0 : Nat))) n0)
noncomputable def o150 (P : Params) : Obj := ft "code" [(vs "write_literal" 304), (vs "write_literal" 305), (vs "/claim/cut.py" 306), (vi 36), (vi 1), (vi 0), (vi 0), (vi 3), (vr 99), (Value.bool Bool.true), (vi 181), (vr 100), Value.none, (vr 101), (vr 102), (vr 103), (vi 309), (vi 36), (vs "/claim/cut.py" 310)]
noncomputable def o151 (P : Params) : Obj := (Obj.mk (vt "function") nN (Data.func (FuncData.mk (sx "write_literal") (sx "write_literal") (fnArgs c10) (FuncBody.stmts (fnBody c10)) (fnScope c10) (3 : Nat) nC Value.none Value.none Value.none (vs "pagebase.values" 284) nN (vr 104) Value.none (0 : Nat))) n0)
noncomputable def o152 (P : Params) : Obj := (Obj.mk (vt "dict") nN (Data.dict (List.toArray [(de P "__name__" 165 (vs "pagebase.words" 312)), (de P "__doc__" 166 Value.none), (de P "__package__" 167 Value.none), (de P "__loader__" 168 (vb "__main__.__loader__#opaque")), (de P "__spec__" 169 Value.none), (de P "__annotations__" 170 (vr 6)), (de P "__builtins__" 171 (vr 4)), (de P "__file__" 173 (vs "/claim/cut.py" 172)), (de P "__cached__" 174 Value.none), (de P "_wall" 193 (vr 21)), (de P "PagebaseError" 224 (vr 38)), (de P "SqlError" 240 (vr 51)), (de P "ParseError" 267 (vr 70)), (de P "MisuseError" 283 (vr 82)), (de P "HEX_DIGITS" 287 (vs "0123456789ABCDEF" 286)), (de P "hex_text" 296 (vr 91)), (de P "storage_class" 303 (vr 98)), (de P "write_literal" 311 (vr 105)), (de P "QUOTES" 315 (vs "'\"`[" 314)), (de P "BLANKS" 317 (vs " \t\n\x0d\x0c" 316)), (de P "FIGURES" 319 (vs "0123456789" 318)), (de P "HEX_FIGURES" 321 (vs "0123456789abcdefABCDEF" 320)), (de P "LETTERS" 323 (vs "abcdefghijklmnopqrstuvwxyzABCDEFGHIJKLMNOPQRSTUVWXYZ_" 322)), (de P "NAME_SIGNS" 327 (vs "abcdefghijklmnopqrstuvwxyzABCDEFGHIJKLMNOPQRSTUVWXYZ_0123456789$" 326)), (de P "SIGNS_OF_TWO" 336 (vr 106)), (de P "SIGNS_OF_ONE" 338 (vs "(),.;+-*/%=<>&|~" 337)), (de P "LIKE_SIGNS" 345 (vr 107)), (de P "MOST_VARIABLE" 347 (Value.int 999 (346 : Nat))), (de P "GREATEST" 351 (Value.int 9223372036854775808 (350 : Nat))), (de P "folded" 357 (vr 112)), (de P "goes_on_name" 364 (vr 119))]) (31 : Nat)) n0)
noncomputable def o153 (P : Params) : Obj := fi [(vi 1), (vi 0), (vr 20), (vi 5), (vi 0), (vr 27), (vi 9), (vi 0), (vr 47), (vi 11), (vi 0), (vr 59), (vi 16), (vi 0), (vr 78), (vi 20), (vi 0), (vr 90), (vi 26), (vi 0), (vr 97), (vi 36), (vi 0), (vr 104), (vi 57), (vi 0), (vr 111), (vi 61), (vi 0), (vr 118)]
noncomputable def o154 (P : Params) : Obj := tu [(vs "<=" 328), (vs ">=" 329), (vs "<>" 330), (vs "!=" 331), (vs "==" 332), (vs "||" 333), (vs "<<" 334), (vs ">>" 335)]
noncomputable def o155 (P : Params) : Obj := (Obj.mk (vt "dict") nN (Data.dict (List.toArray [(de P "==" 339 (vs "=" 340)), (de P "!=" 341 (vs "<>" 342))]) (2 : Nat)) n0)
noncomputable def o156 (P : Params) : Obj := tu []
noncomputable def o157 (P : Params) : Obj := fi []
noncomputable def o158 (P : Params) : Obj := (Obj.mk Value.none nN (Data.func (FuncData.mk (sx "folded") (sx "folded") (fnArgs c23) (FuncBody.stmts (fnBody c23)) (fnScope c23) (0 : Nat) nC Value.none Value.none Value.none Value.none nN Value.none Value.none (0 : Nat))) n0)
noncomputable def o159 (P : Params) : Obj := ft "code" [(vs "folded" 352), (vs "folded" 353), (vs "/claim/cut.py" 354), (vi 57), (vi 1), (vi 0), (vi 0), (vi 3), (vr 108), (Value.bool Bool.true), (vi 181), (vr 109), Value.none, Value.none, Value.none, (vr 110), (vi 355), (vi 57), (vs "/claim/cut.py" 356)]
noncomputable def o160 (P : Params) : Obj := (Obj.mk (vt "function") nN (Data.func (FuncData.mk (sx "folded") (sx "folded") (fnArgs c23) (FuncBody.stmts (fnBody c23)) (fnScope c23) (3 : Nat) nC Value.none Value.none Value.none (vs "pagebase.words" 312) nN (vr 111) Value.none (0 : Nat))) n0)
noncomputable def o161 (P : Params) : Obj := tu []
noncomputable def o162 (P : Params) : Obj := fi []
noncomputable def o163 (P : Params) : Obj := tu [(vs "sign" 361)]
noncomputable def o164 (P : Params) : Obj := tu []
noncomputable def o165 (P : Params) : Obj := (Obj.mk Value.none nN (Data.func (FuncData.mk (sx "goes_on_name") (sx "goes_on_name") (fnArgs c24) (FuncBody.stmts (fnBody c24)) (fnScope c24) (0 : Nat) nC Value.none Value.none Value.none Value.none nN Value.none Value.none (0 : Nat))) n0)
noncomputable def o166 (P : Params) : Obj := ft "code" [(vs "goes_on_name" 358), (vs "goes_on_name" 359), (vs "/claim/cut.py" 360), (vi 61), (vi 1), (vi 0), (vi 0), (vi 3), (vr 113), (Value.bool Bool.true), (vi 181), (vr 114), Value.none, (vr 115), (vr 116), (vr 117), (vi 362), (vi 61), (vs "/claim/cut.py" 363)]
noncomputable def o167 (P : Params) : Obj := (Obj.mk (vt "function") nN (Data.func (FuncData.mk (sx "goes_on_name") (sx "goes_on_name") (fnArgs c24) (FuncBody.stmts (fnBody c24)) (fnScope c24) (3 : Nat) nC Value.none Value.none Value.none (vs "pagebase.words" 312) nN (vr 118) Value.none (0 : Nat))) n0)
noncomputable def o170 (P : Params) : Obj := (Obj.mk (vt "dict") nN (Data.dict (List.toArray [(de P "__name__" 165 (vs "pagebase.words" 312)), (de P "__doc__" 166 Value.none), (de P "__package__" 167 Value.none), (de P "__loader__" 168 (vb "__main__.__loader__#opaque")), (de P "__spec__" 169 Value.none), (de P "__annotations__" 170 (vr 6)), (de P "__builtins__" 171 (vr 4)), (de P "__file__" 173 (vs "/claim/cut.py" 172)), (de P "__cached__" 174 Value.none), (de P "_wall" 193 (vr 21)), (de P "PagebaseError" 224 (vr 38)), (de P "SqlError" 240 (vr 51)), (de P "ParseError" 267 (vr 70)), (de P "MisuseError" 283 (vr 82)), (de P "HEX_DIGITS" 287 (vs "0123456789ABCDEF" 286)), (de P "hex_text" 296 (vr 91)), (de P "storage_class" 303 (vr 98)), (de P "write_literal" 311 (vr 105)), (de P "QUOTES" 315 (vs "'\"`[" 314)), (de P "BLANKS" 317 (vs " \t\n\x0d\x0c" 316)), (de P "FIGURES" 319 (vs "0123456789" 318)), (de P "HEX_FIGURES" 321 (vs "0123456789abcdefABCDEF" 320)), (de P "LETTERS" 323 (vs "abcdefghijklmnopqrstuvwxyzABCDEFGHIJKLMNOPQRSTUVWXYZ_" 322)), (de P "NAME_SIGNS" 327 (vs "abcdefghijklmnopqrstuvwxyzABCDEFGHIJKLMNOPQRSTUVWXYZ_0123456789$" 326)), (de P "SIGNS_OF_TWO" 336 (vr 106)), (de P "SIGNS_OF_ONE" 338 (vs "(),.;+-*/%=<>&|~" 337)), (de P "LIKE_SIGNS" 345 (vr 107)), (de P "MOST_VARIABLE" 347 (Value.int 999 (346 : Nat))), (de P "GREATEST" 351 (Value.int 9223372036854775808 (350 : Nat))), (de P "folded" 357 (vr 112)), (de P "goes_on_name" 364 (vr 119)), (de P "Word" 436 (vr 171))]) (32 : Nat)) n0)
noncomputable def o171 (P : Params) : Obj := fi [(vi 1), (vi 0), (vr 20), (vi 5), (vi 0), (vr 27), (vi 9), (vi 0), (vr 47), (vi 11), (vi 0), (vr 59), (vi 16), (vi 0), (vr 78), (vi 20), (vi 0), (vr 90), (vi 26), (vi 0), (vr 97), (vi 36), (vi 0), (vr 104), (vi 57), (vi 0), (vr 111), (vi 61), (vi 0), (vr 118), (vi 63), (vi 0), (vr 125)]
noncomputable def o172 (P : Params) : Obj := tu []
noncomputable def o173 (P : Params) : Obj := ft "builtin_function_or_method" [(vb "type.__prepare__"), (vt "type")]
noncomputable def o174 (P : Params) : Obj := (Obj.mk (vt "dict") nN (Data.dict (List.toArray [(de P "__module__" 372 (vs "pagebase.words" 312)), (de P "__qualname__" 374 (vs "Word" 373)), (de P "__firstlineno__" 376 (Value.int 63 (375 : Nat))), (de P "__init__" 387 (vr 133)), (de P "is_sign" 395 (vr 140)), (de P "is_key" 403 (vr 147)), (de P "is_free" 410 (vr 154)), (de P "is_plain" 417 (vr 161)), (de P "row" 424 (vr 168)), (de P "__static_attributes__" 429 (vr 169))]) (10 : Nat)) n0)
noncomputable def o175 (P : Params) : Obj := tu []
noncomputable def o176 (P : Params) : Obj := fi [(vi 65), (vi 4), (vr 132), (vi 71), (vi 4), (vr 139), (vi 74), (vi 4), (vr 146), (vi 77), (vi 4), (vr 153), (vi 80), (vi 4), (vr 160), (vi 83), (vi 4), (vr 167)]
noncomputable def o177 (P : Params) : Obj := ft "code" [(vs "Word" 367), (vs "Word" 368), (vs "/claim/cut.py" 369), (vi 63), (vi 0), (vi 0), (vi 0), (vi 0), (vr 123), (Value.bool Bool.false), (vi 181), (vr 124), Value.none, Value.none, Value.none, Value.none, (vi 370), (vi 63), (vs "/claim/cut.py" 371)]
noncomputable def o178 (P : Params) : Obj := (Obj.mk (vt "frame") nN Data.plain (List.toArray [(some (vr 125)), (some (vr 3)), (some (vr 122)), none, (some (vs "pagebase.words" 312)), none, (some (vr 0))]))
noncomputable def o179 (P : Params) : Obj := tu []
noncomputable def o180 (P : Params) : Obj := fi []
noncomputable def o181 (P : Params) : Obj := tu [(vs "self" 380), (vs "kind" 381), (vs "text" 382), (vs "value" 383), (vs "place" 384)]
noncomputable def o182 (P : Params) : Obj := tu []
noncomputable def o183 (P : Params) : Obj := (Obj.mk Value.none nN (Data.func (FuncData.mk (sx "__init__") (sx "Word.__init__") (fnArgs (nth (clsBody c25) 0)) (FuncBody.stmts (fnBody (nth (clsBody c25) 0))) (fnScope (nth (clsBody c25) 0)) (0 : Nat) nC Value.none Value.none Value.none Value.none nN Value.none Value.none (0 : Nat))) n0)
noncomputable def o184 (P : Params) : Obj := ft "code" [(vs "__init__" 377), (vs "Word.__init__" 378), (vs "/claim/cut.py" 379), (vi 65), (vi 5), (vi 0), (vi 0), (vi 3), (vr 127), (Value.bool Bool.true), (vi 181), (vr 128), Value.none, (vr 129), (vr 130), (vr 131), (vi 385), (vi 65), (vs "/claim/cut.py" 386)]
noncomputable def o185 (P : Params) : Obj := (Obj.mk (vt "function") nN (Data.func (FuncData.mk (sx "__init__") (sx "Word.__init__") (fnArgs (nth (clsBody c25) 0)) (FuncBody.stmts (fnBody (nth (clsBody c25) 0))) (fnScope (nth (clsBody c25) 0)) (3 : Nat) nC Value.none Value.none Value.none (vs "pagebase.words" 312) nN (vr 132) Value.none (0 : Nat))) n0)
noncomputable def o186 (P : Params) : Obj := tu []
noncomputable def o187 (P : Params) : Obj := fi []
noncomputable def o188 (P : Params) : Obj := tu [(vs "self" 391), (vs "text" 392)]
noncomputable def o189 (P : Params) : Obj := tu []
noncomputable def o190 (P : Params) : Obj := (Obj.mk Value.none nN (Data.func (FuncData.mk (sx "is_sign") (sx "Word.is_sign") (fnArgs (nth (clsBody c25) 1)) (FuncBody.stmts (fnBody (nth (clsBody c25) 1))) (fnScope (nth (clsBody c25) 1)) (0 : Nat) nC Value.none Value.none Value.none Value.none nN Value.none Value.none (0 : Nat))) n0)
noncomputable def o191 (P : Params) : Obj := ft "code" [(vs "is_sign" 388), (vs "Word.is_sign" 389), (vs "/claim/cut.py" 390), (vi 71), (vi 2), (vi 0), (vi 0), (vi 3), (vr 134), (Value.bool Bool.true), (vi 181), (vr 135), Value.none, (vr 136), (vr 137), (vr 138), (vi 393), (vi 71), (vs "/claim/cut.py" 394)]
noncomputable def o192 (P : Params) : Obj := (Obj.mk (vt "function") nN (Data.func (FuncData.mk (sx "is_sign") (sx "Word.is_sign") (fnArgs (nth (clsBody c25) 1)) (FuncBody.stmts (fnBody (nth (clsBody c25) 1))) (fnScope (nth (clsBody c25) 1)) (3 : Nat) nC Value.none Value.none Value.none (vs "pagebase.words" 312) nN (vr 139) Value.none (0 : Nat))) n0)
noncomputable def o193 (P : Params) : Obj := tu []
noncomputable def o194 (P : Params) : Obj := fi []
noncomputable def o195 (P : Params) : Obj := tu [(vs "self" 399), (vs "text" 400)]
noncomputable def o196 (P : Params) : Obj := tu []
noncomputable def o197 (P : Params) : Obj := (Obj.mk Value.none nN (Data.func (FuncData.mk (sx "is_key") (sx "Word.is_key") (fnArgs (nth (clsBody c25) 2)) (FuncBody.stmts (fnBody (nth (clsBody c25) 2))) (fnScope (nth (clsBody c25) 1)) (0 : Nat) nC Value.none Value.none Value.none Value.none nN Value.none Value.none (0 : Nat))) n0)
noncomputable def o198 (P : Params) : Obj := ft "code" [(vs "is_key" 396), (vs "Word.is_key" 397), (vs "/claim/cut.py" 398), (vi 74), (vi 2), (vi 0), (vi 0), (vi 3), (vr 141), (Value.bool Bool.true), (vi 181), (vr 142), Value.none, (vr 143), (vr 144), (vr 145), (vi 401), (vi 74), (vs "/claim/cut.py" 402)]
noncomputable def o199 (P : Params) : Obj := (Obj.mk (vt "function") nN (Data.func (FuncData.mk (sx "is_key") (sx "Word.is_key") (fnArgs (nth (clsBody c25) 2)) (FuncBody.stmts (fnBody (nth (clsBody c25) 2))) (fnScope (nth (clsBody c25) 1)) (3 : Nat) nC Value.none Value.none Value.none (vs "pagebase.words" 312) nN (vr 146) Value.none (0 : Nat))) n0)
noncomputable def o200 (P : Params) : Obj := tu []
noncomputable def o201 (P : Params) : Obj := fi []
noncomputable def o202 (P : Params) : Obj := tu [(vs "self" 407)]
noncomputable def o203 (P : Params) : Obj := tu []
noncomputable def o204 (P : Params) : Obj := (Obj.mk Value.none nN (Data.func (FuncData.mk (sx "is_free") (sx "Word.is_free") (fnArgs (nth (clsBody c25) 3)) (FuncBody.stmts (fnBody (nth (clsBody c25) 3))) (fnScope (nth (clsBody c25) 3)) (0 : Nat) nC Value.none Value.none Value.none Value.none nN Value.none Value.none (0 : Nat))) n0)
noncomputable def o205 (P : Params) : Obj := ft "code" [(vs "is_free" 404), (vs "Word.is_free" 405), (vs "/claim/cut.py" 406), (vi 77), (vi 1), (vi 0), (vi 0), (vi 3), (vr 148), (Value.bool Bool.true), (vi 181), (vr 149), Value.none, (vr 150), (vr 151), (vr 152), (vi 408), (vi 77), (vs "/claim/cut.py" 409)]
noncomputable def o206 (P : Params) : Obj := (Obj.mk (vt "function") nN (Data.func (FuncData.mk (sx "is_free") (sx "Word.is_free") (fnArgs (nth (clsBody c25) 3)) (FuncBody.stmts (fnBody (nth (clsBody c25) 3))) (fnScope (nth (clsBody c25) 3)) (3 : Nat) nC Value.none Value.none Value.none (vs "pagebase.words" 312) nN (vr 153) Value.none (0 : Nat))) n0)
noncomputable def o207 (P : Params) : Obj := tu []
noncomputable def o208 (P : Params) : Obj := fi []
noncomputable def o209 (P : Params) : Obj := tu [(vs "self" 414)]
noncomputable def o210 (P : Params) : Obj := tu []
noncomputable def o211 (P : Params) : Obj := (Obj.mk Value.none nN (Data.func (FuncData.mk (sx "is_plain") (sx "Word.is_plain") (fnArgs (nth (clsBody c25) 4)) (FuncBody.stmts (fnBody (nth (clsBody c25) 4))) (fnScope (nth (clsBody c25) 3)) (0 : Nat) nC Value.none Value.none Value.none Value.none nN Value.none Value.none (0 : Nat))) n0)
noncomputable def o212 (P : Params) : Obj := ft "code" [(vs "is_plain" 411), (vs "Word.is_plain" 412), (vs "/claim/cut.py" 413), (vi 80), (vi 1), (vi 0), (vi 0), (vi 3), (vr 155), (Value.bool Bool.true), (vi 181), (vr 156), Value.none, (vr 157), (vr 158), (vr 159), (vi 415), (vi 80), (vs "/claim/cut.py" 416)]
noncomputable def o213 (P : Params) : Obj := (Obj.mk (vt "function") nN (Data.func (FuncData.mk (sx "is_plain") (sx "Word.is_plain") (fnArgs (nth (clsBody c25) 4)) (FuncBody.stmts (fnBody (nth (clsBody c25) 4))) (fnScope (nth (clsBody c25) 3)) (3 : Nat) nC Value.none Value.none Value.none (vs "pagebase.words" 312) nN (vr 160) Value.none (0 : Nat))) n0)
noncomputable def o214 (P : Params) : Obj := tu []
noncomputable def o215 (P : Params) : Obj := fi []
noncomputable def o216 (P : Params) : Obj := tu [(vs "self" 421)]
noncomputable def o217 (P : Params) : Obj := tu []
noncomputable def o218 (P : Params) : Obj := (Obj.mk Value.none nN (Data.func (FuncData.mk (sx "row") (sx "Word.row") (fnArgs (nth (clsBody c25) 5)) (FuncBody.stmts (fnBody (nth (clsBody c25) 5))) (fnScope (nth (clsBody c25) 5)) (0 : Nat) nC Value.none Value.none Value.none Value.none nN Value.none Value.none (0 : Nat))) n0)
noncomputable def o219 (P : Params) : Obj := ft "code" [(vs "row" 418), (vs "Word.row" 419), (vs "/claim/cut.py" 420), (vi 83), (vi 1), (vi 0), (vi 0), (vi 3), (vr 162), (Value.bool Bool.true), (vi 181), (vr 163), Value.none, (vr 164), (vr 165), (vr 166), (vi 422), (vi 83), (vs "/claim/cut.py" 423)]
noncomputable def o220 (P : Params) : Obj := (Obj.mk (vt "function") nN (Data.func (FuncData.mk (sx "row") (sx "Word.row") (fnArgs (nth (clsBody c25) 5)) (FuncBody.stmts (fnBody (nth (clsBody c25) 5))) (fnScope (nth (clsBody c25) 5)) (3 : Nat) nC Value.none Value.none Value.none (vs "pagebase.words" 312) nN (vr 167) Value.none (0 : Nat))) n0)
noncomputable def o221 (P : Params) : Obj := tu [(vs "kind" 425), (vs "place" 426), (vs "text" 427), (vs "value" 428)]
noncomputable def o222 (P : Params) : Obj := (Obj.mk (vt "dict") nN (Data.dict (List.toArray [(de P "__module__" 372 (vs "pagebase.words" 312)), (de P "__firstlineno__" 376 (Value.int 63 (375 : Nat))), (de P "__init__" 387 (vr 133)), (de P "is_sign" 395 (vr 140)), (de P "is_key" 403 (vr 147)), (de P "is_free" 410 (vr 154)), (de P "is_plain" 417 (vr 161)), (de P "row" 424 (vr 168)), (de P "__static_attributes__" 429 (vr 169)), (de P "__dict__" 431 (vr 172)), (de P "__weakref__" 433 (vr 173)), (de P "__doc__" 434 Value.none)]) (4 : Nat)) n0)
noncomputable def o223 (P : Params) : Obj := (Obj.mk (vt "type") nN (Data.cls (ClassData.mk (sx "Word") [(vt "object")] [(vr 171), (vt "object")] (170 : Nat) (sx "Word") Bool.true [] [] Bool.false none Bool.false)) (List.toArray [none, none, (some (vs "Word" 365)), (some (vs "Word" 373)), (some (vb "object.__new__")), (some (Value.bool Bool.true))]))
noncomputable def o224 (P : Params) : Obj := ft "getset_descriptor" [(vs "__dict__" 430), (vr 171), (vb "function.__dict__"), (vb "function.__dict__#set")]
noncomputable def o225 (P : Params) : Obj := ft "getset_descriptor" [(vs "__weakref__" 432), (vr 171), (vb "ExceptionGroup.__weakref__"), Value.none]
noncomputable def o226 (P : Params) : Obj := ft "super" [(vr 171), (vr 171), (vr 171)]
noncomputable def o227 (P : Params) : Obj := ft "builtin_function_or_method" [(vb "object.__init_subclass__"), (vr 171)]
noncomputable def o228 (P : Params) : Obj := (Obj.mk (vt "dict") nN (Data.dict (List.toArray [(de P "__name__" 165 (vs "pagebase.words" 312)), (de P "__doc__" 166 Value.none), (de P "__package__" 167 Value.none), (de P "__loader__" 168 (vb "__main__.__loader__#opaque")), (de P "__spec__" 169 Value.none), (de P "__annotations__" 170 (vr 6)), (de P "__builtins__" 171 (vr 4)), (de P "__file__" 173 (vs "/claim/cut.py" 172)), (de P "__cached__" 174 Value.none), (de P "_wall" 193 (vr 21)), (de P "PagebaseError" 224 (vr 38)), (de P "SqlError" 240 (vr 51)), (de P "ParseError" 267 (vr 70)), (de P "MisuseError" 283 (vr 82)), (de P "HEX_DIGITS" 287 (vs "0123456789ABCDEF" 286)), (de P "hex_text" 296 (vr 91)), (de P "storage_class" 303 (vr 98)), (de P "write_literal" 311 (vr 105)), (de P "QUOTES" 315 (vs "'\"`[" 314)), (de P "BLANKS" 317 (vs " \t\n\x0d\x0c" 316)), (de P "FIGURES" 319 (vs "0123456789" 318)), (de P "HEX_FIGURES" 321 (vs "0123456789abcdefABCDEF" 320)), (de P "LETTERS" 323 (vs "abcdefghijklmnopqrstuvwxyzABCDEFGHIJKLMNOPQRSTUVWXYZ_" 322)), (de P "NAME_SIGNS" 327 (vs "abcdefghijklmnopqrstuvwxyzABCDEFGHIJKLMNOPQRSTUVWXYZ_0123456789$" 326)), (de P "SIGNS_OF_TWO" 336 (vr 106)), (de P "SIGNS_OF_ONE" 338 (vs "(),.;+-*/%=<>&|~" 337)), (de P "LIKE_SIGNS" 345 (vr 107)), (de P "MOST_VARIABLE" 347 (Value.int 999 (346 : Nat))), (de P "GREATEST" 351 (Value.int 9223372036854775808 (350 : Nat))), (de P "folded" 357 (vr 112)), (de P "goes_on_name" 364 (vr 119)), (de P "Word" 436 (vr 171)), (de P "Scanner" 591 (vr 276))]) (33 : Nat)) n0)
noncomputable def o229 (P : Params) : Obj := fi [(vi 1), (vi 0), (vr 20), (vi 5), (vi 0), (vr 27), (vi 9), (vi 0), (vr 47), (vi 11), (vi 0), (vr 59), (vi 16), (vi 0), (vr 78), (vi 20), (vi 0), (vr 90), (vi 26), (vi 0), (vr 97), (vi 36), (vi 0), (vr 104), (vi 57), (vi 0), (vr 111), (vi 61), (vi 0), (vr 118), (vi 63), (vi 0), (vr 125), (vi 85), (vi 0), (vr 181)]
noncomputable def o230 (P : Params) : Obj := tu []
noncomputable def o231 (P : Params) : Obj := ft "builtin_function_or_method" [(vb "type.__prepare__"), (vt "type")]
noncomputable def o232 (P : Params) : Obj := (Obj.mk (vt "dict") nN (Data.dict (List.toArray [(de P "__module__" 444 (vs "pagebase.words" 312)), (de P "__qualname__" 446 (vs "Scanner" 445)), (de P "__firstlineno__" 448 (Value.int 85 (447 : Nat))), (de P "__init__" 456 (vr 189)), (de P "gather" 467 (vr 196)), (de P "refuse" 475 (vr 203)), (de P "run" 484 (vr 210)), (de P "end_of" 494 (vr 217)), (de P "bare" 505 (vr 224)), (de P "closing" 516 (vr 231)), (de P "quoted_word" 526 (vr 238)), (de P "blob" 536 (vr 245)), (de P "number" 547 (vr 252)), (de P "value_of" 558 (vr 259)), (de P "mark" 569 (vr 266)), (de P "variable" 579 (vr 273)), (de P "__static_attributes__" 584 (vr 274))]) (17 : Nat)) n0)
noncomputable def o233 (P : Params) : Obj := tu []
noncomputable def o234 (P : Params) : Obj := fi [(vi 87), (vi 4), (vr 188), (vi 93), (vi 4), (vr 195), (vi 97), (vi 4), (vr 202), (vi 100), (vi 4), (vr 209), (vi 117), (vi 4), (vr 216), (vi 123), (vi 4), (vr 223), (vi 134), (vi 4), (vr 230), (vi 146), (vi 4), (vr 237), (vi 156), (vi 4), (vr 244), (vi 165), (vi 4), (vr 251), (vi 184), (vi 4), (vr 258), (vi 192), (vi 4), (vr 265), (vi 210), (vi 4), (vr 272)]
noncomputable def o235 (P : Params) : Obj := ft "code" [(vs "Scanner" 439), (vs "Scanner" 440), (vs "/claim/cut.py" 441), (vi 85), (vi 0), (vi 0), (vi 0), (vi 0), (vr 179), (Value.bool Bool.false), (vi 181), (vr 180), Value.none, Value.none, Value.none, Value.none, (vi 442), (vi 85), (vs "/claim/cut.py" 443)]
noncomputable def o236 (P : Params) : Obj := (Obj.mk (vt "frame") nN Data.plain (List.toArray [(some (vr 181)), (some (vr 3)), (some (vr 178)), none, (some (vs "pagebase.words" 312)), none, (some (vr 0))]))
noncomputable def o237 (P : Params) : Obj := tu []
noncomputable def o238 (P : Params) : Obj := fi []
noncomputable def o239 (P : Params) : Obj := tu [(vs "self" 452), (vs "text" 453)]
noncomputable def o240 (P : Params) : Obj := tu []
noncomputable def o241 (P : Params) : Obj := (Obj.mk Value.none nN (Data.func (FuncData.mk (sx "__init__") (sx "Scanner.__init__") (fnArgs (nth (clsBody c26) 0)) (FuncBody.stmts (fnBody (nth (clsBody c26) 0))) (fnScope (nth (clsBody c26) 0)) (0 : Nat) nC Value.none Value.none Value.none Value.none nN Value.none Value.none (0 : Nat))) n0)
noncomputable def o242 (P : Params) : Obj := ft "code" [(vs "__init__" 449), (vs "Scanner.__init__" 450), (vs "/claim/cut.py" 451), (vi 87), (vi 2), (vi 0), (vi 0), (vi 3), (vr 183), (Value.bool Bool.true), (vi 181), (vr 184), Value.none, (vr 185), (vr 186), (vr 187), (vi 454), (vi 87), (vs "/claim/cut.py" 455)]
noncomputable def o243 (P : Params) : Obj := (Obj.mk (vt "function") nN (Data.func (FuncData.mk (sx "__init__") (sx "Scanner.__init__") (fnArgs (nth (clsBody c26) 0)) (FuncBody.stmts (fnBody (nth (clsBody c26) 0))) (fnScope (nth (clsBody c26) 0)) (3 : Nat) nC Value.none Value.none Value.none (vs "pagebase.words" 312) nN (vr 188) Value.none (0 : Nat))) n0)
noncomputable def o244 (P : Params) : Obj := tu []
noncomputable def o245 (P : Params) : Obj := fi []
noncomputable def o246 (P : Params) : Obj := tu [(vs "self" 460), (vs "kind" 461), (vs "text" 462), (vs "value" 463), (vs "end" 464)]
noncomputable def o247 (P : Params) : Obj := tu []
noncomputable def o248 (P : Params) : Obj := (Obj.mk Value.none nN (Data.func (FuncData.mk (sx "gather") (sx "Scanner.gather") (fnArgs (nth (clsBody c26) 1)) (FuncBody.stmts (fnBody (nth (clsBody c26) 1))) (fnScope (nth (clsBody c26) 1)) (0 : Nat) nC Value.none Value.none Value.none Value.none nN Value.none Value.none (0 : Nat))) n0)
noncomputable def o249 (P : Params) : Obj := ft "code" [(vs "gather" 457), (vs "Scanner.gather" 458), (vs "/claim/cut.py" 459), (vi 93), (vi 5), (vi 0), (vi 0), (vi 3), (vr 190), (Value.bool Bool.true), (vi 181), (vr 191), Value.none, (vr 192), (vr 193), (vr 194), (vi 465), (vi 93), (vs "/claim/cut.py" 466)]
noncomputable def o250 (P : Params) : Obj := (Obj.mk (vt "function") nN (Data.func (FuncData.mk (sx "gather") (sx "Scanner.gather") (fnArgs (nth (clsBody c26) 1)) (FuncBody.stmts (fnBody (nth (clsBody c26) 1))) (fnScope (nth (clsBody c26) 1)) (3 : Nat) nC Value.none Value.none Value.none (vs "pagebase.words" 312) nN (vr 195) Value.none (0 : Nat))) n0)
noncomputable def o251 (P : Params) : Obj := tu []
noncomputable def o252 (P : Params) : Obj := fi []
noncomputable def o253 (P : Params) : Obj := tu [(vs "self" 471), (vs "message" 472)]
noncomputable def o254 (P : Params) : Obj := tu []
noncomputable def o255 (P : Params) : Obj := (Obj.mk Value.none nN (Data.func (FuncData.mk (sx "refuse") (sx "Scanner.refuse") (fnArgs (nth (clsBody c26) 2)) (FuncBody.stmts (fnBody (nth (clsBody c26) 2))) (fnScope (nth (clsBody c26) 2)) (0 : Nat) nC Value.none Value.none Value.none Value.none nN Value.none Value.none (0 : Nat))) n0)
noncomputable def o256 (P : Params) : Obj := ft "code" [(vs "refuse" 468), (vs "Scanner.refuse" 469), (vs "/claim/cut.py" 470), (vi 97), (vi 2), (vi 0), (vi 0), (vi 3), (vr 197), (Value.bool Bool.true), (vi 181), (vr 198), Value.none, (vr 199), (vr 200), (vr 201), (vi 473), (vi 97), (vs "/claim/cut.py" 474)]
noncomputable def o257 (P : Params) : Obj := (Obj.mk (vt "function") nN (Data.func (FuncData.mk (sx "refuse") (sx "Scanner.refuse") (fnArgs (nth (clsBody c26) 2)) (FuncBody.stmts (fnBody (nth (clsBody c26) 2))) (fnScope (nth (clsBody c26) 2)) (3 : Nat) nC Value.none Value.none Value.none (vs "pagebase.words" 312) nN (vr 202) Value.none (0 : Nat))) n0)
noncomputable def o258 (P : Params) : Obj := tu []
noncomputable def o259 (P : Params) : Obj := fi []
noncomputable def o260 (P : Params) : Obj := tu [(vs "self" 479), (vs "size" 480), (vs "sign" 481)]
noncomputable def o261 (P : Params) : Obj := tu []
noncomputable def o262 (P : Params) : Obj := (Obj.mk Value.none nN (Data.func (FuncData.mk (sx "run") (sx "Scanner.run") (fnArgs (nth (clsBody c26) 3)) (FuncBody.stmts (fnBody (nth (clsBody c26) 3))) (fnScope (nth (clsBody c26) 3)) (0 : Nat) nC Value.none Value.none Value.none Value.none nN Value.none Value.none (0 : Nat))) n0)
noncomputable def o263 (P : Params) : Obj := ft "code" [(vs "run" 476), (vs "Scanner.run" 477), (vs "/claim/cut.py" 478), (vi 100), (vi 1), (vi 0), (vi 0), (vi 3), (vr 204), (Value.bool Bool.true), (vi 181), (vr 205), Value.none, (vr 206), (vr 207), (vr 208), (vi 482), (vi 100), (vs "/claim/cut.py" 483)]
noncomputable def o264 (P : Params) : Obj := (Obj.mk (vt "function") nN (Data.func (FuncData.mk (sx "run") (sx "Scanner.run") (fnArgs (nth (clsBody c26) 3)) (FuncBody.stmts (fnBody (nth (clsBody c26) 3))) (fnScope (nth (clsBody c26) 3)) (3 : Nat) nC Value.none Value.none Value.none (vs "pagebase.words" 312) nN (vr 209) Value.none (0 : Nat))) n0)
noncomputable def o265 (P : Params) : Obj := tu []
noncomputable def o266 (P : Params) : Obj := fi []
noncomputable def o267 (P : Params) : Obj := tu [(vs "self" 488), (vs "signs" 489), (vs "end" 490), (vs "text" 491)]
noncomputable def o268 (P : Params) : Obj := tu []
noncomputable def o269 (P : Params) : Obj := (Obj.mk Value.none nN (Data.func (FuncData.mk (sx "end_of") (sx "Scanner.end_of") (fnArgs (nth (clsBody c26) 4)) (FuncBody.stmts (fnBody (nth (clsBody c26) 4))) (fnScope (nth (clsBody c26) 4)) (0 : Nat) nC Value.none Value.none Value.none Value.none nN Value.none Value.none (0 : Nat))) n0)
noncomputable def o270 (P : Params) : Obj := ft "code" [(vs "end_of" 485), (vs "Scanner.end_of" 486), (vs "/claim/cut.py" 487), (vi 117), (vi 3), (vi 0), (vi 0), (vi 3), (vr 211), (Value.bool Bool.true), (vi 181), (vr 212), Value.none, (vr 213), (vr 214), (vr 215), (vi 492), (vi 117), (vs "/claim/cut.py" 493)]
noncomputable def o271 (P : Params) : Obj := (Obj.mk (vt "function") nN (Data.func (FuncData.mk (sx "end_of") (sx "Scanner.end_of") (fnArgs (nth (clsBody c26) 4)) (FuncBody.stmts (fnBody (nth (clsBody c26) 4))) (fnScope (nth (clsBody c26) 4)) (3 : Nat) nC Value.none Value.none Value.none (vs "pagebase.words" 312) nN (vr 216) Value.none (0 : Nat))) n0)
noncomputable def o272 (P : Params) : Obj := tu []
noncomputable def o273 (P : Params) : Obj := fi []
noncomputable def o274 (P : Params) : Obj := tu [(vs "self" 498), (vs "sign" 499), (vs "text" 500), (vs "end" 501), (vs "written" 502)]
noncomputable def o275 (P : Params) : Obj := tu []
noncomputable def o276 (P : Params) : Obj := (Obj.mk Value.none nN (Data.func (FuncData.mk (sx "bare") (sx "Scanner.bare") (fnArgs (nth (clsBody c26) 5)) (FuncBody.stmts (fnBody (nth (clsBody c26) 5))) (fnScope (nth (clsBody c26) 5)) (0 : Nat) nC Value.none Value.none Value.none Value.none nN Value.none Value.none (0 : Nat))) n0)
noncomputable def o277 (P : Params) : Obj := ft "code" [(vs "bare" 495), (vs "Scanner.bare" 496), (vs "/claim/cut.py" 497), (vi 123), (vi 2), (vi 0), (vi 0), (vi 3), (vr 218), (Value.bool Bool.true), (vi 181), (vr 219), Value.none, (vr 220), (vr 221), (vr 222), (vi 503), (vi 123), (vs "/claim/cut.py" 504)]
noncomputable def o278 (P : Params) : Obj := (Obj.mk (vt "function") nN (Data.func (FuncData.mk (sx "bare") (sx "Scanner.bare") (fnArgs (nth (clsBody c26) 5)) (FuncBody.stmts (fnBody (nth (clsBody c26) 5))) (fnScope (nth (clsBody c26) 5)) (3 : Nat) nC Value.none Value.none Value.none (vs "pagebase.words" 312) nN (vr 223) Value.none (0 : Nat))) n0)
noncomputable def o279 (P : Params) : Obj := tu []
noncomputable def o280 (P : Params) : Obj := fi []
noncomputable def o281 (P : Params) : Obj := tu [(vs "self" 509), (vs "quote" 510), (vs "begin" 511), (vs "parts" 512), (vs "end" 513)]
noncomputable def o282 (P : Params) : Obj := tu []
noncomputable def o283 (P : Params) : Obj := (Obj.mk Value.none nN (Data.func (FuncData.mk (sx "closing") (sx "Scanner.closing") (fnArgs (nth (clsBody c26) 6)) (FuncBody.stmts (fnBody (nth (clsBody c26) 6))) (fnScope (nth (clsBody c26) 6)) (0 : Nat) nC Value.none Value.none Value.none Value.none nN Value.none Value.none (0 : Nat))) n0)
noncomputable def o284 (P : Params) : Obj := ft "code" [(vs "closing" 506), (vs "Scanner.closing" 507), (vs "/claim/cut.py" 508), (vi 134), (vi 3), (vi 0), (vi 0), (vi 3), (vr 225), (Value.bool Bool.true), (vi 181), (vr 226), Value.none, (vr 227), (vr 228), (vr 229), (vi 514), (vi 134), (vs "/claim/cut.py" 515)]
noncomputable def o285 (P : Params) : Obj := (Obj.mk (vt "function") nN (Data.func (FuncData.mk (sx "closing") (sx "Scanner.closing") (fnArgs (nth (clsBody c26) 6)) (FuncBody.stmts (fnBody (nth (clsBody c26) 6))) (fnScope (nth (clsBody c26) 6)) (3 : Nat) nC Value.none Value.none Value.none (vs "pagebase.words" 312) nN (vr 230) Value.none (0 : Nat))) n0)
noncomputable def o286 (P : Params) : Obj := tu []
noncomputable def o287 (P : Params) : Obj := fi []
noncomputable def o288 (P : Params) : Obj := tu [(vs "self" 520), (vs "quote" 521), (vs "end" 522), (vs "value" 523)]
noncomputable def o289 (P : Params) : Obj := tu []
noncomputable def o290 (P : Params) : Obj := (Obj.mk Value.none nN (Data.func (FuncData.mk (sx "quoted_word") (sx "Scanner.quoted_word") (fnArgs (nth (clsBody c26) 7)) (FuncBody.stmts (fnBody (nth (clsBody c26) 7))) (fnScope (nth (clsBody c26) 7)) (0 : Nat) nC Value.none Value.none Value.none Value.none nN Value.none Value.none (0 : Nat))) n0)
noncomputable def o291 (P : Params) : Obj := ft "code" [(vs "quoted_word" 517), (vs "Scanner.quoted_word" 518), (vs "/claim/cut.py" 519), (vi 146), (vi 2), (vi 0), (vi 0), (vi 3), (vr 232), (Value.bool Bool.true), (vi 181), (vr 233), Value.none, (vr 234), (vr 235), (vr 236), (vi 524), (vi 146), (vs "/claim/cut.py" 525)]
noncomputable def o292 (P : Params) : Obj := (Obj.mk (vt "function") nN (Data.func (FuncData.mk (sx "quoted_word") (sx "Scanner.quoted_word") (fnArgs (nth (clsBody c26) 7)) (FuncBody.stmts (fnBody (nth (clsBody c26) 7))) (fnScope (nth (clsBody c26) 7)) (3 : Nat) nC Value.none Value.none Value.none (vs "pagebase.words" 312) nN (vr 237) Value.none (0 : Nat))) n0)
noncomputable def o293 (P : Params) : Obj := tu []
noncomputable def o294 (P : Params) : Obj := fi []
noncomputable def o295 (P : Params) : Obj := tu [(vs "self" 530), (vs "figures" 531), (vs "end" 532), (vs "sign" 533)]
noncomputable def o296 (P : Params) : Obj := tu []
noncomputable def o297 (P : Params) : Obj := (Obj.mk Value.none nN (Data.func (FuncData.mk (sx "blob") (sx "Scanner.blob") (fnArgs (nth (clsBody c26) 8)) (FuncBody.stmts (fnBody (nth (clsBody c26) 8))) (fnScope (nth (clsBody c26) 8)) (0 : Nat) nC Value.none Value.none Value.none Value.none nN Value.none Value.none (0 : Nat))) n0)
noncomputable def o298 (P : Params) : Obj := ft "code" [(vs "blob" 527), (vs "Scanner.blob" 528), (vs "/claim/cut.py" 529), (vi 156), (vi 1), (vi 0), (vi 0), (vi 3), (vr 239), (Value.bool Bool.true), (vi 181), (vr 240), Value.none, (vr 241), (vr 242), (vr 243), (vi 534), (vi 156), (vs "/claim/cut.py" 535)]
noncomputable def o299 (P : Params) : Obj := (Obj.mk (vt "function") nN (Data.func (FuncData.mk (sx "blob") (sx "Scanner.blob") (fnArgs (nth (clsBody c26) 8)) (FuncBody.stmts (fnBody (nth (clsBody c26) 8))) (fnScope (nth (clsBody c26) 8)) (3 : Nat) nC Value.none Value.none Value.none (vs "pagebase.words" 312) nN (vr 244) Value.none (0 : Nat))) n0)
noncomputable def o300 (P : Params) : Obj := tu []
noncomputable def o301 (P : Params) : Obj := fi []
noncomputable def o302 (P : Params) : Obj := tu [(vs "self" 540), (vs "begin" 541), (vs "end" 542), (vs "value" 543), (vs "behind" 544)]
noncomputable def o303 (P : Params) : Obj := tu []
noncomputable def o304 (P : Params) : Obj := (Obj.mk Value.none nN (Data.func (FuncData.mk (sx "number") (sx "Scanner.number") (fnArgs (nth (clsBody c26) 9)) (FuncBody.stmts (fnBody (nth (clsBody c26) 9))) (fnScope (nth (clsBody c26) 9)) (0 : Nat) nC Value.none Value.none Value.none Value.none nN Value.none Value.none (0 : Nat))) n0)
noncomputable def o305 (P : Params) : Obj := ft "code" [(vs "number" 537), (vs "Scanner.number" 538), (vs "/claim/cut.py" 539), (vi 165), (vi 1), (vi 0), (vi 0), (vi 3), (vr 246), (Value.bool Bool.true), (vi 181), (vr 247), Value.none, (vr 248), (vr 249), (vr 250), (vi 545), (vi 165), (vs "/claim/cut.py" 546)]
noncomputable def o306 (P : Params) : Obj := (Obj.mk (vt "function") nN (Data.func (FuncData.mk (sx "number") (sx "Scanner.number") (fnArgs (nth (clsBody c26) 9)) (FuncBody.stmts (fnBody (nth (clsBody c26) 9))) (fnScope (nth (clsBody c26) 9)) (3 : Nat) nC Value.none Value.none Value.none (vs "pagebase.words" 312) nN (vr 251) Value.none (0 : Nat))) n0)
noncomputable def o307 (P : Params) : Obj := tu []
noncomputable def o308 (P : Params) : Obj := fi []
noncomputable def o309 (P : Params) : Obj := tu [(vs "self" 551), (vs "begin" 552), (vs "end" 553), (vs "base" 554), (vs "figures" 555)]
noncomputable def o310 (P : Params) : Obj := tu []
noncomputable def o311 (P : Params) : Obj := (Obj.mk Value.none nN (Data.func (FuncData.mk (sx "value_of") (sx "Scanner.value_of") (fnArgs (nth (clsBody c26) 10)) (FuncBody.stmts (fnBody (nth (clsBody c26) 10))) (fnScope (nth (clsBody c26) 10)) (0 : Nat) nC Value.none Value.none Value.none Value.none nN Value.none Value.none (0 : Nat))) n0)
noncomputable def o312 (P : Params) : Obj := ft "code" [(vs "value_of" 548), (vs "Scanner.value_of" 549), (vs "/claim/cut.py" 550), (vi 184), (vi 4), (vi 0), (vi 0), (vi 3), (vr 253), (Value.bool Bool.true), (vi 181), (vr 254), Value.none, (vr 255), (vr 256), (vr 257), (vi 556), (vi 184), (vs "/claim/cut.py" 557)]
noncomputable def o313 (P : Params) : Obj := (Obj.mk (vt "function") nN (Data.func (FuncData.mk (sx "value_of") (sx "Scanner.value_of") (fnArgs (nth (clsBody c26) 10)) (FuncBody.stmts (fnBody (nth (clsBody c26) 10))) (fnScope (nth (clsBody c26) 10)) (3 : Nat) nC Value.none Value.none Value.none (vs "pagebase.words" 312) nN (vr 258) Value.none (0 : Nat))) n0)
noncomputable def o314 (P : Params) : Obj := tu []
noncomputable def o315 (P : Params) : Obj := fi []
noncomputable def o316 (P : Params) : Obj := tu [(vs "self" 562), (vs "sign" 563), (vs "text" 564), (vs "pair" 565), (vs "end" 566)]
noncomputable def o317 (P : Params) : Obj := tu []
noncomputable def o318 (P : Params) : Obj := (Obj.mk Value.none nN (Data.func (FuncData.mk (sx "mark") (sx "Scanner.mark") (fnArgs (nth (clsBody c26) 11)) (FuncBody.stmts (fnBody (nth (clsBody c26) 11))) (fnScope (nth (clsBody c26) 11)) (0 : Nat) nC Value.none Value.none Value.none Value.none nN Value.none Value.none (0 : Nat))) n0)
noncomputable def o319 (P : Params) : Obj := ft "code" [(vs "mark" 559), (vs "Scanner.mark" 560), (vs "/claim/cut.py" 561), (vi 192), (vi 2), (vi 0), (vi 0), (vi 3), (vr 260), (Value.bool Bool.true), (vi 181), (vr 261), Value.none, (vr 262), (vr 263), (vr 264), (vi 567), (vi 192), (vs "/claim/cut.py" 568)]
noncomputable def o320 (P : Params) : Obj := (Obj.mk (vt "function") nN (Data.func (FuncData.mk (sx "mark") (sx "Scanner.mark") (fnArgs (nth (clsBody c26) 11)) (FuncBody.stmts (fnBody (nth (clsBody c26) 11))) (fnScope (nth (clsBody c26) 11)) (3 : Nat) nC Value.none Value.none Value.none (vs "pagebase.words" 312) nN (vr 265) Value.none (0 : Nat))) n0)
noncomputable def o321 (P : Params) : Obj := tu []
noncomputable def o322 (P : Params) : Obj := fi []
noncomputable def o323 (P : Params) : Obj := tu [(vs "self" 573), (vs "begin" 574), (vs "end" 575), (vs "number" 576)]
noncomputable def o324 (P : Params) : Obj := tu []
noncomputable def o325 (P : Params) : Obj := (Obj.mk Value.none nN (Data.func (FuncData.mk (sx "variable") (sx "Scanner.variable") (fnArgs (nth (clsBody c26) 12)) (FuncBody.stmts (fnBody (nth (clsBody c26) 12))) (fnScope (nth (clsBody c26) 12)) (0 : Nat) nC Value.none Value.none Value.none Value.none nN Value.none Value.none (0 : Nat))) n0)
noncomputable def o326 (P : Params) : Obj := ft "code" [(vs "variable" 570), (vs "Scanner.variable" 571), (vs "/claim/cut.py" 572), (vi 210), (vi 1), (vi 0), (vi 0), (vi 3), (vr 267), (Value.bool Bool.true), (vi 181), (vr 268), Value.none, (vr 269), (vr 270), (vr 271), (vi 577), (vi 210), (vs "/claim/cut.py" 578)]
noncomputable def o327 (P : Params) : Obj := (Obj.mk (vt "function") nN (Data.func (FuncData.mk (sx "variable") (sx "Scanner.variable") (fnArgs (nth (clsBody c26) 12)) (FuncBody.stmts (fnBody (nth (clsBody c26) 12))) (fnScope (nth (clsBody c26) 12)) (3 : Nat) nC Value.none Value.none Value.none (vs "pagebase.words" 312) nN (vr 272) Value.none (0 : Nat))) n0)
noncomputable def o328 (P : Params) : Obj := tu [(vs "found" 580), (vs "greatest" 581), (vs "place" 582), (vs "text" 583)]
noncomputable def o329 (P : Params) : Obj := (Obj.mk (vt "dict") nN (Data.dict (List.toArray [(de P "__module__" 444 (vs "pagebase.words" 312)), (de P "__firstlineno__" 448 (Value.int 85 (447 : Nat))), (de P "__init__" 456 (vr 189)), (de P "gather" 467 (vr 196)), (de P "refuse" 475 (vr 203)), (de P "run" 484 (vr 210)), (de P "end_of" 494 (vr 217)), (de P "bare" 505 (vr 224)), (de P "closing" 516 (vr 231)), (de P "quoted_word" 526 (vr 238)), (de P "blob" 536 (vr 245)), (de P "number" 547 (vr 252)), (de P "value_of" 558 (vr 259)), (de P "mark" 569 (vr 266)), (de P "variable" 579 (vr 273)), (de P "__static_attributes__" 584 (vr 274)), (de P "__dict__" 586 (vr 277)), (de P "__weakref__" 588 (vr 278)), (de P "__doc__" 589 Value.none)]) (4 : Nat)) n0)
noncomputable def o330 (P : Params) : Obj := (Obj.mk (vt "type") nN (Data.cls (ClassData.mk (sx "Scanner") [(vt "object")] [(vr 276), (vt "object")] (275 : Nat) (sx "Scanner") Bool.true [] [] Bool.false none Bool.false)) (List.toArray [none, none, (some (vs "Scanner" 437)), (some (vs "Scanner" 445)), (some (vb "object.__new__")), (some (Value.bool Bool.true))]))
noncomputable def o331 (P : Params) : Obj := ft "getset_descriptor" [(vs "__dict__" 585), (vr 276), (vb "function.__dict__"), (vb "function.__dict__#set")]
noncomputable def o332 (P : Params) : Obj := ft "getset_descriptor" [(vs "__weakref__" 587), (vr 276), (vb "ExceptionGroup.__weakref__"), Value.none]
noncomputable def o333 (P : Params) : Obj := ft "super" [(vr 276), (vr 276), (vr 276)]
noncomputable def o334 (P : Params) : Obj := ft "builtin_function_or_method" [(vb "object.__init_subclass__"), (vr 276)]
noncomputable def o335 (P : Params) : Obj := fi [(vi 1), (vi 0), (vr 20), (vi 5), (vi 0), (vr 27), (vi 9), (vi 0), (vr 47), (vi 11), (vi 0), (vr 59), (vi 16), (vi 0), (vr 78), (vi 20), (vi 0), (vr 90), (vi 26), (vi 0), (vr 97), (vi 36), (vi 0), (vr 104), (vi 57), (vi 0), (vr 111), (vi 61), (vi 0), (vr 118), (vi 63), (vi 0), (vr 125), (vi 85), (vi 0), (vr 181)]
noncomputable def o336 (P : Params) : Obj := tu []
noncomputable def o337 (P : Params) : Obj := ft "builtin_function_or_method" [(vb "type.__prepare__"), (vt "type")]
noncomputable def o338 (P : Params) : Obj := (Obj.mk (vt "dict") nN (Data.dict (List.toArray [(de P "__module__" 444 (vs "pagebase.words" 312)), (de P "__qualname__" 446 (vs "Scanner" 445)), (de P "__firstlineno__" 448 (Value.int 85 (447 : Nat))), (de P "__init__" 456 (vr 189)), (de P "gather" 467 (vr 196)), (de P "refuse" 475 (vr 203)), (de P "run" 484 (vr 210)), (de P "end_of" 494 (vr 217)), (de P "bare" 505 (vr 224)), (de P "closing" 516 (vr 231)), (de P "quoted_word" 526 (vr 238)), (de P "blob" 536 (vr 245)), (de P "number" 547 (vr 252))]) (13 : Nat)) n0)
noncomputable def o339 (P : Params) : Obj := tu []
noncomputable def o340 (P : Params) : Obj := fi [(vi 87), (vi 4), (vr 188), (vi 93), (vi 4), (vr 195), (vi 97), (vi 4), (vr 202), (vi 100), (vi 4), (vr 209), (vi 117), (vi 4), (vr 216), (vi 123), (vi 4), (vr 223), (vi 134), (vi 4), (vr 230), (vi 146), (vi 4), (vr 237), (vi 156), (vi 4), (vr 244), (vi 165), (vi 4), (vr 251)]
noncomputable def o341 (P : Params) : Obj := ft "code" [(vs "Scanner" 439), (vs "Scanner" 440), (vs "/claim/cut.py" 441), (vi 85), (vi 0), (vi 0), (vi 0), (vi 0), (vr 179), (Value.bool Bool.false), (vi 181), (vr 180), Value.none, Value.none, Value.none, Value.none, (vi 442), (vi 85), (vs "/claim/cut.py" 443)]
noncomputable def o342 (P : Params) : Obj := (Obj.mk (vt "frame") nN Data.plain (List.toArray [(some (vr 181)), (some (vr 3)), (some (vr 178)), none, (some (vs "pagebase.words" 312)), none, (some (vr 0))]))
noncomputable def o343 (P : Params) : Obj := tu []
noncomputable def o344 (P : Params) : Obj := fi []
noncomputable def o345 (P : Params) : Obj := tu [(vs "self" 452), (vs "text" 453)]
noncomputable def o346 (P : Params) : Obj := tu []
noncomputable def o347 (P : Params) : Obj := (Obj.mk Value.none nN (Data.func (FuncData.mk (sx "__init__") (sx "Scanner.__init__") (fnArgs (nth (clsBody c26) 0)) (FuncBody.stmts (fnBody (nth (clsBody c26) 0))) (fnScope (nth (clsBody c26) 0)) (0 : Nat) nC Value.none Value.none Value.none Value.none nN Value.none Value.none (0 : Nat))) n0)
noncomputable def o348 (P : Params) : Obj := ft "code" [(vs "__init__" 449), (vs "Scanner.__init__" 450), (vs "/claim/cut.py" 451), (vi 87), (vi 2), (vi 0), (vi 0), (vi 3), (vr 183), (Value.bool Bool.true), (vi 181), (vr 184), Value.none, (vr 185), (vr 186), (vr 187), (vi 454), (vi 87), (vs "/claim/cut.py" 455)]
noncomputable def o349 (P : Params) : Obj := (Obj.mk (vt "function") nN (Data.func (FuncData.mk (sx "__init__") (sx "Scanner.__init__") (fnArgs (nth (clsBody c26) 0)) (FuncBody.stmts (fnBody (nth (clsBody c26) 0))) (fnScope (nth (clsBody c26) 0)) (3 : Nat) nC Value.none Value.none Value.none (vs "pagebase.words" 312) nN (vr 188) Value.none (0 : Nat))) n0)
noncomputable def o350 (P : Params) : Obj := tu []
noncomputable def o351 (P : Params) : Obj := fi []
noncomputable def o352 (P : Params) : Obj := tu [(vs "self" 460), (vs "kind" 461), (vs "text" 462), (vs "value" 463), (vs "end" 464)]
noncomputable def o353 (P : Params) : Obj := tu []
noncomputable def o354 (P : Params) : Obj := (Obj.mk Value.none nN (Data.func (FuncData.mk (sx "gather") (sx "Scanner.gather") (fnArgs (nth (clsBody c26) 1)) (FuncBody.stmts (fnBody (nth (clsBody c26) 1))) (fnScope (nth (clsBody c26) 1)) (0 : Nat) nC Value.none Value.none Value.none Value.none nN Value.none Value.none (0 : Nat))) n0)
noncomputable def o355 (P : Params) : Obj := ft "code" [(vs "gather" 457), (vs "Scanner.gather" 458), (vs "/claim/cut.py" 459), (vi 93), (vi 5), (vi 0), (vi 0), (vi 3), (vr 190), (Value.bool Bool.true), (vi 181), (vr 191), Value.none, (vr 192), (vr 193), (vr 194), (vi 465), (vi 93), (vs "/claim/cut.py" 466)]
noncomputable def o356 (P : Params) : Obj := (Obj.mk (vt "function") nN (Data.func (FuncData.mk (sx "gather") (sx "Scanner.gather") (fnArgs (nth (clsBody c26) 1)) (FuncBody.stmts (fnBody (nth (clsBody c26) 1))) (fnScope (nth (clsBody c26) 1)) (3 : Nat) nC Value.none Value.none Value.none (vs "pagebase.words" 312) nN (vr 195) Value.none (0 : Nat))) n0)
noncomputable def o357 (P : Params) : Obj := tu []
noncomputable def o358 (P : Params) : Obj := fi []
noncomputable def o359 (P : Params) : Obj := tu [(vs "self" 471), (vs "message" 472)]
noncomputable def o360 (P : Params) : Obj := tu []
noncomputable def o361 (P : Params) : Obj := (Obj.mk Value.none nN (Data.func (FuncData.mk (sx "refuse") (sx "Scanner.refuse") (fnArgs (nth (clsBody c26) 2)) (FuncBody.stmts (fnBody (nth (clsBody c26) 2))) (fnScope (nth (clsBody c26) 2)) (0 : Nat) nC Value.none Value.none Value.none Value.none nN Value.none Value.none (0 : Nat))) n0)
noncomputable def o362 (P : Params) : Obj := ft "code" [(vs "refuse" 468), (vs "Scanner.refuse" 469), (vs "/claim/cut.py" 470), (vi 97), (vi 2), (vi 0), (vi 0), (vi 3), (vr 197), (Value.bool Bool.true), (vi 181), (vr 198), Value.none, (vr 199), (vr 200), (vr 201), (vi 473), (vi 97), (vs "/claim/cut.py" 474)]
noncomputable def o363 (P : Params) : Obj := (Obj.mk (vt "function") nN (Data.func (FuncData.mk (sx "refuse") (sx "Scanner.refuse") (fnArgs (nth (clsBody c26) 2)) (FuncBody.stmts (fnBody (nth (clsBody c26) 2))) (fnScope (nth (clsBody c26) 2)) (3 : Nat) nC Value.none Value.none Value.none (vs "pagebase.words" 312) nN (vr 202) Value.none (0 : Nat))) n0)
noncomputable def o364 (P : Params) : Obj := tu []
noncomputable def o365 (P : Params) : Obj := fi []
noncomputable def o366 (P : Params) : Obj := tu [(vs "self" 479), (vs "size" 480), (vs "sign" 481)]
noncomputable def o367 (P : Params) : Obj := tu []
noncomputable def o368 (P : Params) : Obj := (Obj.mk Value.none nN (Data.func (FuncData.mk (sx "run") (sx "Scanner.run") (fnArgs (nth (clsBody c26) 3)) (FuncBody.stmts (fnBody (nth (clsBody c26) 3))) (fnScope (nth (clsBody c26) 3)) (0 : Nat) nC Value.none Value.none Value.none Value.none nN Value.none Value.none (0 : Nat))) n0)
noncomputable def o369 (P : Params) : Obj := ft "code" [(vs "run" 476), (vs "Scanner.run" 477), (vs "/claim/cut.py" 478), (vi 100), (vi 1), (vi 0), (vi 0), (vi 3), (vr 204), (Value.bool Bool.true), (vi 181), (vr 205), Value.none, (vr 206), (vr 207), (vr 208), (vi 482), (vi 100), (vs "/claim/cut.py" 483)]
noncomputable def o370 (P : Params) : Obj := (Obj.mk (vt "function") nN (Data.func (FuncData.mk (sx "run") (sx "Scanner.run") (fnArgs (nth (clsBody c26) 3)) (FuncBody.stmts (fnBody (nth (clsBody c26) 3))) (fnScope (nth (clsBody c26) 3)) (3 : Nat) nC Value.none Value.none Value.none (vs "pagebase.words" 312) nN (vr 209) Value.none (0 : Nat))) n0)
noncomputable def o371 (P : Params) : Obj := tu []
noncomputable def o372 (P : Params) : Obj := fi []
noncomputable def o373 (P : Params) : Obj := tu [(vs "self" 488), (vs "signs" 489), (vs "end" 490), (vs "text" 491)]
noncomputable def o374 (P : Params) : Obj := tu []
noncomputable def o375 (P : Params) : Obj := (Obj.mk Value.none nN (Data.func (FuncData.mk (sx "end_of") (sx "Scanner.end_of") (fnArgs (nth (clsBody c26) 4)) (FuncBody.stmts (fnBody (nth (clsBody c26) 4))) (fnScope (nth (clsBody c26) 4)) (0 : Nat) nC Value.none Value.none Value.none Value.none nN Value.none Value.none (0 : Nat))) n0)
noncomputable def o376 (P : Params) : Obj := ft "code" [(vs "end_of" 485), (vs "Scanner.end_of" 486), (vs "/claim/cut.py" 487), (vi 117), (vi 3), (vi 0), (vi 0), (vi 3), (vr 211), (Value.bool Bool.true), (vi 181), (vr 212), Value.none, (vr 213), (vr 214), (vr 215), (vi 492), (vi 117), (vs "/claim/cut.py" 493)]
noncomputable def o377 (P : Params) : Obj := (Obj.mk (vt "function") nN (Data.func (FuncData.mk (sx "end_of") (sx "Scanner.end_of") (fnArgs (nth (clsBody c26) 4)) (FuncBody.stmts (fnBody (nth (clsBody c26) 4))) (fnScope (nth (clsBody c26) 4)) (3 : Nat) nC Value.none Value.none Value.none (vs "pagebase.words" 312) nN (vr 216) Value.none (0 : Nat))) n0)
noncomputable def o378 (P : Params) : Obj := tu []
noncomputable def o379 (P : Params) : Obj := fi []
noncomputable def o380 (P : Params) : Obj := tu [(vs "self" 498), (vs "sign" 499), (vs "text" 500), (vs "end" 501), (vs "written" 502)]
noncomputable def o381 (P : Params) : Obj := tu []
noncomputable def o382 (P : Params) : Obj := (Obj.mk Value.none nN (Data.func (FuncData.mk (sx "bare") (sx "Scanner.bare") (fnArgs (nth (clsBody c26) 5)) (FuncBody.stmts (fnBody (nth (clsBody c26) 5))) (fnScope (nth (clsBody c26) 5)) (0 : Nat) nC Value.none Value.none Value.none Value.none nN Value.none Value.none (0 : Nat))) n0)
noncomputable def o383 (P : Params) : Obj := ft "code" [(vs "bare" 495), (vs "Scanner.bare" 496), (vs "/claim/cut.py" 497), (vi 123), (vi 2), (vi 0), (vi 0), (vi 3), (vr 218), (Value.bool Bool.true), (vi 181), (vr 219), Value.none, (vr 220), (vr 221), (vr 222), (vi 503), (vi 123), (vs "/claim/cut.py" 504)]
noncomputable def o384 (P : Params) : Obj := (Obj.mk (vt "function") nN (Data.func (FuncData.mk (sx "bare") (sx "Scanner.bare") (fnArgs (nth (clsBody c26) 5)) (FuncBody.stmts (fnBody (nth (clsBody c26) 5))) (fnScope (nth (clsBody c26) 5)) (3 : Nat) nC Value.none Value.none Value.none (vs "pagebase.words" 312) nN (vr 223) Value.none (0 : Nat))) n0)
noncomputable def o385 (P : Params) : Obj := tu []
noncomputable def o386 (P : Params) : Obj := fi []
noncomputable def o387 (P : Params) : Obj := tu [(vs "self" 509), (vs "quote" 510), (vs "begin" 511), (vs "parts" 512), (vs "end" 513)]
noncomputable def o388 (P : Params) : Obj := tu []
noncomputable def o389 (P : Params) : Obj := (Obj.mk Value.none nN (Data.func (FuncData.mk (sx "closing") (sx "Scanner.closing") (fnArgs (nth (clsBody c26) 6)) (FuncBody.stmts (fnBody (nth (clsBody c26) 6))) (fnScope (nth (clsBody c26) 6)) (0 : Nat) nC Value.none Value.none Value.none Value.none nN Value.none Value.none (0 : Nat))) n0)
noncomputable def o390 (P : Params) : Obj := ft "code" [(vs "closing" 506), (vs "Scanner.closing" 507), (vs "/claim/cut.py" 508), (vi 134), (vi 3), (vi 0), (vi 0), (vi 3), (vr 225), (Value.bool Bool.true), (vi 181), (vr 226), Value.none, (vr 227), (vr 228), (vr 229), (vi 514), (vi 134), (vs "/claim/cut.py" 515)]
noncomputable def o391 (P : Params) : Obj := (Obj.mk (vt "function") nN (Data.func (FuncData.mk (sx "closing") (sx "Scanner.closing") (fnArgs (nth (clsBody c26) 6)) (FuncBody.stmts (fnBody (nth (clsBody c26) 6))) (fnScope (nth (clsBody c26) 6)) (3 : Nat) nC Value.none Value.none Value.none (vs "pagebase.words" 312) nN (vr 230) Value.none (0 : Nat))) n0)
noncomputable def o392 (P : Params) : Obj := tu []
noncomputable def o393 (P : Params) : Obj := fi []
noncomputable def o394 (P : Params) : Obj := tu [(vs "self" 520), (vs "quote" 521), (vs "end" 522), (vs "value" 523)]
noncomputable def o395 (P : Params) : Obj := tu []
noncomputable def o396 (P : Params) : Obj := (Obj.mk Value.none nN (Data.func (FuncData.mk (sx "quoted_word") (sx "Scanner.quoted_word") (fnArgs (nth (clsBody c26) 7)) (FuncBody.stmts (fnBody (nth (clsBody c26) 7))) (fnScope (nth (clsBody c26) 7)) (0 : Nat) nC Value.none Value.none Value.none Value.none nN Value.none Value.none (0 : Nat))) n0)
noncomputable def o397 (P : Params) : Obj := ft "code" [(vs "quoted_word" 517), (vs "Scanner.quoted_word" 518), (vs "/claim/cut.py" 519), (vi 146), (vi 2), (vi 0), (vi 0), (vi 3), (vr 232), (Value.bool Bool.true), (vi 181), (vr 233), Value.none, (vr 234), (vr 235), (vr 236), (vi 524), (vi 146), (vs "/claim/cut.py" 525)]
noncomputable def o398 (P : Params) : Obj := (Obj.mk (vt "function") nN (Data.func (FuncData.mk (sx "quoted_word") (sx "Scanner.quoted_word") (fnArgs (nth (clsBody c26) 7)) (FuncBody.stmts (fnBody (nth (clsBody c26) 7))) (fnScope (nth (clsBody c26) 7)) (3 : Nat) nC Value.none Value.none Value.none (vs "pagebase.words" 312) nN (vr 237) Value.none (0 : Nat))) n0)
noncomputable def o399 (P : Params) : Obj := tu []
noncomputable def o400 (P : Params) : Obj := fi []
noncomputable def o401 (P : Params) : Obj := tu [(vs "self" 530), (vs "figures" 531), (vs "end" 532), (vs "sign" 533)]
noncomputable def o402 (P : Params) : Obj := tu []
noncomputable def o403 (P : Params) : Obj := (Obj.mk Value.none nN (Data.func (FuncData.mk (sx "blob") (sx "Scanner.blob") (fnArgs (nth (clsBody c26) 8)) (FuncBody.stmts (fnBody (nth (clsBody c26) 8))) (fnScope (nth (clsBody c26) 8)) (0 : Nat) nC Value.none Value.none Value.none Value.none nN Value.none Value.none (0 : Nat))) n0)
noncomputable def o404 (P : Params) : Obj := ft "code" [(vs "blob" 527), (vs "Scanner.blob" 528), (vs "/claim/cut.py" 529), (vi 156), (vi 1), (vi 0), (vi 0), (vi 3), (vr 239), (Value.bool Bool.true), (vi 181), (vr 240), Value.none, (vr 241), (vr 242), (vr 243), (vi 534), (vi 156), (vs "/claim/cut.py" 535)]
noncomputable def o405 (P : Params) : Obj := (Obj.mk (vt "function") nN (Data.func (FuncData.mk (sx "blob") (sx "Scanner.blob") (fnArgs (nth (clsBody c26) 8)) (FuncBody.stmts (fnBody (nth (clsBody c26) 8))) (fnScope (nth (clsBody c26) 8)) (3 : Nat) nC Value.none Value.none Value.none (vs "pagebase.words" 312) nN (vr 244) Value.none (0 : Nat))) n0)
noncomputable def o406 (P : Params) : Obj := tu []
noncomputable def o407 (P : Params) : Obj := fi []
noncomputable def o408 (P : Params) : Obj := tu [(vs "self" 540), (vs "begin" 541), (vs "end" 542), (vs "value" 543), (vs "behind" 544)]
noncomputable def o409 (P : Params) : Obj := tu []
noncomputable def o410 (P : Params) : Obj := (Obj.mk Value.none nN (Data.func (FuncData.mk (sx "number") (sx "Scanner.number") (fnArgs (nth (clsBody c26) 9)) (FuncBody.stmts (fnBody (nth (clsBody c26) 9))) (fnScope (nth (clsBody c26) 9)) (0 : Nat) nC Value.none Value.none Value.none Value.none nN Value.none Value.none (0 : Nat))) n0)
noncomputable def o411 (P : Params) : Obj := ft "code" [(vs "number" 537), (vs "Scanner.number" 538), (vs "/claim/cut.py" 539), (vi 165), (vi 1), (vi 0), (vi 0), (vi 3), (vr 246), (Value.bool Bool.true), (vi 181), (vr 247), Value.none, (vr 248), (vr 249), (vr 250), (vi 545), (vi 165), (vs "/claim/cut.py" 546)]
noncomputable def o412 (P : Params) : Obj := (Obj.mk (vt "function") nN (Data.func (FuncData.mk (sx "number") (sx "Scanner.number") (fnArgs (nth (clsBody c26) 9)) (FuncBody.stmts (fnBody (nth (clsBody c26) 9))) (fnScope (nth (clsBody c26) 9)) (3 : Nat) nC Value.none Value.none Value.none (vs "pagebase.words" 312) nN (vr 251) Value.none (0 : Nat))) n0)
noncomputable def o413 (P : Params) : Obj := tu []
noncomputable def o414 (P : Params) : Obj := fi []
noncomputable def o418 (P : Params) : Obj := (Obj.mk (vt "dict") nN (Data.dict (List.toArray [(de P "__name__" 165 (vs "law_pb0448_01" 599)), (de P "__doc__" 166 Value.none), (de P "__package__" 167 Value.none), (de P "__loader__" 168 (vb "__main__.__loader__#opaque")), (de P "__spec__" 169 Value.none), (de P "__annotations__" 170 (vr 6)), (de P "__builtins__" 171 (vr 4)), (de P "__file__" 173 (vs "/claim/cut.py" 172)), (de P "__cached__" 174 Value.none), (de P "_wall" 193 (vr 21)), (de P "PagebaseError" 224 (vr 38)), (de P "SqlError" 240 (vr 51)), (de P "ParseError" 267 (vr 70)), (de P "MisuseError" 283 (vr 82)), (de P "HEX_DIGITS" 287 (vs "0123456789ABCDEF" 286)), (de P "hex_text" 296 (vr 91)), (de P "storage_class" 303 (vr 98)), (de P "write_literal" 311 (vr 105)), (de P "QUOTES" 315 (vs "'\"`[" 314)), (de P "BLANKS" 317 (vs " \t\n\x0d\x0c" 316)), (de P "FIGURES" 319 (vs "0123456789" 318)), (de P "HEX_FIGURES" 321 (vs "0123456789abcdefABCDEF" 320)), (de P "LETTERS" 323 (vs "abcdefghijklmnopqrstuvwxyzABCDEFGHIJKLMNOPQRSTUVWXYZ_" 322)), (de P "NAME_SIGNS" 327 (vs "abcdefghijklmnopqrstuvwxyzABCDEFGHIJKLMNOPQRSTUVWXYZ_0123456789$" 326)), (de P "SIGNS_OF_TWO" 336 (vr 106)), (de P "SIGNS_OF_ONE" 338 (vs "(),.;+-*/%=<>&|~" 337)), (de P "LIKE_SIGNS" 345 (vr 107)), (de P "MOST_VARIABLE" 347 (Value.int 999 (346 : Nat))), (de P "GREATEST" 351 (Value.int 9223372036854775808 (350 : Nat))), (de P "folded" 357 (vr 112)), (de P "goes_on_name" 364 (vr 119)), (de P "Word" 436 (vr 171)), (de P "Scanner" 591 (vr 276)), (de P "read_words" 598 (vr 287)), (de P "_law_pool" 611 (vr 294)), (de P "_law_take" 620 (vr 301)), (de P "_law_one" 628 (vr 308)), (de P "_law_value" 634 (vr 313)), (de P "_law_due" 640 (vr 318)), (de P "_law_value_right" 646 (vr 323)), (de P "_law_all_right" 652 (vr 328)), (de P "law" 658 (vr 333))]) (42 : Nat)) n0)
noncomputable def o419 (P : Params) : Obj := fi [(vi 1), (vi 0), (vr 20), (vi 5), (vi 0), (vr 27), (vi 9), (vi 0), (vr 47), (vi 11), (vi 0), (vr 59), (vi 16), (vi 0), (vr 78), (vi 20), (vi 0), (vr 90), (vi 26), (vi 0), (vr 97), (vi 36), (vi 0), (vr 104), (vi 57), (vi 0), (vr 111), (vi 61), (vi 0), (vr 118), (vi 63), (vi 0), (vr 125), (vi 85), (vi 0), (vr 181), (vi 218), (vi 0), (vr 286), (vi 221), (vi 0), (vr 293), (vi 228), (vi 0), (vr 300), (vi 235), (vi 0), (vr 307), (vi 237), (vi 0), (vr 312), (vi 250), (vi 0), (vr 317), (vi 263), (vi 0), (vr 322), (vi 268), (vi 0), (vr 327), (vi 280), (vi 0), (vr 332)]
noncomputable def o420 (P : Params) : Obj := tu []
noncomputable def o421 (P : Params) : Obj := fi []
noncomputable def o422 (P : Params) : Obj := tu [(vs "text" 595)]
noncomputable def o423 (P : Params) : Obj := tu []
noncomputable def o424 (P : Params) : Obj := (Obj.mk Value.none nN (Data.func (FuncData.mk (sx "read_words") (sx "read_words") (fnArgs c27) (FuncBody.stmts (fnBody c27)) (fnScope c27) (0 : Nat) nC Value.none Value.none Value.none Value.none nN Value.none Value.none (0 : Nat))) n0)
noncomputable def o425 (P : Params) : Obj := ft "code" [(vs "read_words" 592), (vs "read_words" 593), (vs "/claim/cut.py" 594), (vi 218), (vi 1), (vi 0), (vi 0), (vi 3), (vr 281), (Value.bool Bool.true), (vi 181), (vr 282), Value.none, (vr 283), (vr 284), (vr 285), (vi 596), (vi 218), (vs "/claim/cut.py" 597)]
noncomputable def o426 (P : Params) : Obj := (Obj.mk (vt "function") nN (Data.func (FuncData.mk (sx "read_words") (sx "read_words") (fnArgs c27) (FuncBody.stmts (fnBody c27)) (fnScope c27) (3 : Nat) nC Value.none Value.none Value.none (vs "pagebase.words" 312) nN (vr 286) Value.none (0 : Nat))) n0)
noncomputable def o427 (P : Params) : Obj := tu []
noncomputable def o428 (P : Params) : Obj := fi []
noncomputable def o429 (P : Params) : Obj := tu [(vs "script" 604), (vs "k" 605), (vs "cell" 606), (vs "big" 607), (vs "mixed" 608)]
noncomputable def o430 (P : Params) : Obj := tu []
noncomputable def o431 (P : Params) : Obj := (Obj.mk Value.none nN (Data.func (FuncData.mk (sx "_law_pool") (sx "_law_pool") (fnArgs c29) (FuncBody.stmts (fnBody c29)) (fnScope c29) (0 : Nat) nC Value.none Value.none Value.none Value.none nN Value.none Value.none (0 : Nat))) n0)
noncomputable def o432 (P : Params) : Obj := ft "code" [(vs "_law_pool" 601), (vs "_law_pool" 602), (vs "/claim/cut.py" 603), (vi 221), (vi 2), (vi 0), (vi 0), (vi 3), (vr 288), (Value.bool Bool.true), (vi 181), (vr 289), Value.none, (vr 290), (vr 291), (vr 292), (vi 609), (vi 221), (vs "/claim/cut.py" 610)]
noncomputable def o433 (P : Params) : Obj := (Obj.mk (vt "function") nN (Data.func (FuncData.mk (sx "_law_pool") (sx "_law_pool") (fnArgs c29) (FuncBody.stmts (fnBody c29)) (fnScope c29) (3 : Nat) nC Value.none Value.none Value.none (vs "law_pb0448_01" 599) nN (vr 293) Value.none (0 : Nat))) n0)
noncomputable def o434 (P : Params) : Obj := tu []
noncomputable def o435 (P : Params) : Obj := fi []
noncomputable def o436 (P : Params) : Obj := tu [(vs "source" 615), (vs "top" 616), (vs "digit" 617)]
noncomputable def o437 (P : Params) : Obj := tu []
noncomputable def o438 (P : Params) : Obj := (Obj.mk Value.none nN (Data.func (FuncData.mk (sx "_law_take") (sx "_law_take") (fnArgs c30) (FuncBody.stmts (fnBody c30)) (fnScope c30) (0 : Nat) nC Value.none Value.none Value.none Value.none nN Value.none Value.none (0 : Nat))) n0)
noncomputable def o439 (P : Params) : Obj := ft "code" [(vs "_law_take" 612), (vs "_law_take" 613), (vs "/claim/cut.py" 614), (vi 228), (vi 2), (vi 0), (vi 0), (vi 3), (vr 295), (Value.bool Bool.true), (vi 181), (vr 296), Value.none, (vr 297), (vr 298), (vr 299), (vi 618), (vi 228), (vs "/claim/cut.py" 619)]
noncomputable def o440 (P : Params) : Obj := (Obj.mk (vt "function") nN (Data.func (FuncData.mk (sx "_law_take") (sx "_law_take") (fnArgs c30) (FuncBody.stmts (fnBody c30)) (fnScope c30) (3 : Nat) nC Value.none Value.none Value.none (vs "law_pb0448_01" 599) nN (vr 300) Value.none (0 : Nat))) n0)
noncomputable def o441 (P : Params) : Obj := tu []
noncomputable def o442 (P : Params) : Obj := fi []
noncomputable def o443 (P : Params) : Obj := tu [(vs "source" 624), (vs "things" 625)]
noncomputable def o444 (P : Params) : Obj := tu []
noncomputable def o445 (P : Params) : Obj := (Obj.mk Value.none nN (Data.func (FuncData.mk (sx "_law_one") (sx "_law_one") (fnArgs c31) (FuncBody.stmts (fnBody c31)) (fnScope c31) (0 : Nat) nC Value.none Value.none Value.none Value.none nN Value.none Value.none (0 : Nat))) n0)
noncomputable def o446 (P : Params) : Obj := ft "code" [(vs "_law_one" 621), (vs "_law_one" 622), (vs "/claim/cut.py" 623), (vi 235), (vi 2), (vi 0), (vi 0), (vi 3), (vr 302), (Value.bool Bool.true), (vi 181), (vr 303), Value.none, (vr 304), (vr 305), (vr 306), (vi 626), (vi 235), (vs "/claim/cut.py" 627)]
noncomputable def o447 (P : Params) : Obj := (Obj.mk (vt "function") nN (Data.func (FuncData.mk (sx "_law_one") (sx "_law_one") (fnArgs c31) (FuncBody.stmts (fnBody c31)) (fnScope c31) (3 : Nat) nC Value.none Value.none Value.none (vs "law_pb0448_01" 599) nN (vr 307) Value.none (0 : Nat))) n0)
noncomputable def o448 (P : Params) : Obj := tu []
noncomputable def o449 (P : Params) : Obj := fi []
noncomputable def o450 (P : Params) : Obj := (Obj.mk Value.none nN (Data.func (FuncData.mk (sx "_law_value") (sx "_law_value") (fnArgs c32) (FuncBody.stmts (fnBody c32)) (fnScope c32) (0 : Nat) nC Value.none Value.none Value.none Value.none nN Value.none Value.none (0 : Nat))) n0)
noncomputable def o451 (P : Params) : Obj := ft "code" [(vs "_law_value" 629), (vs "_law_value" 630), (vs "/claim/cut.py" 631), (vi 237), (vi 1), (vi 0), (vi 0), (vi 3), (vr 309), (Value.bool Bool.true), (vi 181), (vr 310), Value.none, Value.none, Value.none, (vr 311), (vi 632), (vi 237), (vs "/claim/cut.py" 633)]
noncomputable def o452 (P : Params) : Obj := (Obj.mk (vt "function") nN (Data.func (FuncData.mk (sx "_law_value") (sx "_law_value") (fnArgs c32) (FuncBody.stmts (fnBody c32)) (fnScope c32) (3 : Nat) nC Value.none Value.none Value.none (vs "law_pb0448_01" 599) nN (vr 312) Value.none (0 : Nat))) n0)
noncomputable def o453 (P : Params) : Obj := tu []
noncomputable def o454 (P : Params) : Obj := fi []
noncomputable def o455 (P : Params) : Obj := (Obj.mk Value.none nN (Data.func (FuncData.mk (sx "_law_due") (sx "_law_due") (fnArgs c33) (FuncBody.stmts (fnBody c33)) (fnScope c33) (0 : Nat) nC Value.none Value.none Value.none Value.none nN Value.none Value.none (0 : Nat))) n0)
noncomputable def o456 (P : Params) : Obj := ft "code" [(vs "_law_due" 635), (vs "_law_due" 636), (vs "/claim/cut.py" 637), (vi 250), (vi 1), (vi 0), (vi 0), (vi 3), (vr 314), (Value.bool Bool.true), (vi 181), (vr 315), Value.none, Value.none, Value.none, (vr 316), (vi 638), (vi 250), (vs "/claim/cut.py" 639)]
noncomputable def o457 (P : Params) : Obj := (Obj.mk (vt "function") nN (Data.func (FuncData.mk (sx "_law_due") (sx "_law_due") (fnArgs c33) (FuncBody.stmts (fnBody c33)) (fnScope c33) (3 : Nat) nC Value.none Value.none Value.none (vs "law_pb0448_01" 599) nN (vr 317) Value.none (0 : Nat))) n0)
noncomputable def o458 (P : Params) : Obj := tu []
noncomputable def o459 (P : Params) : Obj := fi []
noncomputable def o460 (P : Params) : Obj := (Obj.mk Value.none nN (Data.func (FuncData.mk (sx "_law_value_right") (sx "_law_value_right") (fnArgs c34) (FuncBody.stmts (fnBody c34)) (fnScope c34) (0 : Nat) nC Value.none Value.none Value.none Value.none nN Value.none Value.none (0 : Nat))) n0)
noncomputable def o461 (P : Params) : Obj := ft "code" [(vs "_law_value_right" 641), (vs "_law_value_right" 642), (vs "/claim/cut.py" 643), (vi 263), (vi 1), (vi 0), (vi 0), (vi 3), (vr 319), (Value.bool Bool.true), (vi 181), (vr 320), Value.none, Value.none, Value.none, (vr 321), (vi 644), (vi 263), (vs "/claim/cut.py" 645)]
noncomputable def o462 (P : Params) : Obj := (Obj.mk (vt "function") nN (Data.func (FuncData.mk (sx "_law_value_right") (sx "_law_value_right") (fnArgs c34) (FuncBody.stmts (fnBody c34)) (fnScope c34) (3 : Nat) nC Value.none Value.none Value.none (vs "law_pb0448_01" 599) nN (vr 322) Value.none (0 : Nat))) n0)
noncomputable def o463 (P : Params) : Obj := tu []
noncomputable def o464 (P : Params) : Obj := fi []
noncomputable def o465 (P : Params) : Obj := (Obj.mk Value.none nN (Data.func (FuncData.mk (sx "_law_all_right") (sx "_law_all_right") (fnArgs c35) (FuncBody.stmts (fnBody c35)) (fnScope c35) (0 : Nat) nC Value.none Value.none Value.none Value.none nN Value.none Value.none (0 : Nat))) n0)
noncomputable def o466 (P : Params) : Obj := ft "code" [(vs "_law_all_right" 647), (vs "_law_all_right" 648), (vs "/claim/cut.py" 649), (vi 268), (vi 1), (vi 0), (vi 0), (vi 3), (vr 324), (Value.bool Bool.true), (vi 181), (vr 325), Value.none, Value.none, Value.none, (vr 326), (vi 650), (vi 268), (vs "/claim/cut.py" 651)]
noncomputable def o467 (P : Params) : Obj := (Obj.mk (vt "function") nN (Data.func (FuncData.mk (sx "_law_all_right") (sx "_law_all_right") (fnArgs c35) (FuncBody.stmts (fnBody c35)) (fnScope c35) (3 : Nat) nC Value.none Value.none Value.none (vs "law_pb0448_01" 599) nN (vr 327) Value.none (0 : Nat))) n0)
noncomputable def o468 (P : Params) : Obj := tu []
noncomputable def o469 (P : Params) : Obj := fi []
noncomputable def o470 (P : Params) : Obj := (Obj.mk Value.none nN (Data.func (FuncData.mk (sx "law") (sx "law") (fnArgs c36) (FuncBody.stmts (fnBody c36)) (fnScope c36) (0 : Nat) nC Value.none Value.none Value.none Value.none nN Value.none Value.none (0 : Nat))) n0)
noncomputable def o471 (P : Params) : Obj := ft "code" [(vs "law" 653), (vs "law" 654), (vs "/claim/cut.py" 655), (vi 280), (vi 1), (vi 0), (vi 0), (vi 3), (vr 329), (Value.bool Bool.true), (vi 181), (vr 330), Value.none, Value.none, Value.none, (vr 331), (vi 656), (vi 280), (vs "/claim/cut.py" 657)]
noncomputable def o472 (P : Params) : Obj := (Obj.mk (vt "function") nN (Data.func (FuncData.mk (sx "law") (sx "law") (fnArgs c36) (FuncBody.stmts (fnBody c36)) (fnScope c36) (3 : Nat) nC Value.none Value.none Value.none (vs "law_pb0448_01" 599) nN (vr 332) Value.none (0 : Nat))) n0)
noncomputable def t47 (P : Params) : BT := (BT.node (boot_o_0 P) (BT.node (boot_o_1 P) (BT.node (boot_o_3 P) (BT.node (boot_o_7 P) BT.nil BT.nil) (BT.node (o43 P) BT.nil BT.nil)) (BT.node (boot_o_5 P) (BT.node (boot_o_9 P) BT.nil BT.nil) (BT.node (o45 P) BT.nil BT.nil))) (BT.node (boot_o_2 P) (BT.node (boot_o_4 P) (BT.node (boot_o_8 P) BT.nil BT.nil) (BT.node (o44 P) BT.nil BT.nil)) (BT.node (boot_o_6 P) (BT.node (boot_o_10 P) BT.nil BT.nil) (BT.node (o46 P) BT.nil BT.nil))))
noncomputable def t78 (P : Params) : BT := (BT.node (boot_o_0 P) (BT.node (boot_o_1 P) (BT.node (o50 P) (BT.node (boot_o_7 P) (BT.node (o52 P) (BT.node (o68 P) BT.nil BT.nil) BT.nil) (BT.node (o60 P) (BT.node (o76 P) BT.nil BT.nil) BT.nil)) (BT.node (o43 P) (BT.node (o56 P) (BT.node (o72 P) BT.nil BT.nil) BT.nil) (BT.node (o64 P) BT.nil BT.nil))) (BT.node (boot_o_5 P) (BT.node (boot_o_9 P) (BT.node (o54 P) (BT.node (o70 P) BT.nil BT.nil) BT.nil) (BT.node (o62 P) (BT.node (o78 P) BT.nil BT.nil) BT.nil)) (BT.node (o45 P) (BT.node (o58 P) (BT.node (o74 P) BT.nil BT.nil) BT.nil) (BT.node (o66 P) BT.nil BT.nil)))) (BT.node (o49 P) (BT.node (boot_o_4 P) (BT.node (boot_o_8 P) (BT.node (o53 P) (BT.node (o69 P) BT.nil BT.nil) BT.nil) (BT.node (o61 P) (BT.node (o77 P) BT.nil BT.nil) BT.nil)) (BT.node (o51 P) (BT.node (o57 P) (BT.node (o73 P) BT.nil BT.nil) BT.nil) (BT.node (o65 P) BT.nil BT.nil))) (BT.node (boot_o_6 P) (BT.node (boot_o_10 P) (BT.node (o55 P) (BT.node (o71 P) BT.nil BT.nil) BT.nil) (BT.node (o63 P) BT.nil BT.nil)) (BT.node (o46 P) (BT.node (o59 P) (BT.node (o75 P) BT.nil BT.nil) BT.nil) (BT.node (o67 P) BT.nil BT.nil)))))
noncomputable def t93 (P : Params) : BT := (BT.node (boot_o_0 P) (BT.node (boot_o_1 P) (BT.node (o79 P) (BT.node (boot_o_7 P) (BT.node (o52 P) (BT.node (o68 P) BT.nil BT.nil) (BT.node (o87 P) BT.nil BT.nil)) (BT.node (o60 P) (BT.node (o76 P) BT.nil BT.nil) BT.nil)) (BT.node (o43 P) (BT.node (o56 P) (BT.node (o72 P) BT.nil BT.nil) (BT.node (o91 P) BT.nil BT.nil)) (BT.node (o64 P) (BT.node (o83 P) BT.nil BT.nil) BT.nil))) (BT.node (boot_o_5 P) (BT.node (boot_o_9 P) (BT.node (o54 P) (BT.node (o70 P) BT.nil BT.nil) (BT.node (o89 P) BT.nil BT.nil)) (BT.node (o62 P) (BT.node (o78 P) BT.nil BT.nil) BT.nil)) (BT.node (o45 P) (BT.node (o58 P) (BT.node (o74 P) BT.nil BT.nil) (BT.node (o93 P) BT.nil BT.nil)) (BT.node (o66 P) (BT.node (o85 P) BT.nil BT.nil) BT.nil)))) (BT.node (o49 P) (BT.node (boot_o_4 P) (BT.node (boot_o_8 P) (BT.node (o53 P) (BT.node (o69 P) BT.nil BT.nil) (BT.node (o88 P) BT.nil BT.nil)) (BT.node (o61 P) (BT.node (o77 P) BT.nil BT.nil) BT.nil)) (BT.node (o80 P) (BT.node (o57 P) (BT.node (o73 P) BT.nil BT.nil) (BT.node (o92 P) BT.nil BT.nil)) (BT.node (o65 P) (BT.node (o84 P) BT.nil BT.nil) BT.nil))) (BT.node (boot_o_6 P) (BT.node (boot_o_10 P) (BT.node (o55 P) (BT.node (o71 P) BT.nil BT.nil) (BT.node (o90 P) BT.nil BT.nil)) (BT.node (o63 P) (BT.node (o82 P) BT.nil BT.nil) BT.nil)) (BT.node (o46 P) (BT.node (o59 P) (BT.node (o81 P) BT.nil BT.nil) BT.nil) (BT.node (o67 P) (BT.node (o86 P) BT.nil BT.nil) BT.nil)))))
noncomputable def t115 (P : Params) : BT := (BT.node (boot_o_0 P) (BT.node (boot_o_1 P) (BT.node (o94 P) (BT.node (boot_o_7 P) (BT.node (o52 P) (BT.node (o68 P) (BT.node (o106 P) BT.nil BT.nil) BT.nil) (BT.node (o87 P) BT.nil BT.nil)) (BT.node (o60 P) (BT.node (o76 P) (BT.node (o114 P) BT.nil BT.nil) BT.nil) (BT.node (o98 P) BT.nil BT.nil))) (BT.node (o43 P) (BT.node (o56 P) (BT.node (o72 P) (BT.node (o110 P) BT.nil BT.nil) BT.nil) (BT.node (o96 P) BT.nil BT.nil)) (BT.node (o64 P) (BT.node (o83 P) BT.nil BT.nil) (BT.node (o102 P) BT.nil BT.nil)))) (BT.node (boot_o_5 P) (BT.node (boot_o_9 P) (BT.node (o54 P) (BT.node (o70 P) (BT.node (o108 P) BT.nil BT.nil) BT.nil) (BT.node (o89 P) BT.nil BT.nil)) (BT.node (o62 P) (BT.node (o78 P) BT.nil BT.nil) (BT.node (o100 P) BT.nil BT.nil))) (BT.node (o45 P) (BT.node (o58 P) (BT.node (o74 P) (BT.node (o112 P) BT.nil BT.nil) BT.nil) (BT.node (o93 P) BT.nil BT.nil)) (BT.node (o66 P) (BT.node (o85 P) BT.nil BT.nil) (BT.node (o104 P) BT.nil BT.nil))))) (BT.node (o49 P) (BT.node (boot_o_4 P) (BT.node (boot_o_8 P) (BT.node (o53 P) (BT.node (o69 P) (BT.node (o107 P) BT.nil BT.nil) BT.nil) (BT.node (o88 P) BT.nil BT.nil)) (BT.node (o61 P) (BT.node (o77 P) (BT.node (o115 P) BT.nil BT.nil) BT.nil) (BT.node (o99 P) BT.nil BT.nil))) (BT.node (o95 P) (BT.node (o57 P) (BT.node (o73 P) (BT.node (o111 P) BT.nil BT.nil) BT.nil) (BT.node (o92 P) BT.nil BT.nil)) (BT.node (o65 P) (BT.node (o84 P) BT.nil BT.nil) (BT.node (o103 P) BT.nil BT.nil)))) (BT.node (boot_o_6 P) (BT.node (boot_o_10 P) (BT.node (o55 P) (BT.node (o71 P) (BT.node (o109 P) BT.nil BT.nil) BT.nil) (BT.node (o90 P) BT.nil BT.nil)) (BT.node (o63 P) (BT.node (o82 P) BT.nil BT.nil) (BT.node (o101 P) BT.nil BT.nil))) (BT.node (o46 P) (BT.node (o59 P) (BT.node (o81 P) (BT.node (o113 P) BT.nil BT.nil) BT.nil) (BT.node (o97 P) BT.nil BT.nil)) (BT.node (o67 P) (BT.node (o86 P) BT.nil BT.nil) (BT.node (o105 P) BT.nil BT.nil))))))
noncomputable def t151 (P : Params) : BT := (BT.node (boot_o_0 P) (BT.node (boot_o_1 P) (BT.node (o116 P) (BT.node (boot_o_7 P) (BT.node (o52 P) (BT.node (o68 P) (BT.node (o106 P) BT.nil BT.nil) (BT.node (o141 P) BT.nil BT.nil)) (BT.node (o87 P) (BT.node (o125 P) BT.nil BT.nil) BT.nil)) (BT.node (o60 P) (BT.node (o76 P) (BT.node (o114 P) BT.nil BT.nil) (BT.node (o149 P) BT.nil BT.nil)) (BT.node (o98 P) (BT.node (o133 P) BT.nil BT.nil) BT.nil))) (BT.node (o43 P) (BT.node (o56 P) (BT.node (o72 P) (BT.node (o110 P) BT.nil BT.nil) (BT.node (o145 P) BT.nil BT.nil)) (BT.node (o96 P) (BT.node (o129 P) BT.nil BT.nil) BT.nil)) (BT.node (o64 P) (BT.node (o83 P) (BT.node (o121 P) BT.nil BT.nil) BT.nil) (BT.node (o102 P) (BT.node (o137 P) BT.nil BT.nil) BT.nil)))) (BT.node (boot_o_5 P) (BT.node (boot_o_9 P) (BT.node (o54 P) (BT.node (o70 P) (BT.node (o108 P) BT.nil BT.nil) (BT.node (o143 P) BT.nil BT.nil)) (BT.node (o89 P) (BT.node (o127 P) BT.nil BT.nil) BT.nil)) (BT.node (o62 P) (BT.node (o78 P) (BT.node (o119 P) BT.nil BT.nil) (BT.node (o151 P) BT.nil BT.nil)) (BT.node (o100 P) (BT.node (o135 P) BT.nil BT.nil) BT.nil))) (BT.node (o45 P) (BT.node (o58 P) (BT.node (o74 P) (BT.node (o112 P) BT.nil BT.nil) (BT.node (o147 P) BT.nil BT.nil)) (BT.node (o93 P) (BT.node (o131 P) BT.nil BT.nil) BT.nil)) (BT.node (o66 P) (BT.node (o85 P) (BT.node (o123 P) BT.nil BT.nil) BT.nil) (BT.node (o104 P) (BT.node (o139 P) BT.nil BT.nil) BT.nil))))) (BT.node (o49 P) (BT.node (boot_o_4 P) (BT.node (boot_o_8 P) (BT.node (o53 P) (BT.node (o69 P) (BT.node (o107 P) BT.nil BT.nil) (BT.node (o142 P) BT.nil BT.nil)) (BT.node (o88 P) (BT.node (o126 P) BT.nil BT.nil) BT.nil)) (BT.node (o61 P) (BT.node (o77 P) (BT.node (o115 P) BT.nil BT.nil) (BT.node (o150 P) BT.nil BT.nil)) (BT.node (o99 P) (BT.node (o134 P) BT.nil BT.nil) BT.nil))) (BT.node (o117 P) (BT.node (o57 P) (BT.node (o73 P) (BT.node (o111 P) BT.nil BT.nil) (BT.node (o146 P) BT.nil BT.nil)) (BT.node (o92 P) (BT.node (o130 P) BT.nil BT.nil) BT.nil)) (BT.node (o65 P) (BT.node (o84 P) (BT.node (o122 P) BT.nil BT.nil) BT.nil) (BT.node (o103 P) (BT.node (o138 P) BT.nil BT.nil) BT.nil)))) (BT.node (boot_o_6 P) (BT.node (boot_o_10 P) (BT.node (o55 P) (BT.node (o71 P) (BT.node (o109 P) BT.nil BT.nil) (BT.node (o144 P) BT.nil BT.nil)) (BT.node (o90 P) (BT.node (o128 P) BT.nil BT.nil) BT.nil)) (BT.node (o63 P) (BT.node (o82 P) (BT.node (o120 P) BT.nil BT.nil) BT.nil) (BT.node (o101 P) (BT.node (o136 P) BT.nil BT.nil) BT.nil))) (BT.node (o46 P) (BT.node (o59 P) (BT.node (o118 P) (BT.node (o113 P) BT.nil BT.nil) (BT.node (o148 P) BT.nil BT.nil)) (BT.node (o97 P) (BT.node (o132 P) BT.nil BT.nil) BT.nil)) (BT.node (o67 P) (BT.node (o86 P) (BT.node (o124 P) BT.nil BT.nil) BT.nil) (BT.node (o105 P) (BT.node (o140 P) BT.nil BT.nil) BT.nil))))))
noncomputable def t167 (P : Params) : BT := (BT.node (boot_o_0 P) (BT.node (boot_o_1 P) (BT.node (o152 P) (BT.node (boot_o_7 P) (BT.node (o52 P) (BT.node (o68 P) (BT.node (o106 P) BT.nil BT.nil) (BT.node (o141 P) BT.nil BT.nil)) (BT.node (o87 P) (BT.node (o125 P) BT.nil BT.nil) (BT.node (o159 P) BT.nil BT.nil))) (BT.node (o60 P) (BT.node (o76 P) (BT.node (o114 P) BT.nil BT.nil) (BT.node (o149 P) BT.nil BT.nil)) (BT.node (o98 P) (BT.node (o133 P) BT.nil BT.nil) (BT.node (o167 P) BT.nil BT.nil)))) (BT.node (o43 P) (BT.node (o56 P) (BT.node (o72 P) (BT.node (o110 P) BT.nil BT.nil) (BT.node (o145 P) BT.nil BT.nil)) (BT.node (o96 P) (BT.node (o129 P) BT.nil BT.nil) (BT.node (o163 P) BT.nil BT.nil))) (BT.node (o64 P) (BT.node (o83 P) (BT.node (o121 P) BT.nil BT.nil) (BT.node (o155 P) BT.nil BT.nil)) (BT.node (o102 P) (BT.node (o137 P) BT.nil BT.nil) BT.nil)))) (BT.node (boot_o_5 P) (BT.node (boot_o_9 P) (BT.node (o54 P) (BT.node (o70 P) (BT.node (o108 P) BT.nil BT.nil) (BT.node (o143 P) BT.nil BT.nil)) (BT.node (o89 P) (BT.node (o127 P) BT.nil BT.nil) (BT.node (o161 P) BT.nil BT.nil))) (BT.node (o62 P) (BT.node (o78 P) (BT.node (o119 P) BT.nil BT.nil) (BT.node (o151 P) BT.nil BT.nil)) (BT.node (o100 P) (BT.node (o135 P) BT.nil BT.nil) BT.nil))) (BT.node (o45 P) (BT.node (o58 P) (BT.node (o74 P) (BT.node (o112 P) BT.nil BT.nil) (BT.node (o147 P) BT.nil BT.nil)) (BT.node (o93 P) (BT.node (o131 P) BT.nil BT.nil) (BT.node (o165 P) BT.nil BT.nil))) (BT.node (o66 P) (BT.node (o85 P) (BT.node (o123 P) BT.nil BT.nil) (BT.node (o157 P) BT.nil BT.nil)) (BT.node (o104 P) (BT.node (o139 P) BT.nil BT.nil) BT.nil))))) (BT.node (o49 P) (BT.node (boot_o_4 P) (BT.node (boot_o_8 P) (BT.node (o53 P) (BT.node (o69 P) (BT.node (o107 P) BT.nil BT.nil) (BT.node (o142 P) BT.nil BT.nil)) (BT.node (o88 P) (BT.node (o126 P) BT.nil BT.nil) (BT.node (o160 P) BT.nil BT.nil))) (BT.node (o61 P) (BT.node (o77 P) (BT.node (o115 P) BT.nil BT.nil) (BT.node (o150 P) BT.nil BT.nil)) (BT.node (o99 P) (BT.node (o134 P) BT.nil BT.nil) BT.nil))) (BT.node (o153 P) (BT.node (o57 P) (BT.node (o73 P) (BT.node (o111 P) BT.nil BT.nil) (BT.node (o146 P) BT.nil BT.nil)) (BT.node (o92 P) (BT.node (o130 P) BT.nil BT.nil) (BT.node (o164 P) BT.nil BT.nil))) (BT.node (o65 P) (BT.node (o84 P) (BT.node (o122 P) BT.nil BT.nil) (BT.node (o156 P) BT.nil BT.nil)) (BT.node (o103 P) (BT.node (o138 P) BT.nil BT.nil) BT.nil)))) (BT.node (boot_o_6 P) (BT.node (boot_o_10 P) (BT.node (o55 P) (BT.node (o71 P) (BT.node (o109 P) BT.nil BT.nil) (BT.node (o144 P) BT.nil BT.nil)) (BT.node (o90 P) (BT.node (o128 P) BT.nil BT.nil) (BT.node (o162 P) BT.nil BT.nil))) (BT.node (o63 P) (BT.node (o82 P) (BT.node (o120 P) BT.nil BT.nil) (BT.node (o154 P) BT.nil BT.nil)) (BT.node (o101 P) (BT.node (o136 P) BT.nil BT.nil) BT.nil))) (BT.node (o46 P) (BT.node (o59 P) (BT.node (o118 P) (BT.node (o113 P) BT.nil BT.nil) (BT.node (o148 P) BT.nil BT.nil)) (BT.node (o97 P) (BT.node (o132 P) BT.nil BT.nil) (BT.node (o166 P) BT.nil BT.nil))) (BT.node (o67 P) (BT.node (o86 P) (BT.node (o124 P) BT.nil BT.nil) (BT.node (o158 P) BT.nil BT.nil)) (BT.node (o105 P) (BT.node (o140 P) BT.nil BT.nil) BT.nil))))))
noncomputable def t227 (P : Params) : BT := (BT.node (boot_o_0 P) (BT.node (boot_o_1 P) (BT.node (o170 P) (BT.node (boot_o_7 P) (BT.node (o52 P) (BT.node (o68 P) (BT.node (o106 P) (BT.node (o179 P) BT.nil BT.nil) BT.nil) (BT.node (o141 P) (BT.node (o211 P) BT.nil BT.nil) BT.nil)) (BT.node (o87 P) (BT.node (o125 P) (BT.node (o195 P) BT.nil BT.nil) BT.nil) (BT.node (o159 P) (BT.node (o227 P) BT.nil BT.nil) BT.nil))) (BT.node (o60 P) (BT.node (o76 P) (BT.node (o114 P) (BT.node (o187 P) BT.nil BT.nil) BT.nil) (BT.node (o149 P) (BT.node (o219 P) BT.nil BT.nil) BT.nil)) (BT.node (o98 P) (BT.node (o133 P) (BT.node (o203 P) BT.nil BT.nil) BT.nil) (BT.node (o167 P) BT.nil BT.nil)))) (BT.node (o43 P) (BT.node (o56 P) (BT.node (o72 P) (BT.node (o110 P) (BT.node (o183 P) BT.nil BT.nil) BT.nil) (BT.node (o145 P) (BT.node (o215 P) BT.nil BT.nil) BT.nil)) (BT.node (o96 P) (BT.node (o129 P) (BT.node (o199 P) BT.nil BT.nil) BT.nil) (BT.node (o163 P) BT.nil BT.nil))) (BT.node (o64 P) (BT.node (o83 P) (BT.node (o121 P) (BT.node (o191 P) BT.nil BT.nil) BT.nil) (BT.node (o155 P) (BT.node (o223 P) BT.nil BT.nil) BT.nil)) (BT.node (o102 P) (BT.node (o137 P) (BT.node (o207 P) BT.nil BT.nil) BT.nil) (BT.node (o175 P) BT.nil BT.nil))))) (BT.node (boot_o_5 P) (BT.node (boot_o_9 P) (BT.node (o54 P) (BT.node (o70 P) (BT.node (o108 P) (BT.node (o181 P) BT.nil BT.nil) BT.nil) (BT.node (o143 P) (BT.node (o213 P) BT.nil BT.nil) BT.nil)) (BT.node (o89 P) (BT.node (o127 P) (BT.node (o197 P) BT.nil BT.nil) BT.nil) (BT.node (o161 P) BT.nil BT.nil))) (BT.node (o62 P) (BT.node (o78 P) (BT.node (o119 P) (BT.node (o189 P) BT.nil BT.nil) BT.nil) (BT.node (o151 P) (BT.node (o221 P) BT.nil BT.nil) BT.nil)) (BT.node (o100 P) (BT.node (o135 P) (BT.node (o205 P) BT.nil BT.nil) BT.nil) (BT.node (o173 P) BT.nil BT.nil)))) (BT.node (o45 P) (BT.node (o58 P) (BT.node (o74 P) (BT.node (o112 P) (BT.node (o185 P) BT.nil BT.nil) BT.nil) (BT.node (o147 P) (BT.node (o217 P) BT.nil BT.nil) BT.nil)) (BT.node (o93 P) (BT.node (o131 P) (BT.node (o201 P) BT.nil BT.nil) BT.nil) (BT.node (o165 P) BT.nil BT.nil))) (BT.node (o66 P) (BT.node (o85 P) (BT.node (o123 P) (BT.node (o193 P) BT.nil BT.nil) BT.nil) (BT.node (o157 P) (BT.node (o225 P) BT.nil BT.nil) BT.nil)) (BT.node (o104 P) (BT.node (o139 P) (BT.node (o209 P) BT.nil BT.nil) BT.nil) (BT.node (o177 P) BT.nil BT.nil)))))) (BT.node (o49 P) (BT.node (boot_o_4 P) (BT.node (boot_o_8 P) (BT.node (o53 P) (BT.node (o69 P) (BT.node (o107 P) (BT.node (o180 P) BT.nil BT.nil) BT.nil) (BT.node (o142 P) (BT.node (o212 P) BT.nil BT.nil) BT.nil)) (BT.node (o88 P) (BT.node (o126 P) (BT.node (o196 P) BT.nil BT.nil) BT.nil) (BT.node (o160 P) BT.nil BT.nil))) (BT.node (o61 P) (BT.node (o77 P) (BT.node (o115 P) (BT.node (o188 P) BT.nil BT.nil) BT.nil) (BT.node (o150 P) (BT.node (o220 P) BT.nil BT.nil) BT.nil)) (BT.node (o99 P) (BT.node (o134 P) (BT.node (o204 P) BT.nil BT.nil) BT.nil) (BT.node (o172 P) BT.nil BT.nil)))) (BT.node (o171 P) (BT.node (o57 P) (BT.node (o73 P) (BT.node (o111 P) (BT.node (o184 P) BT.nil BT.nil) BT.nil) (BT.node (o146 P) (BT.node (o216 P) BT.nil BT.nil) BT.nil)) (BT.node (o92 P) (BT.node (o130 P) (BT.node (o200 P) BT.nil BT.nil) BT.nil) (BT.node (o164 P) BT.nil BT.nil))) (BT.node (o65 P) (BT.node (o84 P) (BT.node (o122 P) (BT.node (o192 P) BT.nil BT.nil) BT.nil) (BT.node (o156 P) (BT.node (o224 P) BT.nil BT.nil) BT.nil)) (BT.node (o103 P) (BT.node (o138 P) (BT.node (o208 P) BT.nil BT.nil) BT.nil) (BT.node (o176 P) BT.nil BT.nil))))) (BT.node (boot_o_6 P) (BT.node (boot_o_10 P) (BT.node (o55 P) (BT.node (o71 P) (BT.node (o109 P) (BT.node (o182 P) BT.nil BT.nil) BT.nil) (BT.node (o144 P) (BT.node (o214 P) BT.nil BT.nil) BT.nil)) (BT.node (o90 P) (BT.node (o128 P) (BT.node (o198 P) BT.nil BT.nil) BT.nil) (BT.node (o162 P) BT.nil BT.nil))) (BT.node (o63 P) (BT.node (o82 P) (BT.node (o120 P) (BT.node (o190 P) BT.nil BT.nil) BT.nil) (BT.node (o154 P) (BT.node (o222 P) BT.nil BT.nil) BT.nil)) (BT.node (o101 P) (BT.node (o136 P) (BT.node (o206 P) BT.nil BT.nil) BT.nil) (BT.node (o174 P) BT.nil BT.nil)))) (BT.node (o46 P) (BT.node (o59 P) (BT.node (o118 P) (BT.node (o113 P) (BT.node (o186 P) BT.nil BT.nil) BT.nil) (BT.node (o148 P) (BT.node (o218 P) BT.nil BT.nil) BT.nil)) (BT.node (o97 P) (BT.node (o132 P) (BT.node (o202 P) BT.nil BT.nil) BT.nil) (BT.node (o166 P) BT.nil BT.nil))) (BT.node (o67 P) (BT.node (o86 P) (BT.node (o124 P) (BT.node (o194 P) BT.nil BT.nil) BT.nil) (BT.node (o158 P) (BT.node (o226 P) BT.nil BT.nil) BT.nil)) (BT.node (o105 P) (BT.node (o140 P) (BT.node (o210 P) BT.nil BT.nil) BT.nil) (BT.node (o178 P) BT.nil BT.nil)))))))
noncomputable def t334 (P : Params) : BT := (BT.node (boot_o_0 P) (BT.node (boot_o_1 P) (BT.node (o228 P) (BT.node (boot_o_7 P) (BT.node (o52 P) (BT.node (o68 P) (BT.node (o106 P) (BT.node (o179 P) (BT.node (o309 P) BT.nil BT.nil) BT.nil) (BT.node (o245 P) BT.nil BT.nil)) (BT.node (o141 P) (BT.node (o211 P) BT.nil BT.nil) (BT.node (o277 P) BT.nil BT.nil))) (BT.node (o87 P) (BT.node (o125 P) (BT.node (o195 P) (BT.node (o325 P) BT.nil BT.nil) BT.nil) (BT.node (o261 P) BT.nil BT.nil)) (BT.node (o159 P) (BT.node (o227 P) BT.nil BT.nil) (BT.node (o293 P) BT.nil BT.nil)))) (BT.node (o60 P) (BT.node (o76 P) (BT.node (o114 P) (BT.node (o187 P) (BT.node (o317 P) BT.nil BT.nil) BT.nil) (BT.node (o253 P) BT.nil BT.nil)) (BT.node (o149 P) (BT.node (o219 P) BT.nil BT.nil) (BT.node (o285 P) BT.nil BT.nil))) (BT.node (o98 P) (BT.node (o133 P) (BT.node (o203 P) (BT.node (o333 P) BT.nil BT.nil) BT.nil) (BT.node (o269 P) BT.nil BT.nil)) (BT.node (o167 P) (BT.node (o237 P) BT.nil BT.nil) (BT.node (o301 P) BT.nil BT.nil))))) (BT.node (o43 P) (BT.node (o56 P) (BT.node (o72 P) (BT.node (o110 P) (BT.node (o183 P) (BT.node (o313 P) BT.nil BT.nil) BT.nil) (BT.node (o249 P) BT.nil BT.nil)) (BT.node (o145 P) (BT.node (o215 P) BT.nil BT.nil) (BT.node (o281 P) BT.nil BT.nil))) (BT.node (o96 P) (BT.node (o129 P) (BT.node (o199 P) (BT.node (o329 P) BT.nil BT.nil) BT.nil) (BT.node (o265 P) BT.nil BT.nil)) (BT.node (o163 P) (BT.node (o233 P) BT.nil BT.nil) (BT.node (o297 P) BT.nil BT.nil)))) (BT.node (o64 P) (BT.node (o83 P) (BT.node (o121 P) (BT.node (o191 P) (BT.node (o321 P) BT.nil BT.nil) BT.nil) (BT.node (o257 P) BT.nil BT.nil)) (BT.node (o155 P) (BT.node (o223 P) BT.nil BT.nil) (BT.node (o289 P) BT.nil BT.nil))) (BT.node (o102 P) (BT.node (o137 P) (BT.node (o207 P) BT.nil BT.nil) (BT.node (o273 P) BT.nil BT.nil)) (BT.node (o175 P) (BT.node (o241 P) BT.nil BT.nil) (BT.node (o305 P) BT.nil BT.nil)))))) (BT.node (boot_o_5 P) (BT.node (boot_o_9 P) (BT.node (o54 P) (BT.node (o70 P) (BT.node (o108 P) (BT.node (o181 P) (BT.node (o311 P) BT.nil BT.nil) BT.nil) (BT.node (o247 P) BT.nil BT.nil)) (BT.node (o143 P) (BT.node (o213 P) BT.nil BT.nil) (BT.node (o279 P) BT.nil BT.nil))) (BT.node (o89 P) (BT.node (o127 P) (BT.node (o197 P) (BT.node (o327 P) BT.nil BT.nil) BT.nil) (BT.node (o263 P) BT.nil BT.nil)) (BT.node (o161 P) (BT.node (o231 P) BT.nil BT.nil) (BT.node (o295 P) BT.nil BT.nil)))) (BT.node (o62 P) (BT.node (o78 P) (BT.node (o119 P) (BT.node (o189 P) (BT.node (o319 P) BT.nil BT.nil) BT.nil) (BT.node (o255 P) BT.nil BT.nil)) (BT.node (o151 P) (BT.node (o221 P) BT.nil BT.nil) (BT.node (o287 P) BT.nil BT.nil))) (BT.node (o100 P) (BT.node (o135 P) (BT.node (o205 P) BT.nil BT.nil) (BT.node (o271 P) BT.nil BT.nil)) (BT.node (o173 P) (BT.node (o239 P) BT.nil BT.nil) (BT.node (o303 P) BT.nil BT.nil))))) (BT.node (o45 P) (BT.node (o58 P) (BT.node (o74 P) (BT.node (o112 P) (BT.node (o185 P) (BT.node (o315 P) BT.nil BT.nil) BT.nil) (BT.node (o251 P) BT.nil BT.nil)) (BT.node (o147 P) (BT.node (o217 P) BT.nil BT.nil) (BT.node (o283 P) BT.nil BT.nil))) (BT.node (o93 P) (BT.node (o131 P) (BT.node (o201 P) (BT.node (o331 P) BT.nil BT.nil) BT.nil) (BT.node (o267 P) BT.nil BT.nil)) (BT.node (o165 P) (BT.node (o235 P) BT.nil BT.nil) (BT.node (o299 P) BT.nil BT.nil)))) (BT.node (o66 P) (BT.node (o85 P) (BT.node (o123 P) (BT.node (o193 P) (BT.node (o323 P) BT.nil BT.nil) BT.nil) (BT.node (o259 P) BT.nil BT.nil)) (BT.node (o157 P) (BT.node (o225 P) BT.nil BT.nil) (BT.node (o291 P) BT.nil BT.nil))) (BT.node (o104 P) (BT.node (o139 P) (BT.node (o209 P) BT.nil BT.nil) (BT.node (o275 P) BT.nil BT.nil)) (BT.node (o177 P) (BT.node (o243 P) BT.nil BT.nil) (BT.node (o307 P) BT.nil BT.nil))))))) (BT.node (o49 P) (BT.node (boot_o_4 P) (BT.node (boot_o_8 P) (BT.node (o53 P) (BT.node (o69 P) (BT.node (o107 P) (BT.node (o180 P) (BT.node (o310 P) BT.nil BT.nil) BT.nil) (BT.node (o246 P) BT.nil BT.nil)) (BT.node (o142 P) (BT.node (o212 P) BT.nil BT.nil) (BT.node (o278 P) BT.nil BT.nil))) (BT.node (o88 P) (BT.node (o126 P) (BT.node (o196 P) (BT.node (o326 P) BT.nil BT.nil) BT.nil) (BT.node (o262 P) BT.nil BT.nil)) (BT.node (o160 P) (BT.node (o230 P) BT.nil BT.nil) (BT.node (o294 P) BT.nil BT.nil)))) (BT.node (o61 P) (BT.node (o77 P) (BT.node (o115 P) (BT.node (o188 P) (BT.node (o318 P) BT.nil BT.nil) BT.nil) (BT.node (o254 P) BT.nil BT.nil)) (BT.node (o150 P) (BT.node (o220 P) BT.nil BT.nil) (BT.node (o286 P) BT.nil BT.nil))) (BT.node (o99 P) (BT.node (o134 P) (BT.node (o204 P) (BT.node (o334 P) BT.nil BT.nil) BT.nil) (BT.node (o270 P) BT.nil BT.nil)) (BT.node (o172 P) (BT.node (o238 P) BT.nil BT.nil) (BT.node (o302 P) BT.nil BT.nil))))) (BT.node (o229 P) (BT.node (o57 P) (BT.node (o73 P) (BT.node (o111 P) (BT.node (o184 P) (BT.node (o314 P) BT.nil BT.nil) BT.nil) (BT.node (o250 P) BT.nil BT.nil)) (BT.node (o146 P) (BT.node (o216 P) BT.nil BT.nil) (BT.node (o282 P) BT.nil BT.nil))) (BT.node (o92 P) (BT.node (o130 P) (BT.node (o200 P) (BT.node (o330 P) BT.nil BT.nil) BT.nil) (BT.node (o266 P) BT.nil BT.nil)) (BT.node (o164 P) (BT.node (o234 P) BT.nil BT.nil) (BT.node (o298 P) BT.nil BT.nil)))) (BT.node (o65 P) (BT.node (o84 P) (BT.node (o122 P) (BT.node (o192 P) (BT.node (o322 P) BT.nil BT.nil) BT.nil) (BT.node (o258 P) BT.nil BT.nil)) (BT.node (o156 P) (BT.node (o224 P) BT.nil BT.nil) (BT.node (o290 P) BT.nil BT.nil))) (BT.node (o103 P) (BT.node (o138 P) (BT.node (o208 P) BT.nil BT.nil) (BT.node (o274 P) BT.nil BT.nil)) (BT.node (o176 P) (BT.node (o242 P) BT.nil BT.nil) (BT.node (o306 P) BT.nil BT.nil)))))) (BT.node (boot_o_6 P) (BT.node (boot_o_10 P) (BT.node (o55 P) (BT.node (o71 P) (BT.node (o109 P) (BT.node (o182 P) (BT.node (o312 P) BT.nil BT.nil) BT.nil) (BT.node (o248 P) BT.nil BT.nil)) (BT.node (o144 P) (BT.node (o214 P) BT.nil BT.nil) (BT.node (o280 P) BT.nil BT.nil))) (BT.node (o90 P) (BT.node (o128 P) (BT.node (o198 P) (BT.node (o328 P) BT.nil BT.nil) BT.nil) (BT.node (o264 P) BT.nil BT.nil)) (BT.node (o162 P) (BT.node (o232 P) BT.nil BT.nil) (BT.node (o296 P) BT.nil BT.nil)))) (BT.node (o63 P) (BT.node (o82 P) (BT.node (o120 P) (BT.node (o190 P) (BT.node (o320 P) BT.nil BT.nil) BT.nil) (BT.node (o256 P) BT.nil BT.nil)) (BT.node (o154 P) (BT.node (o222 P) BT.nil BT.nil) (BT.node (o288 P) BT.nil BT.nil))) (BT.node (o101 P) (BT.node (o136 P) (BT.node (o206 P) BT.nil BT.nil) (BT.node (o272 P) BT.nil BT.nil)) (BT.node (o174 P) (BT.node (o240 P) BT.nil BT.nil) (BT.node (o304 P) BT.nil BT.nil))))) (BT.node (o46 P) (BT.node (o59 P) (BT.node (o118 P) (BT.node (o113 P) (BT.node (o186 P) (BT.node (o316 P) BT.nil BT.nil) BT.nil) (BT.node (o252 P) BT.nil BT.nil)) (BT.node (o148 P) (BT.node (o218 P) BT.nil BT.nil) (BT.node (o284 P) BT.nil BT.nil))) (BT.node (o97 P) (BT.node (o132 P) (BT.node (o202 P) (BT.node (o332 P) BT.nil BT.nil) BT.nil) (BT.node (o268 P) BT.nil BT.nil)) (BT.node (o166 P) (BT.node (o236 P) BT.nil BT.nil) (BT.node (o300 P) BT.nil BT.nil)))) (BT.node (o67 P) (BT.node (o86 P) (BT.node (o124 P) (BT.node (o194 P) (BT.node (o324 P) BT.nil BT.nil) BT.nil) (BT.node (o260 P) BT.nil BT.nil)) (BT.node (o158 P) (BT.node (o226 P) BT.nil BT.nil) (BT.node (o292 P) BT.nil BT.nil))) (BT.node (o105 P) (BT.node (o140 P) (BT.node (o210 P) BT.nil BT.nil) (BT.node (o276 P) BT.nil BT.nil)) (BT.node (o178 P) (BT.node (o244 P) BT.nil BT.nil) (BT.node (o308 P) BT.nil BT.nil))))))))
noncomputable def t472 (P : Params) : BT := (BT.node (boot_o_0 P) (BT.node (boot_o_1 P) (BT.node (o418 P) (BT.node (boot_o_7 P) (BT.node (o52 P) (BT.node (o68 P) (BT.node (o106 P) (BT.node (o179 P) (BT.node (o309 P) BT.nil BT.nil) BT.nil) (BT.node (o245 P) (BT.node (o458 P) BT.nil BT.nil) BT.nil)) (BT.node (o141 P) (BT.node (o211 P) (BT.node (o426 P) BT.nil BT.nil) BT.nil) (BT.node (o277 P) BT.nil BT.nil))) (BT.node (o87 P) (BT.node (o125 P) (BT.node (o195 P) (BT.node (o325 P) BT.nil BT.nil) BT.nil) (BT.node (o261 P) BT.nil BT.nil)) (BT.node (o159 P) (BT.node (o227 P) (BT.node (o442 P) BT.nil BT.nil) BT.nil) (BT.node (o293 P) BT.nil BT.nil)))) (BT.node (o60 P) (BT.node (o76 P) (BT.node (o114 P) (BT.node (o187 P) (BT.node (o317 P) BT.nil BT.nil) BT.nil) (BT.node (o253 P) (BT.node (o466 P) BT.nil BT.nil) BT.nil)) (BT.node (o149 P) (BT.node (o219 P) (BT.node (o434 P) BT.nil BT.nil) BT.nil) (BT.node (o285 P) BT.nil BT.nil))) (BT.node (o98 P) (BT.node (o133 P) (BT.node (o203 P) (BT.node (o333 P) BT.nil BT.nil) BT.nil) (BT.node (o269 P) BT.nil BT.nil)) (BT.node (o167 P) (BT.node (o237 P) (BT.node (o450 P) BT.nil BT.nil) BT.nil) (BT.node (o301 P) BT.nil BT.nil))))) (BT.node (o43 P) (BT.node (o56 P) (BT.node (o72 P) (BT.node (o110 P) (BT.node (o183 P) (BT.node (o313 P) BT.nil BT.nil) BT.nil) (BT.node (o249 P) (BT.node (o462 P) BT.nil BT.nil) BT.nil)) (BT.node (o145 P) (BT.node (o215 P) (BT.node (o430 P) BT.nil BT.nil) BT.nil) (BT.node (o281 P) BT.nil BT.nil))) (BT.node (o96 P) (BT.node (o129 P) (BT.node (o199 P) (BT.node (o329 P) BT.nil BT.nil) BT.nil) (BT.node (o265 P) BT.nil BT.nil)) (BT.node (o163 P) (BT.node (o233 P) (BT.node (o446 P) BT.nil BT.nil) BT.nil) (BT.node (o297 P) BT.nil BT.nil)))) (BT.node (o64 P) (BT.node (o83 P) (BT.node (o121 P) (BT.node (o191 P) (BT.node (o321 P) BT.nil BT.nil) BT.nil) (BT.node (o257 P) (BT.node (o470 P) BT.nil BT.nil) BT.nil)) (BT.node (o155 P) (BT.node (o223 P) (BT.node (o438 P) BT.nil BT.nil) BT.nil) (BT.node (o289 P) BT.nil BT.nil))) (BT.node (o102 P) (BT.node (o137 P) (BT.node (o207 P) (BT.node (o422 P) BT.nil BT.nil) BT.nil) (BT.node (o273 P) BT.nil BT.nil)) (BT.node (o175 P) (BT.node (o241 P) (BT.node (o454 P) BT.nil BT.nil) BT.nil) (BT.node (o305 P) BT.nil BT.nil)))))) (BT.node (boot_o_5 P) (BT.node (boot_o_9 P) (BT.node (o54 P) (BT.node (o70 P) (BT.node (o108 P) (BT.node (o181 P) (BT.node (o311 P) BT.nil BT.nil) BT.nil) (BT.node (o247 P) (BT.node (o460 P) BT.nil BT.nil) BT.nil)) (BT.node (o143 P) (BT.node (o213 P) (BT.node (o428 P) BT.nil BT.nil) BT.nil) (BT.node (o279 P) BT.nil BT.nil))) (BT.node (o89 P) (BT.node (o127 P) (BT.node (o197 P) (BT.node (o327 P) BT.nil BT.nil) BT.nil) (BT.node (o263 P) BT.nil BT.nil)) (BT.node (o161 P) (BT.node (o231 P) (BT.node (o444 P) BT.nil BT.nil) BT.nil) (BT.node (o295 P) BT.nil BT.nil)))) (BT.node (o62 P) (BT.node (o78 P) (BT.node (o119 P) (BT.node (o189 P) (BT.node (o319 P) BT.nil BT.nil) BT.nil) (BT.node (o255 P) (BT.node (o468 P) BT.nil BT.nil) BT.nil)) (BT.node (o151 P) (BT.node (o221 P) (BT.node (o436 P) BT.nil BT.nil) BT.nil) (BT.node (o287 P) BT.nil BT.nil))) (BT.node (o100 P) (BT.node (o135 P) (BT.node (o205 P) (BT.node (o420 P) BT.nil BT.nil) BT.nil) (BT.node (o271 P) BT.nil BT.nil)) (BT.node (o173 P) (BT.node (o239 P) (BT.node (o452 P) BT.nil BT.nil) BT.nil) (BT.node (o303 P) BT.nil BT.nil))))) (BT.node (o45 P) (BT.node (o58 P) (BT.node (o74 P) (BT.node (o112 P) (BT.node (o185 P) (BT.node (o315 P) BT.nil BT.nil) BT.nil) (BT.node (o251 P) (BT.node (o464 P) BT.nil BT.nil) BT.nil)) (BT.node (o147 P) (BT.node (o217 P) (BT.node (o432 P) BT.nil BT.nil) BT.nil) (BT.node (o283 P) BT.nil BT.nil))) (BT.node (o93 P) (BT.node (o131 P) (BT.node (o201 P) (BT.node (o331 P) BT.nil BT.nil) BT.nil) (BT.node (o267 P) BT.nil BT.nil)) (BT.node (o165 P) (BT.node (o235 P) (BT.node (o448 P) BT.nil BT.nil) BT.nil) (BT.node (o299 P) BT.nil BT.nil)))) (BT.node (o66 P) (BT.node (o85 P) (BT.node (o123 P) (BT.node (o193 P) (BT.node (o323 P) BT.nil BT.nil) BT.nil) (BT.node (o259 P) (BT.node (o472 P) BT.nil BT.nil) BT.nil)) (BT.node (o157 P) (BT.node (o225 P) (BT.node (o440 P) BT.nil BT.nil) BT.nil) (BT.node (o291 P) BT.nil BT.nil))) (BT.node (o104 P) (BT.node (o139 P) (BT.node (o209 P) (BT.node (o424 P) BT.nil BT.nil) BT.nil) (BT.node (o275 P) BT.nil BT.nil)) (BT.node (o177 P) (BT.node (o243 P) (BT.node (o456 P) BT.nil BT.nil) BT.nil) (BT.node (o307 P) BT.nil BT.nil))))))) (BT.node (o49 P) (BT.node (boot_o_4 P) (BT.node (boot_o_8 P) (BT.node (o53 P) (BT.node (o69 P) (BT.node (o107 P) (BT.node (o180 P) (BT.node (o310 P) BT.nil BT.nil) BT.nil) (BT.node (o246 P) (BT.node (o459 P) BT.nil BT.nil) BT.nil)) (BT.node (o142 P) (BT.node (o212 P) (BT.node (o427 P) BT.nil BT.nil) BT.nil) (BT.node (o278 P) BT.nil BT.nil))) (BT.node (o88 P) (BT.node (o126 P) (BT.node (o196 P) (BT.node (o326 P) BT.nil BT.nil) BT.nil) (BT.node (o262 P) BT.nil BT.nil)) (BT.node (o160 P) (BT.node (o230 P) (BT.node (o443 P) BT.nil BT.nil) BT.nil) (BT.node (o294 P) BT.nil BT.nil)))) (BT.node (o61 P) (BT.node (o77 P) (BT.node (o115 P) (BT.node (o188 P) (BT.node (o318 P) BT.nil BT.nil) BT.nil) (BT.node (o254 P) (BT.node (o467 P) BT.nil BT.nil) BT.nil)) (BT.node (o150 P) (BT.node (o220 P) (BT.node (o435 P) BT.nil BT.nil) BT.nil) (BT.node (o286 P) BT.nil BT.nil))) (BT.node (o99 P) (BT.node (o134 P) (BT.node (o204 P) (BT.node (o334 P) BT.nil BT.nil) BT.nil) (BT.node (o270 P) BT.nil BT.nil)) (BT.node (o172 P) (BT.node (o238 P) (BT.node (o451 P) BT.nil BT.nil) BT.nil) (BT.node (o302 P) BT.nil BT.nil))))) (BT.node (o419 P) (BT.node (o57 P) (BT.node (o73 P) (BT.node (o111 P) (BT.node (o184 P) (BT.node (o314 P) BT.nil BT.nil) BT.nil) (BT.node (o250 P) (BT.node (o463 P) BT.nil BT.nil) BT.nil)) (BT.node (o146 P) (BT.node (o216 P) (BT.node (o431 P) BT.nil BT.nil) BT.nil) (BT.node (o282 P) BT.nil BT.nil))) (BT.node (o92 P) (BT.node (o130 P) (BT.node (o200 P) (BT.node (o330 P) BT.nil BT.nil) BT.nil) (BT.node (o266 P) BT.nil BT.nil)) (BT.node (o164 P) (BT.node (o234 P) (BT.node (o447 P) BT.nil BT.nil) BT.nil) (BT.node (o298 P) BT.nil BT.nil)))) (BT.node (o65 P) (BT.node (o84 P) (BT.node (o122 P) (BT.node (o192 P) (BT.node (o322 P) BT.nil BT.nil) BT.nil) (BT.node (o258 P) (BT.node (o471 P) BT.nil BT.nil) BT.nil)) (BT.node (o156 P) (BT.node (o224 P) (BT.node (o439 P) BT.nil BT.nil) BT.nil) (BT.node (o290 P) BT.nil BT.nil))) (BT.node (o103 P) (BT.node (o138 P) (BT.node (o208 P) (BT.node (o423 P) BT.nil BT.nil) BT.nil) (BT.node (o274 P) BT.nil BT.nil)) (BT.node (o176 P) (BT.node (o242 P) (BT.node (o455 P) BT.nil BT.nil) BT.nil) (BT.node (o306 P) BT.nil BT.nil)))))) (BT.node (boot_o_6 P) (BT.node (boot_o_10 P) (BT.node (o55 P) (BT.node (o71 P) (BT.node (o109 P) (BT.node (o182 P) (BT.node (o312 P) BT.nil BT.nil) BT.nil) (BT.node (o248 P) (BT.node (o461 P) BT.nil BT.nil) BT.nil)) (BT.node (o144 P) (BT.node (o214 P) (BT.node (o429 P) BT.nil BT.nil) BT.nil) (BT.node (o280 P) BT.nil BT.nil))) (BT.node (o90 P) (BT.node (o128 P) (BT.node (o198 P) (BT.node (o328 P) BT.nil BT.nil) BT.nil) (BT.node (o264 P) BT.nil BT.nil)) (BT.node (o162 P) (BT.node (o232 P) (BT.node (o445 P) BT.nil BT.nil) BT.nil) (BT.node (o296 P) BT.nil BT.nil)))) (BT.node (o63 P) (BT.node (o82 P) (BT.node (o120 P) (BT.node (o190 P) (BT.node (o320 P) BT.nil BT.nil) BT.nil) (BT.node (o256 P) (BT.node (o469 P) BT.nil BT.nil) BT.nil)) (BT.node (o154 P) (BT.node (o222 P) (BT.node (o437 P) BT.nil BT.nil) BT.nil) (BT.node (o288 P) BT.nil BT.nil))) (BT.node (o101 P) (BT.node (o136 P) (BT.node (o206 P) (BT.node (o421 P) BT.nil BT.nil) BT.nil) (BT.node (o272 P) BT.nil BT.nil)) (BT.node (o174 P) (BT.node (o240 P) (BT.node (o453 P) BT.nil BT.nil) BT.nil) (BT.node (o304 P) BT.nil BT.nil))))) (BT.node (o46 P) (BT.node (o59 P) (BT.node (o118 P) (BT.node (o113 P) (BT.node (o186 P) (BT.node (o316 P) BT.nil BT.nil) BT.nil) (BT.node (o252 P) (BT.node (o465 P) BT.nil BT.nil) BT.nil)) (BT.node (o148 P) (BT.node (o218 P) (BT.node (o433 P) BT.nil BT.nil) BT.nil) (BT.node (o284 P) BT.nil BT.nil))) (BT.node (o97 P) (BT.node (o132 P) (BT.node (o202 P) (BT.node (o332 P) BT.nil BT.nil) BT.nil) (BT.node (o268 P) BT.nil BT.nil)) (BT.node (o166 P) (BT.node (o236 P) (BT.node (o449 P) BT.nil BT.nil) BT.nil) (BT.node (o300 P) BT.nil BT.nil)))) (BT.node (o67 P) (BT.node (o86 P) (BT.node (o124 P) (BT.node (o194 P) (BT.node (o324 P) BT.nil BT.nil) BT.nil) (BT.node (o260 P) BT.nil BT.nil)) (BT.node (o158 P) (BT.node (o226 P) (BT.node (o441 P) BT.nil BT.nil) BT.nil) (BT.node (o292 P) BT.nil BT.nil))) (BT.node (o105 P) (BT.node (o140 P) (BT.node (o210 P) (BT.node (o425 P) BT.nil BT.nil) BT.nil) (BT.node (o276 P) BT.nil BT.nil)) (BT.node (o178 P) (BT.node (o244 P) (BT.node (o457 P) BT.nil BT.nil) BT.nil) (BT.node (o308 P) BT.nil BT.nil))))))))
noncomputable def h46 (P : Params) : Heap := (Heap.mk (Array.mk [(boot_o_0 P), (boot_o_1 P), (boot_o_2 P), (boot_o_3 P), (boot_o_4 P), (boot_o_5 P), (boot_o_6 P), (boot_o_7 P), (boot_o_8 P), (boot_o_9 P), (boot_o_10 P), (o43 P), (o44 P), (o45 P), (o46 P)]) (Life.mk [] [] [] (0 : Nat) [] [] Bool.false (List.toArray []) [] (0 : Nat) Bool.false Bool.false Bool.false 0 [2000, 10, 10] Bool.false (0 : Nat) Bool.true [] [] (0 : Nat) Bool.false))
noncomputable def h473 (P : Params) : Heap := (Heap.mk (Array.mk [(boot_o_0 P), (boot_o_1 P), (o49 P), (o418 P), (boot_o_4 P), (boot_o_5 P), (boot_o_6 P), (boot_o_7 P), (boot_o_8 P), (boot_o_9 P), (boot_o_10 P), (o43 P), (o419 P), (o45 P), (o46 P), (o52 P), (o53 P), (o54 P), (o55 P), (o56 P), (o57 P), (o58 P), (o59 P), (o60 P), (o61 P), (o62 P), (o63 P), (o64 P), (o65 P), (o66 P), (o67 P), (o68 P), (o69 P), (o70 P), (o71 P), (o72 P), (o73 P), (o74 P), (o118 P), (o76 P), (o77 P), (o78 P), (o82 P), (o83 P), (o84 P), (o85 P), (o86 P), (o87 P), (o88 P), (o89 P), (o90 P), (o96 P), (o92 P), (o93 P), (o97 P), (o98 P), (o99 P), (o100 P), (o101 P), (o102 P), (o103 P), (o104 P), (o105 P), (o106 P), (o107 P), (o108 P), (o109 P), (o110 P), (o111 P), (o112 P), (o113 P), (o114 P), (o115 P), (o119 P), (o120 P), (o121 P), (o122 P), (o123 P), (o124 P), (o125 P), (o126 P), (o127 P), (o128 P), (o129 P), (o130 P), (o131 P), (o132 P), (o133 P), (o134 P), (o135 P), (o136 P), (o137 P), (o138 P), (o139 P), (o140 P), (o141 P), (o142 P), (o143 P), (o144 P), (o145 P), (o146 P), (o147 P), (o148 P), (o149 P), (o150 P), (o151 P), (o154 P), (o155 P), (o156 P), (o157 P), (o158 P), (o159 P), (o160 P), (o161 P), (o162 P), (o163 P), (o164 P), (o165 P), (o166 P), (o167 P), (o172 P), (o173 P), (o174 P), (o175 P), (o176 P), (o177 P), (o178 P), (o179 P), (o180 P), (o181 P), (o182 P), (o183 P), (o184 P), (o185 P), (o186 P), (o187 P), (o188 P), (o189 P), (o190 P), (o191 P), (o192 P), (o193 P), (o194 P), (o195 P), (o196 P), (o197 P), (o198 P), (o199 P), (o200 P), (o201 P), (o202 P), (o203 P), (o204 P), (o205 P), (o206 P), (o207 P), (o208 P), (o209 P), (o210 P), (o211 P), (o212 P), (o213 P), (o214 P), (o215 P), (o216 P), (o217 P), (o218 P), (o219 P), (o220 P), (o221 P), (o222 P), (o223 P), (o224 P), (o225 P), (o226 P), (o227 P), (o230 P), (o231 P), (o232 P), (o233 P), (o234 P), (o235 P), (o236 P), (o237 P), (o238 P), (o239 P), (o240 P), (o241 P), (o242 P), (o243 P), (o244 P), (o245 P), (o246 P), (o247 P), (o248 P), (o249 P), (o250 P), (o251 P), (o252 P), (o253 P), (o254 P), (o255 P), (o256 P), (o257 P), (o258 P), (o259 P), (o260 P), (o261 P), (o262 P), (o263 P), (o264 P), (o265 P), (o266 P), (o267 P), (o268 P), (o269 P), (o270 P), (o271 P), (o272 P), (o273 P), (o274 P), (o275 P), (o276 P), (o277 P), (o278 P), (o279 P), (o280 P), (o281 P), (o282 P), (o283 P), (o284 P), (o285 P), (o286 P), (o287 P), (o288 P), (o289 P), (o290 P), (o291 P), (o292 P), (o293 P), (o294 P), (o295 P), (o296 P), (o297 P), (o298 P), (o299 P), (o300 P), (o301 P), (o302 P), (o303 P), (o304 P), (o305 P), (o306 P), (o307 P), (o308 P), (o309 P), (o310 P), (o311 P), (o312 P), (o313 P), (o314 P), (o315 P), (o316 P), (o317 P), (o318 P), (o319 P), (o320 P), (o321 P), (o322 P), (o323 P), (o324 P), (o325 P), (o326 P), (o327 P), (o328 P), (o329 P), (o330 P), (o331 P), (o332 P), (o333 P), (o334 P), (o420 P), (o421 P), (o422 P), (o423 P), (o424 P), (o425 P), (o426 P), (o427 P), (o428 P), (o429 P), (o430 P), (o431 P), (o432 P), (o433 P), (o434 P), (o435 P), (o436 P), (o437 P), (o438 P), (o439 P), (o440 P), (o441 P), (o442 P), (o443 P), (o444 P), (o445 P), (o446 P), (o447 P), (o448 P), (o449 P), (o450 P), (o451 P), (o452 P), (o453 P), (o454 P), (o455 P), (o456 P), (o457 P), (o458 P), (o459 P), (o460 P), (o461 P), (o462 P), (o463 P), (o464 P), (o465 P), (o466 P), (o467 P), (o468 P), (o469 P), (o470 P), (o471 P), (o472 P)]) (Life.mk [] [] [] (0 : Nat) [] [] Bool.false (List.toArray []) [] (0 : Nat) Bool.false Bool.false Bool.false 0 [2000, 10, 10] Bool.false (0 : Nat) Bool.true [] [] (0 : Nat) Bool.false))
noncomputable def objs0 (P : Params) : List Obj := [o49 P, o418 P, o52 P, o54 P, o55 P, o57 P, o58 P, o59 P, o66 P, o68 P, o69 P, o71 P, o72 P, o73 P, o74 P, o118 P, o76 P, o82 P, o89 P, o90 P, o96 P, o97 P, o104 P, o106 P, o107 P, o109 P, o110 P, o111 P, o112 P, o113 P, o119 P, o126 P, o127 P, o128 P, o131 P, o133 P, o134 P, o136 P, o137 P, o138 P, o140 P, o141 P, o143 P, o144 P, o145 P, o147 P, o148 P, o150 P, o151 P, o154 P, o155 P, o156 P, o159 P, o160 P, o161 P, o163 P, o164 P, o166 P, o167 P, o179 P, o181 P, o182 P, o184 P, o185 P, o186 P, o188 P, o189 P, o191 P, o192 P, o193 P, o195 P, o196 P, o198 P, o199 P, o200 P, o202 P, o203 P, o205 P, o206 P, o207 P, o209 P, o210 P, o212 P, o213 P, o214 P, o216 P, o217 P, o219 P, o220 P, o221 P, o222 P, o223 P, o224 P, o225 P, o237 P, o239 P, o240 P, o242 P, o243 P, o244 P, o246 P, o247 P, o249 P, o250 P, o251 P, o253 P, o254 P, o256 P, o257 P, o258 P, o260 P, o261 P, o263 P, o264 P, o265 P, o267 P, o268 P, o270 P, o271 P, o272 P, o274 P, o275 P, o277 P, o278 P, o279 P, o281 P, o282 P, o284 P, o285 P, o286 P, o288 P, o289 P, o291 P, o292 P, o293 P, o295 P, o296 P, o298 P, o299 P, o300 P, o302 P, o303 P, o305 P, o306 P, o307 P, o309 P, o310 P, o312 P, o313 P, o314 P, o316 P, o317 P, o319 P, o320 P, o321 P, o323 P, o324 P, o326 P, o327 P, o328 P, o329 P, o330 P, o331 P, o332 P, o420 P, o422 P, o423 P, o425 P, o426 P, o427 P, o429 P, o430 P, o432 P, o433 P, o434 P, o436 P, o437 P, o439 P, o440 P, o441 P, o443 P, o444 P, o446 P, o447 P, o448 P, o451 P, o452 P, o453 P, o456 P, o457 P, o458 P, o461 P, o462 P, o463 P, o466 P, o467 P, o468 P, o471 P, o472 P]
noncomputable def heap_39 : Params → Frag := fun P => by
  refine (?f : (x0 x1 x2 x3 x4 x5 x6 x7 x8 x9 x10 x11 x12 x13 x14 x15 x16 x17 x18 x19 x20 x21 x22 x23 x24 x25 x26 x27 x28 x29 x30 x31 x32 x33 x34 x35 x36 x37 x38 x39 x40 x41 x42 x43 x44 x45 x46 x47 x48 x49 x50 x51 x52 x53 x54 x55 x56 x57 x58 x59 x60 x61 x62 x63 x64 x65 x66 x67 x68 x69 x70 x71 x72 x73 x74 x75 x76 x77 x78 x79 x80 x81 x82 x83 x84 x85 x86 x87 x88 x89 x90 x91 x92 x93 x94 x95 x96 x97 x98 x99 x100 x101 x102 x103 x104 x105 x106 x107 x108 x109 x110 x111 x112 x113 x114 x115 x116 x117 x118 x119 x120 x121 x122 x123 x124 x125 x126 x127 x128 x129 x130 x131 x132 x133 x134 x135 x136 x137 x138 x139 x140 x141 x142 x143 x144 x145 x146 x147 x148 x149 x150 x151 x152 x153 x154 x155 x156 x157 x158 x159 x160 x161 x162 x163 x164 x165 x166 x167 x168 x169 x170 x171 x172 x173 x174 x175 x176 x177 x178 x179 x180 x181 x182 x183 x184 x185 x186 x187 x188 x189 x190 x191 x192 x193 x194 x195 x196 x197 x198 : Obj) → [x0, x1, x2, x3, x4, x5, x6, x7, x8, x9, x10, x11, x12, x13, x14, x15, x16, x17, x18, x19, x20, x21, x22, x23, x24, x25, x26, x27, x28, x29, x30, x31, x32, x33, x34, x35, x36, x37, x38, x39, x40, x41, x42, x43, x44, x45, x46, x47, x48, x49, x50, x51, x52, x53, x54, x55, x56, x57, x58, x59, x60, x61, x62, x63, x64, x65, x66, x67, x68, x69, x70, x71, x72, x73, x74, x75, x76, x77, x78, x79, x80, x81, x82, x83, x84, x85, x86, x87, x88, x89, x90, x91, x92, x93, x94, x95, x96, x97, x98, x99, x100, x101, x102, x103, x104, x105, x106, x107, x108, x109, x110, x111, x112, x113, x114, x115, x116, x117, x118, x119, x120, x121, x122, x123, x124, x125, x126, x127, x128, x129, x130, x131, x132, x133, x134, x135, x136, x137, x138, x139, x140, x141, x142, x143, x144, x145, x146, x147, x148, x149, x150, x151, x152, x153, x154, x155, x156, x157, x158, x159, x160, x161, x162, x163, x164, x165, x166, x167, x168, x169, x170, x171, x172, x173, x174, x175, x176, x177, x178, x179, x180, x181, x182, x183, x184, x185, x186, x187, x188, x189, x190, x191, x192, x193, x194, x195, x196, x197, x198] = objs0 P → Frag) ?x0 ?x1 ?x2 ?x3 ?x4 ?x5 ?x6 ?x7 ?x8 ?x9 ?x10 ?x11 ?x12 ?x13 ?x14 ?x15 ?x16 ?x17 ?x18 ?x19 ?x20 ?x21 ?x22 ?x23 ?x24 ?x25 ?x26 ?x27 ?x28 ?x29 ?x30 ?x31 ?x32 ?x33 ?x34 ?x35 ?x36 ?x37 ?x38 ?x39 ?x40 ?x41 ?x42 ?x43 ?x44 ?x45 ?x46 ?x47 ?x48 ?x49 ?x50 ?x51 ?x52 ?x53 ?x54 ?x55 ?x56 ?x57 ?x58 ?x59 ?x60 ?x61 ?x62 ?x63 ?x64 ?x65 ?x66 ?x67 ?x68 ?x69 ?x70 ?x71 ?x72 ?x73 ?x74 ?x75 ?x76 ?x77 ?x78 ?x79 ?x80 ?x81 ?x82 ?x83 ?x84 ?x85 ?x86 ?x87 ?x88 ?x89 ?x90 ?x91 ?x92 ?x93 ?x94 ?x95 ?x96 ?x97 ?x98 ?x99 ?x100 ?x101 ?x102 ?x103 ?x104 ?x105 ?x106 ?x107 ?x108 ?x109 ?x110 ?x111 ?x112 ?x113 ?x114 ?x115 ?x116 ?x117 ?x118 ?x119 ?x120 ?x121 ?x122 ?x123 ?x124 ?x125 ?x126 ?x127 ?x128 ?x129 ?x130 ?x131 ?x132 ?x133 ?x134 ?x135 ?x136 ?x137 ?x138 ?x139 ?x140 ?x141 ?x142 ?x143 ?x144 ?x145 ?x146 ?x147 ?x148 ?x149 ?x150 ?x151 ?x152 ?x153 ?x154 ?x155 ?x156 ?x157 ?x158 ?x159 ?x160 ?x161 ?x162 ?x163 ?x164 ?x165 ?x166 ?x167 ?x168 ?x169 ?x170 ?x171 ?x172 ?x173 ?x174 ?x175 ?x176 ?x177 ?x178 ?x179 ?x180 ?x181 ?x182 ?x183 ?x184 ?x185 ?x186 ?x187 ?x188 ?x189 ?x190 ?x191 ?x192 ?x193 ?x194 ?x195 ?x196 ?x197 ?x198 ?h
  case f => exact fun x0 x1 x2 x3 x4 x5 x6 x7 x8 x9 x10 x11 x12 x13 x14 x15 x16 x17 x18 x19 x20 x21 x22 x23 x24 x25 x26 x27 x28 x29 x30 x31 x32 x33 x34 x35 x36 x37 x38 x39 x40 x41 x42 x43 x44 x45 x46 x47 x48 x49 x50 x51 x52 x53 x54 x55 x56 x57 x58 x59 x60 x61 x62 x63 x64 x65 x66 x67 x68 x69 x70 x71 x72 x73 x74 x75 x76 x77 x78 x79 x80 x81 x82 x83 x84 x85 x86 x87 x88 x89 x90 x91 x92 x93 x94 x95 x96 x97 x98 x99 x100 x101 x102 x103 x104 x105 x106 x107 x108 x109 x110 x111 x112 x113 x114 x115 x116 x117 x118 x119 x120 x121 x122 x123 x124 x125 x126 x127 x128 x129 x130 x131 x132 x133 x134 x135 x136 x137 x138 x139 x140 x141 x142 x143 x144 x145 x146 x147 x148 x149 x150 x151 x152 x153 x154 x155 x156 x157 x158 x159 x160 x161 x162 x163 x164 x165 x166 x167 x168 x169 x170 x171 x172 x173 x174 x175 x176 x177 x178 x179 x180 x181 x182 x183 x184 x185 x186 x187 x188 x189 x190 x191 x192 x193 x194 x195 x196 x197 x198 _ => ((nat_lit 2, x0) :: (nat_lit 3, x1) :: (nat_lit 15, x2) :: (nat_lit 17, x3) :: (nat_lit 18, x4) :: (nat_lit 20, x5) :: (nat_lit 21, x6) :: (nat_lit 22, x7) :: (nat_lit 29, x8) :: (nat_lit 31, x9) :: (nat_lit 32, x10) :: (nat_lit 34, x11) :: (nat_lit 35, x12) :: (nat_lit 36, x13) :: (nat_lit 37, x14) :: (nat_lit 38, x15) :: (nat_lit 39, x16) :: (nat_lit 42, x17) :: (nat_lit 49, x18) :: (nat_lit 50, x19) :: (nat_lit 51, x20) :: (nat_lit 54, x21) :: (nat_lit 61, x22) :: (nat_lit 63, x23) :: (nat_lit 64, x24) :: (nat_lit 66, x25) :: (nat_lit 67, x26) :: (nat_lit 68, x27) :: (nat_lit 69, x28) :: (nat_lit 70, x29) :: (nat_lit 73, x30) :: (nat_lit 80, x31) :: (nat_lit 81, x32) :: (nat_lit 82, x33) :: (nat_lit 85, x34) :: (nat_lit 87, x35) :: (nat_lit 88, x36) :: (nat_lit 90, x37) :: (nat_lit 91, x38) :: (nat_lit 92, x39) :: (nat_lit 94, x40) :: (nat_lit 95, x41) :: (nat_lit 97, x42) :: (nat_lit 98, x43) :: (nat_lit 99, x44) :: (nat_lit 101, x45) :: (nat_lit 102, x46) :: (nat_lit 104, x47) :: (nat_lit 105, x48) :: (nat_lit 106, x49) :: (nat_lit 107, x50) :: (nat_lit 108, x51) :: (nat_lit 111, x52) :: (nat_lit 112, x53) :: (nat_lit 113, x54) :: (nat_lit 115, x55) :: (nat_lit 116, x56) :: (nat_lit 118, x57) :: (nat_lit 119, x58) :: (nat_lit 127, x59) :: (nat_lit 129, x60) :: (nat_lit 130, x61) :: (nat_lit 132, x62) :: (nat_lit 133, x63) :: (nat_lit 134, x64) :: (nat_lit 136, x65) :: (nat_lit 137, x66) :: (nat_lit 139, x67) :: (nat_lit 140, x68) :: (nat_lit 141, x69) :: (nat_lit 143, x70) :: (nat_lit 144, x71) :: (nat_lit 146, x72) :: (nat_lit 147, x73) :: (nat_lit 148, x74) :: (nat_lit 150, x75) :: (nat_lit 151, x76) :: (nat_lit 153, x77) :: (nat_lit 154, x78) :: (nat_lit 155, x79) :: (nat_lit 157, x80) :: (nat_lit 158, x81) :: (nat_lit 160, x82) :: (nat_lit 161, x83) :: (nat_lit 162, x84) :: (nat_lit 164, x85) :: (nat_lit 165, x86) :: (nat_lit 167, x87) :: (nat_lit 168, x88) :: (nat_lit 169, x89) :: (nat_lit 170, x90) :: (nat_lit 171, x91) :: (nat_lit 172, x92) :: (nat_lit 173, x93) :: (nat_lit 183, x94) :: (nat_lit 185, x95) :: (nat_lit 186, x96) :: (nat_lit 188, x97) :: (nat_lit 189, x98) :: (nat_lit 190, x99) :: (nat_lit 192, x100) :: (nat_lit 193, x101) :: (nat_lit 195, x102) :: (nat_lit 196, x103) :: (nat_lit 197, x104) :: (nat_lit 199, x105) :: (nat_lit 200, x106) :: (nat_lit 202, x107) :: (nat_lit 203, x108) :: (nat_lit 204, x109) :: (nat_lit 206, x110) :: (nat_lit 207, x111) :: (nat_lit 209, x112) :: (nat_lit 210, x113) :: (nat_lit 211, x114) :: (nat_lit 213, x115) :: (nat_lit 214, x116) :: (nat_lit 216, x117) :: (nat_lit 217, x118) :: (nat_lit 218, x119) :: (nat_lit 220, x120) :: (nat_lit 221, x121) :: (nat_lit 223, x122) :: (nat_lit 224, x123) :: (nat_lit 225, x124) :: (nat_lit 227, x125) :: (nat_lit 228, x126) :: (nat_lit 230, x127) :: (nat_lit 231, x128) :: (nat_lit 232, x129) :: (nat_lit 234, x130) :: (nat_lit 235, x131) :: (nat_lit 237, x132) :: (nat_lit 238, x133) :: (nat_lit 239, x134) :: (nat_lit 241, x135) :: (nat_lit 242, x136) :: (nat_lit 244, x137) :: (nat_lit 245, x138) :: (nat_lit 246, x139) :: (nat_lit 248, x140) :: (nat_lit 249, x141) :: (nat_lit 251, x142) :: (nat_lit 252, x143) :: (nat_lit 253, x144) :: (nat_lit 255, x145) :: (nat_lit 256, x146) :: (nat_lit 258, x147) :: (nat_lit 259, x148) :: (nat_lit 260, x149) :: (nat_lit 262, x150) :: (nat_lit 263, x151) :: (nat_lit 265, x152) :: (nat_lit 266, x153) :: (nat_lit 267, x154) :: (nat_lit 269, x155) :: (nat_lit 270, x156) :: (nat_lit 272, x157) :: (nat_lit 273, x158) :: (nat_lit 274, x159) :: (nat_lit 275, x160) :: (nat_lit 276, x161) :: (nat_lit 277, x162) :: (nat_lit 278, x163) :: (nat_lit 281, x164) :: (nat_lit 283, x165) :: (nat_lit 284, x166) :: (nat_lit 286, x167) :: (nat_lit 287, x168) :: (nat_lit 288, x169) :: (nat_lit 290, x170) :: (nat_lit 291, x171) :: (nat_lit 293, x172) :: (nat_lit 294, x173) :: (nat_lit 295, x174) :: (nat_lit 297, x175) :: (nat_lit 298, x176) :: (nat_lit 300, x177) :: (nat_lit 301, x178) :: (nat_lit 302, x179) :: (nat_lit 304, x180) :: (nat_lit 305, x181) :: (nat_lit 307, x182) :: (nat_lit 308, x183) :: (nat_lit 309, x184) :: (nat_lit 312, x185) :: (nat_lit 313, x186) :: (nat_lit 314, x187) :: (nat_lit 317, x188) :: (nat_lit 318, x189) :: (nat_lit 319, x190) :: (nat_lit 322, x191) :: (nat_lit 323, x192) :: (nat_lit 324, x193) :: (nat_lit 327, x194) :: (nat_lit 328, x195) :: (nat_lit 329, x196) :: (nat_lit 332, x197) :: (nat_lit 333, x198) :: [] : List (Nat × Obj))
  case h =>
    dsimp only [objs0, o104, o106, o107, o109, o110, o111, o112, o113, o118, o119, o126, o127, o128, o131, o133, o134, o136, o137, o138, o140, o141, o143, o144, o145, o147, o148, o150, o151, o154, o155, o156, o159, o160, o161, o163, o164, o166, o167, o179, o181, o182, o184, o185, o186, o188, o189, o191, o192, o193, o195, o196, o198, o199, o200, o202, o203, o205, o206, o207, o209, o210, o212, o213, o214, o216, o217, o219, o220, o221, o222, o223, o224, o225, o237, o239, o240, o242, o243, o244, o246, o247, o249, o250, o251, o253, o254, o256, o257, o258, o260, o261, o263, o264, o265, o267, o268, o270, o271, o272, o274, o275, o277, o278, o279, o281, o282, o284, o285, o286, o288, o289, o291, o292, o293, o295, o296, o298, o299, o300, o302, o303, o305, o306, o307, o309, o310, o312, o313, o314, o316, o317, o319, o320, o321, o323, o324, o326, o327, o328, o329, o330, o331, o332, o418, o420, o422, o423, o425, o426, o427, o429, o430, o432, o433, o434, o436, o437, o439, o440, o441, o443, o444, o446, o447, o448, o451, o452, o453, o456, o457, o458, o461, o462, o463, o466, o467, o468, o471, o472, o49, o52, o54, o55, o57, o58, o59, o66, o68, o69, o71, o72, o73, o74, o76, o82, o89, o90, o96, o97, sx, nN, nC, vs, vr, vi, vt, vb, de, n0, tu, fi, ft, nth, fnArgs, fnBody, fnScope, clsBody, c0, c1, c2, c3, c4, c5, c6, c7, c8, c9, c10, c11, c12, c13, c14, c15, c16, c17, c18, c19, c20, c21, c22, c23, c24, c25, c26, c27, c28, c29, c30, c31, c32, c33, c34, c35, c36]
    exact rfl
noncomputable def view_39 : Program := by
  refine (?f : (L : List Stmt) → L = [c0, c2, c3, c4, c5, c7, c8, c9, c10, c12, c13, c14, c15, c16, c17, c18, c19, c20, c21, c22, c23, c24, c25, c26, c27, c29, c30, c31, c32, c33, c34, c35, c36] → Program) ?L ?h
  case f => exact fun L _ => { (PySem.Challenge.rw_pb0448_01.row.toRowW.1) with main := { (PySem.Challenge.rw_pb0448_01.row.toRowW.1).main with body := L } }
  case h =>
    dsimp only [c0, c2, c3, c4, c5, c7, c8, c9, c10, c12, c13, c14, c15, c16, c17, c18, c19, c20, c21, c22, c23, c24, c25, c26, c27, c29, c30, c31, c32, c33, c34, c35, c36]
    exact rfl
noncomputable abbrev keys : List Addr := [2, 3, 15, 17, 18, 20, 21, 22, 29, 31, 32, 34, 35, 36, 37, 38, 39, 42, 49, 50, 51, 54, 61, 63, 64, 66, 67, 68, 69, 70, 73, 80, 81, 82, 85, 87, 88, 90, 91, 92, 94, 95, 97, 98, 99, 101, 102, 104, 105, 106, 107, 108, 111, 112, 113, 115, 116, 118, 119, 127, 129, 130, 132, 133, 134, 136, 137, 139, 140, 141, 143, 144, 146, 147, 148, 150, 151, 153, 154, 155, 157, 158, 160, 161, 162, 164, 165, 167, 168, 169, 170, 171, 172, 173, 183, 185, 186, 188, 189, 190, 192, 193, 195, 196, 197, 199, 200, 202, 203, 204, 206, 207, 209, 210, 211, 213, 214, 216, 217, 218, 220, 221, 223, 224, 225, 227, 228, 230, 231, 232, 234, 235, 237, 238, 239, 241, 242, 244, 245, 246, 248, 249, 251, 252, 253, 255, 256, 258, 259, 260, 262, 263, 265, 266, 267, 269, 270, 272, 273, 274, 275, 276, 277, 278, 281, 283, 284, 286, 287, 288, 290, 291, 293, 294, 295, 297, 298, 300, 301, 302, 304, 305, 307, 308, 309, 312, 313, 314, 317, 318, 319, 322, 323, 324, 327, 328, 329, 332, 333]
noncomputable def s49 : List Stmt := (prog.main.body.drop 0).take 3
noncomputable def s79 : List Stmt := (prog.main.body.drop 3).take 1
noncomputable def s94 : List Stmt := (prog.main.body.drop 4).take 1
noncomputable def s116 : List Stmt := (prog.main.body.drop 5).take 13
noncomputable def s152 : List Stmt := (prog.main.body.drop 18).take 7
noncomputable def s170 : List Stmt := (prog.main.body.drop 25).take 1
noncomputable def s228 : List Stmt := (prog.main.body.drop 26).take 1
noncomputable def s418 : List Stmt := (prog.main.body.drop 27).take 10
end hd
namespace hd
noncomputable abbrev ann0 : Option Value := some (Value.ref 6)
noncomputable abbrev pos0 : Pos := ⟨0, 0, 0, 0⟩
noncomputable abbrev beh : List Stmt := behindTheImports prog
noncomputable def env0 : Env := { scope := prog.main.scope, locals := mainNs, globals := mainNs, cells := [], code := Value.ref 13, frame := some 14 }
noncomputable abbrev cod0 : Code := Code.body beh env0
noncomputable abbrev SS (t : Params → BT) (n k : Nat) (w : World) (os : OsState) : SharedT := ⟨t w.params, n, {}, Array.mk [], {}, k, os⟩
theorem segq {w : World} {n : Nat} {s : SharedT} {t : Thread} {r : Option (Flow × SharedT × Code × Pos)}
    (h : PySem.W.Fast.tw10110043849684766642 PySem.W.Fast.tw14364793385576792824 prog w 11 ann0 1 n s t = r) : segRunT treeTable prog w 11 ann0 1 n s t = r := by
  rw [PySem.W.Fast.te10110043849684766642, PySem.W.Fast.te14364793385576792824]; exact h
noncomputable abbrev Seg (w : World) (os : OsState) (k : Nat) (l : List Stmt) (t : Params → BT) (n tk : Nat) (p : Pos) (t' : Params → BT) (n' tk' : Nat) (p' : Pos) : Prop :=
  segRunT treeTable prog w 11 ann0 1 k (SS t n tk w os) (piecesOf l env0 cod0 p [topFrame pos0]) = some (Flow.next, SS t' n' tk' w os, cod0, p')
noncomputable abbrev pA : Pos := ⟨5, 0, 8, 30⟩
noncomputable abbrev pB : Pos := ⟨9, 0, 10, 8⟩
noncomputable abbrev pC : Pos := ⟨11, 0, 15, 26⟩
noncomputable abbrev pD : Pos := ⟨51, 0, 51, 10⟩
noncomputable abbrev pE : Pos := ⟨61, 0, 62, 48⟩
noncomputable abbrev pF : Pos := ⟨63, 0, 84, 49⟩
noncomputable abbrev pG : Pos := ⟨85, 0, 217, 48⟩
noncomputable abbrev pH : Pos := ⟨280, 0, 286, 15⟩
theorem q79 (w : World) (os : OsState) : Seg w os 267 s49 t47 15 187 pos0 t78 42 225 pA := segq (by kernel_rfl!)
theorem q94 (w : World) (os : OsState) : Seg w os 214 s79 t78 42 225 pA t93 54 241 pB := segq (by kernel_rfl!)
theorem q116 (w : World) (os : OsState) : Seg w os 262 s94 t93 54 241 pB t115 73 268 pC := segq (by kernel_rfl!)
theorem q152 (w : World) (os : OsState) : Seg w os 401 s116 t115 73 268 pC t151 106 328 pD := segq (by kernel_rfl!)
theorem q168 (w : World) : ∀ os : OsState, Seg w os 147 s152 t151 106 328 pD t167 120 365 pE :=
  byRow2 (P := fun w => ∀ os : OsState, Seg w os 147 s152 t151 106 328 pD t167 120 365 pE) "special-get-raises" (fun w os => segq (by kernel_rfl!)) (fun w os => segq (by kernel_rfl!)) w
theorem q228 (w : World) (os : OsState) : Seg w os 386 s170 t167 120 365 pE t227 176 437 pF := segq (by kernel_rfl!)
theorem q418 (w : World) (os : OsState) : Seg w os 637 s228 t227 176 437 pF t334 281 592 pG := segq (by kernel_rfl!)
theorem q473 (w : World) (os : OsState) : Seg w os 263 s418 t334 281 592 pG t472 334 659 pH := segq (by kernel_rfl!)
theorem q47 (w : World) (os : OsState) : topGo treeTable prog w 11 ann0 12 { heap := boot_heap w.params, gens := Array.mk [], drawn := boot_drawn, toks := boot_toks, os := os } (topStub prog) =
    some ({ heap := h46 w.params, gens := Array.mk [], drawn := {}, toks := 187, os := os }, { cur := denote treeTable cod0, code := cod0, pos := pos0, stack := [topFrame pos0] }) := by kernel_rfl!
theorem q49 (w : World) (os : OsState) : segRun treeTable prog w 11 ann0 1 1 { heap := h46 w.params, gens := Array.mk [], drawn := {}, toks := 187, os := os } (blockOf beh env0 cod0 pos0 [topFrame pos0]) =
    some (Flow.next, (SS t47 15 187 w os).abs, cod0, pos0) := by kernel_rfl!
theorem q475 (w : World) (os : OsState) : topRun treeTable prog w 11 ann0 2 (SS t472 334 659 w os).abs (restOf [] env0 cod0 pH [topFrame pos0]) =
    some { heap := h473 w.params, gens := Array.mk [], drawn := {}, toks := 659, os := os } := by kernel_rfl!
theorem behIs : beh = s49 ++ (s79 ++ (s94 ++ (s116 ++ (s152 ++ (s170 ++ (s228 ++ (s418 ++ []))))))) := by kernel_rfl!
end hd
namespace hd
theorem runAll (w : World) (os : OsState) : topRun treeTable prog w 11 ann0 (12 + (1 + (267 + (214 + (262 + (401 + (147 + (386 + (637 + (263 + 2))))))))))
    { heap := boot_heap w.params, gens := Array.mk [], drawn := boot_drawn, toks := boot_toks, os := os } (topStub prog) =
    some { heap := h473 w.params, gens := Array.mk [], drawn := {}, toks := 659, os := os } := by
  refine go_top (q47 w os) (piece_block (q49 w os) ?_)
  have k := piece_app (segRun_of (q79 w os)) (piece_app (segRun_of (q94 w os)) (piece_app (segRun_of (q116 w os)) (piece_app (segRun_of (q152 w os))
    (piece_app (segRun_of (q168 w os)) (piece_app (segRun_of (q228 w os)) (piece_app (segRun_of (q418 w os)) (piece_app (segRun_of (q473 w os)) (q475 w os))))))))
  have e : restOf beh env0 cod0 pos0 [topFrame pos0] = restOf (s49 ++ (s79 ++ (s94 ++ (s116 ++ (s152 ++ (s170 ++ (s228 ++ (s418 ++ [])))))))) env0 cod0 pos0 [topFrame pos0] :=
    congrArg (fun b => restOf b env0 cod0 pos0 [topFrame pos0]) behIs
  rw [e]; exact k
theorem boot1 : opening prog = plainProg prog.main.scope.names := by kernel_rfl!
theorem boot2 : ∀ s, fenceModules? prog s = some s := fun s => by kernel_rfl!
theorem size0 : ∀ w : World, ((boot_heap w.params).isNs mainGlobals && (Array.mk [] : Array GenState).size == 0, (boot_heap w.params).objs.size, (boot_heap w.params).nsMap mainGlobals "__annotations__") = (true, 11, ann0) := fun w => by kernel_rfl!
noncomputable abbrev loose0 : List PySem.Str := [Str.ofString "NAME_SIGNS", Str.ofString "LIKE_SIGNS", Str.ofString "GREATEST"]
noncomputable abbrev lv0 : List (PySem.Str × WData) := [(Str.ofString "NAME_SIGNS", WData.str (Str.mk #[97, 98, 99, 100, 101, 102, 103, 104, 105, 106, 107, 108, 109, 110, 111, 112, 113, 114, 115, 116, 117, 118, 119, 120, 121, 122, 65, 66, 67, 68, 69, 70, 71, 72, 73, 74, 75, 76, 77, 78, 79, 80, 81, 82, 83, 84, 85, 86, 87, 88, 89, 90, 95, 48, 49, 50, 51, 52, 53, 54, 55, 56, 57, 36])), (Str.ofString "GREATEST", WData.int 9223372036854775808)]
theorem keysAre : ∀ P, keys = (heap_39 P).map (·.1) := fun P => by kernel_rfl!
noncomputable abbrev hook0 : Hook := kHook heap_39 keys keysAre
theorem looks0 : ∀ w : World, (fun os => ((staticsOk (importedModules prog.main.body) (boot_heap w.params) (h473 w.params) && namesBound prog (h473 w.params) && gensDone ⟨h473 w.params, Array.mk [], {}, 659, os⟩ && laidKept (boot_heap w.params) (h473 w.params)),
        openSeen view_39 loose0 (importedModules prog.main.body) (fun s => xlAt view_39 lv0 s && recOk (RowW.records PySem.Challenge.rw_pb0448_01.row.toRowW) s) true ⟨h473 w.params, Array.mk [], {}, 659, os⟩, hook0.obs ⟨h473 w.params, Array.mk [], {}, 659, os⟩)) = fun _ => (true, openGood view_39 loose0, hook0.val w) := fun w => by kernel_rfl!
theorem left0 : LeftO prog view_39 loose0 (fun s => xlAt view_39 lv0 s && recOk (RowW.records PySem.Challenge.rw_pb0448_01.row.toRowW) s) hook0.obs hook0.val 5264 :=
  LeftO.of_pieces (boot_open boot1 (by decide) boot2) size0 runAll (by decide) looks0
theorem said0q : PySem.W.Fast.tw9446332074065402090 PySem.Challenge.rw_pb0448_01 = true := by decide +kernel
theorem said0 : PySem.Challenge.rw_pb0448_01.wellSaid = true := by
  rw [PySem.W.Fast.te9446332074065402090]; exact said0q
end hd
namespace Mine
theorem allNe {d : Addr} : ∀ {l : List (Addr × Obj)}, AllLt d l → ∀ p ∈ l, p.1 ≠ d
  | [], _, _, h => nomatch h
  | q :: l, h, p, hp => by
    rcases List.mem_cons.mp hp with rfl | hp
    · exact Nat.ne_of_lt h.1
    · exact allNe h.2 p hp
theorem fdiv_le {x t : Int} (hx : 0 ≤ x) (ht : 1 ≤ t) : 0 ≤ x.fdiv t ∧ x.fdiv t ≤ x := by
  rw [Int.fdiv_eq_ediv_of_nonneg _ (by omega)]
  exact ⟨Int.ediv_nonneg hx (by omega), Int.ediv_le_self _ hx⟩
theorem fmod_in {x t : Int} (ht : 1 ≤ t) : 0 ≤ x.fmod t ∧ x.fmod t < t := by
  rw [Int.fmod_eq_emod_of_nonneg _ (by omega)]
  exact ⟨Int.emod_nonneg _ (by omega), Int.emod_lt_of_pos _ (by omega)⟩
theorem news_sub {h₀ h : Heap} {L : Addr} {news news' : List (Addr × Obj)} (N : News h₀ L h news) (hs : ∀ p ∈ news', p ∈ news) : News h₀ L h news' := fun p hp => N p (hs p hp)
/-- an object on the ledger, brought to its head; the ledger put together again -/
theorem upd_in {d : Addr} {o : Obj} {news : List (Addr × Obj)} {g : Obj → List (Addr × Obj)} (U : UpdF d o news g) :
    ∃ rest, (∀ {h₀ L h}, News h₀ L h news → News h₀ L h ((d, o) :: rest)) ∧ (∀ p ∈ rest, p.1 ≠ d) ∧ (∀ p ∈ news, p.1 ≠ d → p ∈ rest) ∧ ∀ {h₀ L h} o', News h₀ L h ((d, o') :: rest) → News h₀ L h (g o') := by
  obtain ⟨pre, post, rfl, hg, a, b⟩ := U.split
  refine ⟨pre ++ post, @fun h₀ L h N => news_sub N ?_, fun p hp => ?_, fun p hp hne => ?_, @fun h₀ L h o' N => ?_⟩
  · intro p hp
    simp only [List.mem_append, List.mem_cons] at hp ⊢
    rcases hp with h | h | h <;> simp [h]
  · rcases List.mem_append.mp hp with h | h
    · exact a p h
    · exact b p h
  · simp only [List.mem_append, List.mem_cons] at hp ⊢
    rcases hp with h | h | h
    · exact .inl h
    · exact absurd (by rw [h]) hne
    · exact .inr h
  · rw [hg]
    refine news_sub N ?_
    intro p hp
    simp only [List.mem_append, List.mem_cons] at hp ⊢
    rcases hp with h | h | h <;> simp [h]
section
variable {prog : Program} {w : World} {A : Around} {E : Value → Shared → Prop} {s : Shared} {h₀ : Heap} {L D : Addr} {m : Str → Option Value} {news : List (Addr × Obj)}
theorem item_w {value slice : PySem.Expr} {vs : List Value} {n : Nat} {k : Int} {u : Tok} {v : Value} {Q : Value → Shared → Prop} (N : News h₀ L s.heap news) (hm : (D, listOf vs.toArray n) ∈ news) (h0 : 0 ≤ k) (hfit : k < 2 ^ 63) (hx : vs[k.toNat]? = some v) (h : Q v s)
    (hs : subscripted slice false (.ref D) (.int k u) = operate [.ref D, .int k u] (getItem (.ref D) (.int k u)) := by with_unfolding_all rfl) :
    wpAny (model prog w) A (subscriptTail value slice (.ref D) (.int k u)) Q E s :=
  have hl := PySem.IsL.isList (n := n) (N _ hm).1
  tail_any hl.typeIs slot_list_getitem.lookup (wpAny_getItem_list hl h0 hfit (by simpa using hx) h) hs
theorem item_x {value slice : PySem.Expr} {vs : List Value} {n : Nat} {k : Int} {u : Tok} {Q : Value → Shared → Prop} (N : News h₀ L s.heap news) (hm : (D, listOf vs.toArray n) ∈ news) (h0 : 0 ≤ k) (h1 : k < vs.length) (hfit : k < 2 ^ 63) (h : ∀ v, vs[k.toNat]? = some v → Q v s)
    (hs : subscripted slice false (.ref D) (.int k u) = operate [.ref D, .int k u] (getItem (.ref D) (.int k u)) := by with_unfolding_all rfl) :
    wpAny (model prog w) A (subscriptTail value slice (.ref D) (.int k u)) Q E s :=
  have hk : k.toNat < vs.length := by omega
  item_w N hm h0 hfit (List.getElem?_eq_getElem hk) (h _ (List.getElem?_eq_getElem hk)) hs
theorem len_w {vs : List Value} {n : Nat} {Q : Value → Shared → Prop} (N : News h₀ L s.heap news) (hm : (D, listOf vs.toArray n) ∈ news) (hb : vs.length < 2 ^ 62) (h : Q (.int vs.length (s.toks + 1)) { s with toks := s.toks + 1 + 1 }) :
    wpAny (model prog w) A (call (.builtin "len") [.ref D]) Q E s :=
  len_list (PySem.IsL.isList (n := n) (N _ hm).1) (by rw [List.size_toArray]; omega) (by rw [List.size_toArray]; exact h)
end
theorem allNe2 {d d' : Nat} {l : List (Addr × Obj)} (h : AllLt d l) (hd : d ≤ d') : ∀ p ∈ l, p.1 ≠ d' := by
  intro p hp
  have : ∀ {l : List (Addr × Obj)}, AllLt d l → ∀ p ∈ l, @LT.lt Nat _ p.1 d := by
    intro l
    induction l with
    | nil => intro _ p h; cases h
    | cons q l ih =>
      intro h p hp
      rcases List.mem_cons.mp hp with rfl | hp
      · exact h.1
      · exact ih h.2 p hp
  exact Nat.ne_of_lt (Nat.lt_of_lt_of_le (this h p hp) hd)
section
variable {prog : Program} {w : World} {A A₀ : Around} {E : Value → Shared → Prop} {s : Shared} {base h₀ : Heap} {L : Addr} {m mg mb : Str → Option Value} {K : Frag} {news : List (Addr × Obj)} {p : Program} {loose : List Str} {mean : ExcName → Option Value}
theorem code_defL {env : Env} {outer : List Env} {R : Result → Shared → Prop} {name qual : Str} {params : Arguments} {body : List Stmt} {scope : Scope} {dV kV doc pm cdv ct oc : Value} {an od : Option Addr} {osl : Array (Option Value)} {f : Addr} {args : Args} {binds : List (Str × Value)}
    (B : Below A₀ base outer h₀) (F : Fr h₀ L s.heap m) (X₀ : K.In h₀) (N : News h₀ L s.heap news) (T : Top p loose mean mg mb h₀) (hA : A.frames = some (env :: outer)) (hf : env.frame = some L) (hke : env.scope.kind = .function)
    (ho : K.lookup f = some ⟨oc, od, .func (fnOf name qual params body scope dV kV doc pm an cdv ct), osl⟩) (hcd : codeIn K cdv qual = true) (hroom : A.depth < recursionLimit)
    (hbind : BindsTo s (fnOf name qual params body scope dV kV doc pm an cdv ct) args binds) (hloc : ∀ y ∈ binds, scope.names.lookup y.1 = some .local)
    (h : ∀ g L' h₁, Fr h₀ L g m → Fr g L' h₁ (fun y => binds.reverse.lookup y) → News g L' h₁ news → Below A base (env :: outer) g → K.In g → Top p loose mean mg mb g → AllLt L' news →
      wpAny (model prog w) (A.deeper (envOf qual scope L' f cdv)) (execs body (envOf qual scope L' f cdv))
        (fun fl s' => LeaveK h₀ L m g R (match fl with | .ret v => v | _ => .none) s')
        (fun e s' => wpAny (model prog w) (A.deeper (envOf qual scope L' f cdv)) (leaving (envOf qual scope L' f cdv) e) (fun _ s'' => R (.error e) s'') (fun e' s'' => R (.error e') s'') s')
        { s with heap := h₁, toks := s.toks + binds.length })
    (hco : scope.isCoroutine = false) (hgen : scope.isGenerator = false) (hk : scope.kind = .function)
    (hcell : ∀ x ∈ scope.names, x.2 ≠ .cell) : codeAny (model prog w) A (.call (.ref f) args) R s :=
  callX_plain (cl := []) B F N T.nolimit hA hf hke ((X₀.keeps F.keep) _ _ ho) rfl (codeRec_of (X₀.keeps F.keep) hcd) hroom hbind hloc (fun g L' h₁ FG F' N' B' st l => h g L' h₁ FG F' N' B' (X₀.keeps st) (T.keeps st) (allLt_of l)) hcell hco hgen hk
end
section
variable {prog : Program} {w : World} {A : Around} {E : Value → Shared → Prop} {s : Shared} {h₀ : Heap} {L : Addr} {m : Str → Option Value} {env : Env}
/-- a comprehension by what holds between its turns: the items so far, the ledger -/
theorem comp_inv {elt : PySem.Expr} {x : Str} {scope : Scope} {cl : List (Str × Addr)} {S : List (Addr × Obj) → Prop} {P : Nat → Value → Prop} {Fin : List Value → List (Addr × Obj) → Prop} {n : Nat} {news₀ : List (Addr × Obj)}
    (J : Nat → List Value → List (Addr × Obj) → Prop) (hj : J 0 [] news₀)
    (turn : ∀ i v I oI C oC D m₂ ys news h tk (E' : Value → Shared → Prop), i < n → ys.length = i → P i v → LCg.NsObj oC m₂ → m₂ x = some v → Fr h₀ L h m → News h₀ L h ((I, oI) :: (C, oC) :: (D, LCg.lst ys) :: news) → LCg.Off3 I C D news → ((@Ne Nat I C) ∧ (@Ne Nat I D) ∧ (@Ne Nat C D)) → J i ys news →
      wpAny (model prog w) A (eval elt (compEnvC scope cl C env)) (LCg.CompEnd h₀ L m { s with heap := h, toks := tk } I oI C oC D (LCg.lst ys) S (fun y news' => J (i + 1) (ys ++ [y]) news')) E' { s with heap := h, toks := tk })
    (fin : ∀ ys news, ys.length = n → J n ys news → Fin ys news) : LCg.CompRest prog w A h₀ L m env elt x scope cl s S P Fin n 0 [] news₀ := by
  have key : ∀ (j i : Nat) (ys : List Value) (news : List (Addr × Obj)), i + j = n → ys.length = i → J i ys news → LCg.CompRest prog w A h₀ L m env elt x scope cl s S P Fin j i ys news := by
    intro j
    induction j with
    | zero =>
      intro i ys news hi hl hy
      obtain rfl : i = n := by omega
      exact LCg.CompRest.zero (fin ys news hl hy)
    | succ j ih =>
      intro i ys news hi hl hy
      refine LCg.CompRest.succ ?_
      intro v I oI C oC D m₂ h tk E' hv hC hx F N off ne
      refine wpAny_mono (turn i v I oI C oC D m₂ ys news h tk E' (by omega) hl hv hC hx F N off ne hy) (fun y s₂ hq => ?_) fun _ _ e => e
      obtain ⟨h', tk', nw, e, F', N', off', hS, hn⟩ := hq
      exact ⟨h', tk', nw, e, F', N', off', hS, ih (i + 1) _ nw (by omega) (by simp [hl]) hn⟩
  exact key n 0 [] news₀ (by omega) rfl hj
end
section
variable {prog : Program} {w : World} {A : Around} {E : Value → Shared → Prop} {s : Shared} {h₀ : Heap} {L D : Addr} {m : Str → Option Value}
theorem len_h {vs : List Value} {Q : Value → Shared → Prop} (F : Fr h₀ L s.heap m) (hl : h₀.IsList D vs.toArray) (hb : vs.length < 2 ^ 62) (h : Q (.int vs.length (s.toks + 1)) { s with toks := s.toks + 1 + 1 }) :
    wpAny (model prog w) A (call (.builtin "len") [.ref D]) Q E s :=
  len_list (hl.at fun o e => F.keep _ o e) (by rw [List.size_toArray]; omega) (by rw [List.size_toArray]; exact h)
theorem item_h {value slice : PySem.Expr} {vs : List Value} {ns : List Int} {k : Int} {u : Tok} {Q : Value → Shared → Prop} (F : Fr h₀ L s.heap m) (hl : h₀.IsList D vs.toArray) (hi : IntsAre vs ns) (h0 : 0 ≤ k) (h1 : k < vs.length) (hfit : k < 2 ^ 63) (h : ∀ i t, Q (.int i t) s)
    (hs : subscripted slice false (.ref D) (.int k u) = operate [.ref D, .int k u] (getItem (.ref D) (.int k u)) := by with_unfolding_all rfl) :
    wpAny (model prog w) A (subscriptTail value slice (.ref D) (.int k u)) Q E s :=
  item_anyK (hl.at fun o e => F.keep _ o e) hi h0 (by rw [← hi.length]; exact h1) hfit (fun t => h _ t) hs
theorem bits1 (b : Bool) : Builtin.Int.intBits (if b then 1 else 0) ≤ 64 := by cases b <;> decide
end
local macro_rules | `(tactic| k_extra "v0") => `(tactic| first | exact rfl | k_asm)
local macro_rules | `(tactic| k_extra "o5") => `(tactic| first | assumption | (refine ⟨?_, ?_, ?_, ?_, ?_⟩ <;> assumption))
local macro_rules | `(tactic| k_extra "r") => `(tactic| first | exact rfl | assumption)
local macro_rules | `(tactic| k_mem) => `(tactic| assumption)
local macro_rules | `(tactic| k_all) => `(tactic| assumption)
local macro_rules | `(tactic| k_all) => `(tactic| exact Mine.allNe (by assumption))
local macro_rules | `(tactic| k_all) => `(tactic| exact Mine.allNe2 (by assumption) (by omega))
local macro_rules | `(tactic| ktr_room) => `(tactic| ((try simp only [depth_under_make, depth_under_kw, depth_in1, depth_deeper, depth_caller]); (try dsimp only [ktrTop]); omega))
local macro_rules | `(tactic| walk_at "binaryOp FloorDiv int int") => `(tactic| (k_here; (with_reducible refine floordiv_int ?m1 ?_ (Or.inl (PyProof.noPylong_small ?m2))); (case m1 | m2 => omega)))
local macro_rules | `(tactic| walk_at "binaryOp Mod int int") => `(tactic| (k_here; (with_reducible refine mod_int' ?m1 ?_); (case m1 => omega)))
local macro_rules | `(tactic| walk_at "subscriptTail Name Constant ref int") => `(tactic| (k_here; (with_reducible show wpAny _ _ (subscriptTail _ _ (Value.ref _) (Value.int _ _)) _ _ _); k_dflt (refine' Mine.item_w ?k1 ?k2 ?k3 ?k4 ?k5 ?_ ?k6; (case k1 => k_asm); (case k2 => k_mem); (case k3 | k4 => decide); (case k5 => rfl); (case k6 => with_unfolding_all rfl); k_whole)))
local macro_rules | `(tactic| walk_at "call builtin:len cons nil") => `(tactic| (k_here; (with_reducible show wpAny _ _ (call (Value.builtin "len") [Value.ref _]) _ _ _); k_dflt (refine' Mine.len_w ?k1 ?k2 ?k3 ?_; (case k1 => k_asm); (case k2 => k_mem); (case k3 => first | omega | decide); k_whole)))
local macro_rules | `(tactic| walk_at "subscriptTail Name Call ref int") => `(tactic| (k_here; (with_reducible show wpAny _ _ (subscriptTail _ _ (Value.ref _) (Value.int _ _)) _ _ _); k_dflt (refine' Mine.item_x ?k1 ?k2 ?k3 ?k4 ?k5 ?_ ?k6; (case k1 => k_asm); (case k2 => k_mem); (case k3 | k4 => assumption); (case k5 => omega); (case k6 => with_unfolding_all rfl); k_whole); intro v' hv'))
local macro_rules | `(tactic| walk_at $s:str) => `(tactic| k_extra $s)
local macro_rules | `(tactic| walk_at "call builtin:len cons nil") => `(tactic| (k_here; (with_reducible show wpAny _ _ (call (Value.builtin "len") [Value.ref _]) _ _ _); k_dflt (refine' Mine.len_h ?k1 ?k2 ?k3 ?_; (case k1 => k_asm); (case k2 => assumption); (case k3 => first | omega | decide); k_whole)))
/-- a frame's map with some names told outright -/
def setM : List (Str × Value) → (Str → Option Value) → Str → Option Value
  | [], m => m
  | (a, v) :: r, m => fun y => if y = a then some v else setM r m y
theorem setM_self {m : Str → Option Value} : ∀ {ps : List (Str × Value)}, (∀ p ∈ ps, m p.1 = some p.2) → setM ps m = m
  | [], _ => rfl
  | (a, v) :: r, h => by
    funext y
    show (if y = a then some v else setM r m y) = m y
    rw [setM_self fun p hp => h p (.tail _ hp)]
    split
    · rename_i e; rw [e]; exact (h (a, v) (.head _)).symm
    · rfl
def WEnd {σ : Type} (h₀ : Heap) (L : Addr) (m : Str → Option Value) (ps : σ → List (Str × Value)) (led : σ → List (Addr × Obj)) (P : Nat → σ → Prop) (n : Nat) (s : Shared) (f : Flow) (s₃ : Shared) : Prop :=
  f = .next ∧ ∃ h' tk M' nw c' n', s₃ = { s with heap := h', toks := tk } ∧ Fr h₀ L h' M' ∧ News h₀ L h' nw ∧ (∀ p ∈ led c', p ∈ nw) ∧ n' < n ∧ P n' c' ∧ M' = setM (ps c') m
theorem WEnd.intro {σ : Type} {h₀ : Heap} {L : Addr} {m : Str → Option Value} {ps : σ → List (Str × Value)} {led : σ → List (Addr × Obj)} {P : Nat → σ → Prop} {n : Nat} {s : Shared} {h' : Heap} {tk : Nat} {M' : Str → Option Value} {nw : List (Addr × Obj)} (c' : σ) (n' : Nat)
    (F : Fr h₀ L h' M') (N : News h₀ L h' nw) (hs : ∀ p ∈ led c', p ∈ nw) (hn : n' < n) (hP : P n' c') (hm : M' = setM (ps c') m) : WEnd h₀ L m ps led P n s .next { s with heap := h', toks := tk } :=
  ⟨rfl, h', tk, M', nw, c', n', rfl, F, N, hs, hn, hP, hm⟩
theorem setM_one (a : Str) (v v' : Value) (m : Str → Option Value) : (fun y => if y = a then some v' else setM [(a, v)] m y) = setM [(a, v')] m := by
  funext y
  simp only [setM]
  split <;> rfl
/-- the end of a turn that has stored the one int -/
theorem WEnd.int1 {h₀ : Heap} {L : Addr} {m : Str → Option Value} {a : Str} {led : Int × Tok → List (Addr × Obj)} {P : Nat → Int × Tok → Prop} {n : Nat} {s : Shared} {h' : Heap} {tk : Nat} {nw : List (Addr × Obj)} {v : Value} {e' : Int} {t' : Tok} (n' : Nat)
    (F : Fr h₀ L h' (fun y => if y = a then some (.int e' t') else setM [(a, v)] m y)) (N : News h₀ L h' nw) (hs : ∀ p ∈ led (e', t'), p ∈ nw) (hn : n' < n) (hP : P n' (e', t')) : WEnd h₀ L m (fun c : Int × Tok => [(a, .int c.1 c.2)]) led P n s .next { s with heap := h', toks := tk } :=
  WEnd.intro (e', t') n' F N hs hn hP (setM_one a v _ m)
section
variable {prog : Program} {w : World} {A : Around} {E : Value → Shared → Prop} {Q : Flow → Shared → Prop} {s : Shared} {env : Env} {h₀ : Heap} {L : Addr}
/-- a while by what holds between its turns: the names that it turns, the ledger, a measure -/
theorem While_S {σ : Type} {test : PySem.Expr} {body : List Stmt} {pos : Pos} {m : Str → Option Value} {news : List (Addr × Obj)} (ps : σ → List (Str × Value)) (led : σ → List (Addr × Obj)) (P : Nat → σ → Prop) (c₀ : σ) {n₀ : Nat}
    (F : Fr h₀ L s.heap m) (N : News h₀ L s.heap news) (hs : ∀ p ∈ led c₀, p ∈ news) (h0 : ∀ p ∈ ps c₀, m p.1 = some p.2) (hP : P n₀ c₀)
    (turn : ∀ n c h tk, P n c → Fr h₀ L h (setM (ps c) m) → News h₀ L h (led c) →
      wpAny (model prog w) A (isTrue test env (eval test env)) (fun b s₂ =>
        if b = true then wpAny (model prog w) A (execs body env) (WEnd h₀ L m ps led P n s) E s₂ else Q .next s₂) E { s with heap := h, toks := tk })
    (hE : PassesOwn (model prog w) A env E := by passes_own) :
    wpAny (model prog w) A (exec (.While test body [] pos) env) Q E s := by
  refine While_inv (fun n m₁ news₁ => ∃ c, P n c ∧ m₁ = setM (ps c) m ∧ ∀ p ∈ led c, p ∈ news₁) F N ⟨c₀, hP, (setM_self h0).symm, hs⟩ ?_ hE
  rintro n m₁ news₁ h₁ tk₁ F₁ N₁ ⟨c, hc, rfl, hl⟩
  refine wpAny_mono (turn n c h₁ tk₁ hc F₁ (fun p hp => N₁ p (hl p hp))) (fun b s₂ hb => ?_) fun _ _ e => e
  cases b with
  | false => simpa using hb
  | true =>
    simp only [if_true] at hb ⊢
    refine wpAny_mono hb (fun f s₃ hw => ?_) fun _ _ e => e
    obtain ⟨rfl, h', tk, M', nw, c', n', rfl, F', N', hs', hn, hP', hm⟩ := hw
    exact ⟨rfl, h', tk, M', nw, n', rfl, F', N', hn, c', hP', hm, hs'⟩
end
local macro_rules | `(tactic| walk_at "call ref") => `(tactic| ((with_reducible show wpAny _ _ (call (Value.ref 203) _) _ _ _); exfalso; first | omega | k_extra "absurd"))
open PySem.Builtin PySem.Builtin.Str in
theorem item_one {tx : Str} {e : Int} {c : Nat} (h0 : 0 ≤ e) (hc : tx.cps.toList[e.toNat]? = some c) : Txt.item tx e = ⟨#[c]⟩ := by
  have hl : e.toNat < tx.length := by
    have := (List.getElem?_eq_some_iff.mp hc).1
    simpa [Str.length] using this
  unfold Txt.item Txt.charAt
  have e1 : seqIndex? e tx.length = some e.toNat := by
    unfold seqIndex?
    simp only [show ¬ e < 0 by omega, if_false]
    rw [if_pos (by simp only [Bool.and_eq_true, decide_eq_true_eq]; omega)]
  rw [e1]
  show (⟨#[(tx.cps[e.toNat]?).getD 0]⟩ : Str) = _
  rw [← Array.getElem?_toList, hc]
  rfl
theorem in_one (sg : Str) (c : Nat) : (Builtin.Str.occurrences sg ⟨#[c]⟩ 0 sg.length 1).isEmpty = !decide (c ∈ sg.cps.toList) := by
  have := StrLaws.found_one sg c
  rw [← this, Bool.not_not]
theorem item_in {tx sg : Str} {e : Int} {c : Nat} (h0 : 0 ≤ e) (hc : tx.cps.toList[e.toNat]? = some c) : (Builtin.Str.occurrences sg (Txt.item tx e) 0 sg.length 1).isEmpty = !decide (c ∈ sg.cps.toList) := by
  rw [item_one h0 hc, in_one]
theorem typeCall_int_2 (a b : Value) : checkTypeCall "int" ⟨[a, b], []⟩ = pure () := by kernel_rfl
theorem newCall_int_2 (a b : Value) : checkBuiltinCall "int.__new__" ⟨[.type "int", a, b], []⟩ = pure () := by kernel_rfl
open PySem.NumText in
set_option maxHeartbeats 4000000 in
theorem gives_text2 {x : PySem.Str} {u v : Tok} {n : Int} (hl : x.length ≤ 640) (hn : PySem.intText? x = some n) : Gives (Builtin.«int.__new__» ⟨[.type "int", .str x u, .int 10 v], []⟩) (.int n) :=
  .of_wp fun M A E s Q h => by
    obtain ⟨hp, g, d, tk, os⟩ := s
    have f1 := F.conv_sub_int
    have f2 := F.madeHere_int
    have f6 : typeOf (.str x u) = pure (.type "str") := rfl
    have hs : (numSeenOf x).length ≤ 640 := Nat.le_trans (seen_length x) hl
    have hr : (int_private% "readNumeral") 0 10 (numSeenOf x) = (int_private% "Numeral.value") n ∧ ((numSeenOf x).length == (numTextOf x).length) = true := by
      rcases read0 x hs with ⟨m, h1, h2, h3⟩ | ⟨h1, _⟩
      · rw [hn] at h1
        injection h1 with h1
        subst h1
        exact ⟨h3, h2⟩
      · rw [hn] at h1
        cases h1
    have hk := PySem.W.KIN.Hid.mk (And.intro hs hr)
    clear hs hr hl hn
    repeat (any_goals (first
      | assumption
      | ((with_reducible show wpAny _ _ ((int_private% "intFromText") _ _ _) _ _ _); refine PySem.W.KIN.wp_text hk.out.1 hk.out.2.1 hk.out.2.2 ?_)
      | wp_step))
    all_goals first | exact ⟨_, rfl, h⟩ | skip
section
variable {prog : Program} {w : World} {A : Around} {E : Value → Shared → Prop} {s : Shared} {Q : Value → Shared → Prop} {x : PySem.Str} {t u : Tok} {n : Int}
theorem call_text2 (hn : PySem.intText? x = some n) (hl : x.length ≤ 640) (h : Q (.int n s.toks) { s with toks := s.toks + 1 }) : wpAny (model prog w) A (call (.type "int") [.str x t, .int 10 u]) Q E s :=
  callType_new F.called_int F.newNe_int (typeCall_int_2 _ _) (newCall_int_2 _ _) (fun obj => F.args_object_init_3 obj _ _) F.entry_int_new (gives_text2 hl hn).meets (show (Made.int n).post _ s from ⟨rfl, h⟩)
end
section
open PySem.Builtin PySem.Builtin.Str PySem.StrLaws
theorem len_cps (x : Str) : x.cps.toList.length = x.length := Array.length_toList
theorem slice_nat (x : Str) {a b : Nat} (hab : a ≤ b) : Txt.slice x (some (a : Int)) (some (b : Int)) = ⟨((x.cps.toList.drop a).take (b - a)).toArray⟩ := by
  have e : strSliceIndices (some (a : Int)) (some (b : Int)) 1 x.length = strSliceIndices (some ((min a x.length : Nat) : Int)) (some ((min b x.length : Nat) : Int)) 1 x.length := by
    unfold strSliceIndices
    have h1 : ¬ (a : Int) < 0 := by omega
    have h2 : ¬ (b : Int) < 0 := by omega
    have h3 : ¬ ((min a x.length : Nat) : Int) < 0 := by omega
    have h4 : ¬ ((min b x.length : Nat) : Int) < 0 := by omega
    simp only [h1, h2, h3, h4, if_false]
    congr 1 <;> omega
  have e2 : Txt.slice x (some (a : Int)) (some (b : Int)) = sliceText x (some ((min a x.length : Nat) : Int)) (some ((min b x.length : Nat) : Int)) := by
    show (if _ then _ else _) = _
    unfold sliceText
    rw [e]
  rw [e2, sliceText_nat x (by omega) (by omega)]
  congr 2
  have hl := len_cps x
  by_cases ha : a ≤ x.length
  · rw [Nat.min_eq_left ha]
    by_cases hb : b ≤ x.length
    · rw [Nat.min_eq_left hb]
    · rw [Nat.min_eq_right (by omega), List.take_of_length_le (by rw [List.length_drop]; omega), List.take_of_length_le (by rw [List.length_drop]; omega)]
  · rw [List.drop_of_length_le (by omega), List.drop_of_length_le (by omega), List.take_nil, List.take_nil]
theorem slice_mid {x : Str} {pre mid post : List Nat} {a b : Int} (h : x.cps.toList = pre ++ mid ++ post) (ha : a = pre.length) (hb : b = a + mid.length) : Txt.slice x (some a) (some b) = ⟨mid.toArray⟩ := by
  subst hb ha
  have := slice_nat x (a := pre.length) (b := pre.length + mid.length) (by omega)
  rw [Int.natCast_add] at this
  rw [this, h]
  congr 2
  rw [List.append_assoc, List.drop_left' rfl, Nat.add_sub_cancel_left, List.take_left' rfl]
theorem find_mid {x : Str} {pre u post : List Nat} {c : Nat} {a : Int} (h : x.cps.toList = pre ++ u ++ c :: post) (ha : a = pre.length) (hu : c ∉ u) : Txt.find3 x ⟨#[c]⟩ a = a + u.length := by
  subst ha
  have hlen : x.length = pre.length + u.length + (post.length + 1) := by rw [← len_cps, h]; simp; omega
  have hfi : fromIndex x.length (pre.length : Int) = pre.length := by
    unfold fromIndex
    first | (simp; omega) | (split <;> omega) | simp
  have at_ : ∀ v, v < x.length → x.cps.getD v 0 = (pre ++ u ++ c :: post).getD v 0 := by
    intro v hv
    have hv' : v < x.cps.toList.length := by rw [len_cps]; exact hv
    have q := getD_of_getElem? (x := x) (v := v) (List.getElem?_eq_getElem hv')
    rw [q, List.getD_eq_getElem?_getD, ← h, List.getElem?_eq_getElem hv']
    rfl
  have hat : ∀ v, pre.length ≤ v → v < pre.length + u.length → x.cps.getD v 0 ≠ c := by
    intro v h1 h2 he
    rw [at_ v (by omega)] at he
    have hu' : (pre ++ u ++ c :: post).getD v 0 = u.getD (v - pre.length) 0 := by
      rw [List.append_assoc]
      simp only [List.getD_eq_getElem?_getD]
      rw [List.getElem?_append_right h1, List.getElem?_append_left (by omega)]
    rw [hu'] at he
    apply hu
    rw [← he, List.getD_eq_getElem?_getD, List.getElem?_eq_getElem (by omega)]
    exact List.getElem_mem _
  have hc : x.cps.getD (pre.length + u.length) 0 = c := by
    rw [at_ _ (by omega)]
    simp only [List.getD_eq_getElem?_getD]
    rw [List.getElem?_append_right (by simp)]
    simp
  rcases find3_spec x c (pre.length : Int) with ⟨_, hn⟩ | ⟨k, e, h1, h2, h3, h4⟩
  · exact absurd hc (hn _ (by rw [hfi]; omega) (by omega))
  · rw [e]
    rw [hfi] at h1 h4
    have : k = pre.length + u.length := by
      rcases Nat.lt_trichotomy k (pre.length + u.length) with q | q | q
      · exact absurd h3 (hat k h1 q)
      · exact q
      · exact absurd hc (h4 _ (by omega) q)
    omega
end
section
variable {prog : Program} {w : World} {A : Around} {E : Value → Shared → Prop} {s : Shared} {h₀ : Heap} {L D : Addr} {m : Str → Option Value} {news : List (Addr × Obj)} {g : Obj → List (Addr × Obj)}
theorem append_w {vs : List Value} {n : Nat} {x : Value} {Q : Value → Shared → Prop} (F : Fr h₀ L s.heap m) (N : News h₀ L s.heap news) (U : UpdF D (listOf vs.toArray n) news g) (hz : vs.length ≤ 16777216)
    (h : ∀ h', Fr h₀ L h' m → News h₀ L h' (g (listOf (vs ++ [x]).toArray (n + 1))) → Q .none { s with heap := h' }) : wpAny (model prog w) A (call (.builtin "list.append") [.ref D, x]) Q E s := by
  obtain ⟨pre, post, rfl, hg, a, b⟩ := U.split
  have z := N (D, listOf vs.toArray n) (List.mem_append.mpr (.inr (.head _)))
  refine append_at (hsz := by rw [List.size_toArray, sizeLine_eq]; omega) z.1 fun h' hs ho' => h h' (F.change hs z.2.1 z.2.2) ?_
  rw [hg, ← List.push_toArray]
  exact news_set N a b hs ho'
end
theorem setM_two (a b : Str) (v w v' w' : Value) (m : Str → Option Value) : (fun y => if y = a then some v' else if y = b then some w' else setM [(a, v), (b, w)] m y) = setM [(a, v'), (b, w')] m := by
  funext y
  simp only [setM]
  split
  · rfl
  · split <;> rfl
theorem strs_snoc {vs : List Value} {xs : List Str} (h : StrsAre vs xs) (x : Str) (t : Tok) : StrsAre (vs ++ [.str x t]) (xs ++ [x]) := by
  induction h with
  | nil => exact .cons x t .nil
  | cons y u _ ih => exact .cons y u ih
theorem join_cat : ∀ (xs : List Str), (Txt.join (Str.ofString "") xs).cps.toList = xs.flatMap (·.cps.toList) := by
  have e0 : Str.ofString "" = Str.empty := by decide +kernel
  intro xs
  show (Builtin.Str.glued (Str.ofString "") xs).cps.toList = _
  rw [StrLaws.glued_eq_join, e0]
  induction xs with
  | nil => rfl
  | cons a r ih =>
    cases r with
    | nil => simp [Str.join]
    | cons b r =>
      show (a ++ Str.empty ++ Str.join Str.empty (b :: r)).cps.toList = _
      rw [Str.cps_append, Array.toList_append, ih, Str.cps_append, Array.toList_append]
      show a.cps.toList ++ [] ++ _ = _
      rw [List.append_nil]; rfl
local macro_rules | `(tactic| walk_at "call builtin:list.append") => `(tactic| (k_here; (with_reducible show wpAny _ _ (call (Value.builtin _) [Value.ref _, _]) _ _ _); k_dflt (refine' Mine.append_w ?k1 ?k2 ?k3 ?z ?_; (case k1 | k2 => k_asm); (case k3 => k_updF); (case z => first | omega | ((simp only [List.length_append, List.length_cons, List.length_nil]); omega)); k_whole); intro h' F' N'; (try dsimp only at N')))
/-- the well of draws: two ints -/
abbrev srcO (x y : Int) (tx ty : Tok) (n : Nat) : Obj := W.listOf #[.int x tx, .int y ty] n

theorem take_use {w : World} {mean : ExcName → Option Value} {mg mb : Str → Option Value}
  {dp un : Nat} {gd : Option (List Code)} {cn : Str} {cs : Scope} {a : Addr} {ccd : Value} {cl : List (Str × Addr)} {outer : List Env} {A₀ : Around} {base h₀ : Heap} {L : Addr} {m : Str → Option Value} {s : Shared} {Q E : Value → Shared → Prop}
  {src : Addr} {x y top : Int} {tx ty tt : Tok} {n : Nat} {news : List (Addr × Obj)} {g : Obj → List (Addr × Obj)}
  (X : (hd.heap_39 w.params).In h₀) (B : Below A₀ base outer h₀) (F : Fr h₀ L s.heap m) (N : News h₀ L s.heap news)
  (T : Top hd.view_39 (looseW hd.view_39 [Str.ofString "NAME_SIGNS", Str.ofString "LIKE_SIGNS", Str.ofString "GREATEST"]) mean mg mb h₀) (hk : cs.kind = .function) (hd : dp + 5 < recursionLimit) (hu : un + 50 < cLine)
  (U : UpdF src (srcO x y tx ty n) news g) (hx : 0 ≤ x) (hy : 0 ≤ y) (hy2 : y < 2147483647) (ht : 1 ≤ top) (ht2 : top < 1000000)
  (hret : ∀ d td x' y' tx' ty' h' tk', 0 ≤ d → d < top → 0 ≤ x' → 0 ≤ y' → y' < 2147483647 → Fr h₀ L h' m → News h₀ L h' (g (srcO x' y' tx' ty' n)) → Q (.int d td) { s with heap := h', toks := tk' }) :
    wpAny (model PySem.Challenge.rw_pb0448_01.row.prog w) (ktrTop dp un gd cn cs L a ccd cl outer) (call (.ref 301) [.ref src, .int top tt]) Q E s := by
  obtain ⟨rest, hin, hrest, _, hout⟩ := upd_in U
  replace N := hin N
  clear U hin
  revert X; k_fill; intro X
  refine wpAny_call ?_
  k_dflt ktr_enter
  k_steps
  · obtain ⟨f1, f2⟩ := fdiv_le hx ht
    obtain ⟨f3, f4⟩ := fmod_in (x := x) ht
    exact hret _ _ _ _ _ _ _ _ f3 f4 f1 hy hy2 (by assumption) (hout _ (by assumption))
  · obtain ⟨f3, f4⟩ := fmod_in (x := ((((y * 39373 + 7).fmod 2147483647 * (y * 39373 + 7).fmod 2147483647).fmod 2147483629).fdiv 32)) ht
    obtain ⟨f5, f6⟩ := fmod_in (x := y * 39373 + 7) (t := 2147483647) (by decide)
    exact hret _ _ _ _ _ _ _ _ f3 f4 hx f5 f6 (by assumption) (hout _ (by assumption))
local macro_rules | `(tactic| walk_at "call ref") => `(tactic| (k_here; (with_reducible show wpAny _ _ (call (Value.ref 301) _) _ _ _); k_dflt (refine' Mine.take_use ?k1 ?k2 ?k3 ?k4 ?k5 ?k6 ?k7 ?k8 ?U ?x ?y ?y2 ?t ?t2 ?_; (case k1 | k2 | k3 | k4 | k5 => k_asm); (case k6 => k_extra "r"); (case k7 => ktr_room); (case k8 => ktr_units); (case U => k_updF); (case x | y | y2 => assumption); (case t | t2 => omega); k_whole); intro d' td' x' y' tx' ty' h' tk' hd0' hd1' hx0' hy0' hy1' F' N'; (try dsimp only at N')))
theorem one_use {w : World} {mean : ExcName → Option Value} {mg mb : Str → Option Value}
  {dp un : Nat} {gd : Option (List Code)} {cn : Str} {cs : Scope} {a : Addr} {ccd : Value} {cl : List (Str × Addr)} {outer : List Env} {A₀ : Around} {base h₀ : Heap} {L : Addr} {m : Str → Option Value} {s : Shared} {Q E : Value → Shared → Prop}
  {src th : Addr} {x y : Int} {tx ty : Tok} {n nt : Nat} {vs : List Value} {news : List (Addr × Obj)} {g : Obj → List (Addr × Obj)}
  (X : (hd.heap_39 w.params).In h₀) (B : Below A₀ base outer h₀) (F : Fr h₀ L s.heap m) (N : News h₀ L s.heap news)
  (T : Top hd.view_39 (looseW hd.view_39 [Str.ofString "NAME_SIGNS", Str.ofString "LIKE_SIGNS", Str.ofString "GREATEST"]) mean mg mb h₀) (hk : cs.kind = .function) (hd : dp + 10 < recursionLimit) (hu : un + 100 < cLine)
  (U : UpdF src (srcO x y tx ty n) news g) (hth : (th, W.listOf vs.toArray nt) ∈ news) (hne : th ≠ src) (hv : 1 ≤ vs.length) (hv2 : vs.length < 1000) (hx : 0 ≤ x) (hy : 0 ≤ y) (hy2 : y < 2147483647)
  (hret : ∀ v x' y' tx' ty' h' tk', v ∈ vs → 0 ≤ x' → 0 ≤ y' → y' < 2147483647 → Fr h₀ L h' m → News h₀ L h' (g (srcO x' y' tx' ty' n)) → Q v { s with heap := h', toks := tk' }) :
    wpAny (model PySem.Challenge.rw_pb0448_01.row.prog w) (ktrTop dp un gd cn cs L a ccd cl outer) (call (.ref 308) [.ref src, .ref th]) Q E s := by
  obtain ⟨rest, hin, hrest, hall, hout⟩ := upd_in U
  replace N := hin N
  replace hth := hall _ hth hne
  clear U hin
  revert X; k_fill; intro X
  refine wpAny_call ?_
  k_dflt ktr_enter
  k_steps
  refine hret _ _ _ _ _ _ _ (List.mem_of_getElem? (by assumption)) ?_ ?_ ?_ (by assumption) (hout _ (by assumption)) <;> assumption
theorem mem_int {l : List Value} {v : Value} (b : Int) (h : v ∈ l) (hl : l.all (fun v => match v with | .int i _ => decide (0 ≤ i) && decide (i ≤ b) | _ => false) = true) : ∃ i t, v = .int i t ∧ 0 ≤ i ∧ i ≤ b := by
  have := List.all_eq_true.mp hl v h
  cases v with
  | int i t => simp only [Bool.and_eq_true, decide_eq_true_eq] at this; exact ⟨i, t, rfl, this.1, this.2⟩
  | _ => cases this
theorem mem_str1 {l : List Value} {v : Value} (h : v ∈ l) (hl : l.all (fun v => match v with | .str x _ => x.cps.size == 1 | _ => false) = true) : ∃ x t, v = .str x t ∧ x.length = 1 := by
  have := List.all_eq_true.mp hl v h
  cases v with
  | str x t => exact ⟨x, t, rfl, beq_iff_eq.mp this⟩
  | _ => cases this
theorem off3_upd {d I C D : Addr} {o : Obj} {news : List (Addr × Obj)} {g : Obj → List (Addr × Obj)} (U : UpdF d o news g) (o' o'' : Obj) (h : LCg.Off3 I C D (g o')) : LCg.Off3 I C D (g o'') := by
  obtain ⟨pre, post, _, hg, _, _⟩ := U.split
  rw [hg] at h ⊢
  refine LCg.Off3.of fun p hp => ?_
  have h' := h.mem
  rcases List.mem_append.mp hp with q | q
  · exact h' p (List.mem_append.mpr (.inl q))
  · rcases List.mem_cons.mp q with rfl | q
    · exact h' (d, o') (List.mem_append.mpr (.inr (.head _)))
    · exact h' p (List.mem_append.mpr (.inr (.tail _ q)))
theorem strs_of {ys : List Value} (h : ∀ v ∈ ys, ∃ x t, v = .str x t ∧ x.length = 1) : ∃ xs, StrsAre ys xs ∧ xs.length = ys.length ∧ ∀ x ∈ xs, x.length = 1 := by
  induction ys with
  | nil => exact ⟨[], .nil, rfl, fun _ h => nomatch h⟩
  | cons v ys ih =>
    obtain ⟨x, t, rfl, hx⟩ := h _ (.head _)
    obtain ⟨xs, h1, h2, h3⟩ := ih fun v hv => h v (.tail _ hv)
    exact ⟨x :: xs, .cons x t h1, by simp [h2], fun y hy => by rcases List.mem_cons.mp hy with rfl | hy; exact hx; exact h3 y hy⟩
theorem ints_of {ys : List Value} {b : Int} (h : ∀ v ∈ ys, ∃ i t, v = .int i t ∧ 0 ≤ i ∧ i ≤ b) : ∃ ns, IntsAre ys ns ∧ ns.length = ys.length ∧ ∀ n ∈ ns, 0 ≤ n ∧ n ≤ b := by
  induction ys with
  | nil => exact ⟨[], .nil, rfl, fun _ h => nomatch h⟩
  | cons v ys ih =>
    obtain ⟨i, t, rfl, hx⟩ := h _ (.head _)
    obtain ⟨xs, h1, h2, h3⟩ := ih fun v hv => h v (.tail _ hv)
    exact ⟨i :: xs, .cons i t h1, by simp [h2], fun y hy => by rcases List.mem_cons.mp hy with rfl | hy; exact hx; exact h3 y hy⟩
theorem mem_intE {l : List Value} {v : Value} {P : Prop} (b : Int) (h : v ∈ l) (hl : l.all (fun v => match v with | .int i _ => decide (0 ≤ i) && decide (i ≤ b) | _ => false) = true) (k : ∀ i t, v = .int i t → 0 ≤ i → i ≤ b → P) : P :=
  let ⟨i, t, e, a, c⟩ := mem_int b h hl
  k i t e a c
theorem mem_str1E {l : List Value} {v : Value} {P : Prop} (h : v ∈ l) (hl : l.all (fun v => match v with | .str x _ => x.cps.size == 1 | _ => false) = true) (k : ∀ x t, v = .str x t → x.length = 1 → P) : P :=
  let ⟨x, t, e, a⟩ := mem_str1 h hl
  k x t e a
/-- the end of a drawn element's turn -/
def DrawEnd (Pv : Value → Prop) (h₀ : Heap) (L : Addr) (m : Str → Option Value) (s : Shared) (I : Addr) (oI : Obj) (C : Addr) (oC : Obj) (D : Addr) (ys : List Value) (g : Obj → List (Addr × Obj)) (n : Nat) (y : Value) (s₂ : Shared) : Prop :=
  ∃ h' tk' x'' y'' tx'' ty'', s₂ = { s with heap := h', toks := tk' } ∧ Fr h₀ L h' m ∧ News h₀ L h' ((I, oI) :: (C, oC) :: (D, LCg.lst ys) :: g (srcO x'' y'' tx'' ty'' n)) ∧ 0 ≤ x'' ∧ 0 ≤ y'' ∧ y'' < 2147483647 ∧ Pv y
theorem DrawEnd.intro {Pv : Value → Prop} {h₀ : Heap} {L : Addr} {m : Str → Option Value} {s : Shared} {I : Addr} {oI : Obj} {C : Addr} {oC : Obj} {D : Addr} {ys : List Value} {g : Obj → List (Addr × Obj)} {n : Nat} {y : Value} {h' : Heap} {tk' : Nat} {all : List (Addr × Obj)} {x'' y'' : Int} {tx'' ty'' : Tok}
    (F : Fr h₀ L h' m) (N : News h₀ L h' all) (sub : ∀ p ∈ (I, oI) :: (C, oC) :: (D, LCg.lst ys) :: g (srcO x'' y'' tx'' ty'' n), p ∈ all) (hx : 0 ≤ x'') (hy : 0 ≤ y'') (hy2 : y'' < 2147483647) (hv : Pv y) : DrawEnd Pv h₀ L m s I oI C oC D ys g n y { s with heap := h', toks := tk' } :=
  ⟨h', tk', x'', y'', tx'', ty'', rfl, F, fun p hp => N p (sub p hp), hx, hy, hy2, hv⟩
section
variable {prog : Program} {w : World} {A : Around} {E : Value → Shared → Prop} {s : Shared} {h₀ : Heap} {L : Addr} {m : Str → Option Value} {env : Env}
/-- a comprehension over range(0, b), each element drawn from the well -/
theorem comp_draw (Pv : Value → Prop) {elt : PySem.Expr} {x : Str} {scope : Scope} {cl : List (Str × Addr)} {Fin : Shared → List Value → List (Addr × Obj) → Prop} {r src : Addr} {b xx yy : Int} {t u v tx ty : Tok} {n : Nat} {news : List (Addr × Obj)} {g : Obj → List (Addr × Obj)}
    (hh : A.handled = none) (F : Fr h₀ L s.heap m) (N : News h₀ L s.heap news) (hr : IsRange s.heap r 0 b 1 t u v) (hb0 : 0 ≤ b) (hb : b < 1000) (U : UpdF src (srcO xx yy tx ty n) news g) (hx : 0 ≤ xx) (hy : 0 ≤ yy) (hy2 : yy < 2147483647)
    (turn : ∀ k kt ys I oI C oC D m₂ x' y' tx' ty' h tk (E' : Value → Shared → Prop), LCg.NsObj oC m₂ → m₂ x = some (.int k kt) → Fr h₀ L h m → News h₀ L h ((I, oI) :: (C, oC) :: (D, LCg.lst ys) :: g (srcO x' y' tx' ty' n)) → LCg.Off3 I C D (g (srcO x' y' tx' ty' n)) → ((@Ne Nat I C) ∧ (@Ne Nat I D) ∧ (@Ne Nat C D)) → 0 ≤ x' → 0 ≤ y' → y' < 2147483647 →
      wpAny (model prog w) A (eval elt (compEnvC scope cl C env)) (DrawEnd Pv h₀ L m { s with heap := h, toks := tk } I oI C oC D ys g n) E' { s with heap := h, toks := tk })
    (fin : ∀ h ys x' y' tx' ty', ys.length = b.toNat → (∀ v ∈ ys, Pv v) → 0 ≤ x' → 0 ≤ y' → y' < 2147483647 → Fin { s with heap := h } ys (g (srcO x' y' tx' ty' n))) :
    LCg.CompSrc prog w A h₀ L m env elt x scope cl Fin (.ref r) s := by
  have hsz : b.toNat ≤ sizeLine := by rw [sizeLine_eq]; omega
  refine LCg.CompSrc.range (n := (b - 0).toNat) hh F N hr (small_one (by omega) (by omega) (by omega) (by omega)) (rangeSize_nat _ _) (by simpa using hsz) fun h₁ => ?_
  have e : news = g (srcO xx yy tx ty n) := by
    obtain ⟨pre, post, e1, hg, _, _⟩ := U.split
    rw [hg, e1]
  refine comp_inv (fun _ ys nw => (∀ v ∈ ys, Pv v) ∧ ∃ x' y' tx' ty', 0 ≤ x' ∧ 0 ≤ y' ∧ y' < 2147483647 ∧ nw = g (srcO x' y' tx' ty' n)) ⟨(fun _ h => nomatch h), _, _, _, _, hx, hy, hy2, e⟩ ?_ ?_
  · rintro i v I oI C oC D m₂ ys _ h tk E' hi hl ⟨kt, rfl⟩ hC hm F' N' off ne ⟨hp, x', y', tx', ty', hx', hy', hy2', rfl⟩
    refine wpAny_mono (turn _ kt ys I oI C oC D m₂ x' y' tx' ty' h tk E' hC hm F' N' off ne hx' hy' hy2') (fun y s₂ hq => ?_) fun _ _ e => e
    obtain ⟨h', tk', x'', y'', tx'', ty'', rfl, F'', N'', hx'', hy'', hy2'', hv⟩ := hq
    refine ⟨h', tk', g (srcO x'' y'' tx'' ty'' n), rfl, F'', N'', off3_upd U _ _ off, trivial, ?_, _, _, _, _, hx'', hy'', hy2'', rfl⟩
    intro v hv'
    rcases List.mem_append.mp hv' with q | q
    · exact hp v q
    · rw [List.mem_singleton.mp q]; exact hv
  · rintro ys _ hl ⟨hp, x', y', tx', ty', hx', hy', hy2', rfl⟩
    exact fin h₁ ys x' y' tx' ty' (by rw [hl]; simp) hp hx' hy' hy2'
theorem join_w {D : Addr} {vs : List Value} {n : Nat} {ys : List Str} {x : Str} {t : Tok} {news : List (Addr × Obj)} {Q : Value → Shared → Prop} (N : News h₀ L s.heap news) (hm : (D, listOf vs.toArray n) ∈ news) (hi : StrsAre vs ys) (hok : (ys.map (·.length)).sum + ys.length * x.length ≤ 16777216)
    (h : ∀ t' k, Q (.str (Txt.join x ys) t') { s with toks := k }) : wpAny (model prog w) A (call (.builtin "str.join") [.str x t, .ref D]) Q E s :=
  join_list (PySem.IsL.isList (n := n) (N _ hm).1) hi hok h
end
theorem sum_ones {l : List Str} (h : ∀ x ∈ l, x.length = 1) : (l.map (·.length)).sum = l.length := by
  induction l with
  | nil => rfl
  | cons a l ih => simp [h a (.head _), ih fun x hx => h x (.tail _ hx)]; omega
section
variable {prog : Program} {w : World} {A : Around} {E : Value → Shared → Prop} {s : Shared} {h₀ : Heap} {L : Addr} {m : Str → Option Value}
theorem join_w0 {D : Addr} {vs : List Value} {n : Nat} {ys : List Str} {x : Str} {t : Tok} {news : List (Addr × Obj)} {Q : Value → Shared → Prop} (N : News h₀ L s.heap news) (hm : (D, listOf vs.toArray n) ∈ news) (hi : StrsAre vs ys) (hx : x.length = 0) (hok : (ys.map (·.length)).sum ≤ 16777216)
    (h : ∀ t' k, Q (.str (Txt.join x ys) t') { s with toks := k }) : wpAny (model prog w) A (call (.builtin "str.join") [.str x t, .ref D]) Q E s :=
  join_w N hm hi (by rw [hx]; simpa using hok) h
theorem bytes_w {D : Addr} {vs : List Value} {n : Nat} {ns : List Int} {news : List (Addr × Obj)} {Q : Value → Shared → Prop} (F : Fr h₀ L s.heap m) (N : News h₀ L s.heap news) (hm : (D, listOf vs.toArray n) ∈ news) (hi : IntsAre vs ns) (hr : ∀ n ∈ ns, 0 ≤ n ∧ n ≤ 255) (hz : ns.length ≤ 1000) (hh : A.handled = none)
    (h : ∀ h' t k b, Fr h₀ L h' m → News h₀ L h' news → b.size = ns.length → Q (.bytes b t) { s with heap := h', toks := k }) : wpAny (model prog w) A (call (.type "bytes") [.ref D]) Q E s :=
  bytes_K F N (PySem.IsL.isList (n := n) (N _ hm).1) hi (fun n hn => ⟨(hr n hn).1, by have := (hr n hn).2; omega⟩) (by rw [hi.length, sizeLine_eq]; omega) hh fun h' t k F' N' _ => h h' t k _ F' N' (by simp)
end
local macro_rules | `(tactic| walk_at "call ref") => `(tactic| (k_here; (with_reducible show wpAny _ _ (call (Value.ref 308) _) _ _ _); k_dflt (refine' Mine.one_use ?k1 ?k2 ?k3 ?k4 ?k5 ?k6 ?k7 ?k8 ?U ?a ?b ?c ?d ?x ?y ?y2 ?_; (case k1 | k2 | k3 | k4 | k5 => k_asm); (case k6 => k_extra "r"); (case k7 => ktr_room); (case k8 => ktr_units); (case U => k_updF); (case a => k_mem); (case b => first | assumption | k_ne); (case c | d => first | omega | exact Nat.le_of_ble_eq_true rfl); (case x | y | y2 => assumption); k_whole); intro v' x' y' tx' ty' h' tk' hv' hx0' hy0' hy1' F' N'; (try dsimp only at N'); (try (first | (refine Mine.mem_intE 63 hv' ?q9 ?_; (case q9 => kernel_rfl!); intro i9' t9' e9' a9' b9'; subst e9') | (refine Mine.mem_intE 255 hv' ?q9 ?_; (case q9 => kernel_rfl!); intro i9' t9' e9' a9' b9'; subst e9') | (refine Mine.mem_str1E hv' ?q9 ?_; (case q9 => kernel_rfl!); intro x9' t9' e9' a9'; subst e9')))))
local macro_rules | `(tactic| walk_at "DrawEnd") => `(tactic| k_dflt (refine' Mine.DrawEnd.intro ?F ?N ?S ?x ?y ?y2 ?v; (case F | N => k_asm); (case S => first | exact fun _ h => h | exact fun _ h => List.mem_cons_of_mem _ h); (case x | y | y2 => assumption); (case v => first | exact ⟨_, _, rfl, by assumption⟩ | exact ⟨_, _, rfl, by assumption, by assumption⟩)))
local macro_rules | `(tactic| walk_at "call builtin:str.join") => `(tactic| (k_here; (with_reducible show wpAny _ _ (call (Value.builtin "str.join") [Value.str _ _, Value.ref _]) _ _ _); k_dflt (refine' Mine.join_w0 ?N ?m ?i ?x ?ok ?_; (case N => k_asm); (case m => k_mem); (case i => assumption); (case x => decide +kernel); (case ok => first | omega | (rw [Mine.sum_ones (by assumption)]; omega)); k_whole); intro tj' kj'))
/-- a value of the database, as the law draws it -/
def OkV (v : Value) : Prop := v = .none ∨ (∃ i t, v = .int i t ∧ -9223372036854775808 ≤ i ∧ i < 9223372036854775808) ∨ (∃ x t, v = .str x t ∧ x.length ≤ 8) ∨ (∃ b t, v = .bytes b t ∧ b.size ≤ 8)

theorem clip_ok (q : Int) : -9223372036854775808 ≤ (if (if q < 2 ^ Int.toNat 63 - 1 then q else 2 ^ Int.toNat 63 - 1) > -2 ^ Int.toNat 63 then if q < 2 ^ Int.toNat 63 - 1 then q else 2 ^ Int.toNat 63 - 1 else -2 ^ Int.toNat 63) ∧ (if (if q < 2 ^ Int.toNat 63 - 1 then q else 2 ^ Int.toNat 63 - 1) > -2 ^ Int.toNat 63 then if q < 2 ^ Int.toNat 63 - 1 then q else 2 ^ Int.toNat 63 - 1 else -2 ^ Int.toNat 63) < 9223372036854775808 := by
  have e : (2 : Int) ^ Int.toNat 63 = 9223372036854775808 := by decide
  rw [e]
  constructor <;> (repeat' split) <;> omega
theorem value_use {w : World} {mean : ExcName → Option Value} {mg mb : Str → Option Value}
  {dp un : Nat} {gd : Option (List Code)} {cn : Str} {cs : Scope} {a : Addr} {ccd : Value} {cl : List (Str × Addr)} {outer : List Env} {A₀ : Around} {base h₀ : Heap} {L : Addr} {m : Str → Option Value} {s : Shared} {Q E : Value → Shared → Prop}
  {src : Addr} {x y : Int} {tx ty : Tok} {n : Nat} {news : List (Addr × Obj)} {g : Obj → List (Addr × Obj)}
  (X : (hd.heap_39 w.params).In h₀) (B : Below A₀ base outer h₀) (F : Fr h₀ L s.heap m) (N : News h₀ L s.heap news)
  (T : Top hd.view_39 (looseW hd.view_39 [Str.ofString "NAME_SIGNS", Str.ofString "LIKE_SIGNS", Str.ofString "GREATEST"]) mean mg mb h₀) (hk : cs.kind = .function) (hd : dp + 20 < recursionLimit) (hu : un + 200 < cLine)
  (U : UpdF src (srcO x y tx ty n) news g) (hx : 0 ≤ x) (hy : 0 ≤ y) (hy2 : y < 2147483647)
  (hret : ∀ {v x' y' tx' ty' h' tk'}, OkV v → 0 ≤ x' → 0 ≤ y' → y' < 2147483647 → Fr h₀ L h' m → News h₀ L h' (g (srcO x' y' tx' ty' n)) → Q v { s with heap := h', toks := tk' }) :
    wpAny (model PySem.Challenge.rw_pb0448_01.row.prog w) (ktrTop dp un gd cn cs L a ccd cl outer) (call (.ref 313) [.ref src]) Q E s := by
  obtain ⟨rest, hin, hrest, hall, hout⟩ := upd_in U
  replace N := hin N
  clear U hin
  revert X; k_fill; intro X
  refine wpAny_call ?_
  k_dflt (refine' code_defC ?k1 ?k2 ?k3 ?k4 ?k5 ?kA ?kF ?kK ?k6 ?k7 ?k8 ?k9 ?kB ?kD ?_ ?c2 ?c3 ?c4; (case kA => exact rfl); (case kF => exact rfl); (case kK => assumption); (case k1 => k_asm); (case k2 => k_asm); (case k3 => k_asm); (case k4 => k_asm); (case k5 => k_asm); (case k6 => k_is); (case k7 => k_is); (case k8 => ktr_room); (case k9 => exact BindsTo.of_eq rfl); (case kB => exact rfl); (case kD => decide +kernel); (case c2 => exact rfl); (case c3 => exact rfl); (case c4 => exact rfl); k_whole; intro g' L' h' tk' cells' FG' F' N' Y' B' X' T' l1; (try k_lt l1); k_cells Y'; (try simp only [List.cons_append, List.nil_append] at N'); (try dsimp only); (try k_lift B'); (try k_fold))
  obtain ⟨hsL, hrL⟩ := l1
  k_with_none
  k_with "CompSrc" => (k_dflt ((with_reducible show LCg.CompSrc _ _ _ _ _ _ _ (PySem.Expr.Call _ [_, PySem.Expr.Name _ _] _ _) _ _ _ _ _ _); refine' Mine.comp_draw (src := src) (fun v => ∃ x t, v = .str x t ∧ x.length = 1) ?hh ?F ?N ?r ?b0 ?b1 ?U ?x ?y ?y2 (fun k8 kt8 ys8 I8 oI8 C8 oC8 D8 m8 x8 y8 tx8 ty8 h8 tk8 E8 hC' hm' F' N' off' ne' hx8 hy8 hyy8 => ?_) (fun h8 ys8 x8 y8 tx8 ty8 hl8 hp8 hx8 hy8 hyy8 => ?finS); (case hh => rfl); (case F => k_asm); (case N => k_asm); (case r => assumption); (case b0 => assumption); (case b1 => omega); (case U => k_updF); (case x => assumption); (case y => assumption); (case y2 => assumption); (case' finS => obtain ⟨xs8, hxs8, hxl8, hx18⟩ := Mine.strs_of hp8); (all_goals (try dsimp only at N')); (all_goals (try simp only [LCg.Off3, and_true] at off')); (all_goals (try k_fold))))
  k_with "CompSrc" => (k_dflt ((with_reducible show LCg.CompSrc _ _ _ _ _ _ _ (PySem.Expr.Call _ [_, PySem.Expr.List _ _] _ _) _ _ _ _ _ _); refine' Mine.comp_draw (src := src) (fun v => ∃ i t, v = .int i t ∧ 0 ≤ i ∧ i ≤ 255) ?hhI ?FI ?NI ?rI ?b0I ?b1I ?UI ?xI ?yI ?y2I (fun k8 kt8 ys8 I8 oI8 C8 oC8 D8 m8 x8 y8 tx8 ty8 h8 tk8 E8 hC' hm' F' N' off' ne' hx8 hy8 hyy8 => ?_) (fun h8 ys8 x8 y8 tx8 ty8 hl8 hp8 hx8 hy8 hyy8 => ?finI); (case hhI => rfl); (case FI => k_asm); (case NI => k_asm); (case rI => assumption); (case b0I => assumption); (case b1I => omega); (case UI => k_updF); (case xI => assumption); (case yI => assumption); (case y2I => assumption); (case' finI => obtain ⟨xs8, hxs8, hxl8, hx18⟩ := Mine.ints_of hp8); (all_goals (try dsimp only at N')); (all_goals (try simp only [LCg.Off3, and_true] at off')); (all_goals (try k_fold))))
  k_with "call type:bytes" => (k_here; (with_reducible show wpAny _ _ (call (Value.type "bytes") [Value.ref _]) _ _ _); k_dflt (refine' Mine.bytes_w ?Fzy ?Nzy ?mzy ?izy ?rzy ?zzy ?hzy ?_; (case Fzy | Nzy => k_asm); (case mzy => k_mem); (case izy | rzy => assumption); (case zzy => omega); (case hzy => rfl); k_whole); intro hbzy' tbzy' kbzy' bbzy' Fzy' Nzy' hbszy')
  k_steps
  · refine' hret ?ok1 ?a1 ?b1 ?c1 ?F1 (hout _ (news_sub ?N1 ?SS1))
    case F1 => assumption
    case N1 => assumption
    case SS1 => first | exact fun _ h => h | exact fun _ h => .tail _ h | exact fun _ h => .tail _ (.tail _ h) | exact fun _ h => .tail _ (.tail _ (.tail _ h)) | exact fun _ h => .tail _ (.tail _ (.tail _ (.tail _ h)))
    case a1 => assumption
    case b1 => assumption
    case c1 => assumption
    case ok1 => exact .inl rfl
  · refine' hret ?ok2 ?a2 ?b2 ?c2 ?F2 (hout _ (news_sub ?N2 ?SS2))
    case F2 => assumption
    case N2 => assumption
    case SS2 => first | exact fun _ h => h | exact fun _ h => .tail _ h | exact fun _ h => .tail _ (.tail _ h) | exact fun _ h => .tail _ (.tail _ (.tail _ h)) | exact fun _ h => .tail _ (.tail _ (.tail _ (.tail _ h)))
    case a2 => assumption
    case b2 => assumption
    case c2 => assumption
    case ok2 => exact .inr (.inl ⟨_, _, rfl, clip_ok _⟩)
  · refine' hret ?ok3 ?a3 ?b3 ?c3 ?F3 (hout _ (news_sub ?N3 ?SS3))
    case F3 => assumption
    case N3 => assumption
    case SS3 => first | exact fun _ h => h | exact fun _ h => .tail _ h | exact fun _ h => .tail _ (.tail _ h) | exact fun _ h => .tail _ (.tail _ (.tail _ h)) | exact fun _ h => .tail _ (.tail _ (.tail _ (.tail _ h)))
    case a3 => assumption
    case b3 => assumption
    case c3 => assumption
    case ok3 => exact .inr (.inl ⟨_, _, rfl, clip_ok _⟩)
  · refine' hret ?ok4 ?a4 ?b4 ?c4 ?F4 (hout _ (news_sub ?N4 ?SS4))
    case F4 => assumption
    case N4 => assumption
    case SS4 => first | exact fun _ h => h | exact fun _ h => .tail _ h | exact fun _ h => .tail _ (.tail _ h) | exact fun _ h => .tail _ (.tail _ (.tail _ h)) | exact fun _ h => .tail _ (.tail _ (.tail _ (.tail _ h)))
    case a4 => assumption
    case b4 => assumption
    case c4 => assumption
    case ok4 => refine .inr (.inr (.inl ⟨_, _, rfl, ?_⟩)); rw [PySem.W.KT.join_ones _ (by assumption)]; omega
  · refine' hret ?ok5 ?a5 ?b5 ?c5 ?F5 (hout _ (news_sub ?N5 ?SS5))
    case F5 => assumption
    case N5 => assumption
    case SS5 => first | exact fun _ h => h | exact fun _ h => .tail _ h | exact fun _ h => .tail _ (.tail _ h) | exact fun _ h => .tail _ (.tail _ (.tail _ h)) | exact fun _ h => .tail _ (.tail _ (.tail _ (.tail _ h)))
    case a5 => assumption
    case b5 => assumption
    case c5 => assumption
    case ok5 => refine .inr (.inr (.inr ⟨_, _, rfl, ?_⟩)); omega
theorem mul_ite {q : Int} {c : Prop} [Decidable c] (h : 0 ≤ q) : 0 ≤ q * (if c then 1 else 0) := by
  split
  · rw [Int.mul_one]; exact h
  · rw [Int.mul_zero]; exact Int.le_refl 0
theorem pool_use {w : World} {mean : ExcName → Option Value} {mg mb : Str → Option Value}
  {dp un : Nat} {gd : Option (List Code)} {cn : Str} {cs : Scope} {a : Addr} {ccd : Value} {cl : List (Str × Addr)} {outer : List Env} {A₀ : Around} {base h₀ : Heap} {L : Addr} {m : Str → Option Value} {s : Shared} {Q E : Value → Shared → Prop}
  {sc : Addr} {vs : List Value} {ns : List Int} {k : Int} {tk : Tok} {news : List (Addr × Obj)}
  (X : (hd.heap_39 w.params).In h₀) (B : Below A₀ base outer h₀) (F : Fr h₀ L s.heap m) (N : News h₀ L s.heap news)
  (T : Top hd.view_39 (looseW hd.view_39 [Str.ofString "NAME_SIGNS", Str.ofString "LIKE_SIGNS", Str.ofString "GREATEST"]) mean mg mb h₀) (hk : cs.kind = .function) (hd : dp + 10 < recursionLimit) (hu : un + 100 < cLine)
  (hl : base.IsList sc vs.toArray) (hi : IntsAre vs ns) (hz : vs.length < 1000) (h0 : 0 ≤ k) (h1 : k < 3)
  (hret : ∀ {src x' y' tx' ty' n' h' tk'}, AllLt src news → 0 ≤ x' → 0 ≤ y' → y' < 2147483647 → Fr h₀ L h' m → News h₀ L h' ((src, srcO x' y' tx' ty' n') :: news) → Q (.ref src) { s with heap := h', toks := tk' }) :
    wpAny (model PySem.Challenge.rw_pb0448_01.row.prog w) (ktrTop dp un gd cn cs L a ccd cl outer) (call (.ref 294) [.ref sc, .int k tk]) Q E s := by
  revert X; k_fill; intro X
  refine wpAny_call ?_
  k_dflt (refine' Mine.code_defL ?k1 ?k2 ?k3 ?k4 ?k5 ?kA ?kF ?kK ?k6 ?k7 ?k8 ?k9 ?kB ?_ ?c2 ?c3 ?c4 ?c5; (case kA => exact rfl); (case kF => exact rfl); (case kK => assumption); (case k1 => k_asm); (case k2 => k_asm); (case k3 => k_asm); (case k4 => k_asm); (case k5 => k_asm); (case k6 => k_is); (case k7 => k_is); (case k8 => ktr_room); (case k9 => exact BindsTo.of_eq rfl); (case c5 => decide); (case kB => exact locs rfl); (case c2 => exact rfl); (case c3 => exact rfl); (case c4 => exact rfl); k_whole; intro g' L' h' FG' F' N' B' X' T' hlt'; (try dsimp only); (try k_lift B'); (try k_fold))
  k_with_none
  k_steps
  all_goals (
    refine' hret (allLt_of (by assumption)) ?_ ?_ ?_ (by assumption) (by assumption)
    · exact mul_ite (by split <;> omega)
    · exact (fmod_in (t := 2147483647) (by decide)).1
    · exact (fmod_in (t := 2147483647) (by decide)).2)
/-- the kind's name -/
def kindS : Value → Str
  | .none => Str.ofString "null"
  | .int _ _ => Str.ofString "integer"
  | .str _ _ => Str.ofString "text"
  | _ => Str.ofString "blob"
theorem stor_use {w : World} {mean : ExcName → Option Value} {mg mb : Str → Option Value}
  {dp un : Nat} {gd : Option (List Code)} {cn : Str} {cs : Scope} {a : Addr} {ccd : Value} {cl : List (Str × Addr)} {outer : List Env} {A₀ : Around} {base h₀ : Heap} {L : Addr} {m : Str → Option Value} {s : Shared} {Q E : Value → Shared → Prop}
  {v : Value} {news : List (Addr × Obj)}
  (X : (hd.heap_39 w.params).In h₀) (B : Below A₀ base outer h₀) (F : Fr h₀ L s.heap m) (N : News h₀ L s.heap news)
  (T : Top hd.view_39 (looseW hd.view_39 [Str.ofString "NAME_SIGNS", Str.ofString "LIKE_SIGNS", Str.ofString "GREATEST"]) mean mg mb h₀) (hk : cs.kind = .function) (hd : dp + 10 < recursionLimit) (hu : un + 100 < cLine)
  (hv : OkV v)
  (hret : ∀ {t h' tk'}, Fr h₀ L h' m → News h₀ L h' news → Q (.str (kindS v) t) { s with heap := h', toks := tk' }) :
    wpAny (model PySem.Challenge.rw_pb0448_01.row.prog w) (ktrTop dp un gd cn cs L a ccd cl outer) (call (.ref 98) [v]) Q E s := by
  rcases hv with rfl | ⟨i, t, rfl, hi, hi2⟩ | ⟨x, t, rfl, hx⟩ | ⟨b, t, rfl, hb⟩
  all_goals (
    revert X; k_fill; intro X
    refine wpAny_call ?_
    k_dflt (refine' Mine.code_defL ?k1 ?k2 ?k3 ?k4 ?k5 ?kA ?kF ?kK ?k6 ?k7 ?k8 ?k9 ?kB ?_ ?c2 ?c3 ?c4 ?c5; (case kA => exact rfl); (case kF => exact rfl); (case kK => assumption); (case k1 => k_asm); (case k2 => k_asm); (case k3 => k_asm); (case k4 => k_asm); (case k5 => k_asm); (case k6 => k_is); (case k7 => k_is); (case k8 => ktr_room); (case k9 => exact BindsTo.of_eq rfl); (case c5 => decide); (case kB => exact locs rfl); (case c2 => exact rfl); (case c3 => exact rfl); (case c4 => exact rfl); k_whole; intro g' L' h' FG' F' N' B' X' T' hlt'; (try dsimp only); (try k_lift B'); (try k_fold))
    k_with_none
    k_steps)
  all_goals exact hret (by assumption) (by assumption)
local macro_rules | `(tactic| walk_at "call ref") => `(tactic| (k_here; (with_reducible show wpAny _ _ (call (Value.ref 98) _) _ _ _); k_dflt (refine' Mine.stor_use ?k1 ?k2 ?k3 ?k4 ?k5 ?k6 ?k7 ?k8 ?v ?_; (case k1 | k2 | k3 | k4 | k5 => k_asm); (case k6 => k_extra "r"); (case k7 => ktr_room); (case k8 => ktr_units); (case v => assumption); k_whole); intro t' h' tk' F' N'; (try dsimp only [Mine.kindS])))
/-- the scanner's own dict -/
abbrev scanD (P : Params) (t1 t2 t3 t4 : Tok) (tv pv fv gv : Value) : Obj := dictOf [⟨PyData.keyHash P (Str.ofString "text"), .str (Str.ofString "text") t1, tv⟩, ⟨PyData.keyHash P (Str.ofString "place"), .str (Str.ofString "place") t2, pv⟩, ⟨PyData.keyHash P (Str.ofString "found"), .str (Str.ofString "found") t3, fv⟩, ⟨PyData.keyHash P (Str.ofString "greatest"), .str (Str.ofString "greatest") t4, gv⟩] 4
abbrev wordD (P : Params) (t1 t2 t3 t4 : Tok) (kv tv vv pv : Value) : Obj := dictOf [⟨PyData.keyHash P (Str.ofString "kind"), .str (Str.ofString "kind") t1, kv⟩, ⟨PyData.keyHash P (Str.ofString "text"), .str (Str.ofString "text") t2, tv⟩, ⟨PyData.keyHash P (Str.ofString "value"), .str (Str.ofString "value") t3, vv⟩, ⟨PyData.keyHash P (Str.ofString "place"), .str (Str.ofString "place") t4, pv⟩] 4
/-- the scanner's three objects ahead of all else -/
abbrev scN (P : Params) (x dx fa : Addr) (t1 t2 t3 t4 : Tok) (tx : Str) (tt : Tok) (p : Int) (tp : Tok) (gv : Value) (vs : List Value) (k : Nat) (rest : List (Addr × Obj)) : List (Addr × Obj) :=
  (x, instObj 276 dx) :: (dx, scanD P t1 t2 t3 t4 (.str tx tt) (.int p tp) (.ref fa) gv) :: (fa, W.listOf vs.toArray k) :: rest
/-- a word's two objects on the ledger -/
def WordIn (P : Params) (news : List (Addr × Obj)) (wd : Addr) (kv tv vv : Value) (p : Int) : Prop :=
  ∃ dwd u1 u2 u3 u4 tp, (wd, instObj 171 dwd) ∈ news ∧ (dwd, wordD P u1 u2 u3 u4 kv tv vv (.int p tp)) ∈ news
theorem WordIn.mono {P : Params} {news news' : List (Addr × Obj)} {wd : Addr} {kv tv vv : Value} {p : Int} (h : WordIn P news wd kv tv vv p) (hs : ∀ q ∈ news, q ∈ news') : WordIn P news' wd kv tv vv p :=
  let ⟨d, u1, u2, u3, u4, tp, a, b⟩ := h
  ⟨d, u1, u2, u3, u4, tp, hs _ a, hs _ b⟩
theorem gather_end {h₀ h : Heap} {L : Addr} {a b c d e : Addr × Obj} {rest : List (Addr × Obj)} (N : News h₀ L h (a :: b :: c :: d :: e :: rest)) : News h₀ L h (c :: d :: e :: a :: b :: rest) := by
  refine news_sub N fun q hq => ?_
  simp only [List.mem_cons] at hq ⊢
  rcases hq with h | h | h | h | h | h <;> simp only [h, true_or, or_true]
theorem news_tail {h₀ h : Heap} {L : Addr} {a : Addr × Obj} {l : List (Addr × Obj)} (N : News h₀ L h (a :: l)) : News h₀ L h l := fun p hp => N p (.tail _ hp)
def ScOff (x dx fa : Addr) (rest : List (Addr × Obj)) : Prop := (@Ne Nat x dx) ∧ (@Ne Nat x fa) ∧ (@Ne Nat dx fa) ∧ (∀ p ∈ rest, p.1 ≠ dx) ∧ (∀ p ∈ rest, p.1 ≠ fa)

section
local macro_rules | `(tactic| k_room) => `(tactic| ktr_room)
theorem gather_use {w : World} {mean : ExcName → Option Value} {mg mb : Str → Option Value}
  {dp un : Nat} {gd : Option (List Code)} {cn : Str} {cs : Scope} {a : Addr} {ccd : Value} {cl : List (Str × Addr)} {outer : List Env} {A₀ : Around} {base h₀ : Heap} {L : Addr} {m : Str → Option Value} {s : Shared} {Q E : Value → Shared → Prop}
  {x dx fa : Addr} {t1 t2 t3 t4 : Tok} {tx : Str} {p e : Int} {tt tp te : Tok} {gv kv tv vv : Value} {vs : List Value} {k : Nat} {news rest : List (Addr × Obj)}
  (X : (hd.heap_39 w.params).In h₀) (B : Below A₀ base outer h₀) (F : Fr h₀ L s.heap m) (N : News h₀ L s.heap news)
  (T : Top hd.view_39 (looseW hd.view_39 [Str.ofString "NAME_SIGNS", Str.ofString "LIKE_SIGNS", Str.ofString "GREATEST"]) mean mg mb h₀) (hk : cs.kind = .function) (hd : dp + 30 < recursionLimit) (hu : un + 200 < cLine)
  (hN : news = scN w.params x dx fa t1 t2 t3 t4 tx tt p tp gv vs k rest) (ho : ScOff x dx fa rest) (hz : vs.length ≤ 10000)
  (hret : ∀ {wd te' rest' h' tk'}, ScOff x dx fa rest' → (∀ q ∈ rest, q ∈ rest') → WordIn w.params rest' wd kv tv vv p → Fr h₀ L h' m → News h₀ L h' (scN w.params x dx fa t1 t2 t3 t4 tx tt e te' gv (vs ++ [.ref wd]) (k + 1) rest') → Q .none { s with heap := h', toks := tk' }) :
    wpAny (model PySem.Challenge.rw_pb0448_01.row.prog w) (ktrTop dp un gd cn cs L a ccd cl outer) (call (.ref 196) [.ref x, kv, tv, vv, .int e te]) Q E s := by
  subst hN
  obtain ⟨o1, o2, o3, o4, o5⟩ := ho
  revert X; k_fill; intro X
  refine wpAny_call ?_
  k_dflt (refine' Mine.code_defL ?k1 ?k2 ?k3 ?k4 ?k5 ?kA ?kF ?kK ?k6 ?k7 ?k8 ?k9 ?kB ?_ ?c2 ?c3 ?c4 ?c5; (case kA => exact rfl); (case kF => exact rfl); (case kK => assumption); (case k1 => k_asm); (case k2 => k_asm); (case k3 => k_asm); (case k4 => k_asm); (case k5 => k_asm); (case k6 => k_is); (case k7 => k_is); (case k8 => ktr_room); (case k9 => exact BindsTo.of_eq rfl); (case c5 => decide); (case kB => exact locs rfl); (case c2 => exact rfl); (case c3 => exact rfl); (case c4 => exact rfl); k_whole; intro g' L' h' FG' F' N' B' X' T' hlt'; (try dsimp only); (try k_lift B'); (try k_fold))
  k_with_none
  k_steps
  rename News _ _ _ _ => kN9
  try rw [List.push_toArray] at kN9
  refine' hret ?off ?sub ?wd (by assumption) (gather_end kN9)
  case wd => exact ⟨_, _, _, _, _, _, .head _, .tail _ (.head _)⟩
  case sub => exact fun _ h => .tail _ (.tail _ h)
  case off => refine ⟨o1, o2, o3, List.forall_mem_cons.mpr ⟨?_, List.forall_mem_cons.mpr ⟨?_, o4⟩⟩, List.forall_mem_cons.mpr ⟨?_, List.forall_mem_cons.mpr ⟨?_, o5⟩⟩⟩ <;> k_ne
end
local macro_rules | `(tactic| k_extra "v1") => `(tactic| first | exact rfl | exact Mine.news_tail (by assumption))
local macro_rules | `(tactic| k_extra "v2") => `(tactic| first | exact rfl | exact Mine.news_tail (Mine.news_tail (by assumption)))
local macro_rules | `(tactic| k_extra "v3") => `(tactic| first | exact rfl | exact Mine.news_tail (Mine.news_tail (Mine.news_tail (by assumption))))
local macro_rules | `(tactic| walk_at "call ref") => `(tactic| (k_here; (with_reducible show wpAny _ _ (call (Value.ref 196) _) _ _ _); k_dflt (refine' Mine.gather_use ?k1 ?k2 ?k3 ?k4 ?k5 ?k6 ?k7 ?k8 ?v ?o ?z ?_; (first | (case k4 | v => k_extra "v0") | (case k4 | v => k_extra "v1") | (case k4 | v => k_extra "v2") | (case k4 | v => k_extra "v3")); (case z => omega); (case k1 | k2 | k3 | k5 => k_asm); (case k6 => k_extra "r"); (case k7 => ktr_room); (case k8 => ktr_units); (case o => k_extra "o5"); k_whole); intro wd' te' rest' h' tk' ho' hs' hw' F' N'; (obtain ⟨o1', o2', o3', o4', o5'⟩ := ho'); (try dsimp only [Mine.scN] at N')))
theorem endof_use {w : World} {mean : ExcName → Option Value} {mg mb : Str → Option Value}
  {dp un : Nat} {gd : Option (List Code)} {cn : Str} {cs : Scope} {a : Addr} {ccd : Value} {cl : List (Str × Addr)} {outer : List Env} {A₀ : Around} {base h₀ : Heap} {L : Addr} {m : Str → Option Value} {s : Shared} {Q E : Value → Shared → Prop}
  {x dx fa : Addr} {t1 t2 t3 t4 : Tok} {tx : Str} {p : Int} {tt tp : Tok} {gv : Value} {vs : List Value} {k : Nat} {sg : Str} {ts te : Tok} {e K : Int} {news rest : List (Addr × Obj)}
  (X : (hd.heap_39 w.params).In h₀) (B : Below A₀ base outer h₀) (F : Fr h₀ L s.heap m) (N : News h₀ L s.heap news)
  (T : Top hd.view_39 (looseW hd.view_39 [Str.ofString "NAME_SIGNS", Str.ofString "LIKE_SIGNS", Str.ofString "GREATEST"]) mean mg mb h₀) (hk : cs.kind = .function) (hd : dp + 30 < recursionLimit) (hu : un + 200 < cLine)
  (hN : news = scN w.params x dx fa t1 t2 t3 t4 tx tt p tp gv vs k rest) (ho : ScOff x dx fa rest) (he : 0 ≤ e) (heK : e ≤ K) (hK : K ≤ tx.length) (hz : tx.length ≤ 10000) (hin : ∀ j : Int, e ≤ j → j < K → ∃ c, tx.cps.toList[j.toNat]? = some c ∧ c ∈ sg.cps.toList) (hstop : K < tx.length → ∃ c, tx.cps.toList[K.toNat]? = some c ∧ c ∉ sg.cps.toList)
  (hret : ∀ {t h' tk'}, Fr h₀ L h' m → News h₀ L h' (scN w.params x dx fa t1 t2 t3 t4 tx tt p tp gv vs k rest) → Q (.int K t) { s with heap := h', toks := tk' }) :
    wpAny (model PySem.Challenge.rw_pb0448_01.row.prog w) (ktrTop dp un gd cn cs L a ccd cl outer) (call (.ref 217) [.ref x, .str sg ts, .int e te]) Q E s := by
  subst hN
  obtain ⟨o1, o2, o3, o4, o5⟩ := ho
  revert X; k_fill; intro X
  refine wpAny_call ?_
  k_dflt (refine' Mine.code_defL ?k1 ?k2 ?k3 ?k4 ?k5 ?kA ?kF ?kK ?k6 ?k7 ?k8 ?k9 ?kB ?_ ?c2 ?c3 ?c4 ?c5; (case kA => exact rfl); (case kF => exact rfl); (case kK => assumption); (case k1 => k_asm); (case k2 => k_asm); (case k3 => k_asm); (case k4 => k_asm); (case k5 => k_asm); (case k6 => k_is); (case k7 => k_is); (case k8 => ktr_room); (case k9 => exact BindsTo.of_eq rfl); (case c5 => decide); (case kB => exact locs rfl); (case c2 => exact rfl); (case c3 => exact rfl); (case c4 => exact rfl); k_whole; intro g' L' h' FG' F' N' B' X' T' hlt'; (try dsimp only); (try k_lift B'); (try k_fold))
  k_with_none
  k_with "exec While BoolOp cons nil" => (k_dflt (refine' Mine.While_S (fun (c : Int × Tok) => [(Str.ofString "end", .int c.1 c.2)]) (fun _ => scN w.params x dx fa t1 t2 t3 t4 tx tt p tp gv vs k rest) (fun n c => e ≤ c.1 ∧ c.1 ≤ K ∧ (n : Int) = K - c.1) (e, te) (n₀ := (K - e).toNat) (by k_asm) (by k_asm) (fun _ h => h) (List.forall_mem_cons.mpr ⟨rfl, List.forall_mem_nil _⟩) ⟨Int.le_refl _, heK, by omega⟩ (fun n8 c8 h8 tk8 hP8 F8' N8' => ?_) ?_))
  k_steps
  · rename (Builtin.Str.occurrences _ _ _ _ _).isEmpty = true => hq
    have e1 : c8.1 = K := by
      false_or_by_contra
      obtain ⟨c, h1, h2⟩ := hin c8.1 hP8.1 (by omega)
      rw [item_in (by omega) h1, decide_eq_true h2] at hq
      exact absurd hq (by decide)
    rw [e1]
    exact hret (by assumption) (by assumption)
  · rename (Builtin.Str.occurrences _ _ _ _ _).isEmpty = false => hq
    have e1 : c8.1 < K := by
      false_or_by_contra
      have e2 : c8.1 = K := by omega
      obtain ⟨c, h1, h2⟩ := hstop (by omega)
      rw [← e2] at h1
      rw [item_in (by omega) h1, decide_eq_false h2] at hq
      exact absurd hq (by decide)
    exact WEnd.int1 (n8 - 1) (by assumption) (by assumption) (fun _ h => h) (by omega) ⟨by dsimp only; omega, by dsimp only; omega, by dsimp only; omega⟩
  · have e1 : c8.1 = K := by omega
    rw [e1]
    exact hret (by assumption) (by assumption)
theorem valof_use {w : World} {mean : ExcName → Option Value} {mg mb : Str → Option Value}
  {dp un : Nat} {gd : Option (List Code)} {cn : Str} {cs : Scope} {a : Addr} {ccd : Value} {cl : List (Str × Addr)} {outer : List Env} {A₀ : Around} {base h₀ : Heap} {L : Addr} {m : Str → Option Value} {s : Shared} {Q E : Value → Shared → Prop}
  {x dx fa : Addr} {t1 t2 t3 t4 : Tok} {tx : Str} {p : Int} {tt tp : Tok} {gv : Value} {vs : List Value} {k : Nat} {tb te tz : Tok} {b e nn : Int} {fig : Str} {news rest : List (Addr × Obj)}
  (X : (hd.heap_39 w.params).In h₀) (B : Below A₀ base outer h₀) (F : Fr h₀ L s.heap m) (N : News h₀ L s.heap news)
  (T : Top hd.view_39 (looseW hd.view_39 [Str.ofString "NAME_SIGNS", Str.ofString "LIKE_SIGNS", Str.ofString "GREATEST"]) mean mg mb h₀) (hk : cs.kind = .function) (hd : dp + 30 < recursionLimit) (hu : un + 200 < cLine)
  (hN : news = scN w.params x dx fa t1 t2 t3 t4 tx tt p tp gv vs k rest) (ho : ScOff x dx fa rest) (hb : 0 ≤ b) (hbe : b < e) (he : e ≤ tx.length) (hz : tx.length ≤ 10000) (hfig : Txt.lstripChars (Txt.slice tx (some b) (some e)) (Str.ofString "0") = fig) (hf20 : fig.length ≤ 20) (hn : (fig = Str.ofString "" ∧ nn = 0) ∨ (fig ≠ Str.ofString "" ∧ PySem.intText? fig = some nn))
  (hret : ∀ {t h' tk'}, Fr h₀ L h' m → News h₀ L h' (scN w.params x dx fa t1 t2 t3 t4 tx tt p tp gv vs k rest) → Q (.int nn t) { s with heap := h', toks := tk' }) :
    wpAny (model PySem.Challenge.rw_pb0448_01.row.prog w) (ktrTop dp un gd cn cs L a ccd cl outer) (call (.ref 259) [.ref x, .int b tb, .int e te, .int 10 tz]) Q E s := by
  subst hN
  obtain ⟨o1, o2, o3, o4, o5⟩ := ho
  revert X; k_fill; intro X
  refine wpAny_call ?_
  k_dflt (refine' Mine.code_defL ?k1 ?k2 ?k3 ?k4 ?k5 ?kA ?kF ?kK ?k6 ?k7 ?k8 ?k9 ?kB ?_ ?c2 ?c3 ?c4 ?c5; (case kA => exact rfl); (case kF => exact rfl); (case kK => assumption); (case k1 => k_asm); (case k2 => k_asm); (case k3 => k_asm); (case k4 => k_asm); (case k5 => k_asm); (case k6 => k_is); (case k7 => k_is); (case k8 => ktr_room); (case k9 => exact BindsTo.of_eq rfl); (case c5 => decide); (case kB => exact locs rfl); (case c2 => exact rfl); (case c3 => exact rfl); (case c4 => exact rfl); k_whole; intro g' L' h' FG' F' N' B' X' T' hlt'; (try dsimp only); (try k_lift B'); (try k_fold))
  k_with_none
  k_with "absurd" => (have q := hf20; rw [← hfig] at q; omega)
  k_with "call type:int" => ((with_reducible show wpAny _ _ (call (Value.type "int") [Value.str _ _, Value.int _ _]) _ _ _); rename ((_ != _) = true) => hq9; rw [hfig] at hq9; rw [hfig]; refine call_text2 (n := nn) ?_ (by omega) ?_; rcases hn with hn | hn; (exfalso; rw [hn.1] at hq9; exact absurd hq9 (by decide +kernel)); exact hn.2)
  k_steps
  · rename ((_ != _) = true) => hq9
    exact hret (by assumption) (by assumption)
  · rename ((_ != _) = false) => hq9
    rw [hfig] at hq9
    rcases hn with hn | hn
    · rw [← hn.2]
      exact hret (by assumption) (by assumption)
    · exact absurd (by simpa using hq9) hn.1
theorem gon_use {w : World} {mean : ExcName → Option Value} {mg mb : Str → Option Value}
  {dp un : Nat} {gd : Option (List Code)} {cn : Str} {cs : Scope} {a : Addr} {ccd : Value} {cl : List (Str × Addr)} {outer : List Env} {A₀ : Around} {base h₀ : Heap} {L : Addr} {m : Str → Option Value} {s : Shared} {Q E : Value → Shared → Prop}
  {c : Nat} {tc : Tok} {news : List (Addr × Obj)}
  (X : (hd.heap_39 w.params).In h₀) (B : Below A₀ base outer h₀) (F : Fr h₀ L s.heap m) (N : News h₀ L s.heap news)
  (T : Top hd.view_39 (looseW hd.view_39 [Str.ofString "NAME_SIGNS", Str.ofString "LIKE_SIGNS", Str.ofString "GREATEST"]) mean mg mb h₀) (hk : cs.kind = .function) (hd : dp + 30 < recursionLimit) (hu : un + 200 < cLine)
  (hc : c = 44)
  (hret : ∀ {h' tk'}, Fr h₀ L h' m → News h₀ L h' news → Q (.bool false) { s with heap := h', toks := tk' }) :
    wpAny (model PySem.Challenge.rw_pb0448_01.row.prog w) (ktrTop dp un gd cn cs L a ccd cl outer) (call (.ref 119) [.str ⟨#[c]⟩ tc]) Q E s := by
  subst hc
  revert X; k_fill; intro X
  refine wpAny_call ?_
  k_dflt (refine' Mine.code_defL ?k1 ?k2 ?k3 ?k4 ?k5 ?kA ?kF ?kK ?k6 ?k7 ?k8 ?k9 ?kB ?_ ?c2 ?c3 ?c4 ?c5; (case kA => exact rfl); (case kF => exact rfl); (case kK => assumption); (case k1 => k_asm); (case k2 => k_asm); (case k3 => k_asm); (case k4 => k_asm); (case k5 => k_asm); (case k6 => k_is); (case k7 => k_is); (case k8 => ktr_room); (case k9 => exact BindsTo.of_eq rfl); (case c5 => decide); (case kB => exact locs rfl); (case c2 => exact rfl); (case c3 => exact rfl); (case c4 => exact rfl); k_whole; intro g' L' h' FG' F' N' B' X' T' hlt'; (try dsimp only); (try k_lift B'); (try k_fold))
  k_with_none
  k_steps
  · rw [show decide (127 < (((Str.ofString ",").cps.getD 0 0 : Nat) : Int)) = false from by decide +kernel]
    exact hret (by assumption) (by assumption)
  · rw [in_one, show decide (44 ∈ (Str.ofString "abcdefghijklmnopqrstuvwxyzABCDEFGHIJKLMNOPQRSTUVWXYZ_0123456789$").cps.toList) = false from by decide +kernel]
    exact hret (by assumption) (by assumption)
theorem number_use {w : World} {mean : ExcName → Option Value} {mg mb : Str → Option Value}
  {dp un : Nat} {gd : Option (List Code)} {cn : Str} {cs : Scope} {a : Addr} {ccd : Value} {cl : List (Str × Addr)} {outer : List Env} {A₀ : Around} {base h₀ : Heap} {L : Addr} {m : Str → Option Value} {s : Shared} {Q E : Value → Shared → Prop}
  {x dx fa : Addr} {t1 t2 t3 t4 : Tok} {tx : Str} {p : Int} {tt tp : Tok} {gv : Value} {vs : List Value} {k : Nat} {K nn : Int} {fig : Str} {news rest : List (Addr × Obj)}
  (X : (hd.heap_39 w.params).In h₀) (B : Below A₀ base outer h₀) (F : Fr h₀ L s.heap m) (N : News h₀ L s.heap news)
  (T : Top hd.view_39 (looseW hd.view_39 [Str.ofString "NAME_SIGNS", Str.ofString "LIKE_SIGNS", Str.ofString "GREATEST"]) mean mg mb h₀) (hk : cs.kind = .function) (hd : dp + 40 < recursionLimit) (hu : un + 300 < cLine)
  (hN : news = scN w.params x dx fa t1 t2 t3 t4 tx tt p tp gv vs k rest) (ho : ScOff x dx fa rest) (hp : 0 ≤ p) (hpK : p < K) (hK : K ≤ tx.length) (hz : tx.length ≤ 10000) (hzv : vs.length ≤ 10000)
  (hin : ∀ j : Int, p ≤ j → j < K → ∃ c, tx.cps.toList[j.toNat]? = some c ∧ c ∈ (Str.ofString "0123456789").cps.toList) (hstop : K < tx.length → ∃ c, tx.cps.toList[K.toNat]? = some c ∧ c ∉ (Str.ofString "0123456789").cps.toList)
  (hfig : Txt.lstripChars (Txt.slice tx (some p) (some K)) (Str.ofString "0") = fig) (hf20 : fig.length ≤ 20) (hn : (fig = Str.ofString "" ∧ nn = 0) ∨ (fig ≠ Str.ofString "" ∧ PySem.intText? fig = some nn)) (hn0 : nn ≤ 9223372036854775808)
  (hx0 : Txt.slice tx (some p) (some (p + 2)) ≠ Str.ofString "0x" ∧ Txt.slice tx (some p) (some (p + 2)) ≠ Str.ofString "0X") (hbh : Txt.slice tx (some K) (some (K + 1)) = Str.ofString "" ∨ Txt.slice tx (some K) (some (K + 1)) = ⟨#[44]⟩)
  (hret : ∀ {wd te' rest' h' tk'}, ScOff x dx fa rest' → (∀ q ∈ rest, q ∈ rest') → (∃ u1 u2 u3, WordIn w.params rest' wd (.str (Str.ofString "number") u1) (.str (Str.ofString "") u2) (.int nn u3) p) → Fr h₀ L h' m → News h₀ L h' (scN w.params x dx fa t1 t2 t3 t4 tx tt K te' gv (vs ++ [.ref wd]) (k + 1) rest') → Q .none { s with heap := h', toks := tk' }) :
    wpAny (model PySem.Challenge.rw_pb0448_01.row.prog w) (ktrTop dp un gd cn cs L a ccd cl outer) (call (.ref 252) [.ref x]) Q E s := by
  subst hN
  obtain ⟨o1, o2, o3, o4, o5⟩ := ho
  revert X; k_fill; intro X
  refine wpAny_call ?_
  k_dflt (refine' Mine.code_defL ?k1 ?k2 ?k3 ?k4 ?k5 ?kA ?kF ?kK ?k6 ?k7 ?k8 ?k9 ?kB ?_ ?c2 ?c3 ?c4 ?c5; (case kA => exact rfl); (case kF => exact rfl); (case kK => assumption); (case k1 => k_asm); (case k2 => k_asm); (case k3 => k_asm); (case k4 => k_asm); (case k5 => k_asm); (case k6 => k_is); (case k7 => k_is); (case k8 => ktr_room); (case k9 => exact BindsTo.of_eq rfl); (case c5 => decide); (case kB => exact locs rfl); (case c2 => exact rfl); (case c3 => exact rfl); (case c4 => exact rfl); k_whole; intro g' L' h' FG' F' N' B' X' T' hlt'; (try dsimp only); (try k_lift B'); (try k_fold))
  k_with_none
  k_with "absurd" => (rename ((_ == _) = true) => hq9; rcases hbh with hbh | hbh <;> rw [hbh] at hq9 <;> exact absurd hq9 (by decide +kernel))
  k_with "call ref" => ((with_reducible show wpAny _ _ (call (Value.ref 119) [Value.str (Txt.slice _ _ _) _]) _ _ _); rename ((_ != _) = true) => hq9; rcases hbh with hbh | hbh; (exfalso; rw [hbh] at hq9; exact absurd hq9 (by decide +kernel)); rw [hbh])
  k_with "call ref" => (k_here; (with_reducible show wpAny _ _ (call (Value.ref 217) _) _ _ _); k_dflt (refine' Mine.endof_use ?k1z217 ?k2z217 ?k3z217 ?k4z217 ?k5z217 ?k6z217 ?k7z217 ?k8z217 ?vz217 ?oz217 ?ez217 ?eKz217 ?Kz217 ?zz217 ?iz217 ?sz217 ?_; (first | (case k4z217 | vz217 => k_extra "v0") | (case k4z217 | vz217 => k_extra "v1") | (case k4z217 | vz217 => k_extra "v2") | (case k4z217 | vz217 => k_extra "v3")); (case iz217 | sz217 => assumption); (case ez217 | eKz217 | Kz217 | zz217 => omega); (case k1z217 | k2z217 | k3z217 | k5z217 => k_asm); (case k6z217 => k_extra "r"); (case k7z217 => ktr_room); (case k8z217 => ktr_units); (case oz217 => k_extra "o5"); k_whole); intro tez217' hz217' tkz217' Fz217' Nz217'; (try dsimp only [Mine.scN] at Nz217'))
  k_with "call ref" => (k_here; (with_reducible show wpAny _ _ (call (Value.ref 259) _) _ _ _); k_dflt (refine' Mine.valof_use ?k1z259 ?k2z259 ?k3z259 ?k4z259 ?k5z259 ?k6z259 ?k7z259 ?k8z259 ?vz259 ?oz259 ?ez259 ?eKz259 ?Kz259 ?zz259 ?iz259 ?sz259 ?nz259 ?_; (first | (case k4z259 | vz259 => k_extra "v0") | (case k4z259 | vz259 => k_extra "v1") | (case k4z259 | vz259 => k_extra "v2") | (case k4z259 | vz259 => k_extra "v3")); (case iz259 | sz259 | nz259 => assumption); (case ez259 | eKz259 | Kz259 | zz259 => omega); (case k1z259 | k2z259 | k3z259 | k5z259 => k_asm); (case k6z259 => k_extra "r"); (case k7z259 => ktr_room); (case k8z259 => ktr_units); (case oz259 => k_extra "o5"); k_whole); intro tez259' hz259' tkz259' Fz259' Nz259'; (try dsimp only [Mine.scN] at Nz259'))
  k_with "call ref" => (k_here; (with_reducible show wpAny _ _ (call (Value.ref 119) _) _ _ _); k_dflt (refine' Mine.gon_use ?k1z119 ?k2z119 ?k3z119 ?k4z119 ?k5z119 ?k6z119 ?k7z119 ?k8z119 ?vz119 ?_; (case k4z119 => k_asm); (case vz119 => first | rfl | assumption); (case k1z119 | k2z119 | k3z119 | k5z119 => k_asm); (case k6z119 => k_extra "r"); (case k7z119 => ktr_room); (case k8z119 => ktr_units); k_whole); intro hz119' tkz119' Fz119' Nz119')
  k_steps
  · exfalso
    rename ((List.any _ _) = true) => hq9
    simp only [List.any_cons, List.any_nil, Bool.or_false, Bool.or_eq_true, beq_iff_eq] at hq9
    rcases hq9 with h | h
    · exact hx0.1 h.symm
    · exact hx0.2 h.symm
  all_goals (
    refine hret ?_ ?_ ?_ (by assumption) (by assumption)
    · refine ⟨?_, ?_, ?_, ?_, ?_⟩ <;> assumption
    · assumption
    · exact ⟨_, _, _, by assumption⟩)
theorem news_drop2 {h₀ h : Heap} {L : Addr} {a b : Addr × Obj} {l : List (Addr × Obj)} (N : News h₀ L h (a :: b :: l)) : News h₀ L h (a :: l) := fun p hp => N p (by rcases List.mem_cons.mp hp with h | h; exact h ▸ .head _; exact .tail _ (.tail _ h))
theorem dbl_len (y : List Nat) : y.length ≤ (StrLaws.dbl 39 y).length := by
  induction y with
  | nil => exact Nat.le_refl _
  | cons a r ih =>
    unfold StrLaws.dbl
    split <;> simp only [List.length_cons] <;> omega
theorem sum_cat (xs : List Str) : (xs.map (·.length)).sum = (xs.flatMap (·.cps.toList)).length := by
  induction xs with
  | nil => rfl
  | cons a r ih => simp only [List.map_cons, List.sum_cons, List.flatMap_cons, List.length_append, ih, len_cps]
/-- what holds between the turns of the loop over doubled quotes -/
def ClP (pre y : List Nat) (n : Nat) (c : (Int × Tok) × (Int × Tok) × List Value × Nat) : Prop :=
  ∃ y1 y2 u r xs, y = y1 ++ y2 ∧ y2 = u ++ r ∧ 39 ∉ u ∧ (r = [] ∨ r.head? = some 39) ∧ StrsAre c.2.2.1 xs ∧ xs.flatMap (·.cps.toList) = y1 ∧ c.2.1.1 = pre.length + (StrLaws.dbl 39 y1).length ∧ c.1.1 = c.2.1.1 + u.length ∧ c.2.2.1.length ≤ y1.length ∧ n = y2.length
theorem cl_split (y : List Nat) : ∃ u r, y = u ++ r ∧ 39 ∉ u ∧ (r = [] ∨ r.head? = some 39) := by
  induction y with
  | nil => exact ⟨[], [], rfl, by simp, .inl rfl⟩
  | cons a y ih =>
    by_cases h : a = 39
    · exact ⟨[], a :: y, rfl, by simp, .inr (by rw [h]; rfl)⟩
    · obtain ⟨u, r, e, hu, hr⟩ := ih
      refine ⟨a :: u, r, by rw [e]; rfl, ?_, hr⟩
      intro hm
      rcases List.mem_cons.mp hm with q | q
      · exact h q.symm
      · exact hu q
theorem cl_tail {u r post : List Nat} (hu : 39 ∉ u) (hr : r = [] ∨ r.head? = some 39) : ∃ rest, StrLaws.dbl 39 (u ++ r) ++ 39 :: post = u ++ 39 :: rest := by
  rw [StrLaws.dbl_append, StrLaws.dbl_free 39 u hu]
  rcases hr with rfl | hr
  · exact ⟨post, by simp [StrLaws.dbl]⟩
  · cases r with
    | nil => cases hr
    | cons a r' =>
      obtain rfl : a = 39 := by simpa using hr
      refine ⟨39 :: (StrLaws.dbl 39 r' ++ 39 :: post), ?_⟩
      simp [StrLaws.dbl]
theorem cl_find {tx : Str} {P y2 u r post : List Nat} {a : Int} (hL : tx.cps.toList = P ++ StrLaws.dbl 39 y2 ++ 39 :: post) (e2 : y2 = u ++ r) (hu : 39 ∉ u) (hr : r = [] ∨ r.head? = some 39) (ha : a = P.length) : Txt.find3 tx (Str.ofString "'") a = a + u.length := by
  rw [show Str.ofString "'" = ⟨#[39]⟩ from by decide +kernel]
  obtain ⟨rest, h⟩ := cl_tail (post := post) hu hr
  refine find_mid (post := rest) ?_ ha hu
  rw [hL, e2, List.append_assoc, h, List.append_assoc]
theorem cl_start {tx : Str} {pre y post : List Nat} {b : Int} {t tb : Tok} (hL : tx.cps.toList = pre ++ StrLaws.dbl 39 y ++ 39 :: post) (hb : b = pre.length) : ClP pre y y.length ((Txt.find3 tx (Str.ofString "'") b, t), (b, tb), [], 0) := by
  obtain ⟨u, r, e2, hu, hr⟩ := cl_split y
  refine ⟨[], y, u, r, [], rfl, e2, hu, hr, .nil, rfl, ?_, ?_, Nat.le_refl _, rfl⟩
  · simp only [StrLaws.dbl, List.length_nil]; omega
  · exact cl_find hL e2 hu hr hb
theorem cl_slice {tx : Str} {P u r post : List Nat} {e : Int} (hL : tx.cps.toList = P ++ StrLaws.dbl 39 (u ++ r) ++ 39 :: post) (hu : 39 ∉ u) (hr : r = [] ∨ r.head? = some 39) (hpost : post.head? ≠ some 39) (he : e = P.length + u.length) :
    (Txt.slice tx (some (e + 1)) (some (e + 2)) == (⟨#[39]⟩ : Str)) = !decide (r = []) := by
  rw [StrLaws.dbl_append, StrLaws.dbl_free 39 u hu] at hL
  rcases hr with rfl | hr
  · have h0 : tx.cps.toList = (P ++ u ++ [39]) ++ post.take 1 ++ post.drop 1 := by
      rw [hL]; simp only [StrLaws.dbl, List.append_nil, List.append_assoc, List.cons_append, List.nil_append, List.take_append_drop]
    have h1 : Txt.slice tx (some (e + 1)) (some (e + 2)) = ⟨(post.take 1).toArray⟩ := by
      cases hp : post with
      | nil =>
        have := slice_nat tx (a := P.length + u.length + 1) (b := P.length + u.length + 2) (by omega)
        rw [show ((P.length + u.length + 1 : Nat) : Int) = e + 1 by omega, show ((P.length + u.length + 2 : Nat) : Int) = e + 2 by omega] at this
        rw [this]
        congr 2
        rw [List.drop_of_length_le (by rw [hL, hp]; simp [StrLaws.dbl]; omega)]
        rw [List.take_nil, List.take_nil]
      | cons c post' =>
        rw [hp] at h0
        exact slice_mid h0 (by simp only [List.length_append, List.length_cons, List.length_nil]; omega) (by simp; omega)
    rw [h1]
    have : ¬ (⟨(post.take 1).toArray⟩ : Str) = ⟨#[39]⟩ := by
      intro q
      have q' : post.take 1 = [39] := by
        have := congrArg (fun s : Str => s.cps.toList) q
        simpa using this
      cases post with
      | nil => simp at q'
      | cons c post' => simp at q'; exact hpost (by simp [q'])
    simp [this]
  · cases r with
    | nil => cases hr
    | cons a r' =>
      obtain rfl : a = 39 := by simpa using hr
      have h0 : tx.cps.toList = (P ++ u ++ [39]) ++ [39] ++ (StrLaws.dbl 39 r' ++ 39 :: post) := by
        rw [hL]; simp [StrLaws.dbl]
      rw [slice_mid h0 (a := e + 1) (b := e + 2) (by simp only [List.length_append, List.length_cons, List.length_nil]; omega) (by simp; omega)]
      simp
theorem cl_next {tx : Str} {pre y post y1 y2 u r : List Nat} {xs : List Str} {pvs : List Value} {n k : Nat} {e b : Int} {t' u' ts : Tok} (hL : tx.cps.toList = pre ++ StrLaws.dbl 39 y ++ 39 :: post) (hpost : post.head? ≠ some 39)
    (e1 : y = y1 ++ y2) (e2 : y2 = u ++ r) (hu : 39 ∉ u) (hr : r = [] ∨ r.head? = some 39) (hxs : StrsAre pvs xs) (hcat : xs.flatMap (·.cps.toList) = y1) (hbg : b = pre.length + (StrLaws.dbl 39 y1).length) (hed : e = b + u.length) (hlen : pvs.length ≤ y1.length) (hn : n = y2.length)
    (ha : (Txt.slice tx (some (e + 1)) (some (e + 2)) == (⟨#[39]⟩ : Str)) = true) :
    ∃ n', n' < n ∧ ClP pre y n' ((Txt.find3 tx (Str.ofString "'") (e + 2), t'), (e + 2, u'), pvs ++ [.str (Txt.slice tx (some b) (some (e + 1))) ts], k) := by
  have hL2 : tx.cps.toList = (pre ++ StrLaws.dbl 39 y1) ++ StrLaws.dbl 39 (u ++ r) ++ 39 :: post := by
    rw [hL, e1, e2, StrLaws.dbl_append 39 y1]; simp
  rw [cl_slice hL2 hu hr hpost (by rw [List.length_append]; omega)] at ha
  cases r with
  | nil => simp at ha
  | cons a r' =>
    obtain rfl : a = 39 := by
      rcases hr with hr | hr
      · cases hr
      · simpa using hr
    obtain ⟨v, q, e3, hv, hq⟩ := cl_split r'
    have hd : StrLaws.dbl 39 (y1 ++ u ++ [39]) = StrLaws.dbl 39 y1 ++ u ++ [39, 39] := by
      rw [StrLaws.dbl_append, StrLaws.dbl_append, StrLaws.dbl_free 39 u hu, StrLaws.dbl_one]
    have hL3 : tx.cps.toList = (pre ++ StrLaws.dbl 39 (y1 ++ u ++ [39])) ++ StrLaws.dbl 39 r' ++ 39 :: post := by
      rw [hL2, hd, StrLaws.dbl_append, StrLaws.dbl_free 39 u hu]
      simp [StrLaws.dbl]
    have hs : Txt.slice tx (some b) (some (e + 1)) = ⟨(u ++ [39]).toArray⟩ := by
      have h0 : tx.cps.toList = (pre ++ StrLaws.dbl 39 y1) ++ (u ++ [39]) ++ (39 :: (StrLaws.dbl 39 r' ++ 39 :: post)) := by
        rw [hL2, StrLaws.dbl_append, StrLaws.dbl_free 39 u hu]; simp [StrLaws.dbl]
      exact slice_mid h0 (by rw [List.length_append]; omega) (by simp; omega)
    have hlen3 : e + 2 = ((pre ++ StrLaws.dbl 39 (y1 ++ u ++ [39])).length : Nat) := by
      rw [hd]; simp only [List.length_append, List.length_cons, List.length_nil]; omega
    refine ⟨r'.length, ?_, y1 ++ u ++ [39], r', v, q, xs ++ [Txt.slice tx (some b) (some (e + 1))], ?_, e3, hv, hq, strs_snoc hxs _ _, ?_, ?_, ?_, ?_, rfl⟩
    · rw [hn, e2]; simp only [List.length_append, List.length_cons]; omega
    · rw [e1, e2]; simp
    · rw [List.flatMap_append, hcat, hs]; simp
    · rw [List.length_append] at hlen3; exact hlen3
    · exact cl_find hL3 e3 hv hq hlen3
    · simp only [List.length_append, List.length_cons, List.length_nil]; omega
theorem cl_done {tx : Str} {pre y post y1 y2 u r : List Nat} {xs : List Str} {e b : Int} (hL : tx.cps.toList = pre ++ StrLaws.dbl 39 y ++ 39 :: post) (hpost : post.head? ≠ some 39)
    (e1 : y = y1 ++ y2) (e2 : y2 = u ++ r) (hu : 39 ∉ u) (hr : r = [] ∨ r.head? = some 39) (hcat : xs.flatMap (·.cps.toList) = y1) (hbg : b = pre.length + (StrLaws.dbl 39 y1).length) (hed : e = b + u.length)
    (ha : (Txt.slice tx (some (e + 1)) (some (e + 2)) == (⟨#[39]⟩ : Str)) = false) :
    Txt.join (Str.ofString "") (xs ++ [Txt.slice tx (some b) (some e)]) = ⟨y.toArray⟩ ∧ e + 1 = pre.length + (StrLaws.dbl 39 y).length + 1 := by
  have hL2 : tx.cps.toList = (pre ++ StrLaws.dbl 39 y1) ++ StrLaws.dbl 39 (u ++ r) ++ 39 :: post := by
    rw [hL, e1, e2, StrLaws.dbl_append 39 y1]; simp
  rw [cl_slice hL2 hu hr hpost (by rw [List.length_append]; omega)] at ha
  obtain rfl : r = [] := by simpa using ha
  rw [List.append_nil] at e2
  subst e2
  rw [List.append_nil, StrLaws.dbl_free 39 y2 hu] at hL2
  have hs : Txt.slice tx (some b) (some e) = ⟨y2.toArray⟩ := slice_mid hL2 (by rw [List.length_append]; omega) hed
  constructor
  · apply Str.ext'
    apply Array.toList_inj.mp
    rw [join_cat, List.flatMap_append, hcat, hs, e1]
    simp
  · rw [e1, StrLaws.dbl_append, StrLaws.dbl_free 39 y2 hu, List.length_append]; omega
theorem WEnd.cl {h₀ : Heap} {L : Addr} {m : Str → Option Value} {a b : Str} {led : (Int × Tok) × (Int × Tok) × List Value × Nat → List (Addr × Obj)} {P : Nat → (Int × Tok) × (Int × Tok) × List Value × Nat → Prop} {n : Nat} {s : Shared} {h' : Heap} {tk : Nat} {nw : List (Addr × Obj)} {v w : Value} {e' b' : Int} {t' u' : Tok} (n' : Nat) (pvs : List Value) (k : Nat)
    (F : Fr h₀ L h' (fun y => if y = a then some (.int e' t') else if y = b then some (.int b' u') else setM [(a, v), (b, w)] m y)) (N : News h₀ L h' nw) (hs : ∀ p ∈ led ((e', t'), (b', u'), pvs, k), p ∈ nw) (hn : n' < n) (hP : P n' ((e', t'), (b', u'), pvs, k)) :
    WEnd h₀ L m (fun c : (Int × Tok) × (Int × Tok) × List Value × Nat => [(a, .int c.1.1 c.1.2), (b, .int c.2.1.1 c.2.1.2)]) led P n s .next { s with heap := h', toks := tk } :=
  WEnd.intro ((e', t'), (b', u'), pvs, k) n' F N hs hn hP (setM_two a b v w _ _ m)
section
local macro_rules | `(tactic| walk_at "call builtin:str.join") => `(tactic| (k_here; (with_reducible show wpAny _ _ (call (Value.builtin "str.join") [Value.str _ _, Value.ref _]) _ _ _); k_dflt (refine' Mine.join_w0 ?N ?m ?i ?x ?ok ?_; (case N => k_asm); (case m => k_mem); (case i => exact Mine.strs_snoc (by assumption) _ _); (case x => decide +kernel); (case ok => ((simp only [List.map_append, List.map_cons, List.map_nil, List.sum_append, List.sum_cons, List.sum_nil]); omega)); k_whole); intro tj' kj'))
theorem closing_use {w : World} {mean : ExcName → Option Value} {mg mb : Str → Option Value}
  {dp un : Nat} {gd : Option (List Code)} {cn : Str} {cs : Scope} {a : Addr} {ccd : Value} {cl : List (Str × Addr)} {outer : List Env} {A₀ : Around} {base h₀ : Heap} {L : Addr} {m : Str → Option Value} {s : Shared} {Q E : Value → Shared → Prop}
  {x dx fa : Addr} {t1 t2 t3 t4 : Tok} {tx : Str} {p : Int} {tt tp' : Tok} {gv : Value} {vs : List Value} {k : Nat} {q : Str} {tq tb : Tok} {b : Int} {pre y post : List Nat} {news rest : List (Addr × Obj)}
  (X : (hd.heap_39 w.params).In h₀) (B : Below A₀ base outer h₀) (F : Fr h₀ L s.heap m) (N : News h₀ L s.heap news)
  (T : Top hd.view_39 (looseW hd.view_39 [Str.ofString "NAME_SIGNS", Str.ofString "LIKE_SIGNS", Str.ofString "GREATEST"]) mean mg mb h₀) (hk : cs.kind = .function) (hd : dp + 30 < recursionLimit) (hu : un + 200 < cLine)
  (hN : news = scN w.params x dx fa t1 t2 t3 t4 tx tt p tp' gv vs k rest) (ho : ScOff x dx fa rest) (hq : q = ⟨#[39]⟩) (hL : tx.cps.toList = pre ++ StrLaws.dbl 39 y ++ 39 :: post) (hb : b = pre.length) (hpost : post.head? ≠ some 39) (hz : tx.length ≤ 10000)
  (hret : ∀ {tp tY te n' h' tk'}, Fr h₀ L h' m → News h₀ L h' ((tp, ({ cls := .type "tuple", data := .seq #[.str ⟨y.toArray⟩ tY, .int (pre.length + (StrLaws.dbl 39 y).length + 1) te] n' } : Obj)) :: scN w.params x dx fa t1 t2 t3 t4 tx tt p tp' gv vs k rest) → Q (.ref tp) { s with heap := h', toks := tk' }) :
    wpAny (model PySem.Challenge.rw_pb0448_01.row.prog w) (ktrTop dp un gd cn cs L a ccd cl outer) (call (.ref 231) [.ref x, .str q tq, .int b tb]) Q E s := by
  subst hN
  obtain ⟨o1, o2, o3, o4, o5⟩ := ho
  subst hq
  have hq39 : Str.ofString "'" = ⟨#[39]⟩ := by decide +kernel
  have hyl : y.length ≤ 10000 := by
    have h1 := len_cps tx
    rw [hL] at h1
    have h2 := dbl_len y
    simp only [List.length_append] at h1
    omega
  revert X; k_fill; intro X
  refine wpAny_call ?_
  k_dflt (refine' Mine.code_defL ?k1 ?k2 ?k3 ?k4 ?k5 ?kA ?kF ?kK ?k6 ?k7 ?k8 ?k9 ?kB ?_ ?c2 ?c3 ?c4 ?c5; (case kA => exact rfl); (case kF => exact rfl); (case kK => assumption); (case k1 => k_asm); (case k2 => k_asm); (case k3 => k_asm); (case k4 => k_asm); (case k5 => k_asm); (case k6 => k_is); (case k7 => k_is); (case k8 => ktr_room); (case k9 => exact BindsTo.of_eq rfl); (case c5 => decide); (case kB => exact locs rfl); (case c2 => exact rfl); (case c3 => exact rfl); (case c4 => exact rfl); k_whole; intro g' L' h' FG' F' N' B' X' T' hlt'; (try dsimp only); (try k_lift B'); (try k_fold))
  k_with_none
  k_with "exec While BoolOp cons nil" => (k_dflt (refine' Mine.While_S (fun (c : (Int × Tok) × (Int × Tok) × List Value × Nat) => [(Str.ofString "end", .int c.1.1 c.1.2), (Str.ofString "begin", .int c.2.1.1 c.2.1.2)]) (fun c => (_, W.listOf c.2.2.1.toArray c.2.2.2) :: scN w.params x dx fa t1 t2 t3 t4 tx tt p tp' gv vs k rest) (ClP pre y) ((_, _), (_, _), [], 0) (n₀ := y.length) (by k_asm) (by k_asm) (fun _ h => h) (List.forall_mem_cons.mpr ⟨rfl, List.forall_mem_cons.mpr ⟨rfl, List.forall_mem_nil _⟩⟩) ?start (fun n8 c8 h8 tk8 hP8 F8' N8' => ?turn) ?pass); (case' turn => (obtain ⟨y1, y2, u, r, xs, e1, e2, hu, hr, hxs, hcat, hbg, hed, hlen, hn⟩ := hP8; have hy1 : y1.length ≤ y.length := (by rw [e1, List.length_append]; omega); have hsum := Mine.sum_cat xs; rw [hcat] at hsum)))
  k_steps
  · rename (_ == _) = true => hq9
    obtain ⟨n', hn', hP'⟩ := cl_next (k := c8.2.2.2 + 1) hL hpost e1 e2 hu hr hxs hcat hbg hed hlen hn hq9
    exact WEnd.cl n' _ _ (by assumption) (by assumption) (fun _ h => h) hn' hP'
  · rename (_ == _) = false => hq9
    obtain ⟨d1, d2⟩ := cl_done hL hpost e1 e2 hu hr hcat hbg hed hq9
    rename News h₀ L _ _ => kN9
    rw [d1, d2] at kN9
    exact hret (by assumption) (news_drop2 kN9)
  · exact cl_start hL hb
end
theorem quoted_use {w : World} {mean : ExcName → Option Value} {mg mb : Str → Option Value}
  {dp un : Nat} {gd : Option (List Code)} {cn : Str} {cs : Scope} {a : Addr} {ccd : Value} {cl : List (Str × Addr)} {outer : List Env} {A₀ : Around} {base h₀ : Heap} {L : Addr} {m : Str → Option Value} {s : Shared} {Q E : Value → Shared → Prop}
  {x dx fa : Addr} {t1 t2 t3 t4 : Tok} {tx : Str} {p : Int} {tt tp : Tok} {gv : Value} {vs : List Value} {k : Nat} {q : Str} {tq : Tok} {pre y post : List Nat} {news rest : List (Addr × Obj)}
  (X : (hd.heap_39 w.params).In h₀) (B : Below A₀ base outer h₀) (F : Fr h₀ L s.heap m) (N : News h₀ L s.heap news)
  (T : Top hd.view_39 (looseW hd.view_39 [Str.ofString "NAME_SIGNS", Str.ofString "LIKE_SIGNS", Str.ofString "GREATEST"]) mean mg mb h₀) (hk : cs.kind = .function) (hd : dp + 50 < recursionLimit) (hu : un + 300 < cLine)
  (hN : news = scN w.params x dx fa t1 t2 t3 t4 tx tt p tp gv vs k rest) (ho : ScOff x dx fa rest) (hq : q = ⟨#[39]⟩) (hL : tx.cps.toList = (pre ++ [39]) ++ StrLaws.dbl 39 y ++ 39 :: post) (hp : p = pre.length) (hpost : post.head? ≠ some 39) (hz : tx.length ≤ 10000) (hzv : vs.length ≤ 10000)
  (hret : ∀ {wd te' rest' h' tk'}, ScOff x dx fa rest' → (∀ q ∈ rest, q ∈ rest') → (∃ u1 u2 u3, WordIn w.params rest' wd (.str (Str.ofString "text") u1) (.str (Str.ofString "") u2) (.str ⟨y.toArray⟩ u3) p) → Fr h₀ L h' m → News h₀ L h' (scN w.params x dx fa t1 t2 t3 t4 tx tt ((pre ++ [39]).length + (StrLaws.dbl 39 y).length + 1 : Int) te' gv (vs ++ [.ref wd]) (k + 1) rest') → Q .none { s with heap := h', toks := tk' }) :
    wpAny (model PySem.Challenge.rw_pb0448_01.row.prog w) (ktrTop dp un gd cn cs L a ccd cl outer) (call (.ref 238) [.ref x, .str q tq]) Q E s := by
  subst hN
  obtain ⟨o1, o2, o3, o4, o5⟩ := ho
  subst hq
  have hlp : ((pre ++ [39]).length : Int) = pre.length + 1 := by simp
  revert X; k_fill; intro X
  refine wpAny_call ?_
  k_dflt (refine' Mine.code_defL ?k1 ?k2 ?k3 ?k4 ?k5 ?kA ?kF ?kK ?k6 ?k7 ?k8 ?k9 ?kB ?_ ?c2 ?c3 ?c4 ?c5; (case kA => exact rfl); (case kF => exact rfl); (case kK => assumption); (case k1 => k_asm); (case k2 => k_asm); (case k3 => k_asm); (case k4 => k_asm); (case k5 => k_asm); (case k6 => k_is); (case k7 => k_is); (case k8 => ktr_room); (case k9 => exact BindsTo.of_eq rfl); (case c5 => decide); (case kB => exact locs rfl); (case c2 => exact rfl); (case c3 => exact rfl); (case c4 => exact rfl); k_whole; intro g' L' h' FG' F' N' B' X' T' hlt'; (try dsimp only); (try k_lift B'); (try k_fold))
  k_with_none
  k_with "call ref" => (k_here; (with_reducible show wpAny _ _ (call (Value.ref 231) _) _ _ _); k_dflt (refine' Mine.closing_use ?k1z231 ?k2z231 ?k3z231 ?k4z231 ?k5z231 ?k6z231 ?k7z231 ?k8z231 ?vz231 ?oz231 ?qz231 ?Lz231 ?bz231 ?pz231 ?zz231 ?_; (first | (case k4z231 | vz231 => k_extra "v0") | (case k4z231 | vz231 => k_extra "v1") | (case k4z231 | vz231 => k_extra "v2") | (case k4z231 | vz231 => k_extra "v3")); (case qz231 => first | rfl | decide +kernel); (case Lz231 => assumption); (case bz231 => ((simp only [List.length_append, List.length_cons, List.length_nil]); omega)); (case pz231 => assumption); (case zz231 => omega); (case k1z231 | k2z231 | k3z231 | k5z231 => k_asm); (case k6z231 => k_extra "r"); (case k7z231 => ktr_room); (case k8z231 => ktr_units); (case oz231 => k_extra "o5"); k_whole); intro tpz231' tYz231' tez231' nz231' hz231' tkz231' Fz231' Nz231'; (try dsimp only [Mine.scN] at Nz231'))
  k_steps
  all_goals (
    refine hret ?_ ?_ ?_ (by assumption) (by assumption)
    · refine ⟨?_, ?_, ?_, ?_, ?_⟩ <;> assumption
    · assumption
    · exact ⟨_, _, _, by assumption⟩)
section
open PySem PySem.Calls PyProof.Rows PyProof.V PySem.Spec
variable {prog : Program} {w : World} {A : Around} {E : Value → Shared → Prop} {s : Shared} {env : Env} {h₀ : Heap} {x : PySem.Str} {body : List Stmt} {Q : Flow → Shared → Prop}
def TEnd (h₀ : Heap) (L : Addr) (x : PySem.Str) (m : PySem.Str → Option Value) (nw : List (Addr × Obj)) (s : Shared) (f : Flow) (s₂ : Shared) : Prop :=
  f = .next ∧ ∃ h' tk' v, s₂ = { s with heap := h', toks := tk' } ∧ Fr h₀ L h' (fun y => if y = x then some v else m y) ∧ News h₀ L h' nw
theorem TEnd.intro {h₀ : Heap} {L : Addr} {x : PySem.Str} {m : PySem.Str → Option Value} {nw : List (Addr × Obj)} {s : Shared} {h' : Heap} {tk' : Nat} {v : Value} (F : Fr h₀ L h' (fun y => if y = x then some v else m y)) (N : News h₀ L h' nw) : TEnd h₀ L x m nw s .next { s with heap := h', toks := tk' } := ⟨rfl, h', tk', v, rfl, F, N⟩
/-- a for over a text whose turns change nothing but the loop's own name -/
theorem text_loop {xt : PySem.Str} {tx : Tok} {m₀ : PySem.Str → Option Value} {news : List (Addr × Obj)}
    (hh : A.handled = none) (F : Fr h₀ env.locals s.heap m₀) (N : News h₀ env.locals s.heap news)
    (turn : ∀ (n : Nat) t h tk own, n ∈ xt.cps.toList → Fr h₀ env.locals h (fun y => if y = x then some (.str ⟨#[n]⟩ t) else m₀ y) → News h₀ env.locals h (news ++ own) →
      wpAny (model prog w) A (execs body env) (TEnd h₀ env.locals x m₀ (news ++ own) s) E { s with heap := h, toks := tk })
    (done : ∀ (u : Option Value) h tk, Fr h₀ env.locals h (fun y => if y = x then u else m₀ y) → News h₀ env.locals h news → Q .next { s with heap := h, toks := tk }) :
    wpAny (model prog w) A (pyIter (.str xt tx)) (fun it s₂ => LoopAtV prog w A h₀ env x body Q E it s₂) E s := by
  refine PySem.W.KStt.kst_text (σ := Unit) (fun _ => news) (fun _ => []) (fun _ => True) [] (fun _ _ => True) () hh F N trivial (List.forall_mem_nil _) trivial ?_ ?_
  · intro c pre post n t u h tk own e off _ _ F₁ N₁
    have hm : n ∈ xt.cps.toList := by
      have h2 : (n : Int) ∈ PySem.W.KStt.codes xt := by rw [e]; simp
      obtain ⟨a, h3, h4⟩ := List.mem_map.mp h2
      have h5 : a = n := by omega
      exact h5 ▸ h3
    have hs : ∀ {v : Option Value}, (fun y => if y = x then v else PySem.W.kstB (fun z => if ([] : List PySem.Str).contains z then u z else m₀ z) [] y) = fun y => if y = x then v else m₀ y := by
      intro v
      funext y
      by_cases hy : y = x
      · simp [hy]
      · simp [hy, PySem.W.kstB]
    rw [hs] at F₁
    refine wpAny_mono (turn n t h tk own hm F₁ N₁) (fun f s₂ hw => ?_) fun _ _ e => e
    obtain ⟨rfl, h', tk', v, rfl, F', N'⟩ := hw
    refine ⟨h', tk', _, _, news, rfl, F', N', fun p hp => List.mem_append.mpr (.inl hp), fun p hp => List.mem_append.mpr (.inr hp), rfl, (), rfl, trivial, List.forall_mem_nil _, ?_, trivial⟩
    intro z hz _ _
    simp [hz]
  · intro c u h tk _ _ F₁ N₁
    have e : (fun y => if y = x then u y else PySem.W.kstB (fun z => if ([] : List PySem.Str).contains z then u z else m₀ z) [] y) = fun y => if y = x then u x else m₀ y := by
      funext y
      by_cases hy : y = x
      · simp [hy]
      · simp [hy, PySem.W.kstB]
    rw [e] at F₁
    exact done _ h tk F₁ N₁
end
def hexd (n : Nat) : Nat := if n < 10 then 48 + n else 55 + n
def hexL (l : List UInt8) : List Nat := l.flatMap fun b => [hexd (b.toNat / 16), hexd (b.toNat % 16)]
theorem hexL_len (l : List UInt8) : (hexL l).length = 2 * l.length := by
  induction l with
  | nil => rfl
  | cons b r ih =>
    show (_ :: _ :: hexL r).length = _
    simp only [List.length_cons, ih]
    omega
theorem hexd_mem {n : Nat} (h : n < 16) : hexd n ∈ (Str.ofString "0123456789abcdefABCDEF").cps.toList := by
  have : ∀ n : Fin 16, hexd n.val ∈ (Str.ofString "0123456789abcdefABCDEF").cps.toList := by decide +kernel
  exact this ⟨n, h⟩
theorem hexd_lt {n : Nat} (h : n < 16) : hexd n < 128 := by unfold hexd; split <;> omega
theorem hexL_mem {n : Nat} {l : List UInt8} (h : n ∈ hexL l) : ∃ d, d < 16 ∧ n = hexd d := by
  obtain ⟨b, hb, hm⟩ := List.mem_flatMap.mp h
  have h1 : b.toNat < 256 := b.toNat_lt
  rcases List.mem_cons.mp hm with e | hm
  · exact ⟨_, by omega, e⟩
  · exact ⟨_, by omega, List.mem_singleton.mp hm⟩
theorem hex_in {n : Nat} {l : List UInt8} (h : n ∈ hexL l) : ¬ (Builtin.Str.occurrences (Str.ofString "0123456789abcdefABCDEF") ⟨#[n]⟩ 0 (Str.ofString "0123456789abcdefABCDEF").length 1).isEmpty = true := by
  obtain ⟨d, hd, rfl⟩ := hexL_mem h
  rw [in_one, decide_eq_true (hexd_mem hd)]
  decide
theorem fromHex_gen {f : Nat → Nat → List Nat → Array UInt8 → Except Nat (Array UInt8)} (h0 : ∀ i l o, f 0 i l o = .ok o)
    (h1 : ∀ n i o, f (n + 1) i [] o = .ok o) (h2 : ∀ (a b : Fin 16) n i r o, f (n + 1) i (hexd a.val :: hexd b.val :: r) o = f n (i + 2) r (o.push (a.val * 16 + b.val).toUInt8)) :
    ∀ (bs : List UInt8) (n i : Nat) (o : Array UInt8), bs.length ≤ n → f n i (hexL bs) o = .ok (o ++ bs.toArray)
  | [], 0, i, o, _ => by rw [h0]; simp
  | [], n + 1, i, o, _ => by show f (n + 1) i [] o = _; rw [h1]; simp
  | b :: r, 0, i, o, h => absurd h (by simp)
  | b :: r, n + 1, i, o, h => by
    have hb : b.toNat < 256 := b.toNat_lt
    have e := h2 ⟨b.toNat / 16, by omega⟩ ⟨b.toNat % 16, by omega⟩ n i (hexL r) o
    show f (n + 1) i (hexd (b.toNat / 16) :: hexd (b.toNat % 16) :: hexL r) o = _
    rw [e, fromHex_gen h0 h1 h2 r n (i + 2) _ (by simpa using h)]
    have e2 : (b.toNat / 16 * 16 + b.toNat % 16).toUInt8 = b := by
      have : b.toNat / 16 * 16 + b.toNat % 16 = b.toNat := by omega
      rw [this]
      simp
    rw [e2]
    simp
theorem fromHex_ok {f : Nat → Nat → List Nat → Array UInt8 → Except Nat (Array UInt8)} {bs : List UInt8} {n : Nat} {r : Except Nat (Array UInt8)} (h : f n 0 (hexL bs) #[] = r) (hn : bs.length ≤ n) (h0 : ∀ i l o, f 0 i l o = .ok o)
    (h1 : ∀ n i o, f (n + 1) i [] o = .ok o) (h2 : ∀ (a b : Fin 16) n i r o, f (n + 1) i (hexd a.val :: hexd b.val :: r) o = f n (i + 2) r (o.push (a.val * 16 + b.val).toUInt8)) : r = .ok bs.toArray := by
  rw [fromHex_gen h0 h1 h2 bs n 0 #[] hn] at h
  rw [← h]
  simp
theorem fin16 {P : Fin 16 → Prop} (h0 : P 0) (h1 : P 1) (h2 : P 2) (h3 : P 3) (h4 : P 4) (h5 : P 5) (h6 : P 6) (h7 : P 7) (h8 : P 8) (h9 : P 9) (ha : P 10) (hb : P 11) (hc : P 12) (hd : P 13) (he : P 14) (hf : P 15) (a : Fin 16) : P a := by
  obtain ⟨a, h⟩ := a
  match a, h with
  | 0, _ => exact h0
  | 1, _ => exact h1
  | 2, _ => exact h2
  | 3, _ => exact h3
  | 4, _ => exact h4
  | 5, _ => exact h5
  | 6, _ => exact h6
  | 7, _ => exact h7
  | 8, _ => exact h8
  | 9, _ => exact h9
  | 10, _ => exact ha
  | 11, _ => exact hb
  | 12, _ => exact hc
  | 13, _ => exact hd
  | 14, _ => exact he
  | 15, _ => exact hf
  | n + 16, h => exact absurd h (by omega)
theorem no_high {bs : List UInt8} : (Array.findIdx? (fun x => decide (x ≥ 128)) (hexL bs).toArray) = none := by
  rw [Array.findIdx?_eq_none_iff]
  intro x hx
  obtain ⟨d, h, rfl⟩ := hexL_mem (List.mem_toArray.mp hx)
  have := hexd_lt h
  simp
  omega
section
open PySem PySem.Calls PyProof.Rows PySem.W PySem.W.KFB
variable {prog : Program} {w : World} {M : Model} {A : Around} {E : Value → Shared → Prop} {s : Shared} {K : Frag} {h₀ : Heap} {L : Addr} {m : PySem.Str → Option Value} {news : List (Addr × Obj)}
def xbound : Obj := { cls := .type "builtin_function_or_method", data := .fields #[.builtin "bytes.fromhex", .type "bytes"] }
theorem entry_xb : entryFor table "bytes.fromhex" = some Builtin.«bytes.fromhex» := entryFor_of_tree (by kernel_rfl)
theorem type_xb : typeOf (.builtin "bytes.fromhex") = pure (.type "classmethod_descriptor") := by show builtinType _ = _; rw [builtinType_eq_fast]; kernel_rfl
theorem quiet_xb {as : Args} : (Code.builtin "bytes.fromhex" as).quiet = true := Code.quiet_builtin _ (by decide +kernel)
theorem istype_bytes : isType (.type "bytes") = pure true := by first | rfl | kernel_rfl | (unfold isType; rw [isSubtype_type]; kernel_rfl)
theorem owner_xb : (kfb_private% "ownerAndName") "bytes.fromhex" = ("bytes", "fromhex") := by first | decide +kernel | kernel_rfl
theorem sub_bytes : isSubtype (.type "bytes") (.type "bytes") = pure true := by first | rfl | kernel_rfl | (rw [isSubtype_type]; kernel_rfl)
theorem xrun_get {P : Fin → Shared → Prop} (h : P (.done (.ret (.ref s.heap.objs.size))) { s with heap := s.heap.push xbound }) :
    wpAny M A (Builtin.«classmethod_descriptor.__get__» ⟨[.builtin "bytes.fromhex", .none, .type "bytes"], []⟩) P E s := by
  unfold Builtin.«classmethod_descriptor.__get__»
  refine wpAny_bind (wpAny_of_eq (a := (.builtin "bytes.fromhex", none, some (.type "bytes"))) (by first | rfl | kernel_rfl) ?_)
  simp only [owner_xb]
  refine wpAny_bind (wpAny_of_eq (a := .type "bytes") rfl ?_)
  refine wpAny_bind (wpAny_of_eq (a := true) istype_bytes ?_)
  refine if_not rfl ?_
  refine wpAny_bind (wpAny_of_eq (a := true) sub_bytes ?_)
  refine if_not rfl ?_
  exact wpAny_bind (wpAny_newObj_type (wpAny_pure h))
theorem xgetm {pl : Sem Bool} {Q : Value × List Value → Shared → Prop} (F : Fr h₀ L s.heap m) (N : News h₀ L s.heap news) (X₀ : K.In h₀)
    (e : findCls K (.type "bytes") (.type "type") (PySem.Str.ofString "fromhex") = some (.get (.builtin "classmethod_descriptor.__get__") (.builtin "bytes.fromhex") .none (.type "bytes")))
    (h : ∀ x h', Fr h₀ L h' m → News h₀ L h' ((x, xbound) :: news) → (∀ p ∈ news, p.1 < x) → Q (.ref x, []) { s with heap := h', toks := s.toks + 1 }) :
    wpAny (model prog w) A (getMethod (.type "bytes") (PySem.Str.ofString "fromhex") pl) Q E s := by
  have X := X₀.keeps F.keep
  have hstub : opaqueClassAbove (.type "bytes") = pure none := by unfold opaqueClassAbove; dsimp only; rw [show Manifest.isStub "bytes" = false by decide +kernel]; rfl
  have ht : typeOf (.type "bytes") = pure (.type "type") := by first | rfl | kernel_rfl
  have L0 : Looks (model prog w) s.heap (typeOf (.type "bytes")) (.type "type") := Looks.of_pure ht
  have hg : findIn K (.type "type") "__getattribute__" = some (some (.builtin "type.__getattribute__")) := type_tga
  unfold getMethod specialOf
  refine wpAny_bind (wpAny_bind (L0.here ((looks_findIn X hg).here ?_)))
  dsimp only
  rw [if_pos canon_tga]
  refine wpAny_bind (wpAny_mono (Q := fun v => Q (v, [])) (E := E) ?_ (fun _ _ z => wpAny_pure z) fun _ _ z => z)
  have LO : Looks (model prog w) s.heap (opaqueClassAbove (.type "bytes")) none := Looks.of_pure hstub
  refine cls_open X LO L0 hg (looks_hook X (r := none) (by rfl)) (by show subIn K _ _ = _; rfl) e ?_
  show wpAny _ _ (holding [.builtin "bytes.fromhex"] (call (.builtin "classmethod_descriptor.__get__") [.builtin "bytes.fromhex", .none, .type "bytes"]) >>= fun v => ret v) _ _ _
  refine wpAny_bind (wpAny_holding (wpAny_call_entry slot_get type_xb entry_get (xrun_get ⟨_, rfl, wpAny_pure (wpAny_pure (h _ _ (F.push _) (News.push F N _) fun p hp => Heap.lt_size (N p hp).1))⟩) (args_get _ _ _)))
theorem xtree {bs : List UInt8} {t : Tok} {P : Fin → Shared → Prop} (hz : (hexL bs).length ≤ 10000) (h : ∀ u k, P (.done (.ret (.bytes bs.toArray u))) { s with toks := k }) :
    wpAny M A (Builtin.«bytes.fromhex» ⟨[.type "bytes", .str ⟨(hexL bs).toArray⟩ t], []⟩) P E s := by
  unfold Builtin.«bytes.fromhex» Builtin.Bytes.fromhexM
  dsimp only
  refine wpAny_bind (wpAny_of_eq (a := "bytes") (by first | rfl | kernel_rfl) ?_)
  refine if_not rfl ?_
  refine wpAny_bind (wpAny_of_eq (a := some ⟨(hexL bs).toArray⟩) (by first | rfl | kernel_rfl) ?_)
  dsimp only
  rw [no_high]
  dsimp only
  split <;> rename_i heq <;> (
    have hr := fromHex_ok heq (by rw [List.size_toArray, hexL_len]; omega) (fun _ _ _ => rfl) (fun _ _ _ => rfl) (by
      refine fin16 ?_ ?_ ?_ ?_ ?_ ?_ ?_ ?_ ?_ ?_ ?_ ?_ ?_ ?_ ?_ ?_ <;> refine fin16 ?_ ?_ ?_ ?_ ?_ ?_ ?_ ?_ ?_ ?_ ?_ ?_ ?_ ?_ ?_ ?_ <;> (intro n i r o; kernel_rfl)))
  · cases hr
  · injection hr with hr
    subst hr
    refine if_so (by decide +kernel) ?_
    refine wpAny_bind ?_
    show wpAny M A (mkBytes bs.toArray) _ _ _
    exact wpAny_mkBytes (wpAny_pure (h _ _)) (by rw [List.size_toArray]; rw [hexL_len] at hz; have : (10000 : Nat) ≤ sizeLine := by decide +kernel
                                                 omega)
theorem xcheck {x : PySem.Str} {t : Tok} : checkBoundCall "bytes.fromhex" ⟨[.type "bytes", .str x t], []⟩ = pure () := by first | kernel_rfl | rfl
def XAt (x : Addr) (h : Heap) : Prop := h.get? x = some xbound
theorem xat_of {x : Addr} {h : Heap} (N : News h₀ L h news) (hm : (x, xbound) ∈ news) : XAt x h := N.get hm
theorem xcall {x : Addr} {bs : List UInt8} {t : Tok} {Q : Value → Shared → Prop} (N : News h₀ L s.heap news) (hm : (x, xbound) ∈ news) (hz : (hexL bs).length ≤ 10000)
    (h : ∀ u k, Q (.bytes bs.toArray u) { s with toks := k }) : wpAny (model prog w) A (call (.ref x) [.str ⟨(hexL bs).toArray⟩ t]) Q E s := by
  have ho := xat_of N hm
  refine wpAny_call (codeAny_of_tree ?_)
  show wpAny _ A.in1 (callAny (.ref x) ⟨[.str ⟨(hexL bs).toArray⟩ t], []⟩) _ _ s
  simp only [callAny]
  refine wpAny_bind (wpAny_load ho ?_)
  simp only [xbound, show (Value.type "builtin_function_or_method" == Value.type "method" || Value.type "builtin_function_or_method" == Value.type "builtin_function_or_method" || Value.type "builtin_function_or_method" == Value.type "method-wrapper") = true by decide, if_true]
  refine if_so (by decide) ?_
  refine wpAny_bind (wpAny_of_eq (a := ()) xcheck ?_)
  refine wpAny_bind (wpAny_pure (wpAny_pure ?_))
  exact ⟨quiet_xb, codeAny_builtin entry_xb (xtree hz h)⟩
theorem xcallWith {pos : Pos} {u : Addr} {first : List Value} {env : Env} {e : Expr} {rest : List Expr} {Q : Value → Shared → Prop} (_N : News h₀ L s.heap news) (_hm : (u, xbound) ∈ news)
    (h : wpAny M A (spliced (backTo pos (starEach (e :: rest) env))) (fun vs s₁ => XAt u s₁.heap ∧ wpAny M A (call (.ref u) (first ++ vs)) Q E s₁) E s)
    (he : starEach (e :: rest) env = (false, eval e env) :: starEach rest env := by rfl) (hplain : (backTo pos (starEach rest env)).any (·.1) = false := by rfl) :
    wpAny M A (callWith pos (.ref u) first (backTo pos (starEach (e :: rest) env)) []) Q E s := by
  rw [he] at h ⊢
  have hpl : (backTo pos ((false, eval e env) :: starEach rest env)).any (·.1) = false := by show (false || (backTo pos (starEach rest env)).any (·.1)) = false; rw [hplain]; rfl
  have h' : wpAny M A (evalArgs (.ref u) true (backTo pos ((false, eval e env) :: starEach rest env)) []) (fun x s₁ => XAt u s₁.heap ∧ wpAny M A (call (.ref u) (first ++ x.pos) x.kw) Q E s₁) E s := evalArgs_plain h
  unfold callWith
  refine wpAny_bind (wpAny_holding (wpAny_mono h' (fun x s₁ h₁ => wpAny_bind (wpAny_standAt ?_)) fun _ _ x => x))
  obtain ⟨ho, hcall⟩ := h₁
  simp only [hpl, List.any_nil, Bool.or_false]
  refine wpAny_bind (m := keeperOf (.ref u)) ?_
  unfold keeperOf
  refine wpAny_bind (wpAny_load ho ?_)
  simp only [xbound, show (Value.type "builtin_function_or_method" != Value.type "method") = true by decide, show (Value.type "builtin_function_or_method" == Value.type "builtin_function_or_method" || Value.type "builtin_function_or_method" == Value.type "method-wrapper") = true by decide, if_true]
  exact wpAny_pure (wpAny_bind (wpAny_mono hcall (fun r s₂ hr => wpAny_bind (wpAny_holding (wpAny_point (wpAny_pure hr)))) fun _ _ x => x))
end
theorem blob_use {w : World} {mean : ExcName → Option Value} {mg mb : Str → Option Value}
  {dp un : Nat} {gd : Option (List Code)} {cn : Str} {cs : Scope} {a : Addr} {ccd : Value} {cl : List (Str × Addr)} {outer : List Env} {A₀ : Around} {base h₀ : Heap} {L : Addr} {m : Str → Option Value} {s : Shared} {Q E : Value → Shared → Prop}
  {x dx fa : Addr} {t1 t2 t3 t4 : Tok} {tx : Str} {p : Int} {tt tp : Tok} {gv : Value} {vs : List Value} {k : Nat} {pre post : List Nat} {bs : List UInt8} {news rest : List (Addr × Obj)}
  (X : (hd.heap_39 w.params).In h₀) (B : Below A₀ base outer h₀) (F : Fr h₀ L s.heap m) (N : News h₀ L s.heap news)
  (T : Top hd.view_39 (looseW hd.view_39 [Str.ofString "NAME_SIGNS", Str.ofString "LIKE_SIGNS", Str.ofString "GREATEST"]) mean mg mb h₀) (hk : cs.kind = .function) (hd : dp + 50 < recursionLimit) (hu : un + 300 < cLine)
  (hN : news = scN w.params x dx fa t1 t2 t3 t4 tx tt p tp gv vs k rest) (ho : ScOff x dx fa rest) (hL : tx.cps.toList = (pre ++ [88, 39]) ++ StrLaws.dbl 39 (hexL bs) ++ 39 :: post) (hp : p = pre.length) (hpost : post.head? ≠ some 39) (hz : tx.length ≤ 10000) (hzv : vs.length ≤ 10000)
  (hret : ∀ {wd te' rest' h' tk'}, ScOff x dx fa rest' → (∀ q ∈ rest, q ∈ rest') → (∃ u1 u2 u3, WordIn w.params rest' wd (.str (Str.ofString "blob") u1) (.str (Str.ofString "") u2) (.bytes bs.toArray u3) p) → Fr h₀ L h' m → News h₀ L h' (scN w.params x dx fa t1 t2 t3 t4 tx tt ((pre ++ [88, 39]).length + (StrLaws.dbl 39 (hexL bs)).length + 1 : Int) te' gv (vs ++ [.ref wd]) (k + 1) rest') → Q .none { s with heap := h', toks := tk' }) :
    wpAny (model PySem.Challenge.rw_pb0448_01.row.prog w) (ktrTop dp un gd cn cs L a ccd cl outer) (call (.ref 245) [.ref x]) Q E s := by
  subst hN
  obtain ⟨o1, o2, o3, o4, o5⟩ := ho
  have hlp : ((pre ++ [88, 39]).length : Int) = pre.length + 2 := by simp
  revert X; k_fill; intro X
  refine wpAny_call ?_
  k_dflt (refine' Mine.code_defL ?k1 ?k2 ?k3 ?k4 ?k5 ?kA ?kF ?kK ?k6 ?k7 ?k8 ?k9 ?kB ?_ ?c2 ?c3 ?c4 ?c5; (case kA => exact rfl); (case kF => exact rfl); (case kK => assumption); (case k1 => k_asm); (case k2 => k_asm); (case k3 => k_asm); (case k4 => k_asm); (case k5 => k_asm); (case k6 => k_is); (case k7 => k_is); (case k8 => ktr_room); (case k9 => exact BindsTo.of_eq rfl); (case c5 => decide); (case kB => exact locs rfl); (case c2 => exact rfl); (case c3 => exact rfl); (case c4 => exact rfl); k_whole; intro g' L' h' FG' F' N' B' X' T' hlt'; (try dsimp only); (try k_lift B'); (try k_fold))
  k_with_none
  k_with "exec For Name Name cons nil" => (k_here; (rename Fr _ _ _ _ => lF'); (with_unfolding_all refine' For_invVF lF' ?k1 ?k2 ?_; (case k1 => exact rfl); (case k2 => exact rfl); k_whole))
  k_with "pyIter str" => (k_here; (with_reducible show wpAny _ _ (pyIter (Value.str _ _)) (fun it s₂ => LoopAtV _ _ _ _ _ _ _ _ _ it s₂) _ _); (rename Fr _ _ _ _ => lF'); (rename News _ _ _ _ => lN'); (with_unfolding_all refine' Mine.text_loop (by rfl) lF' lN' (fun n8 t8 h8 tk8 own8 hm8 F8' N8' => ?_) (fun u8 h8 tk8 F8' N8' => ?_)))
  have hfl : (({ cps := (hexL bs).toArray } : Str).length : Int) = 2 * bs.length := by show (((hexL bs).toArray.size : Nat) : Int) = _; simp [hexL_len]
  have hfs : ({ cps := (hexL bs).toArray } : Str).length ≤ 10000 := by
    have h1 := congrArg List.length hL
    have h2 := dbl_len (hexL bs)
    simp only [List.length_append, List.length_cons, List.length_nil, Array.length_toList] at h1
    show (hexL bs).toArray.size ≤ 10000
    rw [List.size_toArray]
    unfold Str.length at hz
    omega
  have hfz : (hexL bs).length ≤ 10000 := by have h1 : (hexL bs).toArray.size ≤ 10000 := hfs; rw [List.size_toArray] at h1; exact h1
  k_with "absurd" => first | (rename (Builtin.Str.occurrences _ _ _ _ _).isEmpty = true => hq; exact absurd hq (hex_in (by assumption))) | (rename Int.fmod _ 2 ≠ 0 => hq; exact hq (by rw [hfl]; exact Int.fmod_eq_zero_of_dvd ⟨_, rfl⟩))
  k_with "call ref" => (k_here; (with_reducible show wpAny _ _ (call (Value.ref 231) _) _ _ _); k_dflt (refine' Mine.closing_use ?k1z231 ?k2z231 ?k3z231 ?k4z231 ?k5z231 ?k6z231 ?k7z231 ?k8z231 ?vz231 ?oz231 ?qz231 ?Lz231 ?bz231 ?pz231 ?zz231 ?_; (first | (case k4z231 | vz231 => k_extra "v0") | (case k4z231 | vz231 => k_extra "v1") | (case k4z231 | vz231 => k_extra "v2") | (case k4z231 | vz231 => k_extra "v3")); (case qz231 => first | rfl | decide +kernel); (case Lz231 => assumption); (case bz231 => ((simp only [List.length_append, List.length_cons, List.length_nil]); omega)); (case pz231 => assumption); (case zz231 => omega); (case k1z231 | k2z231 | k3z231 | k5z231 => k_asm); (case k6z231 => k_extra "r"); (case k7z231 => ktr_room); (case k8z231 => ktr_units); (case oz231 => k_extra "o5"); k_whole); intro tpz231' tYz231' tez231' nz231' hz231' tkz231' Fz231' Nz231'; (try dsimp only [Mine.scN] at Nz231'))
  k_with "getMethod type:bytes" => (k_here; k_dflt (refine' Mine.xgetm ?kfbFza ?kfbNza ?kfbXza ?kfbEza ?_; (case kfbFza | kfbNza | kfbXza => k_asm); (case kfbEza => k_is); k_whole; intro xza' hza' Fza' Nza' l1; (try k_lt l1); (try k_sweep)))
  k_with "callWith ref" => (k_here; (with_reducible show wpAny _ _ (callWith _ (Value.ref _) _ (backTo _ (starEach (_ :: _) _)) []) _ _ _); k_dflt (refine' Mine.xcallWith ?kfbNzb ?kfbMzb ?_; (case kfbNzb => k_asm); (case kfbMzb => k_mem); k_whole))
  k_with "And" => ((with_reducible show Mine.XAt _ _ ∧ _); k_dflt (refine ⟨Mine.xat_of (by k_asm) (by k_mem), ?_⟩); (try dsimp only [List.nil_append, List.cons_append]))
  k_with "XAt" => ((with_reducible show Mine.XAt _ _); k_dflt (first | exact Mine.xat_of (by k_asm) (by k_mem) | exact Mine.xat_of (by assumption) (by news_mem)))
  k_with "call ref" => (k_here; (with_reducible show wpAny _ _ (call (Value.ref _) [Value.str _ _]) _ _ _); k_dflt (refine' Mine.xcall (by k_asm) (by k_mem) ?zze ?_; (case zze => first | assumption | omega)); intro _ _)
  k_steps
  · exact TEnd.intro (by assumption) (by assumption)
  all_goals (
    refine hret ?_ ?_ ?_ (by assumption) (by assumption)
    · refine ⟨?_, ?_, ?_, ?_, ?_⟩ <;> assumption
    · assumption
    · exact ⟨_, _, _, by assumption⟩)
theorem folded_use {w : World} {mean : ExcName → Option Value} {mg mb : Str → Option Value}
  {dp un : Nat} {gd : Option (List Code)} {cn : Str} {cs : Scope} {a : Addr} {ccd : Value} {cl : List (Str × Addr)} {outer : List Env} {A₀ : Around} {base h₀ : Heap} {L : Addr} {m : Str → Option Value} {s : Shared} {Q E : Value → Shared → Prop}
  {tc : Tok} {news : List (Addr × Obj)}
  (X : (hd.heap_39 w.params).In h₀) (B : Below A₀ base outer h₀) (F : Fr h₀ L s.heap m) (N : News h₀ L s.heap news)
  (T : Top hd.view_39 (looseW hd.view_39 [Str.ofString "NAME_SIGNS", Str.ofString "LIKE_SIGNS", Str.ofString "GREATEST"]) mean mg mb h₀) (hk : cs.kind = .function) (hd : dp + 30 < recursionLimit) (hu : un + 200 < cLine)
  
  (hret : ∀ {t' h' tk'}, Fr h₀ L h' m → News h₀ L h' news → Q (.str (Str.ofString "NULL") t') { s with heap := h', toks := tk' }) :
    wpAny (model PySem.Challenge.rw_pb0448_01.row.prog w) (ktrTop dp un gd cn cs L a ccd cl outer) (call (.ref 112) [.str (Str.ofString "NULL") tc]) Q E s := by
  revert X; k_fill; intro X
  refine wpAny_call ?_
  k_dflt (refine' Mine.code_defL ?k1 ?k2 ?k3 ?k4 ?k5 ?kA ?kF ?kK ?k6 ?k7 ?k8 ?k9 ?kB ?_ ?c2 ?c3 ?c4 ?c5; (case kA => exact rfl); (case kF => exact rfl); (case kK => assumption); (case k1 => k_asm); (case k2 => k_asm); (case k3 => k_asm); (case k4 => k_asm); (case k5 => k_asm); (case k6 => k_is); (case k7 => k_is); (case k8 => ktr_room); (case k9 => exact BindsTo.of_eq rfl); (case c5 => decide); (case kB => exact locs rfl); (case c2 => exact rfl); (case c3 => exact rfl); (case c4 => exact rfl); k_whole; intro g' L' h' FG' F' N' B' X' T' hlt'; (try dsimp only); (try k_lift B'); (try k_fold))
  k_with_none
  k_steps
  exact hret (by assumption) (by assumption)
local macro_rules | `(tactic| walk_at "call ref") => `(tactic| (k_here; (with_reducible show wpAny _ _ (call (Value.ref 112) _) _ _ _); k_dflt (refine' Mine.folded_use ?k1 ?k2 ?k3 ?k4 ?k5 ?k6 ?k7 ?k8 ?_; (case k4 | k1 | k2 | k3 | k5 => k_asm); (case k6 => k_extra "r"); (case k7 => ktr_room); (case k8 => ktr_units); k_whole); intro t' h' tk' F' N'))
theorem bareN_end {tx : Str} {e p K : Int} (h1 : e ≤ K) (hK : K ≤ tx.length) (hin : ∀ j : Int, p ≤ j → j < K → ∃ c, tx.cps.toList[j.toNat]? = some c ∧ c ∈ (Str.ofString "abcdefghijklmnopqrstuvwxyzABCDEFGHIJKLMNOPQRSTUVWXYZ_0123456789$").cps.toList)
    (h : ¬ e < (tx.length : Int) ∨ (Builtin.Str.occurrences (Str.ofString "abcdefghijklmnopqrstuvwxyzABCDEFGHIJKLMNOPQRSTUVWXYZ_0123456789$") (Txt.item tx e) 0 (Str.ofString "abcdefghijklmnopqrstuvwxyzABCDEFGHIJKLMNOPQRSTUVWXYZ_0123456789$").length 1).isEmpty = true) (hp : 0 ≤ p ∧ p ≤ e) : e = K := by
  false_or_by_contra
  rcases h with h | h
  · omega
  · obtain ⟨c, h3, h4⟩ := hin e hp.2 (by omega)
    rw [item_in (by omega) h3, decide_eq_true h4] at h
    exact absurd h (by decide)
theorem bareN_on {tx : Str} {e K : Int} (h1 : e ≤ K) (hl : e < (tx.length : Int)) (h0 : 0 ≤ e) (hstop : K < tx.length → ∃ c, tx.cps.toList[K.toNat]? = some c ∧ c = 44)
    (h : (Builtin.Str.occurrences (Str.ofString "abcdefghijklmnopqrstuvwxyzABCDEFGHIJKLMNOPQRSTUVWXYZ_0123456789$") (Txt.item tx e) 0 (Str.ofString "abcdefghijklmnopqrstuvwxyzABCDEFGHIJKLMNOPQRSTUVWXYZ_0123456789$").length 1).isEmpty = false ∨ 127 < (((Txt.item tx e).cps.getD 0 0 : Nat) : Int)) : e < K := by
  false_or_by_contra
  have e1 : e = K := by omega
  obtain ⟨c, h3, h4⟩ := hstop (by omega)
  rw [← e1] at h3
  subst h4
  rcases h with h | h
  · rw [item_in h0 h3] at h
    exact absurd h (by decide +kernel)
  · rw [item_one h0 h3] at h
    exact absurd h (by decide)
theorem bareN_use {w : World} {mean : ExcName → Option Value} {mg mb : Str → Option Value}
  {dp un : Nat} {gd : Option (List Code)} {cn : Str} {cs : Scope} {a : Addr} {ccd : Value} {cl : List (Str × Addr)} {outer : List Env} {A₀ : Around} {base h₀ : Heap} {L : Addr} {m : Str → Option Value} {s : Shared} {Q E : Value → Shared → Prop}
  {x dx fa : Addr} {t1 t2 t3 t4 : Tok} {tx : Str} {p : Int} {tt tp : Tok} {gv : Value} {vs : List Value} {k : Nat} {ts : Tok} {K : Int} {news rest : List (Addr × Obj)}
  (X : (hd.heap_39 w.params).In h₀) (B : Below A₀ base outer h₀) (F : Fr h₀ L s.heap m) (N : News h₀ L s.heap news)
  (T : Top hd.view_39 (looseW hd.view_39 [Str.ofString "NAME_SIGNS", Str.ofString "LIKE_SIGNS", Str.ofString "GREATEST"]) mean mg mb h₀) (hk : cs.kind = .function) (hd : dp + 60 < recursionLimit) (hu : un + 400 < cLine)
  (hN : news = scN w.params x dx fa t1 t2 t3 t4 tx tt p tp gv vs k rest) (ho : ScOff x dx fa rest) (hp : 0 ≤ p) (hpK : p < K) (hK : K ≤ tx.length) (hz : tx.length ≤ 10000) (hzv : vs.length ≤ 10000)
  (hin : ∀ j : Int, p ≤ j → j < K → ∃ c, tx.cps.toList[j.toNat]? = some c ∧ c ∈ (Str.ofString "abcdefghijklmnopqrstuvwxyzABCDEFGHIJKLMNOPQRSTUVWXYZ_0123456789$").cps.toList) (hstop : K < tx.length → ∃ c, tx.cps.toList[K.toNat]? = some c ∧ c = 44)
  (hw : Txt.slice tx (some p) (some K) = Str.ofString "NULL")
  (hret : ∀ {wd te' rest' h' tk'}, ScOff x dx fa rest' → (∀ q ∈ rest, q ∈ rest') → (∃ u1 u2 u3, WordIn w.params rest' wd (.str (Str.ofString "name") u1) (.str (Str.ofString "NULL") u2) (.str (Str.ofString "NULL") u3) p) → Fr h₀ L h' m → News h₀ L h' (scN w.params x dx fa t1 t2 t3 t4 tx tt K te' gv (vs ++ [.ref wd]) (k + 1) rest') → Q .none { s with heap := h', toks := tk' }) :
    wpAny (model PySem.Challenge.rw_pb0448_01.row.prog w) (ktrTop dp un gd cn cs L a ccd cl outer) (call (.ref 224) [.ref x, .str ⟨#[78]⟩ ts]) Q E s := by
  subst hN
  obtain ⟨o1, o2, o3, o4, o5⟩ := ho
  revert X; k_fill; intro X
  refine wpAny_call ?_
  k_dflt (refine' Mine.code_defL ?k1 ?k2 ?k3 ?k4 ?k5 ?kA ?kF ?kK ?k6 ?k7 ?k8 ?k9 ?kB ?_ ?c2 ?c3 ?c4 ?c5; (case kA => exact rfl); (case kF => exact rfl); (case kK => assumption); (case k1 => k_asm); (case k2 => k_asm); (case k3 => k_asm); (case k4 => k_asm); (case k5 => k_asm); (case k6 => k_is); (case k7 => k_is); (case k8 => ktr_room); (case k9 => exact BindsTo.of_eq rfl); (case c5 => decide); (case kB => exact locs rfl); (case c2 => exact rfl); (case c3 => exact rfl); (case c4 => exact rfl); k_whole; intro g' L' h' FG' F' N' B' X' T' hlt'; (try dsimp only); (try k_lift B'); (try k_fold))
  k_with_none
  k_with "exec While BoolOp cons nil" => (k_dflt (refine' Mine.While_S (fun (c : Int × Tok) => [(Str.ofString "end", .int c.1 c.2)]) (fun _ => scN w.params x dx fa t1 t2 t3 t4 tx tt p tp gv vs k rest) (fun n c => p + 1 ≤ c.1 ∧ c.1 ≤ K ∧ (n : Int) = K - c.1) (p + 1, _) (n₀ := (K - p - 1).toNat) (by k_asm) (by k_asm) (fun _ h => h) (List.forall_mem_cons.mpr ⟨rfl, List.forall_mem_nil _⟩) ⟨Int.le_refl _, by omega, by omega⟩ (fun n8 c8 h8 tk8 hP8 F8' N8' => ?_) ?_))
  k_with "call ref" => ((with_reducible show wpAny _ _ (call (Value.ref 245) _) _ _ _); exfalso; (rename (Builtin.Str.occurrences (Str.ofString "xX") _ _ _ _).isEmpty = false => hq); exact absurd hq (by decide +kernel))
  k_with "call ref" => ((with_reducible show wpAny _ _ (call (Value.ref 112) [Value.str (Txt.slice _ _ _) _]) _ _ _); have e1 : c8.1 = K := (bareN_end hP8.2.1 hK hin (by first | exact .inl (by assumption) | exact .inr (by assumption)) (by omega)); rw [e1, hw])
  k_steps
  all_goals first
    | (exfalso; rename (Builtin.Str.occurrences (Str.ofString "xX") _ _ _ _).isEmpty = false => hq; exact absurd hq (by decide +kernel))
    | skip
  · have e1 : c8.1 < K := bareN_on hP8.2.1 (by assumption) (by omega) hstop (by first | exact .inl (by assumption) | exact .inr (by assumption))
    exact WEnd.int1 (n8 - 1) (by assumption) (by assumption) (fun _ h => h) (by omega) ⟨by dsimp only; omega, by dsimp only; omega, by dsimp only; omega⟩
  · have e9 : c8.1 = K := bareN_end hP8.2.1 hK hin (by first | exact .inl (by assumption) | exact .inr (by assumption)) (by omega)
    rename News h₀ L _ _ => kN9
    rename WordIn _ _ _ _ _ _ _ => hw9
    rw [e9] at kN9
    rw [e9, hw] at hw9
    refine hret ?_ ?_ ?_ (by assumption) kN9
    · refine ⟨?_, ?_, ?_, ?_, ?_⟩ <;> assumption
    · assumption
    · exact ⟨_, _, _, by assumption⟩
  · have e1 : c8.1 < K := bareN_on hP8.2.1 (by assumption) (by omega) hstop (by first | exact .inl (by assumption) | exact .inr (by assumption))
    exact WEnd.int1 (n8 - 1) (by assumption) (by assumption) (fun _ h => h) (by omega) ⟨by dsimp only; omega, by dsimp only; omega, by dsimp only; omega⟩
  · have e9 : c8.1 = K := bareN_end hP8.2.1 hK hin (by first | exact .inl (by assumption) | exact .inr (by assumption)) (by omega)
    rename News h₀ L _ _ => kN9
    rename WordIn _ _ _ _ _ _ _ => hw9
    rw [e9] at kN9
    rw [e9, hw] at hw9
    refine hret ?_ ?_ ?_ (by assumption) kN9
    · refine ⟨?_, ?_, ?_, ?_, ?_⟩ <;> assumption
    · assumption
    · exact ⟨_, _, _, by assumption⟩
theorem bareX_use {w : World} {mean : ExcName → Option Value} {mg mb : Str → Option Value}
  {dp un : Nat} {gd : Option (List Code)} {cn : Str} {cs : Scope} {a : Addr} {ccd : Value} {cl : List (Str × Addr)} {outer : List Env} {A₀ : Around} {base h₀ : Heap} {L : Addr} {m : Str → Option Value} {s : Shared} {Q E : Value → Shared → Prop}
  {x dx fa : Addr} {t1 t2 t3 t4 : Tok} {tx : Str} {p : Int} {tt tp : Tok} {gv : Value} {vs : List Value} {k : Nat} {ts : Tok} {pre post : List Nat} {bs : List UInt8} {news rest : List (Addr × Obj)}
  (X : (hd.heap_39 w.params).In h₀) (B : Below A₀ base outer h₀) (F : Fr h₀ L s.heap m) (N : News h₀ L s.heap news)
  (T : Top hd.view_39 (looseW hd.view_39 [Str.ofString "NAME_SIGNS", Str.ofString "LIKE_SIGNS", Str.ofString "GREATEST"]) mean mg mb h₀) (hk : cs.kind = .function) (hd : dp + 60 < recursionLimit) (hu : un + 400 < cLine)
  (hN : news = scN w.params x dx fa t1 t2 t3 t4 tx tt p tp gv vs k rest) (ho : ScOff x dx fa rest) (hL : tx.cps.toList = (pre ++ [88, 39]) ++ StrLaws.dbl 39 (hexL bs) ++ 39 :: post) (hp : p = pre.length) (hpost : post.head? ≠ some 39) (hz : tx.length ≤ 10000) (hzv : vs.length ≤ 10000)
  (hq : Txt.slice tx (some (p + 1)) (some (p + 1 + 1)) = Str.ofString "'")
  (hret : ∀ {wd te' rest' h' tk'}, ScOff x dx fa rest' → (∀ q ∈ rest, q ∈ rest') → (∃ u1 u2 u3, WordIn w.params rest' wd (.str (Str.ofString "blob") u1) (.str (Str.ofString "") u2) (.bytes bs.toArray u3) p) → Fr h₀ L h' m → News h₀ L h' (scN w.params x dx fa t1 t2 t3 t4 tx tt ((pre ++ [88, 39]).length + (StrLaws.dbl 39 (hexL bs)).length + 1 : Int) te' gv (vs ++ [.ref wd]) (k + 1) rest') → Q .none { s with heap := h', toks := tk' }) :
    wpAny (model PySem.Challenge.rw_pb0448_01.row.prog w) (ktrTop dp un gd cn cs L a ccd cl outer) (call (.ref 224) [.ref x, .str ⟨#[88]⟩ ts]) Q E s := by
  subst hN
  obtain ⟨o1, o2, o3, o4, o5⟩ := ho
  revert X; k_fill; intro X
  refine wpAny_call ?_
  k_dflt (refine' Mine.code_defL ?k1 ?k2 ?k3 ?k4 ?k5 ?kA ?kF ?kK ?k6 ?k7 ?k8 ?k9 ?kB ?_ ?c2 ?c3 ?c4 ?c5; (case kA => exact rfl); (case kF => exact rfl); (case kK => assumption); (case k1 => k_asm); (case k2 => k_asm); (case k3 => k_asm); (case k4 => k_asm); (case k5 => k_asm); (case k6 => k_is); (case k7 => k_is); (case k8 => ktr_room); (case k9 => exact BindsTo.of_eq rfl); (case c5 => decide); (case kB => exact locs rfl); (case c2 => exact rfl); (case c3 => exact rfl); (case c4 => exact rfl); k_whole; intro g' L' h' FG' F' N' B' X' T' hlt'; (try dsimp only); (try k_lift B'); (try k_fold))
  k_with_none
  have hx9 : (Builtin.Str.occurrences (Str.ofString "xX") ⟨#[88]⟩ 0 (Str.ofString "xX").length 1).isEmpty = false := by decide +kernel
  k_with "exec While BoolOp cons nil" => (exfalso; first
    | (rename (Builtin.Str.occurrences (Str.ofString "xX") _ _ _ _).isEmpty = true => hq9; rw [hx9] at hq9; exact absurd hq9 (by decide))
    | (rename (Txt.slice _ _ _ == _) = false => hq9; rw [hq] at hq9; exact absurd hq9 (by decide +kernel)))
  k_with "call ref" => (k_here; (with_reducible show wpAny _ _ (call (Value.ref 245) _) _ _ _); k_dflt (refine' Mine.blob_use ?k1z245 ?k2z245 ?k3z245 ?k4z245 ?k5z245 ?k6z245 ?k7z245 ?k8z245 ?vz245 ?oz245 ?Lz245 ?pz245 ?hz245 ?zz245 ?zvz245 ?_; (first | (case k4z245 | vz245 => k_extra "v0") | (case k4z245 | vz245 => k_extra "v1") | (case k4z245 | vz245 => k_extra "v2") | (case k4z245 | vz245 => k_extra "v3")); (case Lz245 => assumption); (case pz245 => first | assumption | omega); (case hz245 => assumption); (case zz245 | zvz245 => omega); (case k1z245 | k2z245 | k3z245 | k5z245 => k_asm); (case k6z245 => k_extra "r"); (case k7z245 => ktr_room); (case k8z245 => ktr_units); (case oz245 => k_extra "o5"); k_whole); intro wdz245' tez245' restz245' hz245' tkz245' hoz245' hsz245' hwz245' Fz245' Nz245'; (obtain ⟨o1z245', o2z245', o3z245', o4z245', o5z245'⟩ := hoz245'); (obtain ⟨u1z245', u2z245', u3z245', hwz245'⟩ := hwz245'); (try dsimp only [Mine.scN] at Nz245'))
  k_steps
  all_goals (
    refine hret ?_ ?_ ?_ (by assumption) (by assumption)
    · refine ⟨?_, ?_, ?_, ?_, ?_⟩ <;> assumption
    · assumption
    · exact ⟨_, _, _, by assumption⟩)
def MarkPair (pr : Str) : Prop := (∃ d, 48 ≤ d ∧ d ≤ 57 ∧ pr = ⟨#[45, d]⟩) ∨ pr = ⟨#[44, 32]⟩
theorem markNe {pr y : Str} (h : MarkPair pr) (h1 : (∀ d, 48 ≤ d → d ≤ 57 → y ≠ ⟨#[45, d]⟩) ∧ y ≠ ⟨#[44, 32]⟩) : (pr == y) = false := by
  rcases h with ⟨d, a, b, rfl⟩ | rfl
  · exact beq_eq_false_iff_ne.mpr fun e => h1.1 d a b e.symm
  · exact beq_eq_false_iff_ne.mpr fun e => h1.2 e.symm
theorem mark_dd {pr : Str} (h : MarkPair pr) : (pr == Str.ofString "--") = false := markNe h ⟨fun d a b e => by
  have e2 : (#[45, 45] : Array Nat) = #[45, d] := congrArg Str.cps (show (⟨#[45, 45]⟩ : Str) = ⟨#[45, d]⟩ from e)
  have e3 := congrArg (fun (z : Array Nat) => z[1]?) e2
  simp at e3
  omega, by decide +kernel⟩
theorem mark_ne0 {pr y : Str} (h : MarkPair pr) (h1 : y.cps.toList.head? ≠ some 45 ∧ y.cps.toList.head? ≠ some 44) : (pr == y) = false := markNe h ⟨fun d _ _ e => h1.1 (by rw [e]; rfl), fun e => h1.2 (by rw [e]; rfl)⟩
theorem in_pairs {prog : Program} {w : World} {A : Around} {E : Value → Shared → Prop} {s : Shared} {K : Frag} {h₀ : Heap} {L a : Addr} {m : Str → Option Value} {l : List Value} {ss : List Str} {dd : Option Addr} {sl : Array (Option Value)} {n : Nat} {x : Str} {t : Tok} {Q : Value → Shared → Prop}
    (F : Fr h₀ L s.heap m) (X₀ : K.In h₀) (hl : K.lookup a = some ⟨.type "tuple", dd, .seq l.toArray n, sl⟩) (hs : StrsAre l ss) (h : Q (.bool (ss.any (· == x))) s) : wpAny (model prog w) A (compareOp .In (.str x t) (.ref a)) Q E s :=
  in_tuple_strs (tupK (X₀.keeps F.keep) hl) hs h
theorem mark_use {w : World} {mean : ExcName → Option Value} {mg mb : Str → Option Value}
  {dp un : Nat} {gd : Option (List Code)} {cn : Str} {cs : Scope} {a : Addr} {ccd : Value} {cl : List (Str × Addr)} {outer : List Env} {A₀ : Around} {base h₀ : Heap} {L : Addr} {m : Str → Option Value} {s : Shared} {Q E : Value → Shared → Prop}
  {x dx fa : Addr} {t1 t2 t3 t4 : Tok} {tx : Str} {p : Int} {tt tp : Tok} {gv : Value} {vs : List Value} {k : Nat} {ts : Tok} {c : Nat} {pr : Str} {news rest : List (Addr × Obj)}
  (X : (hd.heap_39 w.params).In h₀) (B : Below A₀ base outer h₀) (F : Fr h₀ L s.heap m) (N : News h₀ L s.heap news)
  (T : Top hd.view_39 (looseW hd.view_39 [Str.ofString "NAME_SIGNS", Str.ofString "LIKE_SIGNS", Str.ofString "GREATEST"]) mean mg mb h₀) (hk : cs.kind = .function) (hd : dp + 60 < recursionLimit) (hu : un + 400 < cLine)
  (hN : news = scN w.params x dx fa t1 t2 t3 t4 tx tt p tp gv vs k rest) (ho : ScOff x dx fa rest) (hc : c = 45 ∨ c = 44) (hpr : Txt.slice tx (some p) (some (p + 2)) = pr) (hz : tx.length ≤ 10000) (hzv : vs.length ≤ 10000) (hp : 0 ≤ p) (hpz : p ≤ 10000)
  (hpp : MarkPair pr)
  (hret : ∀ {wd te' rest' h' tk'}, ScOff x dx fa rest' → (∀ q ∈ rest, q ∈ rest') → (∃ u1 u2, WordIn w.params rest' wd (.str (Str.ofString "sign") u1) (.str ⟨#[c]⟩ u2) .none p) → Fr h₀ L h' m → News h₀ L h' (scN w.params x dx fa t1 t2 t3 t4 tx tt (p + 1) te' gv (vs ++ [.ref wd]) (k + 1) rest') → Q .none { s with heap := h', toks := tk' }) :
    wpAny (model PySem.Challenge.rw_pb0448_01.row.prog w) (ktrTop dp un gd cn cs L a ccd cl outer) (call (.ref 266) [.ref x, .str ⟨#[c]⟩ ts]) Q E s := by
  subst hN
  obtain ⟨o1, o2, o3, o4, o5⟩ := ho
  revert X; k_fill; intro X
  refine wpAny_call ?_
  k_dflt (refine' Mine.code_defL ?k1 ?k2 ?k3 ?k4 ?k5 ?kA ?kF ?kK ?k6 ?k7 ?k8 ?k9 ?kB ?_ ?c2 ?c3 ?c4 ?c5; (case kA => exact rfl); (case kF => exact rfl); (case kK => assumption); (case k1 => k_asm); (case k2 => k_asm); (case k3 => k_asm); (case k4 => k_asm); (case k5 => k_asm); (case k6 => k_is); (case k7 => k_is); (case k8 => ktr_room); (case k9 => exact BindsTo.of_eq rfl); (case c5 => decide); (case kB => exact locs rfl); (case c2 => exact rfl); (case c3 => exact rfl); (case c4 => exact rfl); k_whole; intro g' L' h' FG' F' N' B' X' T' hlt'; (try dsimp only); (try k_lift B'); (try k_fold))
  k_with_none
  subst hpr
  have hm1 := mark_dd hpp
  have hm2 : (Txt.slice tx (some p) (some (p + 2)) == Str.ofString "/*") = false := mark_ne0 hpp (by decide +kernel)
  have hm3 : List.any [Str.ofString "<=", Str.ofString ">=", Str.ofString "<>", Str.ofString "!=", Str.ofString "==", Str.ofString "||", Str.ofString "<<", Str.ofString ">>"] (fun y => y == Txt.slice tx (some p) (some (p + 2))) = false := by
    have hh : ∀ y : Str, (y.cps.toList.head? ≠ some 45 ∧ y.cps.toList.head? ≠ some 44) → (y == Txt.slice tx (some p) (some (p + 2))) = false := fun y h => by rw [Bool.beq_comm]; exact mark_ne0 hpp h
    rw [List.any_eq_false]
    intro y hy
    rw [Bool.not_eq_true]
    refine hh y ?_
    revert y
    decide +kernel
  k_with "compareOp In str ref" => (k_dflt (refine' Mine.in_pairs ?F ?X ?l ?hs ?_; (case F => k_asm); (case X => k_asm); (case l => k_is); (case hs => exact (StrsAre.cons _ _ (StrsAre.cons _ _ (StrsAre.cons _ _ (StrsAre.cons _ _ (StrsAre.cons _ _ (StrsAre.cons _ _ (StrsAre.cons _ _ (StrsAre.cons _ _ StrsAre.nil)))))))))); rw [hm3])
  have hm4 : (Builtin.Str.occurrences (Str.ofString "(),.;+-*/%=<>&|~") ⟨#[c]⟩ 0 (Str.ofString "(),.;+-*/%=<>&|~").length 1).isEmpty = false := by rcases hc with rfl | rfl <;> decide +kernel
  k_with "call ref" => ((with_reducible show wpAny _ _ (call (Value.ref 273) _) _ _ _); exfalso; rename (Builtin.Str.occurrences _ _ _ _ _).isEmpty = true => hq; rw [hm4] at hq; exact absurd hq (by decide))
  k_with "absurd" => (rename (Builtin.Str.occurrences _ _ _ _ _).isEmpty = true => hq; rw [hm4] at hq; exact absurd hq (by decide))
  k_steps
  · exfalso; rename (_ == _) = true => hq; rw [hm1] at hq; exact absurd hq (by decide)
  · exfalso; rename (_ == _) = true => hq; rw [hm1] at hq; exact absurd hq (by decide)
  · exfalso; rename (_ == _) = true => hq; rw [hm2] at hq; exact absurd hq (by decide)
  · exfalso; rename (_ == _) = true => hq; rw [hm2] at hq; exact absurd hq (by decide)
  all_goals (
    refine hret ?_ ?_ ?_ (by assumption) (by assumption)
    · refine ⟨?_, ?_, ?_, ?_, ?_⟩ <;> assumption
    · assumption
    · exact ⟨_, _, by assumption⟩)
section
open PySem PySem.Calls PySem.NumText PySem.W.KIN PyProof.Rows
def digL (m : Nat) : List Nat := (Nat.toDigits 10 m).map Char.toNat
theorem digL_str (m : Nat) : (Str.ofString (toString (m : Int))) = ⟨(digL m).toArray⟩ := PySem.Str.ext' (Array.toList_inj.mp (signs_num m))
theorem digL_all (m : Nat) : AllDigits (digL m) := by
  intro c hc
  obtain ⟨ch, hch, e⟩ := List.mem_map.mp hc
  have r := digit_range (Nat.isDigit_of_mem_toDigits (by decide) (by decide) hch)
  rw [← e]
  exact r
theorem digL_ne (m : Nat) : digL m ≠ [] := by
  intro e
  have h := toDigits_len_ge 10 m
  rw [List.map_eq_nil_iff.mp e] at h
  exact absurd h (by decide)
theorem digL_len {m : Nat} (h : m ≤ 9223372036854775808) : (digL m).length ≤ 19 := by
  show ((Nat.toDigits 10 m).map Char.toNat).length ≤ 19
  rw [List.length_map]
  exact toDigits_len_pow (by decide) (by decide) (by omega)
theorem digL_read {m : Nat} (h : m ≤ 9223372036854775808) : PySem.intText? ⟨(digL m).toArray⟩ = some (m : Int) := by
  have e := intText_digits (x := ⟨(digL m).toArray⟩) (digL_all m) (digL_ne m) (by have := digL_len h; show (digL m).toArray.size ≤ 4300; rw [List.size_toArray]; omega)
  rw [e]
  show some ((digitsVal ((Nat.toDigits 10 m).map Char.toNat) : Nat) : Int) = _
  rw [val_back]
theorem digL_head (m : Nat) : ∃ c r, digL m = c :: r ∧ (0 < m → c ≠ 48) := by
  induction m using Nat.strongRecOn with
  | _ m ih =>
    by_cases h : m < 10
    · refine ⟨(Nat.digitChar m).toNat, [], by unfold digL; rw [Nat.toDigits_of_lt_base h]; rfl, ?_⟩
      have : ∀ d : Nat, d < 10 → 0 < d → (Nat.digitChar d).toNat ≠ 48 := by decide
      exact this m h
    · have hm : m % 10 < 10 := Nat.mod_lt m (by decide)
      have t : Nat.toDigits 10 (m / 10) ++ Nat.toDigits 10 (m % 10) = Nat.toDigits 10 (10 * (m / 10) + m % 10) := Nat.toDigits_append_toDigits (by decide) (by omega) hm
      rw [Nat.div_add_mod] at t
      obtain ⟨c, r, e, hc⟩ := ih (m / 10) (by omega)
      refine ⟨c, r ++ digL (m % 10), ?_, fun _ => hc (by omega)⟩
      unfold digL at e ⊢
      rw [← t, List.map_append, e]
      rfl
theorem digL_strip {m : Nat} (h : 0 < m) : Txt.lstripChars ⟨(digL m).toArray⟩ (Str.ofString "0") = ⟨(digL m).toArray⟩ := by
  obtain ⟨c, r, e, hc⟩ := digL_head m
  rw [e]
  have hg : (Str.ofString "0").cps.contains c = false := by
    have e0 : (Str.ofString "0").cps = #[48] := by decide +kernel
    rw [e0]
    have := hc h
    simp
    omega
  unfold Txt.lstripChars
  rw [PyProof.Rows.stripBy_eq]
  have h0 : stripLo (Str.ofString "0").cps.contains true ⟨(c :: r).toArray⟩ = 0 := by
    show ((c :: r).takeWhile _).length = 0
    rw [List.takeWhile_cons, hg]
    rfl
  rw [h0]
  exact strSub_whole _
theorem strip_zero : Txt.lstripChars ⟨(digL 0).toArray⟩ (Str.ofString "0") = Str.ofString "" := by decide +kernel
/-- what number() reads of the figures of m -/
theorem digL_fig {m : Nat} (h : m ≤ 9223372036854775808) : ∃ fig : Str, Txt.lstripChars ⟨(digL m).toArray⟩ (Str.ofString "0") = fig ∧ fig.length ≤ 20 ∧ ((fig = Str.ofString "" ∧ (m : Int) = 0) ∨ (fig ≠ Str.ofString "" ∧ PySem.intText? fig = some (m : Int))) := by
  rcases Nat.eq_zero_or_pos m with e | e
  · subst e
    exact ⟨_, strip_zero, by decide +kernel, .inl ⟨rfl, rfl⟩⟩
  · refine ⟨_, digL_strip e, ?_, .inr ⟨?_, digL_read h⟩⟩
    · have := digL_len h
      show (digL m).toArray.size ≤ 20
      rw [List.size_toArray]
      omega
    · intro e2
      have e3 := congrArg (fun (z : Str) => z.cps.toList) e2
      exact digL_ne m e3
end
section
open PySem PySem.Calls PyProof.Rows PyProof.V PySem.Spec
inductive DV where
  | none | int (i : Int) | str (x : PySem.Str) | bytes (b : Array UInt8)
def DV.Is : DV → Value → Prop
  | .none, v => v = .none
  | .int i, v => ∃ u, v = .int i u
  | .str x, v => ∃ u, v = .str x u
  | .bytes b, v => ∃ u, v = .bytes b u
inductive Tk where
  | null | num (m : Nat) | neg | comma | txt (y : List Nat) | blob (b : List UInt8) | blank
def Tk.lets : Tk → List Nat
  | .null => [78, 85, 76, 76]
  | .num m => digL m
  | .neg => [45]
  | .comma => [44]
  | .blank => [32]
  | .txt y => 39 :: (StrLaws.dbl 39 y ++ [39])
  | .blob b => 88 :: 39 :: (StrLaws.dbl 39 (hexL b) ++ [39])
def letsOf (l : List Tk) : List Nat := l.flatMap Tk.lets
/-- the end, or a comma -/
def NextOk : List Tk → Prop
  | [] => True
  | .comma :: _ => True
  | _ => False
def Follows : Tk → List Tk → Prop
  | .null, r => NextOk r
  | .num m, r => m ≤ 9223372036854775808 ∧ NextOk r
  | .neg, r => ∃ m r', r = .num m :: r'
  | .comma, r => ∃ r', r = .blank :: r'
  | .txt _, r => NextOk r
  | .blob _, r => NextOk r
  | .blank, _ => True
def Good : List Tk → Prop
  | [] => True
  | t :: r => Follows t r ∧ Good r
def Tk.row : Tk → Option (PySem.Str × PySem.Str × DV)
  | .null => some (Str.ofString "name", Str.ofString "NULL", .str (Str.ofString "NULL"))
  | .num m => some (Str.ofString "number", Str.ofString "", .int m)
  | .neg => some (Str.ofString "sign", ⟨#[45]⟩, .none)
  | .comma => some (Str.ofString "sign", ⟨#[44]⟩, .none)
  | .txt y => some (Str.ofString "text", Str.ofString "", .str ⟨y.toArray⟩)
  | .blob b => some (Str.ofString "blob", Str.ofString "", .bytes b.toArray)
  | .blank => none
abbrev Row := PySem.Str × PySem.Str × DV × Int
def rowAt (t : Tk) (p : Int) : List Row := match t.row with
  | some (a, b, d) => [(a, b, d, p)]
  | none => []
def rowsAt : List Tk → Int → List Row
  | [], _ => []
  | t :: r, p => rowAt t p ++ rowsAt r (p + t.lets.length)
def IsWord (P : Params) (rest : List (Addr × Obj)) (v : Value) (q : Row) : Prop :=
  ∃ wd vv u1 u2, v = .ref wd ∧ q.2.2.1.Is vv ∧ WordIn P rest wd (.str q.1 u1) (.str q.2.1 u2) vv q.2.2.2
inductive WordsAre (P : Params) (rest : List (Addr × Obj)) : List Value → List Row → Prop
  | nil : WordsAre P rest [] []
  | cons {v vs q qs} : IsWord P rest v q → WordsAre P rest vs qs → WordsAre P rest (v :: vs) (q :: qs)
theorem IsWord.mono {P : Params} {rest rest' : List (Addr × Obj)} {v : Value} {q : Row} (h : IsWord P rest v q) (hs : ∀ q ∈ rest, q ∈ rest') : IsWord P rest' v q :=
  let ⟨wd, vv, u1, u2, a, b, c⟩ := h
  ⟨wd, vv, u1, u2, a, b, c.mono hs⟩
theorem WordsAre.mono {P : Params} {rest rest' : List (Addr × Obj)} (hs : ∀ q ∈ rest, q ∈ rest') : ∀ {vs : List Value} {qs : List Row}, WordsAre P rest vs qs → WordsAre P rest' vs qs
  | _, _, .nil => .nil
  | _, _, .cons h r => .cons (h.mono hs) (r.mono hs)
theorem WordsAre.snoc {P : Params} {rest : List (Addr × Obj)} {v : Value} {q : Row} (hv : IsWord P rest v q) : ∀ {vs : List Value} {qs : List Row}, WordsAre P rest vs qs → WordsAre P rest (vs ++ [v]) (qs ++ [q])
  | _, _, .nil => .cons hv .nil
  | _, _, .cons h r => .cons h (r.snoc hv)
theorem letsOf_cons (t : Tk) (r : List Tk) : letsOf (t :: r) = t.lets ++ letsOf r := rfl
theorem lets_ne (t : Tk) : t.lets ≠ [] := by
  cases t <;> simp [Tk.lets, digL_ne]
theorem next_head {r : List Tk} (h : NextOk r) : letsOf r = [] ∨ ∃ z, letsOf r = 44 :: z := by
  match r, h with
  | [], _ => exact .inl rfl
  | .comma :: r', _ => exact .inr ⟨_, rfl⟩
variable {prog : Program} {w : World} {A : Around} {E : Value → Shared → Prop} {s : Shared} {env : Env} {h₀ : Heap} {L : Addr} {x : PySem.Str} {Q : Flow → Shared → Prop}
def WTEnd {σ : Type} (h₀ : Heap) (L : Addr) (m : PySem.Str → Option Value) (x : PySem.Str) (led : σ → List (Addr × Obj)) (P : Nat → σ → Prop) (n : Nat) (s : Shared) (f : Flow) (s₃ : Shared) : Prop :=
  f = .next ∧ ∃ h' tk u nw c' n', s₃ = { s with heap := h', toks := tk } ∧ Fr h₀ L h' (fun y => if y = x then u else m y) ∧ News h₀ L h' nw ∧ (∀ p ∈ led c', p ∈ nw) ∧ n' < n ∧ P n' c'
theorem WTEnd.intro {σ : Type} {h₀ : Heap} {L : Addr} {m : PySem.Str → Option Value} {x : PySem.Str} {led : σ → List (Addr × Obj)} {P : Nat → σ → Prop} {n : Nat} {s : Shared} {h' : Heap} {tk : Nat} {u : Option Value} {nw : List (Addr × Obj)} (c' : σ) (n' : Nat)
    (F : Fr h₀ L h' (fun y => if y = x then u else m y)) (N : News h₀ L h' nw) (hs : ∀ p ∈ led c', p ∈ nw) (hn : n' < n) (hP : P n' c') : WTEnd h₀ L m x led P n s .next { s with heap := h', toks := tk } :=
  ⟨rfl, h', tk, u, nw, c', n', rfl, F, N, hs, hn, hP⟩
/-- a while whose turns store the one name, whatever it holds -/
theorem While_T {σ : Type} {test : PySem.Expr} {body : List Stmt} {pos : Pos} {m : PySem.Str → Option Value} {news : List (Addr × Obj)} (x : PySem.Str) (led : σ → List (Addr × Obj)) (P : Nat → σ → Prop) (c₀ : σ) {n₀ : Nat}
    (F : Fr h₀ L s.heap m) (N : News h₀ L s.heap news) (hs : ∀ p ∈ led c₀, p ∈ news) (hP : P n₀ c₀)
    (turn : ∀ n c u h tk, P n c → Fr h₀ L h (fun y => if y = x then u else m y) → News h₀ L h (led c) →
      wpAny (model prog w) A (isTrue test env (eval test env)) (fun b s₂ =>
        if b = true then wpAny (model prog w) A (execs body env) (WTEnd h₀ L m x led P n s) E s₂ else Q .next s₂) E { s with heap := h, toks := tk })
    (hE : PassesOwn (model prog w) A env E := by passes_own) :
    wpAny (model prog w) A (exec (.While test body [] pos) env) Q E s := by
  have e0 : m = fun y => if y = x then m x else m y := by
    funext y
    by_cases hy : y = x
    · simp [hy]
    · simp [hy]
  refine While_inv (fun n m₁ news₁ => ∃ c u, P n c ∧ m₁ = (fun y => if y = x then u else m y) ∧ ∀ p ∈ led c, p ∈ news₁) F N ⟨c₀, m x, hP, e0, hs⟩ ?_ hE
  rintro n m₁ news₁ h₁ tk₁ F₁ N₁ ⟨c, u, hc, rfl, hl⟩
  refine wpAny_mono (turn n c u h₁ tk₁ hc F₁ (fun p hp => N₁ p (hl p hp))) (fun b s₂ hb => ?_) fun _ _ e => e
  cases b with
  | false => simpa using hb
  | true =>
    simp only [if_true] at hb ⊢
    refine wpAny_mono hb (fun f s₃ hw => ?_) fun _ _ e => e
    obtain ⟨rfl, h', tk, u', nw, c', n', rfl, F', N', hs', hn, hP'⟩ := hw
    exact ⟨rfl, h', tk, _, nw, n', rfl, F', N', hn, c', u', hP', rfl, hs'⟩
end
section
open PySem PyProof.Rows
def figS : Str := Str.ofString "0123456789"
theorem mid_len {tx : Str} {pre mid post : List Nat} {p K : Int} (hL : tx.cps.toList = pre ++ (mid ++ post)) (hp : p = pre.length) (hK : K = p + mid.length) : K ≤ tx.length ∧ K + post.length = tx.length := by
  have h := len_cps tx
  rw [hL] at h
  simp only [List.length_append] at h
  omega
theorem mid_get {tx : Str} {pre mid post : List Nat} {p : Int} (hL : tx.cps.toList = pre ++ (mid ++ post)) (hp : p = pre.length) (j : Int) (h1 : p ≤ j) (h2 : j < p + mid.length) : ∃ c, tx.cps.toList[j.toNat]? = some c ∧ c ∈ mid := by
  have hj : j.toNat - pre.length < mid.length := by omega
  refine ⟨mid[j.toNat - pre.length], ?_, List.getElem_mem _⟩
  rw [hL, List.getElem?_append_right (by omega), List.getElem?_append_left hj, List.getElem?_eq_getElem hj]
theorem mid_in {tx : Str} {pre mid post sg : List Nat} {p K : Int} (hL : tx.cps.toList = pre ++ (mid ++ post)) (hp : p = pre.length) (hK : K = p + mid.length) (hm : ∀ c ∈ mid, c ∈ sg) :
    ∀ j : Int, p ≤ j → j < K → ∃ c, tx.cps.toList[j.toNat]? = some c ∧ c ∈ sg := by
  intro j h1 h2
  obtain ⟨c, a, b⟩ := mid_get hL hp j h1 (by omega)
  exact ⟨c, a, hm c b⟩
theorem mid_stop {tx : Str} {pre mid post : List Nat} {p K : Int} {P : Nat → Prop} (hL : tx.cps.toList = pre ++ (mid ++ post)) (hp : p = pre.length) (hK : K = p + mid.length) (hpost : post = [] ∨ ∃ z, post = 44 :: z) (h44 : P 44) :
    K < tx.length → ∃ c, tx.cps.toList[K.toNat]? = some c ∧ P c := by
  intro h
  rcases hpost with e | ⟨z, e⟩
  · have := (mid_len hL hp hK).2
    rw [e] at this
    simp at this
    omega
  · refine ⟨44, ?_, h44⟩
    rw [hL, e, List.getElem?_append_right (by omega), List.getElem?_append_right (by omega)]
    rw [show K.toNat - pre.length - mid.length = 0 by omega]
    rfl
theorem mid_slice {tx : Str} {pre mid post : List Nat} {p K : Int} (hL : tx.cps.toList = pre ++ (mid ++ post)) (hp : p = pre.length) (hK : K = p + mid.length) : Txt.slice tx (some p) (some K) = ⟨mid.toArray⟩ :=
  slice_mid (pre := pre) (mid := mid) (post := post) (by rw [hL, List.append_assoc]) hp hK
theorem head_item {tx : Str} {pre post : List Nat} {c : Nat} {p : Int} (hL : tx.cps.toList = pre ++ c :: post) (hp : p = pre.length) : Txt.item tx p = ⟨#[c]⟩ := by
  refine item_one (by omega) ?_
  rw [hL, List.getElem?_append_right (by omega), show p.toNat - pre.length = 0 by omega]
  rfl
theorem head_lt {tx : Str} {pre post : List Nat} {c : Nat} {p : Int} (hL : tx.cps.toList = pre ++ c :: post) (hp : p = pre.length) : p < tx.length := by
  have h := len_cps tx
  rw [hL] at h
  simp only [List.length_append, List.length_cons] at h
  omega
/-- what follows behind, as a slice of one sign -/
theorem behind_slice {tx : Str} {pre mid post : List Nat} {p K : Int} (hL : tx.cps.toList = pre ++ (mid ++ post)) (hp : p = pre.length) (hK : K = p + mid.length) (hpost : post = [] ∨ ∃ z, post = 44 :: z) :
    Txt.slice tx (some K) (some (K + 1)) = Str.ofString "" ∨ Txt.slice tx (some K) (some (K + 1)) = ⟨#[44]⟩ := by
  rcases hpost with e | ⟨z, e⟩
  · left
    have := slice_nat tx (a := pre.length + mid.length) (b := pre.length + mid.length + 1) (by omega)
    rw [show ((pre.length + mid.length : Nat) : Int) = K by omega, show ((pre.length + mid.length + 1 : Nat) : Int) = K + 1 by omega] at this
    rw [this, hL, e, List.append_nil, List.drop_of_length_le (by simp), List.take_nil]
    decide +kernel
  · right
    have h0 : tx.cps.toList = (pre ++ mid) ++ [44] ++ z := by rw [hL, e]; simp
    exact slice_mid h0 (by rw [List.length_append]; omega) (by simp)
theorem two_slice {tx : Str} {pre post : List Nat} {a b : Nat} {p : Int} (hL : tx.cps.toList = pre ++ a :: b :: post) (hp : p = pre.length) : Txt.slice tx (some p) (some (p + 2)) = ⟨#[a, b]⟩ :=
  slice_mid (pre := pre) (mid := [a, b]) (post := post) (by rw [hL]; simp) hp (by simp)
theorem dig_sign {c : Nat} (h : 48 ≤ c ∧ c ≤ 57) : (c ∈ (Str.ofString " \t\n\r\x0c").cps.toList ↔ False) ∧ (c ∈ (Str.ofString "abcdefghijklmnopqrstuvwxyzABCDEFGHIJKLMNOPQRSTUVWXYZ_").cps.toList ↔ False) ∧ (c ∈ (Str.ofString "0123456789").cps.toList ↔ True) ∧ ((c : Int) ≤ 127) := by
  have : ∀ c : Nat, c < 58 → 48 ≤ c → ((decide (c ∈ (Str.ofString " \t\n\r\x0c").cps.toList) = false) ∧ (decide (c ∈ (Str.ofString "abcdefghijklmnopqrstuvwxyzABCDEFGHIJKLMNOPQRSTUVWXYZ_").cps.toList) = false) ∧ (decide (c ∈ (Str.ofString "0123456789").cps.toList) = true)) := by decide +kernel
  obtain ⟨a, b, d⟩ := this c (by omega) h.1
  exact ⟨by simpa using a, by simpa using b, by simpa using d, by omega⟩
/-- the figures' two first signs are not 0x -/
theorem no0x {tx : Str} {pre mid post : List Nat} {p : Int} (hL : tx.cps.toList = pre ++ (mid ++ post)) (hp : p = pre.length) (hm : ∀ c ∈ mid, 48 ≤ c ∧ c ≤ 57) (hne : mid ≠ []) (hpost : post = [] ∨ ∃ z, post = 44 :: z) :
    Txt.slice tx (some p) (some (p + 2)) ≠ Str.ofString "0x" ∧ Txt.slice tx (some p) (some (p + 2)) ≠ Str.ofString "0X" := by
  have e1 : Str.ofString "0x" = ⟨#[48, 120]⟩ := by decide +kernel
  have e2 : Str.ofString "0X" = ⟨#[48, 88]⟩ := by decide +kernel
  rw [e1, e2]
  have key : ∀ d : Nat, d = 120 ∨ d = 88 → Txt.slice tx (some p) (some (p + 2)) ≠ ⟨#[48, d]⟩ := by
    intro d hd e
    obtain ⟨c, mid', rfl⟩ : ∃ c r, mid = c :: r := by
      cases mid with
      | nil => exact absurd rfl hne
      | cons c r => exact ⟨c, r, rfl⟩
    have q := slice_nat tx (a := pre.length) (b := pre.length + 2) (by omega)
    rw [show ((pre.length + 2 : Nat) : Int) = p + 2 by omega, show ((pre.length : Nat) : Int) = p by omega] at q
    rw [q, hL, List.drop_left' rfl, show pre.length + 2 - pre.length = 2 by omega] at e
    have e3 := congrArg (fun z : Str => z.cps.toList[1]?) e
    simp only [List.cons_append, List.take_succ_cons] at e3
    cases mid' with
    | nil =>
      rcases hpost with rfl | ⟨z, rfl⟩
      · simp at e3
      · simp at e3; omega
    | cons c' r' =>
      have := hm c' (by simp)
      simp at e3
      omega
  exact ⟨key _ (.inl rfl), key _ (.inr rfl)⟩
theorem next_not39 {r : List Tk} (h : NextOk r) : (letsOf r).head? ≠ some 39 := by
  rcases next_head h with e | ⟨z, e⟩ <;> rw [e] <;> simp
theorem rows_step {t : Tk} {r : List Tk} {p : Int} {a b : Str} {d : DV} {qs all : List Row} (hr : t.row = some (a, b, d)) (h : qs ++ rowsAt (t :: r) p = all) : (qs ++ [(a, b, d, p)]) ++ rowsAt r (p + t.lets.length) = all := by
  rw [← h]
  simp only [rowsAt, rowAt, hr, List.append_assoc]
section
variable {prog : Program} {w : World} {A : Around} {E : Value → Shared → Prop} {s : Shared}
/-- whether one sign is among the signs, told outright -/
theorem in_lit {c : Nat} {sg : Str} {t u : Tok} {Q : Value → Shared → Prop} (b : Bool) (hc : decide (c ∈ sg.cps.toList) = b) (h : Q (.bool b) s) : wpAny (model prog w) A (compareOp .In (.str ⟨#[c]⟩ t) (.str sg u)) Q E s :=
  in_str (by rw [in_one, hc, Bool.not_not]; exact h)
end

abbrev nameS : Str := Str.ofString "abcdefghijklmnopqrstuvwxyzABCDEFGHIJKLMNOPQRSTUVWXYZ_0123456789$"
theorem null_facts {tx : Str} {pre : List Nat} {r : List Tk} {p : Int} (hL : tx.cps.toList = pre ++ letsOf (.null :: r)) (hp : p = pre.length) (hf : NextOk r) :
    Txt.item tx p = ⟨#[78]⟩ ∧ p < tx.length ∧ p + 4 ≤ tx.length ∧ (∀ j : Int, p ≤ j → j < p + 4 → ∃ c, tx.cps.toList[j.toNat]? = some c ∧ c ∈ (Str.ofString "abcdefghijklmnopqrstuvwxyzABCDEFGHIJKLMNOPQRSTUVWXYZ_0123456789$").cps.toList) ∧
      (p + 4 < tx.length → ∃ c, tx.cps.toList[(p + 4).toNat]? = some c ∧ c = 44) ∧ Txt.slice tx (some p) (some (p + 4)) = Str.ofString "NULL" := by
  have h : tx.cps.toList = pre ++ ([78, 85, 76, 76] ++ letsOf r) := hL
  have hK : p + 4 = p + (([78, 85, 76, 76] : List Nat).length : Int) := rfl
  refine ⟨head_item hL hp, head_lt hL hp, (mid_len h hp hK).1, mid_in h hp hK (by decide +kernel), mid_stop h hp hK (next_head hf) rfl, (mid_slice h hp hK).trans (by decide +kernel)⟩
theorem num_facts {tx : Str} {pre : List Nat} {r : List Tk} {p : Int} {mm : Nat} (hL : tx.cps.toList = pre ++ letsOf (.num mm :: r)) (hp : p = pre.length) (hf : mm ≤ 9223372036854775808 ∧ NextOk r) :
    ∃ (K : Int) (c : Nat) (fig : Str), K = p + (digL mm).length ∧ p < K ∧ K ≤ tx.length ∧ p < tx.length ∧ Txt.item tx p = ⟨#[c]⟩ ∧
      decide (c ∈ (Str.ofString " \t\n\r\x0c").cps.toList) = false ∧ decide (c ∈ (Str.ofString "abcdefghijklmnopqrstuvwxyzABCDEFGHIJKLMNOPQRSTUVWXYZ_").cps.toList) = false ∧ decide (c ∈ (Str.ofString "0123456789").cps.toList) = true ∧ ((c : Nat) : Int) ≤ 127 ∧
      (∀ j : Int, p ≤ j → j < K → ∃ c, tx.cps.toList[j.toNat]? = some c ∧ c ∈ (Str.ofString "0123456789").cps.toList) ∧ (K < tx.length → ∃ c, tx.cps.toList[K.toNat]? = some c ∧ c ∉ (Str.ofString "0123456789").cps.toList) ∧
      Txt.lstripChars (Txt.slice tx (some p) (some K)) (Str.ofString "0") = fig ∧ fig.length ≤ 20 ∧ ((fig = Str.ofString "" ∧ (mm : Int) = 0) ∨ (fig ≠ Str.ofString "" ∧ PySem.intText? fig = some (mm : Int))) ∧ (mm : Int) ≤ 9223372036854775808 ∧
      (Txt.slice tx (some p) (some (p + 2)) ≠ Str.ofString "0x" ∧ Txt.slice tx (some p) (some (p + 2)) ≠ Str.ofString "0X") ∧ (Txt.slice tx (some K) (some (K + 1)) = Str.ofString "" ∨ Txt.slice tx (some K) (some (K + 1)) = ⟨#[44]⟩) := by
  have h : tx.cps.toList = pre ++ (digL mm ++ letsOf r) := hL
  obtain ⟨fig, f1, f2, f3⟩ := digL_fig hf.1
  have hnx := next_head hf.2
  have had : ∀ c ∈ digL mm, 48 ≤ c ∧ c ≤ 57 := fun c hc => digL_all mm c hc
  obtain ⟨c, z, e, _⟩ := digL_head mm
  have hc := had c (by rw [e]; exact .head _)
  have h2 : tx.cps.toList = pre ++ c :: (z ++ letsOf r) := by rw [h, e]; rfl
  obtain ⟨s1, s2, s3, s4⟩ := dig_sign hc
  have hl : 1 ≤ (digL mm).length := by rw [e]; exact Nat.le_add_left _ _
  refine ⟨p + (digL mm).length, c, fig, rfl, by omega, (mid_len h hp rfl).1, head_lt h2 hp, head_item h2 hp, by simpa using s1, by simpa using s2, by simpa using s3, ?_, mid_in h hp rfl ?_, mid_stop h hp rfl hnx ?_, ?_, f2, f3, by omega, no0x h hp had (digL_ne mm) hnx, behind_slice h hp rfl hnx⟩
  · exact s4
  · intro d hd
    have := (dig_sign (had d hd)).2.2.1
    exact this.mpr trivial
  · decide +kernel
  · rw [mid_slice h hp rfl]; exact f1
theorem neg_facts {tx : Str} {pre : List Nat} {r : List Tk} {p : Int} (hL : tx.cps.toList = pre ++ letsOf (.neg :: r)) (hp : p = pre.length) (hf : ∃ m r', r = .num m :: r') :
    Txt.item tx p = ⟨#[45]⟩ ∧ p < tx.length ∧ MarkPair (Txt.slice tx (some p) (some (p + 2))) := by
  obtain ⟨mm, r', rfl⟩ := hf
  obtain ⟨c, z, e, _⟩ := digL_head mm
  have hc := digL_all mm c (by rw [e]; exact .head _)
  have h2 : tx.cps.toList = pre ++ 45 :: c :: (z ++ letsOf r') := by
    rw [hL, letsOf_cons, letsOf_cons]; show pre ++ 45 :: (digL mm ++ _) = _; rw [e]; rfl
  exact ⟨head_item hL hp, head_lt hL hp, .inl ⟨c, hc.1, hc.2, two_slice h2 hp⟩⟩
theorem comma_facts {tx : Str} {pre : List Nat} {r : List Tk} {p : Int} (hL : tx.cps.toList = pre ++ letsOf (.comma :: r)) (hp : p = pre.length) (hf : ∃ r', r = .blank :: r') :
    Txt.item tx p = ⟨#[44]⟩ ∧ p < tx.length ∧ MarkPair (Txt.slice tx (some p) (some (p + 2))) := by
  obtain ⟨r', rfl⟩ := hf
  exact ⟨head_item hL hp, head_lt hL hp, .inr (two_slice hL hp)⟩
theorem blank_facts {tx : Str} {pre : List Nat} {r : List Tk} {p : Int} (hL : tx.cps.toList = pre ++ letsOf (.blank :: r)) (hp : p = pre.length) :
    Txt.item tx p = ⟨#[32]⟩ ∧ p < tx.length := ⟨head_item hL hp, head_lt hL hp⟩
theorem txt_facts {tx : Str} {pre : List Nat} {r : List Tk} {p : Int} {y : List Nat} (hL : tx.cps.toList = pre ++ letsOf (.txt y :: r)) (hp : p = pre.length) (hf : NextOk r) :
    Txt.item tx p = ⟨#[39]⟩ ∧ p < tx.length ∧ tx.cps.toList = (pre ++ [39]) ++ StrLaws.dbl 39 y ++ 39 :: letsOf r ∧ (letsOf r).head? ≠ some 39 := by
  refine ⟨head_item hL hp, head_lt hL hp, ?_, next_not39 hf⟩
  rw [hL, letsOf_cons]; simp [Tk.lets]
theorem blob_facts {tx : Str} {pre : List Nat} {r : List Tk} {p : Int} {b : List UInt8} (hL : tx.cps.toList = pre ++ letsOf (.blob b :: r)) (hp : p = pre.length) (hf : NextOk r) :
    Txt.item tx p = ⟨#[88]⟩ ∧ p < tx.length ∧ tx.cps.toList = (pre ++ [88, 39]) ++ StrLaws.dbl 39 (hexL b) ++ 39 :: letsOf r ∧ (letsOf r).head? ≠ some 39 ∧ Txt.slice tx (some (p + 1)) (some (p + 1 + 1)) = Str.ofString "'" := by
  have h2 : tx.cps.toList = (pre ++ [88, 39]) ++ StrLaws.dbl 39 (hexL b) ++ 39 :: letsOf r := by rw [hL, letsOf_cons]; simp [Tk.lets]
  refine ⟨head_item hL hp, head_lt hL hp, h2, next_not39 hf, ?_⟩
  have h3 : tx.cps.toList = (pre ++ [88]) ++ [39] ++ (StrLaws.dbl 39 (hexL b) ++ 39 :: letsOf r) := by rw [h2]; simp
  rw [slice_mid h3 (a := p + 1) (b := p + 1 + 1) (by simp; omega) (by simp)]
  decide +kernel
theorem nil_facts {tx : Str} {pre : List Nat} {p : Int} (hL : tx.cps.toList = pre ++ letsOf []) (hp : p = pre.length) : p = tx.length := by
  have h := len_cps tx
  rw [hL] at h
  simp only [List.length_append, letsOf, List.flatMap_nil, List.length_nil] at h
  omega
structure RS where
  todo : List Tk
  p : Int
  tp : Tok
  vs : List Value
  k : Nat
  rest : List (Addr × Obj)
def RunP (P : Params) (x dx fa : Addr) (tx : Str) (toks : List Tk) (rest : List (Addr × Obj)) (n : Nat) (c : RS) : Prop :=
  n = c.todo.length ∧ (∃ pre, tx.cps.toList = pre ++ letsOf c.todo ∧ c.p = pre.length) ∧ Good c.todo ∧ ScOff x dx fa c.rest ∧ (∀ q ∈ rest, q ∈ c.rest) ∧
  (∃ qs, WordsAre P c.rest c.vs qs ∧ qs ++ rowsAt c.todo c.p = rowsAt toks 0) ∧ (c.vs.length : Int) ≤ c.p
theorem lets_pos (t : Tk) : 1 ≤ t.lets.length := by
  cases h : t.lets with
  | nil => exact absurd h (lets_ne t)
  | cons a r => exact Nat.le_add_left _ _
theorem RunP.next {P : Params} {x dx fa : Addr} {tx : Str} {toks r : List Tk} {rest rest8 rest' : List (Addr × Obj)} {n k k' : Nat} {t : Tk} {p K : Int} {tp te : Tok} {vs : List Value} {a b : Str} {d : DV} {wd : Addr}
    (h : RunP P x dx fa tx toks rest n ⟨t :: r, p, tp, vs, k, rest8⟩) (hr : t.row = some (a, b, d)) (hK : K = p + t.lets.length) (ho : ScOff x dx fa rest') (hs : ∀ q ∈ rest8, q ∈ rest') (hw : IsWord P rest' (.ref wd) (a, b, d, p)) :
    n - 1 < n ∧ RunP P x dx fa tx toks rest (n - 1) ⟨r, K, te, vs ++ [.ref wd], k', rest'⟩ := by
  obtain ⟨hn, ⟨pre, hL, hp⟩, hG, _, hsub, ⟨qs, hW, hR⟩, hv⟩ := h
  dsimp only at *
  have hl := lets_pos t
  rw [List.length_cons] at hn
  refine ⟨by omega, by dsimp only; omega, ⟨pre ++ t.lets, ?_, ?_⟩, hG.2, ho, fun q hq => hs q (hsub q hq), ⟨qs ++ [(a, b, d, p)], (hW.mono hs).snoc hw, ?_⟩, ?_⟩
  · rw [hL, letsOf_cons, List.append_assoc]
  · dsimp only; rw [List.length_append]; omega
  · dsimp only; rw [hK]; exact rows_step hr hR
  · dsimp only; rw [List.length_append, List.length_singleton]; omega
theorem RunP.skip {P : Params} {x dx fa : Addr} {tx : Str} {toks r : List Tk} {rest rest8 : List (Addr × Obj)} {n k : Nat} {p : Int} {tp te : Tok} {vs : List Value}
    (h : RunP P x dx fa tx toks rest n ⟨.blank :: r, p, tp, vs, k, rest8⟩) : n - 1 < n ∧ RunP P x dx fa tx toks rest (n - 1) ⟨r, p + 1, te, vs, k, rest8⟩ := by
  obtain ⟨hn, ⟨pre, hL, hp⟩, hG, ho, hsub, ⟨qs, hW, hR⟩, hv⟩ := h
  dsimp only at *
  rw [List.length_cons] at hn
  refine ⟨by omega, by dsimp only; omega, ⟨pre ++ [32], ?_, ?_⟩, hG.2, ho, hsub, ⟨qs, hW, hR⟩, by dsimp only; omega⟩
  · rw [hL, letsOf_cons, List.append_assoc]; rfl
  · dsimp only; rw [List.length_append]; simp; omega
theorem WTEnd.intro2 {σ : Type} {h₀ : Heap} {L : Addr} {m : PySem.Str → Option Value} {x : PySem.Str} {led : σ → List (Addr × Obj)} {P : Nat → σ → Prop} {n : Nat} {s : Shared} {h' : Heap} {tk : Nat} {u u8 : Option Value} {nw : List (Addr × Obj)} (c' : σ) (n' : Nat)
    (F : Fr h₀ L h' (fun y => if y = x then u else if y = x then u8 else m y)) (N : News h₀ L h' nw) (hs : ∀ p ∈ led c', p ∈ nw) (hP : n' < n ∧ P n' c') : WTEnd h₀ L m x led P n s .next { s with heap := h', toks := tk } := by
  have e : (fun y => if y = x then u else if y = x then u8 else m y) = fun y => if y = x then u else m y := by
    funext y
    by_cases hy : y = x <;> simp [hy]
  rw [e] at F
  exact WTEnd.intro c' n' F N hs hP.1 hP.2
end
theorem lit127 (c : Nat) (h : c ≤ 127) : (((⟨#[c]⟩ : Str).cps.getD 0 0 : Nat) : Int) ≤ 127 := by
  show ((c : Nat) : Int) ≤ 127
  omega
theorem lit78 : Str.ofString "N" = ⟨#[78]⟩ := by decide +kernel
theorem lit88 : Str.ofString "X" = ⟨#[88]⟩ := by decide +kernel
theorem lit39 : Str.ofString "'" = ⟨#[39]⟩ := by decide +kernel
theorem lit45 : Str.ofString "-" = ⟨#[45]⟩ := by decide +kernel
theorem lit44 : Str.ofString "," = ⟨#[44]⟩ := by decide +kernel
theorem in_occ {prog : Program} {w : World} {A : Around} {E : Value → Shared → Prop} {s : Shared} {x y : Str} {t u : Tok} {Q : Value → Shared → Prop} (b : Bool) (hc : (!(Builtin.Str.occurrences x y 0 x.length 1).isEmpty) = b) (h : Q (.bool b) s) : wpAny (model prog w) A (compareOp .In (.str y u) (.str x t)) Q E s :=
  in_str (by rw [hc]; exact h)
theorem run_start {P : Params} {x dx fa : Addr} {tx : Str} {toks : List Tk} {rest : List (Addr × Obj)} {k : Nat} {tp : Tok} (hT : tx.cps.toList = letsOf toks) (hG : Good toks) (ho : ScOff x dx fa rest) : RunP P x dx fa tx toks rest toks.length ⟨toks, 0, tp, [], k, rest⟩ :=
  ⟨rfl, ⟨[], hT, rfl⟩, hG, ho, fun _ h => h, ⟨[], .nil, rfl⟩, Int.le_refl _⟩
theorem run_use {w : World} {mean : ExcName → Option Value} {mg mb : Str → Option Value}
  {dp un : Nat} {gd : Option (List Code)} {cn : Str} {cs : Scope} {a : Addr} {ccd : Value} {cl : List (Str × Addr)} {outer : List Env} {A₀ : Around} {base h₀ : Heap} {L : Addr} {m : Str → Option Value} {s : Shared} {Q E : Value → Shared → Prop}
  {x dx fa : Addr} {t1 t2 t3 t4 : Tok} {tx : Str} {p : Int} {tt tp : Tok} {gv : Value} {vs : List Value} {k : Nat} {toks : List Tk} {news rest : List (Addr × Obj)}
  (X : (hd.heap_39 w.params).In h₀) (B : Below A₀ base outer h₀) (F : Fr h₀ L s.heap m) (N : News h₀ L s.heap news)
  (T : Top hd.view_39 (looseW hd.view_39 [Str.ofString "NAME_SIGNS", Str.ofString "LIKE_SIGNS", Str.ofString "GREATEST"]) mean mg mb h₀) (hk : cs.kind = .function) (hd : dp + 100 < recursionLimit) (hu : un + 800 < cLine)
  (hN : news = scN w.params x dx fa t1 t2 t3 t4 tx tt p tp gv vs k rest) (ho : ScOff x dx fa rest) (hT : tx.cps.toList = letsOf toks) (hG : Good toks) (hz : tx.length ≤ 10000) (hp : p = 0) (hvs : vs = [])
  (hret : ∀ {vs' k' rest' p' tp' h' tk'}, ScOff x dx fa rest' → (∀ q ∈ rest, q ∈ rest') → WordsAre w.params rest' vs' (rowsAt toks 0 ++ [(Str.ofString "end", Str.ofString "", .none, (tx.length : Int))]) → Fr h₀ L h' m → News h₀ L h' (scN w.params x dx fa t1 t2 t3 t4 tx tt p' tp' gv vs' k' rest') → Q (.ref fa) { s with heap := h', toks := tk' }) :
    wpAny (model PySem.Challenge.rw_pb0448_01.row.prog w) (ktrTop dp un gd cn cs L a ccd cl outer) (call (.ref 210) [.ref x]) Q E s := by
  subst hN
  subst hp
  subst hvs
  have hoR := ho
  obtain ⟨o1, o2, o3, o4, o5⟩ := ho
  revert X; k_fill; intro X
  refine wpAny_call ?_
  k_dflt (refine' Mine.code_defL ?k1 ?k2 ?k3 ?k4 ?k5 ?kA ?kF ?kK ?k6 ?k7 ?k8 ?k9 ?kB ?_ ?c2 ?c3 ?c4 ?c5; (case kA => exact rfl); (case kF => exact rfl); (case kK => assumption); (case k1 => k_asm); (case k2 => k_asm); (case k3 => k_asm); (case k4 => k_asm); (case k5 => k_asm); (case k6 => k_is); (case k7 => k_is); (case k8 => ktr_room); (case k9 => exact BindsTo.of_eq rfl); (case c5 => decide); (case kB => exact locs rfl); (case c2 => exact rfl); (case c3 => exact rfl); (case c4 => exact rfl); k_whole; intro g' L' h' FG' F' N' B' X' T' hlt'; (try dsimp only); (try k_lift B'); (try k_fold))
  k_with_none
  k_with "subscriptTail" => ((with_reducible show wpAny _ _ (subscriptTail _ _ (Value.str _ _) (Value.int _ _)) _ _ _); refine item_str ?f9 ?a9 ?b9 ?_; (case f9 => (refine fitsSsize_of (N := 9223372036854775808) ?_ ?_ (Int.le_refl _) <;> omega)); (case a9 => omega); (case b9 => omega); intro t9; (rw [hit9]))
  k_with "compareOp In str str" => ((with_reducible show wpAny _ _ (compareOp _ (Value.str _ _) (Value.str _ _)) _ _ _); first | (refine in_lit true ?q9 ?_; (case q9 => assumption)) | (refine in_lit false ?q9 ?_; (case q9 => assumption)) | (refine in_occ true ?q9 ?_; (case q9 => decide +kernel)) | (refine in_occ false ?q9 ?_; (case q9 => decide +kernel)))
  k_with "call ref" => ((with_reducible show wpAny _ _ (call (Value.ref _) [_, Value.str (Str.ofString _) _]) _ _ _); first | rw [lit78] | rw [lit88] | rw [lit39] | rw [lit45] | rw [lit44])
  k_with "exec While Compare cons nil" => (k_dflt (refine' Mine.While_T (Str.ofString "sign") (fun (c : RS) => scN w.params x dx fa t1 t2 t3 t4 tx tt c.p c.tp gv c.vs c.k c.rest) (RunP w.params x dx fa tx toks rest) ⟨toks, 0, tp, [], k, rest⟩ (n₀ := toks.length) (by k_asm) (by k_asm) (fun _ h => h) (run_start hT hG hoR) (fun n8 c8 u8 h8 tk8 hP8 F8' N8' => ?turn) ?pass); (case' turn => (obtain ⟨todo8, p8, tp8, vs8, k8, rest8⟩ := c8; (dsimp only at N8' F8'); have hP9 := hP8; obtain ⟨hn8, ⟨pre8, hL8, hp8⟩, hG8, ho8, hsub8, ⟨qs8, hW8, hR8⟩, hv8⟩ := hP8; (dsimp only at hn8 hL8 hp8 hG8 ho8 hsub8 hW8 hR8 hv8); obtain ⟨o1, o2, o3, o4, o5⟩ := ho8; rcases todo8 with _ | ⟨t8, r8⟩; (case' nil => (have hpl9 := nil_facts hL8 hp8)); (case' cons => (have hp09 : (0 : Int) ≤ p8 := (hp8 ▸ Int.natCast_nonneg _); obtain ⟨hf8, hg8⟩ := hG8; cases t8; (case' null => (obtain ⟨hit9, hlt9, hK9, hin9, hst9, hw9⟩ := null_facts hL8 hp8 hf8)); (case' num => (obtain ⟨K9, c9, fig9, hKe9, hpK9, hK9, hlt9, hit9, hb9, hl9, hd9, hg9, hin9, hst9, hfi9, hf20, hnn9, hn09, hx09, hbh9⟩ := num_facts hL8 hp8 hf8)); (case' neg => (obtain ⟨hit9, hlt9, hmp9⟩ := neg_facts hL8 hp8 hf8; have hg9 : (((⟨#[45]⟩ : Str).cps.getD 0 0 : Nat) : Int) ≤ 127 := lit127 45 (Nat.le_of_ble_eq_true rfl))); (case' comma => (obtain ⟨hit9, hlt9, hmp9⟩ := comma_facts hL8 hp8 hf8; have hg9 : (((⟨#[44]⟩ : Str).cps.getD 0 0 : Nat) : Int) ≤ 127 := lit127 44 (Nat.le_of_ble_eq_true rfl))); (case' txt => (obtain ⟨hit9, hlt9, hLL9, hpo9⟩ := txt_facts hL8 hp8 hf8; have hg9 : (((⟨#[39]⟩ : Str).cps.getD 0 0 : Nat) : Int) ≤ 127 := lit127 39 (Nat.le_of_ble_eq_true rfl))); (case' blob => (obtain ⟨hit9, hlt9, hLL9, hpo9, hq9⟩ := blob_facts hL8 hp8 hf8)); (case' blank => (obtain ⟨hit9, hlt9⟩ := blank_facts hL8 hp8)))))))
  k_with "call ref" => (k_here; (with_reducible show wpAny _ _ (call (Value.ref 252) _) _ _ _); k_dflt (refine' Mine.number_use ?k1z252 ?k2z252 ?k3z252 ?k4z252 ?k5z252 ?k6z252 ?k7z252 ?k8z252 ?vz252 ?oz252 ?pz252 ?pKz252 ?Kz252 ?zz252 ?zvz252 ?iz252 ?sz252 ?fz252 ?f20z252 ?nz252 ?n0z252 ?x0z252 ?bhz252 ?_; (first | (case k4z252 | vz252 => k_extra "v0") | (case k4z252 | vz252 => k_extra "v1") | (case k4z252 | vz252 => k_extra "v2") | (case k4z252 | vz252 => k_extra "v3")); (case iz252 | sz252 => assumption); (case pz252 | pKz252 | Kz252 | zz252 | zvz252 => omega); (case fz252 | f20z252 | nz252 | n0z252 | x0z252 | bhz252 => assumption); (case k1z252 | k2z252 | k3z252 | k5z252 => k_asm); (case k6z252 => k_extra "r"); (case k7z252 => ktr_room); (case k8z252 => ktr_units); (case oz252 => k_extra "o5"); k_whole); intro wdz252' tez252' restz252' hz252' tkz252' hoz252' hsz252' hwz252' Fz252' Nz252'; (obtain ⟨o1z252', o2z252', o3z252', o4z252', o5z252'⟩ := hoz252'); (obtain ⟨u1z252', u2z252', u3z252', hwz252'⟩ := hwz252'); (try dsimp only [Mine.scN] at Nz252'))
  k_with "call ref" => (k_here; (with_reducible show wpAny _ _ (call (Value.ref 238) _) _ _ _); k_dflt (refine' Mine.quoted_use ?k1z238 ?k2z238 ?k3z238 ?k4z238 ?k5z238 ?k6z238 ?k7z238 ?k8z238 ?vz238 ?oz238 ?qz238 ?Lz238 ?pz238 ?hz238 ?zz238 ?zvz238 ?_; (first | (case k4z238 | vz238 => k_extra "v0") | (case k4z238 | vz238 => k_extra "v1") | (case k4z238 | vz238 => k_extra "v2") | (case k4z238 | vz238 => k_extra "v3")); (case qz238 => first | rfl | assumption | decide +kernel); (case Lz238 => assumption); (case pz238 => first | assumption | omega); (case hz238 => assumption); (case zz238 | zvz238 => omega); (case k1z238 | k2z238 | k3z238 | k5z238 => k_asm); (case k6z238 => k_extra "r"); (case k7z238 => ktr_room); (case k8z238 => ktr_units); (case oz238 => k_extra "o5"); k_whole); intro wdz238' tez238' restz238' hz238' tkz238' hoz238' hsz238' hwz238' Fz238' Nz238'; (obtain ⟨o1z238', o2z238', o3z238', o4z238', o5z238'⟩ := hoz238'); (obtain ⟨u1z238', u2z238', u3z238', hwz238'⟩ := hwz238'); (try dsimp only [Mine.scN] at Nz238'))
  k_with "call ref" => (k_here; (with_reducible show wpAny _ _ (call (Value.ref 224) [_, Value.str ⟨#[78]⟩ _]) _ _ _); k_dflt (refine' Mine.bareN_use ?k1zN ?k2zN ?k3zN ?k4zN ?k5zN ?k6zN ?k7zN ?k8zN ?vzN ?ozN ?pzN ?pKzN ?KzN ?zzN ?zvzN ?izN ?szN ?wzN ?_; (first | (case k4zN | vzN => k_extra "v0") | (case k4zN | vzN => k_extra "v1") | (case k4zN | vzN => k_extra "v2") | (case k4zN | vzN => k_extra "v3")); (case izN | szN => assumption); (case pzN | pKzN | KzN | zzN | zvzN => omega); (case wzN => assumption); (case k1zN | k2zN | k3zN | k5zN => k_asm); (case k6zN => k_extra "r"); (case k7zN => ktr_room); (case k8zN => ktr_units); (case ozN => k_extra "o5"); k_whole); intro wdzN' tezN' restzN' hzN' tkzN' hozN' hszN' hwzN' FzN' NzN'; (obtain ⟨o1zN', o2zN', o3zN', o4zN', o5zN'⟩ := hozN'); (obtain ⟨u1zN', u2zN', u3zN', hwzN'⟩ := hwzN'); (try dsimp only [Mine.scN] at NzN'))
  k_with "call ref" => (k_here; (with_reducible show wpAny _ _ (call (Value.ref 224) [_, Value.str ⟨#[88]⟩ _]) _ _ _); k_dflt (refine' Mine.bareX_use ?k1zX ?k2zX ?k3zX ?k4zX ?k5zX ?k6zX ?k7zX ?k8zX ?vzX ?ozX ?LzX ?pzX ?hzX ?zzX ?zvzX ?qzX ?_; (first | (case k4zX | vzX => k_extra "v0") | (case k4zX | vzX => k_extra "v1") | (case k4zX | vzX => k_extra "v2") | (case k4zX | vzX => k_extra "v3")); (case LzX => assumption); (case pzX => first | assumption | omega); (case hzX => assumption); (case zzX | zvzX => omega); (case qzX => assumption); (case k1zX | k2zX | k3zX | k5zX => k_asm); (case k6zX => k_extra "r"); (case k7zX => ktr_room); (case k8zX => ktr_units); (case ozX => k_extra "o5"); k_whole); intro wdzX' tezX' restzX' hzX' tkzX' hozX' hszX' hwzX' FzX' NzX'; (obtain ⟨o1zX', o2zX', o3zX', o4zX', o5zX'⟩ := hozX'); (obtain ⟨u1zX', u2zX', u3zX', hwzX'⟩ := hwzX'); (try dsimp only [Mine.scN] at NzX'))
  k_with "call ref" => (k_here; (with_reducible show wpAny _ _ (call (Value.ref 266) _) _ _ _); k_dflt (refine' Mine.mark_use ?k1zm ?k2zm ?k3zm ?k4zm ?k5zm ?k6zm ?k7zm ?k8zm ?vzm ?ozm ?czm ?przm ?zzm ?zvzm ?pzm ?pzzm ?ppzm ?_; (first | (case k4zm | vzm => k_extra "v0") | (case k4zm | vzm => k_extra "v1") | (case k4zm | vzm => k_extra "v2") | (case k4zm | vzm => k_extra "v3")); (case czm => first | exact .inl rfl | exact .inr rfl | assumption); (case przm => exact rfl); (case zzm | zvzm | pzm | pzzm => omega); (case ppzm => assumption); (case k1zm | k2zm | k3zm | k5zm => k_asm); (case k6zm => k_extra "r"); (case k7zm => ktr_room); (case k8zm => ktr_units); (case ozm => k_extra "o5"); k_whole); intro wdzm' tezm' restzm' hzm' tkzm' hozm' hszm' hwzm' Fzm' Nzm'; (obtain ⟨o1zm', o2zm', o3zm', o4zm', o5zm'⟩ := hozm'); (obtain ⟨u1zm', u2zm', hwzm'⟩ := hwzm'); (try dsimp only [Mine.scN] at Nzm'))
  k_with "call ref" => (k_here; (with_reducible show wpAny _ _ (call (Value.ref 266) _) _ _ _); k_dflt (refine' Mine.mark_use ?k1zn ?k2zn ?k3zn ?k4zn ?k5zn ?k6zn ?k7zn ?k8zn ?vzn ?ozn ?czn ?przn ?zzn ?zvzn ?pzn ?pzzn ?ppzn ?_; (first | (case k4zn | vzn => k_extra "v0") | (case k4zn | vzn => k_extra "v1") | (case k4zn | vzn => k_extra "v2") | (case k4zn | vzn => k_extra "v3")); (case czn => first | exact .inl rfl | exact .inr rfl | assumption); (case przn => exact rfl); (case zzn | zvzn | pzn | pzzn => omega); (case ppzn => assumption); (case k1zn | k2zn | k3zn | k5zn => k_asm); (case k6zn => k_extra "r"); (case k7zn => ktr_room); (case k8zn => ktr_units); (case ozn => k_extra "o5"); k_whole); intro wdzn' tezn' restzn' hzn' tkzn' hozn' hszn' hwzn' Fzn' Nzn'; (obtain ⟨o1zn', o2zn', o3zn', o4zn', o5zn'⟩ := hozn'); (obtain ⟨u1zn', u2zn', hwzn'⟩ := hwzn'); (try dsimp only [Mine.scN] at Nzn'))
  k_steps
  all_goals first
    | (refine WTEnd.intro2 ⟨r8, _, _, _, _, _⟩ (n8 - 1) (by assumption) (by assumption) (fun _ h => h) ?_
       first
         | exact RunP.skip hP9
         | (refine RunP.next hP9 rfl ?hK ⟨by assumption, by assumption, by assumption, by assumption, by assumption⟩ (by assumption) ?hw
            case hK => first | rfl | exact hKe9 | ((simp only [Tk.lets, List.length_append, List.length_cons, List.length_nil]); omega)
            case hw => first | exact ⟨_, _, _, _, rfl, ⟨_, rfl⟩, by assumption⟩ | exact ⟨_, _, _, _, rfl, rfl, by assumption⟩ | (rw [← lit45]; exact ⟨_, _, _, _, rfl, rfl, by assumption⟩) | (rw [← lit44]; exact ⟨_, _, _, _, rfl, rfl, by assumption⟩)))
    | (exfalso; omega)
    | skip
  rename (∀ q, q ∈ rest8 → q ∈ _) => hs9
  refine hret ⟨by assumption, by assumption, by assumption, by assumption, by assumption⟩ (fun q hq => hs9 q (hsub8 q hq)) ?_ (by assumption) (by assumption)
  have e9 : rowsAt toks 0 = qs8 := by rw [← hR8]; exact List.append_nil _
  rw [e9, ← hpl9]
  refine (hW8.mono hs9).snoc (q := (Str.ofString "end", Str.ofString "", DV.none, p8)) ?_
  exact ⟨_, _, _, _, rfl, rfl, by assumption⟩
section
open PySem PySem.Calls PyProof.Rows PyProof.V PySem.Spec PySem.SeqAt
def okD : Nat → Dat → Bool
  | n + 1, .tuple ds => ds.all (okD n)
  | n + 1, .list ds => ds.all (okD n)
  | 0, .tuple _ => false
  | 0, .list _ => false
  | _, _ => true
theorem eqAt_bytes {A : Around} {s : Shared} (b : Array UInt8) (t u : Tok) : EqAt A s (.bytes b t) (.bytes b u) true := fun prog w E Q h =>
  eqBool_bytes (by rw [decide_eq_true rfl]; exact h)
theorem all_true (n : Nat) : ((List.range n).all fun _ => true) = true := by simp
theorem alls_at {A : Around} {s : Shared} {n₁ n₂ : List (Addr × Obj)} {f : Dat → Prop} (ih : ∀ v v' d, f d → DatIn n₁ v d → DatIn n₂ v' d → EqAt A s v v' true) : ∀ {vs vs' : List Value} {ds : List Dat}, (∀ d ∈ ds, f d) → DatAll n₁ vs ds → DatAll n₂ vs' ds →
    vs.length = vs'.length ∧ ∀ j (h1 : j < vs.length) (h2 : j < vs'.length), EqAt A s vs[j] vs'[j] true
  | _, _, _, _, .nil, .nil => ⟨rfl, fun j h => absurd h (Nat.not_lt_zero _)⟩
  | _, _, _, hf, .cons a r, .cons b q => by
    obtain ⟨e, k⟩ := alls_at ih (fun d hd => hf d (.tail _ hd)) r q
    refine ⟨by simp [e], fun j h1 h2 => ?_⟩
    cases j with
    | zero => exact ih _ _ _ (hf _ (.head _)) a b
    | succ j => exact k j (Nat.lt_of_succ_lt_succ h1) (Nat.lt_of_succ_lt_succ h2)
theorem dat_at {s : Shared} {h₀ : Heap} {L : Addr} {news n₁ n₂ : List (Addr × Obj)} (N : News h₀ L s.heap news) (s₁ : ∀ p ∈ n₁, p ∈ news) (s₂ : ∀ p ∈ n₂, p ∈ news) :
    ∀ (n : Nat) (A : Around) (v v' : Value) (d : Dat), A.units + n < cLine → okD n d = true → DatIn n₁ v d → DatIn n₂ v' d → EqAt A s v v' true := by
  intro n
  induction n with
  | zero =>
    intro A v v' d hu hk a b
    cases a with
    | none => cases b; exact EqAt.same _
    | bool x => cases b; exact EqAt.same _
    | int i t => cases b with | int _ u => have := EqAt.int_int (A := A) (s := s) i t i u; simpa using this
    | str x t => cases b with | str _ u => have := EqAt.str_str (A := A) (s := s) x t x u; simpa using this
    | bytes x t => cases b with | bytes _ u => exact eqAt_bytes x t u
    | tuple hm r => simp [okD] at hk
    | list hm r => simp [okD] at hk
  | succ n ih =>
    intro A v v' d hu hk a b
    cases a with
    | none => cases b; exact EqAt.same _
    | bool x => cases b; exact EqAt.same _
    | int i t => cases b with | int _ u => have := EqAt.int_int (A := A) (s := s) i t i u; simpa using this
    | str x t => cases b with | str _ u => have := EqAt.str_str (A := A) (s := s) x t x u; simpa using this
    | bytes x t => cases b with | bytes _ u => exact eqAt_bytes x t u
    | @tuple a vs k ds hm r =>
      cases b with
      | @tuple b vs' k' _ hm' r' =>
        by_cases e : a = b
        · subst e; exact EqAt.same _
        · obtain ⟨el, he⟩ := alls_at (A := A.in1) (s := s) (f := fun d => okD n d = true) (fun v v' d h => ih A.in1 v v' d (by rw [units_in1]; omega) h) (by simpa [okD] using hk) r r'
          refine EqAt.of_refs e ?_
          have hl : s.heap.IsTuple a vs.toArray := ⟨_, (N _ (s₁ _ hm)).1, rfl, _, rfl⟩
          have hl' : s.heap.IsTuple b vs'.toArray := ⟨_, (N _ (s₂ _ hm')).1, rfl, _, rfl⟩
          have := RcAt.tuples (A := A) (s := s) (e := fun _ => true) hl hl' (by omega) (fun j h1 h2 => he j (by simpa using h1) (by simpa using h2))
          rw [all_true] at this
          simpa [el] using this
    | @list a vs k ds hm r =>
      cases b with
      | @list b vs' k' _ hm' r' =>
        by_cases e : a = b
        · subst e; exact EqAt.same _
        · obtain ⟨el, he⟩ := alls_at (A := A.in1) (s := s) (f := fun d => okD n d = true) (fun v v' d h => ih A.in1 v v' d (by rw [units_in1]; omega) h) (by simpa [okD] using hk) r r'
          refine EqAt.of_refs e ?_
          have hl : s.heap.IsList a vs.toArray := ⟨_, (N _ (s₁ _ hm)).1, rfl, _, rfl⟩
          have hl' : s.heap.IsList b vs'.toArray := ⟨_, (N _ (s₂ _ hm')).1, rfl, _, rfl⟩
          have := RcAt.lists (A := A) (s := s) (e := fun _ => true) hl hl' (by simpa using el) (by omega) (fun j h1 h2 => he j (by simpa using h1) (by simpa using h2))
          rw [all_true] at this
          exact this
/-- two lists that hold the same data are equal -/
theorem eq_lists {prog : Program} {w : World} {A : Around} {E : Value → Shared → Prop} {s : Shared} {h₀ : Heap} {L a b : Addr} {news n₁ n₂ : List (Addr × Obj)} {xs ys : List Value} {ka kb : Nat} {ds : List Dat} {Q : Value → Shared → Prop}
    (N : News h₀ L s.heap news) (ma : (a, W.listOf xs.toArray ka) ∈ news) (mb : (b, W.listOf ys.toArray kb) ∈ news) (Da : DatAll n₁ xs ds) (Db : DatAll n₂ ys ds) (s₁ : ∀ p ∈ n₁, p ∈ news) (s₂ : ∀ p ∈ n₂, p ∈ news)
    (hk : ds.all (okD 4) = true) (hu : A.units + 8 < cLine) (h : Q (.bool true) s) : wpAny (model prog w) A (compareOp .Eq (.ref a) (.ref b)) Q E s := by
  obtain ⟨el, he⟩ := alls_at (A := A.in1) (s := s) (f := fun d => okD 4 d = true) (fun v v' d h => dat_at N s₁ s₂ 4 A.in1 v v' d (by rw [units_in1]; omega) h) (by simpa using hk) Da Db
  have hl : s.heap.IsList a xs.toArray := ⟨_, (N _ ma).1, rfl, _, rfl⟩
  have hl' : s.heap.IsList b ys.toArray := ⟨_, (N _ mb).1, rfl, _, rfl⟩
  refine eq_listAt (e := fun _ => true) hl hl' (by simpa using el) (by omega) (fun j h1 h2 => he j (by simpa using h1) (by simpa using h2)) ?_
  rw [all_true]; exact h
end
section
variable {prog : Program} {w : World} {A : Around} {E : Value → Shared → Prop} {s : Shared} {h₀ : Heap} {L : Addr} {m : Str → Option Value} {env : Env}
/-- the end of a comprehension's turn that may have made objects -/
def MapEnd (R : Value → List (Addr × Obj) → Prop) (h₀ : Heap) (L : Addr) (m : Str → Option Value) (s : Shared) (I : Addr) (oI : Obj) (C : Addr) (oC : Obj) (D : Addr) (ys : List Value) (nw : List (Addr × Obj)) (y : Value) (s₂ : Shared) : Prop :=
  ∃ h' tk' nw', s₂ = { s with heap := h', toks := tk' } ∧ Fr h₀ L h' m ∧ News h₀ L h' ((I, oI) :: (C, oC) :: (D, LCg.lst ys) :: nw') ∧ LCg.Off3 I C D nw' ∧ (∀ p ∈ nw, p ∈ nw') ∧ R y nw'
theorem MapEnd.intro {R : Value → List (Addr × Obj) → Prop} {I : Addr} {oI : Obj} {C : Addr} {oC : Obj} {D : Addr} {ys : List Value} {nw : List (Addr × Obj)} {y : Value} {h' : Heap} {tk' : Nat} {all : List (Addr × Obj)} (nw' : List (Addr × Obj))
    (F : Fr h₀ L h' m) (N : News h₀ L h' all) (sub : ∀ p ∈ (I, oI) :: (C, oC) :: (D, LCg.lst ys) :: nw', p ∈ all) (off : LCg.Off3 I C D nw') (hs : ∀ p ∈ nw, p ∈ nw') (hr : R y nw') : MapEnd R h₀ L m s I oI C oC D ys nw y { s with heap := h', toks := tk' } :=
  ⟨h', tk', nw', rfl, F, fun p hp => N p (sub p hp), off, hs, hr⟩
/-- a comprehension over a list of the ledger, each element by a relation that grows with the ledger -/
theorem comp_map {elt : PySem.Expr} {x : Str} {scope : Scope} {cl : List (Str × Addr)} {Fin : Shared → List Value → List (Addr × Obj) → Prop} {ax : Addr} {vs : List Value} {kk : Nat} {news : List (Addr × Obj)} (R : Nat → Value → List (Addr × Obj) → Prop)
    (mono : ∀ {i y l l'}, (∀ p ∈ l, p ∈ l') → R i y l → R i y l') (hh : A.handled = none) (F : Fr h₀ L s.heap m) (N : News h₀ L s.heap news) (hm : (ax, W.listOf vs.toArray kk) ∈ news) (hsz : vs.length ≤ 100000)
    (turn : ∀ i v ys I oI C oC D m₂ nw h tk (E' : Value → Shared → Prop), vs[i]? = some v → LCg.NsObj oC m₂ → m₂ x = some v → Fr h₀ L h m → News h₀ L h ((I, oI) :: (C, oC) :: (D, LCg.lst ys) :: nw) → LCg.Off3 I C D nw → ((@Ne Nat I C) ∧ (@Ne Nat I D) ∧ (@Ne Nat C D)) → (∀ p ∈ news, p ∈ nw) →
      wpAny (model prog w) A (eval elt (compEnvC scope cl C env)) (MapEnd (R i) h₀ L m { s with heap := h, toks := tk } I oI C oC D ys nw) E' { s with heap := h, toks := tk })
    (fin : ∀ h ys nw, ys.length = vs.length → (∀ p ∈ news, p ∈ nw) → (∀ i y, ys[i]? = some y → R i y nw) → Fin { s with heap := h } ys nw) :
    LCg.CompSrc prog w A h₀ L m env elt x scope cl Fin (.ref ax) s := by
  refine LCg.CompSrc.ledger hh F N hm (by rw [List.size_toArray, sizeLine_eq]; omega) fun h₁ => ?_
  refine comp_inv (fun _ ys nw => (∀ p ∈ news, p ∈ nw) ∧ ∀ i y, ys[i]? = some y → R i y nw) ⟨fun _ h => h, fun i y h => by simp at h⟩ ?_ ?_
  · rintro i v I oI C oC D m₂ ys nw h tk E' hi hl hv hC hx F' N' off ne ⟨hs, hr⟩
    refine wpAny_mono (turn i v ys I oI C oC D m₂ nw h tk E' (by simpa using hv) hC hx F' N' off ne hs) (fun y s₂ hq => ?_) fun _ _ e => e
    obtain ⟨h', tk', nw', rfl, F'', N'', off', hs', hR⟩ := hq
    refine ⟨h', tk', nw', rfl, F'', N'', off', .inr ⟨_, hs' _ (hs _ hm), rfl, _, rfl⟩, fun p hp => hs' p (hs p hp), ?_⟩
    intro j y' hj
    by_cases hlt : j < ys.length
    · rw [List.getElem?_append_left hlt] at hj
      exact mono hs' (hr j y' hj)
    · rw [List.getElem?_append_right (by omega)] at hj
      have e1 : j - ys.length = 0 := by
        false_or_by_contra
        rw [List.getElem?_eq_none (by simp; omega)] at hj
        cases hj
      rw [e1] at hj
      obtain rfl : y = y' := by simpa using hj
      have : j = i := by omega
      rw [this]; exact hR
  · rintro ys nw hl ⟨hs, hr⟩
    exact fin h₁ ys nw (by simpa using hl) hs hr
end
theorem off3_ne {I C D d : Addr} {o : Obj} {oI oC oD : Obj} {nw : List (Addr × Obj)} (hl : AllLt d ((I, oI) :: (C, oC) :: (D, oD) :: nw)) (h : LCg.Off3 I C D nw) : LCg.Off3 I C D ((d, o) :: nw) :=
  ⟨⟨Ne.symm (Nat.ne_of_lt hl.1), Ne.symm (Nat.ne_of_lt hl.2.1), Ne.symm (Nat.ne_of_lt hl.2.2.1)⟩, h⟩
theorem allLt_tail2 {d : Addr} {a b : Addr × Obj} {l : List (Addr × Obj)} (h : AllLt d (a :: b :: l)) : AllLt d l := h.2.2
theorem news_drop23 {h₀ h : Heap} {L : Addr} {a b c : Addr × Obj} {l : List (Addr × Obj)} (N : News h₀ L h (a :: b :: c :: l)) : News h₀ L h (a :: l) := fun p hp => N p (by rcases List.mem_cons.mp hp with h | h; exact h ▸ .head _; exact .tail _ (.tail _ (.tail _ h)))
theorem news_two {h₀ h : Heap} {L : Addr} {a b : Addr × Obj} {l : List (Addr × Obj)} (N : News h₀ L h l) (ha : a ∈ l) (hb : b ∈ l) : News h₀ L h (a :: b :: l) := news_sub N fun p hp => by
  rcases List.mem_cons.mp hp with h | h
  · exact h ▸ ha
  · rcases List.mem_cons.mp h with h | h
    · exact h ▸ hb
    · exact h
section
local macro_rules | `(tactic| k_handed) => `(tactic| assumption)
theorem row_use {w : World} {mean : ExcName → Option Value} {mg mb : Str → Option Value}
  {dp un : Nat} {gd : Option (List Code)} {cn : Str} {cs : Scope} {a : Addr} {ccd : Value} {cl : List (Str × Addr)} {outer : List Env} {A₀ : Around} {base h₀ : Heap} {L : Addr} {m : Str → Option Value} {s : Shared} {Q E : Value → Shared → Prop}
  {wd : Addr} {ks ts : Str} {ku tu : Tok} {vv : Value} {p : Int} {news : List (Addr × Obj)}
  (X : (hd.heap_39 w.params).In h₀) (B : Below A₀ base outer h₀) (F : Fr h₀ L s.heap m) (N : News h₀ L s.heap news)
  (T : Top hd.view_39 (looseW hd.view_39 [Str.ofString "NAME_SIGNS", Str.ofString "LIKE_SIGNS", Str.ofString "GREATEST"]) mean mg mb h₀) (hk : cs.kind = .function) (hd : dp + 10 < recursionLimit) (hu : un + 100 < cLine)
  (hw : WordIn w.params news wd (.str ks ku) (.str ts tu) vv p) (hv : handedIn vv = true)
  (hret : ∀ {tp n' h' tk'}, AllLt tp news → Fr h₀ L h' m → News h₀ L h' ((tp, ({ cls := .type "tuple", data := .seq [.str ks ku, .str ts tu, vv].toArray n' } : Obj)) :: news) → Q (.ref tp) { s with heap := h', toks := tk' }) :
    wpAny (model PySem.Challenge.rw_pb0448_01.row.prog w) (ktrTop dp un gd cn cs L a ccd cl outer) (call (.ref 168) [.ref wd]) Q E s := by
  obtain ⟨dwd, u1, u2, u3, u4, tp, hm1, hm2⟩ := hw
  replace N := news_two N hm1 hm2
  revert X; k_fill; intro X
  refine wpAny_call ?_
  k_dflt (refine' Mine.code_defL ?k1 ?k2 ?k3 ?k4 ?k5 ?kA ?kF ?kK ?k6 ?k7 ?k8 ?k9 ?kB ?_ ?c2 ?c3 ?c4 ?c5; (case kA => exact rfl); (case kF => exact rfl); (case kK => assumption); (case k1 => k_asm); (case k2 => k_asm); (case k3 => k_asm); (case k4 => k_asm); (case k5 => k_asm); (case k6 => k_is); (case k7 => k_is); (case k8 => ktr_room); (case k9 => exact BindsTo.of_eq rfl); (case c5 => decide); (case kB => exact locs rfl); (case c2 => exact rfl); (case c3 => exact rfl); (case c4 => exact rfl); k_whole; intro g' L' h' FG' F' N' B' X' T' hlt'; (try dsimp only); (try k_lift B'); (try k_fold))
  k_with_none
  k_steps
  rename (_ ∧ _ ∧ AllLt _ _) => hl9
  exact hret hl9.2.2 (by assumption) (news_drop23 (by assumption))
end
theorem ltNe {d : Addr} {l : List (Addr × Obj)} (h : ∀ p ∈ l, p.1 < d) : ∀ p ∈ l, p.1 ≠ d := fun p hp => Nat.ne_of_lt (h p hp)
theorem news_perm3 {h₀ h : Heap} {L : Addr} {a b c : Addr × Obj} {l : List (Addr × Obj)} (N : News h₀ L h (a :: b :: c :: l)) : News h₀ L h (b :: c :: a :: l) := news_sub N fun p hp => by
  simp only [List.mem_cons] at hp ⊢
  rcases hp with h | h | h | h <;> simp only [h, true_or, or_true]
section
local macro_rules | `(tactic| k_room) => `(tactic| ktr_room)
theorem words_use {w : World} {mean : ExcName → Option Value} {mg mb : Str → Option Value}
  {dp un : Nat} {gd : Option (List Code)} {cn : Str} {cs : Scope} {a : Addr} {ccd : Value} {cl : List (Str × Addr)} {outer : List Env} {A₀ : Around} {base h₀ : Heap} {L : Addr} {m : Str → Option Value} {s : Shared} {Q E : Value → Shared → Prop}
  {tx : Str} {tt : Tok} {toks : List Tk} {news : List (Addr × Obj)}
  (X : (hd.heap_39 w.params).In h₀) (B : Below A₀ base outer h₀) (F : Fr h₀ L s.heap m) (N : News h₀ L s.heap news)
  (T : Top hd.view_39 (looseW hd.view_39 [Str.ofString "NAME_SIGNS", Str.ofString "LIKE_SIGNS", Str.ofString "GREATEST"]) mean mg mb h₀) (hk : cs.kind = .function) (hd : dp + 120 < recursionLimit) (hu : un + 1000 < cLine)
  (hT : tx.cps.toList = letsOf toks) (hG : Good toks) (hz : tx.length ≤ 10000)
  (hret : ∀ {fa vs' k' nw h' tk'}, (∀ q ∈ news, q ∈ nw) → (fa, W.listOf vs'.toArray k') ∈ nw → WordsAre w.params nw vs' (rowsAt toks 0 ++ [(Str.ofString "end", Str.ofString "", .none, (tx.length : Int))]) → Fr h₀ L h' m → News h₀ L h' nw → Q (.ref fa) { s with heap := h', toks := tk' }) :
    wpAny (model PySem.Challenge.rw_pb0448_01.row.prog w) (ktrTop dp un gd cn cs L a ccd cl outer) (call (.ref 287) [.str tx tt]) Q E s := by
  revert X; k_fill; intro X
  refine wpAny_call ?_
  k_dflt (refine' Mine.code_defL ?k1 ?k2 ?k3 ?k4 ?k5 ?kA ?kF ?kK ?k6 ?k7 ?k8 ?k9 ?kB ?_ ?c2 ?c3 ?c4 ?c5; (case kA => exact rfl); (case kF => exact rfl); (case kK => assumption); (case k1 => k_asm); (case k2 => k_asm); (case k3 => k_asm); (case k4 => k_asm); (case k5 => k_asm); (case k6 => k_is); (case k7 => k_is); (case k8 => ktr_room); (case k9 => exact BindsTo.of_eq rfl); (case c5 => decide); (case kB => exact locs rfl); (case c2 => exact rfl); (case c3 => exact rfl); (case c4 => exact rfl); k_whole; intro g' L' h' FG' F' N' B' X' T' hlt'; (try dsimp only); (try k_lift B'); (try k_fold))
  k_with_none
  k_with "call ref" => ((with_reducible show wpAny _ _ (call (Value.ref 210) _) _ _ _); rename (_ ∧ _ ∧ AllLt _ _) => hl9; obtain ⟨hl91, hl92, hl93⟩ := hl9; k_dflt (refine' Mine.run_use (toks := toks) ?k1R ?k2R ?k3R ?k4R ?k5R ?k6R ?k7R ?k8R ?vR ?oR ?TR ?GR ?zR ?pR ?vsR ?_; (case k4R => exact Mine.news_perm3 (by assumption)); (case vsR => exact rfl); (case pR => exact rfl); (case vR => exact rfl); (case TR => assumption); (case GR => assumption); (case zR => assumption); (case k1R => k_asm); (case k2R => k_asm); (case k3R => k_asm); (case k5R => k_asm); (case k6R => first | exact rfl | assumption); (case k7R => ktr_room); (case k8R => ktr_units); (case oR => (refine ⟨?_, ?_, ?_, ?_, ?_⟩ <;> first | k_ne | omega | exact Mine.allNe (by assumption) | exact Mine.ltNe (by assumption))); k_whole); intro vs' k' rest' p' tp' h' tk' ho' hs' hw' F' N'; (try dsimp only [Mine.scN] at N'))
  k_steps
  refine hret (vs' := vs') (k' := k') ?a9 ?b9 ?c9 (by assumption) (by assumption)
  case b9 => exact .tail _ (.tail _ (.head _))
  case a9 => exact fun q hq => .tail _ (.tail _ (.tail _ (hs' q hq)))
  case c9 => exact hw'.mono fun q hq => .tail _ (.tail _ (.tail _ hq))
end
section
open PySem PySem.Calls PyProof.Rows PyProof.V PySem.Spec
variable {prog : Program} {w : World} {A : Around} {E : Value → Shared → Prop} {s : Shared} {env : Env} {h₀ : Heap} {x : PySem.Str} {body : List Stmt} {Q : Flow → Shared → Prop}
/-- the end of a turn of a loop whose ledger may grow -/
def GEnd {σ : Type} (h₀ : Heap) (L : Addr) (x : PySem.Str) (mm : σ → PySem.Str → Option Value) (Led : σ → List (Addr × Obj)) (P : σ → Prop) (own : List (Addr × Obj)) (s : Shared) (f : Flow) (s₂ : Shared) : Prop :=
  f = .next ∧ ∃ h' tk' u c' news', s₂ = { s with heap := h', toks := tk' } ∧ Fr h₀ L h' (fun y => if y = x then u else mm c' y) ∧ News h₀ L h' news' ∧ (∀ p ∈ Led c', p ∈ news') ∧ (∀ p ∈ own, p ∈ news') ∧ OwnOff own ((Led c').map (·.1)) ∧ P c'
theorem GEnd.intro {σ : Type} {L : Addr} {mm : σ → PySem.Str → Option Value} {Led : σ → List (Addr × Obj)} {P : σ → Prop} {own : List (Addr × Obj)} {h' : Heap} {tk' : Nat} {u : Option Value} {news' : List (Addr × Obj)} (c' : σ)
    (F : Fr h₀ L h' (fun y => if y = x then u else mm c' y)) (N : News h₀ L h' news') (h1 : ∀ p ∈ Led c', p ∈ news') (h2 : ∀ p ∈ own, p ∈ news') (h3 : OwnOff own ((Led c').map (·.1))) (hp : P c') : GEnd h₀ L x mm Led P own s .next { s with heap := h', toks := tk' } :=
  ⟨rfl, h', tk', u, c', news', rfl, F, N, h1, h2, h3, hp⟩
theorem if_twice {u v : Option Value} {m : PySem.Str → Option Value} : (fun y => if y = x then u else (if y = x then v else m y)) = fun y => if y = x then u else m y := by
  funext y
  by_cases hy : y = x <;> simp [hy]
theorem if_self (m : PySem.Str → Option Value) : (fun y => if y = x then m x else m y) = m := by
  funext y
  by_cases hy : y = x <;> simp [hy]
theorem grow_loop {σ : Type} {I : Addr} {n : Nat} {Pw : Nat → Value → Prop} {St : Nat → Heap → Prop} {m₀ : PySem.Str → Option Value} {news : List (Addr × Obj)} (mm : σ → PySem.Str → Option Value) (Led : σ → List (Addr × Obj)) (P : Nat → σ → Prop) (c₀ : σ)
    (W : Walks prog w A I [I] [I] n Pw St) (hob : ∀ i h, St i h → ∃ o, h.get? I = some o) (hLf : env.locals ≠ I) (hwr : h₀.get? I = none) (hnw : ∀ p ∈ news, p.1 ≠ I) (hst : St 0 s.heap)
    (F : Fr h₀ env.locals s.heap m₀) (N : News h₀ env.locals s.heap news) (hm : mm c₀ = m₀) (hl : Led c₀ = news) (hp : P 0 c₀)
    (turn : ∀ i v c h tk own, i < n → Pw i v → P i c → OwnOff own ((Led c).map (·.1)) → Fr h₀ env.locals h (fun y => if y = x then some v else mm c y) → News h₀ env.locals h (Led c ++ own) →
      wpAny (model prog w) A (execs body env) (GEnd h₀ env.locals x mm Led (P (i + 1)) own { s with heap := h, toks := tk }) E { s with heap := h, toks := tk })
    (done : ∀ c u h tk, P n c → Fr h₀ env.locals h (fun y => if y = x then u else mm c y) → News h₀ env.locals h (Led c) → Q .next { s with heap := h, toks := tk }) :
    LoopAtV prog w A h₀ env x body Q E (.ref I) s := by
  subst hm hl
  refine kdr_loop (fun i m nx => ∃ c u, P i c ∧ m = (fun y => if y = x then u else mm c y) ∧ nx = Led c) W (fun _ h => h) (fun _ h => h) (fun i h st b hb => by rw [List.mem_singleton.mp hb]; exact hob i h st) (fun h => hLf (List.mem_singleton.mp h)) (fun b hb => by rw [List.mem_singleton.mp hb]; exact hwr)
    (fun p hp h => hnw p hp (List.mem_singleton.mp h)) hst F N ⟨c₀, mm c₀ x, hp, (if_self _).symm, rfl⟩ ?_ ?_
  · rintro i v m₁ nx h tk own hi hv hoff ⟨c, u, hc, rfl, rfl⟩ F₁ N₁
    rw [if_twice] at F₁
    refine wpAny_mono (turn i v c h tk own hi hv hc hoff F₁ N₁) (fun f s₂ hw => ?_) fun _ _ e => e
    obtain ⟨rfl, h', tk', u', c', news', rfl, F', N', k1, k2, k3, hp'⟩ := hw
    exact ⟨h', tk', _, news', _, rfl, F', N', k1, k2, k3, c', u', hp', rfl, rfl⟩
  · rintro m₁ nx h tk ⟨c, u, hc, rfl, rfl⟩ F₁ N₁
    exact done c u h tk hc F₁ N₁
theorem bytes_grow {σ : Type} {b : Array UInt8} {tb : Tok} {m₀ : PySem.Str → Option Value} {news : List (Addr × Obj)} (mm : σ → PySem.Str → Option Value) (Led : σ → List (Addr × Obj)) (P : Nat → σ → Prop) (c₀ : σ)
    (hh : A.handled = none) (F : Fr h₀ env.locals s.heap m₀) (N : News h₀ env.locals s.heap news) (hm : mm c₀ = m₀) (hl : Led c₀ = news) (hp : P 0 c₀)
    (turn : ∀ i k t c h tk own, i < b.size → b[i]? = some k → P i c → OwnOff own ((Led c).map (·.1)) → Fr h₀ env.locals h (fun y => if y = x then some (.int (k.toNat : Int) t) else mm c y) → News h₀ env.locals h (Led c ++ own) →
      wpAny (model prog w) A (execs body env) (GEnd h₀ env.locals x mm Led (P (i + 1)) own { s with heap := h, toks := tk }) E { s with heap := h, toks := tk })
    (done : ∀ c u h tk, P b.size c → Fr h₀ env.locals h (fun y => if y = x then u else mm c y) → News h₀ env.locals h (Led c) → Q .next { s with heap := h, toks := tk }) :
    wpAny (model prog w) A (pyIter (.bytes b tb)) (fun it s₂ => LoopAtV prog w A h₀ env x body Q E it s₂) E s := by
  refine KBw.pyIter_bytes ?_
  have W := KBw.walks (prog := prog) (w := w) hh s.heap.objs.size b tb
  refine grow_loop (s := { s with heap := s.heap.push _ }) mm Led P c₀ W (fun i h st => let ⟨o, ho, _⟩ := st; ⟨o, ho⟩) (fun e => absurd F.ns.lt (e ▸ Nat.lt_irrefl _)) (next_is_new F) (fun p hp e => absurd (Heap.lt_size (N p hp).1) (e ▸ Nat.lt_irrefl _)) ⟨_, Heap.get?_push_size _ rfl, rfl, rfl⟩ (F.push _)
    (fun p hp => ⟨Heap.get?_push_of_some _ (N p hp).1, (N p hp).2⟩) hm hl hp ?_ done
  rintro i v c h tk own hi ⟨k, u, hk, rfl⟩ hc hoff F₁ N₁
  exact turn i k u c h tk own hi hk hc hoff F₁ N₁
/-- the same where the turns change no name but the loop's own -/
theorem bytes_grow0 {σ : Type} {b : Array UInt8} {tb : Tok} {m₀ : PySem.Str → Option Value} {news : List (Addr × Obj)} (Led : σ → List (Addr × Obj)) (P : Nat → σ → Prop) (c₀ : σ)
    (hh : A.handled = none) (F : Fr h₀ env.locals s.heap m₀) (N : News h₀ env.locals s.heap news) (hl : Led c₀ = news) (hp : P 0 c₀)
    (turn : ∀ i k t c h tk own, i < b.size → b[i]? = some k → P i c → OwnOff own ((Led c).map (·.1)) → Fr h₀ env.locals h (fun y => if y = x then some (.int (k.toNat : Int) t) else m₀ y) → News h₀ env.locals h (Led c ++ own) →
      wpAny (model prog w) A (execs body env) (GEnd h₀ env.locals x (fun _ => m₀) Led (P (i + 1)) own { s with heap := h, toks := tk }) E { s with heap := h, toks := tk })
    (done : ∀ c u h tk, P b.size c → Fr h₀ env.locals h (fun y => if y = x then u else m₀ y) → News h₀ env.locals h (Led c) → Q .next { s with heap := h, toks := tk }) :
    wpAny (model prog w) A (pyIter (.bytes b tb)) (fun it s₂ => LoopAtV prog w A h₀ env x body Q E it s₂) E s :=
  bytes_grow (fun _ => m₀) Led P c₀ hh F N rfl hl hp turn done
theorem range_grow {σ : Type} {r : Addr} {a₀ b₀ : Int} {t₀ u₀ v₀ : Tok} {n : Nat} {m₀ : PySem.Str → Option Value} {news : List (Addr × Obj)} (mm : σ → PySem.Str → Option Value) (Led : σ → List (Addr × Obj)) (P : Nat → σ → Prop) (c₀ : σ)
    (hh : A.handled = none) (hr : IsRange s.heap r a₀ b₀ 1 t₀ u₀ v₀) (hsmall : Builtin.Range.small a₀ b₀ 1 = true) (hsz : Builtin.Range.rangeSize a₀ b₀ 1 = (n : Int)) (F : Fr h₀ env.locals s.heap m₀) (N : News h₀ env.locals s.heap news) (hm : mm c₀ = m₀) (hl : Led c₀ = news) (hp : P 0 c₀)
    (turn : ∀ (i : Nat) t c h tk own, i < n → P i c → OwnOff own ((Led c).map (·.1)) → Fr h₀ env.locals h (fun y => if y = x then some (.int (a₀ + (i : Int)) t) else mm c y) → News h₀ env.locals h (Led c ++ own) →
      wpAny (model prog w) A (execs body env) (GEnd h₀ env.locals x mm Led (P (i + 1)) own { s with heap := h, toks := tk }) E { s with heap := h, toks := tk })
    (done : ∀ c u h tk, P n c → Fr h₀ env.locals h (fun y => if y = x then u else mm c y) → News h₀ env.locals h (Led c) → Q .next { s with heap := h, toks := tk }) :
    wpAny (model prog w) A (pyIter (.ref r)) (fun it s₂ => LoopAtV prog w A h₀ env x body Q E it s₂) E s := by
  refine wpAny_pyIter_range hr hsmall ?_
  have W : Walks prog w A s.heap.objs.size [s.heap.objs.size] [s.heap.objs.size] n (fun i v => i < n ∧ ∃ t, v = .int (a₀ + i * 1) t)
      (fun i h => IsRangeIter h s.heap.objs.size (a₀ + (i : Nat) * 1) ((n : Int) - (i : Nat)) 1) := (Walks.range hh _ a₀ 1 n).bound
  refine grow_loop (s := { s with heap := s.heap.push _ }) mm Led P c₀ W (fun i h st => ⟨_, st⟩) (fun e => absurd F.ns.lt (e ▸ Nat.lt_irrefl _)) (next_is_new F) (fun p hp e => absurd (Heap.lt_size (N p hp).1) (e ▸ Nat.lt_irrefl _)) (by show IsRangeIter _ _ _ _ _; rw [hsz]; simpa using Heap.get?_push_size _ rfl) (F.push _)
    (fun p hp => ⟨Heap.get?_push_of_some _ (N p hp).1, (N p hp).2⟩) hm hl hp ?_ done
  rintro i v c h tk own hi ⟨_, t, rfl⟩ hc hoff F₁ N₁
  rw [Int.mul_one] at F₁
  exact turn i t c h tk own hi hc hoff F₁ N₁
end
section
variable {prog : Program} {w : World} {A : Around} {E : Value → Shared → Prop} {s : Shared} {h₀ : Heap} {L : Addr} {m : Str → Option Value} {env : Env}
/-- what a comprehension over octets asks of its source -/
def SrcB (prog : Program) (w : World) (A : Around) (h₀ : Heap) (L : Addr) (m : Str → Option Value) (env : Env) (elt : PySem.Expr) (x : Str) (scope : Scope) (cl : List (Str × Addr)) (Fin : Shared → List Value → List (Addr × Obj) → Prop) (xv : Value) (s₁ : Shared) : Prop :=
  ∃ b tb news, xv = .bytes b tb ∧ A.handled = none ∧ Fr h₀ L s₁.heap m ∧ News h₀ L s₁.heap news ∧ b.size ≤ sizeLine ∧
    ∀ s₂ : Shared, (∃ h, s₂ = { s₁ with heap := h }) → LCg.CompRest prog w A h₀ L m env elt x scope cl s₂ (fun _ => True) (fun i v => ∃ c u, b[i]? = some c ∧ v = .int (c.toNat : Int) u) (Fin s₂) b.size 0 [] news
theorem ListComp_bytes {elt iter : PySem.Expr} {x : Str} {px : Pos} {scope : Scope} {cl : List (Str × Addr)} {pos : Pos} {Q : Value → Shared → Prop} (F₀ : Fr h₀ L s.heap m)
    (hclos : closureFor scope env = pure cl) (hcell : ∀ y ∈ scope.names, y.2 ≠ .cell) (hkind : scope.kind = .function)
    (hnames : ∀ y ∈ scope.names, y.2 = .local → scope.names.lookup y.1 = some .local) (hx : scope.names.lookup x = some .local)
    (h : wpAny (model prog w) A (eval iter env) (SrcB prog w A h₀ L m env elt x scope cl (fun s₂ => LCg.FinE h₀ L m s₂ Q)) E s)
    (hs : ∀ x, foldedSetIterable iter env x = pure x := by intro _; rfl) :
    wpAny (model prog w) A (eval (.ListComp elt [⟨.Name x px, iter, [], 0⟩] scope pos) env) Q E s := by
  rw [eval_ListComp]
  refine wpAny_comprehension_free (use := none) rfl hs hclos hkind hnames (wpAny_mono h (fun xv s₁ h₁ => ?_) fun _ _ e => e)
  obtain ⟨b, tb, news, rfl, hh, F, N, hsz, R⟩ := h₁
  refine KBw.pyIter_bytes ?_
  refine LCg.block_U (KBw.walks hh s₁.heap.objs.size b tb) hsz (fun i h st => let ⟨o, ho, _⟩ := st; ⟨o, ho⟩) (fun i h h' o nw st e e' _ _ _ => by obtain ⟨o', q, r⟩ := st; rw [e] at q; cases q; exact ⟨o, e', r⟩) hcell hkind hx ⟨_, Heap.get?_push_size _ rfl, rfl, rfl⟩ (fun b hb => ?_)
      (F.keeps fun _ _ e => Heap.get?_push_of_some _ e) (N.grown fun _ _ e => Heap.get?_push_of_some _ e) (Nat.ne_of_lt F.ns.lt) (next_is_new F) (fun p hp => Nat.ne_of_lt (Heap.lt_size (N p hp).1)) trivial (R _ ⟨_, rfl⟩) ?_
  · rw [List.mem_singleton.mp hb]
    show s₁.heap.objs.size < (s₁.heap.push _).objs.size
    rw [Heap.size_push]; exact Nat.lt_succ_self _
  · intro D C h tk m' ys news' F' N' o1 hn hC₀ hD₀ hCL hDL hCD offC fin
    refine ⟨m', hn, fun h'' hs'' => fin D h'' tk (F'.change hs'' hCL hC₀) (fun p hp => ?_) o1⟩
    refine ⟨hs''.extBut _ _ ?_ (N' p hp).1, (N' p hp).2⟩
    rcases List.mem_cons.mp hp with rfl | hp
    · exact Ne.symm hCD
    · exact offC p hp
def OctEnd (R : Value → Prop) (h₀ : Heap) (L : Addr) (m : Str → Option Value) (s : Shared) (I : Addr) (oI : Obj) (C : Addr) (oC : Obj) (D : Addr) (ys : List Value) (news : List (Addr × Obj)) (y : Value) (s₂ : Shared) : Prop :=
  ∃ h' tk', s₂ = { s with heap := h', toks := tk' } ∧ Fr h₀ L h' m ∧ News h₀ L h' ((I, oI) :: (C, oC) :: (D, LCg.lst ys) :: news) ∧ R y
theorem OctEnd.intro {R : Value → Prop} {I : Addr} {oI : Obj} {C : Addr} {oC : Obj} {D : Addr} {ys : List Value} {news : List (Addr × Obj)} {y : Value} {h' : Heap} {tk' : Nat} (F : Fr h₀ L h' m) (N : News h₀ L h' ((I, oI) :: (C, oC) :: (D, LCg.lst ys) :: news)) (h : R y) :
    OctEnd R h₀ L m s I oI C oC D ys news y { s with heap := h', toks := tk' } := ⟨h', tk', rfl, F, N, h⟩
/-- the elements drawn from octets, each told by the octet -/
theorem comp_octets (R : UInt8 → Value → Prop) {elt : PySem.Expr} {x : Str} {scope : Scope} {cl : List (Str × Addr)} {Fin : Shared → List Value → List (Addr × Obj) → Prop} {b : Array UInt8} {tb : Tok} {news : List (Addr × Obj)}
    (hh : A.handled = none) (F : Fr h₀ L s.heap m) (N : News h₀ L s.heap news) (hsz : b.size ≤ 100000)
    (turn : ∀ c t ys I oI C oC D m₂ h tk (E' : Value → Shared → Prop), LCg.NsObj oC m₂ → m₂ x = some (.int (c.toNat : Int) t) → Fr h₀ L h m → News h₀ L h ((I, oI) :: (C, oC) :: (D, LCg.lst ys) :: news) → LCg.Off3 I C D news → ((@Ne Nat I C) ∧ (@Ne Nat I D) ∧ (@Ne Nat C D)) →
      wpAny (model prog w) A (eval elt (compEnvC scope cl C env)) (OctEnd (R c) h₀ L m { s with heap := h, toks := tk } I oI C oC D ys news) E' { s with heap := h, toks := tk })
    (fin : ∀ h (ys : List Value), ys.length = b.size → (∀ (i : Nat) (c : UInt8), b[i]? = some c → ∃ y, ys[i]? = some y ∧ R c y) → Fin { s with heap := h } ys news) :
    SrcB prog w A h₀ L m env elt x scope cl Fin (.bytes b tb) s := by
  refine ⟨b, tb, news, rfl, hh, F, N, by rw [sizeLine_eq]; omega, ?_⟩
  rintro s₂ ⟨h₁, rfl⟩
  refine comp_inv (fun n ys nw => nw = news ∧ ∀ (i : Nat) (c : UInt8), i < n → b[i]? = some c → ∃ y, ys[i]? = some y ∧ R c y) ⟨rfl, fun i c h => absurd h (Nat.not_lt_zero _)⟩ ?_ ?_
  · rintro i v I oI C oC D m₂ ys nw h tk E' hi hl ⟨c, u, hc, rfl⟩ hC hx F' N' off ne ⟨rfl, hr⟩
    refine wpAny_mono (turn c u ys I oI C oC D m₂ h tk E' hC hx F' N' off ne) (fun y s₂ hq => ?_) fun _ _ e => e
    obtain ⟨h', tk', rfl, F'', N'', hR⟩ := hq
    refine ⟨h', tk', nw, rfl, F'', N'', off, trivial, rfl, ?_⟩
    intro j c' hj hc'
    by_cases hlt : j < ys.length
    · obtain ⟨y', e, k⟩ := hr j c' (by omega) hc'
      exact ⟨y', by rw [List.getElem?_append_left hlt]; exact e, k⟩
    · obtain rfl : j = i := by omega
      rw [hc] at hc'
      obtain rfl : c = c' := by simpa using hc'
      exact ⟨y, by rw [List.getElem?_append_right (by omega), hl, Nat.sub_self]; rfl, hR⟩
  · rintro ys nw hl ⟨rfl, hr⟩
    refine fin h₁ ys hl fun i c hc => hr i c ?_ hc
    by_cases hlt : i < b.size
    · exact hlt
    · rw [Array.getElem?_eq_none (by omega)] at hc; cases hc
end
section
open PySem PySem.Calls PyProof.Rows PyProof.V PySem.Spec
variable {prog : Program} {w : World} {A : Around} {E : Value → Shared → Prop} {s : Shared} {env : Env} {h₀ : Heap} {x : PySem.Str} {body : List Stmt} {Q : Flow → Shared → Prop}
def TAEnd (h₀ : Heap) (L : Addr) (x y : PySem.Str) (m : PySem.Str → Option Value) (P : PySem.Str → Prop) (nw : List (Addr × Obj)) (s : Shared) (f : Flow) (s₂ : Shared) : Prop :=
  f = .next ∧ ∃ h' tk' u v tv, s₂ = { s with heap := h', toks := tk' } ∧ Fr h₀ L h' (fun z => if z = x then u else if z = y then some (.str v tv) else m z) ∧ News h₀ L h' nw ∧ P v
theorem TAEnd.intro {L : Addr} {y : PySem.Str} {m : PySem.Str → Option Value} {P : PySem.Str → Prop} {nw : List (Addr × Obj)} {h' : Heap} {tk' : Nat} {u w : Option Value} {v : PySem.Str} {tv : Tok} (hyx : y ≠ x)
    (F : Fr h₀ L h' (fun z => if z = y then some (.str v tv) else if z = x then u else if z = y then w else m z)) (N : News h₀ L h' nw) (hp : P v) : TAEnd h₀ L x y m P nw s .next { s with heap := h', toks := tk' } := by
  have e : (fun z => if z = y then some (Value.str v tv) else if z = x then u else if z = y then w else m z) = fun z => if z = x then u else if z = y then some (.str v tv) else m z := by
    funext z
    by_cases h1 : z = y
    · subst h1; simp [hyx]
    · simp [h1]
  rw [e] at F
  exact ⟨rfl, h', tk', u, v, tv, rfl, F, N, hp⟩
/-- a for over a text whose turns grow one text -/
theorem text_acc {xt : PySem.Str} {tx : Tok} {m₀ : PySem.Str → Option Value} {news : List (Addr × Obj)} (y : PySem.Str) (P : List Nat → PySem.Str → Prop) {v₀ : PySem.Str} {t₀ : Tok} (hyx : y ≠ x)
    (hh : A.handled = none) (F : Fr h₀ env.locals s.heap m₀) (N : News h₀ env.locals s.heap news) (hy : m₀ y = some (.str v₀ t₀)) (h0 : P [] v₀)
    (turn : ∀ pre n post v tv t h tk own, xt.cps.toList = pre ++ n :: post → P pre v → Fr h₀ env.locals h (fun z => if z = x then some (.str ⟨#[n]⟩ t) else if z = y then some (.str v tv) else m₀ z) → News h₀ env.locals h (news ++ own) →
      wpAny (model prog w) A (execs body env) (TAEnd h₀ env.locals x y m₀ (P (pre ++ [n])) (news ++ own) { s with heap := h, toks := tk }) E { s with heap := h, toks := tk })
    (done : ∀ u v tv h tk, P xt.cps.toList v → Fr h₀ env.locals h (fun z => if z = x then u else if z = y then some (.str v tv) else m₀ z) → News h₀ env.locals h news → Q .next { s with heap := h, toks := tk }) :
    wpAny (model prog w) A (pyIter (.str xt tx)) (fun it s₂ => LoopAtV prog w A h₀ env x body Q E it s₂) E s := by
  have hb : ∀ (c : PySem.Str × Tok) (u : PySem.Str → Option Value) (q : Option Value), (fun z => if z = x then q else PySem.W.kstB (fun z => if ([] : List PySem.Str).contains z then u z else m₀ z) [(y, Value.str c.1 c.2)] z) = fun z => if z = x then q else if z = y then some (.str c.1 c.2) else m₀ z := by
    intro c u q
    funext z
    by_cases h1 : z = x
    · simp [h1]
    · by_cases h2 : z = y
      · simp [h2, PySem.W.kstB]
      · simp [h1, h2, PySem.W.kstB]
  have hcd : ∀ l : List Nat, (l.map fun c => ((c : Nat) : Int)).map Int.toNat = l := by
    intro l; induction l with
    | nil => rfl
    | cons a r ih => simp [ih]
  refine PySem.W.KStt.kst_text (σ := PySem.Str × Tok) (fun _ => news) (fun c => [(y, .str c.1 c.2)]) (fun _ => True) [] (fun pre c => P (pre.map Int.toNat) c.1) (v₀, t₀) hh F N trivial (List.forall_mem_cons.mpr ⟨hy, List.forall_mem_nil _⟩) h0 ?_ ?_
  · intro c pre post n t u h tk own e off _ hp F₁ N₁
    rw [hb c u (some (.str ⟨#[n]⟩ t))] at F₁
    have e2 : xt.cps.toList = pre.map Int.toNat ++ n :: post.map Int.toNat := by
      have := congrArg (fun l : List Int => l.map Int.toNat) e
      simp only [List.map_append, List.map_cons, Int.toNat_natCast] at this
      rw [← this]
      exact (hcd _).symm
    refine wpAny_mono (turn _ n _ c.1 c.2 t h tk own e2 hp F₁ N₁) (fun f s₂ hw => ?_) fun _ _ e => e
    obtain ⟨rfl, h', tk', u', v, tv, rfl, F', N', hp'⟩ := hw
    refine ⟨h', tk', _, _, news, rfl, F', N', fun p hp => List.mem_append.mpr (.inl hp), fun p hp => List.mem_append.mpr (.inr hp), rfl, (v, tv), rfl, trivial, List.forall_mem_cons.mpr ⟨by simp [hyx], List.forall_mem_nil _⟩, ?_, ?_⟩
    · intro z hz hp _
      have h2 : z ≠ y := hp (y, _) (.head _)
      simp [hz, h2]
    · show P ((pre ++ [(n : Int)]).map Int.toNat) v
      rw [List.map_append]
      exact hp'
  · intro c u h tk _ hp F₁ N₁
    have e : (fun z => if z = x then u z else PySem.W.kstB (fun z => if ([] : List PySem.Str).contains z then u z else m₀ z) [(y, Value.str c.1 c.2)] z) = fun z => if z = x then u x else if z = y then some (.str c.1 c.2) else m₀ z := by
      funext z
      by_cases h1 : z = x
      · subst h1; simp
      · by_cases h2 : z = y
        · subst h2; simp [hyx, PySem.W.kstB]
        · simp [h1, h2, PySem.W.kstB]
    rw [e] at F₁
    refine done _ c.1 c.2 h tk ?_ F₁ N₁
    have q : (PySem.W.KStt.codes xt).map Int.toNat = xt.cps.toList := hcd _
    rw [q] at hp
    exact hp
end
section
open PySem PySem.Calls PySem.NumText PySem.W.KIN PyProof.Rows
def DV.dat : DV → Dat
  | .none => .none
  | .int i => .int i
  | .str x => .str x
  | .bytes b => .bytes b
/-- the words of a value -/
def toksOf : DV → List Tk
  | .none => [.null]
  | .int i => if 0 ≤ i then [.num i.toNat] else [.neg, .num (-i).toNat]
  | .str x => [.txt x.cps.toList]
  | .bytes b => [.blob b.toList]
/-- the value's letters -/
def litS (d : DV) : Str := ⟨(letsOf (toksOf d)).toArray⟩
def OkD : DV → Prop
  | .none => True
  | .int i => -9223372036854775808 ≤ i ∧ i < 9223372036854775808
  | .str x => x.length ≤ 8
  | .bytes b => b.size ≤ 8
theorem okd_of {v : Value} (h : OkV v) : ∃ d, DV.Is d v ∧ OkD d := by
  rcases h with rfl | ⟨i, t, rfl, h1, h2⟩ | ⟨x, t, rfl, h1⟩ | ⟨b, t, rfl, h1⟩
  · exact ⟨.none, rfl, trivial⟩
  · exact ⟨.int i, ⟨_, rfl⟩, h1, h2⟩
  · exact ⟨.str x, ⟨_, rfl⟩, h1⟩
  · exact ⟨.bytes b, ⟨_, rfl⟩, h1⟩
theorem okv_of {v : Value} {d : DV} (h : DV.Is d v) (k : OkD d) : OkV v := by
  cases d with
  | none => exact .inl h
  | int i => obtain ⟨u, rfl⟩ := h; exact .inr (.inl ⟨_, _, rfl, k.1, k.2⟩)
  | str x => obtain ⟨u, rfl⟩ := h; exact .inr (.inr (.inl ⟨_, _, rfl, k⟩))
  | bytes b => obtain ⟨u, rfl⟩ := h; exact .inr (.inr (.inr ⟨_, _, rfl, k⟩))
theorem dvis_handed {d : DV} {v : Value} (h : d.Is v) : handedIn v = true := by
  cases d with
  | none => rw [show v = .none from h]; rfl
  | int i => obtain ⟨u, rfl⟩ := h; rfl
  | str x => obtain ⟨u, rfl⟩ := h; rfl
  | bytes b => obtain ⟨u, rfl⟩ := h; rfl
theorem dvis_dat {news : List (Addr × Obj)} {d : DV} {v : Value} (h : d.Is v) : DatIn news v d.dat := by
  cases d with
  | none => rw [show v = .none from h]; exact .none
  | int i => obtain ⟨u, rfl⟩ := h; exact .int _ _
  | str x => obtain ⟨u, rfl⟩ := h; exact .str _ _
  | bytes b => obtain ⟨u, rfl⟩ := h; exact .bytes _ _
theorem mk_str {x : Str} {l : List Nat} (h : x.cps.toList = l) : x = ⟨l.toArray⟩ := by
  apply Str.ext'
  apply Array.toList_inj.mp
  rw [h]
theorem lit_none : litS .none = Str.ofString "NULL" := by decide +kernel
theorem toks_nat {i : Int} (h : 0 ≤ i) : toksOf (.int i) = [.num i.toNat] := if_pos h
theorem toks_neg {i : Int} (h : ¬ 0 ≤ i) : toksOf (.int i) = [.neg, .num (-i).toNat] := if_neg h
theorem lit_nat {i : Int} (h : 0 ≤ i) : litS (.int i) = Str.ofString (toString i) := by
  obtain ⟨n, rfl⟩ := Int.eq_ofNat_of_zero_le h
  rw [digL_str]
  unfold litS
  rw [toks_nat h]
  show (⟨(digL n ++ []).toArray⟩ : Str) = _
  rw [List.append_nil]
theorem lit_neg {i : Int} (h : i < 0) : litS (.int i) = Str.ofString (toString i) := by
  obtain ⟨n, rfl⟩ : ∃ n : Nat, i = -((n : Int) + 1) := ⟨(-i).toNat - 1, by omega⟩
  have e1 : toString (-((n : Int) + 1)) = "-" ++ toString (((n + 1 : Nat) : Int)) := by
    have : (-((n : Int) + 1)) = Int.negSucc n := rfl
    rw [this]
    rfl
  have e2 : (Str.ofString ("-" ++ toString (((n + 1 : Nat) : Int)))).cps.toList = 45 :: digL (n + 1) := by
    have e3 := congrArg (fun z : Str => z.cps.toList) (digL_str (n + 1))
    simp only at e3
    rw [signs_ofString] at e3 ⊢
    rw [String.toList_append, List.map_append, e3]
    rfl
  rw [e1, mk_str e2]
  unfold litS
  rw [toks_neg (by omega)]
  show (⟨([45] ++ (digL (-(-((n : Int) + 1))).toNat ++ [])).toArray⟩ : Str) = _
  rw [show (-(-((n : Int) + 1))).toNat = n + 1 by omega, List.append_nil]
  rfl
theorem lit_int (i : Int) : litS (.int i) = Str.ofString (toString i) := by
  rcases Int.lt_or_le i 0 with h | h
  · exact lit_neg h
  · exact lit_nat h
theorem lit_str (x : Str) : litS (.str x) = ⟨(39 :: (StrLaws.dbl 39 x.cps.toList ++ [39])).toArray⟩ := by
  show (⟨(39 :: (StrLaws.dbl 39 x.cps.toList ++ [39]) ++ []).toArray⟩ : Str) = _
  rw [List.append_nil]
theorem hexL_39 (l : List UInt8) : 39 ∉ hexL l := by
  intro h
  obtain ⟨d, hd, e⟩ := hexL_mem h
  unfold hexd at e
  split at e <;> omega
theorem lit_bytes (b : Array UInt8) : litS (.bytes b) = ⟨(88 :: 39 :: (hexL b.toList ++ [39])).toArray⟩ := by
  show (⟨(88 :: 39 :: (StrLaws.dbl 39 (hexL b.toList) ++ [39]) ++ []).toArray⟩ : Str) = _
  rw [List.append_nil, StrLaws.dbl_free 39 _ (hexL_39 _)]
theorem good_val {d : DV} (h : OkD d) {r : List Tk} (hr : NextOk r) (hg : Good r) : Good (toksOf d ++ r) := by
  cases d with
  | none => exact ⟨hr, hg⟩
  | int i =>
    have h1 := h.1
    have h2 := h.2
    by_cases h0 : 0 ≤ i
    · have e : toksOf (.int i) = [.num i.toNat] := if_pos h0
      rw [e]
      exact ⟨⟨by omega, hr⟩, hg⟩
    · have e : toksOf (.int i) = [.neg, .num (-i).toNat] := if_neg h0
      rw [e]
      exact ⟨⟨_, _, rfl⟩, ⟨by omega, hr⟩, hg⟩
  | str x => exact ⟨hr, hg⟩
  | bytes b => exact ⟨hr, hg⟩
def rowD (q : Row) : Dat := .tuple [.str q.1, .str q.2.1, q.2.2.1.dat]
/-- the rows that the law awaits of a value -/
def rowsD (d : DV) : List Dat := (rowsAt (toksOf d) 0).map rowD
end
/-- what holds between the turns of the loop that lays the figures -/
def HexP (b : Array UInt8) (i : Nat) (c : List Value × Nat) : Prop :=
  ∃ xs, StrsAre c.1 xs ∧ xs.flatMap (·.cps.toList) = hexL (b.toList.take i) ∧ c.1.length ≤ 2 * i ∧ i ≤ b.size
theorem hex_start (b : Array UInt8) : HexP b 0 ([], 0) := ⟨[], .nil, rfl, Nat.le_refl _, Nat.zero_le _⟩
theorem hex_off {D : Addr} {o : Obj} {news own : List (Addr × Obj)} (ho : OwnOff own (((D, o) :: news).map (·.1))) (hl : AllLt D news) : ∀ p ∈ news ++ own, p.1 ≠ D := by
  intro p hp
  rcases List.mem_append.mp hp with h | h
  · exact allNe hl p h
  · exact ho p h D (by simp)
theorem hex_sum {b : Array UInt8} {xs : List Str} (hz : b.size ≤ 8) (h : xs.flatMap (·.cps.toList) = hexL (b.toList.take b.size)) : (xs.map (·.length)).sum ≤ 16 := by
  rw [sum_cat, h, hexL_len, List.length_take]
  omega
theorem hex_hi_lt {n : Nat} (h : n < 2 ^ 8) : n / 16 < 16 := by omega
theorem hex_hi {n : Nat} : ((n : Int)).fdiv (2 ^ Int.toNat 4) = ((n / 16 : Nat) : Int) := by
  rw [show (2 : Int) ^ Int.toNat 4 = 16 from by decide, Int.fdiv_eq_ediv_of_nonneg _ (by decide)]
  rfl
theorem hex_hi2 {n : Nat} : ((n : Int)).fdiv 16 = ((n / 16 : Nat) : Int) := by
  rw [Int.fdiv_eq_ediv_of_nonneg _ (by decide)]
  rfl
theorem hex_lo {n : Nat} : ((n : Int)).fmod 16 = ((n % 16 : Nat) : Int) := by
  rw [Int.fmod_eq_emod_of_nonneg _ (by decide)]
  rfl
theorem hex_lo2 (n : Nat) : ((n : Int)).fmod (2 ^ Int.toNat 4) = ((n % 16 : Nat) : Int) := by
  rw [show (2 : Int) ^ Int.toNat 4 = 16 from by decide]
  exact hex_lo
theorem hex_lo3 {n : Nat} (h : n < 2 ^ 8) : Builtin.bitAnd (n : Int) 15 = ((n % 16 : Nat) : Int) := by
  have : ∀ m : Fin 256, Builtin.bitAnd ((m.val : Nat) : Int) 15 = ((m.val % 16 : Nat) : Int) := by decide +kernel
  exact this ⟨n, h⟩
theorem hex_next {b : Array UInt8} {i : Nat} {k : UInt8} {vs : List Value} {n' : Nat} {xs : List Str} {t u : Tok} (hi : i < b.size) (hk : b[i]? = some k) (h1 : StrsAre vs xs) (h2 : xs.flatMap (·.cps.toList) = hexL (b.toList.take i)) (h3 : vs.length ≤ 2 * i) :
    HexP b (i + 1) (vs ++ [.str ⟨#[hexd (k.toNat / 16)]⟩ t] ++ [.str ⟨#[hexd (k.toNat % 16)]⟩ u], n') := by
  refine ⟨xs ++ [⟨#[hexd (k.toNat / 16)]⟩] ++ [⟨#[hexd (k.toNat % 16)]⟩], strs_snoc (strs_snoc h1 _ _) _ _, ?_, ?_, hi⟩
  · have e : b.toList.take (i + 1) = b.toList.take i ++ [k] := by
      rw [List.take_add_one]
      congr 1
      rw [Array.getElem?_toList, hk]
      rfl
    rw [e]
    simp only [List.flatMap_append, h2, hexL, List.flatMap_cons, List.flatMap_nil, List.append_nil, List.append_assoc]
    rfl
  · simp only [List.length_append, List.length_cons, List.length_nil]; omega
theorem hex_done {b : Array UInt8} {xs : List Str} (h : xs.flatMap (·.cps.toList) = hexL (b.toList.take b.size)) : Txt.join (Str.ofString "") xs = ⟨(hexL b.toList).toArray⟩ := by
  have e : b.toList.take b.size = b.toList := List.take_of_length_le (by simp)
  rw [e] at h
  apply Str.ext'
  apply Array.toList_inj.mp
  rw [join_cat, h]
theorem GEnd.one {h₀ : Heap} {L D : Addr} {x : Str} {m : Str → Option Value} {P : List Value × Nat → Prop} {news own : List (Addr × Obj)} {o : Obj} {s : Shared} {h' : Heap} {tk' : Nat} {u : Option Value} {vs' : List Value} {n' : Nat}
    (F : Fr h₀ L h' (fun y => if y = x then u else m y)) (N : News h₀ L h' ((D, W.listOf vs'.toArray n') :: (news ++ own))) (ho : OwnOff own (((D, o) :: news).map (·.1))) (hp : P (vs', n')) :
    GEnd h₀ L x (fun _ => m) (fun c : List Value × Nat => (D, W.listOf c.1.toArray c.2) :: news) P own s .next { s with heap := h', toks := tk' } := by
  refine GEnd.intro (vs', n') F N (fun p hp => ?_) (fun p hp => .tail _ (List.mem_append.mpr (.inr hp))) ho hp
  rcases List.mem_cons.mp hp with h | h
  · exact h ▸ .head _
  · exact .tail _ (List.mem_append.mpr (.inl h))
theorem hex_item {d : Nat} (hd : d < 16) : Txt.item (Str.ofString "0123456789ABCDEF") (d : Int) = ⟨#[hexd d]⟩ := by
  have : ∀ d : Fin 16, (Str.ofString "0123456789ABCDEF").cps.toList[d.val]? = some (hexd d.val) := by decide +kernel
  exact item_one (by omega) (by rw [Int.toNat_natCast]; exact this ⟨d, hd⟩)
theorem hex_sub {prog : Program} {w : World} {A : Around} {E : Value → Shared → Prop} {s : Shared} {value slice : PySem.Expr} {t : Tok} {u : Tok} {k : Int} {Q : Value → Shared → Prop} {d : Nat} (hd : d < 16) (hk : k = (d : Int)) (h : ∀ t' k', Q (.str ⟨#[hexd d]⟩ t') { s with toks := k' })
    (hs : subscripted slice false (.str (Str.ofString "0123456789ABCDEF") t) (.int k u) = operate [.str (Str.ofString "0123456789ABCDEF") t, .int k u] (getItem (.str (Str.ofString "0123456789ABCDEF") t) (.int k u)) := by with_unfolding_all rfl)
    (ht : ∀ r, letTemporaryGo value (.str (Str.ofString "0123456789ABCDEF") t) r = pure () := by intro _; with_unfolding_all rfl) :
    wpAny (model prog w) A (subscriptTail value slice (.str (Str.ofString "0123456789ABCDEF") t) (.int k u)) Q E s := by
  have hl : (Str.ofString "0123456789ABCDEF").length = 16 := by decide +kernel
  refine item_str (fitsSsize_of (N := 9223372036854775808) (by omega) (by omega) (Int.le_refl _)) (by omega) (by rw [hl]; omega) (fun _ => ?_) hs ht
  rw [hk, hex_item hd]
  exact h _ _
section
theorem hex_use {w : World} {mean : ExcName → Option Value} {mg mb : Str → Option Value}
  {dp un : Nat} {gd : Option (List Code)} {cn : Str} {cs : Scope} {a : Addr} {ccd : Value} {cl : List (Str × Addr)} {outer : List Env} {A₀ : Around} {base h₀ : Heap} {L : Addr} {m : Str → Option Value} {s : Shared} {Q E : Value → Shared → Prop}
  {b : Array UInt8} {tb : Tok} {news : List (Addr × Obj)}
  (X : (hd.heap_39 w.params).In h₀) (B : Below A₀ base outer h₀) (F : Fr h₀ L s.heap m) (N : News h₀ L s.heap news)
  (T : Top hd.view_39 (looseW hd.view_39 [Str.ofString "NAME_SIGNS", Str.ofString "LIKE_SIGNS", Str.ofString "GREATEST"]) mean mg mb h₀) (hk : cs.kind = .function) (hd : dp + 20 < recursionLimit) (hu : un + 200 < cLine)
  (hz : b.size ≤ 8)
  (hret : ∀ {t h' tk'}, Fr h₀ L h' m → News h₀ L h' news → Q (.str ⟨(hexL b.toList).toArray⟩ t) { s with heap := h', toks := tk' }) :
    wpAny (model PySem.Challenge.rw_pb0448_01.row.prog w) (ktrTop dp un gd cn cs L a ccd cl outer) (call (.ref 91) [.bytes b tb]) Q E s := by
  revert X; k_fill; intro X
  refine wpAny_call ?_
  k_dflt (refine' Mine.code_defL ?k1 ?k2 ?k3 ?k4 ?k5 ?kA ?kF ?kK ?k6 ?k7 ?k8 ?k9 ?kB ?_ ?c2 ?c3 ?c4 ?c5; (case kA => exact rfl); (case kF => exact rfl); (case kK => assumption); (case k1 => k_asm); (case k2 => k_asm); (case k3 => k_asm); (case k4 => k_asm); (case k5 => k_asm); (case k6 => k_is); (case k7 => k_is); (case k8 => ktr_room); (case k9 => exact BindsTo.of_eq rfl); (case c5 => decide); (case kB => exact locs rfl); (case c2 => exact rfl); (case c3 => exact rfl); (case c4 => exact rfl); k_whole; intro g' L' h' FG' F' N' B' X' T' hlt'; (try dsimp only); (try k_lift B'); (try k_fold))
  k_with_none
  k_with "exec For Name Name cons nil" => (k_here; (rename Fr _ _ _ _ => lF'); (with_unfolding_all refine' For_invVF lF' ?q1 ?q2 ?_; (case q1 => exact rfl); (case q2 => exact rfl); k_whole))
  k_with "subscriptTail" => ((with_reducible show wpAny _ _ (subscriptTail _ _ (Value.str (Str.ofString "0123456789ABCDEF") _) (Value.int _ _)) _ _ _); refine hex_sub (d := k8.toNat / 16) ?_ ?_ ?_; exact hex_hi_lt (Nat.lt_of_lt_of_le (UInt8.toNat_lt _) (Nat.le_refl _)); (first | exact hex_hi | exact hex_hi2); intro t9 k9)
  k_with "subscriptTail" => ((with_reducible show wpAny _ _ (subscriptTail _ _ (Value.str (Str.ofString "0123456789ABCDEF") _) (Value.int _ _)) _ _ _); refine hex_sub (d := k8.toNat % 16) ?_ ?_ ?_; exact Nat.mod_lt _ (Nat.le_of_ble_eq_true rfl); (first | exact hex_lo | exact hex_lo2 _ | exact hex_lo3 (UInt8.toNat_lt _)); intro t9 k9)
  k_with "pyIter bytes" => (k_here; (with_reducible show wpAny _ _ (pyIter (Value.bytes _ _)) (fun it s₂ => LoopAtV _ _ _ _ _ _ _ _ _ it s₂) _ _); (rename Fr _ _ _ _ => lF'); (rename News _ _ _ _ => lN'); (with_unfolding_all refine' Mine.bytes_grow0 (σ := List Value × Nat) (fun c => (_, W.listOf c.1.toArray c.2) :: news) (HexP b) ([], 0) (by rfl) lF' lN' (by rfl) (hex_start _) (fun i8 k8 t8 c8 h8 tk8 own8 hi8 hk8 hP8 ho8 F8' N8' => ?turn) (fun c8 u8 h8 tk8 hP8 F8' N8' => ?done)); (case' turn => (have hP9 := hP8; (obtain ⟨xs8, hxs8, hcat8, hlen8, hsz8⟩ := hP8); (have hoff9 := Mine.hex_off ho8 ?hofa); (case hofa => first | assumption | (refine allLt_of ?_; assumption)); (simp only [List.cons_append] at N8'))); (case' done => ((obtain ⟨xs8, hxs8, hcat8, hlen8, hsz8⟩ := hP8); (have hsum8 := Mine.hex_sum hz hcat8))))
  k_steps
  · rw [hex_done hcat8]
    exact hret (by assumption) (news_tail (by assumption))
  · exact GEnd.one (by assumption) (by assumption) ho8 (hex_next hi8 hk8 hxs8 hcat8 hlen8)
end
theorem hex_lenle {b : Array UInt8} (h : b.size ≤ 8) : (⟨(hexL b.toList).toArray⟩ : Str).length ≤ 16 := by
  show (hexL b.toList).toArray.size ≤ 16
  rw [List.size_toArray, hexL_len]
  simp
  omega
theorem dbl_le (l : List Nat) : (StrLaws.dbl 39 l).length ≤ 2 * l.length := by
  induction l with
  | nil => exact Nat.le_refl _
  | cons a r ih =>
    unfold StrLaws.dbl
    split <;> simp only [List.length_cons] <;> omega
theorem dbl_lenle {x : Str} (h : x.length ≤ 8) : (⟨(StrLaws.dbl 39 x.cps.toList).toArray⟩ : Str).length ≤ 16 := by
  show (StrLaws.dbl 39 x.cps.toList).toArray.size ≤ 16
  rw [List.size_toArray]
  have h1 := dbl_le x.cps.toList
  have h2 := len_cps x
  omega
theorem cat_str (x : Str) : Str.ofString "'" ++ (⟨(StrLaws.dbl 39 x.cps.toList).toArray⟩ : Str) ++ Str.ofString "'" = litS (.str x) := by
  rw [lit_str]
  apply mk_str
  rw [Str.cps_append, Str.cps_append, show Str.ofString "'" = ⟨#[39]⟩ from by decide +kernel]
  simp
theorem cat_bytes (b : Array UInt8) : Str.ofString "X'" ++ (⟨(hexL b.toList).toArray⟩ : Str) ++ Str.ofString "'" = litS (.bytes b) := by
  rw [lit_bytes]
  apply mk_str
  rw [Str.cps_append, Str.cps_append, show Str.ofString "'" = ⟨#[39]⟩ from by decide +kernel, show Str.ofString "X'" = ⟨#[88, 39]⟩ from by decide +kernel]
  simp
theorem add_s {prog : Program} {w : World} {A : Around} {E : Value → Shared → Prop} {s : Shared} {x y : Str} {t u : Tok} {Q : Value → Shared → Prop} (h1 : x.length ≤ 1000000) (h2 : y.length ≤ 1000000) (h : ∀ t' tk, Q (.str (x ++ y) t') { s with toks := tk }) :
    wpAny (model prog w) A (binaryOp .Add (.str x t) (.str y u)) Q E s := add_str h (by rw [sizeLine_eq]; omega)
theorem app_len (x y : Str) : (x ++ y).length = x.length + y.length := by
  rw [← len_cps, ← len_cps, ← len_cps, Str.cps_append, Array.toList_append, List.length_append]
section
theorem lit_use {w : World} {mean : ExcName → Option Value} {mg mb : Str → Option Value}
  {dp un : Nat} {gd : Option (List Code)} {cn : Str} {cs : Scope} {a : Addr} {ccd : Value} {cl : List (Str × Addr)} {outer : List Env} {A₀ : Around} {base h₀ : Heap} {L : Addr} {m : Str → Option Value} {s : Shared} {Q E : Value → Shared → Prop}
  {v : Value} {d : DV} {news : List (Addr × Obj)}
  (X : (hd.heap_39 w.params).In h₀) (B : Below A₀ base outer h₀) (F : Fr h₀ L s.heap m) (N : News h₀ L s.heap news)
  (T : Top hd.view_39 (looseW hd.view_39 [Str.ofString "NAME_SIGNS", Str.ofString "LIKE_SIGNS", Str.ofString "GREATEST"]) mean mg mb h₀) (hk : cs.kind = .function) (hd : dp + 40 < recursionLimit) (hu : un + 300 < cLine)
  (hv : DV.Is d v) (hd9 : OkD d)
  (hret : ∀ {t h' tk'}, Fr h₀ L h' m → News h₀ L h' news → Q (.str (litS d) t) { s with heap := h', toks := tk' }) :
    wpAny (model PySem.Challenge.rw_pb0448_01.row.prog w) (ktrTop dp un gd cn cs L a ccd cl outer) (call (.ref 105) [v]) Q E s := by
  have hv2 := okv_of hv hd9
  have hq1 : (Str.ofString "'").length = 1 := by decide +kernel
  have hq2 : (Str.ofString "X'").length = 2 := by decide +kernel
  rcases d with _ | i | x | b
  · cases hv
    revert X; k_fill; intro X
    refine wpAny_call ?_
    k_dflt (refine' Mine.code_defL ?k1 ?k2 ?k3 ?k4 ?k5 ?kA ?kF ?kK ?k6 ?k7 ?k8 ?k9 ?kB ?_ ?c2 ?c3 ?c4 ?c5; (case kA => exact rfl); (case kF => exact rfl); (case kK => assumption); (case k1 => k_asm); (case k2 => k_asm); (case k3 => k_asm); (case k4 => k_asm); (case k5 => k_asm); (case k6 => k_is); (case k7 => k_is); (case k8 => ktr_room); (case k9 => exact BindsTo.of_eq rfl); (case c5 => decide); (case kB => exact locs rfl); (case c2 => exact rfl); (case c3 => exact rfl); (case c4 => exact rfl); k_whole; intro g' L' h' FG' F' N' B' X' T' hlt'; (try dsimp only); (try k_lift B'); (try k_fold))
    k_with_none
    k_steps
    rw [← lit_none]
    exact hret (by assumption) (by assumption)
  · obtain ⟨t, rfl⟩ := hv
    have hi1 := hd9.1
    have hi2 := hd9.2
    revert X; k_fill; intro X
    refine wpAny_call ?_
    k_dflt (refine' Mine.code_defL ?k1 ?k2 ?k3 ?k4 ?k5 ?kA ?kF ?kK ?k6 ?k7 ?k8 ?k9 ?kB ?_ ?c2 ?c3 ?c4 ?c5; (case kA => exact rfl); (case kF => exact rfl); (case kK => assumption); (case k1 => k_asm); (case k2 => k_asm); (case k3 => k_asm); (case k4 => k_asm); (case k5 => k_asm); (case k6 => k_is); (case k7 => k_is); (case k8 => ktr_room); (case k9 => exact BindsTo.of_eq rfl); (case c5 => decide); (case kB => exact locs rfl); (case c2 => exact rfl); (case c3 => exact rfl); (case c4 => exact rfl); k_whole; intro g' L' h' FG' F' N' B' X' T' hlt'; (try dsimp only); (try k_lift B'); (try k_fold))
    k_with_none
    k_steps
    rw [← lit_int]
    exact hret (by assumption) (by assumption)
  · obtain ⟨t, rfl⟩ := hv
    have hx1 : x.length ≤ 8 := hd9
    have hrep := replace_dbl x (Str.ofString "'") (Str.ofString "''") 39 (by decide +kernel) (by decide +kernel)
    have hdl := dbl_lenle hx1
    revert X; k_fill; intro X
    refine wpAny_call ?_
    k_dflt (refine' Mine.code_defL ?k1 ?k2 ?k3 ?k4 ?k5 ?kA ?kF ?kK ?k6 ?k7 ?k8 ?k9 ?kB ?_ ?c2 ?c3 ?c4 ?c5; (case kA => exact rfl); (case kF => exact rfl); (case kK => assumption); (case k1 => k_asm); (case k2 => k_asm); (case k3 => k_asm); (case k4 => k_asm); (case k5 => k_asm); (case k6 => k_is); (case k7 => k_is); (case k8 => ktr_room); (case k9 => exact BindsTo.of_eq rfl); (case c5 => decide); (case kB => exact locs rfl); (case c2 => exact rfl); (case c3 => exact rfl); (case c4 => exact rfl); k_whole; intro g' L' h' FG' F' N' B' X' T' hlt'; (try dsimp only); (try k_lift B'); (try k_fold))
    k_with_none
    k_with "binaryOp Add str str" => (rw [hrep])
    k_with "binaryOp Add str str" => ((with_reducible show wpAny _ _ (binaryOp _ (Value.str _ _) (Value.str _ _)) _ _ _); refine add_s ?_ ?_ ?_; (first | omega | exact Nat.le_of_ble_eq_true rfl | (rw [app_len]; omega)); (first | omega | exact Nat.le_of_ble_eq_true rfl | (rw [app_len]; omega)); intro t9 k9)
    k_steps
    rw [cat_str]
    exact hret (by assumption) (by assumption)
  · obtain ⟨t, rfl⟩ := hv
    have hb1 : b.size ≤ 8 := hd9
    have hhl := hex_lenle hb1
    revert X; k_fill; intro X
    refine wpAny_call ?_
    k_dflt (refine' Mine.code_defL ?k1 ?k2 ?k3 ?k4 ?k5 ?kA ?kF ?kK ?k6 ?k7 ?k8 ?k9 ?kB ?_ ?c2 ?c3 ?c4 ?c5; (case kA => exact rfl); (case kF => exact rfl); (case kK => assumption); (case k1 => k_asm); (case k2 => k_asm); (case k3 => k_asm); (case k4 => k_asm); (case k5 => k_asm); (case k6 => k_is); (case k7 => k_is); (case k8 => ktr_room); (case k9 => exact BindsTo.of_eq rfl); (case c5 => decide); (case kB => exact locs rfl); (case c2 => exact rfl); (case c3 => exact rfl); (case c4 => exact rfl); k_whole; intro g' L' h' FG' F' N' B' X' T' hlt'; (try dsimp only); (try k_lift B'); (try k_fold))
    k_with_none
    k_with "binaryOp Add str str" => ((with_reducible show wpAny _ _ (binaryOp _ (Value.str _ _) (Value.str _ _)) _ _ _); refine add_s ?_ ?_ ?_; (first | omega | exact Nat.le_of_ble_eq_true rfl | (rw [app_len]; omega)); (first | omega | exact Nat.le_of_ble_eq_true rfl | (rw [app_len]; omega)); intro t9 k9)
    k_with "call ref" => (k_here; (with_reducible show wpAny _ _ (call (Value.ref 91) _) _ _ _); k_dflt (refine' Mine.hex_use ?k1z91 ?k2z91 ?k3z91 ?k4z91 ?k5z91 ?k6z91 ?k7z91 ?k8z91 ?zz91 ?_; (case k4z91 | k1z91 | k2z91 | k3z91 | k5z91 => k_asm); (case k6z91 => k_extra "r"); (case k7z91 => ktr_room); (case k8z91 => ktr_units); (case zz91 => assumption); k_whole); intro tz91' hz91' tkz91' Fz91' Nz91')
    k_steps
    rw [cat_bytes]
    exact hret (by assumption) (by assumption)
end
theorem lt_of_all {a : Prop} {D : Addr} {l : List (Addr × Obj)} (h : a ∧ AllLt D l) : ∀ p ∈ l, p.1 < D := by
  have : ∀ {l : List (Addr × Obj)}, AllLt D l → ∀ p ∈ l, p.1 < D := by
    intro l
    induction l with
    | nil => intro _ p h; cases h
    | cons q l ih =>
      intro h p hp
      rcases List.mem_cons.mp hp with rfl | hp
      · exact h.1
      · exact ih h.2 p hp
  exact this h.2
theorem news_drop4 {h₀ h : Heap} {L : Addr} {a b c d : Addr × Obj} {l : List (Addr × Obj)} (N : News h₀ L h (a :: b :: c :: d :: l)) : News h₀ L h (a :: b :: ([c] ++ l)) := news_sub N fun p hp => by
  simp only [List.mem_cons, List.cons_append, List.nil_append] at hp ⊢
  rcases hp with h | h | h | h <;> simp only [h, true_or, or_true]
theorem own_of {D : Addr} {own news : List (Addr × Obj)} (h : ∀ p ∈ news, p.1 < D) (hl : ∀ p ∈ own, @LE.le Nat _ D p.1) : OwnOff own (news.map (·.1)) := by
  intro p hp b hb e
  obtain ⟨q, hq, rfl⟩ := List.mem_map.mp hb
  have h1 : @LT.lt Nat _ q.1 D := h q hq
  have h2 := hl p hp
  rw [e] at h2
  exact absurd h1 (Nat.not_lt.mpr h2)
theorem rows_none : rowsD .none = [Dat.tuple [.str (Str.ofString "name"), .str (Str.ofString "NULL"), .str (Str.ofString "NULL")]] := rfl
theorem rows_nat {i : Int} (h : 0 ≤ i) : rowsD (.int i) = [Dat.tuple [.str (Str.ofString "number"), .str (Str.ofString ""), .int i]] := by
  unfold rowsD
  rw [toks_nat h]
  show [Dat.tuple [.str (Str.ofString "number"), .str (Str.ofString ""), .int (i.toNat : Int)]] = _
  rw [Int.toNat_of_nonneg h]
theorem rows_neg {i : Int} (h : i < 0) : rowsD (.int i) = [Dat.tuple [.str (Str.ofString "sign"), .str (Str.ofString "-"), .none], Dat.tuple [.str (Str.ofString "number"), .str (Str.ofString ""), .int (-i)]] := by
  unfold rowsD
  rw [toks_neg (by omega)]
  show [Dat.tuple [.str (Str.ofString "sign"), .str ⟨#[45]⟩, .none], Dat.tuple [.str (Str.ofString "number"), .str (Str.ofString ""), .int ((-i).toNat : Int)]] = _
  rw [Int.toNat_of_nonneg (by omega), ← lit45]
theorem rows_str (x : Str) : rowsD (.str x) = [Dat.tuple [.str (Str.ofString "text"), .str (Str.ofString ""), .str x]] := rfl
theorem rows_bytes (b : Array UInt8) : rowsD (.bytes b) = [Dat.tuple [.str (Str.ofString "blob"), .str (Str.ofString ""), .bytes b]] := rfl
theorem dbl_step {pre : List Nat} {n : Nat} {v : Str} (h : v.cps.toList = StrLaws.dbl 39 pre) (hn : ¬ n = 39) : (v ++ (⟨#[n]⟩ : Str)).cps.toList = StrLaws.dbl 39 (pre ++ [n]) := by
  rw [Str.cps_append, Array.toList_append, h, StrLaws.dbl_append]
  congr 1
  have : (39 : Nat) ∉ [n] := by simp; omega
  rw [StrLaws.dbl_free 39 [n] this]
theorem dbl_step2 {pre : List Nat} {n : Nat} {v : Str} (h : v.cps.toList = StrLaws.dbl 39 pre) (hn : n = 39) : (v ++ Str.ofString "''").cps.toList = StrLaws.dbl 39 (pre ++ [n]) := by
  subst hn
  rw [Str.cps_append, Array.toList_append, h, StrLaws.dbl_append, StrLaws.dbl_one, show Str.ofString "''" = ⟨#[39, 39]⟩ from by decide +kernel]
theorem sign39 {n : Nat} : (((⟨#[n]⟩ : Str) == Str.ofString "'") = true) ↔ n = 39 := by
  rw [show Str.ofString "'" = ⟨#[39]⟩ from by decide +kernel, beq_iff_eq]
  constructor
  · intro h
    have := congrArg (fun z : Str => z.cps.toList) h
    simpa using this
  · intro h; rw [h]
theorem pre_len {x : Str} {pre post : List Nat} {n : Nat} {v : Str} (hx : x.length ≤ 8) (e : x.cps.toList = pre ++ n :: post) (h : v.cps.toList = StrLaws.dbl 39 pre) : v.length ≤ 16 := by
  have h1 := congrArg List.length e
  rw [len_cps] at h1
  simp only [List.length_append, List.length_cons] at h1
  have h2 := dbl_le pre
  have h3 := len_cps v
  rw [h] at h3
  omega
theorem full_len {x v : Str} (hx : x.length ≤ 8) (h : v.cps.toList = StrLaws.dbl 39 x.cps.toList) : v.length ≤ 16 := by
  have h2 := dbl_le x.cps.toList
  have h3 := len_cps v
  have h4 := len_cps x
  rw [h] at h3
  omega
theorem cat_str2 {x v : Str} (h : v.cps.toList = StrLaws.dbl 39 x.cps.toList) : Str.ofString "'" ++ v ++ Str.ofString "'" = litS (.str x) := by
  rw [mk_str h, cat_str]
theorem one_len (n : Nat) : (⟨#[n]⟩ : Str).length = 1 := rfl
theorem hex_strs {b : Array UInt8} : ∀ {ys : List Value} {l : List UInt8}, ys.length = l.length → (∀ (i : Nat) (c : UInt8), l[i]? = some c → ∃ y, ys[i]? = some y ∧ ∃ t, y = .str ((⟨#[hexd (c.toNat / 16)]⟩ : Str) ++ (⟨#[hexd (c.toNat % 16)]⟩ : Str)) t) →
    ∃ xs, StrsAre ys xs ∧ xs.flatMap (·.cps.toList) = hexL l
  | [], [], _, _ => ⟨[], .nil, rfl⟩
  | [], _ :: _, h, _ => nomatch h
  | _ :: _, [], h, _ => nomatch h
  | y :: ys, c :: l, h, hk => by
    obtain ⟨y', e, t, rfl⟩ := hk 0 c rfl
    obtain rfl : y = _ := by simpa using e
    obtain ⟨xs, h1, h2⟩ := hex_strs (b := b) (ys := ys) (l := l) (by simpa using h) (fun i c' hc => hk (i + 1) c' hc)
    refine ⟨_ :: xs, .cons _ _ h1, ?_⟩
    rw [List.flatMap_cons, h2, Str.cps_append]
    rfl
theorem hex_oct {b : Array UInt8} {ys : List Value} (hl : ys.length = b.size) (hk : ∀ (i : Nat) (c : UInt8), b[i]? = some c → ∃ y, ys[i]? = some y ∧ ∃ t, y = .str ((⟨#[hexd (c.toNat / 16)]⟩ : Str) ++ (⟨#[hexd (c.toNat % 16)]⟩ : Str)) t) (hz : b.size ≤ 8) :
    ∃ xs, StrsAre ys xs ∧ Txt.join (Str.ofString "") xs = ⟨(hexL b.toList).toArray⟩ ∧ (xs.map (·.length)).sum ≤ 16 := by
  obtain ⟨xs, h1, h2⟩ := hex_strs (b := b) (ys := ys) (l := b.toList) (by simpa using hl) (fun i c hc => hk i c (by simpa using hc))
  refine ⟨xs, h1, ?_, ?_⟩
  · apply Str.ext'
    apply Array.toList_inj.mp
    rw [join_cat, h2]
  · rw [sum_cat, h2, hexL_len]
    simp
    omega
section
theorem due_use {w : World} {mean : ExcName → Option Value} {mg mb : Str → Option Value}
  {dp un : Nat} {gd : Option (List Code)} {cn : Str} {cs : Scope} {a : Addr} {ccd : Value} {cl : List (Str × Addr)} {outer : List Env} {A₀ : Around} {base h₀ : Heap} {L : Addr} {m : Str → Option Value} {s : Shared} {Q E : Value → Shared → Prop}
  {v : Value} {d : DV} {news : List (Addr × Obj)}
  (X : (hd.heap_39 w.params).In h₀) (B : Below A₀ base outer h₀) (F : Fr h₀ L s.heap m) (N : News h₀ L s.heap news)
  (T : Top hd.view_39 (looseW hd.view_39 [Str.ofString "NAME_SIGNS", Str.ofString "LIKE_SIGNS", Str.ofString "GREATEST"]) mean mg mb h₀) (hk : cs.kind = .function) (hd : dp + 40 < recursionLimit) (hu : un + 300 < cLine)
  (hv : DV.Is d v) (hd9 : OkD d)
  (hret : ∀ {tp rl n' k' vs' own t' h' tk'}, OwnOff ((tp, ({ cls := .type "tuple", data := .seq #[.str (litS d) t', .ref rl] n' } : Obj)) :: (rl, W.listOf vs'.toArray k') :: own) (news.map (·.1)) → DatAll own vs' (rowsD d) → Fr h₀ L h' m → News h₀ L h' ((tp, ({ cls := .type "tuple", data := .seq #[.str (litS d) t', .ref rl] n' } : Obj)) :: (rl, W.listOf vs'.toArray k') :: (own ++ news)) → Q (.ref tp) { s with heap := h', toks := tk' }) :
    wpAny (model PySem.Challenge.rw_pb0448_01.row.prog w) (ktrTop dp un gd cn cs L a ccd cl outer) (call (.ref 318) [v]) Q E s := by
  have hq1 : (Str.ofString "'").length = 1 := by decide +kernel
  have hq2 : (Str.ofString "X'").length = 2 := by decide +kernel
  have hq3 : (Str.ofString "''").length = 2 := by decide +kernel
  have hq4 : (Str.ofString "").length = 0 := by decide +kernel
  rcases d with _ | i | x | b
  · cases hv
    revert X; k_fill; intro X
    refine wpAny_call ?_
    k_dflt (refine' Mine.code_defL ?k1 ?k2 ?k3 ?k4 ?k5 ?kA ?kF ?kK ?k6 ?k7 ?k8 ?k9 ?kB ?_ ?c2 ?c3 ?c4 ?c5; (case kA => exact rfl); (case kF => exact rfl); (case kK => assumption); (case k1 => k_asm); (case k2 => k_asm); (case k3 => k_asm); (case k4 => k_asm); (case k5 => k_asm); (case k6 => k_is); (case k7 => k_is); (case k8 => ktr_room); (case k9 => exact BindsTo.of_eq rfl); (case c5 => decide); (case kB => exact locs rfl); (case c2 => exact rfl); (case c3 => exact rfl); (case c4 => exact rfl); k_whole; intro g' L' h' FG' F' N' B' X' T' hlt'; (try dsimp only); (try k_lift B'); (try k_fold))
    k_with_none
    k_steps
    rw [lit_none] at hret
    refine hret (own := [_]) ?off ?dat (by assumption) (by assumption)
    case off =>
      refine' own_of ?hh ?ll
      case hh => assumption
      case ll => (repeat (refine List.forall_mem_cons.mpr ⟨?_, ?_⟩; (first | exact Nat.le_refl _ | (dsimp only; omega)))); exact List.forall_mem_nil _
    case dat => exact .cons (.tuple (.head _) (.cons (.str _ _) (.cons (.str _ _) (.cons (.str _ _) .nil)))) .nil
  · obtain ⟨t, rfl⟩ := hv
    have hi1 := hd9.1
    have hi2 := hd9.2
    revert X; k_fill; intro X
    refine wpAny_call ?_
    k_dflt (refine' Mine.code_defL ?k1 ?k2 ?k3 ?k4 ?k5 ?kA ?kF ?kK ?k6 ?k7 ?k8 ?k9 ?kB ?_ ?c2 ?c3 ?c4 ?c5; (case kA => exact rfl); (case kF => exact rfl); (case kK => assumption); (case k1 => k_asm); (case k2 => k_asm); (case k3 => k_asm); (case k4 => k_asm); (case k5 => k_asm); (case k6 => k_is); (case k7 => k_is); (case k8 => ktr_room); (case k9 => exact BindsTo.of_eq rfl); (case c5 => decide); (case kB => exact locs rfl); (case c2 => exact rfl); (case c3 => exact rfl); (case c4 => exact rfl); k_whole; intro g' L' h' FG' F' N' B' X' T' hlt'; (try dsimp only); (try k_lift B'); (try k_fold))
    k_with_none
    k_steps
    · rw [rows_nat (by omega)] at hret
      rw [lit_int] at hret
      refine hret (own := [_]) ?off ?dat (by assumption) (by assumption)
      case off =>
        refine' own_of ?hh ?ll
        case hh => assumption
        case ll => (repeat (refine List.forall_mem_cons.mpr ⟨?_, ?_⟩; (first | exact Nat.le_refl _ | (dsimp only; omega)))); exact List.forall_mem_nil _
      case dat => exact .cons (.tuple (.head _) (.cons (.str _ _) (.cons (.str _ _) (.cons (.int _ _) .nil)))) .nil
    · rw [rows_neg (by omega)] at hret
      rw [lit_int] at hret
      refine hret (own := [_, _, _, _]) ?off ?dat (by assumption) (by assumption)
      case off =>
        refine' own_of ?hh ?ll
        case hh => assumption
        case ll => (repeat (refine List.forall_mem_cons.mpr ⟨?_, ?_⟩; (first | exact Nat.le_refl _ | (dsimp only; omega)))); exact List.forall_mem_nil _
      case dat => exact .cons (.tuple (.tail _ (.head _)) (.cons (.str _ _) (.cons (.str _ _) (.cons .none .nil)))) (.cons (.tuple (.tail _ (.tail _ (.tail _ (.head _)))) (.cons (.str _ _) (.cons (.str _ _) (.cons (.int _ _) .nil)))) .nil)
  · obtain ⟨t, rfl⟩ := hv
    have hx1 : x.length ≤ 8 := hd9
    revert X; k_fill; intro X
    refine wpAny_call ?_
    k_dflt (refine' Mine.code_defL ?k1 ?k2 ?k3 ?k4 ?k5 ?kA ?kF ?kK ?k6 ?k7 ?k8 ?k9 ?kB ?_ ?c2 ?c3 ?c4 ?c5; (case kA => exact rfl); (case kF => exact rfl); (case kK => assumption); (case k1 => k_asm); (case k2 => k_asm); (case k3 => k_asm); (case k4 => k_asm); (case k5 => k_asm); (case k6 => k_is); (case k7 => k_is); (case k8 => ktr_room); (case k9 => exact BindsTo.of_eq rfl); (case c5 => decide); (case kB => exact locs rfl); (case c2 => exact rfl); (case c3 => exact rfl); (case c4 => exact rfl); k_whole; intro g' L' h' FG' F' N' B' X' T' hlt'; (try dsimp only); (try k_lift B'); (try k_fold))
    k_with_none
    k_with "binaryOp Add str str" => ((with_reducible show wpAny _ _ (binaryOp _ (Value.str _ _) (Value.str _ _)) _ _ _); refine add_s ?_ ?_ ?_; (first | omega | exact Nat.le_of_ble_eq_true rfl | (rw [one_len]; omega) | (rw [app_len]; omega)); (first | omega | exact Nat.le_of_ble_eq_true rfl | (rw [one_len]; omega) | (rw [app_len]; omega)); intro t9 k9)
    k_with "exec For Name Name cons nil" => (k_here; (rename Fr _ _ _ _ => lF'); (with_unfolding_all refine' For_invVF lF' ?q1 ?q2 ?_; (case q1 => exact rfl); (case q2 => exact rfl); k_whole))
    k_with "pyIter str" => (k_here; (with_reducible show wpAny _ _ (pyIter (Value.str _ _)) (fun it s₂ => LoopAtV _ _ _ _ _ _ _ _ _ it s₂) _ _); (rename Fr _ _ _ _ => lF'); (rename News _ _ _ _ => lN'); (with_unfolding_all refine' Mine.text_acc (Str.ofString "letters") (fun pre v => v.cps.toList = StrLaws.dbl 39 pre) ?hyx (by rfl) lF' lN' ?hy ?h0 (fun pre8 n8 post8 v8 tv8 t8 h8 tk8 own8 he8 hP8 F8' N8' => ?turn) (fun u8 v8 tv8 h8 tk8 hP8 F8' N8' => ?done)); (case hyx => decide); (case hy => exact rfl); (case h0 => exact rfl); (case' turn => (have hvl8 := pre_len hx1 he8 hP8)); (case' done => (have hvl8 := full_len hx1 hP8)))
    k_steps
    · skip
      rw [← cat_str2 hP8] at hret
      refine hret (own := [_]) ?off ?dat (by assumption) (by assumption)
      case off =>
        refine' own_of ?hh ?ll
        case hh => assumption
        case ll => (repeat (refine List.forall_mem_cons.mpr ⟨?_, ?_⟩; (first | exact Nat.le_refl _ | (dsimp only; omega)))); exact List.forall_mem_nil _
      case dat => exact .cons (.tuple (.head _) (.cons (.str _ _) (.cons (.str _ _) (.cons (.str _ _) .nil)))) .nil
    · rename ((_ == _) = true) => hq9
      exact TAEnd.intro (by decide) (by assumption) (by assumption) (dbl_step2 hP8 (sign39.mp hq9))
    · rename ((_ == _) = false) => hq9
      exact TAEnd.intro (by decide) (by assumption) (by assumption) (dbl_step hP8 fun e => by rw [sign39.mpr e] at hq9; cases hq9)
  · obtain ⟨t, rfl⟩ := hv
    have hb1 : b.size ≤ 8 := hd9
    have hhl := hex_lenle hb1
    revert X; k_fill; intro X
    refine wpAny_call ?_
    k_dflt (refine' Mine.code_defL ?k1 ?k2 ?k3 ?k4 ?k5 ?kA ?kF ?kK ?k6 ?k7 ?k8 ?k9 ?kB ?_ ?c2 ?c3 ?c4 ?c5; (case kA => exact rfl); (case kF => exact rfl); (case kK => assumption); (case k1 => k_asm); (case k2 => k_asm); (case k3 => k_asm); (case k4 => k_asm); (case k5 => k_asm); (case k6 => k_is); (case k7 => k_is); (case k8 => ktr_room); (case k9 => exact BindsTo.of_eq rfl); (case c5 => decide); (case kB => exact locs rfl); (case c2 => exact rfl); (case c3 => exact rfl); (case c4 => exact rfl); k_whole; intro g' L' h' FG' F' N' B' X' T' hlt'; (try dsimp only); (try k_lift B'); (try k_fold))
    k_with_none
    k_with "binaryOp Add str str" => ((with_reducible show wpAny _ _ (binaryOp _ (Value.str _ _) (Value.str _ _)) _ _ _); refine add_s ?_ ?_ ?_; (first | omega | exact Nat.le_of_ble_eq_true rfl | (rw [one_len]; omega) | (rw [app_len]; omega)); (first | omega | exact Nat.le_of_ble_eq_true rfl | (rw [one_len]; omega) | (rw [app_len]; omega)); intro t9 k9)
    k_with "subscriptTail" => ((with_reducible show wpAny _ _ (subscriptTail _ _ (Value.str (Str.ofString "0123456789ABCDEF") _) (Value.int _ _)) _ _ _); refine hex_sub (d := c8.toNat / 16) ?_ ?_ ?_; exact hex_hi_lt (Nat.lt_of_lt_of_le (UInt8.toNat_lt _) (Nat.le_refl _)); (first | exact hex_hi | exact hex_hi2); intro t9 k9)
    k_with "subscriptTail" => ((with_reducible show wpAny _ _ (subscriptTail _ _ (Value.str (Str.ofString "0123456789ABCDEF") _) (Value.int _ _)) _ _ _); refine hex_sub (d := c8.toNat % 16) ?_ ?_ ?_; exact Nat.mod_lt _ (Nat.le_of_ble_eq_true rfl); (first | exact hex_lo | exact hex_lo2 _ | exact hex_lo3 (UInt8.toNat_lt _)); intro t9 k9)
    k_with "eval ListComp" => (k_here; k_dflt (refine' Mine.ListComp_bytes (F₀ := ?F9) ?lc1 ?lc2 ?lc3 ?lc4 ?lc5 ?_; (case F9 => k_asm); (case lc1 => with_unfolding_all rfl); (case lc2 => decide); (case lc3 => with_unfolding_all rfl); (case lc4 => decide); (case lc5 => with_unfolding_all rfl)))
    k_with "SrcB" => (k_dflt (refine' Mine.comp_octets (fun c y => ∃ t, y = .str ((⟨#[hexd (c.toNat / 16)]⟩ : Str) ++ (⟨#[hexd (c.toNat % 16)]⟩ : Str)) t) ?hh9 ?F9b ?N9b ?z9 (fun c8 t8 ys8 I8 oI8 C8 oC8 D8 m8 h8 tk8 E8 hC' hm' F' N' off' ne' => ?_) (fun h8 ys8 hl8 hk8 => ?finO); (case hh9 => rfl); (case F9b => k_asm); (case N9b => k_asm); (case z9 => omega); (case' finO => (obtain ⟨xs8, hxs8, hj8, hsum8⟩ := hex_oct hl8 hk8 hb1)); (all_goals (try dsimp only at N')); (all_goals (try simp only [LCg.Off3, and_true] at off')); (all_goals (try k_fold))))
    k_with "OctEnd" => (refine Mine.OctEnd.intro ?F9c ?N9c ⟨_, rfl⟩; (case F9c => k_asm); (case N9c => k_asm))
    k_with "binaryOp Add str str" => (rw [hj8])
    k_steps
    rw [← cat_bytes] at hret
    refine hret (own := [_]) ?off ?dat (by assumption) (news_drop4 (by assumption))
    case off =>
      refine' own_of ?hh ?ll
      case hh => exact lt_of_all (by assumption)
      case ll => (repeat (refine List.forall_mem_cons.mpr ⟨?_, ?_⟩; (first | exact Nat.le_refl _ | (dsimp only; omega)))); exact List.forall_mem_nil _
    case dat => exact .cons (.tuple (.head _) (.cons (.str _ _) (.cons (.str _ _) (.cons (.bytes _ _) .nil)))) .nil
end
theorem good1 {d : DV} (h : OkD d) : Good (toksOf d) := by
  have := good_val h (r := []) trivial trivial
  rw [List.append_nil] at this
  exact this
theorem rows_len (d : DV) : (rowsAt (toksOf d) 0).length ≤ 2 := by
  cases d with
  | none => exact Nat.le_of_ble_eq_true rfl
  | int i =>
    by_cases h : 0 ≤ i
    · rw [toks_nat h]; exact Nat.le_of_ble_eq_true rfl
    · rw [toks_neg h]; exact Nat.le_of_ble_eq_true rfl
  | str x => exact Nat.le_of_ble_eq_true rfl
  | bytes b => exact Nat.le_of_ble_eq_true rfl
theorem rowsD_len (d : DV) : (rowsD d).length ≤ 2 := by
  unfold rowsD
  rw [List.length_map]
  exact rows_len d
theorem cat_room {own : List (Addr × Obj)} {vs : List Value} {d : DV} (h : DatAll own vs (rowsD d)) : vs.length + 1 ≤ 1000000 := by
  have h1 := h.length
  have h2 := rowsD_len d
  omega
theorem dat_flat (d : DV) (n : Nat) : okD n d.dat = true := by cases d <;> cases n <;> rfl
theorem rowD_ok (q : Row) (n : Nat) : okD (n + 1) (rowD q) = true := by
  show [Dat.str q.1, Dat.str q.2.1, q.2.2.1.dat].all (okD n) = true
  simp only [List.all_cons, List.all_nil, dat_flat, Bool.and_true]
  cases n <;> rfl
theorem rows_ok (qs : List Row) : (qs.map rowD).all (okD 4) = true := by
  rw [List.all_map]
  exact List.all_eq_true.mpr fun q _ => rowD_ok q 3
theorem arr_len (l : List Nat) : (⟨l.toArray⟩ : Str).length = l.length := by
  show l.toArray.size = _
  rw [List.size_toArray]
theorem lit_len {d : DV} (h : OkD d) : (litS d).length ≤ 30 := by
  cases d with
  | none => decide +kernel
  | int i =>
    have h1 := h.1
    have h2 := h.2
    unfold litS
    by_cases h0 : 0 ≤ i
    · rw [toks_nat h0, arr_len]
      show (digL i.toNat ++ []).length ≤ 30
      have := digL_len (m := i.toNat) (by omega)
      rw [List.append_nil]
      omega
    · rw [toks_neg h0, arr_len]
      show ([45] ++ (digL (-i).toNat ++ [])).length ≤ 30
      have := digL_len (m := (-i).toNat) (by omega)
      simp only [List.length_append, List.length_cons, List.length_nil]
      omega
  | str x =>
    rw [lit_str, arr_len]
    have h1 := dbl_le x.cps.toList
    have h2 := len_cps x
    have h3 : x.length ≤ 8 := h
    simp only [List.length_append, List.length_cons, List.length_nil]
    omega
  | bytes b =>
    rw [lit_bytes, arr_len]
    have h3 : b.size ≤ 8 := h
    have h1 := hexL_len b.toList
    have h2 : b.toList.length = b.size := by simp
    simp only [List.length_append, List.length_cons, List.length_nil]
    omega
theorem WordsAre.get {P : Params} {l : List (Addr × Obj)} : ∀ {vs : List Value} {qs : List Row}, WordsAre P l vs qs → ∀ {i : Nat} {v : Value}, vs[i]? = some v → ∃ q, qs[i]? = some q ∧ IsWord P l v q
  | _, _, .cons h r, 0, v, e => by
    obtain rfl : _ = v := by simpa using e
    exact ⟨_, rfl, h⟩
  | _, _, .cons h r, i + 1, v, e => by
    obtain ⟨q, a, b⟩ := r.get (i := i) (v := v) (by simpa using e)
    exact ⟨q, by simpa using a, b⟩
theorem WordsAre.len {P : Params} {l : List (Addr × Obj)} : ∀ {vs : List Value} {qs : List Row}, WordsAre P l vs qs → vs.length = qs.length
  | _, _, .nil => rfl
  | _, _, .cons _ r => by simp [r.len]
/-- an item told by its row -/
def RowIs (f : Row → Dat) (qs : List Row) (i : Nat) (y : Value) (l : List (Addr × Obj)) : Prop := ∃ q, qs[i]? = some q ∧ DatIn l y (f q)
theorem RowIs.mono {f : Row → Dat} {qs : List Row} {i : Nat} {y : Value} {l l' : List (Addr × Obj)} (hs : ∀ p ∈ l, p ∈ l') (h : RowIs f qs i y l) : RowIs f qs i y l' :=
  let ⟨q, a, b⟩ := h
  ⟨q, a, b.mono hs⟩
theorem rows_dat {f : Row → Dat} {l : List (Addr × Obj)} : ∀ {ys : List Value} {qs : List Row}, ys.length = qs.length → (∀ i y, ys[i]? = some y → RowIs f qs i y l) → DatAll l ys (qs.map f)
  | [], [], _, _ => .nil
  | [], _ :: _, h, _ => nomatch h
  | _ :: _, [], h, _ => nomatch h
  | y :: ys, q :: qs, h, hk => by
    obtain ⟨q', a, b⟩ := hk 0 y rfl
    obtain rfl : q = q' := by simpa using a
    exact .cons b (rows_dat (by simpa using h) fun i y' hy => by
      obtain ⟨q'', a', b'⟩ := hk (i + 1) y' (by simpa using hy)
      exact ⟨q'', by simpa using a', b'⟩)
section
variable {prog : Program} {w : World} {A : Around} {E : Value → Shared → Prop} {s : Shared} {h₀ : Heap} {L a b : Addr} {m : Str → Option Value} {news : List (Addr × Obj)} {xs ys : List Value} {na nb : Nat} {Q : Value → Shared → Prop}
theorem cat_w (F : Fr h₀ L s.heap m) (N : News h₀ L s.heap news) (ma : (a, W.listOf xs.toArray na) ∈ news) (mb : (b, W.listOf ys.toArray nb) ∈ news) (hz : xs.length + ys.length ≤ 1000000)
    (h : ∀ D h', Fr h₀ L h' m → News h₀ L h' ((D, W.listOf (xs ++ ys).toArray 0) :: news) → (∀ p ∈ news, p.1 < D) → Q (.ref D) { s with heap := h' }) : wpAny (model prog w) A (binaryOp .Add (.ref a) (.ref b)) Q E s :=
  kmk_add_lit F N (PySem.IsL.isList (n := na) (N _ ma).1) (PySem.IsL.isList (n := nb) (N _ mb).1) rfl h (by show xs.length + ys.length ≤ sizeLine; rw [sizeLine_eq]; omega)
theorem ne_same {x : Str} {t u : Tok} {Q : Value → Shared → Prop} (h : Q (.bool false) s) : wpAny (model prog w) A (compareOp .NotEq (.str x t) (.str x u)) Q E s :=
  ne_str (by rw [bne_self_eq_false]; exact h)
end
theorem MapEnd.row {q : Row} {f : Row → Dat} {qs : List Row} {i : Nat} {h₀ : Heap} {L : Addr} {m : Str → Option Value} {s : Shared} {I : Addr} {oI : Obj} {C : Addr} {oC : Obj} {D : Addr} {ys : List Value} {nw : List (Addr × Obj)} {h' : Heap} {tk' : Nat} {tp : Addr} {o : Obj}
    (F : Fr h₀ L h' m) (N : News h₀ L h' ((tp, o) :: (I, oI) :: (C, oC) :: (D, LCg.lst ys) :: nw)) (hl : AllLt tp ((I, oI) :: (C, oC) :: (D, LCg.lst ys) :: nw)) (off : LCg.Off3 I C D nw) (hq : qs[i]? = some q) (hd : DatIn ((tp, o) :: nw) (.ref tp) (f q)) :
    MapEnd (fun y l => RowIs f qs i y l) h₀ L m s I oI C oC D ys nw (.ref tp) { s with heap := h', toks := tk' } := by
  refine MapEnd.intro ((tp, o) :: nw) F N (fun p hp => ?_) (off3_ne hl off) (fun p hp => .tail _ hp) ⟨q, hq, hd⟩
  simp only [List.mem_cons] at hp ⊢
  rcases hp with h | h | h | h | h <;> simp only [h, true_or, or_true]
section
theorem vright_use {w : World} {mean : ExcName → Option Value} {mg mb : Str → Option Value}
  {dp un : Nat} {gd : Option (List Code)} {cn : Str} {cs : Scope} {a : Addr} {ccd : Value} {cl : List (Str × Addr)} {outer : List Env} {A₀ : Around} {base h₀ : Heap} {L : Addr} {m : Str → Option Value} {s : Shared} {Q E : Value → Shared → Prop}
  {v : Value} {d : DV} {news : List (Addr × Obj)}
  (X : (hd.heap_39 w.params).In h₀) (B : Below A₀ base outer h₀) (F : Fr h₀ L s.heap m) (N : News h₀ L s.heap news)
  (T : Top hd.view_39 (looseW hd.view_39 [Str.ofString "NAME_SIGNS", Str.ofString "LIKE_SIGNS", Str.ofString "GREATEST"]) mean mg mb h₀) (hk : cs.kind = .function) (hd : dp + 200 < recursionLimit) (hu : un + 1500 < cLine)
  (hv : DV.Is d v) (hd9 : OkD d)
  (hret : ∀ {h' tk'}, Fr h₀ L h' m → News h₀ L h' news → Q (.bool true) { s with heap := h', toks := tk' }) :
    wpAny (model PySem.Challenge.rw_pb0448_01.row.prog w) (ktrTop dp un gd cn cs L a ccd cl outer) (call (.ref 323) [v]) Q E s := by
  have hql9 : (rowsAt (toksOf d) 0 ++ [(Str.ofString "end", Str.ofString "", DV.none, ((litS d).length : Int))]).length ≤ 100000 := by
    rw [List.length_append]
    exact Nat.le_trans (Nat.add_le_add_right (rows_len d) _) (Nat.le_of_ble_eq_true rfl)
  revert X; k_fill; intro X
  refine wpAny_call ?_
  k_dflt (refine' Mine.code_defL ?k1 ?k2 ?k3 ?k4 ?k5 ?kA ?kF ?kK ?k6 ?k7 ?k8 ?k9 ?kB ?_ ?c2 ?c3 ?c4 ?c5; (case kA => exact rfl); (case kF => exact rfl); (case kK => assumption); (case k1 => k_asm); (case k2 => k_asm); (case k3 => k_asm); (case k4 => k_asm); (case k5 => k_asm); (case k6 => k_is); (case k7 => k_is); (case k8 => ktr_room); (case k9 => exact BindsTo.of_eq rfl); (case c5 => decide); (case kB => exact locs rfl); (case c2 => exact rfl); (case c3 => exact rfl); (case c4 => exact rfl); k_whole; intro g' L' h' FG' F' N' B' X' T' hlt'; (try dsimp only); (try k_lift B'); (try k_fold))
  k_with_none
  k_with "call ref" => ((with_reducible show wpAny _ _ (call (Value.ref 318) _) _ _ _); k_dflt (refine' Mine.due_use ?dk1 ?dk2 ?dk3 ?dk4 ?dk5 ?dk6 ?dk7 ?dk8 ?dv ?dd ?_; (case dk4 => k_asm); (case dv => assumption); (case dd => assumption); (case dk1 => k_asm); (case dk2 => k_asm); (case dk3 => k_asm); (case dk5 => k_asm); (case dk6 => first | exact rfl | assumption); (case dk7 => ktr_room); (case dk8 => ktr_units); k_whole); intro tp7 rl7 n7 k7 vs7 own7 t7 h7 tk7 hoff7 hdat7 F7 N7)
  k_with "compareOp NotEq str str" => (refine Mine.ne_same ?_)
  k_with "binaryOp Add ref ref" => ((rename DatAll _ _ (rowsD d) => hdt9); k_dflt (refine' Mine.cat_w ?cF ?cN ?ca ?cb ?cz ?_; (case cF => k_asm); (case cN => k_asm); (case ca => exact .tail _ (.tail _ (.tail _ (hs8 _ (hs9 _ (.tail _ (.head _))))))); (case cb => exact .head _); (case cz => exact cat_room hdt9); k_whole); intro D9 h9c F9c N9c l9c)
  k_with "call ref" => ((with_reducible show wpAny _ _ (call (Value.ref 287) _) _ _ _); k_dflt (refine' Mine.words_use (toks := toksOf d) ?wk1 ?wk2 ?wk3 ?wk4 ?wk5 ?wk6 ?wk7 ?wk8 ?wT ?wG ?wz ?_; (case wk4 => k_asm); (case wT => rfl); (case wG => exact good1 hd9); (case wz => exact Nat.le_trans (lit_len hd9) (Nat.le_of_ble_eq_true rfl)); (case wk1 => k_asm); (case wk2 => k_asm); (case wk3 => k_asm); (case wk5 => k_asm); (case wk6 => first | exact rfl | assumption); (case wk7 => ktr_room); (case wk8 => ktr_units); k_whole); intro fa9 vs9 k9 nw9 h9 tk9 hs9 hm9 hw9 F9 N9)
  k_with "call ref" => ((with_reducible show wpAny _ _ (call (Value.ref 168) _) _ _ _); k_dflt (refine' Mine.row_use ?rk1 ?rk2 ?rk3 ?rk4 ?rk5 ?rk6 ?rk7 ?rk8 ?rw ?rv ?_; (case rk4 => k_asm); (case rw => assumption); (case rv => exact dvis_handed (by assumption)); (case rk1 => k_asm); (case rk2 => k_asm); (case rk3 => k_asm); (case rk5 => k_asm); (case rk6 => first | exact rfl | assumption); (case rk7 => ktr_room); (case rk8 => ktr_units); k_whole); intro tp9 n9 h9 tk9 hl9 F9 N9)
  k_with "eval ListComp" => (k_here; k_dflt (refine' LCg.ListComp_U (F₀ := ?F9u) ?lu1 ?lu2 ?lu3 ?lu4 ?lu5 ?_; (case F9u => k_asm); (case lu1 => with_unfolding_all rfl); (case lu2 => decide); (case lu3 => with_unfolding_all rfl); (case lu4 => decide); (case lu5 => with_unfolding_all rfl)))
  k_with "CompSrc" => (k_dflt (refine' Mine.comp_map (fun i y l => Mine.RowIs rowD (rowsAt (toksOf d) 0 ++ [(Str.ofString "end", Str.ofString "", DV.none, ((litS d).length : Int))]) i y l) ?mo9 ?hh9 ?cF9 ?cN9 ?cm9 ?cz9 (fun i8 v8 ys8 I8 oI8 C8 oC8 D8 m8 nw8 h8 tk8 E8 hv8 hC' hm' F' N' off' ne' hs8 => ?ct) (fun h8 ys8 nw8 hl8 hs8 hr8 => ?cf); (case mo9 => exact fun h k => Mine.RowIs.mono h k); (case hh9 => rfl); (case cF9 => k_asm); (case cN9 => k_asm); (case cm9 => assumption); (case cz9 => exact Nat.le_trans (Nat.le_of_eq hw9.len) hql9); (case' ct => (obtain ⟨q8, hq8, wd8, vv8, u8, u8', hve8, hd8, hwd8⟩ := hw9.get hv8; subst hve8; have hwi8 := (hwd8.mono hs8).mono (news' := (I8, oI8) :: (C8, oC8) :: (D8, LCg.lst ys8) :: nw8) (fun _ h => .tail _ (.tail _ (.tail _ h))); obtain ⟨dwd8, z1, z2, z3, z4, ztp, hwm8, hwm8'⟩ := id hwi8)); (case' cf => (have hdl9 := rows_dat (hl8.trans hw9.len) hr8)); (all_goals (try k_fold))))
  k_with "compareOp Eq ref ref" => ((rename DatAll _ _ (rowsD d) => hdt9); k_dflt (refine' Mine.eq_lists ?eN ?ea ?eb hdl9 ?eD ?es1 (fun _ h => h) ?ek ?eu ?_; (case eN => k_asm); (case ea => exact .tail _ (.tail _ (.tail _ (.head _)))); (case eb => exact .head _); (case es1 => exact fun _ h => .tail _ (.tail _ (.tail _ (.tail _ h)))); (case eD => (rw [List.map_append]; refine DatAll.append (DatAll.mono ?eds hdt9) (DatAll.one (DatIn.tuple (.tail _ (.tail _ (.head _))) (.cons (.str _ _) (.cons (.str _ _) (.cons .none .nil))))); exact fun p hp => .tail _ (.tail _ (.tail _ (.tail _ (hs8 _ (hs9 _ (.tail _ (.tail _ (List.mem_append.mpr (.inl hp)))))))))) ); (case ek => exact rows_ok _); (case eu => ktr_units); k_whole))
  k_with "call ref" => (k_here; (with_reducible show wpAny _ _ (call (Value.ref 105) _) _ _ _); k_dflt (refine' Mine.lit_use ?k1z105 ?k2z105 ?k3z105 ?k4z105 ?k5z105 ?k6z105 ?k7z105 ?k8z105 ?vz105 ?dz105 ?_; (case k4z105 => k_asm); (case vz105 | dz105 => assumption); (case k1z105 | k2z105 | k3z105 | k5z105 => k_asm); (case k6z105 => k_extra "r"); (case k7z105 => ktr_room); (case k8z105 => ktr_units); k_whole); intro tz105' hz105' tkz105' Fz105' Nz105')
  k_steps
  · exact hret (by assumption) (news_sub (by assumption) fun p hp => .tail _ (.tail _ (.tail _ (.tail _ (hs8 _ (hs9 _ (.tail _ (.tail _ (List.mem_append.mpr (.inr hp))))))))))
  · exact MapEnd.row F9 N9 hl9 off' hq8 (.tuple (.head _) (.cons (.str _ _) (.cons (.str _ _) (.cons (dvis_dat hd8) .nil))))
end
def joinT : List DV → List Tk
  | [] => []
  | [d] => toksOf d
  | d :: e :: r => toksOf d ++ (.comma :: .blank :: joinT (e :: r))
theorem joinT_snoc (d : DV) : ∀ (l : List DV), l ≠ [] → joinT (l ++ [d]) = joinT l ++ (.comma :: .blank :: toksOf d)
  | [], h => absurd rfl h
  | [a], _ => rfl
  | a :: b :: r, _ => by
    have := joinT_snoc d (b :: r) (by simp)
    show toksOf a ++ (.comma :: .blank :: joinT ((b :: r) ++ [d])) = (toksOf a ++ (.comma :: .blank :: joinT (b :: r))) ++ _
    rw [this]
    simp
theorem letsOf_append (a b : List Tk) : letsOf (a ++ b) = letsOf a ++ letsOf b := by simp [letsOf]
theorem rowsAt_append (a b : List Tk) (p : Int) : rowsAt (a ++ b) p = rowsAt a p ++ rowsAt b (p + (letsOf a).length) := by
  induction a generalizing p with
  | nil => simp [rowsAt, letsOf]
  | cons t r ih =>
    show rowAt t p ++ rowsAt (r ++ b) (p + t.lets.length) = (rowAt t p ++ rowsAt r (p + t.lets.length)) ++ _
    rw [ih, List.append_assoc, letsOf_cons, List.length_append, Int.natCast_add, Int.add_assoc]
theorem good_join : ∀ {ds : List DV}, (∀ d ∈ ds, OkD d) → Good (joinT ds)
  | [], _ => trivial
  | [d], h => good1 (h d (.head _))
  | d :: e :: r, h => good_val (h d (.head _)) (r := .comma :: .blank :: joinT (e :: r)) trivial ⟨⟨_, rfl⟩, trivial, good_join fun x hx => h x (.tail _ hx)⟩
def dueD (q : Row) : Dat := .tuple [rowD q, .int q.2.2.2]
/-- the rows of a value: one, or two, the second just behind the first's one sign -/
theorem due_split (d : DV) : (∃ r, rowsD d = [r] ∧ ∀ p, (rowsAt (toksOf d) p).map dueD = [.tuple [r, .int p]]) ∨
    (∃ r r', rowsD d = [r, r'] ∧ ∀ p, (rowsAt (toksOf d) p).map dueD = [.tuple [r, .int p], .tuple [r', .int (p + 1)]]) := by
  cases d with
  | none => exact .inl ⟨_, rfl, fun _ => rfl⟩
  | int i =>
    by_cases h : 0 ≤ i
    · refine .inl ⟨rowD (Str.ofString "number", Str.ofString "", .int (i.toNat : Int), 0), ?_, fun p => ?_⟩
      · unfold rowsD; rw [toks_nat h]; rfl
      · rw [toks_nat h]; rfl
    · refine .inr ⟨rowD (Str.ofString "sign", ⟨#[45]⟩, .none, 0), rowD (Str.ofString "number", Str.ofString "", .int ((-i).toNat : Int), 0), ?_, fun p => ?_⟩
      · unfold rowsD; rw [toks_neg h]; rfl
      · rw [toks_neg h]; rfl
  | str x => exact .inl ⟨_, rfl, fun _ => rfl⟩
  | bytes b => exact .inl ⟨_, rfl, fun _ => rfl⟩
theorem dueD_ok (q : Row) : okD 4 (dueD q) = true := by
  show [rowD q, Dat.int q.2.2.2].all (okD 3) = true
  simp only [List.all_cons, List.all_nil, rowD_ok, Bool.and_true]
  rfl
theorem dues_ok (qs : List Row) : (qs.map dueD).all (okD 4) = true := by
  rw [List.all_map]
  exact List.all_eq_true.mpr fun q _ => dueD_ok q
theorem lit_lets (d : DV) : (litS d).cps.toList = letsOf (toksOf d) := rfl
/-- the values, told -/
def ValsAre (vs : List Value) (ds : List DV) : Prop := vs.length = ds.length ∧ ∀ (j : Nat) (v : Value), vs[j]? = some v → ∃ d, ds[j]? = some d ∧ d.Is v ∧ OkD d
theorem vals_of : ∀ {vs : List Value}, (∀ v ∈ vs, OkV v) → ∃ ds, ValsAre vs ds ∧ ∀ d ∈ ds, OkD d
  | [], _ => ⟨[], ⟨rfl, fun j v h => by simp at h⟩, fun _ h => nomatch h⟩
  | v :: vs, h => by
    obtain ⟨ds, ⟨h1, h2⟩, h3⟩ := vals_of (vs := vs) fun x hx => h x (.tail _ hx)
    obtain ⟨d, a, b⟩ := okd_of (h v (.head _))
    refine ⟨d :: ds, ⟨by simp [h1], fun j x hj => ?_⟩, fun e he => by rcases List.mem_cons.mp he with rfl | he; exact b; exact h3 e he⟩
    cases j with
    | zero => obtain rfl : v = x := by simpa using hj
              exact ⟨d, rfl, a, b⟩
    | succ j => obtain ⟨e, k1, k2⟩ := h2 j x (by simpa using hj)
                exact ⟨e, by simpa using k1, k2⟩
theorem take_snoc {ds : List DV} {i : Nat} {d : DV} (h : ds[i]? = some d) : ds.take (i + 1) = ds.take i ++ [d] := by
  rw [List.take_add_one, h]; rfl
theorem first_step {ds : List DV} {d : DV} (h : ds[0]? = some d) : joinT (ds.take 1) = toksOf d := by
  rw [take_snoc h]; rfl
theorem next_step {ds : List DV} {i : Nat} {d : DV} (hi : 0 < i) (h : ds[i]? = some d) : joinT (ds.take (i + 1)) = joinT (ds.take i) ++ (.comma :: .blank :: toksOf d) := by
  rw [take_snoc h]
  refine joinT_snoc d _ fun e => ?_
  have h1 := congrArg List.length e
  rw [List.length_take] at h1
  have h2 := (List.getElem?_eq_some_iff.mp h).1
  rw [List.length_nil] at h1
  omega
theorem join_strs {sep : Str} : ∀ (ds : List DV), (Str.ofString ", ").cps.toList = [44, 32] → (Str.join (Str.ofString ", ") (ds.map litS)).cps.toList = letsOf (joinT ds)
  | [], _ => rfl
  | [d], _ => rfl
  | d :: e :: r, hs => by
    have := join_strs (sep := sep) (e :: r) hs
    show (litS d ++ Str.ofString ", " ++ Str.join (Str.ofString ", ") ((e :: r).map litS)).cps.toList = letsOf (toksOf d ++ (.comma :: .blank :: joinT (e :: r)))
    rw [Str.cps_append, Array.toList_append, Str.cps_append, Array.toList_append, hs, this, letsOf_append, lit_lets]
    simp [letsOf, Tk.lets]
theorem join_all (ds : List DV) : (Txt.join (Str.ofString ", ") (ds.map litS)).cps.toList = letsOf (joinT ds) := by
  show (Builtin.Str.glued (Str.ofString ", ") (ds.map litS)).cps.toList = _
  rw [StrLaws.glued_eq_join]
  exact join_strs (sep := Str.ofString ", ") ds (by decide +kernel)
theorem lets_le : ∀ {ds : List DV}, (∀ d ∈ ds, OkD d) → (letsOf (joinT ds)).length ≤ 32 * ds.length
  | [], _ => Nat.le_refl _
  | [d], h => by
    have h1 := lit_len (h d (.head _))
    have h2 := len_cps (litS d)
    rw [lit_lets] at h2
    show (letsOf (toksOf d)).length ≤ 32 * 1
    omega
  | d :: e :: r, h => by
    have h1 := lit_len (h d (.head _))
    have h2 := len_cps (litS d)
    rw [lit_lets] at h2
    have h3 := lets_le (ds := e :: r) fun x hx => h x (.tail _ hx)
    show (letsOf (toksOf d ++ (.comma :: .blank :: joinT (e :: r)))).length ≤ _
    rw [letsOf_append, List.length_append]
    have h4 : (letsOf (.comma :: .blank :: joinT (e :: r))).length = 2 + (letsOf (joinT (e :: r))).length := by
      rw [letsOf_cons, letsOf_cons]; simp [Tk.lets]; omega
    rw [h4]
    simp only [List.length_cons] at h3 ⊢
    omega
theorem rows_le (l : List Tk) (p : Int) : (rowsAt l p).length ≤ l.length := by
  induction l generalizing p with
  | nil => exact Nat.le_refl _
  | cons t r ih =>
    show (rowAt t p ++ rowsAt r (p + t.lets.length)).length ≤ _
    have := ih (p + t.lets.length)
    have h2 : (rowAt t p).length ≤ 1 := by unfold rowAt; split <;> simp
    rw [List.length_append, List.length_cons]
    omega
theorem toks_le : ∀ (ds : List DV), (joinT ds).length ≤ 4 * ds.length
  | [] => Nat.le_refl _
  | [d] => by
    have : (toksOf d).length ≤ 2 := by
      cases d with
      | int i => by_cases h : 0 ≤ i; rw [toks_nat h]; exact Nat.le_of_ble_eq_true rfl; rw [toks_neg h]; exact Nat.le_refl _
      | _ => exact Nat.le_of_ble_eq_true rfl
    show (toksOf d).length ≤ 4 * 1
    omega
  | d :: e :: r => by
    have h1 : (toksOf d).length ≤ 2 := by
      cases d with
      | int i => by_cases h : 0 ≤ i; rw [toks_nat h]; exact Nat.le_of_ble_eq_true rfl; rw [toks_neg h]; exact Nat.le_refl _
      | _ => exact Nat.le_of_ble_eq_true rfl
    have h3 := toks_le (e :: r)
    show (toksOf d ++ (.comma :: .blank :: joinT (e :: r))).length ≤ _
    rw [List.length_append]
    simp only [List.length_cons] at h3 ⊢
    omega
section
open PySem PySem.Calls PyProof.Rows PyProof.V PySem.Spec
variable {prog : Program} {w : World} {A : Around} {E : Value → Shared → Prop} {s : Shared} {env : Env} {h₀ : Heap} {x : PySem.Str} {body : List Stmt} {Q : Flow → Shared → Prop}
theorem range_growN {σ : Type} {r : Addr} {n : Nat} {t₀ u₀ v₀ : Tok} {m₀ : PySem.Str → Option Value} {news : List (Addr × Obj)} (mm : σ → PySem.Str → Option Value) (Led : σ → List (Addr × Obj)) (P : Nat → σ → Prop) (c₀ : σ)
    (hn : n ≤ 1000) (hh : A.handled = none) (hr : IsRange s.heap r 0 (n : Int) 1 t₀ u₀ v₀) (F : Fr h₀ env.locals s.heap m₀) (N : News h₀ env.locals s.heap news) (hm : mm c₀ = m₀) (hl : Led c₀ = news) (hp : P 0 c₀)
    (turn : ∀ (i : Nat) t c h tk own, i < n → P i c → OwnOff own ((Led c).map (·.1)) → Fr h₀ env.locals h (fun y => if y = x then some (.int (0 + (i : Int)) t) else mm c y) → News h₀ env.locals h (Led c ++ own) →
      wpAny (model prog w) A (execs body env) (GEnd h₀ env.locals x mm Led (P (i + 1)) own { s with heap := h, toks := tk }) E { s with heap := h, toks := tk })
    (done : ∀ c u h tk, P n c → Fr h₀ env.locals h (fun y => if y = x then u else mm c y) → News h₀ env.locals h (Led c) → Q .next { s with heap := h, toks := tk }) :
    wpAny (model prog w) A (pyIter (.ref r)) (fun it s₂ => LoopAtV prog w A h₀ env x body Q E it s₂) E s :=
  range_grow mm Led P c₀ hh hr (small_one (by omega) (by omega) (by omega) (by omega)) (by rw [rangeSize_nat]; simp) F N hm hl hp turn done
end
structure AS where
  text : Str
  tt : Tok
  l : Option Value
  r : Option Value
  sp : Option Value
  dvs : List Value
  dk : Nat
  led : List (Addr × Obj)
abbrev asM (m₀ : Str → Option Value) (c : AS) : Str → Option Value := fun y => if y = Str.ofString "text" then some (.str c.text c.tt) else if y = Str.ofString "letters" then c.l else if y = Str.ofString "rows" then c.r else if y = Str.ofString "spot" then c.sp else m₀ y
abbrev asL (da : Addr) (c : AS) : List (Addr × Obj) := (da, W.listOf c.dvs.toArray c.dk) :: c.led
def asP (news : List (Addr × Obj)) (da : Addr) (ds : List DV) (i : Nat) (c : AS) : Prop :=
  c.text.cps.toList = letsOf (joinT (ds.take i)) ∧ DatAll c.led c.dvs ((rowsAt (joinT (ds.take i)) 0).map dueD) ∧ (∀ p ∈ news, p ∈ c.led) ∧ (∀ p ∈ c.led, p.1 ≠ da) ∧ c.dvs.length ≤ 3 * i ∧ c.text.length ≤ 40 * i
theorem as_start {m₀ : Str → Option Value} {T : Str} {tt : Tok} (h : m₀ (Str.ofString "text") = some (.str T tt)) {dvs : List Value} {dk : Nat} {led : List (Addr × Obj)} :
    asM m₀ ⟨T, tt, m₀ (Str.ofString "letters"), m₀ (Str.ofString "rows"), m₀ (Str.ofString "spot"), dvs, dk, led⟩ = m₀ := by
  funext y
  unfold asM
  split
  · rename_i e; subst e; exact h.symm
  · split
    · rename_i e; subst e; rfl
    · split
      · rename_i e; subst e; rfl
      · split
        · rename_i e; subst e; rfl
        · rfl
theorem AEnd.intro {news : List (Addr × Obj)} {da : Addr} {ds : List DV} {i' : Nat} {h₀ : Heap} {L : Addr} {m₀ f : Str → Option Value} {own nw led' : List (Addr × Obj)} {o : Obj} {s : Shared} {h' : Heap} {tk' : Nat} {T : Str} {tt : Tok} {dvs' : List Value} {dk' : Nat}
    (F : Fr h₀ L h' f) (e1 : f (Str.ofString "text") = some (.str T tt)) (e2 : ∀ y, y ≠ Str.ofString "at" → y ≠ Str.ofString "text" → y ≠ Str.ofString "letters" → y ≠ Str.ofString "rows" → y ≠ Str.ofString "spot" → f y = m₀ y)
    (N : News h₀ L h' nw) (h1 : ∀ p ∈ (da, W.listOf dvs'.toArray dk') :: led', p ∈ nw) (h2 : ∀ p ∈ own, p ∈ nw) (h3 : OwnOff own (((da, o) :: led').map (·.1)))
    (hp : ∀ l r sp, asP news da ds i' ⟨T, tt, l, r, sp, dvs', dk', led'⟩) : GEnd h₀ L (Str.ofString "at") (asM m₀) (asL da) (asP news da ds i') own s .next { s with heap := h', toks := tk' } := by
  refine GEnd.intro (u := f (Str.ofString "at")) ⟨T, tt, f (Str.ofString "letters"), f (Str.ofString "rows"), f (Str.ofString "spot"), dvs', dk', led'⟩ ?_ N h1 h2 h3 (hp _ _ _)
  have e : (fun y => if y = Str.ofString "at" then f (Str.ofString "at") else asM m₀ ⟨T, tt, f (Str.ofString "letters"), f (Str.ofString "rows"), f (Str.ofString "spot"), dvs', dk', led'⟩ y) = f := by
    funext y
    by_cases k0 : y = Str.ofString "at"
    · subst k0; simp
    · rw [if_neg k0]
      unfold asM
      by_cases k1 : y = Str.ofString "text"
      · rw [if_pos k1, k1]; exact e1.symm
      · rw [if_neg k1]
        by_cases k2 : y = Str.ofString "letters"
        · rw [if_pos k2, k2]
        · rw [if_neg k2]
          by_cases k3 : y = Str.ofString "rows"
          · rw [if_pos k3, k3]
          · rw [if_neg k3]
            by_cases k4 : y = Str.ofString "spot"
            · rw [if_pos k4, k4]
            · rw [if_neg k4]; exact (e2 y k0 k1 k2 k3 k4).symm
  rw [e]; exact F
theorem due_cases {own : List (Addr × Obj)} {vs : List Value} {d : DV} (h : DatAll own vs (rowsD d)) :
    (∃ v r, vs = [v] ∧ DatIn own v r ∧ ∀ p, (rowsAt (toksOf d) p).map dueD = [.tuple [r, .int p]]) ∨
    (∃ v v' r r', vs = [v, v'] ∧ DatIn own v r ∧ DatIn own v' r' ∧ ∀ p, (rowsAt (toksOf d) p).map dueD = [.tuple [r, .int p], .tuple [r', .int (p + 1)]]) := by
  rcases due_split d with ⟨r, e, k⟩ | ⟨r, r', e, k⟩
  · rw [e] at h
    cases h with
    | cons h1 h2 => cases h2; exact .inl ⟨_, _, rfl, h1, k⟩
  · rw [e] at h
    cases h with
    | cons h1 h2 =>
      cases h2 with
      | cons h3 h4 => cases h4; exact .inr ⟨_, _, _, _, rfl, h1, h3, k⟩
section
variable {h₀ h : Heap} {L : Addr} {a b c d e : Addr × Obj} {own R : List (Addr × Obj)}
theorem rearrA (N : News h₀ L h (a :: b :: (own ++ (c :: R)))) : News h₀ L h (c :: a :: b :: (own ++ R)) := news_sub N fun p hp => by
  simp only [List.mem_cons, List.mem_append] at hp ⊢
  rcases hp with h | h | h | h | h <;> simp only [h, true_or, or_true]
theorem rearrB (N : News h₀ L h (a :: b :: (own ++ (d :: e :: c :: R)))) : News h₀ L h (c :: a :: b :: d :: e :: (own ++ R)) := news_sub N fun p hp => by
  simp only [List.mem_cons, List.mem_append] at hp ⊢
  rcases hp with h | h | h | h | h | h | h <;> simp only [h, true_or, or_true]
theorem offA (h : OwnOff (a :: b :: own) ((c :: R).map (·.1))) (hR : ∀ p ∈ R, p.1 ≠ c.1) : (@Ne Nat a.1 c.1) ∧ (@Ne Nat b.1 c.1) ∧ ∀ p ∈ own ++ R, p.1 ≠ c.1 :=
  ⟨h a (.head _) c.1 (by simp), h b (.tail _ (.head _)) c.1 (by simp), fun p hp => (List.mem_append.mp hp).elim (fun k => h p (.tail _ (.tail _ k)) c.1 (by simp)) (hR p)⟩
theorem offB (h : OwnOff (a :: b :: own) ((d :: e :: c :: R).map (·.1))) (hR : ∀ p ∈ R, p.1 ≠ c.1) : (@Ne Nat a.1 c.1) ∧ (@Ne Nat b.1 c.1) ∧ ∀ p ∈ own ++ R, p.1 ≠ c.1 :=
  ⟨h a (.head _) c.1 (by simp), h b (.tail _ (.head _)) c.1 (by simp), fun p hp => (List.mem_append.mp hp).elim (fun k => h p (.tail _ (.tail _ k)) c.1 (by simp)) (hR p)⟩
end
section
variable {prog : Program} {w : World} {A : Around} {E : Value → Shared → Prop} {s : Shared} {env : Env} {h₀ : Heap} {x : PySem.Str} {body : List Stmt} {Q : Flow → Shared → Prop}
theorem all_loop {r da : Addr} {n dk₀ : Nat} {t₀ u₀ v₀ : Tok} {m₀ : PySem.Str → Option Value} {news : List (Addr × Obj)} {ds : List DV} {T₀ : Str} {tt₀ : Tok}
    (hn : n ≤ 1000) (hh : A.handled = none) (hr : IsRange s.heap r 0 (n : Int) 1 t₀ u₀ v₀) (F : Fr h₀ env.locals s.heap m₀) (N : News h₀ env.locals s.heap ((da, W.listOf (#[] : Array Value) dk₀) :: news)) (hm : m₀ (Str.ofString "text") = some (.str T₀ tt₀)) (hT : T₀.cps.toList = []) (hT0 : T₀.length = 0) (hoff : ∀ p ∈ news, p.1 ≠ da)
    (turn : ∀ (i : Nat) t T tt l r sp dvs dk led h tk own, i < n → asP news da ds i ⟨T, tt, l, r, sp, dvs, dk, led⟩ → OwnOff own (((da, W.listOf dvs.toArray dk) :: led).map (·.1)) → Fr h₀ env.locals h (fun y => if y = x then some (.int (0 + (i : Int)) t) else asM m₀ ⟨T, tt, l, r, sp, dvs, dk, led⟩ y) → News h₀ env.locals h ((da, W.listOf dvs.toArray dk) :: (led ++ own)) →
      wpAny (model prog w) A (execs body env) (GEnd h₀ env.locals x (asM m₀) (asL da) (asP news da ds (i + 1)) own { s with heap := h, toks := tk }) E { s with heap := h, toks := tk })
    (done : ∀ T tt l r sp dvs dk led u h tk, asP news da ds n ⟨T, tt, l, r, sp, dvs, dk, led⟩ → Fr h₀ env.locals h (fun y => if y = x then u else asM m₀ ⟨T, tt, l, r, sp, dvs, dk, led⟩ y) → News h₀ env.locals h ((da, W.listOf dvs.toArray dk) :: led) → Q .next { s with heap := h, toks := tk }) :
    wpAny (model prog w) A (pyIter (.ref r)) (fun it s₂ => LoopAtV prog w A h₀ env x body Q E it s₂) E s :=
  range_growN (asM m₀) (asL da) (asP news da ds) ⟨T₀, tt₀, m₀ (Str.ofString "letters"), m₀ (Str.ofString "rows"), m₀ (Str.ofString "spot"), [], dk₀, news⟩ hn hh hr F N (as_start hm) rfl ⟨hT, .nil, fun _ h => h, hoff, Nat.le_refl _, by rw [hT0]; exact Nat.zero_le _⟩
    (fun i t c h tk own hi hc ho F' N' => turn i t c.text c.tt c.l c.r c.sp c.dvs c.dk c.led h tk own hi hc ho F' N')
    (fun c u h tk hc F' N' => done c.text c.tt c.l c.r c.sp c.dvs c.dk c.led u h tk hc F' N')
end
/-- a literal told by its value -/
def LitIs (ds : List DV) (i : Nat) (y : Value) (_ : List (Addr × Obj)) : Prop := ∃ d t, ds[i]? = some d ∧ y = .str (litS d) t
theorem lits_are : ∀ {ys : List Value} {ds : List DV} {l : List (Addr × Obj)}, ys.length = ds.length → (∀ i y, ys[i]? = some y → LitIs ds i y l) → StrsAre ys (ds.map litS)
  | [], [], _, _, _ => .nil
  | [], _ :: _, _, h, _ => nomatch h
  | _ :: _, [], _, h, _ => nomatch h
  | y :: ys, d :: ds, l, h, hk => by
    obtain ⟨d', t, a, b⟩ := hk 0 y rfl
    obtain rfl : d = d' := by simpa using a
    subst b
    exact .cons _ _ (lits_are (l := l) (by simpa using h) fun i y' hy => by
      obtain ⟨d'', t', a', b'⟩ := hk (i + 1) y' (by simpa using hy)
      exact ⟨d'', t', by simpa using a', b'⟩)
theorem lits_sum : ∀ {ds : List DV}, (∀ d ∈ ds, OkD d) → ((ds.map litS).map (·.length)).sum ≤ 30 * ds.length
  | [], _ => Nat.le_refl _
  | d :: ds, h => by
    have h1 := lit_len (h d (.head _))
    have h2 := lits_sum (ds := ds) fun x hx => h x (.tail _ hx)
    simp only [List.map_cons, List.sum_cons, List.length_cons]
    omega
theorem MapEnd.lit {ds : List DV} {i : Nat} {d : DV} {t : Tok} {h₀ : Heap} {L : Addr} {m : Str → Option Value} {s : Shared} {I : Addr} {oI : Obj} {C : Addr} {oC : Obj} {D : Addr} {ys : List Value} {nw : List (Addr × Obj)} {h' : Heap} {tk' : Nat}
    (F : Fr h₀ L h' m) (N : News h₀ L h' ((I, oI) :: (C, oC) :: (D, LCg.lst ys) :: nw)) (off : LCg.Off3 I C D nw) (hd : ds[i]? = some d) : MapEnd (fun y l => LitIs ds i y l) h₀ L m s I oI C oC D ys nw (.str (litS d) t) { s with heap := h', toks := tk' } :=
  MapEnd.intro nw F N (fun _ h => h) off (fun _ h => h) ⟨d, t, hd, rfl⟩
theorem MapEnd.row2 {q : Row} {f : Row → Dat} {qs : List Row} {i : Nat} {h₀ : Heap} {L : Addr} {m : Str → Option Value} {s : Shared} {I : Addr} {oI : Obj} {C : Addr} {oC : Obj} {D : Addr} {ys : List Value} {nw : List (Addr × Obj)} {h' : Heap} {tk' : Nat} {tp te : Addr} {o oe : Obj}
    (F : Fr h₀ L h' m) (N : News h₀ L h' ((te, oe) :: (tp, o) :: (I, oI) :: (C, oC) :: (D, LCg.lst ys) :: nw)) (hl : AllLt tp ((I, oI) :: (C, oC) :: (D, LCg.lst ys) :: nw)) (he : (@LT.lt Nat _ I te) ∧ (@LT.lt Nat _ C te) ∧ (@LT.lt Nat _ D te)) (off : LCg.Off3 I C D nw) (hq : qs[i]? = some q) (hd : DatIn ((te, oe) :: (tp, o) :: nw) (.ref te) (f q)) :
    MapEnd (fun y l => RowIs f qs i y l) h₀ L m s I oI C oC D ys nw (.ref te) { s with heap := h', toks := tk' } := by
  refine MapEnd.intro ((te, oe) :: (tp, o) :: nw) F N (fun p hp => ?_) ⟨⟨Ne.symm (Nat.ne_of_lt he.1), Ne.symm (Nat.ne_of_lt he.2.1), Ne.symm (Nat.ne_of_lt he.2.2)⟩, off3_ne hl off⟩ (fun p hp => .tail _ (.tail _ hp)) ⟨q, hq, hd⟩
  simp only [List.mem_cons] at hp ⊢
  rcases hp with h | h | h | h | h | h <;> simp only [h, true_or, or_true]
theorem join_len {ds : List DV} (h : ∀ d ∈ ds, OkD d) (h4 : ds.length ≤ 100) : (Txt.join (Str.ofString ", ") (ds.map litS)).length ≤ 10000 := by
  have h1 := lets_le h
  have h2 := len_cps (Txt.join (Str.ofString ", ") (ds.map litS))
  rw [join_all] at h2
  omega
theorem lt_c1 {a : Prop} {D : Addr} {l : List (Addr × Obj)} (h : a ∧ AllLt D l) : AllLt D l := h.2
theorem lt_c2 {a b : Prop} {D : Addr} {l : List (Addr × Obj)} (h : a ∧ b ∧ AllLt D l) : AllLt D l := h.2.2
theorem lt_c3 {a b c : Prop} {D : Addr} {l : List (Addr × Obj)} (h : a ∧ b ∧ c ∧ AllLt D l) : AllLt D l := h.2.2.2
theorem lt_c4 {a b c d : Prop} {D : Addr} {l : List (Addr × Obj)} (h : a ∧ b ∧ c ∧ d ∧ AllLt D l) : AllLt D l := h.2.2.2.2
theorem lt_c5 {a b c d e : Prop} {D : Addr} {l : List (Addr × Obj)} (h : a ∧ b ∧ c ∧ d ∧ e ∧ AllLt D l) : AllLt D l := h.2.2.2.2.2
theorem lt_c6 {a b c d e f : Prop} {D : Addr} {l : List (Addr × Obj)} (h : a ∧ b ∧ c ∧ d ∧ e ∧ f ∧ AllLt D l) : AllLt D l := h.2.2.2.2.2.2
theorem lt_c7 {a b c d e f g : Prop} {D : Addr} {l : List (Addr × Obj)} (h : a ∧ b ∧ c ∧ d ∧ e ∧ f ∧ g ∧ AllLt D l) : AllLt D l := h.2.2.2.2.2.2.2
theorem lt_c8 {a b c d e f g i : Prop} {D : Addr} {l : List (Addr × Obj)} (h : a ∧ b ∧ c ∧ d ∧ e ∧ f ∧ g ∧ i ∧ AllLt D l) : AllLt D l := h.2.2.2.2.2.2.2.2
theorem unr_second {h₀ : Heap} {L I : Addr} {it : Obj} {rest : (Str → Option Value) → List (Addr × Obj) → Prop} {s₁ : Shared} {h' : Heap} {tk : Nat} {m' : Str → Option Value} {t : Addr × Obj} {R : List (Addr × Obj)} (F : Fr h₀ L h' m') (N : News h₀ L h' (t :: (I, it) :: R))
    (ht : t.1 ≠ I) (hI : ∀ p ∈ R, p.1 ≠ I) (r : rest m' (t :: R)) : UnrEnd h₀ L s₁ I it rest { s₁ with heap := h', toks := tk } :=
  UnrEnd.intro F N (t :: R) (fun p hp => by
    simp only [List.mem_cons] at hp ⊢
    rcases hp with h | h | h <;> simp only [h, true_or, or_true]) (List.forall_mem_cons.mpr ⟨ht, hI⟩) r
theorem len_1 {prog : Program} {w : World} {A : Around} {E : Value → Shared → Prop} {s : Shared} {h₀ : Heap} {L D : Addr} {news : List (Addr × Obj)} {v : Value} {n : Nat} {Q : Value → Shared → Prop} (N : News h₀ L s.heap news) (hm : (D, W.listOf [v].toArray n) ∈ news) (h : Q (.int 1 (s.toks + 1)) { s with toks := s.toks + 1 + 1 }) :
    wpAny (model prog w) A (call (.builtin "len") [.ref D]) Q E s := len_w N hm (Nat.le_of_ble_eq_true rfl) h
theorem len_2 {prog : Program} {w : World} {A : Around} {E : Value → Shared → Prop} {s : Shared} {h₀ : Heap} {L D : Addr} {news : List (Addr × Obj)} {v v' : Value} {n : Nat} {Q : Value → Shared → Prop} (N : News h₀ L s.heap news) (hm : (D, W.listOf [v, v'].toArray n) ∈ news) (h : Q (.int 2 (s.toks + 1)) { s with toks := s.toks + 1 + 1 }) :
    wpAny (model prog w) A (call (.builtin "len") [.ref D]) Q E s := len_w N hm (Nat.le_of_ble_eq_true rfl) h
theorem own_led {da : Addr} {o : Obj} {led own : List (Addr × Obj)} (h : ∀ p ∈ led, p.1 ≠ da) (ho : OwnOff own (((da, o) :: led).map (·.1))) : ∀ p ∈ led ++ own, p.1 ≠ da := by
  intro p hp
  rcases List.mem_append.mp hp with k | k
  · exact h p k
  · exact ho p k da (by simp)
theorem as_pos {ds : List DV} (h : ds.length ≤ 100) : (ds.length : Int) ≤ 1000 := by omega

theorem allNeApp {d : Addr} {own R : List (Addr × Obj)} (h : AllLt d (own ++ R)) : ∀ p ∈ own ++ R, p.1 ≠ d := allNe h

theorem ql_len {ds : List DV} (hd4 : ds.length ≤ 100) : (rowsAt (joinT ds) 0 ++ [(Str.ofString "end", Str.ofString "", DV.none, ((Txt.join (Str.ofString ", ") (ds.map litS)).length : Int))]).length ≤ 100000 := by
  rw [List.length_append]
  have h1 := rows_le (joinT ds) 0
  have h2 := toks_le ds
  simp only [List.length_cons, List.length_nil]
  omega
theorem join_ok {ds : List DV} (hds : ∀ d ∈ ds, OkD d) (hd4 : ds.length ≤ 100) : ((ds.map litS).map (·.length)).sum + (ds.map litS).length * (Str.ofString ", ").length ≤ 16777216 := by
  have h1 := lits_sum hds
  have hq2 : (Str.ofString ", ").length = 2 := by decide +kernel
  rw [hq2, List.length_map]
  omega
theorem allLt_mem {D : Addr} : ∀ {l : List (Addr × Obj)}, AllLt D l → ∀ p ∈ l, p.1 < D
  | [], _, _, h => nomatch h
  | q :: l, h, p, hp => by
    rcases List.mem_cons.mp hp with rfl | hp
    · exact h.1
    · exact allLt_mem h.2 p hp
theorem ltA {t : Addr} {own R S : List (Addr × Obj)} (h : AllLt t (own ++ (R ++ S))) : ∀ q ∈ S, q.1 ≠ t := fun q hq => Nat.ne_of_lt (allLt_mem h q (List.mem_append.mpr (.inr (List.mem_append.mpr (.inr hq)))))
theorem ltB {t : Addr} {R S : List (Addr × Obj)} (h : AllLt t (R ++ S)) : ∀ q ∈ S, q.1 ≠ t := fun q hq => Nat.ne_of_lt (allLt_mem h q (List.mem_append.mpr (.inr hq)))
theorem dueOffA {a b c : Addr × Obj} {own7 led own : List (Addr × Obj)} (h : OwnOff (a :: b :: own7) ((c :: (led ++ own)).map (·.1))) : (∀ q ∈ own, q.1 ≠ a.1) ∧ (∀ q ∈ own, q.1 ≠ b.1) ∧ ∀ p ∈ own7, ∀ q ∈ own, q.1 ≠ p.1 := by
  have key : ∀ p ∈ a :: b :: own7, ∀ q ∈ own, q.1 ≠ p.1 := fun p hp q hq e => h p hp q.1 (List.mem_map.mpr ⟨q, .tail _ (List.mem_append.mpr (.inr hq)), rfl⟩) e.symm
  exact ⟨key a (.head _), key b (.tail _ (.head _)), fun p hp => key p (.tail _ (.tail _ hp))⟩
theorem dueOffB {a b c d e : Addr × Obj} {own7 led own : List (Addr × Obj)} (h : OwnOff (a :: b :: own7) ((d :: e :: c :: (led ++ own)).map (·.1))) : (∀ q ∈ own, q.1 ≠ a.1) ∧ (∀ q ∈ own, q.1 ≠ b.1) ∧ ∀ p ∈ own7, ∀ q ∈ own, q.1 ≠ p.1 := by
  have key : ∀ p ∈ a :: b :: own7, ∀ q ∈ own, q.1 ≠ p.1 := fun p hp q hq e => h p hp q.1 (List.mem_map.mpr ⟨q, .tail _ (.tail _ (.tail _ (List.mem_append.mpr (.inr hq)))), rfl⟩) e.symm
  exact ⟨key a (.head _), key b (.tail _ (.head _)), fun p hp => key p (.tail _ (.tail _ hp))⟩
/-- the turn's end, its new objects named -/
theorem AEnd.fin {news : List (Addr × Obj)} {da : Addr} {ds : List DV} {i' : Nat} {h₀ : Heap} {L : Addr} {m₀ f : Str → Option Value} {own7 led own nw : List (Addr × Obj)} (G : List (Addr × Obj)) {o : Obj} {s : Shared} {h' : Heap} {tk' : Nat} {T : Str} {tt : Tok} {dvs' : List Value} {dk' : Nat}
    (F : Fr h₀ L h' f) (N : News h₀ L h' nw) (e1 : f (Str.ofString "text") = some (.str T tt)) (e2 : ∀ y, y ≠ Str.ofString "at" → y ≠ Str.ofString "text" → y ≠ Str.ofString "letters" → y ≠ Str.ofString "rows" → y ≠ Str.ofString "spot" → f y = m₀ y)
    (h1 : ∀ p ∈ (da, W.listOf dvs'.toArray dk') :: (G ++ (own7 ++ (led ++ own))), p ∈ nw) (ho : OwnOff own (((da, o) :: led).map (·.1))) (h7 : ∀ p ∈ own7, ∀ q ∈ own, q.1 ≠ p.1) (hG : ∀ p ∈ G, ∀ q ∈ own, q.1 ≠ p.1)
    (hp : ∀ l r sp, asP news da ds i' ⟨T, tt, l, r, sp, dvs', dk', G ++ (own7 ++ led)⟩) : GEnd h₀ L (Str.ofString "at") (asM m₀) (asL da) (asP news da ds i') own s .next { s with heap := h', toks := tk' } := by
  refine AEnd.intro (o := o) F e1 e2 N (fun p hp => h1 p ?_) (fun p hp => h1 p ?_) ?_ hp
  · simp only [List.mem_cons, List.mem_append] at hp ⊢
    rcases hp with h | h | h | h <;> simp only [h, true_or, or_true]
  · simp only [List.mem_cons, List.mem_append]
    exact .inr (.inr (.inr (.inr hp)))
  · intro p hp b hb
    simp only [List.map_cons, List.map_append, List.mem_cons, List.mem_append, List.mem_map] at hb
    rcases hb with h | ⟨q, h, rfl⟩ | ⟨q, h, rfl⟩ | ⟨q, h, rfl⟩
    · rw [h]; exact ho p hp da (by simp)
    · exact hG q h p hp
    · exact h7 q h p hp
    · exact ho p hp q.1 (by simp only [List.map_cons, List.mem_cons, List.mem_map]; exact .inr ⟨q, h, rfl⟩)
section
variable {news : List (Addr × Obj)} {da t1 t2 t3 t4 : Addr} {ds : List DV} {i : Nat} {T : Str} {dvs : List Value} {led own7 G : List (Addr × Obj)} {d : DV} {w7 w7' : Value} {r7 r7' : Dat} {k k' kc : Int} {u u' uc : Tok} {n3 n4 n1 n2 dk' : Nat} {tt a1 a2 : Tok}
theorem app_cps (x y : Str) : (x ++ y).cps.toList = x.cps.toList ++ y.cps.toList := by rw [Str.cps_append, Array.toList_append]
theorem asP_first (hT : T.cps.toList = letsOf (joinT (ds.take i))) (hD : DatAll led dvs ((rowsAt (joinT (ds.take i)) 0).map dueD)) (hsub : ∀ p ∈ news, p ∈ led) (hdl : dvs.length ≤ 3 * i) (hi : i = 0) (hd : ds[i]? = some d) (hok : OkD d) {new : List Value} {nd : List Dat}
    (hnew : DatAll (G ++ (own7 ++ led)) new nd) (hnl : new.length ≤ 2) (hit : (rowsAt (toksOf d) (T.length : Int)).map dueD = nd) (hoff : ∀ p ∈ G ++ (own7 ++ led), p.1 ≠ da) : ∀ l r sp, asP news da ds (i + 1) ⟨T ++ litS d, tt, l, r, sp, dvs ++ new, dk', G ++ (own7 ++ led)⟩ := by
  subst hi
  intro l r sp
  have e0 : T.cps.toList = [] := hT
  have e1 : T.length = 0 := by have := len_cps T; rw [e0] at this; exact this.symm
  have hlt := lit_len hok
  have hs : joinT (ds.take 1) = toksOf d := first_step hd
  rw [e1] at hit
  refine ⟨?_, ?_, fun p hp => List.mem_append.mpr (.inr (List.mem_append.mpr (.inr (hsub p hp)))), hoff, ?_, ?_⟩
  · show (T ++ litS d).cps.toList = letsOf (joinT (ds.take 1))
    rw [app_cps, e0, hs, lit_lets]; rfl
  · show DatAll _ (dvs ++ new) ((rowsAt (joinT (ds.take 1)) 0).map dueD)
    rw [hs, show (rowsAt (toksOf d) 0).map dueD = [] ++ nd from hit]
    exact DatAll.append (hD.mono fun p hp => List.mem_append.mpr (.inr (List.mem_append.mpr (.inr hp)))) hnew
  · show (dvs ++ new).length ≤ 3 * (0 + 1)
    rw [List.length_append]; omega
  · show (T ++ litS d).length ≤ 40 * (0 + 1)
    rw [app_len]; omega
theorem asP_next (hT : T.cps.toList = letsOf (joinT (ds.take i))) (hD : DatAll led dvs ((rowsAt (joinT (ds.take i)) 0).map dueD)) (hsub : ∀ p ∈ news, p ∈ led) (hdl : dvs.length ≤ 3 * i) (htl : T.length ≤ 40 * i) (hi : 0 < i) (hd : ds[i]? = some d) (hok : OkD d) {vc : Value} {new : List Value} {nd : List Dat}
    (hc : DatIn (G ++ (own7 ++ led)) vc (.tuple [.tuple [.str (Str.ofString "sign"), .str (Str.ofString ","), .none], .int (T.length : Int)])) (hnew : DatAll (G ++ (own7 ++ led)) new nd) (hnl : new.length ≤ 2) (hit : (rowsAt (toksOf d) ((T ++ Str.ofString ", ").length : Int)).map dueD = nd) (hoff : ∀ p ∈ G ++ (own7 ++ led), p.1 ≠ da) :
    ∀ l r sp, asP news da ds (i + 1) ⟨T ++ Str.ofString ", " ++ litS d, tt, l, r, sp, dvs ++ [vc] ++ new, dk', G ++ (own7 ++ led)⟩ := by
  intro l r sp
  have hq2 : (Str.ofString ", ").length = 2 := by decide +kernel
  have hq3 : (Str.ofString ", ").cps.toList = [44, 32] := by decide +kernel
  have e1 : T.length = (letsOf (joinT (ds.take i))).length := by rw [← hT, len_cps]
  have hlt := lit_len hok
  have hs := next_step hi hd
  have hrow : (rowsAt (joinT (ds.take (i + 1))) 0).map dueD = (rowsAt (joinT (ds.take i)) 0).map dueD ++ [Dat.tuple [.tuple [.str (Str.ofString "sign"), .str (Str.ofString ","), .none], .int (T.length : Int)]] ++ nd := by
    rw [hs, rowsAt_append, List.map_append, List.append_assoc, ← hit]
    congr 1
    have e2 : (0 : Int) + (letsOf (joinT (ds.take i))).length = T.length := by omega
    rw [e2]
    have e3 : rowsAt (.comma :: .blank :: toksOf d) (T.length : Int) = (Str.ofString "sign", ⟨#[44]⟩, DV.none, (T.length : Int)) :: rowsAt (toksOf d) ((T.length : Int) + 1 + 1) := rfl
    rw [e3, List.map_cons, app_len, hq2, ← lit44]
    rw [show ((T.length + 2 : Nat) : Int) = (T.length : Int) + 1 + 1 by omega]
    rfl
  refine ⟨?_, ?_, fun p hp => List.mem_append.mpr (.inr (List.mem_append.mpr (.inr (hsub p hp)))), hoff, ?_, ?_⟩
  · show (T ++ Str.ofString ", " ++ litS d).cps.toList = letsOf (joinT (ds.take (i + 1)))
    rw [app_cps, app_cps, hT, hs, letsOf_append, hq3, lit_lets, List.append_assoc]
    rfl
  · show DatAll _ (dvs ++ [vc] ++ new) ((rowsAt (joinT (ds.take (i + 1))) 0).map dueD)
    rw [hrow]
    exact DatAll.append (DatAll.append (hD.mono fun p hp => List.mem_append.mpr (.inr (List.mem_append.mpr (.inr hp)))) (DatAll.one hc)) hnew
  · show (dvs ++ [vc] ++ new).length ≤ 3 * (i + 1)
    simp only [List.length_append, List.length_cons, List.length_nil]; omega
  · show (T ++ Str.ofString ", " ++ litS d).length ≤ 40 * (i + 1)
    rw [app_len, app_len, hq2]; omega
end
abbrev tup (v : Value) (k : Int) (u : Tok) (n : Nat) : Obj := { cls := .type "tuple", data := .seq #[v, .int k u] n }
section
variable {news : List (Addr × Obj)} {da t1 t2 t3 t4 tp rl : Addr} {otp orl o : Obj} {ds : List DV} {i : Nat} {h₀ h' : Heap} {L : Addr} {m₀ f : Str → Option Value} {own7 led own : List (Addr × Obj)} {s : Shared} {tk' : Nat} {T : Str} {tt : Tok} {dvs : List Value} {dk' : Nat} {d : DV} {w7 w7' : Value} {r7 r7' : Dat} {k k' kc : Int} {u u' uc : Tok} {n3 n4 n1 n2 : Nat} {a1 a2 : Tok}
theorem AEnd.A1 (hT : T.cps.toList = letsOf (joinT (ds.take i))) (hD : DatAll led dvs ((rowsAt (joinT (ds.take i)) 0).map dueD)) (hsub : ∀ p ∈ news, p ∈ led) (hdl : dvs.length ≤ 3 * i) (htl : T.length ≤ 40 * i) (hi : i = 0) (hd : ds[i]? = some d) (hok : OkD d) (hit : ∀ p, (rowsAt (toksOf d) p).map dueD = [.tuple [r7, .int p]]) (hw : DatIn own7 w7 r7) (hk : k = ((T).length : Int)) (ho : OwnOff own (((da, o) :: led).map (·.1))) (hq : (∀ q ∈ own, q.1 ≠ tp) ∧ (∀ q ∈ own, q.1 ≠ rl) ∧ ∀ p ∈ own7, ∀ q ∈ own, q.1 ≠ p.1) (oa1 : @Ne Nat tp da) (oa2 : @Ne Nat rl da) (oa3 : ∀ p ∈ own7 ++ (led ++ own), p.1 ≠ da) (l3 : AllLt t3 (own7 ++ (led ++ own))) (d3 : @Ne Nat t3 da)
    (F : Fr h₀ L h' f) (N : News h₀ L h' ((t3, tup w7 k u n3) :: (da, W.listOf (dvs ++ [Value.ref t3]).toArray dk') :: (tp, otp) :: (rl, orl) :: (own7 ++ (led ++ own)))) (e1 : f (Str.ofString "text") = some (.str (T ++ litS d) tt)) (e2 : ∀ y, y ≠ Str.ofString "at" → y ≠ Str.ofString "text" → y ≠ Str.ofString "letters" → y ≠ Str.ofString "rows" → y ≠ Str.ofString "spot" → f y = m₀ y) :
    GEnd h₀ L (Str.ofString "at") (asM m₀) (asL da) (asP news da ds (i + 1)) own s .next { s with heap := h', toks := tk' } := by
  have hda : ∀ p ∈ [(t3, tup w7 k u n3), (tp, otp), (rl, orl)] ++ (own7 ++ led), p.1 ≠ da := fun p hp => (List.mem_append.mp hp).elim ((List.forall_mem_cons.mpr ⟨d3, List.forall_mem_cons.mpr ⟨oa1, List.forall_mem_cons.mpr ⟨oa2, List.forall_mem_nil _⟩⟩⟩ : ∀ p ∈ [(t3, tup w7 k u n3), (tp, otp), (rl, orl)], p.1 ≠ da) p) fun h => oa3 p ((List.mem_append.mp h).elim (fun k => List.mem_append.mpr (.inl k)) fun k => List.mem_append.mpr (.inr (List.mem_append.mpr (.inl k))))
  refine AEnd.fin (o := o) (tt := tt) (dk' := dk') (dvs' := dvs ++ [Value.ref t3]) (T := T ++ litS d) [(t3, tup w7 k u n3), (tp, otp), (rl, orl)] F N e1 e2 ?h1 ho hq.2.2 (List.forall_mem_cons.mpr ⟨ltA l3, List.forall_mem_cons.mpr ⟨hq.1, List.forall_mem_cons.mpr ⟨hq.2.1, List.forall_mem_nil _⟩⟩⟩) ?h2
  case h1 =>
    intro p hp
    simp only [List.mem_cons, List.mem_append, List.cons_append, List.nil_append, List.not_mem_nil, false_or] at hp ⊢
    grind
  case h2 => exact asP_first (G := [(t3, tup w7 k u n3), (tp, otp), (rl, orl)]) (own7 := own7) hT hD hsub hdl hi hd hok (new := [Value.ref t3]) (DatAll.cons (DatIn.tuple (.head _) (.cons (hw.mono (fun p hp => List.mem_append.mpr (.inr (List.mem_append.mpr (.inl hp))))) (.cons (.int _ _) .nil))) .nil) (by simp) (by rw [hk]; exact hit _) hda
theorem AEnd.A2 (hT : T.cps.toList = letsOf (joinT (ds.take i))) (hD : DatAll led dvs ((rowsAt (joinT (ds.take i)) 0).map dueD)) (hsub : ∀ p ∈ news, p ∈ led) (hdl : dvs.length ≤ 3 * i) (htl : T.length ≤ 40 * i) (hi : i = 0) (hd : ds[i]? = some d) (hok : OkD d) (hit : ∀ p, (rowsAt (toksOf d) p).map dueD = [.tuple [r7, .int p], .tuple [r7', .int (p + 1)]]) (hw : DatIn own7 w7 r7) (hw' : DatIn own7 w7' r7') (hk : k = ((T).length : Int)) (hk' : k' = ((T).length : Int) + 1) (ho : OwnOff own (((da, o) :: led).map (·.1))) (hq : (∀ q ∈ own, q.1 ≠ tp) ∧ (∀ q ∈ own, q.1 ≠ rl) ∧ ∀ p ∈ own7, ∀ q ∈ own, q.1 ≠ p.1) (oa1 : @Ne Nat tp da) (oa2 : @Ne Nat rl da) (oa3 : ∀ p ∈ own7 ++ (led ++ own), p.1 ≠ da) (l3 : AllLt t3 (own7 ++ (led ++ own))) (d3 : @Ne Nat t3 da) (l4 : AllLt t4 (own7 ++ (led ++ own))) (d4 : @Ne Nat t4 da)
    (F : Fr h₀ L h' f) (N : News h₀ L h' ((t4, tup w7' k' u' n4) :: (t3, tup w7 k u n3) :: (da, W.listOf (dvs ++ [Value.ref t3] ++ [Value.ref t4]).toArray dk') :: (tp, otp) :: (rl, orl) :: (own7 ++ (led ++ own)))) (e1 : f (Str.ofString "text") = some (.str (T ++ litS d) tt)) (e2 : ∀ y, y ≠ Str.ofString "at" → y ≠ Str.ofString "text" → y ≠ Str.ofString "letters" → y ≠ Str.ofString "rows" → y ≠ Str.ofString "spot" → f y = m₀ y) :
    GEnd h₀ L (Str.ofString "at") (asM m₀) (asL da) (asP news da ds (i + 1)) own s .next { s with heap := h', toks := tk' } := by
  rw [List.append_assoc (dvs)] at N
  have hda : ∀ p ∈ [(t4, tup w7' k' u' n4), (t3, tup w7 k u n3), (tp, otp), (rl, orl)] ++ (own7 ++ led), p.1 ≠ da := fun p hp => (List.mem_append.mp hp).elim ((List.forall_mem_cons.mpr ⟨d4, List.forall_mem_cons.mpr ⟨d3, List.forall_mem_cons.mpr ⟨oa1, List.forall_mem_cons.mpr ⟨oa2, List.forall_mem_nil _⟩⟩⟩⟩ : ∀ p ∈ [(t4, tup w7' k' u' n4), (t3, tup w7 k u n3), (tp, otp), (rl, orl)], p.1 ≠ da) p) fun h => oa3 p ((List.mem_append.mp h).elim (fun k => List.mem_append.mpr (.inl k)) fun k => List.mem_append.mpr (.inr (List.mem_append.mpr (.inl k))))
  refine AEnd.fin (o := o) (tt := tt) (dk' := dk') (dvs' := dvs ++ [Value.ref t3, Value.ref t4]) (T := T ++ litS d) [(t4, tup w7' k' u' n4), (t3, tup w7 k u n3), (tp, otp), (rl, orl)] F N e1 e2 ?h1 ho hq.2.2 (List.forall_mem_cons.mpr ⟨ltA l4, List.forall_mem_cons.mpr ⟨ltA l3, List.forall_mem_cons.mpr ⟨hq.1, List.forall_mem_cons.mpr ⟨hq.2.1, List.forall_mem_nil _⟩⟩⟩⟩) ?h2
  case h1 =>
    intro p hp
    simp only [List.mem_cons, List.mem_append, List.cons_append, List.nil_append, List.not_mem_nil, false_or] at hp ⊢
    grind
  case h2 => exact asP_first (G := [(t4, tup w7' k' u' n4), (t3, tup w7 k u n3), (tp, otp), (rl, orl)]) (own7 := own7) hT hD hsub hdl hi hd hok (new := [Value.ref t3, Value.ref t4]) (DatAll.cons (DatIn.tuple (.tail _ (.head _)) (.cons (hw.mono (fun p hp => List.mem_append.mpr (.inr (List.mem_append.mpr (.inl hp))))) (.cons (.int _ _) .nil))) (DatAll.cons (DatIn.tuple (.head _) (.cons (hw'.mono (fun p hp => List.mem_append.mpr (.inr (List.mem_append.mpr (.inl hp))))) (.cons (.int _ _) .nil))) .nil)) (by simp) (by rw [hk', hk]; exact hit _) hda
theorem AEnd.B1 (hT : T.cps.toList = letsOf (joinT (ds.take i))) (hD : DatAll led dvs ((rowsAt (joinT (ds.take i)) 0).map dueD)) (hsub : ∀ p ∈ news, p ∈ led) (hdl : dvs.length ≤ 3 * i) (htl : T.length ≤ 40 * i) (hi : 0 < i) (hd : ds[i]? = some d) (hok : OkD d) (hit : ∀ p, (rowsAt (toksOf d) p).map dueD = [.tuple [r7, .int p]]) (hw : DatIn own7 w7 r7) (hk : k = ((T ++ Str.ofString ", ").length : Int)) (hkc : kc = (T.length : Int)) (ho : OwnOff own (((da, o) :: led).map (·.1))) (hq : (∀ q ∈ own, q.1 ≠ tp) ∧ (∀ q ∈ own, q.1 ≠ rl) ∧ ∀ p ∈ own7, ∀ q ∈ own, q.1 ≠ p.1) (oa1 : @Ne Nat tp da) (oa2 : @Ne Nat rl da) (oa3 : ∀ p ∈ own7 ++ (led ++ own), p.1 ≠ da) (l3 : AllLt t3 (own7 ++ (led ++ own))) (d3 : @Ne Nat t3 da) (l1 : AllLt t1 (led ++ own)) (d1 : @Ne Nat t1 da) (l2 : AllLt t2 (led ++ own)) (d2 : @Ne Nat t2 da)
    (F : Fr h₀ L h' f) (N : News h₀ L h' ((t3, tup w7 k u n3) :: (da, W.listOf (dvs ++ [Value.ref t2] ++ [Value.ref t3]).toArray dk') :: (tp, otp) :: (rl, orl) :: (t2, tup (Value.ref t1) kc uc n2) :: (t1, ({ cls := .type "tuple", data := .seq #[.str (Str.ofString "sign") a1, .str (Str.ofString ",") a2, .none] n1 } : Obj)) :: (own7 ++ (led ++ own)))) (e1 : f (Str.ofString "text") = some (.str (T ++ Str.ofString ", " ++ litS d) tt)) (e2 : ∀ y, y ≠ Str.ofString "at" → y ≠ Str.ofString "text" → y ≠ Str.ofString "letters" → y ≠ Str.ofString "rows" → y ≠ Str.ofString "spot" → f y = m₀ y) :
    GEnd h₀ L (Str.ofString "at") (asM m₀) (asL da) (asP news da ds (i + 1)) own s .next { s with heap := h', toks := tk' } := by
  have hda : ∀ p ∈ [(t3, tup w7 k u n3), (tp, otp), (rl, orl), (t2, tup (Value.ref t1) kc uc n2), (t1, ({ cls := .type "tuple", data := .seq #[.str (Str.ofString "sign") a1, .str (Str.ofString ",") a2, .none] n1 } : Obj))] ++ (own7 ++ led), p.1 ≠ da := fun p hp => (List.mem_append.mp hp).elim ((List.forall_mem_cons.mpr ⟨d3, List.forall_mem_cons.mpr ⟨oa1, List.forall_mem_cons.mpr ⟨oa2, List.forall_mem_cons.mpr ⟨d2, List.forall_mem_cons.mpr ⟨d1, List.forall_mem_nil _⟩⟩⟩⟩⟩ : ∀ p ∈ [(t3, tup w7 k u n3), (tp, otp), (rl, orl), (t2, tup (Value.ref t1) kc uc n2), (t1, ({ cls := .type "tuple", data := .seq #[.str (Str.ofString "sign") a1, .str (Str.ofString ",") a2, .none] n1 } : Obj))], p.1 ≠ da) p) fun h => oa3 p ((List.mem_append.mp h).elim (fun k => List.mem_append.mpr (.inl k)) fun k => List.mem_append.mpr (.inr (List.mem_append.mpr (.inl k))))
  refine AEnd.fin (o := o) (tt := tt) (dk' := dk') (dvs' := dvs ++ [Value.ref t2] ++ [Value.ref t3]) (T := T ++ Str.ofString ", " ++ litS d) [(t3, tup w7 k u n3), (tp, otp), (rl, orl), (t2, tup (Value.ref t1) kc uc n2), (t1, ({ cls := .type "tuple", data := .seq #[.str (Str.ofString "sign") a1, .str (Str.ofString ",") a2, .none] n1 } : Obj))] F N e1 e2 ?h1 ho hq.2.2 (List.forall_mem_cons.mpr ⟨ltA l3, List.forall_mem_cons.mpr ⟨hq.1, List.forall_mem_cons.mpr ⟨hq.2.1, List.forall_mem_cons.mpr ⟨ltB l2, List.forall_mem_cons.mpr ⟨ltB l1, List.forall_mem_nil _⟩⟩⟩⟩⟩) ?h2
  case h1 =>
    intro p hp
    simp only [List.mem_cons, List.mem_append, List.cons_append, List.nil_append, List.not_mem_nil, false_or] at hp ⊢
    grind
  case h2 => exact asP_next (G := [(t3, tup w7 k u n3), (tp, otp), (rl, orl), (t2, tup (Value.ref t1) kc uc n2), (t1, ({ cls := .type "tuple", data := .seq #[.str (Str.ofString "sign") a1, .str (Str.ofString ",") a2, .none] n1 } : Obj))]) (own7 := own7) hT hD hsub hdl htl hi hd hok (vc := Value.ref t2) (new := [Value.ref t3]) (by rw [← hkc]; exact DatIn.tuple (.tail _ (.tail _ (.tail _ (.head _)))) (.cons (DatIn.tuple (.tail _ (.tail _ (.tail _ (.tail _ (.head _))))) (.cons (.str _ _) (.cons (.str _ _) (.cons .none .nil)))) (.cons (.int _ _) .nil))) (DatAll.cons (DatIn.tuple (.head _) (.cons (hw.mono (fun p hp => List.mem_append.mpr (.inr (List.mem_append.mpr (.inl hp))))) (.cons (.int _ _) .nil))) .nil) (by simp) (by rw [hk]; exact hit _) hda
theorem AEnd.B2 (hT : T.cps.toList = letsOf (joinT (ds.take i))) (hD : DatAll led dvs ((rowsAt (joinT (ds.take i)) 0).map dueD)) (hsub : ∀ p ∈ news, p ∈ led) (hdl : dvs.length ≤ 3 * i) (htl : T.length ≤ 40 * i) (hi : 0 < i) (hd : ds[i]? = some d) (hok : OkD d) (hit : ∀ p, (rowsAt (toksOf d) p).map dueD = [.tuple [r7, .int p], .tuple [r7', .int (p + 1)]]) (hw : DatIn own7 w7 r7) (hw' : DatIn own7 w7' r7') (hk : k = ((T ++ Str.ofString ", ").length : Int)) (hk' : k' = ((T ++ Str.ofString ", ").length : Int) + 1) (hkc : kc = (T.length : Int)) (ho : OwnOff own (((da, o) :: led).map (·.1))) (hq : (∀ q ∈ own, q.1 ≠ tp) ∧ (∀ q ∈ own, q.1 ≠ rl) ∧ ∀ p ∈ own7, ∀ q ∈ own, q.1 ≠ p.1) (oa1 : @Ne Nat tp da) (oa2 : @Ne Nat rl da) (oa3 : ∀ p ∈ own7 ++ (led ++ own), p.1 ≠ da) (l3 : AllLt t3 (own7 ++ (led ++ own))) (d3 : @Ne Nat t3 da) (l4 : AllLt t4 (own7 ++ (led ++ own))) (d4 : @Ne Nat t4 da) (l1 : AllLt t1 (led ++ own)) (d1 : @Ne Nat t1 da) (l2 : AllLt t2 (led ++ own)) (d2 : @Ne Nat t2 da)
    (F : Fr h₀ L h' f) (N : News h₀ L h' ((t4, tup w7' k' u' n4) :: (t3, tup w7 k u n3) :: (da, W.listOf (dvs ++ [Value.ref t2] ++ [Value.ref t3] ++ [Value.ref t4]).toArray dk') :: (tp, otp) :: (rl, orl) :: (t2, tup (Value.ref t1) kc uc n2) :: (t1, ({ cls := .type "tuple", data := .seq #[.str (Str.ofString "sign") a1, .str (Str.ofString ",") a2, .none] n1 } : Obj)) :: (own7 ++ (led ++ own)))) (e1 : f (Str.ofString "text") = some (.str (T ++ Str.ofString ", " ++ litS d) tt)) (e2 : ∀ y, y ≠ Str.ofString "at" → y ≠ Str.ofString "text" → y ≠ Str.ofString "letters" → y ≠ Str.ofString "rows" → y ≠ Str.ofString "spot" → f y = m₀ y) :
    GEnd h₀ L (Str.ofString "at") (asM m₀) (asL da) (asP news da ds (i + 1)) own s .next { s with heap := h', toks := tk' } := by
  rw [List.append_assoc (dvs ++ [Value.ref t2])] at N
  have hda : ∀ p ∈ [(t4, tup w7' k' u' n4), (t3, tup w7 k u n3), (tp, otp), (rl, orl), (t2, tup (Value.ref t1) kc uc n2), (t1, ({ cls := .type "tuple", data := .seq #[.str (Str.ofString "sign") a1, .str (Str.ofString ",") a2, .none] n1 } : Obj))] ++ (own7 ++ led), p.1 ≠ da := fun p hp => (List.mem_append.mp hp).elim ((List.forall_mem_cons.mpr ⟨d4, List.forall_mem_cons.mpr ⟨d3, List.forall_mem_cons.mpr ⟨oa1, List.forall_mem_cons.mpr ⟨oa2, List.forall_mem_cons.mpr ⟨d2, List.forall_mem_cons.mpr ⟨d1, List.forall_mem_nil _⟩⟩⟩⟩⟩⟩ : ∀ p ∈ [(t4, tup w7' k' u' n4), (t3, tup w7 k u n3), (tp, otp), (rl, orl), (t2, tup (Value.ref t1) kc uc n2), (t1, ({ cls := .type "tuple", data := .seq #[.str (Str.ofString "sign") a1, .str (Str.ofString ",") a2, .none] n1 } : Obj))], p.1 ≠ da) p) fun h => oa3 p ((List.mem_append.mp h).elim (fun k => List.mem_append.mpr (.inl k)) fun k => List.mem_append.mpr (.inr (List.mem_append.mpr (.inl k))))
  refine AEnd.fin (o := o) (tt := tt) (dk' := dk') (dvs' := dvs ++ [Value.ref t2] ++ [Value.ref t3, Value.ref t4]) (T := T ++ Str.ofString ", " ++ litS d) [(t4, tup w7' k' u' n4), (t3, tup w7 k u n3), (tp, otp), (rl, orl), (t2, tup (Value.ref t1) kc uc n2), (t1, ({ cls := .type "tuple", data := .seq #[.str (Str.ofString "sign") a1, .str (Str.ofString ",") a2, .none] n1 } : Obj))] F N e1 e2 ?h1 ho hq.2.2 (List.forall_mem_cons.mpr ⟨ltA l4, List.forall_mem_cons.mpr ⟨ltA l3, List.forall_mem_cons.mpr ⟨hq.1, List.forall_mem_cons.mpr ⟨hq.2.1, List.forall_mem_cons.mpr ⟨ltB l2, List.forall_mem_cons.mpr ⟨ltB l1, List.forall_mem_nil _⟩⟩⟩⟩⟩⟩) ?h2
  case h1 =>
    intro p hp
    simp only [List.mem_cons, List.mem_append, List.cons_append, List.nil_append, List.not_mem_nil, false_or] at hp ⊢
    grind
  case h2 => exact asP_next (G := [(t4, tup w7' k' u' n4), (t3, tup w7 k u n3), (tp, otp), (rl, orl), (t2, tup (Value.ref t1) kc uc n2), (t1, ({ cls := .type "tuple", data := .seq #[.str (Str.ofString "sign") a1, .str (Str.ofString ",") a2, .none] n1 } : Obj))]) (own7 := own7) hT hD hsub hdl htl hi hd hok (vc := Value.ref t2) (new := [Value.ref t3, Value.ref t4]) (by rw [← hkc]; exact DatIn.tuple (.tail _ (.tail _ (.tail _ (.tail _ (.head _))))) (.cons (DatIn.tuple (.tail _ (.tail _ (.tail _ (.tail _ (.tail _ (.head _)))))) (.cons (.str _ _) (.cons (.str _ _) (.cons .none .nil)))) (.cons (.int _ _) .nil))) (DatAll.cons (DatIn.tuple (.tail _ (.head _)) (.cons (hw.mono (fun p hp => List.mem_append.mpr (.inr (List.mem_append.mpr (.inl hp))))) (.cons (.int _ _) .nil))) (DatAll.cons (DatIn.tuple (.head _) (.cons (hw'.mono (fun p hp => List.mem_append.mpr (.inr (List.mem_append.mpr (.inl hp))))) (.cons (.int _ _) .nil))) .nil)) (by simp) (by rw [hk', hk]; exact hit _) hda
theorem zero_toNat (i : Nat) : (0 + (i : Int)).toNat = i := by omega
end
theorem take_all {vs : List Value} {ds : List DV} (h : vs.length = ds.length) : ds.take vs.length = ds := List.take_of_length_le (by omega)
theorem text_len {vs : List Value} {ds : List DV} {T : Str} (h : vs.length = ds.length) (hT : T.cps.toList = letsOf (joinT (ds.take vs.length))) : (T.length : Int) = ((Txt.join (Str.ofString ", ") (ds.map litS)).length : Int) := by
  rw [take_all h, ← join_all] at hT
  rw [← len_cps, hT, len_cps]
theorem due_all {vs : List Value} {ds : List DV} {led : List (Addr × Obj)} {dvs : List Value} (h : vs.length = ds.length) (hD : DatAll led dvs ((rowsAt (joinT (ds.take vs.length)) 0).map dueD)) : DatAll led dvs ((rowsAt (joinT ds) 0).map dueD) := by
  rw [take_all h] at hD
  exact hD
theorem all_eq {prog : Program} {w : World} {A : Around} {E : Value → Shared → Prop} {s : Shared} {h₀ : Heap} {L D da te tend : Addr} {nw led : List (Addr × Obj)} {ys dvs : List Value} {ds : List DV} {dk n n' : Nat} {k e : Int} {u a1 a2 : Tok} {Q : Value → Shared → Prop}
    (N : News h₀ L s.heap ((D, LCg.lst ys) :: nw)) (hdl : DatAll nw ys ((rowsAt (joinT ds) 0 ++ [(Str.ofString "end", Str.ofString "", DV.none, e)]).map dueD)) (hda : (da, W.listOf (dvs ++ [Value.ref te]).toArray dk) ∈ nw) (hD : DatAll led dvs ((rowsAt (joinT ds) 0).map dueD)) (hled : ∀ p ∈ led, p ∈ nw)
    (hte : (te, tup (.ref tend) k u n) ∈ nw) (htend : (tend, ({ cls := .type "tuple", data := .seq #[.str (Str.ofString "end") a1, .str (Str.ofString "") a2, .none] n' } : Obj)) ∈ nw) (hk : k = e) (hu : A.units + 8 < cLine) (h : Q (.bool true) s) : wpAny (model prog w) A (compareOp .Eq (.ref D) (.ref da)) Q E s := by
  refine eq_lists (n₁ := nw) (n₂ := nw) N (.head _) (.tail _ hda) hdl ?_ (fun _ h => .tail _ h) (fun _ h => .tail _ h) (dues_ok _) hu h
  rw [List.map_append]
  refine DatAll.append (hD.mono hled) (DatAll.one ?_)
  subst hk
  exact DatIn.tuple hte (.cons (DatIn.tuple htend (.cons (.str _ _) (.cons (.str _ _) (.cons .none .nil)))) (.cons (.int _ _) .nil))
section
local macro_rules | `(tactic| k_all) => `(tactic| with_reducible (refine Mine.allNeApp ?hAA; (case hAA => first | assumption | exact Mine.lt_c1 (by assumption) | exact Mine.lt_c2 (by assumption) | exact Mine.lt_c3 (by assumption) | exact Mine.lt_c4 (by assumption) | exact Mine.lt_c5 (by assumption) | exact Mine.lt_c6 (by assumption) | exact Mine.lt_c7 (by assumption) | exact Mine.lt_c8 (by assumption))))
theorem all_use {w : World} {mean : ExcName → Option Value} {mg mb : Str → Option Value}
  {dp un : Nat} {gd : Option (List Code)} {cn : Str} {cs : Scope} {a : Addr} {ccd : Value} {cl : List (Str × Addr)} {outer : List Env} {A₀ : Around} {base h₀ : Heap} {L : Addr} {m : Str → Option Value} {s : Shared} {Q E : Value → Shared → Prop}
  {va : Addr} {vs : List Value} {kv : Nat} {ds : List DV} {news : List (Addr × Obj)}
  (X : (hd.heap_39 w.params).In h₀) (B : Below A₀ base outer h₀) (F : Fr h₀ L s.heap m) (N : News h₀ L s.heap news)
  (T : Top hd.view_39 (looseW hd.view_39 [Str.ofString "NAME_SIGNS", Str.ofString "LIKE_SIGNS", Str.ofString "GREATEST"]) mean mg mb h₀) (hk : cs.kind = .function) (hd : dp + 200 < recursionLimit) (hu : un + 1500 < cLine)
  (hm9 : (va, W.listOf vs.toArray kv) ∈ news) (hvs : ValsAre vs ds) (hds : ∀ d ∈ ds, OkD d) (hd4 : ds.length ≤ 100)
  (hret : ∀ {h' tk'}, Fr h₀ L h' m → News h₀ L h' news → Q (.bool true) { s with heap := h', toks := tk' }) :
    wpAny (model PySem.Challenge.rw_pb0448_01.row.prog w) (ktrTop dp un gd cn cs L a ccd cl outer) (call (.ref 328) [.ref va]) Q E s := by
  have hvl := hvs.1
  have hq2 : (Str.ofString ", ").length = 2 := by decide +kernel
  revert X; k_fill; intro X
  refine wpAny_call ?_
  k_dflt (refine' Mine.code_defL ?k1 ?k2 ?k3 ?k4 ?k5 ?kA ?kF ?kK ?k6 ?k7 ?k8 ?k9 ?kB ?_ ?c2 ?c3 ?c4 ?c5; (case kA => exact rfl); (case kF => exact rfl); (case kK => assumption); (case k1 => k_asm); (case k2 => k_asm); (case k3 => k_asm); (case k4 => k_asm); (case k5 => k_asm); (case k6 => k_is); (case k7 => k_is); (case k8 => ktr_room); (case k9 => exact BindsTo.of_eq rfl); (case c5 => decide); (case kB => exact locs rfl); (case c2 => exact rfl); (case c3 => exact rfl); (case c4 => exact rfl); k_whole; intro g' L' h' FG' F' N' B' X' T' hlt'; (try dsimp only); (try k_lift B'); (try k_fold))
  k_with_none
  k_with "binaryOp Add str str" => ((with_reducible show wpAny _ _ (binaryOp _ (Value.str _ _) (Value.str _ _)) _ _ _); refine add_s ?_ ?_ ?_; (first | omega | exact Nat.le_of_ble_eq_true rfl | (rw [app_len]; omega)); (first | omega | exact Nat.le_of_ble_eq_true rfl | (rw [app_len]; omega)); intro t9 k9)
  k_with "call ref" => ((with_reducible show wpAny _ _ (call (Value.ref 318) _) _ _ _); k_dflt (refine' Mine.due_use ?dk1 ?dk2 ?dk3 ?dk4 ?dk5 ?dk6 ?dk7 ?dk8 ?dv ?dd ?_; (case dk4 => k_asm); (case dv => assumption); (case dd => assumption); (case dk1 => k_asm); (case dk2 => k_asm); (case dk3 => k_asm); (case dk5 => k_asm); (case dk6 => first | exact rfl | assumption); (case dk7 => ktr_room); (case dk8 => ktr_units); k_whole); intro tp7 rl7 n7 k7 vs7 own7 t7 h7 tk7 hoff7 hdat7 F7 N7; (first | (replace N7 := rearrB N7; have oaX := offB hoff7 hoffA) | (replace N7 := rearrA N7; have oaX := offA hoff7 hoffA)); obtain ⟨oa1, oa2, oa3⟩ := oaX; (rcases due_cases hdat7 with ⟨w7, r7, hr7, hw7, hit7⟩ | ⟨w7, w7', r7, r7', hr7, hw7, hw7', hit7⟩ <;> subst hr7))
  k_with "call builtin:len cons nil" => ((with_reducible show wpAny _ _ (call (Value.builtin "len") [Value.ref rl7]) _ _ _); k_dflt (refine' Mine.len_1 ?lN ?lm ?_; (case lN => k_asm); (case lm => k_mem); k_whole))
  k_with "call builtin:len cons nil" => ((with_reducible show wpAny _ _ (call (Value.builtin "len") [Value.ref rl7]) _ _ _); k_dflt (refine' Mine.len_2 ?lN2 ?lm2 ?_; (case lN2 => k_asm); (case lm2 => k_mem); k_whole))
  k_with "RangeRest" => ((with_reducible show RangeRest _ _ _ _ _ _ _ _ _ _ _ _ _ 0 _ _ _); (with_reducible refine RangeRest.zero ?_); intro h7z tk7z F7z N7z)
  k_with "UnrEnd" => (k_dflt (refine' Mine.unr_second ?uF ?uN ?ut ?uI ?_; (case uF => k_asm); (case uN => k_asm); (case ut => k_ne); (case uI => k_all)))
  k_with "pyIter ref" => (k_here; (with_reducible show wpAny _ _ (pyIter (Value.ref _)) (fun it s₂ => LoopAtV _ _ _ _ _ _ _ _ _ it s₂) _ _); (rename Fr _ _ _ _ => lF'); (rename News _ _ _ _ => lN'); k_dflt (refine' Mine.all_loop (n := vs.length) (ds := ds) ?gn ?gh ?gr lF' (Mine.news_tail lN') ?ge ?gt ?gt0 ?go (fun i8 t8 T8 tt8 l8 r8 sp8 dvs8 dk8 led8 h8 tk8 own8 hi8 hP8 ho8 F8' N8' => ?gturn) (fun T8 tt8 l8 r8 sp8 dvs8 dk8 led8 u8 h8 tk8 hP8 F8' N8' => ?gdone); (case gn => omega); (case gh => rfl); (case gr => assumption); (case ge => exact rfl); (case gt => exact rfl); (case gt0 => exact rfl); (case go => first | exact Mine.allNe (by assumption) | exact Mine.ltNe (by assumption)); (case' gturn => (obtain ⟨hT8, hD8, hsub8, hoff8, hdl8, htl8⟩ := hP8; (dsimp only at hT8 hD8 hsub8 hoff8 hdl8 htl8); have hoffA := own_led hoff8 ho8; have hvaM := List.mem_append_left own8 (hsub8 _ hm9))); (case' gdone => (obtain ⟨hT8, hD8, hsub8, hoff8, hdl8, htl8⟩ := hP8; have hvaM := hsub8 _ hm9; (dsimp only at hT8 hD8 hsub8 hoff8 hdl8 htl8); have hDd := due_all hvl hD8; have hkd := text_len hvl hT8))))
  k_with "subscriptTail Name Name ref int" => ((with_reducible show wpAny _ _ (subscriptTail _ _ (Value.ref rl7) (Value.int _ _)) _ _ _); k_dflt (refine' Mine.item_w ?rN ?rm ?r0 ?rf ?rx ?_ ?rh; (case rN => k_asm); (case rm => k_mem); (case rx => exact rfl); (case r0 => decide); (case rf => decide); (case rh => with_unfolding_all rfl); k_whole))
  k_with "subscriptTail Name Name ref int" => ((with_reducible show wpAny _ _ (subscriptTail _ _ (Value.ref va) (Value.int _ _)) _ _ _); k_dflt (refine' Mine.item_x ?sN ?sm ?s0 ?s1 ?sf ?_ ?sh; (case sN => k_asm); (case sm => k_mem); (case s0 => omega); (case s1 => omega); (case sf => omega); (case sh => with_unfolding_all rfl); k_whole); intro v9 hv9; (obtain ⟨d9, hd9, hv9i, hok9⟩ := hvs.2 _ _ hv9); have hll9 := lit_len hok9; (rw [zero_toNat] at hd9))
  k_with "call ref" => ((with_reducible show wpAny _ _ (call (Value.ref 105) _) _ _ _); k_dflt (refine' Mine.lit_use ?ik1 ?ik2 ?ik3 ?ik4 ?ik5 ?ik6 ?ik7 ?ik8 ?iv ?id ?_; (case ik4 => k_asm); (case iv => assumption); (case id => assumption); (case ik1 => k_asm); (case ik2 => k_asm); (case ik3 => k_asm); (case ik5 => k_asm); (case ik6 => first | exact rfl | assumption); (case ik7 => ktr_room); (case ik8 => ktr_units); k_whole); intro t6 h6 tk6 F6 N6)
  k_with "eval ListComp" => (k_here; k_dflt (refine' LCg.ListComp_U (F₀ := ?F9u) ?lu1 ?lu2 ?lu3 ?lu4 ?lu5 ?_; (case F9u => k_asm); (case lu1 => with_unfolding_all rfl); (case lu2 => decide); (case lu3 => with_unfolding_all rfl); (case lu4 => decide); (case lu5 => with_unfolding_all rfl)))
  k_with "CompSrc" => (k_dflt (refine' Mine.comp_map (fun i y l => Mine.RowIs dueD (rowsAt (joinT ds) 0 ++ [(Str.ofString "end", Str.ofString "", DV.none, ((Txt.join (Str.ofString ", ") (ds.map litS)).length : Int))]) i y l) ?mo9 ?hh9 ?cF9 ?cN9 ?cm9 ?cz9 (fun i8 v8 ys8 I8 oI8 C8 oC8 D8 m8 nw8 h8 tk8 E8 hv8 hC' hm' F' N' off' ne' hs8 => ?ct) (fun h8 ys8 nw8 hl8 hs8 hr8 => ?cf); (case mo9 => exact fun h k => Mine.RowIs.mono h k); (case hh9 => rfl); (case cF9 => k_asm); (case cN9 => k_asm); (case cm9 => assumption); (case cz9 => exact Nat.le_trans (Nat.le_of_eq hw9.len) (ql_len hd4)); (case' ct => (obtain ⟨q8, hq8, wd8, vv8, u8, u8', hve8, hd8, hwd8⟩ := hw9.get hv8; subst hve8; have hwi8 := (hwd8.mono hs8).mono (news' := (I8, oI8) :: (C8, oC8) :: (D8, LCg.lst ys8) :: nw8) (fun _ h => .tail _ (.tail _ (.tail _ h))); obtain ⟨dwd8, z1, z2, z3, z4, ztp, hwm8, hwm8'⟩ := id hwi8)); (case' cf => (have hdl9 := rows_dat (hl8.trans hw9.len) hr8)); (all_goals (try k_fold))))
  k_with "CompSrc" => (k_dflt ((with_reducible show LCg.CompSrc _ _ _ _ _ _ _ _ _ _ _ _ (Value.ref va) _); refine' Mine.comp_map (fun i y l => Mine.LitIs ds i y l) ?lmo ?lhh ?lcF ?lcN ?lcm ?lcz (fun i8 v8 ysL I8 oI8 C8 oC8 D8 m8 nwL h8 tk8 E8 hv8 hC' hm' F' N' off' ne' hsL => ?lct) (fun h8 ysL nwL hlL hsL hrL => ?lcf); (case lmo => exact fun _ h => h); (case lhh => rfl); (case lcF => k_asm); (case lcN => k_asm); (case lcm => k_mem); (case lcz => omega); (case' lct => (obtain ⟨d8, hd8, hv8i, hok8⟩ := hvs.2 _ _ hv8)); (case' lcf => (have hlit9 := lits_are (hlL.trans hvl) hrL)); (all_goals (try k_fold))))
  k_with "call builtin:str.join" => ((with_reducible show wpAny _ _ (call (Value.builtin "str.join") [Value.str _ _, Value.ref _]) _ _ _); k_dflt (refine' Mine.join_w ?jN ?jm hlit9 ?jo ?_; (case jN => k_asm); (case jm => exact .head _); (case jo => exact join_ok hds hd4); k_whole); intro tj9 kj9)
  k_with "call ref" => ((with_reducible show wpAny _ _ (call (Value.ref 287) _) _ _ _); k_dflt (refine' Mine.words_use (toks := joinT ds) ?wk1 ?wk2 ?wk3 ?wk4 ?wk5 ?wk6 ?wk7 ?wk8 ?wT ?wG ?wz ?_; (case wk4 => k_asm); (case wT => exact join_all ds); (case wG => exact good_join hds); (case wz => exact join_len hds hd4); (case wk1 => k_asm); (case wk2 => k_asm); (case wk3 => k_asm); (case wk5 => k_asm); (case wk6 => first | exact rfl | assumption); (case wk7 => ktr_room); (case wk8 => ktr_units); k_whole); intro fa9 vs9 k9 nw9 h9 tk9 hs9 hm9 hw9 F9 N9)
  k_with "call ref" => ((with_reducible show wpAny _ _ (call (Value.ref 168) _) _ _ _); k_dflt (refine' Mine.row_use ?rk1 ?rk2 ?rk3 ?rk4 ?rk5 ?rk6 ?rk7 ?rk8 ?rw ?rv ?_; (case rk4 => k_asm); (case rw => assumption); (case rv => exact dvis_handed (by assumption)); (case rk1 => k_asm); (case rk2 => k_asm); (case rk3 => k_asm); (case rk5 => k_asm); (case rk6 => first | exact rfl | assumption); (case rk7 => ktr_room); (case rk8 => ktr_units); k_whole); intro tp9 n9 h9 tk9 hl9 F9 N9)
  k_with "compareOp Eq ref ref" => (k_dflt (refine' Mine.all_eq (ds := ds) ?eN hdl9 ?ea hDd ?el ?et ?ee hkd ?eu ?_; (case eN => k_asm); (case ea => exact hs8 _ (hs9 _ (.tail _ (hsL _ (.tail _ (.tail _ (.head _))))))); (case et => exact hs8 _ (hs9 _ (.tail _ (hsL _ (.head _))))); (case ee => exact hs8 _ (hs9 _ (.tail _ (hsL _ (.tail _ (.head _)))))); (case el => exact fun p hp => hs8 _ (hs9 _ (.tail _ (hsL _ (.tail _ (.tail _ (.tail _ hp))))))); (case eu => ktr_units); k_whole))
  k_steps
  all_goals first
    | exact hret (by assumption) (news_sub (by assumption) fun p hp => .tail _ (hs8 _ (hs9 _ (.tail _ (hsL _ (.tail _ (.tail _ (.tail _ (hsub8 p hp)))))))))
    | exact MapEnd.lit (by assumption) (by assumption) off' hd8
    | (rename (_ ∧ _ ∧ _ ∧ _ ∧ AllLt _ _) => hl7
       exact MapEnd.row2 (by assumption) (by assumption) hl9 ⟨hl7.2.1, hl7.2.2.1, hl7.2.2.2.1⟩ off' hq8 (.tuple (.head _) (.cons (.tuple (.tail _ (.head _)) (.cons (.str _ _) (.cons (.str _ _) (.cons (dvis_dat hd8) .nil)))) (.cons (.int _ _) .nil))))
    | (refine' AEnd.A1 hT8 hD8 hsub8 hdl8 htl8 ?_ hd9 hok9 hit7 hw7 ?_ ho8 (dueOffA hoff7) oa1 oa2 oa3 ?_ ?_ (by assumption) (by assumption) rfl ?_
       · omega
       · omega
       · first | assumption | exact lt_c1 (by assumption) | exact lt_c2 (by assumption) | exact lt_c3 (by assumption) | exact lt_c4 (by assumption) | exact lt_c5 (by assumption) | exact lt_c6 (by assumption) | exact lt_c7 (by assumption) | exact lt_c8 (by assumption)
       · first | k_ne | omega
       · intro y h1 h2 h3 h4 h5; simp only [asM, h1, h2, h3, h4, h5, if_false])
    | (refine' AEnd.A2 hT8 hD8 hsub8 hdl8 htl8 ?_ hd9 hok9 hit7 hw7 hw7' ?_ ?_ ho8 (dueOffA hoff7) oa1 oa2 oa3 ?_ ?_ ?_ ?_ (by assumption) (by assumption) rfl ?_
       · omega
       · omega
       · omega
       · first | assumption | exact lt_c1 (by assumption) | exact lt_c2 (by assumption) | exact lt_c3 (by assumption) | exact lt_c4 (by assumption) | exact lt_c5 (by assumption) | exact lt_c6 (by assumption) | exact lt_c7 (by assumption) | exact lt_c8 (by assumption)
       · first | k_ne | omega
       · first | assumption | exact lt_c1 (by assumption) | exact lt_c2 (by assumption) | exact lt_c3 (by assumption) | exact lt_c4 (by assumption) | exact lt_c5 (by assumption) | exact lt_c6 (by assumption) | exact lt_c7 (by assumption) | exact lt_c8 (by assumption)
       · first | k_ne | omega
       · intro y h1 h2 h3 h4 h5; simp only [asM, h1, h2, h3, h4, h5, if_false])
    | (refine' AEnd.B1 hT8 hD8 hsub8 hdl8 htl8 ?_ hd9 hok9 hit7 hw7 ?_ ?_ ho8 (dueOffB hoff7) oa1 oa2 oa3 ?_ ?_ ?_ ?_ ?_ ?_ (by assumption) (by assumption) rfl ?_
       · omega
       · omega
       · omega
       · first | assumption | exact lt_c1 (by assumption) | exact lt_c2 (by assumption) | exact lt_c3 (by assumption) | exact lt_c4 (by assumption) | exact lt_c5 (by assumption) | exact lt_c6 (by assumption) | exact lt_c7 (by assumption) | exact lt_c8 (by assumption)
       · first | k_ne | omega
       · first | assumption | exact lt_c1 (by assumption) | exact lt_c2 (by assumption) | exact lt_c3 (by assumption) | exact lt_c4 (by assumption) | exact lt_c5 (by assumption) | exact lt_c6 (by assumption) | exact lt_c7 (by assumption) | exact lt_c8 (by assumption)
       · first | k_ne | omega
       · first | assumption | exact lt_c1 (by assumption) | exact lt_c2 (by assumption) | exact lt_c3 (by assumption) | exact lt_c4 (by assumption) | exact lt_c5 (by assumption) | exact lt_c6 (by assumption) | exact lt_c7 (by assumption) | exact lt_c8 (by assumption)
       · first | k_ne | omega
       · intro y h1 h2 h3 h4 h5; simp only [asM, h1, h2, h3, h4, h5, if_false])
    | (refine' AEnd.B2 hT8 hD8 hsub8 hdl8 htl8 ?_ hd9 hok9 hit7 hw7 hw7' ?_ ?_ ?_ ho8 (dueOffB hoff7) oa1 oa2 oa3 ?_ ?_ ?_ ?_ ?_ ?_ ?_ ?_ (by assumption) (by assumption) rfl ?_
       · omega
       · omega
       · omega
       · omega
       · first | assumption | exact lt_c1 (by assumption) | exact lt_c2 (by assumption) | exact lt_c3 (by assumption) | exact lt_c4 (by assumption) | exact lt_c5 (by assumption) | exact lt_c6 (by assumption) | exact lt_c7 (by assumption) | exact lt_c8 (by assumption)
       · first | k_ne | omega
       · first | assumption | exact lt_c1 (by assumption) | exact lt_c2 (by assumption) | exact lt_c3 (by assumption) | exact lt_c4 (by assumption) | exact lt_c5 (by assumption) | exact lt_c6 (by assumption) | exact lt_c7 (by assumption) | exact lt_c8 (by assumption)
       · first | k_ne | omega
       · first | assumption | exact lt_c1 (by assumption) | exact lt_c2 (by assumption) | exact lt_c3 (by assumption) | exact lt_c4 (by assumption) | exact lt_c5 (by assumption) | exact lt_c6 (by assumption) | exact lt_c7 (by assumption) | exact lt_c8 (by assumption)
       · first | k_ne | omega
       · first | assumption | exact lt_c1 (by assumption) | exact lt_c2 (by assumption) | exact lt_c3 (by assumption) | exact lt_c4 (by assumption) | exact lt_c5 (by assumption) | exact lt_c6 (by assumption) | exact lt_c7 (by assumption) | exact lt_c8 (by assumption)
       · first | k_ne | omega
       · intro y h1 h2 h3 h4 h5; simp only [asM, h1, h2, h3, h4, h5, if_false])
end
section
variable {prog : Program} {w : World} {A : Around} {E : Value → Shared → Prop} {s : Shared} {h₀ : Heap} {L : Addr} {m : Str → Option Value} {env : Env}
/-- a test's end that takes nothing -/
def NoneEnd (h₀ : Heap) (L : Addr) (m : Str → Option Value) (s : Shared) (I : Addr) (oI : Obj) (C : Addr) (oC : Obj) (D : Addr) (news : List (Addr × Obj)) (ok : Bool) (s₂ : Shared) : Prop :=
  ok = false ∧ ∃ h' tk', s₂ = { s with heap := h', toks := tk' } ∧ Fr h₀ L h' m ∧ News h₀ L h' ((I, oI) :: (C, oC) :: (D, LCg.lst []) :: news)
theorem NoneEnd.intro {I : Addr} {oI : Obj} {C : Addr} {oC : Obj} {D : Addr} {news : List (Addr × Obj)} {h' : Heap} {tk' : Nat} (F : Fr h₀ L h' m) (N : News h₀ L h' ((I, oI) :: (C, oC) :: (D, LCg.lst []) :: news)) :
    NoneEnd h₀ L m s I oI C oC D news false { s with heap := h', toks := tk' } := ⟨rfl, h', tk', rfl, F, N⟩
/-- a comprehension whose test takes nothing -/
theorem comp_none {ct elt : PySem.Expr} {x : Str} {scope : Scope} {cl : List (Str × Addr)} {Fin : Shared → List Value → List (Addr × Obj) → Prop} {ax : Addr} {vs : List Value} {kk : Nat} {news : List (Addr × Obj)}
    (hh : A.handled = none) (F : Fr h₀ L s.heap m) (N : News h₀ L s.heap news) (hm : (ax, W.listOf vs.toArray kk) ∈ news) (hsz : vs.length ≤ 100000)
    (turn : ∀ (i : Nat) v I oI C oC D m₂ h tk (E' : Value → Shared → Prop), vs[i]? = some v → LCg.NsObj oC m₂ → m₂ x = some v → Fr h₀ L h m → News h₀ L h ((I, oI) :: (C, oC) :: (D, LCg.lst []) :: news) → LCg.Off3 I C D news → ((@Ne Nat I C) ∧ (@Ne Nat I D) ∧ (@Ne Nat C D)) →
      wpAny (model prog w) A (isTrue ct (compEnvC scope cl C env) (eval ct (compEnvC scope cl C env))) (NoneEnd h₀ L m { s with heap := h, toks := tk } I oI C oC D news) E' { s with heap := h, toks := tk })
    (fin : ∀ h, Fin { s with heap := h } [] news) : LCt.CompSrcT prog w A h₀ L m env ct elt x scope cl Fin (.ref ax) s := by
  refine LCt.CompSrcT.ledger hh F N hm (by rw [List.size_toArray, sizeLine_eq]; omega) fun h₁ => ?_
  have key : ∀ (j i : Nat), i + j = vs.toArray.size → LCt.CompRestT prog w A h₀ L m env ct elt x scope cl { s with heap := h₁ } (LCg.SrcAt h₀ ax vs.toArray) (fun i v => vs.toArray[i]? = some v) (Fin { s with heap := h₁ }) j i [] news := by
    intro j
    induction j with
    | zero => intro i hi; exact LCt.CompRestT.zero (fin h₁)
    | succ j ih =>
      intro i hi
      refine LCt.CompRestT.succ ?_
      intro v I oI C oC D m₂ h tk E' hv hC hx F' N' off ne
      refine wpAny_mono (turn i v I oI C oC D m₂ h tk E' (by simpa using hv) hC hx F' N' off ne) (fun ok s₂ hq => ?_) fun _ _ e => e
      obtain ⟨rfl, h', tk', rfl, F'', N''⟩ := hq
      simp only [Bool.false_eq_true, if_false]
      exact ⟨h', tk', news, rfl, F'', N'', off, .inr ⟨_, hm, rfl, _, rfl⟩, ih (i + 1) (by omega)⟩
  exact key _ 0 (by simp)
end
theorem four_len {ys : List Value} {ds : List DV} (h : ys.length = Int.toNat 4) (hv : ValsAre ys ds) : ys.length = 4 ∧ ds.length = 4 := ⟨h, hv.1 ▸ h⟩
abbrev lawM (m₀ : Str → Option Value) (c : Obj × Option Value) : Str → Option Value := fun y => if y = Str.ofString "values" then c.2 else m₀ y
def lawP (_ : Nat) (c : Obj × Option Value) : Prop := ∃ q, c.1.data = Data.cell q
section
open PySem PySem.Calls PyProof.Rows PyProof.V PySem.Spec
variable {prog : Program} {w : World} {A : Around} {E : Value → Shared → Prop} {s : Shared} {env : Env} {h₀ : Heap} {x : PySem.Str} {body : List Stmt} {Q : Flow → Shared → Prop}
theorem law_loop {r ca : Addr} {b : Int} {o₀ : Obj} {t₀ u₀ v₀ : Tok} {m₀ : PySem.Str → Option Value} (hb0 : 0 ≤ b) (hb : b ≤ 3) (hh : A.handled = none) (hr : IsRange s.heap r 0 b 1 t₀ u₀ v₀) (F : Fr h₀ env.locals s.heap m₀) (N : News h₀ env.locals s.heap [(ca, o₀)]) (ho : ∃ q, o₀.data = Data.cell q)
    (turn : ∀ (i : Nat) t o v h tk own, i < 3 → (∃ q, o.data = Data.cell q) → (∀ p ∈ own, p.1 ≠ ca) → Fr h₀ env.locals h (fun y => if y = x then some (.int (0 + (i : Int)) t) else lawM m₀ (o, v) y) → News h₀ env.locals h ((ca, o) :: own) →
      wpAny (model prog w) A (execs body env) (GEnd h₀ env.locals x (lawM m₀) (fun c => [(ca, c.1)]) (lawP (i + 1)) own { s with heap := h, toks := tk }) E { s with heap := h, toks := tk })
    (done : ∀ o v u h tk, Fr h₀ env.locals h (fun y => if y = x then u else lawM m₀ (o, v) y) → News h₀ env.locals h [(ca, o)] → Q .next { s with heap := h, toks := tk }) :
    wpAny (model prog w) A (pyIter (.ref r)) (fun it s₂ => LoopAtV prog w A h₀ env x body Q E it s₂) E s := by
  have e : b = ((b.toNat : Nat) : Int) := by omega
  rw [e] at hr
  refine range_growN (n := b.toNat) (lawM m₀) (fun c => [(ca, c.1)]) lawP (o₀, m₀ (Str.ofString "values")) (by omega) hh hr F N ?_ rfl ho (fun i t c h tk own hi hc hoff F' N' => turn i t c.1 c.2 h tk own (by omega) hc (fun p hp => hoff p hp ca (by simp)) F' N') (fun c u h tk hc F' N' => done c.1 c.2 u h tk F' N')
  funext y
  unfold lawM
  split
  · rename_i k; subst k; rfl
  · rfl
theorem LawEnd.intro {ca : Addr} {L : Addr} {m₀ f : PySem.Str → Option Value} {own nw : List (Addr × Obj)} {i : Nat} {h' : Heap} {tk' : Nat} {o' : Obj} (hoff : ∀ p ∈ own, p.1 ≠ ca)
    (F : Fr h₀ L h' f) (N : News h₀ L h' nw) (h1 : (ca, o') ∈ nw) (h2 : ∀ p ∈ own, p ∈ nw) (e2 : ∀ y, y ≠ Str.ofString "k" → y ≠ Str.ofString "values" → f y = m₀ y) (hc : ∃ q, o'.data = Data.cell q) :
    GEnd h₀ L (Str.ofString "k") (lawM m₀) (fun c => [(ca, c.1)]) (lawP i) own s .next { s with heap := h', toks := tk' } := by
  refine GEnd.intro (u := f (Str.ofString "k")) (o', f (Str.ofString "values")) ?_ N (fun p hp => by rw [List.mem_singleton.mp hp]; exact h1) h2 (fun p hp b hb => by simp at hb; subst hb; exact hoff p hp) hc
  have e : (fun y => if y = Str.ofString "k" then f (Str.ofString "k") else lawM m₀ (o', f (Str.ofString "values")) y) = f := by
    funext y
    by_cases k0 : y = Str.ofString "k"
    · subst k0; simp
    · rw [if_neg k0]
      unfold lawM
      by_cases k1 : y = Str.ofString "values"
      · rw [if_pos k1, k1]
      · rw [if_neg k1]; exact (e2 y k0 k1).symm
  rw [e]; exact F
end
theorem law_b (n : Nat) (b : Int) (h : b = (if (if (3 : Int) < (n : Int) then 3 else (n : Int)) > 1 then if (3 : Int) < (n : Int) then 3 else (n : Int) else 1)) : 0 ≤ b ∧ b ≤ 3 := by
  subst h
  constructor <;> (repeat' split) <;> omega
local macro_rules | `(tactic| k_qdec) => `(tactic| decide +kernel)
theorem law_holds : PySem.Challenge.rw_pb0448_01.Holds := by
  w_on
  refine holds_law hd.said0 fun said => ?_
  refine holds_open (q := hd.view_39) (loose := [Str.ofString "NAME_SIGNS", Str.ofString "LIKE_SIGNS", Str.ofString "GREATEST"]) (Xt := fun s => xlAt hd.view_39 hd.lv0 s && recOk (RowW.records PySem.Challenge.rw_pb0448_01.row.toRowW) s) (XP := XL hd.view_39 [(Str.ofString "NAME_SIGNS", WData.str (Str.mk #[97, 98, 99, 100, 101, 102, 103, 104, 105, 106, 107, 108, 109, 110, 111, 112, 113, 114, 115, 116, 117, 118, 119, 120, 121, 122, 65, 66, 67, 68, 69, 70, 71, 72, 73, 74, 75, 76, 77, 78, 79, 80, 81, 82, 83, 84, 85, 86, 87, 88, 89, 90, 95, 48, 49, 50, 51, 52, 53, 54, 55, 56, 57, 36])), (Str.ofString "GREATEST", WData.int 9223372036854775808)]) (Yf := Hook.obs (kHook hd.heap_39 hd.keys hd.keysAre)) (Ya := Hook.val (kHook hd.heap_39 hd.keys hd.keysAre)) (YP := Hook.says (kHook hd.heap_39 hd.keys hd.keysAre)) (N := 5264) hd.left0 (Hook.of _) (Hook.keeps _) (fun s e => xl_of s (Bool.and_eq_true_iff.mp e).1) XL.keeps (by rfl) (by rfl) (by rfl) (fun s e => recFacts_of (Bool.and_eq_true_iff.mp e).2) (by rfl) (by assumption) (by decide +kernel) ⟨rfl, rfl, rfl, rfl, rfl, by decide +kernel⟩ ?hw ?hc
  case hw => w_witness2
  clear said
  k_go0
  all_goals try k_fold
  k_with_none
  k_with "call ref" => ((with_reducible show wpAny _ _ (call (Value.ref 294) _) _ _ _); k_dflt (refine' Mine.pool_use ?pok1 ?pok2 ?pok3 ?pok4 ?pok5 ?pok6 ?pok7 ?pok8 ?pol ?poi ?poz ?po0 ?po1 ?_; (case pok4 => k_asm); (case pol => assumption); (case poi => assumption); (case poz => (rename IntsAre _ _ => hI9; have hL9 := IntsAre.length hI9; omega)); (case po0 => first | decide | omega); (case po1 => first | decide | omega); (case pok1 => k_asm); (case pok2 => k_asm); (case pok3 => k_asm); (case pok5 => k_asm); (case pok6 => first | exact rfl | assumption); (case pok7 => ktr_room); (case pok8 => ktr_units); k_whole); intro src5 x5 y5 tx5 ty5 n5 h5 tk5 hl5 hx5 hy5 hyy5 F5 N5; (simp only [AllLt] at hl5); (obtain ⟨hl5a, hl5b⟩ := hl5))
  k_with "call ref" => ((with_reducible show wpAny _ _ (call (Value.ref 313) _) _ _ _); k_dflt (refine' Mine.value_use ?vak1 ?vak2 ?vak3 ?vak4 ?vak5 ?vak6 ?vak7 ?vak8 ?vaU ?vax ?vay ?vay2 ?_; (case vak4 => k_asm); (case vaU => k_updF); (case vax => assumption); (case vay => assumption); (case vay2 => assumption); (case vak1 => k_asm); (case vak2 => k_asm); (case vak3 => k_asm); (case vak5 => k_asm); (case vak6 => first | exact rfl | assumption); (case vak7 => ktr_room); (case vak8 => ktr_units); k_whole); intro v5 x5' y5' tx5' ty5' h5' tk5' hv5' hx5' hy5' hyy5' F5' N5'; (try dsimp only at N5'))
  k_with "CompSrc" => (k_dflt (refine' Mine.comp_draw (src := src5) OkV ?ahh ?aF ?aN ?ar ?ab0 ?ab1 ?aU ?ax ?ay ?ay2 (fun k8 kt8 ys8 I8 oI8 C8 oC8 D8 m8 x8 y8 tx8 ty8 h8 tk8 E8 hC' hm' F' N' off' ne' hx8 hy8 hyy8 => ?adraw) (fun h8 ys8 x8 y8 tx8 ty8 hl8 hp8 hx8 hy8 hyy8 => ?afin); (case ahh => rfl); (case aF => k_asm); (case aN => k_asm); (case ar => assumption); (case ab0 => decide); (case ab1 => decide); (case aU => k_updF); (case ax => assumption); (case ay => assumption); (case ay2 => assumption); (case' afin => (obtain ⟨ds8, hvs8, hds8⟩ := vals_of hp8; have hlen8 := four_len hl8 hvs8)); (all_goals (try dsimp only at N')); (all_goals (try simp only [LCg.Off3, and_true] at off')); (all_goals (try k_fold))))
  k_with "eval ListComp" => (k_here; k_dflt (refine' LCg.ListComp_U (F₀ := ?F9u) ?lu1 ?lu2 ?lu3 ?lu4 ?lu5 ?_; (case F9u => k_asm); (case lu1 => with_unfolding_all rfl); (case lu2 => decide); (case lu3 => with_unfolding_all rfl); (case lu4 => decide); (case lu5 => with_unfolding_all rfl)))
  k_with "eval ListComp" => (k_here; k_dflt (refine' LCt.ListComp_T (F₀ := ?F9t) ?lt1 ?lt2 ?lt3 ?lt4 ?lt5 ?_; (case F9t => k_asm); (case lt1 => with_unfolding_all rfl); (case lt2 => decide); (case lt3 => with_unfolding_all rfl); (case lt4 => decide); (case lt5 => with_unfolding_all rfl)))
  k_with "CompSrcT" => (k_dflt (refine' Mine.comp_none ?nhh ?nF ?nN ?nm ?nz (fun i8 v8 I8 oI8 C8 oC8 D8 m8 h8 tk8 E8 hv8 hC' hm' F' N' off' ne' => ?nturn) (fun h8 => ?nfin); (case nhh => rfl); (case nF => k_asm); (case nN => k_asm); (case nm => k_mem); (case nz => omega); (case' nturn => (obtain ⟨d8, hd8, hv8i, hok8⟩ := hvs8.2 _ _ hv8)); (all_goals (try simp only [LCg.Off3, and_true] at off')); (all_goals (try k_fold))))
  k_with "NoneEnd" => (refine Mine.NoneEnd.intro ?eF ?eN; (case eF => k_asm); (case eN => k_asm))
  k_with "call ref" => ((with_reducible show wpAny _ _ (call (Value.ref 323) _) _ _ _); k_dflt (refine' Mine.vright_use ?vrk1 ?vrk2 ?vrk3 ?vrk4 ?vrk5 ?vrk6 ?vrk7 ?vrk8 ?vrv ?vrd ?_; (case vrk4 => k_asm); (case vrv => assumption); (case vrd => assumption); (case vrk1 => k_asm); (case vrk2 => k_asm); (case vrk3 => k_asm); (case vrk5 => k_asm); (case vrk6 => first | exact rfl | assumption); (case vrk7 => ktr_room); (case vrk8 => ktr_units); k_whole); intro h6 tk6 F6 N6)
  k_with "call ref" => ((with_reducible show wpAny _ _ (call (Value.ref 328) _) _ _ _); k_dflt (refine' Mine.all_use ?alk1 ?alk2 ?alk3 ?alk4 ?alk5 ?alk6 ?alk7 ?alk8 ?alm ?alv ?ald ?al4 ?_; (case alk4 => k_asm); (case alm => k_mem); (case alv => exact hvs8); (case ald => exact hds8); (case al4 => omega); (case alk1 => k_asm); (case alk2 => k_asm); (case alk3 => k_asm); (case alk5 => k_asm); (case alk6 => first | exact rfl | assumption); (case alk7 => ktr_room); (case alk8 => ktr_units); k_whole); intro h6 tk6 F6 N6)
  k_with "pyIter ref" => (k_here; (with_reducible show wpAny _ _ (pyIter (Value.ref _)) (fun it s₂ => LoopAtV _ _ _ _ _ _ _ _ _ it s₂) _ _); (rename Fr _ _ _ _ => lF'); (rename News _ _ _ _ => lN'); (rename IsRange _ _ _ _ _ _ _ _ => lR'); k_dflt (refine' Mine.law_loop (law_b _ _ rfl).1 (law_b _ _ rfl).2 ?wh lR' lF' lN' ?wo (fun i8 t8 o8 vv8 h8 tk8 own8 hi8 hq8 ho8 F8' N8' => ?wturn) (fun o8 vv8 u8 h8 tk8 F8' N8' => ?wdone); (case wh => rfl); (case wo => exact ⟨_, by assumption⟩); (case' wturn => (obtain ⟨q8, hq8⟩ := hq8))))
  k_steps
  · refine' LawEnd.intro ho8 ?zF ?zN ?z1 ?z2 ?ze ?zc
    case zF => assumption
    case zN => assumption
    case z1 => k_mem
    case z2 => (intro p hp; repeat (first | exact hp | refine List.Mem.tail _ ?_))
    case ze => (intro y h1 h2; simp only [lawM, h1, h2, if_false])
    case zc => exact ⟨_, by assumption⟩
  · refine' DrawEnd.intro ?yF ?yN ?yS ?yx ?yy ?yy2 ?yv
    case yF => assumption
    case yN => assumption
    case yS => first | exact fun _ h => h | exact fun _ h => List.mem_cons_of_mem _ h
    case yx => assumption
    case yy => assumption
    case yy2 => assumption
    case yv => assumption
end Mine
theorem PySem.Challenge.cw_pb0448_01_holds : PySem.Challenge.rw_pb0448_01.Holds := by
  exact Mine.law_holds
