import PyProof.Rows.All
import Wide.All
import OpenK.AllK
import Wide.FinOn
import Lean
import PySem.Challenge.RW_rh0230_01
open PySem PySem.W PyProof.Rows PySem.Calls
set_option Elab.async false
set_option maxRecDepth 100000
set_option maxHeartbeats 0
set_option linter.unusedVariables false
section
open PySem PySem.W PyProof.Rows PySem.Calls
set_option Elab.async false
set_option maxRecDepth 100000
set_option maxHeartbeats 0
set_option linter.unusedVariables false
namespace Mine
abbrev pw : Program := PySem.Challenge.pw_rh0230_01
noncomputable def stAt (i : Nat) : Stmt := (pw.main.body[i]?).getD (.Pass ⟨0, 0, 0, 0⟩)
noncomputable def stIn (i j : Nat) : Stmt := match stAt i with | .ClassDef (body := b) .. => (b[j]?).getD (.Pass ⟨0, 0, 0, 0⟩) | s => s
noncomputable def fnA : Stmt → Arguments | .FunctionDef (args := a) .. => a | _ => default
noncomputable def fnB : Stmt → List Stmt | .FunctionDef (body := b) .. => b | _ => []
noncomputable def fnS : Stmt → Scope | .FunctionDef (scope := s) .. => s | _ => default
noncomputable abbrev o1x11 (P : Params) : Obj := (@Obj.mk (@Value.type "tuple") none (@Data.seq (@List.toArray Value []) 0) (@List.toArray (@Option Value) []))
noncomputable abbrev o1x12 (P : Params) : Obj := (@Obj.mk Value.none none (@Data.fields (@List.toArray Value [])) (@List.toArray (@Option Value) []))
noncomputable abbrev o1x13 (P : Params) : Obj := (@Obj.mk (@Value.type "code") none (@Data.fields (@List.toArray Value [(@Value.str (Str.ofString "<module>") 182), (@Value.str (Str.ofString "<module>") 183), (@Value.str (Str.ofString "/claim/cut.py") 184), (@Value.int (@OfNat.ofNat Int (nat_lit 1) (@instOfNat (nat_lit 1))) 0), (@Value.int (@OfNat.ofNat Int (nat_lit 0) (@instOfNat (nat_lit 0))) 0), (@Value.int (@OfNat.ofNat Int (nat_lit 0) (@instOfNat (nat_lit 0))) 0), (@Value.int (@OfNat.ofNat Int (nat_lit 0) (@instOfNat (nat_lit 0))) 0), (@Value.int (@OfNat.ofNat Int (nat_lit 0) (@instOfNat (nat_lit 0))) 0), (@Value.ref 11), (@Value.bool Bool.false), (@Value.int (@OfNat.ofNat Int (nat_lit 181) (@instOfNat (nat_lit 181))) 0), (@Value.ref 12), Value.none, Value.none, Value.none, Value.none, (@Value.int (@OfNat.ofNat Int (nat_lit 185) (@instOfNat (nat_lit 185))) 0), (@Value.int (@OfNat.ofNat Int (nat_lit 1) (@instOfNat (nat_lit 1))) 0), (@Value.str (Str.ofString "/claim/cut.py") 186)])) (@List.toArray (@Option Value) []))
noncomputable abbrev o1x14 (P : Params) : Obj := (@Obj.mk (@Value.type "frame") none PySem.Data.plain (@List.toArray (@Option Value) [(some (@Value.ref 13)), (some (@Value.ref 3)), (some (@Value.ref 3)), none, (some (@Value.str (Str.ofString "__main__") 164)), none, (some (@Value.ref 0))]))
noncomputable abbrev hpA (P : Params) : Heap := Heap.mk (Array.mk (boot_o_0 P :: boot_o_1 P :: boot_o_2 P :: boot_o_3 P :: boot_o_4 P :: boot_o_5 P :: boot_o_6 P :: boot_o_7 P :: boot_o_8 P :: boot_o_9 P :: boot_o_10 P :: o1x11 P :: o1x12 P :: o1x13 P :: o1x14 P :: [])) (@PySem.Life.mk [] [] [] 0 [] [] Bool.false (@List.toArray Nat []) [] 0 Bool.false Bool.false Bool.false (@OfNat.ofNat Int (nat_lit 0) (@instOfNat (nat_lit 0))) [(@OfNat.ofNat Int (nat_lit 2000) (@instOfNat (nat_lit 2000))), (@OfNat.ofNat Int (nat_lit 10) (@instOfNat (nat_lit 10))), (@OfNat.ofNat Int (nat_lit 10) (@instOfNat (nat_lit 10)))] Bool.false 0 Bool.true [] [] 0 Bool.false)
noncomputable abbrev shpA (w : World) (os : OsState) : Shared := ⟨hpA w.params, Array.mk [], (@PySem.Drawn.mk 0 0 0 0), (nat_lit 187), os⟩
noncomputable abbrev hpB (P : Params) : Heap := Heap.mk (Array.mk (boot_o_0 P :: boot_o_1 P :: boot_o_2 P :: boot_o_3 P :: boot_o_4 P :: boot_o_5 P :: boot_o_6 P :: boot_o_7 P :: boot_o_8 P :: boot_o_9 P :: boot_o_10 P :: o1x11 P :: o1x12 P :: o1x13 P :: o1x14 P :: [])) (@PySem.Life.mk [] [] [] 0 [] [] Bool.false (@List.toArray Nat []) [] 0 Bool.false Bool.false Bool.false (@OfNat.ofNat Int (nat_lit 0) (@instOfNat (nat_lit 0))) [(@OfNat.ofNat Int (nat_lit 2000) (@instOfNat (nat_lit 2000))), (@OfNat.ofNat Int (nat_lit 10) (@instOfNat (nat_lit 10))), (@OfNat.ofNat Int (nat_lit 10) (@instOfNat (nat_lit 10)))] Bool.false 0 Bool.true [] [] 0 Bool.false)
noncomputable abbrev shpB (w : World) (os : OsState) : Shared := ⟨hpB w.params, Array.mk [], (@PySem.Drawn.mk 0 0 0 0), (nat_lit 187), os⟩
noncomputable abbrev envT : Env := { scope := pw.main.scope, locals := mainNs, globals := mainNs, cells := [], code := (@Value.ref 13), frame := some 14 }
noncomputable abbrev bodT : List Stmt := behindTheImports pw
noncomputable abbrev cT : Code := Code.body bodT envT
noncomputable abbrev B_T : List Frame := [topFrame ⟨0, 0, 0, 0⟩]
theorem pre_T : ∀ (w : World) (os : OsState), topGo treeTable pw w (nat_lit 11) (some (@Value.ref 6)) (nat_lit 12) ⟨boot_heap w.params, Array.mk [], boot_drawn, boot_toks, os⟩ (topStub pw) = some (shpA w os, ⟨denote treeTable cT, cT, ⟨0, 0, 0, 0⟩, B_T⟩) := by
  intro w os; kernel_rfl
theorem block_T : ∀ (w : World) (os : OsState), segRun treeTable pw w (nat_lit 11) (some (@Value.ref 6)) (nat_lit 1) (nat_lit 1) (shpA w os) (blockOf bodT envT cT ⟨0, 0, 0, 0⟩ B_T) = some (Flow.next, shpB w os, cT, ⟨0, 0, 0, 0⟩) := by
  intro w os; kernel_rfl
noncomputable abbrev o3x2 (P : Params) : Obj := (@Obj.mk Value.none none (@Data.dict (@List.toArray PySem.DictEntry [(@DictEntry.mk (@PyData.keyHash P (Str.ofString "type.__subclasses__.Exception.0")) (@Value.str (Str.ofString "type.__subclasses__.Exception.0") 219) (@Value.int (@OfNat.ofNat Int (nat_lit 34) (@instOfNat (nat_lit 34))) 0)), (@DictEntry.mk (@PyData.keyHash P (Str.ofString "type.__subclasses__.Exception.n")) (@Value.str (Str.ofString "type.__subclasses__.Exception.n") 220) (@Value.int (@OfNat.ofNat Int (nat_lit 1) (@instOfNat (nat_lit 1))) 0))]) 2) (@List.toArray (@Option Value) []))
noncomputable abbrev o3x3 (P : Params) : Obj := (@Obj.mk (@Value.type "dict") none (@Data.dict (@List.toArray PySem.DictEntry [(@DictEntry.mk (@PyData.keyHash P (Str.ofString "__name__")) (@Value.str (Str.ofString "__name__") 165) (@Value.str (Str.ofString "snobol.values") 187)), (@DictEntry.mk (@PyData.keyHash P (Str.ofString "__doc__")) (@Value.str (Str.ofString "__doc__") 166) Value.none), (@DictEntry.mk (@PyData.keyHash P (Str.ofString "__package__")) (@Value.str (Str.ofString "__package__") 167) Value.none), (@DictEntry.mk (@PyData.keyHash P (Str.ofString "__loader__")) (@Value.str (Str.ofString "__loader__") 168) (@Value.builtin "__main__.__loader__#opaque")), (@DictEntry.mk (@PyData.keyHash P (Str.ofString "__spec__")) (@Value.str (Str.ofString "__spec__") 169) Value.none), (@DictEntry.mk (@PyData.keyHash P (Str.ofString "__annotations__")) (@Value.str (Str.ofString "__annotations__") 170) (@Value.ref 6)), (@DictEntry.mk (@PyData.keyHash P (Str.ofString "__builtins__")) (@Value.str (Str.ofString "__builtins__") 171) (@Value.ref 4)), (@DictEntry.mk (@PyData.keyHash P (Str.ofString "__file__")) (@Value.str (Str.ofString "__file__") 173) (@Value.str (Str.ofString "/claim/cut.py") 172)), (@DictEntry.mk (@PyData.keyHash P (Str.ofString "__cached__")) (@Value.str (Str.ofString "__cached__") 174) Value.none), (@DictEntry.mk (@PyData.keyHash P (Str.ofString "SnobolError")) (@Value.str (Str.ofString "SnobolError") 222) (@Value.ref 34))]) 10) (@List.toArray (@Option Value) []))
noncomputable abbrev o3x12 (P : Params) : Obj := (@Obj.mk Value.none none (@Data.fields (@List.toArray Value [(@Value.int (@OfNat.ofNat Int (nat_lit 2) (@instOfNat (nat_lit 2))) 0), (@Value.int (@OfNat.ofNat Int (nat_lit 0) (@instOfNat (nat_lit 0))) 0), (@Value.ref 21)])) (@List.toArray (@Option Value) []))
noncomputable abbrev o3x15 (P : Params) : Obj := (@Obj.mk (@Value.type "tuple") none (@Data.seq (@List.toArray Value [(@Value.type "Exception")]) 0) (@List.toArray (@Option Value) []))
noncomputable abbrev o3x16 (P : Params) : Obj := (@Obj.mk (@Value.type "builtin_function_or_method") none (@Data.fields (@List.toArray Value [(@Value.builtin "type.__prepare__"), (@Value.type "type")])) (@List.toArray (@Option Value) []))
noncomputable abbrev o3x17 (P : Params) : Obj := (@Obj.mk (@Value.type "dict") none (@Data.dict (@List.toArray PySem.DictEntry [(@DictEntry.mk (@PyData.keyHash P (Str.ofString "__module__")) (@Value.str (Str.ofString "__module__") 196) (@Value.str (Str.ofString "snobol.values") 187)), (@DictEntry.mk (@PyData.keyHash P (Str.ofString "__qualname__")) (@Value.str (Str.ofString "__qualname__") 198) (@Value.str (Str.ofString "SnobolError") 197)), (@DictEntry.mk (@PyData.keyHash P (Str.ofString "__firstlineno__")) (@Value.str (Str.ofString "__firstlineno__") 200) (@Value.int (@OfNat.ofNat Int (nat_lit 2) (@instOfNat (nat_lit 2))) 199)), (@DictEntry.mk (@PyData.keyHash P (Str.ofString "__init__")) (@Value.str (Str.ofString "__init__") 211) (@Value.ref 31)), (@DictEntry.mk (@PyData.keyHash P (Str.ofString "__static_attributes__")) (@Value.str (Str.ofString "__static_attributes__") 214) (@Value.ref 32)), (@DictEntry.mk (@PyData.keyHash P (Str.ofString "__classcell__")) (@Value.str (Str.ofString "__classcell__") 215) (@Value.ref 18))]) 6) (@List.toArray (@Option Value) []))
noncomputable abbrev o3x18 (P : Params) : Obj := (@Obj.mk (@Value.type "cell") none (@Data.cell (some (@Value.ref 34))) (@List.toArray (@Option Value) []))
noncomputable abbrev o3x19 (P : Params) : Obj := (@Obj.mk (@Value.type "tuple") none (@Data.seq (@List.toArray Value []) 0) (@List.toArray (@Option Value) []))
noncomputable abbrev o3x20 (P : Params) : Obj := (@Obj.mk Value.none none (@Data.fields (@List.toArray Value [(@Value.int (@OfNat.ofNat Int (nat_lit 4) (@instOfNat (nat_lit 4))) 0), (@Value.int (@OfNat.ofNat Int (nat_lit 4) (@instOfNat (nat_lit 4))) 0), (@Value.ref 30)])) (@List.toArray (@Option Value) []))
noncomputable abbrev o3x21 (P : Params) : Obj := (@Obj.mk (@Value.type "code") none (@Data.fields (@List.toArray Value [(@Value.str (Str.ofString "SnobolError") 191), (@Value.str (Str.ofString "SnobolError") 192), (@Value.str (Str.ofString "/claim/cut.py") 193), (@Value.int (@OfNat.ofNat Int (nat_lit 2) (@instOfNat (nat_lit 2))) 0), (@Value.int (@OfNat.ofNat Int (nat_lit 0) (@instOfNat (nat_lit 0))) 0), (@Value.int (@OfNat.ofNat Int (nat_lit 0) (@instOfNat (nat_lit 0))) 0), (@Value.int (@OfNat.ofNat Int (nat_lit 0) (@instOfNat (nat_lit 0))) 0), (@Value.int (@OfNat.ofNat Int (nat_lit 0) (@instOfNat (nat_lit 0))) 0), (@Value.ref 19), (@Value.bool Bool.false), (@Value.int (@OfNat.ofNat Int (nat_lit 181) (@instOfNat (nat_lit 181))) 0), (@Value.ref 20), Value.none, Value.none, Value.none, Value.none, (@Value.int (@OfNat.ofNat Int (nat_lit 194) (@instOfNat (nat_lit 194))) 0), (@Value.int (@OfNat.ofNat Int (nat_lit 2) (@instOfNat (nat_lit 2))) 0), (@Value.str (Str.ofString "/claim/cut.py") 195)])) (@List.toArray (@Option Value) []))
noncomputable abbrev o3x22 (P : Params) : Obj := (@Obj.mk (@Value.type "frame") none PySem.Data.plain (@List.toArray (@Option Value) [(some (@Value.ref 21)), (some (@Value.ref 3)), (some (@Value.ref 17)), none, (some (@Value.str (Str.ofString "snobol.values") 187)), none, (some (@Value.ref 0))]))
noncomputable abbrev o3x23 (P : Params) : Obj := (@Obj.mk (@Value.type "tuple") none (@Data.seq (@List.toArray Value [(@Value.str (Str.ofString "") 201)]) 0) (@List.toArray (@Option Value) []))
noncomputable abbrev o3x24 (P : Params) : Obj := (@Obj.mk (@Value.type "tuple") none (@Data.seq (@List.toArray Value [(@Value.ref 18)]) 0) (@List.toArray (@Option Value) []))
noncomputable abbrev o3x25 (P : Params) : Obj := (@Obj.mk (@Value.type "tuple") none (@Data.seq (@List.toArray Value [(@Value.str (Str.ofString "__class__") 205)]) 0) (@List.toArray (@Option Value) []))
noncomputable abbrev o3x26 (P : Params) : Obj := (@Obj.mk Value.none none (@Data.fields (@List.toArray Value [])) (@List.toArray (@Option Value) []))
noncomputable abbrev o3x27 (P : Params) : Obj := (@Obj.mk (@Value.type "tuple") none (@Data.seq (@List.toArray Value [(@Value.str (Str.ofString "self") 206), (@Value.str (Str.ofString "number") 207), (@Value.str (Str.ofString "told") 208)]) 0) (@List.toArray (@Option Value) []))
noncomputable abbrev o3x28 (P : Params) : Obj := (@Obj.mk (@Value.type "tuple") none (@Data.seq (@List.toArray Value []) 0) (@List.toArray (@Option Value) []))
noncomputable abbrev o3x29 (P : Params) : Obj := (@Obj.mk Value.none none (@Data.func (@FuncData.mk (Str.ofString "__init__") (Str.ofString "SnobolError.__init__") (fnA (stIn 1 0)) (FuncBody.stmts (fnB (stIn 1 0))) (fnS (stIn 1 0)) 0 [] Value.none Value.none Value.none Value.none none Value.none Value.none 0)) (@List.toArray (@Option Value) []))
noncomputable abbrev o3x30 (P : Params) : Obj := (@Obj.mk (@Value.type "code") none (@Data.fields (@List.toArray Value [(@Value.str (Str.ofString "__init__") 202), (@Value.str (Str.ofString "SnobolError.__init__") 203), (@Value.str (Str.ofString "/claim/cut.py") 204), (@Value.int (@OfNat.ofNat Int (nat_lit 4) (@instOfNat (nat_lit 4))) 0), (@Value.int (@OfNat.ofNat Int (nat_lit 3) (@instOfNat (nat_lit 3))) 0), (@Value.int (@OfNat.ofNat Int (nat_lit 0) (@instOfNat (nat_lit 0))) 0), (@Value.int (@OfNat.ofNat Int (nat_lit 0) (@instOfNat (nat_lit 0))) 0), (@Value.int (@OfNat.ofNat Int (nat_lit 3) (@instOfNat (nat_lit 3))) 0), (@Value.ref 25), (@Value.bool Bool.true), (@Value.int (@OfNat.ofNat Int (nat_lit 181) (@instOfNat (nat_lit 181))) 0), (@Value.ref 26), Value.none, (@Value.ref 27), (@Value.ref 28), (@Value.ref 29), (@Value.int (@OfNat.ofNat Int (nat_lit 209) (@instOfNat (nat_lit 209))) 0), (@Value.int (@OfNat.ofNat Int (nat_lit 4) (@instOfNat (nat_lit 4))) 0), (@Value.str (Str.ofString "/claim/cut.py") 210)])) (@List.toArray (@Option Value) []))
noncomputable abbrev o3x31 (P : Params) : Obj := (@Obj.mk (@Value.type "function") none (@Data.func (@FuncData.mk (Str.ofString "__init__") (Str.ofString "SnobolError.__init__") (fnA (stIn 1 0)) (FuncBody.stmts (fnB (stIn 1 0))) (fnS (stIn 1 0)) 3 [((Str.ofString "__class__"), 18)] (@Value.ref 23) Value.none Value.none (@Value.str (Str.ofString "snobol.values") 187) none (@Value.ref 30) (@Value.ref 24) 0)) (@List.toArray (@Option Value) []))
noncomputable abbrev o3x32 (P : Params) : Obj := (@Obj.mk (@Value.type "tuple") none (@Data.seq (@List.toArray Value [(@Value.str (Str.ofString "number") 212), (@Value.str (Str.ofString "told") 213)]) 0) (@List.toArray (@Option Value) []))
noncomputable abbrev o3x33 (P : Params) : Obj := (@Obj.mk (@Value.type "dict") none (@Data.dict (@List.toArray PySem.DictEntry [(@DictEntry.mk (@PyData.keyHash P (Str.ofString "__module__")) (@Value.str (Str.ofString "__module__") 196) (@Value.str (Str.ofString "snobol.values") 187)), (@DictEntry.mk (@PyData.keyHash P (Str.ofString "__firstlineno__")) (@Value.str (Str.ofString "__firstlineno__") 200) (@Value.int (@OfNat.ofNat Int (nat_lit 2) (@instOfNat (nat_lit 2))) 199)), (@DictEntry.mk (@PyData.keyHash P (Str.ofString "__init__")) (@Value.str (Str.ofString "__init__") 211) (@Value.ref 31)), (@DictEntry.mk (@PyData.keyHash P (Str.ofString "__static_attributes__")) (@Value.str (Str.ofString "__static_attributes__") 214) (@Value.ref 32)), (@DictEntry.mk (@PyData.keyHash P (Str.ofString "__weakref__")) (@Value.str (Str.ofString "__weakref__") 217) (@Value.ref 35)), (@DictEntry.mk (@PyData.keyHash P (Str.ofString "__doc__")) (@Value.str (Str.ofString "__doc__") 218) Value.none)]) 4) (@List.toArray (@Option Value) []))
noncomputable abbrev o3x34 (P : Params) : Obj := (@Obj.mk (@Value.type "type") none (@Data.cls (@PySem.ClassData.mk (Str.ofString "SnobolError") [(@Value.type "Exception")] [(@Value.ref 34), (@Value.type "Exception"), (@Value.type "BaseException"), (@Value.type "object")] 33 (Str.ofString "SnobolError") Bool.true [] [] Bool.false none Bool.false)) (@List.toArray (@Option Value) [(some (@Value.ref 15)), none, (some (@Value.str (Str.ofString "SnobolError") 189)), (some (@Value.str (Str.ofString "SnobolError") 197)), (some (@Value.builtin "Exception.__new__")), (some (@Value.bool Bool.true))]))
noncomputable abbrev o3x35 (P : Params) : Obj := (@Obj.mk (@Value.type "getset_descriptor") none (@Data.fields (@List.toArray Value [(@Value.str (Str.ofString "__weakref__") 216), (@Value.ref 34), (@Value.builtin "ExceptionGroup.__weakref__"), Value.none])) (@List.toArray (@Option Value) []))
noncomputable abbrev o3x36 (P : Params) : Obj := (@Obj.mk (@Value.type "super") none (@Data.fields (@List.toArray Value [(@Value.ref 34), (@Value.ref 34), (@Value.ref 34)])) (@List.toArray (@Option Value) []))
noncomputable abbrev o3x37 (P : Params) : Obj := (@Obj.mk (@Value.type "builtin_function_or_method") none (@Data.fields (@List.toArray Value [(@Value.builtin "object.__init_subclass__"), (@Value.ref 34)])) (@List.toArray (@Option Value) []))
noncomputable abbrev hp0 (P : Params) : Heap := Heap.mk (Array.mk (boot_o_0 P :: boot_o_1 P :: o3x2 P :: o3x3 P :: boot_o_4 P :: boot_o_5 P :: boot_o_6 P :: boot_o_7 P :: boot_o_8 P :: boot_o_9 P :: boot_o_10 P :: o1x11 P :: o3x12 P :: o1x13 P :: o1x14 P :: o3x15 P :: o3x16 P :: o3x17 P :: o3x18 P :: o3x19 P :: o3x20 P :: o3x21 P :: o3x22 P :: o3x23 P :: o3x24 P :: o3x25 P :: o3x26 P :: o3x27 P :: o3x28 P :: o3x29 P :: o3x30 P :: o3x31 P :: o3x32 P :: o3x33 P :: o3x34 P :: o3x35 P :: o3x36 P :: o3x37 P :: [])) (@PySem.Life.mk [] [] [] 0 [] [] Bool.false (@List.toArray Nat []) [] 0 Bool.false Bool.false Bool.false (@OfNat.ofNat Int (nat_lit 0) (@instOfNat (nat_lit 0))) [(@OfNat.ofNat Int (nat_lit 2000) (@instOfNat (nat_lit 2000))), (@OfNat.ofNat Int (nat_lit 10) (@instOfNat (nat_lit 10))), (@OfNat.ofNat Int (nat_lit 10) (@instOfNat (nat_lit 10)))] Bool.false 0 Bool.true [] [] 0 Bool.false)
noncomputable abbrev shp0 (w : World) (os : OsState) : Shared := ⟨hp0 w.params, Array.mk [], (@PySem.Drawn.mk 0 0 0 0), (nat_lit 223), os⟩
noncomputable abbrev sts0 : List Stmt := (bodT.drop 0).take 2
theorem seg0 : ∀ (w : World) (os : OsState), segRun treeTable pw w (nat_lit 11) (some (@Value.ref 6)) (nat_lit 1) (nat_lit 258) (shpB w os) (piecesOf sts0 envT cT ⟨0, 0, 0, 0⟩ B_T) = some (Flow.next, shp0 w os, cT, ⟨2, 0, 7, 24⟩) := by
  intro w os; kernel_rfl
noncomputable abbrev o4x3 (P : Params) : Obj := (@Obj.mk (@Value.type "dict") none (@Data.dict (@List.toArray PySem.DictEntry [(@DictEntry.mk (@PyData.keyHash P (Str.ofString "__name__")) (@Value.str (Str.ofString "__name__") 165) (@Value.str (Str.ofString "snobol.values") 187)), (@DictEntry.mk (@PyData.keyHash P (Str.ofString "__doc__")) (@Value.str (Str.ofString "__doc__") 166) Value.none), (@DictEntry.mk (@PyData.keyHash P (Str.ofString "__package__")) (@Value.str (Str.ofString "__package__") 167) Value.none), (@DictEntry.mk (@PyData.keyHash P (Str.ofString "__loader__")) (@Value.str (Str.ofString "__loader__") 168) (@Value.builtin "__main__.__loader__#opaque")), (@DictEntry.mk (@PyData.keyHash P (Str.ofString "__spec__")) (@Value.str (Str.ofString "__spec__") 169) Value.none), (@DictEntry.mk (@PyData.keyHash P (Str.ofString "__annotations__")) (@Value.str (Str.ofString "__annotations__") 170) (@Value.ref 6)), (@DictEntry.mk (@PyData.keyHash P (Str.ofString "__builtins__")) (@Value.str (Str.ofString "__builtins__") 171) (@Value.ref 4)), (@DictEntry.mk (@PyData.keyHash P (Str.ofString "__file__")) (@Value.str (Str.ofString "__file__") 173) (@Value.str (Str.ofString "/claim/cut.py") 172)), (@DictEntry.mk (@PyData.keyHash P (Str.ofString "__cached__")) (@Value.str (Str.ofString "__cached__") 174) Value.none), (@DictEntry.mk (@PyData.keyHash P (Str.ofString "SnobolError")) (@Value.str (Str.ofString "SnobolError") 222) (@Value.ref 34)), (@DictEntry.mk (@PyData.keyHash P (Str.ofString "Failure")) (@Value.str (Str.ofString "Failure") 242) (@Value.ref 47))]) 11) (@List.toArray (@Option Value) []))
noncomputable abbrev o4x12 (P : Params) : Obj := (@Obj.mk Value.none none (@Data.fields (@List.toArray Value [(@Value.int (@OfNat.ofNat Int (nat_lit 2) (@instOfNat (nat_lit 2))) 0), (@Value.int (@OfNat.ofNat Int (nat_lit 0) (@instOfNat (nat_lit 0))) 0), (@Value.ref 21), (@Value.int (@OfNat.ofNat Int (nat_lit 8) (@instOfNat (nat_lit 8))) 0), (@Value.int (@OfNat.ofNat Int (nat_lit 0) (@instOfNat (nat_lit 0))) 0), (@Value.ref 43)])) (@List.toArray (@Option Value) []))
noncomputable abbrev o4x38 (P : Params) : Obj := (@Obj.mk (@Value.type "tuple") none (@Data.seq (@List.toArray Value []) 0) (@List.toArray (@Option Value) []))
noncomputable abbrev o4x39 (P : Params) : Obj := (@Obj.mk (@Value.type "builtin_function_or_method") none (@Data.fields (@List.toArray Value [(@Value.builtin "type.__prepare__"), (@Value.type "type")])) (@List.toArray (@Option Value) []))
noncomputable abbrev o4x40 (P : Params) : Obj := (@Obj.mk (@Value.type "dict") none (@Data.dict (@List.toArray PySem.DictEntry [(@DictEntry.mk (@PyData.keyHash P (Str.ofString "__module__")) (@Value.str (Str.ofString "__module__") 230) (@Value.str (Str.ofString "snobol.values") 187)), (@DictEntry.mk (@PyData.keyHash P (Str.ofString "__qualname__")) (@Value.str (Str.ofString "__qualname__") 232) (@Value.str (Str.ofString "Failure") 231)), (@DictEntry.mk (@PyData.keyHash P (Str.ofString "__firstlineno__")) (@Value.str (Str.ofString "__firstlineno__") 234) (@Value.int (@OfNat.ofNat Int (nat_lit 8) (@instOfNat (nat_lit 8))) 233)), (@DictEntry.mk (@PyData.keyHash P (Str.ofString "__static_attributes__")) (@Value.str (Str.ofString "__static_attributes__") 235) (@Value.ref 45))]) 4) (@List.toArray (@Option Value) []))
noncomputable abbrev o4x41 (P : Params) : Obj := (@Obj.mk (@Value.type "tuple") none (@Data.seq (@List.toArray Value []) 0) (@List.toArray (@Option Value) []))
noncomputable abbrev o4x42 (P : Params) : Obj := (@Obj.mk Value.none none (@Data.fields (@List.toArray Value [])) (@List.toArray (@Option Value) []))
noncomputable abbrev o4x43 (P : Params) : Obj := (@Obj.mk (@Value.type "code") none (@Data.fields (@List.toArray Value [(@Value.str (Str.ofString "Failure") 225), (@Value.str (Str.ofString "Failure") 226), (@Value.str (Str.ofString "/claim/cut.py") 227), (@Value.int (@OfNat.ofNat Int (nat_lit 8) (@instOfNat (nat_lit 8))) 0), (@Value.int (@OfNat.ofNat Int (nat_lit 0) (@instOfNat (nat_lit 0))) 0), (@Value.int (@OfNat.ofNat Int (nat_lit 0) (@instOfNat (nat_lit 0))) 0), (@Value.int (@OfNat.ofNat Int (nat_lit 0) (@instOfNat (nat_lit 0))) 0), (@Value.int (@OfNat.ofNat Int (nat_lit 0) (@instOfNat (nat_lit 0))) 0), (@Value.ref 41), (@Value.bool Bool.false), (@Value.int (@OfNat.ofNat Int (nat_lit 181) (@instOfNat (nat_lit 181))) 0), (@Value.ref 42), Value.none, Value.none, Value.none, Value.none, (@Value.int (@OfNat.ofNat Int (nat_lit 228) (@instOfNat (nat_lit 228))) 0), (@Value.int (@OfNat.ofNat Int (nat_lit 8) (@instOfNat (nat_lit 8))) 0), (@Value.str (Str.ofString "/claim/cut.py") 229)])) (@List.toArray (@Option Value) []))
noncomputable abbrev o4x44 (P : Params) : Obj := (@Obj.mk (@Value.type "frame") none PySem.Data.plain (@List.toArray (@Option Value) [(some (@Value.ref 43)), (some (@Value.ref 3)), (some (@Value.ref 40)), none, (some (@Value.str (Str.ofString "snobol.values") 187)), none, (some (@Value.ref 0))]))
noncomputable abbrev o4x45 (P : Params) : Obj := (@Obj.mk (@Value.type "tuple") none (@Data.seq (@List.toArray Value []) 0) (@List.toArray (@Option Value) []))
noncomputable abbrev o4x46 (P : Params) : Obj := (@Obj.mk (@Value.type "dict") none (@Data.dict (@List.toArray PySem.DictEntry [(@DictEntry.mk (@PyData.keyHash P (Str.ofString "__module__")) (@Value.str (Str.ofString "__module__") 230) (@Value.str (Str.ofString "snobol.values") 187)), (@DictEntry.mk (@PyData.keyHash P (Str.ofString "__firstlineno__")) (@Value.str (Str.ofString "__firstlineno__") 234) (@Value.int (@OfNat.ofNat Int (nat_lit 8) (@instOfNat (nat_lit 8))) 233)), (@DictEntry.mk (@PyData.keyHash P (Str.ofString "__static_attributes__")) (@Value.str (Str.ofString "__static_attributes__") 235) (@Value.ref 45)), (@DictEntry.mk (@PyData.keyHash P (Str.ofString "__dict__")) (@Value.str (Str.ofString "__dict__") 237) (@Value.ref 48)), (@DictEntry.mk (@PyData.keyHash P (Str.ofString "__weakref__")) (@Value.str (Str.ofString "__weakref__") 239) (@Value.ref 49)), (@DictEntry.mk (@PyData.keyHash P (Str.ofString "__doc__")) (@Value.str (Str.ofString "__doc__") 240) Value.none)]) 4) (@List.toArray (@Option Value) []))
noncomputable abbrev o4x47 (P : Params) : Obj := (@Obj.mk (@Value.type "type") none (@Data.cls (@PySem.ClassData.mk (Str.ofString "Failure") [(@Value.type "object")] [(@Value.ref 47), (@Value.type "object")] 46 (Str.ofString "Failure") Bool.true [] [] Bool.false none Bool.false)) (@List.toArray (@Option Value) [none, none, (some (@Value.str (Str.ofString "Failure") 223)), (some (@Value.str (Str.ofString "Failure") 231)), (some (@Value.builtin "object.__new__")), (some (@Value.bool Bool.true))]))
noncomputable abbrev o4x48 (P : Params) : Obj := (@Obj.mk (@Value.type "getset_descriptor") none (@Data.fields (@List.toArray Value [(@Value.str (Str.ofString "__dict__") 236), (@Value.ref 47), (@Value.builtin "function.__dict__"), (@Value.builtin "function.__dict__#set")])) (@List.toArray (@Option Value) []))
noncomputable abbrev o4x49 (P : Params) : Obj := (@Obj.mk (@Value.type "getset_descriptor") none (@Data.fields (@List.toArray Value [(@Value.str (Str.ofString "__weakref__") 238), (@Value.ref 47), (@Value.builtin "ExceptionGroup.__weakref__"), Value.none])) (@List.toArray (@Option Value) []))
noncomputable abbrev o4x50 (P : Params) : Obj := (@Obj.mk (@Value.type "super") none (@Data.fields (@List.toArray Value [(@Value.ref 47), (@Value.ref 47), (@Value.ref 47)])) (@List.toArray (@Option Value) []))
noncomputable abbrev o4x51 (P : Params) : Obj := (@Obj.mk (@Value.type "builtin_function_or_method") none (@Data.fields (@List.toArray Value [(@Value.builtin "object.__init_subclass__"), (@Value.ref 47)])) (@List.toArray (@Option Value) []))
noncomputable abbrev hp1 (P : Params) : Heap := Heap.mk (Array.mk (boot_o_0 P :: boot_o_1 P :: o3x2 P :: o4x3 P :: boot_o_4 P :: boot_o_5 P :: boot_o_6 P :: boot_o_7 P :: boot_o_8 P :: boot_o_9 P :: boot_o_10 P :: o1x11 P :: o4x12 P :: o1x13 P :: o1x14 P :: o3x15 P :: o3x16 P :: o3x17 P :: o3x18 P :: o3x19 P :: o3x20 P :: o3x21 P :: o3x22 P :: o3x23 P :: o3x24 P :: o3x25 P :: o3x26 P :: o3x27 P :: o3x28 P :: o3x29 P :: o3x30 P :: o3x31 P :: o3x32 P :: o3x33 P :: o3x34 P :: o3x35 P :: o3x36 P :: o3x37 P :: o4x38 P :: o4x39 P :: o4x40 P :: o4x41 P :: o4x42 P :: o4x43 P :: o4x44 P :: o4x45 P :: o4x46 P :: o4x47 P :: o4x48 P :: o4x49 P :: o4x50 P :: o4x51 P :: [])) (@PySem.Life.mk [] [] [] 0 [] [] Bool.false (@List.toArray Nat []) [] 0 Bool.false Bool.false Bool.false (@OfNat.ofNat Int (nat_lit 0) (@instOfNat (nat_lit 0))) [(@OfNat.ofNat Int (nat_lit 2000) (@instOfNat (nat_lit 2000))), (@OfNat.ofNat Int (nat_lit 10) (@instOfNat (nat_lit 10))), (@OfNat.ofNat Int (nat_lit 10) (@instOfNat (nat_lit 10)))] Bool.false 0 Bool.true [] [] 0 Bool.false)
noncomputable abbrev shp1 (w : World) (os : OsState) : Shared := ⟨hp1 w.params, Array.mk [], (@PySem.Drawn.mk 0 0 0 0), (nat_lit 243), os⟩
noncomputable abbrev sts1 : List Stmt := (bodT.drop 2).take 1
theorem seg1 : ∀ (w : World) (os : OsState), segRun treeTable pw w (nat_lit 11) (some (@Value.ref 6)) (nat_lit 1) (nat_lit 191) (shp0 w os) (piecesOf sts1 envT cT ⟨2, 0, 7, 24⟩ B_T) = some (Flow.next, shp1 w os, cT, ⟨8, 0, 9, 8⟩) := by
  intro w os; kernel_rfl
noncomputable abbrev o5x3 (P : Params) : Obj := (@Obj.mk (@Value.type "dict") none (@Data.dict (@List.toArray PySem.DictEntry [(@DictEntry.mk (@PyData.keyHash P (Str.ofString "__name__")) (@Value.str (Str.ofString "__name__") 165) (@Value.str (Str.ofString "snobol.values") 187)), (@DictEntry.mk (@PyData.keyHash P (Str.ofString "__doc__")) (@Value.str (Str.ofString "__doc__") 166) Value.none), (@DictEntry.mk (@PyData.keyHash P (Str.ofString "__package__")) (@Value.str (Str.ofString "__package__") 167) Value.none), (@DictEntry.mk (@PyData.keyHash P (Str.ofString "__loader__")) (@Value.str (Str.ofString "__loader__") 168) (@Value.builtin "__main__.__loader__#opaque")), (@DictEntry.mk (@PyData.keyHash P (Str.ofString "__spec__")) (@Value.str (Str.ofString "__spec__") 169) Value.none), (@DictEntry.mk (@PyData.keyHash P (Str.ofString "__annotations__")) (@Value.str (Str.ofString "__annotations__") 170) (@Value.ref 6)), (@DictEntry.mk (@PyData.keyHash P (Str.ofString "__builtins__")) (@Value.str (Str.ofString "__builtins__") 171) (@Value.ref 4)), (@DictEntry.mk (@PyData.keyHash P (Str.ofString "__file__")) (@Value.str (Str.ofString "__file__") 173) (@Value.str (Str.ofString "/claim/cut.py") 172)), (@DictEntry.mk (@PyData.keyHash P (Str.ofString "__cached__")) (@Value.str (Str.ofString "__cached__") 174) Value.none), (@DictEntry.mk (@PyData.keyHash P (Str.ofString "SnobolError")) (@Value.str (Str.ofString "SnobolError") 222) (@Value.ref 34)), (@DictEntry.mk (@PyData.keyHash P (Str.ofString "Failure")) (@Value.str (Str.ofString "Failure") 242) (@Value.ref 47)), (@DictEntry.mk (@PyData.keyHash P (Str.ofString "Pattern")) (@Value.str (Str.ofString "Pattern") 271) (@Value.ref 68))]) 12) (@List.toArray (@Option Value) []))
noncomputable abbrev o5x12 (P : Params) : Obj := (@Obj.mk Value.none none (@Data.fields (@List.toArray Value [(@Value.int (@OfNat.ofNat Int (nat_lit 2) (@instOfNat (nat_lit 2))) 0), (@Value.int (@OfNat.ofNat Int (nat_lit 0) (@instOfNat (nat_lit 0))) 0), (@Value.ref 21), (@Value.int (@OfNat.ofNat Int (nat_lit 8) (@instOfNat (nat_lit 8))) 0), (@Value.int (@OfNat.ofNat Int (nat_lit 0) (@instOfNat (nat_lit 0))) 0), (@Value.ref 43), (@Value.int (@OfNat.ofNat Int (nat_lit 10) (@instOfNat (nat_lit 10))) 0), (@Value.int (@OfNat.ofNat Int (nat_lit 0) (@instOfNat (nat_lit 0))) 0), (@Value.ref 57)])) (@List.toArray (@Option Value) []))
noncomputable abbrev o5x52 (P : Params) : Obj := (@Obj.mk (@Value.type "tuple") none (@Data.seq (@List.toArray Value []) 0) (@List.toArray (@Option Value) []))
noncomputable abbrev o5x53 (P : Params) : Obj := (@Obj.mk (@Value.type "builtin_function_or_method") none (@Data.fields (@List.toArray Value [(@Value.builtin "type.__prepare__"), (@Value.type "type")])) (@List.toArray (@Option Value) []))
noncomputable abbrev o5x54 (P : Params) : Obj := (@Obj.mk (@Value.type "dict") none (@Data.dict (@List.toArray PySem.DictEntry [(@DictEntry.mk (@PyData.keyHash P (Str.ofString "__module__")) (@Value.str (Str.ofString "__module__") 250) (@Value.str (Str.ofString "snobol.values") 187)), (@DictEntry.mk (@PyData.keyHash P (Str.ofString "__qualname__")) (@Value.str (Str.ofString "__qualname__") 252) (@Value.str (Str.ofString "Pattern") 251)), (@DictEntry.mk (@PyData.keyHash P (Str.ofString "__firstlineno__")) (@Value.str (Str.ofString "__firstlineno__") 254) (@Value.int (@OfNat.ofNat Int (nat_lit 10) (@instOfNat (nat_lit 10))) 253)), (@DictEntry.mk (@PyData.keyHash P (Str.ofString "__init__")) (@Value.str (Str.ofString "__init__") 262) (@Value.ref 65)), (@DictEntry.mk (@PyData.keyHash P (Str.ofString "__static_attributes__")) (@Value.str (Str.ofString "__static_attributes__") 264) (@Value.ref 66))]) 5) (@List.toArray (@Option Value) []))
noncomputable abbrev o5x55 (P : Params) : Obj := (@Obj.mk (@Value.type "tuple") none (@Data.seq (@List.toArray Value []) 0) (@List.toArray (@Option Value) []))
noncomputable abbrev o5x56 (P : Params) : Obj := (@Obj.mk Value.none none (@Data.fields (@List.toArray Value [(@Value.int (@OfNat.ofNat Int (nat_lit 12) (@instOfNat (nat_lit 12))) 0), (@Value.int (@OfNat.ofNat Int (nat_lit 4) (@instOfNat (nat_lit 4))) 0), (@Value.ref 64)])) (@List.toArray (@Option Value) []))
noncomputable abbrev o5x57 (P : Params) : Obj := (@Obj.mk (@Value.type "code") none (@Data.fields (@List.toArray Value [(@Value.str (Str.ofString "Pattern") 245), (@Value.str (Str.ofString "Pattern") 246), (@Value.str (Str.ofString "/claim/cut.py") 247), (@Value.int (@OfNat.ofNat Int (nat_lit 10) (@instOfNat (nat_lit 10))) 0), (@Value.int (@OfNat.ofNat Int (nat_lit 0) (@instOfNat (nat_lit 0))) 0), (@Value.int (@OfNat.ofNat Int (nat_lit 0) (@instOfNat (nat_lit 0))) 0), (@Value.int (@OfNat.ofNat Int (nat_lit 0) (@instOfNat (nat_lit 0))) 0), (@Value.int (@OfNat.ofNat Int (nat_lit 0) (@instOfNat (nat_lit 0))) 0), (@Value.ref 55), (@Value.bool Bool.false), (@Value.int (@OfNat.ofNat Int (nat_lit 181) (@instOfNat (nat_lit 181))) 0), (@Value.ref 56), Value.none, Value.none, Value.none, Value.none, (@Value.int (@OfNat.ofNat Int (nat_lit 248) (@instOfNat (nat_lit 248))) 0), (@Value.int (@OfNat.ofNat Int (nat_lit 10) (@instOfNat (nat_lit 10))) 0), (@Value.str (Str.ofString "/claim/cut.py") 249)])) (@List.toArray (@Option Value) []))
noncomputable abbrev o5x58 (P : Params) : Obj := (@Obj.mk (@Value.type "frame") none PySem.Data.plain (@List.toArray (@Option Value) [(some (@Value.ref 57)), (some (@Value.ref 3)), (some (@Value.ref 54)), none, (some (@Value.str (Str.ofString "snobol.values") 187)), none, (some (@Value.ref 0))]))
noncomputable abbrev o5x59 (P : Params) : Obj := (@Obj.mk (@Value.type "tuple") none (@Data.seq (@List.toArray Value []) 0) (@List.toArray (@Option Value) []))
noncomputable abbrev o5x60 (P : Params) : Obj := (@Obj.mk Value.none none (@Data.fields (@List.toArray Value [])) (@List.toArray (@Option Value) []))
noncomputable abbrev o5x61 (P : Params) : Obj := (@Obj.mk (@Value.type "tuple") none (@Data.seq (@List.toArray Value [(@Value.str (Str.ofString "self") 258), (@Value.str (Str.ofString "node") 259)]) 0) (@List.toArray (@Option Value) []))
noncomputable abbrev o5x62 (P : Params) : Obj := (@Obj.mk (@Value.type "tuple") none (@Data.seq (@List.toArray Value []) 0) (@List.toArray (@Option Value) []))
noncomputable abbrev o5x63 (P : Params) : Obj := (@Obj.mk Value.none none (@Data.func (@FuncData.mk (Str.ofString "__init__") (Str.ofString "Pattern.__init__") (fnA (stIn 3 0)) (FuncBody.stmts (fnB (stIn 3 0))) (fnS (stIn 3 0)) 0 [] Value.none Value.none Value.none Value.none none Value.none Value.none 0)) (@List.toArray (@Option Value) []))
noncomputable abbrev o5x64 (P : Params) : Obj := (@Obj.mk (@Value.type "code") none (@Data.fields (@List.toArray Value [(@Value.str (Str.ofString "__init__") 255), (@Value.str (Str.ofString "Pattern.__init__") 256), (@Value.str (Str.ofString "/claim/cut.py") 257), (@Value.int (@OfNat.ofNat Int (nat_lit 12) (@instOfNat (nat_lit 12))) 0), (@Value.int (@OfNat.ofNat Int (nat_lit 2) (@instOfNat (nat_lit 2))) 0), (@Value.int (@OfNat.ofNat Int (nat_lit 0) (@instOfNat (nat_lit 0))) 0), (@Value.int (@OfNat.ofNat Int (nat_lit 0) (@instOfNat (nat_lit 0))) 0), (@Value.int (@OfNat.ofNat Int (nat_lit 3) (@instOfNat (nat_lit 3))) 0), (@Value.ref 59), (@Value.bool Bool.true), (@Value.int (@OfNat.ofNat Int (nat_lit 181) (@instOfNat (nat_lit 181))) 0), (@Value.ref 60), Value.none, (@Value.ref 61), (@Value.ref 62), (@Value.ref 63), (@Value.int (@OfNat.ofNat Int (nat_lit 260) (@instOfNat (nat_lit 260))) 0), (@Value.int (@OfNat.ofNat Int (nat_lit 12) (@instOfNat (nat_lit 12))) 0), (@Value.str (Str.ofString "/claim/cut.py") 261)])) (@List.toArray (@Option Value) []))
noncomputable abbrev o5x65 (P : Params) : Obj := (@Obj.mk (@Value.type "function") none (@Data.func (@FuncData.mk (Str.ofString "__init__") (Str.ofString "Pattern.__init__") (fnA (stIn 3 0)) (FuncBody.stmts (fnB (stIn 3 0))) (fnS (stIn 3 0)) 3 [] Value.none Value.none Value.none (@Value.str (Str.ofString "snobol.values") 187) none (@Value.ref 64) Value.none 0)) (@List.toArray (@Option Value) []))
noncomputable abbrev o5x66 (P : Params) : Obj := (@Obj.mk (@Value.type "tuple") none (@Data.seq (@List.toArray Value [(@Value.str (Str.ofString "node") 263)]) 0) (@List.toArray (@Option Value) []))
noncomputable abbrev o5x67 (P : Params) : Obj := (@Obj.mk (@Value.type "dict") none (@Data.dict (@List.toArray PySem.DictEntry [(@DictEntry.mk (@PyData.keyHash P (Str.ofString "__module__")) (@Value.str (Str.ofString "__module__") 250) (@Value.str (Str.ofString "snobol.values") 187)), (@DictEntry.mk (@PyData.keyHash P (Str.ofString "__firstlineno__")) (@Value.str (Str.ofString "__firstlineno__") 254) (@Value.int (@OfNat.ofNat Int (nat_lit 10) (@instOfNat (nat_lit 10))) 253)), (@DictEntry.mk (@PyData.keyHash P (Str.ofString "__init__")) (@Value.str (Str.ofString "__init__") 262) (@Value.ref 65)), (@DictEntry.mk (@PyData.keyHash P (Str.ofString "__static_attributes__")) (@Value.str (Str.ofString "__static_attributes__") 264) (@Value.ref 66)), (@DictEntry.mk (@PyData.keyHash P (Str.ofString "__dict__")) (@Value.str (Str.ofString "__dict__") 266) (@Value.ref 69)), (@DictEntry.mk (@PyData.keyHash P (Str.ofString "__weakref__")) (@Value.str (Str.ofString "__weakref__") 268) (@Value.ref 70)), (@DictEntry.mk (@PyData.keyHash P (Str.ofString "__doc__")) (@Value.str (Str.ofString "__doc__") 269) Value.none)]) 4) (@List.toArray (@Option Value) []))
noncomputable abbrev o5x68 (P : Params) : Obj := (@Obj.mk (@Value.type "type") none (@Data.cls (@PySem.ClassData.mk (Str.ofString "Pattern") [(@Value.type "object")] [(@Value.ref 68), (@Value.type "object")] 67 (Str.ofString "Pattern") Bool.true [] [] Bool.false none Bool.false)) (@List.toArray (@Option Value) [none, none, (some (@Value.str (Str.ofString "Pattern") 243)), (some (@Value.str (Str.ofString "Pattern") 251)), (some (@Value.builtin "object.__new__")), (some (@Value.bool Bool.true))]))
noncomputable abbrev o5x69 (P : Params) : Obj := (@Obj.mk (@Value.type "getset_descriptor") none (@Data.fields (@List.toArray Value [(@Value.str (Str.ofString "__dict__") 265), (@Value.ref 68), (@Value.builtin "function.__dict__"), (@Value.builtin "function.__dict__#set")])) (@List.toArray (@Option Value) []))
noncomputable abbrev o5x70 (P : Params) : Obj := (@Obj.mk (@Value.type "getset_descriptor") none (@Data.fields (@List.toArray Value [(@Value.str (Str.ofString "__weakref__") 267), (@Value.ref 68), (@Value.builtin "ExceptionGroup.__weakref__"), Value.none])) (@List.toArray (@Option Value) []))
noncomputable abbrev o5x71 (P : Params) : Obj := (@Obj.mk (@Value.type "super") none (@Data.fields (@List.toArray Value [(@Value.ref 68), (@Value.ref 68), (@Value.ref 68)])) (@List.toArray (@Option Value) []))
noncomputable abbrev o5x72 (P : Params) : Obj := (@Obj.mk (@Value.type "builtin_function_or_method") none (@Data.fields (@List.toArray Value [(@Value.builtin "object.__init_subclass__"), (@Value.ref 68)])) (@List.toArray (@Option Value) []))
noncomputable abbrev hp2 (P : Params) : Heap := Heap.mk (Array.mk (boot_o_0 P :: boot_o_1 P :: o3x2 P :: o5x3 P :: boot_o_4 P :: boot_o_5 P :: boot_o_6 P :: boot_o_7 P :: boot_o_8 P :: boot_o_9 P :: boot_o_10 P :: o1x11 P :: o5x12 P :: o1x13 P :: o1x14 P :: o3x15 P :: o3x16 P :: o3x17 P :: o3x18 P :: o3x19 P :: o3x20 P :: o3x21 P :: o3x22 P :: o3x23 P :: o3x24 P :: o3x25 P :: o3x26 P :: o3x27 P :: o3x28 P :: o3x29 P :: o3x30 P :: o3x31 P :: o3x32 P :: o3x33 P :: o3x34 P :: o3x35 P :: o3x36 P :: o3x37 P :: o4x38 P :: o4x39 P :: o4x40 P :: o4x41 P :: o4x42 P :: o4x43 P :: o4x44 P :: o4x45 P :: o4x46 P :: o4x47 P :: o4x48 P :: o4x49 P :: o4x50 P :: o4x51 P :: o5x52 P :: o5x53 P :: o5x54 P :: o5x55 P :: o5x56 P :: o5x57 P :: o5x58 P :: o5x59 P :: o5x60 P :: o5x61 P :: o5x62 P :: o5x63 P :: o5x64 P :: o5x65 P :: o5x66 P :: o5x67 P :: o5x68 P :: o5x69 P :: o5x70 P :: o5x71 P :: o5x72 P :: [])) (@PySem.Life.mk [] [] [] 0 [] [] Bool.false (@List.toArray Nat []) [] 0 Bool.false Bool.false Bool.false (@OfNat.ofNat Int (nat_lit 0) (@instOfNat (nat_lit 0))) [(@OfNat.ofNat Int (nat_lit 2000) (@instOfNat (nat_lit 2000))), (@OfNat.ofNat Int (nat_lit 10) (@instOfNat (nat_lit 10))), (@OfNat.ofNat Int (nat_lit 10) (@instOfNat (nat_lit 10)))] Bool.false 0 Bool.true [] [] 0 Bool.false)
noncomputable abbrev shp2 (w : World) (os : OsState) : Shared := ⟨hp2 w.params, Array.mk [], (@PySem.Drawn.mk 0 0 0 0), (nat_lit 272), os⟩
noncomputable abbrev sts2 : List Stmt := (bodT.drop 3).take 1
theorem seg2 : ∀ (w : World) (os : OsState), segRun treeTable pw w (nat_lit 11) (some (@Value.ref 6)) (nat_lit 1) (nat_lit 223) (shp1 w os) (piecesOf sts2 envT cT ⟨8, 0, 9, 8⟩ B_T) = some (Flow.next, shp2 w os, cT, ⟨10, 0, 13, 24⟩) := by
  intro w os; kernel_rfl
noncomputable abbrev o6x3 (P : Params) : Obj := (@Obj.mk (@Value.type "dict") none (@Data.dict (@List.toArray PySem.DictEntry [(@DictEntry.mk (@PyData.keyHash P (Str.ofString "__name__")) (@Value.str (Str.ofString "__name__") 165) (@Value.str (Str.ofString "snobol.values") 187)), (@DictEntry.mk (@PyData.keyHash P (Str.ofString "__doc__")) (@Value.str (Str.ofString "__doc__") 166) Value.none), (@DictEntry.mk (@PyData.keyHash P (Str.ofString "__package__")) (@Value.str (Str.ofString "__package__") 167) Value.none), (@DictEntry.mk (@PyData.keyHash P (Str.ofString "__loader__")) (@Value.str (Str.ofString "__loader__") 168) (@Value.builtin "__main__.__loader__#opaque")), (@DictEntry.mk (@PyData.keyHash P (Str.ofString "__spec__")) (@Value.str (Str.ofString "__spec__") 169) Value.none), (@DictEntry.mk (@PyData.keyHash P (Str.ofString "__annotations__")) (@Value.str (Str.ofString "__annotations__") 170) (@Value.ref 6)), (@DictEntry.mk (@PyData.keyHash P (Str.ofString "__builtins__")) (@Value.str (Str.ofString "__builtins__") 171) (@Value.ref 4)), (@DictEntry.mk (@PyData.keyHash P (Str.ofString "__file__")) (@Value.str (Str.ofString "__file__") 173) (@Value.str (Str.ofString "/claim/cut.py") 172)), (@DictEntry.mk (@PyData.keyHash P (Str.ofString "__cached__")) (@Value.str (Str.ofString "__cached__") 174) Value.none), (@DictEntry.mk (@PyData.keyHash P (Str.ofString "SnobolError")) (@Value.str (Str.ofString "SnobolError") 222) (@Value.ref 34)), (@DictEntry.mk (@PyData.keyHash P (Str.ofString "Failure")) (@Value.str (Str.ofString "Failure") 242) (@Value.ref 47)), (@DictEntry.mk (@PyData.keyHash P (Str.ofString "Pattern")) (@Value.str (Str.ofString "Pattern") 271) (@Value.ref 68)), (@DictEntry.mk (@PyData.keyHash P (Str.ofString "Delayed")) (@Value.str (Str.ofString "Delayed") 300) (@Value.ref 89))]) 13) (@List.toArray (@Option Value) []))
noncomputable abbrev o6x12 (P : Params) : Obj := (@Obj.mk Value.none none (@Data.fields (@List.toArray Value [(@Value.int (@OfNat.ofNat Int (nat_lit 2) (@instOfNat (nat_lit 2))) 0), (@Value.int (@OfNat.ofNat Int (nat_lit 0) (@instOfNat (nat_lit 0))) 0), (@Value.ref 21), (@Value.int (@OfNat.ofNat Int (nat_lit 8) (@instOfNat (nat_lit 8))) 0), (@Value.int (@OfNat.ofNat Int (nat_lit 0) (@instOfNat (nat_lit 0))) 0), (@Value.ref 43), (@Value.int (@OfNat.ofNat Int (nat_lit 10) (@instOfNat (nat_lit 10))) 0), (@Value.int (@OfNat.ofNat Int (nat_lit 0) (@instOfNat (nat_lit 0))) 0), (@Value.ref 57), (@Value.int (@OfNat.ofNat Int (nat_lit 14) (@instOfNat (nat_lit 14))) 0), (@Value.int (@OfNat.ofNat Int (nat_lit 0) (@instOfNat (nat_lit 0))) 0), (@Value.ref 78)])) (@List.toArray (@Option Value) []))
noncomputable abbrev o6x73 (P : Params) : Obj := (@Obj.mk (@Value.type "tuple") none (@Data.seq (@List.toArray Value []) 0) (@List.toArray (@Option Value) []))
noncomputable abbrev o6x74 (P : Params) : Obj := (@Obj.mk (@Value.type "builtin_function_or_method") none (@Data.fields (@List.toArray Value [(@Value.builtin "type.__prepare__"), (@Value.type "type")])) (@List.toArray (@Option Value) []))
noncomputable abbrev o6x75 (P : Params) : Obj := (@Obj.mk (@Value.type "dict") none (@Data.dict (@List.toArray PySem.DictEntry [(@DictEntry.mk (@PyData.keyHash P (Str.ofString "__module__")) (@Value.str (Str.ofString "__module__") 279) (@Value.str (Str.ofString "snobol.values") 187)), (@DictEntry.mk (@PyData.keyHash P (Str.ofString "__qualname__")) (@Value.str (Str.ofString "__qualname__") 281) (@Value.str (Str.ofString "Delayed") 280)), (@DictEntry.mk (@PyData.keyHash P (Str.ofString "__firstlineno__")) (@Value.str (Str.ofString "__firstlineno__") 283) (@Value.int (@OfNat.ofNat Int (nat_lit 14) (@instOfNat (nat_lit 14))) 282)), (@DictEntry.mk (@PyData.keyHash P (Str.ofString "__init__")) (@Value.str (Str.ofString "__init__") 291) (@Value.ref 86)), (@DictEntry.mk (@PyData.keyHash P (Str.ofString "__static_attributes__")) (@Value.str (Str.ofString "__static_attributes__") 293) (@Value.ref 87))]) 5) (@List.toArray (@Option Value) []))
noncomputable abbrev o6x76 (P : Params) : Obj := (@Obj.mk (@Value.type "tuple") none (@Data.seq (@List.toArray Value []) 0) (@List.toArray (@Option Value) []))
noncomputable abbrev o6x77 (P : Params) : Obj := (@Obj.mk Value.none none (@Data.fields (@List.toArray Value [(@Value.int (@OfNat.ofNat Int (nat_lit 16) (@instOfNat (nat_lit 16))) 0), (@Value.int (@OfNat.ofNat Int (nat_lit 4) (@instOfNat (nat_lit 4))) 0), (@Value.ref 85)])) (@List.toArray (@Option Value) []))
noncomputable abbrev o6x78 (P : Params) : Obj := (@Obj.mk (@Value.type "code") none (@Data.fields (@List.toArray Value [(@Value.str (Str.ofString "Delayed") 274), (@Value.str (Str.ofString "Delayed") 275), (@Value.str (Str.ofString "/claim/cut.py") 276), (@Value.int (@OfNat.ofNat Int (nat_lit 14) (@instOfNat (nat_lit 14))) 0), (@Value.int (@OfNat.ofNat Int (nat_lit 0) (@instOfNat (nat_lit 0))) 0), (@Value.int (@OfNat.ofNat Int (nat_lit 0) (@instOfNat (nat_lit 0))) 0), (@Value.int (@OfNat.ofNat Int (nat_lit 0) (@instOfNat (nat_lit 0))) 0), (@Value.int (@OfNat.ofNat Int (nat_lit 0) (@instOfNat (nat_lit 0))) 0), (@Value.ref 76), (@Value.bool Bool.false), (@Value.int (@OfNat.ofNat Int (nat_lit 181) (@instOfNat (nat_lit 181))) 0), (@Value.ref 77), Value.none, Value.none, Value.none, Value.none, (@Value.int (@OfNat.ofNat Int (nat_lit 277) (@instOfNat (nat_lit 277))) 0), (@Value.int (@OfNat.ofNat Int (nat_lit 14) (@instOfNat (nat_lit 14))) 0), (@Value.str (Str.ofString "/claim/cut.py") 278)])) (@List.toArray (@Option Value) []))
noncomputable abbrev o6x79 (P : Params) : Obj := (@Obj.mk (@Value.type "frame") none PySem.Data.plain (@List.toArray (@Option Value) [(some (@Value.ref 78)), (some (@Value.ref 3)), (some (@Value.ref 75)), none, (some (@Value.str (Str.ofString "snobol.values") 187)), none, (some (@Value.ref 0))]))
noncomputable abbrev o6x80 (P : Params) : Obj := (@Obj.mk (@Value.type "tuple") none (@Data.seq (@List.toArray Value []) 0) (@List.toArray (@Option Value) []))
noncomputable abbrev o6x81 (P : Params) : Obj := (@Obj.mk Value.none none (@Data.fields (@List.toArray Value [])) (@List.toArray (@Option Value) []))
noncomputable abbrev o6x82 (P : Params) : Obj := (@Obj.mk (@Value.type "tuple") none (@Data.seq (@List.toArray Value [(@Value.str (Str.ofString "self") 287), (@Value.str (Str.ofString "tree") 288)]) 0) (@List.toArray (@Option Value) []))
noncomputable abbrev o6x83 (P : Params) : Obj := (@Obj.mk (@Value.type "tuple") none (@Data.seq (@List.toArray Value []) 0) (@List.toArray (@Option Value) []))
noncomputable abbrev o6x84 (P : Params) : Obj := (@Obj.mk Value.none none (@Data.func (@FuncData.mk (Str.ofString "__init__") (Str.ofString "Delayed.__init__") (fnA (stIn 4 0)) (FuncBody.stmts (fnB (stIn 4 0))) (fnS (stIn 4 0)) 0 [] Value.none Value.none Value.none Value.none none Value.none Value.none 0)) (@List.toArray (@Option Value) []))
noncomputable abbrev o6x85 (P : Params) : Obj := (@Obj.mk (@Value.type "code") none (@Data.fields (@List.toArray Value [(@Value.str (Str.ofString "__init__") 284), (@Value.str (Str.ofString "Delayed.__init__") 285), (@Value.str (Str.ofString "/claim/cut.py") 286), (@Value.int (@OfNat.ofNat Int (nat_lit 16) (@instOfNat (nat_lit 16))) 0), (@Value.int (@OfNat.ofNat Int (nat_lit 2) (@instOfNat (nat_lit 2))) 0), (@Value.int (@OfNat.ofNat Int (nat_lit 0) (@instOfNat (nat_lit 0))) 0), (@Value.int (@OfNat.ofNat Int (nat_lit 0) (@instOfNat (nat_lit 0))) 0), (@Value.int (@OfNat.ofNat Int (nat_lit 3) (@instOfNat (nat_lit 3))) 0), (@Value.ref 80), (@Value.bool Bool.true), (@Value.int (@OfNat.ofNat Int (nat_lit 181) (@instOfNat (nat_lit 181))) 0), (@Value.ref 81), Value.none, (@Value.ref 82), (@Value.ref 83), (@Value.ref 84), (@Value.int (@OfNat.ofNat Int (nat_lit 289) (@instOfNat (nat_lit 289))) 0), (@Value.int (@OfNat.ofNat Int (nat_lit 16) (@instOfNat (nat_lit 16))) 0), (@Value.str (Str.ofString "/claim/cut.py") 290)])) (@List.toArray (@Option Value) []))
noncomputable abbrev o6x86 (P : Params) : Obj := (@Obj.mk (@Value.type "function") none (@Data.func (@FuncData.mk (Str.ofString "__init__") (Str.ofString "Delayed.__init__") (fnA (stIn 4 0)) (FuncBody.stmts (fnB (stIn 4 0))) (fnS (stIn 4 0)) 3 [] Value.none Value.none Value.none (@Value.str (Str.ofString "snobol.values") 187) none (@Value.ref 85) Value.none 0)) (@List.toArray (@Option Value) []))
noncomputable abbrev o6x87 (P : Params) : Obj := (@Obj.mk (@Value.type "tuple") none (@Data.seq (@List.toArray Value [(@Value.str (Str.ofString "tree") 292)]) 0) (@List.toArray (@Option Value) []))
noncomputable abbrev o6x88 (P : Params) : Obj := (@Obj.mk (@Value.type "dict") none (@Data.dict (@List.toArray PySem.DictEntry [(@DictEntry.mk (@PyData.keyHash P (Str.ofString "__module__")) (@Value.str (Str.ofString "__module__") 279) (@Value.str (Str.ofString "snobol.values") 187)), (@DictEntry.mk (@PyData.keyHash P (Str.ofString "__firstlineno__")) (@Value.str (Str.ofString "__firstlineno__") 283) (@Value.int (@OfNat.ofNat Int (nat_lit 14) (@instOfNat (nat_lit 14))) 282)), (@DictEntry.mk (@PyData.keyHash P (Str.ofString "__init__")) (@Value.str (Str.ofString "__init__") 291) (@Value.ref 86)), (@DictEntry.mk (@PyData.keyHash P (Str.ofString "__static_attributes__")) (@Value.str (Str.ofString "__static_attributes__") 293) (@Value.ref 87)), (@DictEntry.mk (@PyData.keyHash P (Str.ofString "__dict__")) (@Value.str (Str.ofString "__dict__") 295) (@Value.ref 90)), (@DictEntry.mk (@PyData.keyHash P (Str.ofString "__weakref__")) (@Value.str (Str.ofString "__weakref__") 297) (@Value.ref 91)), (@DictEntry.mk (@PyData.keyHash P (Str.ofString "__doc__")) (@Value.str (Str.ofString "__doc__") 298) Value.none)]) 4) (@List.toArray (@Option Value) []))
noncomputable abbrev o6x89 (P : Params) : Obj := (@Obj.mk (@Value.type "type") none (@Data.cls (@PySem.ClassData.mk (Str.ofString "Delayed") [(@Value.type "object")] [(@Value.ref 89), (@Value.type "object")] 88 (Str.ofString "Delayed") Bool.true [] [] Bool.false none Bool.false)) (@List.toArray (@Option Value) [none, none, (some (@Value.str (Str.ofString "Delayed") 272)), (some (@Value.str (Str.ofString "Delayed") 280)), (some (@Value.builtin "object.__new__")), (some (@Value.bool Bool.true))]))
noncomputable abbrev o6x90 (P : Params) : Obj := (@Obj.mk (@Value.type "getset_descriptor") none (@Data.fields (@List.toArray Value [(@Value.str (Str.ofString "__dict__") 294), (@Value.ref 89), (@Value.builtin "function.__dict__"), (@Value.builtin "function.__dict__#set")])) (@List.toArray (@Option Value) []))
noncomputable abbrev o6x91 (P : Params) : Obj := (@Obj.mk (@Value.type "getset_descriptor") none (@Data.fields (@List.toArray Value [(@Value.str (Str.ofString "__weakref__") 296), (@Value.ref 89), (@Value.builtin "ExceptionGroup.__weakref__"), Value.none])) (@List.toArray (@Option Value) []))
noncomputable abbrev o6x92 (P : Params) : Obj := (@Obj.mk (@Value.type "super") none (@Data.fields (@List.toArray Value [(@Value.ref 89), (@Value.ref 89), (@Value.ref 89)])) (@List.toArray (@Option Value) []))
noncomputable abbrev o6x93 (P : Params) : Obj := (@Obj.mk (@Value.type "builtin_function_or_method") none (@Data.fields (@List.toArray Value [(@Value.builtin "object.__init_subclass__"), (@Value.ref 89)])) (@List.toArray (@Option Value) []))
noncomputable abbrev hp3 (P : Params) : Heap := Heap.mk (Array.mk (boot_o_0 P :: boot_o_1 P :: o3x2 P :: o6x3 P :: boot_o_4 P :: boot_o_5 P :: boot_o_6 P :: boot_o_7 P :: boot_o_8 P :: boot_o_9 P :: boot_o_10 P :: o1x11 P :: o6x12 P :: o1x13 P :: o1x14 P :: o3x15 P :: o3x16 P :: o3x17 P :: o3x18 P :: o3x19 P :: o3x20 P :: o3x21 P :: o3x22 P :: o3x23 P :: o3x24 P :: o3x25 P :: o3x26 P :: o3x27 P :: o3x28 P :: o3x29 P :: o3x30 P :: o3x31 P :: o3x32 P :: o3x33 P :: o3x34 P :: o3x35 P :: o3x36 P :: o3x37 P :: o4x38 P :: o4x39 P :: o4x40 P :: o4x41 P :: o4x42 P :: o4x43 P :: o4x44 P :: o4x45 P :: o4x46 P :: o4x47 P :: o4x48 P :: o4x49 P :: o4x50 P :: o4x51 P :: o5x52 P :: o5x53 P :: o5x54 P :: o5x55 P :: o5x56 P :: o5x57 P :: o5x58 P :: o5x59 P :: o5x60 P :: o5x61 P :: o5x62 P :: o5x63 P :: o5x64 P :: o5x65 P :: o5x66 P :: o5x67 P :: o5x68 P :: o5x69 P :: o5x70 P :: o5x71 P :: o5x72 P :: o6x73 P :: o6x74 P :: o6x75 P :: o6x76 P :: o6x77 P :: o6x78 P :: o6x79 P :: o6x80 P :: o6x81 P :: o6x82 P :: o6x83 P :: o6x84 P :: o6x85 P :: o6x86 P :: o6x87 P :: o6x88 P :: o6x89 P :: o6x90 P :: o6x91 P :: o6x92 P :: o6x93 P :: [])) (@PySem.Life.mk [] [] [] 0 [] [] Bool.false (@List.toArray Nat []) [] 0 Bool.false Bool.false Bool.false (@OfNat.ofNat Int (nat_lit 0) (@instOfNat (nat_lit 0))) [(@OfNat.ofNat Int (nat_lit 2000) (@instOfNat (nat_lit 2000))), (@OfNat.ofNat Int (nat_lit 10) (@instOfNat (nat_lit 10))), (@OfNat.ofNat Int (nat_lit 10) (@instOfNat (nat_lit 10)))] Bool.false 0 Bool.true [] [] 0 Bool.false)
noncomputable abbrev shp3 (w : World) (os : OsState) : Shared := ⟨hp3 w.params, Array.mk [], (@PySem.Drawn.mk 0 0 0 0), (nat_lit 301), os⟩
noncomputable abbrev sts3 : List Stmt := (bodT.drop 4).take 1
theorem seg3 : ∀ (w : World) (os : OsState), segRun treeTable pw w (nat_lit 11) (some (@Value.ref 6)) (nat_lit 1) (nat_lit 223) (shp2 w os) (piecesOf sts3 envT cT ⟨10, 0, 13, 24⟩ B_T) = some (Flow.next, shp3 w os, cT, ⟨14, 0, 17, 24⟩) := by
  intro w os; kernel_rfl
noncomputable abbrev o7x3 (P : Params) : Obj := (@Obj.mk (@Value.type "dict") none (@Data.dict (@List.toArray PySem.DictEntry [(@DictEntry.mk (@PyData.keyHash P (Str.ofString "__name__")) (@Value.str (Str.ofString "__name__") 165) (@Value.str (Str.ofString "snobol.values") 187)), (@DictEntry.mk (@PyData.keyHash P (Str.ofString "__doc__")) (@Value.str (Str.ofString "__doc__") 166) Value.none), (@DictEntry.mk (@PyData.keyHash P (Str.ofString "__package__")) (@Value.str (Str.ofString "__package__") 167) Value.none), (@DictEntry.mk (@PyData.keyHash P (Str.ofString "__loader__")) (@Value.str (Str.ofString "__loader__") 168) (@Value.builtin "__main__.__loader__#opaque")), (@DictEntry.mk (@PyData.keyHash P (Str.ofString "__spec__")) (@Value.str (Str.ofString "__spec__") 169) Value.none), (@DictEntry.mk (@PyData.keyHash P (Str.ofString "__annotations__")) (@Value.str (Str.ofString "__annotations__") 170) (@Value.ref 6)), (@DictEntry.mk (@PyData.keyHash P (Str.ofString "__builtins__")) (@Value.str (Str.ofString "__builtins__") 171) (@Value.ref 4)), (@DictEntry.mk (@PyData.keyHash P (Str.ofString "__file__")) (@Value.str (Str.ofString "__file__") 173) (@Value.str (Str.ofString "/claim/cut.py") 172)), (@DictEntry.mk (@PyData.keyHash P (Str.ofString "__cached__")) (@Value.str (Str.ofString "__cached__") 174) Value.none), (@DictEntry.mk (@PyData.keyHash P (Str.ofString "SnobolError")) (@Value.str (Str.ofString "SnobolError") 222) (@Value.ref 34)), (@DictEntry.mk (@PyData.keyHash P (Str.ofString "Failure")) (@Value.str (Str.ofString "Failure") 242) (@Value.ref 47)), (@DictEntry.mk (@PyData.keyHash P (Str.ofString "Pattern")) (@Value.str (Str.ofString "Pattern") 271) (@Value.ref 68)), (@DictEntry.mk (@PyData.keyHash P (Str.ofString "Delayed")) (@Value.str (Str.ofString "Delayed") 300) (@Value.ref 89)), (@DictEntry.mk (@PyData.keyHash P (Str.ofString "NameRef")) (@Value.str (Str.ofString "NameRef") 333) (@Value.ref 110))]) 14) (@List.toArray (@Option Value) []))
noncomputable abbrev o7x12 (P : Params) : Obj := (@Obj.mk Value.none none (@Data.fields (@List.toArray Value [(@Value.int (@OfNat.ofNat Int (nat_lit 2) (@instOfNat (nat_lit 2))) 0), (@Value.int (@OfNat.ofNat Int (nat_lit 0) (@instOfNat (nat_lit 0))) 0), (@Value.ref 21), (@Value.int (@OfNat.ofNat Int (nat_lit 8) (@instOfNat (nat_lit 8))) 0), (@Value.int (@OfNat.ofNat Int (nat_lit 0) (@instOfNat (nat_lit 0))) 0), (@Value.ref 43), (@Value.int (@OfNat.ofNat Int (nat_lit 10) (@instOfNat (nat_lit 10))) 0), (@Value.int (@OfNat.ofNat Int (nat_lit 0) (@instOfNat (nat_lit 0))) 0), (@Value.ref 57), (@Value.int (@OfNat.ofNat Int (nat_lit 14) (@instOfNat (nat_lit 14))) 0), (@Value.int (@OfNat.ofNat Int (nat_lit 0) (@instOfNat (nat_lit 0))) 0), (@Value.ref 78), (@Value.int (@OfNat.ofNat Int (nat_lit 18) (@instOfNat (nat_lit 18))) 0), (@Value.int (@OfNat.ofNat Int (nat_lit 0) (@instOfNat (nat_lit 0))) 0), (@Value.ref 99)])) (@List.toArray (@Option Value) []))
noncomputable abbrev o7x94 (P : Params) : Obj := (@Obj.mk (@Value.type "tuple") none (@Data.seq (@List.toArray Value []) 0) (@List.toArray (@Option Value) []))
noncomputable abbrev o7x95 (P : Params) : Obj := (@Obj.mk (@Value.type "builtin_function_or_method") none (@Data.fields (@List.toArray Value [(@Value.builtin "type.__prepare__"), (@Value.type "type")])) (@List.toArray (@Option Value) []))
noncomputable abbrev o7x96 (P : Params) : Obj := (@Obj.mk (@Value.type "dict") none (@Data.dict (@List.toArray PySem.DictEntry [(@DictEntry.mk (@PyData.keyHash P (Str.ofString "__module__")) (@Value.str (Str.ofString "__module__") 308) (@Value.str (Str.ofString "snobol.values") 187)), (@DictEntry.mk (@PyData.keyHash P (Str.ofString "__qualname__")) (@Value.str (Str.ofString "__qualname__") 310) (@Value.str (Str.ofString "NameRef") 309)), (@DictEntry.mk (@PyData.keyHash P (Str.ofString "__firstlineno__")) (@Value.str (Str.ofString "__firstlineno__") 312) (@Value.int (@OfNat.ofNat Int (nat_lit 18) (@instOfNat (nat_lit 18))) 311)), (@DictEntry.mk (@PyData.keyHash P (Str.ofString "__init__")) (@Value.str (Str.ofString "__init__") 322) (@Value.ref 107)), (@DictEntry.mk (@PyData.keyHash P (Str.ofString "__static_attributes__")) (@Value.str (Str.ofString "__static_attributes__") 326) (@Value.ref 108))]) 5) (@List.toArray (@Option Value) []))
noncomputable abbrev o7x97 (P : Params) : Obj := (@Obj.mk (@Value.type "tuple") none (@Data.seq (@List.toArray Value []) 0) (@List.toArray (@Option Value) []))
noncomputable abbrev o7x98 (P : Params) : Obj := (@Obj.mk Value.none none (@Data.fields (@List.toArray Value [(@Value.int (@OfNat.ofNat Int (nat_lit 20) (@instOfNat (nat_lit 20))) 0), (@Value.int (@OfNat.ofNat Int (nat_lit 4) (@instOfNat (nat_lit 4))) 0), (@Value.ref 106)])) (@List.toArray (@Option Value) []))
noncomputable abbrev o7x99 (P : Params) : Obj := (@Obj.mk (@Value.type "code") none (@Data.fields (@List.toArray Value [(@Value.str (Str.ofString "NameRef") 303), (@Value.str (Str.ofString "NameRef") 304), (@Value.str (Str.ofString "/claim/cut.py") 305), (@Value.int (@OfNat.ofNat Int (nat_lit 18) (@instOfNat (nat_lit 18))) 0), (@Value.int (@OfNat.ofNat Int (nat_lit 0) (@instOfNat (nat_lit 0))) 0), (@Value.int (@OfNat.ofNat Int (nat_lit 0) (@instOfNat (nat_lit 0))) 0), (@Value.int (@OfNat.ofNat Int (nat_lit 0) (@instOfNat (nat_lit 0))) 0), (@Value.int (@OfNat.ofNat Int (nat_lit 0) (@instOfNat (nat_lit 0))) 0), (@Value.ref 97), (@Value.bool Bool.false), (@Value.int (@OfNat.ofNat Int (nat_lit 181) (@instOfNat (nat_lit 181))) 0), (@Value.ref 98), Value.none, Value.none, Value.none, Value.none, (@Value.int (@OfNat.ofNat Int (nat_lit 306) (@instOfNat (nat_lit 306))) 0), (@Value.int (@OfNat.ofNat Int (nat_lit 18) (@instOfNat (nat_lit 18))) 0), (@Value.str (Str.ofString "/claim/cut.py") 307)])) (@List.toArray (@Option Value) []))
noncomputable abbrev o7x100 (P : Params) : Obj := (@Obj.mk (@Value.type "frame") none PySem.Data.plain (@List.toArray (@Option Value) [(some (@Value.ref 99)), (some (@Value.ref 3)), (some (@Value.ref 96)), none, (some (@Value.str (Str.ofString "snobol.values") 187)), none, (some (@Value.ref 0))]))
noncomputable abbrev o7x101 (P : Params) : Obj := (@Obj.mk (@Value.type "tuple") none (@Data.seq (@List.toArray Value []) 0) (@List.toArray (@Option Value) []))
noncomputable abbrev o7x102 (P : Params) : Obj := (@Obj.mk Value.none none (@Data.fields (@List.toArray Value [])) (@List.toArray (@Option Value) []))
noncomputable abbrev o7x103 (P : Params) : Obj := (@Obj.mk (@Value.type "tuple") none (@Data.seq (@List.toArray Value [(@Value.str (Str.ofString "self") 316), (@Value.str (Str.ofString "kind") 317), (@Value.str (Str.ofString "owner") 318), (@Value.str (Str.ofString "key") 319)]) 0) (@List.toArray (@Option Value) []))
noncomputable abbrev o7x104 (P : Params) : Obj := (@Obj.mk (@Value.type "tuple") none (@Data.seq (@List.toArray Value []) 0) (@List.toArray (@Option Value) []))
noncomputable abbrev o7x105 (P : Params) : Obj := (@Obj.mk Value.none none (@Data.func (@FuncData.mk (Str.ofString "__init__") (Str.ofString "NameRef.__init__") (fnA (stIn 5 0)) (FuncBody.stmts (fnB (stIn 5 0))) (fnS (stIn 5 0)) 0 [] Value.none Value.none Value.none Value.none none Value.none Value.none 0)) (@List.toArray (@Option Value) []))
noncomputable abbrev o7x106 (P : Params) : Obj := (@Obj.mk (@Value.type "code") none (@Data.fields (@List.toArray Value [(@Value.str (Str.ofString "__init__") 313), (@Value.str (Str.ofString "NameRef.__init__") 314), (@Value.str (Str.ofString "/claim/cut.py") 315), (@Value.int (@OfNat.ofNat Int (nat_lit 20) (@instOfNat (nat_lit 20))) 0), (@Value.int (@OfNat.ofNat Int (nat_lit 4) (@instOfNat (nat_lit 4))) 0), (@Value.int (@OfNat.ofNat Int (nat_lit 0) (@instOfNat (nat_lit 0))) 0), (@Value.int (@OfNat.ofNat Int (nat_lit 0) (@instOfNat (nat_lit 0))) 0), (@Value.int (@OfNat.ofNat Int (nat_lit 3) (@instOfNat (nat_lit 3))) 0), (@Value.ref 101), (@Value.bool Bool.true), (@Value.int (@OfNat.ofNat Int (nat_lit 181) (@instOfNat (nat_lit 181))) 0), (@Value.ref 102), Value.none, (@Value.ref 103), (@Value.ref 104), (@Value.ref 105), (@Value.int (@OfNat.ofNat Int (nat_lit 320) (@instOfNat (nat_lit 320))) 0), (@Value.int (@OfNat.ofNat Int (nat_lit 20) (@instOfNat (nat_lit 20))) 0), (@Value.str (Str.ofString "/claim/cut.py") 321)])) (@List.toArray (@Option Value) []))
noncomputable abbrev o7x107 (P : Params) : Obj := (@Obj.mk (@Value.type "function") none (@Data.func (@FuncData.mk (Str.ofString "__init__") (Str.ofString "NameRef.__init__") (fnA (stIn 5 0)) (FuncBody.stmts (fnB (stIn 5 0))) (fnS (stIn 5 0)) 3 [] Value.none Value.none Value.none (@Value.str (Str.ofString "snobol.values") 187) none (@Value.ref 106) Value.none 0)) (@List.toArray (@Option Value) []))
noncomputable abbrev o7x108 (P : Params) : Obj := (@Obj.mk (@Value.type "tuple") none (@Data.seq (@List.toArray Value [(@Value.str (Str.ofString "key") 323), (@Value.str (Str.ofString "kind") 324), (@Value.str (Str.ofString "owner") 325)]) 0) (@List.toArray (@Option Value) []))
noncomputable abbrev o7x109 (P : Params) : Obj := (@Obj.mk (@Value.type "dict") none (@Data.dict (@List.toArray PySem.DictEntry [(@DictEntry.mk (@PyData.keyHash P (Str.ofString "__module__")) (@Value.str (Str.ofString "__module__") 308) (@Value.str (Str.ofString "snobol.values") 187)), (@DictEntry.mk (@PyData.keyHash P (Str.ofString "__firstlineno__")) (@Value.str (Str.ofString "__firstlineno__") 312) (@Value.int (@OfNat.ofNat Int (nat_lit 18) (@instOfNat (nat_lit 18))) 311)), (@DictEntry.mk (@PyData.keyHash P (Str.ofString "__init__")) (@Value.str (Str.ofString "__init__") 322) (@Value.ref 107)), (@DictEntry.mk (@PyData.keyHash P (Str.ofString "__static_attributes__")) (@Value.str (Str.ofString "__static_attributes__") 326) (@Value.ref 108)), (@DictEntry.mk (@PyData.keyHash P (Str.ofString "__dict__")) (@Value.str (Str.ofString "__dict__") 328) (@Value.ref 111)), (@DictEntry.mk (@PyData.keyHash P (Str.ofString "__weakref__")) (@Value.str (Str.ofString "__weakref__") 330) (@Value.ref 112)), (@DictEntry.mk (@PyData.keyHash P (Str.ofString "__doc__")) (@Value.str (Str.ofString "__doc__") 331) Value.none)]) 4) (@List.toArray (@Option Value) []))
noncomputable abbrev o7x110 (P : Params) : Obj := (@Obj.mk (@Value.type "type") none (@Data.cls (@PySem.ClassData.mk (Str.ofString "NameRef") [(@Value.type "object")] [(@Value.ref 110), (@Value.type "object")] 109 (Str.ofString "NameRef") Bool.true [] [] Bool.false none Bool.false)) (@List.toArray (@Option Value) [none, none, (some (@Value.str (Str.ofString "NameRef") 301)), (some (@Value.str (Str.ofString "NameRef") 309)), (some (@Value.builtin "object.__new__")), (some (@Value.bool Bool.true))]))
noncomputable abbrev o7x111 (P : Params) : Obj := (@Obj.mk (@Value.type "getset_descriptor") none (@Data.fields (@List.toArray Value [(@Value.str (Str.ofString "__dict__") 327), (@Value.ref 110), (@Value.builtin "function.__dict__"), (@Value.builtin "function.__dict__#set")])) (@List.toArray (@Option Value) []))
noncomputable abbrev o7x112 (P : Params) : Obj := (@Obj.mk (@Value.type "getset_descriptor") none (@Data.fields (@List.toArray Value [(@Value.str (Str.ofString "__weakref__") 329), (@Value.ref 110), (@Value.builtin "ExceptionGroup.__weakref__"), Value.none])) (@List.toArray (@Option Value) []))
noncomputable abbrev o7x113 (P : Params) : Obj := (@Obj.mk (@Value.type "super") none (@Data.fields (@List.toArray Value [(@Value.ref 110), (@Value.ref 110), (@Value.ref 110)])) (@List.toArray (@Option Value) []))
noncomputable abbrev o7x114 (P : Params) : Obj := (@Obj.mk (@Value.type "builtin_function_or_method") none (@Data.fields (@List.toArray Value [(@Value.builtin "object.__init_subclass__"), (@Value.ref 110)])) (@List.toArray (@Option Value) []))
noncomputable abbrev hp4 (P : Params) : Heap := Heap.mk (Array.mk (boot_o_0 P :: boot_o_1 P :: o3x2 P :: o7x3 P :: boot_o_4 P :: boot_o_5 P :: boot_o_6 P :: boot_o_7 P :: boot_o_8 P :: boot_o_9 P :: boot_o_10 P :: o1x11 P :: o7x12 P :: o1x13 P :: o1x14 P :: o3x15 P :: o3x16 P :: o3x17 P :: o3x18 P :: o3x19 P :: o3x20 P :: o3x21 P :: o3x22 P :: o3x23 P :: o3x24 P :: o3x25 P :: o3x26 P :: o3x27 P :: o3x28 P :: o3x29 P :: o3x30 P :: o3x31 P :: o3x32 P :: o3x33 P :: o3x34 P :: o3x35 P :: o3x36 P :: o3x37 P :: o4x38 P :: o4x39 P :: o4x40 P :: o4x41 P :: o4x42 P :: o4x43 P :: o4x44 P :: o4x45 P :: o4x46 P :: o4x47 P :: o4x48 P :: o4x49 P :: o4x50 P :: o4x51 P :: o5x52 P :: o5x53 P :: o5x54 P :: o5x55 P :: o5x56 P :: o5x57 P :: o5x58 P :: o5x59 P :: o5x60 P :: o5x61 P :: o5x62 P :: o5x63 P :: o5x64 P :: o5x65 P :: o5x66 P :: o5x67 P :: o5x68 P :: o5x69 P :: o5x70 P :: o5x71 P :: o5x72 P :: o6x73 P :: o6x74 P :: o6x75 P :: o6x76 P :: o6x77 P :: o6x78 P :: o6x79 P :: o6x80 P :: o6x81 P :: o6x82 P :: o6x83 P :: o6x84 P :: o6x85 P :: o6x86 P :: o6x87 P :: o6x88 P :: o6x89 P :: o6x90 P :: o6x91 P :: o6x92 P :: o6x93 P :: o7x94 P :: o7x95 P :: o7x96 P :: o7x97 P :: o7x98 P :: o7x99 P :: o7x100 P :: o7x101 P :: o7x102 P :: o7x103 P :: o7x104 P :: o7x105 P :: o7x106 P :: o7x107 P :: o7x108 P :: o7x109 P :: o7x110 P :: o7x111 P :: o7x112 P :: o7x113 P :: o7x114 P :: [])) (@PySem.Life.mk [] [] [] 0 [] [] Bool.false (@List.toArray Nat []) [] 0 Bool.false Bool.false Bool.false (@OfNat.ofNat Int (nat_lit 0) (@instOfNat (nat_lit 0))) [(@OfNat.ofNat Int (nat_lit 2000) (@instOfNat (nat_lit 2000))), (@OfNat.ofNat Int (nat_lit 10) (@instOfNat (nat_lit 10))), (@OfNat.ofNat Int (nat_lit 10) (@instOfNat (nat_lit 10)))] Bool.false 0 Bool.true [] [] 0 Bool.false)
noncomputable abbrev shp4 (w : World) (os : OsState) : Shared := ⟨hp4 w.params, Array.mk [], (@PySem.Drawn.mk 0 0 0 0), (nat_lit 334), os⟩
noncomputable abbrev sts4 : List Stmt := (bodT.drop 5).take 1
theorem seg4 : ∀ (w : World) (os : OsState), segRun treeTable pw w (nat_lit 11) (some (@Value.ref 6)) (nat_lit 1) (nat_lit 227) (shp3 w os) (piecesOf sts4 envT cT ⟨14, 0, 17, 24⟩ B_T) = some (Flow.next, shp4 w os, cT, ⟨18, 0, 23, 22⟩) := by
  intro w os; kernel_rfl
noncomputable abbrev o8x3 (P : Params) : Obj := (@Obj.mk (@Value.type "dict") none (@Data.dict (@List.toArray PySem.DictEntry [(@DictEntry.mk (@PyData.keyHash P (Str.ofString "__name__")) (@Value.str (Str.ofString "__name__") 165) (@Value.str (Str.ofString "snobol.values") 187)), (@DictEntry.mk (@PyData.keyHash P (Str.ofString "__doc__")) (@Value.str (Str.ofString "__doc__") 166) Value.none), (@DictEntry.mk (@PyData.keyHash P (Str.ofString "__package__")) (@Value.str (Str.ofString "__package__") 167) Value.none), (@DictEntry.mk (@PyData.keyHash P (Str.ofString "__loader__")) (@Value.str (Str.ofString "__loader__") 168) (@Value.builtin "__main__.__loader__#opaque")), (@DictEntry.mk (@PyData.keyHash P (Str.ofString "__spec__")) (@Value.str (Str.ofString "__spec__") 169) Value.none), (@DictEntry.mk (@PyData.keyHash P (Str.ofString "__annotations__")) (@Value.str (Str.ofString "__annotations__") 170) (@Value.ref 6)), (@DictEntry.mk (@PyData.keyHash P (Str.ofString "__builtins__")) (@Value.str (Str.ofString "__builtins__") 171) (@Value.ref 4)), (@DictEntry.mk (@PyData.keyHash P (Str.ofString "__file__")) (@Value.str (Str.ofString "__file__") 173) (@Value.str (Str.ofString "/claim/cut.py") 172)), (@DictEntry.mk (@PyData.keyHash P (Str.ofString "__cached__")) (@Value.str (Str.ofString "__cached__") 174) Value.none), (@DictEntry.mk (@PyData.keyHash P (Str.ofString "SnobolError")) (@Value.str (Str.ofString "SnobolError") 222) (@Value.ref 34)), (@DictEntry.mk (@PyData.keyHash P (Str.ofString "Failure")) (@Value.str (Str.ofString "Failure") 242) (@Value.ref 47)), (@DictEntry.mk (@PyData.keyHash P (Str.ofString "Pattern")) (@Value.str (Str.ofString "Pattern") 271) (@Value.ref 68)), (@DictEntry.mk (@PyData.keyHash P (Str.ofString "Delayed")) (@Value.str (Str.ofString "Delayed") 300) (@Value.ref 89)), (@DictEntry.mk (@PyData.keyHash P (Str.ofString "NameRef")) (@Value.str (Str.ofString "NameRef") 333) (@Value.ref 110)), (@DictEntry.mk (@PyData.keyHash P (Str.ofString "Holder")) (@Value.str (Str.ofString "Holder") 365) (@Value.ref 131)), (@DictEntry.mk (@PyData.keyHash P (Str.ofString "is_fail")) (@Value.str (Str.ofString "is_fail") 372) (@Value.ref 142)), (@DictEntry.mk (@PyData.keyHash P (Str.ofString "is_null")) (@Value.str (Str.ofString "is_null") 379) (@Value.ref 149)), (@DictEntry.mk (@PyData.keyHash P (Str.ofString "is_plain")) (@Value.str (Str.ofString "is_plain") 386) (@Value.ref 156)), (@DictEntry.mk (@PyData.keyHash P (Str.ofString "fits")) (@Value.str (Str.ofString "fits") 394) (@Value.ref 163)), (@DictEntry.mk (@PyData.keyHash P (Str.ofString "whole_of_text")) (@Value.str (Str.ofString "whole_of_text") 405) (@Value.ref 170))]) 20) (@List.toArray (@Option Value) []))
noncomputable abbrev o8x12 (P : Params) : Obj := (@Obj.mk Value.none none (@Data.fields (@List.toArray Value [(@Value.int (@OfNat.ofNat Int (nat_lit 2) (@instOfNat (nat_lit 2))) 0), (@Value.int (@OfNat.ofNat Int (nat_lit 0) (@instOfNat (nat_lit 0))) 0), (@Value.ref 21), (@Value.int (@OfNat.ofNat Int (nat_lit 8) (@instOfNat (nat_lit 8))) 0), (@Value.int (@OfNat.ofNat Int (nat_lit 0) (@instOfNat (nat_lit 0))) 0), (@Value.ref 43), (@Value.int (@OfNat.ofNat Int (nat_lit 10) (@instOfNat (nat_lit 10))) 0), (@Value.int (@OfNat.ofNat Int (nat_lit 0) (@instOfNat (nat_lit 0))) 0), (@Value.ref 57), (@Value.int (@OfNat.ofNat Int (nat_lit 14) (@instOfNat (nat_lit 14))) 0), (@Value.int (@OfNat.ofNat Int (nat_lit 0) (@instOfNat (nat_lit 0))) 0), (@Value.ref 78), (@Value.int (@OfNat.ofNat Int (nat_lit 18) (@instOfNat (nat_lit 18))) 0), (@Value.int (@OfNat.ofNat Int (nat_lit 0) (@instOfNat (nat_lit 0))) 0), (@Value.ref 99), (@Value.int (@OfNat.ofNat Int (nat_lit 24) (@instOfNat (nat_lit 24))) 0), (@Value.int (@OfNat.ofNat Int (nat_lit 0) (@instOfNat (nat_lit 0))) 0), (@Value.ref 120), (@Value.int (@OfNat.ofNat Int (nat_lit 30) (@instOfNat (nat_lit 30))) 0), (@Value.int (@OfNat.ofNat Int (nat_lit 0) (@instOfNat (nat_lit 0))) 0), (@Value.ref 141), (@Value.int (@OfNat.ofNat Int (nat_lit 32) (@instOfNat (nat_lit 32))) 0), (@Value.int (@OfNat.ofNat Int (nat_lit 0) (@instOfNat (nat_lit 0))) 0), (@Value.ref 148), (@Value.int (@OfNat.ofNat Int (nat_lit 34) (@instOfNat (nat_lit 34))) 0), (@Value.int (@OfNat.ofNat Int (nat_lit 0) (@instOfNat (nat_lit 0))) 0), (@Value.ref 155), (@Value.int (@OfNat.ofNat Int (nat_lit 36) (@instOfNat (nat_lit 36))) 0), (@Value.int (@OfNat.ofNat Int (nat_lit 0) (@instOfNat (nat_lit 0))) 0), (@Value.ref 162), (@Value.int (@OfNat.ofNat Int (nat_lit 38) (@instOfNat (nat_lit 38))) 0), (@Value.int (@OfNat.ofNat Int (nat_lit 0) (@instOfNat (nat_lit 0))) 0), (@Value.ref 169)])) (@List.toArray (@Option Value) []))
noncomputable abbrev o8x115 (P : Params) : Obj := (@Obj.mk (@Value.type "tuple") none (@Data.seq (@List.toArray Value []) 0) (@List.toArray (@Option Value) []))
noncomputable abbrev o8x116 (P : Params) : Obj := (@Obj.mk (@Value.type "builtin_function_or_method") none (@Data.fields (@List.toArray Value [(@Value.builtin "type.__prepare__"), (@Value.type "type")])) (@List.toArray (@Option Value) []))
noncomputable abbrev o8x117 (P : Params) : Obj := (@Obj.mk (@Value.type "dict") none (@Data.dict (@List.toArray PySem.DictEntry [(@DictEntry.mk (@PyData.keyHash P (Str.ofString "__module__")) (@Value.str (Str.ofString "__module__") 341) (@Value.str (Str.ofString "snobol.values") 187)), (@DictEntry.mk (@PyData.keyHash P (Str.ofString "__qualname__")) (@Value.str (Str.ofString "__qualname__") 343) (@Value.str (Str.ofString "Holder") 342)), (@DictEntry.mk (@PyData.keyHash P (Str.ofString "__firstlineno__")) (@Value.str (Str.ofString "__firstlineno__") 345) (@Value.int (@OfNat.ofNat Int (nat_lit 24) (@instOfNat (nat_lit 24))) 344)), (@DictEntry.mk (@PyData.keyHash P (Str.ofString "__init__")) (@Value.str (Str.ofString "__init__") 354) (@Value.ref 128)), (@DictEntry.mk (@PyData.keyHash P (Str.ofString "__static_attributes__")) (@Value.str (Str.ofString "__static_attributes__") 358) (@Value.ref 129))]) 5) (@List.toArray (@Option Value) []))
noncomputable abbrev o8x118 (P : Params) : Obj := (@Obj.mk (@Value.type "tuple") none (@Data.seq (@List.toArray Value []) 0) (@List.toArray (@Option Value) []))
noncomputable abbrev o8x119 (P : Params) : Obj := (@Obj.mk Value.none none (@Data.fields (@List.toArray Value [(@Value.int (@OfNat.ofNat Int (nat_lit 26) (@instOfNat (nat_lit 26))) 0), (@Value.int (@OfNat.ofNat Int (nat_lit 4) (@instOfNat (nat_lit 4))) 0), (@Value.ref 127)])) (@List.toArray (@Option Value) []))
noncomputable abbrev o8x120 (P : Params) : Obj := (@Obj.mk (@Value.type "code") none (@Data.fields (@List.toArray Value [(@Value.str (Str.ofString "Holder") 336), (@Value.str (Str.ofString "Holder") 337), (@Value.str (Str.ofString "/claim/cut.py") 338), (@Value.int (@OfNat.ofNat Int (nat_lit 24) (@instOfNat (nat_lit 24))) 0), (@Value.int (@OfNat.ofNat Int (nat_lit 0) (@instOfNat (nat_lit 0))) 0), (@Value.int (@OfNat.ofNat Int (nat_lit 0) (@instOfNat (nat_lit 0))) 0), (@Value.int (@OfNat.ofNat Int (nat_lit 0) (@instOfNat (nat_lit 0))) 0), (@Value.int (@OfNat.ofNat Int (nat_lit 0) (@instOfNat (nat_lit 0))) 0), (@Value.ref 118), (@Value.bool Bool.false), (@Value.int (@OfNat.ofNat Int (nat_lit 181) (@instOfNat (nat_lit 181))) 0), (@Value.ref 119), Value.none, Value.none, Value.none, Value.none, (@Value.int (@OfNat.ofNat Int (nat_lit 339) (@instOfNat (nat_lit 339))) 0), (@Value.int (@OfNat.ofNat Int (nat_lit 24) (@instOfNat (nat_lit 24))) 0), (@Value.str (Str.ofString "/claim/cut.py") 340)])) (@List.toArray (@Option Value) []))
noncomputable abbrev o8x121 (P : Params) : Obj := (@Obj.mk (@Value.type "frame") none PySem.Data.plain (@List.toArray (@Option Value) [(some (@Value.ref 120)), (some (@Value.ref 3)), (some (@Value.ref 117)), none, (some (@Value.str (Str.ofString "snobol.values") 187)), none, (some (@Value.ref 0))]))
noncomputable abbrev o8x122 (P : Params) : Obj := (@Obj.mk (@Value.type "tuple") none (@Data.seq (@List.toArray Value []) 0) (@List.toArray (@Option Value) []))
noncomputable abbrev o8x123 (P : Params) : Obj := (@Obj.mk Value.none none (@Data.fields (@List.toArray Value [])) (@List.toArray (@Option Value) []))
noncomputable abbrev o8x124 (P : Params) : Obj := (@Obj.mk (@Value.type "tuple") none (@Data.seq (@List.toArray Value [(@Value.str (Str.ofString "self") 349), (@Value.str (Str.ofString "word") 350), (@Value.str (Str.ofString "number") 351)]) 0) (@List.toArray (@Option Value) []))
noncomputable abbrev o8x125 (P : Params) : Obj := (@Obj.mk (@Value.type "tuple") none (@Data.seq (@List.toArray Value []) 0) (@List.toArray (@Option Value) []))
noncomputable abbrev o8x126 (P : Params) : Obj := (@Obj.mk Value.none none (@Data.func (@FuncData.mk (Str.ofString "__init__") (Str.ofString "Holder.__init__") (fnA (stIn 6 0)) (FuncBody.stmts (fnB (stIn 6 0))) (fnS (stIn 6 0)) 0 [] Value.none Value.none Value.none Value.none none Value.none Value.none 0)) (@List.toArray (@Option Value) []))
noncomputable abbrev o8x127 (P : Params) : Obj := (@Obj.mk (@Value.type "code") none (@Data.fields (@List.toArray Value [(@Value.str (Str.ofString "__init__") 346), (@Value.str (Str.ofString "Holder.__init__") 347), (@Value.str (Str.ofString "/claim/cut.py") 348), (@Value.int (@OfNat.ofNat Int (nat_lit 26) (@instOfNat (nat_lit 26))) 0), (@Value.int (@OfNat.ofNat Int (nat_lit 3) (@instOfNat (nat_lit 3))) 0), (@Value.int (@OfNat.ofNat Int (nat_lit 0) (@instOfNat (nat_lit 0))) 0), (@Value.int (@OfNat.ofNat Int (nat_lit 0) (@instOfNat (nat_lit 0))) 0), (@Value.int (@OfNat.ofNat Int (nat_lit 3) (@instOfNat (nat_lit 3))) 0), (@Value.ref 122), (@Value.bool Bool.true), (@Value.int (@OfNat.ofNat Int (nat_lit 181) (@instOfNat (nat_lit 181))) 0), (@Value.ref 123), Value.none, (@Value.ref 124), (@Value.ref 125), (@Value.ref 126), (@Value.int (@OfNat.ofNat Int (nat_lit 352) (@instOfNat (nat_lit 352))) 0), (@Value.int (@OfNat.ofNat Int (nat_lit 26) (@instOfNat (nat_lit 26))) 0), (@Value.str (Str.ofString "/claim/cut.py") 353)])) (@List.toArray (@Option Value) []))
noncomputable abbrev o8x128 (P : Params) : Obj := (@Obj.mk (@Value.type "function") none (@Data.func (@FuncData.mk (Str.ofString "__init__") (Str.ofString "Holder.__init__") (fnA (stIn 6 0)) (FuncBody.stmts (fnB (stIn 6 0))) (fnS (stIn 6 0)) 3 [] Value.none Value.none Value.none (@Value.str (Str.ofString "snobol.values") 187) none (@Value.ref 127) Value.none 0)) (@List.toArray (@Option Value) []))
noncomputable abbrev o8x129 (P : Params) : Obj := (@Obj.mk (@Value.type "tuple") none (@Data.seq (@List.toArray Value [(@Value.str (Str.ofString "mark") 355), (@Value.str (Str.ofString "number") 356), (@Value.str (Str.ofString "word") 357)]) 0) (@List.toArray (@Option Value) []))
noncomputable abbrev o8x130 (P : Params) : Obj := (@Obj.mk (@Value.type "dict") none (@Data.dict (@List.toArray PySem.DictEntry [(@DictEntry.mk (@PyData.keyHash P (Str.ofString "__module__")) (@Value.str (Str.ofString "__module__") 341) (@Value.str (Str.ofString "snobol.values") 187)), (@DictEntry.mk (@PyData.keyHash P (Str.ofString "__firstlineno__")) (@Value.str (Str.ofString "__firstlineno__") 345) (@Value.int (@OfNat.ofNat Int (nat_lit 24) (@instOfNat (nat_lit 24))) 344)), (@DictEntry.mk (@PyData.keyHash P (Str.ofString "__init__")) (@Value.str (Str.ofString "__init__") 354) (@Value.ref 128)), (@DictEntry.mk (@PyData.keyHash P (Str.ofString "__static_attributes__")) (@Value.str (Str.ofString "__static_attributes__") 358) (@Value.ref 129)), (@DictEntry.mk (@PyData.keyHash P (Str.ofString "__dict__")) (@Value.str (Str.ofString "__dict__") 360) (@Value.ref 132)), (@DictEntry.mk (@PyData.keyHash P (Str.ofString "__weakref__")) (@Value.str (Str.ofString "__weakref__") 362) (@Value.ref 133)), (@DictEntry.mk (@PyData.keyHash P (Str.ofString "__doc__")) (@Value.str (Str.ofString "__doc__") 363) Value.none)]) 4) (@List.toArray (@Option Value) []))
noncomputable abbrev o8x131 (P : Params) : Obj := (@Obj.mk (@Value.type "type") none (@Data.cls (@PySem.ClassData.mk (Str.ofString "Holder") [(@Value.type "object")] [(@Value.ref 131), (@Value.type "object")] 130 (Str.ofString "Holder") Bool.true [] [] Bool.false none Bool.false)) (@List.toArray (@Option Value) [none, none, (some (@Value.str (Str.ofString "Holder") 334)), (some (@Value.str (Str.ofString "Holder") 342)), (some (@Value.builtin "object.__new__")), (some (@Value.bool Bool.true))]))
noncomputable abbrev o8x132 (P : Params) : Obj := (@Obj.mk (@Value.type "getset_descriptor") none (@Data.fields (@List.toArray Value [(@Value.str (Str.ofString "__dict__") 359), (@Value.ref 131), (@Value.builtin "function.__dict__"), (@Value.builtin "function.__dict__#set")])) (@List.toArray (@Option Value) []))
noncomputable abbrev o8x133 (P : Params) : Obj := (@Obj.mk (@Value.type "getset_descriptor") none (@Data.fields (@List.toArray Value [(@Value.str (Str.ofString "__weakref__") 361), (@Value.ref 131), (@Value.builtin "ExceptionGroup.__weakref__"), Value.none])) (@List.toArray (@Option Value) []))
noncomputable abbrev o8x134 (P : Params) : Obj := (@Obj.mk (@Value.type "super") none (@Data.fields (@List.toArray Value [(@Value.ref 131), (@Value.ref 131), (@Value.ref 131)])) (@List.toArray (@Option Value) []))
noncomputable abbrev o8x135 (P : Params) : Obj := (@Obj.mk (@Value.type "builtin_function_or_method") none (@Data.fields (@List.toArray Value [(@Value.builtin "object.__init_subclass__"), (@Value.ref 131)])) (@List.toArray (@Option Value) []))
noncomputable abbrev o8x136 (P : Params) : Obj := (@Obj.mk (@Value.type "tuple") none (@Data.seq (@List.toArray Value []) 0) (@List.toArray (@Option Value) []))
noncomputable abbrev o8x137 (P : Params) : Obj := (@Obj.mk Value.none none (@Data.fields (@List.toArray Value [])) (@List.toArray (@Option Value) []))
noncomputable abbrev o8x138 (P : Params) : Obj := (@Obj.mk (@Value.type "tuple") none (@Data.seq (@List.toArray Value [(@Value.str (Str.ofString "value") 369)]) 0) (@List.toArray (@Option Value) []))
noncomputable abbrev o8x139 (P : Params) : Obj := (@Obj.mk (@Value.type "tuple") none (@Data.seq (@List.toArray Value []) 0) (@List.toArray (@Option Value) []))
noncomputable abbrev o8x140 (P : Params) : Obj := (@Obj.mk Value.none none (@Data.func (@FuncData.mk (Str.ofString "is_fail") (Str.ofString "is_fail") (fnA (stAt 7)) (FuncBody.stmts (fnB (stAt 7))) (fnS (stAt 7)) 0 [] Value.none Value.none Value.none Value.none none Value.none Value.none 0)) (@List.toArray (@Option Value) []))
noncomputable abbrev o8x141 (P : Params) : Obj := (@Obj.mk (@Value.type "code") none (@Data.fields (@List.toArray Value [(@Value.str (Str.ofString "is_fail") 366), (@Value.str (Str.ofString "is_fail") 367), (@Value.str (Str.ofString "/claim/cut.py") 368), (@Value.int (@OfNat.ofNat Int (nat_lit 30) (@instOfNat (nat_lit 30))) 0), (@Value.int (@OfNat.ofNat Int (nat_lit 1) (@instOfNat (nat_lit 1))) 0), (@Value.int (@OfNat.ofNat Int (nat_lit 0) (@instOfNat (nat_lit 0))) 0), (@Value.int (@OfNat.ofNat Int (nat_lit 0) (@instOfNat (nat_lit 0))) 0), (@Value.int (@OfNat.ofNat Int (nat_lit 3) (@instOfNat (nat_lit 3))) 0), (@Value.ref 136), (@Value.bool Bool.true), (@Value.int (@OfNat.ofNat Int (nat_lit 181) (@instOfNat (nat_lit 181))) 0), (@Value.ref 137), Value.none, (@Value.ref 138), (@Value.ref 139), (@Value.ref 140), (@Value.int (@OfNat.ofNat Int (nat_lit 370) (@instOfNat (nat_lit 370))) 0), (@Value.int (@OfNat.ofNat Int (nat_lit 30) (@instOfNat (nat_lit 30))) 0), (@Value.str (Str.ofString "/claim/cut.py") 371)])) (@List.toArray (@Option Value) []))
noncomputable abbrev o8x142 (P : Params) : Obj := (@Obj.mk (@Value.type "function") none (@Data.func (@FuncData.mk (Str.ofString "is_fail") (Str.ofString "is_fail") (fnA (stAt 7)) (FuncBody.stmts (fnB (stAt 7))) (fnS (stAt 7)) 3 [] Value.none Value.none Value.none (@Value.str (Str.ofString "snobol.values") 187) none (@Value.ref 141) Value.none 0)) (@List.toArray (@Option Value) []))
noncomputable abbrev o8x143 (P : Params) : Obj := (@Obj.mk (@Value.type "tuple") none (@Data.seq (@List.toArray Value []) 0) (@List.toArray (@Option Value) []))
noncomputable abbrev o8x144 (P : Params) : Obj := (@Obj.mk Value.none none (@Data.fields (@List.toArray Value [])) (@List.toArray (@Option Value) []))
noncomputable abbrev o8x145 (P : Params) : Obj := (@Obj.mk (@Value.type "tuple") none (@Data.seq (@List.toArray Value [(@Value.str (Str.ofString "value") 376)]) 0) (@List.toArray (@Option Value) []))
noncomputable abbrev o8x146 (P : Params) : Obj := (@Obj.mk (@Value.type "tuple") none (@Data.seq (@List.toArray Value []) 0) (@List.toArray (@Option Value) []))
noncomputable abbrev o8x147 (P : Params) : Obj := (@Obj.mk Value.none none (@Data.func (@FuncData.mk (Str.ofString "is_null") (Str.ofString "is_null") (fnA (stAt 8)) (FuncBody.stmts (fnB (stAt 8))) (fnS (stAt 8)) 0 [] Value.none Value.none Value.none Value.none none Value.none Value.none 0)) (@List.toArray (@Option Value) []))
noncomputable abbrev o8x148 (P : Params) : Obj := (@Obj.mk (@Value.type "code") none (@Data.fields (@List.toArray Value [(@Value.str (Str.ofString "is_null") 373), (@Value.str (Str.ofString "is_null") 374), (@Value.str (Str.ofString "/claim/cut.py") 375), (@Value.int (@OfNat.ofNat Int (nat_lit 32) (@instOfNat (nat_lit 32))) 0), (@Value.int (@OfNat.ofNat Int (nat_lit 1) (@instOfNat (nat_lit 1))) 0), (@Value.int (@OfNat.ofNat Int (nat_lit 0) (@instOfNat (nat_lit 0))) 0), (@Value.int (@OfNat.ofNat Int (nat_lit 0) (@instOfNat (nat_lit 0))) 0), (@Value.int (@OfNat.ofNat Int (nat_lit 3) (@instOfNat (nat_lit 3))) 0), (@Value.ref 143), (@Value.bool Bool.true), (@Value.int (@OfNat.ofNat Int (nat_lit 181) (@instOfNat (nat_lit 181))) 0), (@Value.ref 144), Value.none, (@Value.ref 145), (@Value.ref 146), (@Value.ref 147), (@Value.int (@OfNat.ofNat Int (nat_lit 377) (@instOfNat (nat_lit 377))) 0), (@Value.int (@OfNat.ofNat Int (nat_lit 32) (@instOfNat (nat_lit 32))) 0), (@Value.str (Str.ofString "/claim/cut.py") 378)])) (@List.toArray (@Option Value) []))
noncomputable abbrev o8x149 (P : Params) : Obj := (@Obj.mk (@Value.type "function") none (@Data.func (@FuncData.mk (Str.ofString "is_null") (Str.ofString "is_null") (fnA (stAt 8)) (FuncBody.stmts (fnB (stAt 8))) (fnS (stAt 8)) 3 [] Value.none Value.none Value.none (@Value.str (Str.ofString "snobol.values") 187) none (@Value.ref 148) Value.none 0)) (@List.toArray (@Option Value) []))
noncomputable abbrev o8x150 (P : Params) : Obj := (@Obj.mk (@Value.type "tuple") none (@Data.seq (@List.toArray Value []) 0) (@List.toArray (@Option Value) []))
noncomputable abbrev o8x151 (P : Params) : Obj := (@Obj.mk Value.none none (@Data.fields (@List.toArray Value [])) (@List.toArray (@Option Value) []))
noncomputable abbrev o8x152 (P : Params) : Obj := (@Obj.mk (@Value.type "tuple") none (@Data.seq (@List.toArray Value [(@Value.str (Str.ofString "value") 383)]) 0) (@List.toArray (@Option Value) []))
noncomputable abbrev o8x153 (P : Params) : Obj := (@Obj.mk (@Value.type "tuple") none (@Data.seq (@List.toArray Value []) 0) (@List.toArray (@Option Value) []))
noncomputable abbrev o8x154 (P : Params) : Obj := (@Obj.mk Value.none none (@Data.func (@FuncData.mk (Str.ofString "is_plain") (Str.ofString "is_plain") (fnA (stAt 9)) (FuncBody.stmts (fnB (stAt 9))) (fnS (stAt 9)) 0 [] Value.none Value.none Value.none Value.none none Value.none Value.none 0)) (@List.toArray (@Option Value) []))
noncomputable abbrev o8x155 (P : Params) : Obj := (@Obj.mk (@Value.type "code") none (@Data.fields (@List.toArray Value [(@Value.str (Str.ofString "is_plain") 380), (@Value.str (Str.ofString "is_plain") 381), (@Value.str (Str.ofString "/claim/cut.py") 382), (@Value.int (@OfNat.ofNat Int (nat_lit 34) (@instOfNat (nat_lit 34))) 0), (@Value.int (@OfNat.ofNat Int (nat_lit 1) (@instOfNat (nat_lit 1))) 0), (@Value.int (@OfNat.ofNat Int (nat_lit 0) (@instOfNat (nat_lit 0))) 0), (@Value.int (@OfNat.ofNat Int (nat_lit 0) (@instOfNat (nat_lit 0))) 0), (@Value.int (@OfNat.ofNat Int (nat_lit 3) (@instOfNat (nat_lit 3))) 0), (@Value.ref 150), (@Value.bool Bool.true), (@Value.int (@OfNat.ofNat Int (nat_lit 181) (@instOfNat (nat_lit 181))) 0), (@Value.ref 151), Value.none, (@Value.ref 152), (@Value.ref 153), (@Value.ref 154), (@Value.int (@OfNat.ofNat Int (nat_lit 384) (@instOfNat (nat_lit 384))) 0), (@Value.int (@OfNat.ofNat Int (nat_lit 34) (@instOfNat (nat_lit 34))) 0), (@Value.str (Str.ofString "/claim/cut.py") 385)])) (@List.toArray (@Option Value) []))
noncomputable abbrev o8x156 (P : Params) : Obj := (@Obj.mk (@Value.type "function") none (@Data.func (@FuncData.mk (Str.ofString "is_plain") (Str.ofString "is_plain") (fnA (stAt 9)) (FuncBody.stmts (fnB (stAt 9))) (fnS (stAt 9)) 3 [] Value.none Value.none Value.none (@Value.str (Str.ofString "snobol.values") 187) none (@Value.ref 155) Value.none 0)) (@List.toArray (@Option Value) []))
noncomputable abbrev o8x157 (P : Params) : Obj := (@Obj.mk (@Value.type "tuple") none (@Data.seq (@List.toArray Value []) 0) (@List.toArray (@Option Value) []))
noncomputable abbrev o8x158 (P : Params) : Obj := (@Obj.mk Value.none none (@Data.fields (@List.toArray Value [])) (@List.toArray (@Option Value) []))
noncomputable abbrev o8x159 (P : Params) : Obj := (@Obj.mk (@Value.type "tuple") none (@Data.seq (@List.toArray Value [(@Value.str (Str.ofString "number") 390), (@Value.str (Str.ofString "width") 391)]) 0) (@List.toArray (@Option Value) []))
noncomputable abbrev o8x160 (P : Params) : Obj := (@Obj.mk (@Value.type "tuple") none (@Data.seq (@List.toArray Value []) 0) (@List.toArray (@Option Value) []))
noncomputable abbrev o8x161 (P : Params) : Obj := (@Obj.mk Value.none none (@Data.func (@FuncData.mk (Str.ofString "fits") (Str.ofString "fits") (fnA (stAt 10)) (FuncBody.stmts (fnB (stAt 10))) (fnS (stAt 10)) 0 [] Value.none Value.none Value.none Value.none none Value.none Value.none 0)) (@List.toArray (@Option Value) []))
noncomputable abbrev o8x162 (P : Params) : Obj := (@Obj.mk (@Value.type "code") none (@Data.fields (@List.toArray Value [(@Value.str (Str.ofString "fits") 387), (@Value.str (Str.ofString "fits") 388), (@Value.str (Str.ofString "/claim/cut.py") 389), (@Value.int (@OfNat.ofNat Int (nat_lit 36) (@instOfNat (nat_lit 36))) 0), (@Value.int (@OfNat.ofNat Int (nat_lit 2) (@instOfNat (nat_lit 2))) 0), (@Value.int (@OfNat.ofNat Int (nat_lit 0) (@instOfNat (nat_lit 0))) 0), (@Value.int (@OfNat.ofNat Int (nat_lit 0) (@instOfNat (nat_lit 0))) 0), (@Value.int (@OfNat.ofNat Int (nat_lit 3) (@instOfNat (nat_lit 3))) 0), (@Value.ref 157), (@Value.bool Bool.true), (@Value.int (@OfNat.ofNat Int (nat_lit 181) (@instOfNat (nat_lit 181))) 0), (@Value.ref 158), Value.none, (@Value.ref 159), (@Value.ref 160), (@Value.ref 161), (@Value.int (@OfNat.ofNat Int (nat_lit 392) (@instOfNat (nat_lit 392))) 0), (@Value.int (@OfNat.ofNat Int (nat_lit 36) (@instOfNat (nat_lit 36))) 0), (@Value.str (Str.ofString "/claim/cut.py") 393)])) (@List.toArray (@Option Value) []))
noncomputable abbrev o8x163 (P : Params) : Obj := (@Obj.mk (@Value.type "function") none (@Data.func (@FuncData.mk (Str.ofString "fits") (Str.ofString "fits") (fnA (stAt 10)) (FuncBody.stmts (fnB (stAt 10))) (fnS (stAt 10)) 3 [] Value.none Value.none Value.none (@Value.str (Str.ofString "snobol.values") 187) none (@Value.ref 162) Value.none 0)) (@List.toArray (@Option Value) []))
noncomputable abbrev o8x164 (P : Params) : Obj := (@Obj.mk (@Value.type "tuple") none (@Data.seq (@List.toArray Value []) 0) (@List.toArray (@Option Value) []))
noncomputable abbrev o8x165 (P : Params) : Obj := (@Obj.mk Value.none none (@Data.fields (@List.toArray Value [])) (@List.toArray (@Option Value) []))
noncomputable abbrev o8x166 (P : Params) : Obj := (@Obj.mk (@Value.type "tuple") none (@Data.seq (@List.toArray Value [(@Value.str (Str.ofString "text") 398), (@Value.str (Str.ofString "width") 399), (@Value.str (Str.ofString "digits") 400), (@Value.str (Str.ofString "number") 401), (@Value.str (Str.ofString "sign") 402)]) 0) (@List.toArray (@Option Value) []))
noncomputable abbrev o8x167 (P : Params) : Obj := (@Obj.mk (@Value.type "tuple") none (@Data.seq (@List.toArray Value []) 0) (@List.toArray (@Option Value) []))
noncomputable abbrev o8x168 (P : Params) : Obj := (@Obj.mk Value.none none (@Data.func (@FuncData.mk (Str.ofString "whole_of_text") (Str.ofString "whole_of_text") (fnA (stAt 11)) (FuncBody.stmts (fnB (stAt 11))) (fnS (stAt 11)) 0 [] Value.none Value.none Value.none Value.none none Value.none Value.none 0)) (@List.toArray (@Option Value) []))
noncomputable abbrev o8x169 (P : Params) : Obj := (@Obj.mk (@Value.type "code") none (@Data.fields (@List.toArray Value [(@Value.str (Str.ofString "whole_of_text") 395), (@Value.str (Str.ofString "whole_of_text") 396), (@Value.str (Str.ofString "/claim/cut.py") 397), (@Value.int (@OfNat.ofNat Int (nat_lit 38) (@instOfNat (nat_lit 38))) 0), (@Value.int (@OfNat.ofNat Int (nat_lit 2) (@instOfNat (nat_lit 2))) 0), (@Value.int (@OfNat.ofNat Int (nat_lit 0) (@instOfNat (nat_lit 0))) 0), (@Value.int (@OfNat.ofNat Int (nat_lit 0) (@instOfNat (nat_lit 0))) 0), (@Value.int (@OfNat.ofNat Int (nat_lit 3) (@instOfNat (nat_lit 3))) 0), (@Value.ref 164), (@Value.bool Bool.true), (@Value.int (@OfNat.ofNat Int (nat_lit 181) (@instOfNat (nat_lit 181))) 0), (@Value.ref 165), Value.none, (@Value.ref 166), (@Value.ref 167), (@Value.ref 168), (@Value.int (@OfNat.ofNat Int (nat_lit 403) (@instOfNat (nat_lit 403))) 0), (@Value.int (@OfNat.ofNat Int (nat_lit 38) (@instOfNat (nat_lit 38))) 0), (@Value.str (Str.ofString "/claim/cut.py") 404)])) (@List.toArray (@Option Value) []))
noncomputable abbrev o8x170 (P : Params) : Obj := (@Obj.mk (@Value.type "function") none (@Data.func (@FuncData.mk (Str.ofString "whole_of_text") (Str.ofString "whole_of_text") (fnA (stAt 11)) (FuncBody.stmts (fnB (stAt 11))) (fnS (stAt 11)) 3 [] Value.none Value.none Value.none (@Value.str (Str.ofString "snobol.values") 187) none (@Value.ref 169) Value.none 0)) (@List.toArray (@Option Value) []))
noncomputable abbrev hp5 (P : Params) : Heap := Heap.mk (Array.mk (boot_o_0 P :: boot_o_1 P :: o3x2 P :: o8x3 P :: boot_o_4 P :: boot_o_5 P :: boot_o_6 P :: boot_o_7 P :: boot_o_8 P :: boot_o_9 P :: boot_o_10 P :: o1x11 P :: o8x12 P :: o1x13 P :: o1x14 P :: o3x15 P :: o3x16 P :: o3x17 P :: o3x18 P :: o3x19 P :: o3x20 P :: o3x21 P :: o3x22 P :: o3x23 P :: o3x24 P :: o3x25 P :: o3x26 P :: o3x27 P :: o3x28 P :: o3x29 P :: o3x30 P :: o3x31 P :: o3x32 P :: o3x33 P :: o3x34 P :: o3x35 P :: o3x36 P :: o3x37 P :: o4x38 P :: o4x39 P :: o4x40 P :: o4x41 P :: o4x42 P :: o4x43 P :: o4x44 P :: o4x45 P :: o4x46 P :: o4x47 P :: o4x48 P :: o4x49 P :: o4x50 P :: o4x51 P :: o5x52 P :: o5x53 P :: o5x54 P :: o5x55 P :: o5x56 P :: o5x57 P :: o5x58 P :: o5x59 P :: o5x60 P :: o5x61 P :: o5x62 P :: o5x63 P :: o5x64 P :: o5x65 P :: o5x66 P :: o5x67 P :: o5x68 P :: o5x69 P :: o5x70 P :: o5x71 P :: o5x72 P :: o6x73 P :: o6x74 P :: o6x75 P :: o6x76 P :: o6x77 P :: o6x78 P :: o6x79 P :: o6x80 P :: o6x81 P :: o6x82 P :: o6x83 P :: o6x84 P :: o6x85 P :: o6x86 P :: o6x87 P :: o6x88 P :: o6x89 P :: o6x90 P :: o6x91 P :: o6x92 P :: o6x93 P :: o7x94 P :: o7x95 P :: o7x96 P :: o7x97 P :: o7x98 P :: o7x99 P :: o7x100 P :: o7x101 P :: o7x102 P :: o7x103 P :: o7x104 P :: o7x105 P :: o7x106 P :: o7x107 P :: o7x108 P :: o7x109 P :: o7x110 P :: o7x111 P :: o7x112 P :: o7x113 P :: o7x114 P :: o8x115 P :: o8x116 P :: o8x117 P :: o8x118 P :: o8x119 P :: o8x120 P :: o8x121 P :: o8x122 P :: o8x123 P :: o8x124 P :: o8x125 P :: o8x126 P :: o8x127 P :: o8x128 P :: o8x129 P :: o8x130 P :: o8x131 P :: o8x132 P :: o8x133 P :: o8x134 P :: o8x135 P :: o8x136 P :: o8x137 P :: o8x138 P :: o8x139 P :: o8x140 P :: o8x141 P :: o8x142 P :: o8x143 P :: o8x144 P :: o8x145 P :: o8x146 P :: o8x147 P :: o8x148 P :: o8x149 P :: o8x150 P :: o8x151 P :: o8x152 P :: o8x153 P :: o8x154 P :: o8x155 P :: o8x156 P :: o8x157 P :: o8x158 P :: o8x159 P :: o8x160 P :: o8x161 P :: o8x162 P :: o8x163 P :: o8x164 P :: o8x165 P :: o8x166 P :: o8x167 P :: o8x168 P :: o8x169 P :: o8x170 P :: [])) (@PySem.Life.mk [] [] [] 0 [] [] Bool.false (@List.toArray Nat []) [] 0 Bool.false Bool.false Bool.false (@OfNat.ofNat Int (nat_lit 0) (@instOfNat (nat_lit 0))) [(@OfNat.ofNat Int (nat_lit 2000) (@instOfNat (nat_lit 2000))), (@OfNat.ofNat Int (nat_lit 10) (@instOfNat (nat_lit 10))), (@OfNat.ofNat Int (nat_lit 10) (@instOfNat (nat_lit 10)))] Bool.false 0 Bool.true [] [] 0 Bool.false)
noncomputable abbrev shp5 (w : World) (os : OsState) : Shared := ⟨hp5 w.params, Array.mk [], (@PySem.Drawn.mk 0 0 0 0), (nat_lit 406), os⟩
noncomputable abbrev sts5 : List Stmt := (bodT.drop 6).take 6
theorem seg5 : ∀ (w : World) (os : OsState), segRun treeTable pw w (nat_lit 11) (some (@Value.ref 6)) (nat_lit 1) (nat_lit 376) (shp4 w os) (piecesOf sts5 envT cT ⟨18, 0, 23, 22⟩ B_T) = some (Flow.next, shp5 w os, cT, ⟨38, 0, 50, 50⟩) := by
  intro w os; kernel_rfl
noncomputable abbrev o9x3 (P : Params) : Obj := (@Obj.mk (@Value.type "dict") none (@Data.dict (@List.toArray PySem.DictEntry [(@DictEntry.mk (@PyData.keyHash P (Str.ofString "__name__")) (@Value.str (Str.ofString "__name__") 165) (@Value.str (Str.ofString "snobol.nodes") 447)), (@DictEntry.mk (@PyData.keyHash P (Str.ofString "__doc__")) (@Value.str (Str.ofString "__doc__") 166) Value.none), (@DictEntry.mk (@PyData.keyHash P (Str.ofString "__package__")) (@Value.str (Str.ofString "__package__") 167) Value.none), (@DictEntry.mk (@PyData.keyHash P (Str.ofString "__loader__")) (@Value.str (Str.ofString "__loader__") 168) (@Value.builtin "__main__.__loader__#opaque")), (@DictEntry.mk (@PyData.keyHash P (Str.ofString "__spec__")) (@Value.str (Str.ofString "__spec__") 169) Value.none), (@DictEntry.mk (@PyData.keyHash P (Str.ofString "__annotations__")) (@Value.str (Str.ofString "__annotations__") 170) (@Value.ref 6)), (@DictEntry.mk (@PyData.keyHash P (Str.ofString "__builtins__")) (@Value.str (Str.ofString "__builtins__") 171) (@Value.ref 4)), (@DictEntry.mk (@PyData.keyHash P (Str.ofString "__file__")) (@Value.str (Str.ofString "__file__") 173) (@Value.str (Str.ofString "/claim/cut.py") 172)), (@DictEntry.mk (@PyData.keyHash P (Str.ofString "__cached__")) (@Value.str (Str.ofString "__cached__") 174) Value.none), (@DictEntry.mk (@PyData.keyHash P (Str.ofString "SnobolError")) (@Value.str (Str.ofString "SnobolError") 222) (@Value.ref 34)), (@DictEntry.mk (@PyData.keyHash P (Str.ofString "Failure")) (@Value.str (Str.ofString "Failure") 242) (@Value.ref 47)), (@DictEntry.mk (@PyData.keyHash P (Str.ofString "Pattern")) (@Value.str (Str.ofString "Pattern") 271) (@Value.ref 68)), (@DictEntry.mk (@PyData.keyHash P (Str.ofString "Delayed")) (@Value.str (Str.ofString "Delayed") 300) (@Value.ref 89)), (@DictEntry.mk (@PyData.keyHash P (Str.ofString "NameRef")) (@Value.str (Str.ofString "NameRef") 333) (@Value.ref 110)), (@DictEntry.mk (@PyData.keyHash P (Str.ofString "Holder")) (@Value.str (Str.ofString "Holder") 365) (@Value.ref 131)), (@DictEntry.mk (@PyData.keyHash P (Str.ofString "is_fail")) (@Value.str (Str.ofString "is_fail") 372) (@Value.ref 142)), (@DictEntry.mk (@PyData.keyHash P (Str.ofString "is_null")) (@Value.str (Str.ofString "is_null") 379) (@Value.ref 149)), (@DictEntry.mk (@PyData.keyHash P (Str.ofString "is_plain")) (@Value.str (Str.ofString "is_plain") 386) (@Value.ref 156)), (@DictEntry.mk (@PyData.keyHash P (Str.ofString "fits")) (@Value.str (Str.ofString "fits") 394) (@Value.ref 163)), (@DictEntry.mk (@PyData.keyHash P (Str.ofString "whole_of_text")) (@Value.str (Str.ofString "whole_of_text") 405) (@Value.ref 170)), (@DictEntry.mk (@PyData.keyHash P (Str.ofString "text_of_whole")) (@Value.str (Str.ofString "text_of_whole") 414) (@Value.ref 177)), (@DictEntry.mk (@PyData.keyHash P (Str.ofString "to_whole")) (@Value.str (Str.ofString "to_whole") 422) (@Value.ref 184)), (@DictEntry.mk (@PyData.keyHash P (Str.ofString "to_text")) (@Value.str (Str.ofString "to_text") 429) (@Value.ref 191)), (@DictEntry.mk (@PyData.keyHash P (Str.ofString "need_whole")) (@Value.str (Str.ofString "need_whole") 438) (@Value.ref 198)), (@DictEntry.mk (@PyData.keyHash P (Str.ofString "checked_whole")) (@Value.str (Str.ofString "checked_whole") 446) (@Value.ref 205)), (@DictEntry.mk (@PyData.keyHash P (Str.ofString "NULL_NODE")) (@Value.str (Str.ofString "NULL_NODE") 451) (@Value.ref 206)), (@DictEntry.mk (@PyData.keyHash P (Str.ofString "MOST_PARTS")) (@Value.str (Str.ofString "MOST_PARTS") 453) (@Value.int (@OfNat.ofNat Int (nat_lit 600) (@instOfNat (nat_lit 600))) 452)), (@DictEntry.mk (@PyData.keyHash P (Str.ofString "MOST_DEPTH")) (@Value.str (Str.ofString "MOST_DEPTH") 455) (@Value.int (@OfNat.ofNat Int (nat_lit 100) (@instOfNat (nat_lit 100))) 454)), (@DictEntry.mk (@PyData.keyHash P (Str.ofString "MOST_SIGNS")) (@Value.str (Str.ofString "MOST_SIGNS") 457) (@Value.int (@OfNat.ofNat Int (nat_lit 20000) (@instOfNat (nat_lit 20000))) 456)), (@DictEntry.mk (@PyData.keyHash P (Str.ofString "TOO_GREAT")) (@Value.str (Str.ofString "TOO_GREAT") 459) (@Value.int (@OfNat.ofNat Int (nat_lit 23) (@instOfNat (nat_lit 23))) 458)), (@DictEntry.mk (@PyData.keyHash P (Str.ofString "is_null_node")) (@Value.str (Str.ofString "is_null_node") 466) (@Value.ref 213)), (@DictEntry.mk (@PyData.keyHash P (Str.ofString "later_node")) (@Value.str (Str.ofString "later_node") 474) (@Value.ref 220)), (@DictEntry.mk (@PyData.keyHash P (Str.ofString "now_node")) (@Value.str (Str.ofString "now_node") 482) (@Value.ref 227)), (@DictEntry.mk (@PyData.keyHash P (Str.ofString "cursor_node")) (@Value.str (Str.ofString "cursor_node") 489) (@Value.ref 234)), (@DictEntry.mk (@PyData.keyHash P (Str.ofString "joined")) (@Value.str (Str.ofString "joined") 497) (@Value.ref 241)), (@DictEntry.mk (@PyData.keyHash P (Str.ofString "either")) (@Value.str (Str.ofString "either") 505) (@Value.ref 248))]) 36) (@List.toArray (@Option Value) []))
noncomputable abbrev o9x12 (P : Params) : Obj := (@Obj.mk Value.none none (@Data.fields (@List.toArray Value ((@Value.int (@OfNat.ofNat Int (nat_lit 2) (@instOfNat (nat_lit 2))) 0) :: (@Value.int (@OfNat.ofNat Int (nat_lit 0) (@instOfNat (nat_lit 0))) 0) :: (@Value.ref 21) :: (@Value.int (@OfNat.ofNat Int (nat_lit 8) (@instOfNat (nat_lit 8))) 0) :: (@Value.int (@OfNat.ofNat Int (nat_lit 0) (@instOfNat (nat_lit 0))) 0) :: (@Value.ref 43) :: (@Value.int (@OfNat.ofNat Int (nat_lit 10) (@instOfNat (nat_lit 10))) 0) :: (@Value.int (@OfNat.ofNat Int (nat_lit 0) (@instOfNat (nat_lit 0))) 0) :: (@Value.ref 57) :: (@Value.int (@OfNat.ofNat Int (nat_lit 14) (@instOfNat (nat_lit 14))) 0) :: (@Value.int (@OfNat.ofNat Int (nat_lit 0) (@instOfNat (nat_lit 0))) 0) :: (@Value.ref 78) :: (@Value.int (@OfNat.ofNat Int (nat_lit 18) (@instOfNat (nat_lit 18))) 0) :: (@Value.int (@OfNat.ofNat Int (nat_lit 0) (@instOfNat (nat_lit 0))) 0) :: (@Value.ref 99) :: (@Value.int (@OfNat.ofNat Int (nat_lit 24) (@instOfNat (nat_lit 24))) 0) :: (@Value.int (@OfNat.ofNat Int (nat_lit 0) (@instOfNat (nat_lit 0))) 0) :: (@Value.ref 120) :: (@Value.int (@OfNat.ofNat Int (nat_lit 30) (@instOfNat (nat_lit 30))) 0) :: (@Value.int (@OfNat.ofNat Int (nat_lit 0) (@instOfNat (nat_lit 0))) 0) :: (@Value.ref 141) :: (@Value.int (@OfNat.ofNat Int (nat_lit 32) (@instOfNat (nat_lit 32))) 0) :: (@Value.int (@OfNat.ofNat Int (nat_lit 0) (@instOfNat (nat_lit 0))) 0) :: (@Value.ref 148) :: (@Value.int (@OfNat.ofNat Int (nat_lit 34) (@instOfNat (nat_lit 34))) 0) :: (@Value.int (@OfNat.ofNat Int (nat_lit 0) (@instOfNat (nat_lit 0))) 0) :: (@Value.ref 155) :: (@Value.int (@OfNat.ofNat Int (nat_lit 36) (@instOfNat (nat_lit 36))) 0) :: (@Value.int (@OfNat.ofNat Int (nat_lit 0) (@instOfNat (nat_lit 0))) 0) :: (@Value.ref 162) :: (@Value.int (@OfNat.ofNat Int (nat_lit 38) (@instOfNat (nat_lit 38))) 0) :: (@Value.int (@OfNat.ofNat Int (nat_lit 0) (@instOfNat (nat_lit 0))) 0) :: (@Value.ref 169) :: (@Value.int (@OfNat.ofNat Int (nat_lit 51) (@instOfNat (nat_lit 51))) 0) :: (@Value.int (@OfNat.ofNat Int (nat_lit 0) (@instOfNat (nat_lit 0))) 0) :: (@Value.ref 176) :: (@Value.int (@OfNat.ofNat Int (nat_lit 57) (@instOfNat (nat_lit 57))) 0) :: (@Value.int (@OfNat.ofNat Int (nat_lit 0) (@instOfNat (nat_lit 0))) 0) :: (@Value.ref 183) :: (@Value.int (@OfNat.ofNat Int (nat_lit 61) (@instOfNat (nat_lit 61))) 0) :: (@Value.int (@OfNat.ofNat Int (nat_lit 0) (@instOfNat (nat_lit 0))) 0) :: (@Value.ref 190) :: (@Value.int (@OfNat.ofNat Int (nat_lit 65) (@instOfNat (nat_lit 65))) 0) :: (@Value.int (@OfNat.ofNat Int (nat_lit 0) (@instOfNat (nat_lit 0))) 0) :: (@Value.ref 197) :: (@Value.int (@OfNat.ofNat Int (nat_lit 70) (@instOfNat (nat_lit 70))) 0) :: (@Value.int (@OfNat.ofNat Int (nat_lit 0) (@instOfNat (nat_lit 0))) 0) :: (@Value.ref 204) :: (@Value.int (@OfNat.ofNat Int (nat_lit 80) (@instOfNat (nat_lit 80))) 0) :: (@Value.int (@OfNat.ofNat Int (nat_lit 0) (@instOfNat (nat_lit 0))) 0) :: (@Value.ref 212) :: (@Value.int (@OfNat.ofNat Int (nat_lit 82) (@instOfNat (nat_lit 82))) 0) :: (@Value.int (@OfNat.ofNat Int (nat_lit 0) (@instOfNat (nat_lit 0))) 0) :: (@Value.ref 219) :: (@Value.int (@OfNat.ofNat Int (nat_lit 84) (@instOfNat (nat_lit 84))) 0) :: (@Value.int (@OfNat.ofNat Int (nat_lit 0) (@instOfNat (nat_lit 0))) 0) :: (@Value.ref 226) :: (@Value.int (@OfNat.ofNat Int (nat_lit 86) (@instOfNat (nat_lit 86))) 0) :: (@Value.int (@OfNat.ofNat Int (nat_lit 0) (@instOfNat (nat_lit 0))) 0) :: (@Value.ref 233) :: (@Value.int (@OfNat.ofNat Int (nat_lit 88) (@instOfNat (nat_lit 88))) 0) :: (@Value.int (@OfNat.ofNat Int (nat_lit 0) (@instOfNat (nat_lit 0))) 0) :: (@Value.ref 240) :: (@Value.int (@OfNat.ofNat Int (nat_lit 96) (@instOfNat (nat_lit 96))) 0) :: (@Value.int (@OfNat.ofNat Int (nat_lit 0) (@instOfNat (nat_lit 0))) 0) :: (@Value.ref 247) :: []))) (@List.toArray (@Option Value) []))
noncomputable abbrev o9x171 (P : Params) : Obj := (@Obj.mk (@Value.type "tuple") none (@Data.seq (@List.toArray Value []) 0) (@List.toArray (@Option Value) []))
noncomputable abbrev o9x172 (P : Params) : Obj := (@Obj.mk Value.none none (@Data.fields (@List.toArray Value [])) (@List.toArray (@Option Value) []))
noncomputable abbrev o9x173 (P : Params) : Obj := (@Obj.mk (@Value.type "tuple") none (@Data.seq (@List.toArray Value [(@Value.str (Str.ofString "number") 409), (@Value.str (Str.ofString "left") 410), (@Value.str (Str.ofString "found") 411)]) 0) (@List.toArray (@Option Value) []))
noncomputable abbrev o9x174 (P : Params) : Obj := (@Obj.mk (@Value.type "tuple") none (@Data.seq (@List.toArray Value []) 0) (@List.toArray (@Option Value) []))
noncomputable abbrev o9x175 (P : Params) : Obj := (@Obj.mk Value.none none (@Data.func (@FuncData.mk (Str.ofString "text_of_whole") (Str.ofString "text_of_whole") (fnA (stAt 12)) (FuncBody.stmts (fnB (stAt 12))) (fnS (stAt 12)) 0 [] Value.none Value.none Value.none Value.none none Value.none Value.none 0)) (@List.toArray (@Option Value) []))
noncomputable abbrev o9x176 (P : Params) : Obj := (@Obj.mk (@Value.type "code") none (@Data.fields (@List.toArray Value [(@Value.str (Str.ofString "text_of_whole") 406), (@Value.str (Str.ofString "text_of_whole") 407), (@Value.str (Str.ofString "/claim/cut.py") 408), (@Value.int (@OfNat.ofNat Int (nat_lit 51) (@instOfNat (nat_lit 51))) 0), (@Value.int (@OfNat.ofNat Int (nat_lit 1) (@instOfNat (nat_lit 1))) 0), (@Value.int (@OfNat.ofNat Int (nat_lit 0) (@instOfNat (nat_lit 0))) 0), (@Value.int (@OfNat.ofNat Int (nat_lit 0) (@instOfNat (nat_lit 0))) 0), (@Value.int (@OfNat.ofNat Int (nat_lit 3) (@instOfNat (nat_lit 3))) 0), (@Value.ref 171), (@Value.bool Bool.true), (@Value.int (@OfNat.ofNat Int (nat_lit 181) (@instOfNat (nat_lit 181))) 0), (@Value.ref 172), Value.none, (@Value.ref 173), (@Value.ref 174), (@Value.ref 175), (@Value.int (@OfNat.ofNat Int (nat_lit 412) (@instOfNat (nat_lit 412))) 0), (@Value.int (@OfNat.ofNat Int (nat_lit 51) (@instOfNat (nat_lit 51))) 0), (@Value.str (Str.ofString "/claim/cut.py") 413)])) (@List.toArray (@Option Value) []))
noncomputable abbrev o9x177 (P : Params) : Obj := (@Obj.mk (@Value.type "function") none (@Data.func (@FuncData.mk (Str.ofString "text_of_whole") (Str.ofString "text_of_whole") (fnA (stAt 12)) (FuncBody.stmts (fnB (stAt 12))) (fnS (stAt 12)) 3 [] Value.none Value.none Value.none (@Value.str (Str.ofString "snobol.values") 187) none (@Value.ref 176) Value.none 0)) (@List.toArray (@Option Value) []))
noncomputable abbrev o9x178 (P : Params) : Obj := (@Obj.mk (@Value.type "tuple") none (@Data.seq (@List.toArray Value []) 0) (@List.toArray (@Option Value) []))
noncomputable abbrev o9x179 (P : Params) : Obj := (@Obj.mk Value.none none (@Data.fields (@List.toArray Value [])) (@List.toArray (@Option Value) []))
noncomputable abbrev o9x180 (P : Params) : Obj := (@Obj.mk (@Value.type "tuple") none (@Data.seq (@List.toArray Value [(@Value.str (Str.ofString "value") 418), (@Value.str (Str.ofString "width") 419)]) 0) (@List.toArray (@Option Value) []))
noncomputable abbrev o9x181 (P : Params) : Obj := (@Obj.mk (@Value.type "tuple") none (@Data.seq (@List.toArray Value []) 0) (@List.toArray (@Option Value) []))
noncomputable abbrev o9x182 (P : Params) : Obj := (@Obj.mk Value.none none (@Data.func (@FuncData.mk (Str.ofString "to_whole") (Str.ofString "to_whole") (fnA (stAt 13)) (FuncBody.stmts (fnB (stAt 13))) (fnS (stAt 13)) 0 [] Value.none Value.none Value.none Value.none none Value.none Value.none 0)) (@List.toArray (@Option Value) []))
noncomputable abbrev o9x183 (P : Params) : Obj := (@Obj.mk (@Value.type "code") none (@Data.fields (@List.toArray Value [(@Value.str (Str.ofString "to_whole") 415), (@Value.str (Str.ofString "to_whole") 416), (@Value.str (Str.ofString "/claim/cut.py") 417), (@Value.int (@OfNat.ofNat Int (nat_lit 57) (@instOfNat (nat_lit 57))) 0), (@Value.int (@OfNat.ofNat Int (nat_lit 2) (@instOfNat (nat_lit 2))) 0), (@Value.int (@OfNat.ofNat Int (nat_lit 0) (@instOfNat (nat_lit 0))) 0), (@Value.int (@OfNat.ofNat Int (nat_lit 0) (@instOfNat (nat_lit 0))) 0), (@Value.int (@OfNat.ofNat Int (nat_lit 3) (@instOfNat (nat_lit 3))) 0), (@Value.ref 178), (@Value.bool Bool.true), (@Value.int (@OfNat.ofNat Int (nat_lit 181) (@instOfNat (nat_lit 181))) 0), (@Value.ref 179), Value.none, (@Value.ref 180), (@Value.ref 181), (@Value.ref 182), (@Value.int (@OfNat.ofNat Int (nat_lit 420) (@instOfNat (nat_lit 420))) 0), (@Value.int (@OfNat.ofNat Int (nat_lit 57) (@instOfNat (nat_lit 57))) 0), (@Value.str (Str.ofString "/claim/cut.py") 421)])) (@List.toArray (@Option Value) []))
noncomputable abbrev o9x184 (P : Params) : Obj := (@Obj.mk (@Value.type "function") none (@Data.func (@FuncData.mk (Str.ofString "to_whole") (Str.ofString "to_whole") (fnA (stAt 13)) (FuncBody.stmts (fnB (stAt 13))) (fnS (stAt 13)) 3 [] Value.none Value.none Value.none (@Value.str (Str.ofString "snobol.values") 187) none (@Value.ref 183) Value.none 0)) (@List.toArray (@Option Value) []))
noncomputable abbrev o9x185 (P : Params) : Obj := (@Obj.mk (@Value.type "tuple") none (@Data.seq (@List.toArray Value []) 0) (@List.toArray (@Option Value) []))
noncomputable abbrev o9x186 (P : Params) : Obj := (@Obj.mk Value.none none (@Data.fields (@List.toArray Value [])) (@List.toArray (@Option Value) []))
noncomputable abbrev o9x187 (P : Params) : Obj := (@Obj.mk (@Value.type "tuple") none (@Data.seq (@List.toArray Value [(@Value.str (Str.ofString "value") 426)]) 0) (@List.toArray (@Option Value) []))
noncomputable abbrev o9x188 (P : Params) : Obj := (@Obj.mk (@Value.type "tuple") none (@Data.seq (@List.toArray Value []) 0) (@List.toArray (@Option Value) []))
noncomputable abbrev o9x189 (P : Params) : Obj := (@Obj.mk Value.none none (@Data.func (@FuncData.mk (Str.ofString "to_text") (Str.ofString "to_text") (fnA (stAt 14)) (FuncBody.stmts (fnB (stAt 14))) (fnS (stAt 14)) 0 [] Value.none Value.none Value.none Value.none none Value.none Value.none 0)) (@List.toArray (@Option Value) []))
noncomputable abbrev o9x190 (P : Params) : Obj := (@Obj.mk (@Value.type "code") none (@Data.fields (@List.toArray Value [(@Value.str (Str.ofString "to_text") 423), (@Value.str (Str.ofString "to_text") 424), (@Value.str (Str.ofString "/claim/cut.py") 425), (@Value.int (@OfNat.ofNat Int (nat_lit 61) (@instOfNat (nat_lit 61))) 0), (@Value.int (@OfNat.ofNat Int (nat_lit 1) (@instOfNat (nat_lit 1))) 0), (@Value.int (@OfNat.ofNat Int (nat_lit 0) (@instOfNat (nat_lit 0))) 0), (@Value.int (@OfNat.ofNat Int (nat_lit 0) (@instOfNat (nat_lit 0))) 0), (@Value.int (@OfNat.ofNat Int (nat_lit 3) (@instOfNat (nat_lit 3))) 0), (@Value.ref 185), (@Value.bool Bool.true), (@Value.int (@OfNat.ofNat Int (nat_lit 181) (@instOfNat (nat_lit 181))) 0), (@Value.ref 186), Value.none, (@Value.ref 187), (@Value.ref 188), (@Value.ref 189), (@Value.int (@OfNat.ofNat Int (nat_lit 427) (@instOfNat (nat_lit 427))) 0), (@Value.int (@OfNat.ofNat Int (nat_lit 61) (@instOfNat (nat_lit 61))) 0), (@Value.str (Str.ofString "/claim/cut.py") 428)])) (@List.toArray (@Option Value) []))
noncomputable abbrev o9x191 (P : Params) : Obj := (@Obj.mk (@Value.type "function") none (@Data.func (@FuncData.mk (Str.ofString "to_text") (Str.ofString "to_text") (fnA (stAt 14)) (FuncBody.stmts (fnB (stAt 14))) (fnS (stAt 14)) 3 [] Value.none Value.none Value.none (@Value.str (Str.ofString "snobol.values") 187) none (@Value.ref 190) Value.none 0)) (@List.toArray (@Option Value) []))
noncomputable abbrev o9x192 (P : Params) : Obj := (@Obj.mk (@Value.type "tuple") none (@Data.seq (@List.toArray Value []) 0) (@List.toArray (@Option Value) []))
noncomputable abbrev o9x193 (P : Params) : Obj := (@Obj.mk Value.none none (@Data.fields (@List.toArray Value [])) (@List.toArray (@Option Value) []))
noncomputable abbrev o9x194 (P : Params) : Obj := (@Obj.mk (@Value.type "tuple") none (@Data.seq (@List.toArray Value [(@Value.str (Str.ofString "value") 433), (@Value.str (Str.ofString "width") 434), (@Value.str (Str.ofString "number") 435)]) 0) (@List.toArray (@Option Value) []))
noncomputable abbrev o9x195 (P : Params) : Obj := (@Obj.mk (@Value.type "tuple") none (@Data.seq (@List.toArray Value []) 0) (@List.toArray (@Option Value) []))
noncomputable abbrev o9x196 (P : Params) : Obj := (@Obj.mk Value.none none (@Data.func (@FuncData.mk (Str.ofString "need_whole") (Str.ofString "need_whole") (fnA (stAt 15)) (FuncBody.stmts (fnB (stAt 15))) (fnS (stAt 15)) 0 [] Value.none Value.none Value.none Value.none none Value.none Value.none 0)) (@List.toArray (@Option Value) []))
noncomputable abbrev o9x197 (P : Params) : Obj := (@Obj.mk (@Value.type "code") none (@Data.fields (@List.toArray Value [(@Value.str (Str.ofString "need_whole") 430), (@Value.str (Str.ofString "need_whole") 431), (@Value.str (Str.ofString "/claim/cut.py") 432), (@Value.int (@OfNat.ofNat Int (nat_lit 65) (@instOfNat (nat_lit 65))) 0), (@Value.int (@OfNat.ofNat Int (nat_lit 2) (@instOfNat (nat_lit 2))) 0), (@Value.int (@OfNat.ofNat Int (nat_lit 0) (@instOfNat (nat_lit 0))) 0), (@Value.int (@OfNat.ofNat Int (nat_lit 0) (@instOfNat (nat_lit 0))) 0), (@Value.int (@OfNat.ofNat Int (nat_lit 3) (@instOfNat (nat_lit 3))) 0), (@Value.ref 192), (@Value.bool Bool.true), (@Value.int (@OfNat.ofNat Int (nat_lit 181) (@instOfNat (nat_lit 181))) 0), (@Value.ref 193), Value.none, (@Value.ref 194), (@Value.ref 195), (@Value.ref 196), (@Value.int (@OfNat.ofNat Int (nat_lit 436) (@instOfNat (nat_lit 436))) 0), (@Value.int (@OfNat.ofNat Int (nat_lit 65) (@instOfNat (nat_lit 65))) 0), (@Value.str (Str.ofString "/claim/cut.py") 437)])) (@List.toArray (@Option Value) []))
noncomputable abbrev o9x198 (P : Params) : Obj := (@Obj.mk (@Value.type "function") none (@Data.func (@FuncData.mk (Str.ofString "need_whole") (Str.ofString "need_whole") (fnA (stAt 15)) (FuncBody.stmts (fnB (stAt 15))) (fnS (stAt 15)) 3 [] Value.none Value.none Value.none (@Value.str (Str.ofString "snobol.values") 187) none (@Value.ref 197) Value.none 0)) (@List.toArray (@Option Value) []))
noncomputable abbrev o9x199 (P : Params) : Obj := (@Obj.mk (@Value.type "tuple") none (@Data.seq (@List.toArray Value []) 0) (@List.toArray (@Option Value) []))
noncomputable abbrev o9x200 (P : Params) : Obj := (@Obj.mk Value.none none (@Data.fields (@List.toArray Value [])) (@List.toArray (@Option Value) []))
noncomputable abbrev o9x201 (P : Params) : Obj := (@Obj.mk (@Value.type "tuple") none (@Data.seq (@List.toArray Value [(@Value.str (Str.ofString "number") 442), (@Value.str (Str.ofString "width") 443)]) 0) (@List.toArray (@Option Value) []))
noncomputable abbrev o9x202 (P : Params) : Obj := (@Obj.mk (@Value.type "tuple") none (@Data.seq (@List.toArray Value []) 0) (@List.toArray (@Option Value) []))
noncomputable abbrev o9x203 (P : Params) : Obj := (@Obj.mk Value.none none (@Data.func (@FuncData.mk (Str.ofString "checked_whole") (Str.ofString "checked_whole") (fnA (stAt 16)) (FuncBody.stmts (fnB (stAt 16))) (fnS (stAt 16)) 0 [] Value.none Value.none Value.none Value.none none Value.none Value.none 0)) (@List.toArray (@Option Value) []))
noncomputable abbrev o9x204 (P : Params) : Obj := (@Obj.mk (@Value.type "code") none (@Data.fields (@List.toArray Value [(@Value.str (Str.ofString "checked_whole") 439), (@Value.str (Str.ofString "checked_whole") 440), (@Value.str (Str.ofString "/claim/cut.py") 441), (@Value.int (@OfNat.ofNat Int (nat_lit 70) (@instOfNat (nat_lit 70))) 0), (@Value.int (@OfNat.ofNat Int (nat_lit 2) (@instOfNat (nat_lit 2))) 0), (@Value.int (@OfNat.ofNat Int (nat_lit 0) (@instOfNat (nat_lit 0))) 0), (@Value.int (@OfNat.ofNat Int (nat_lit 0) (@instOfNat (nat_lit 0))) 0), (@Value.int (@OfNat.ofNat Int (nat_lit 3) (@instOfNat (nat_lit 3))) 0), (@Value.ref 199), (@Value.bool Bool.true), (@Value.int (@OfNat.ofNat Int (nat_lit 181) (@instOfNat (nat_lit 181))) 0), (@Value.ref 200), Value.none, (@Value.ref 201), (@Value.ref 202), (@Value.ref 203), (@Value.int (@OfNat.ofNat Int (nat_lit 444) (@instOfNat (nat_lit 444))) 0), (@Value.int (@OfNat.ofNat Int (nat_lit 70) (@instOfNat (nat_lit 70))) 0), (@Value.str (Str.ofString "/claim/cut.py") 445)])) (@List.toArray (@Option Value) []))
noncomputable abbrev o9x205 (P : Params) : Obj := (@Obj.mk (@Value.type "function") none (@Data.func (@FuncData.mk (Str.ofString "checked_whole") (Str.ofString "checked_whole") (fnA (stAt 16)) (FuncBody.stmts (fnB (stAt 16))) (fnS (stAt 16)) 3 [] Value.none Value.none Value.none (@Value.str (Str.ofString "snobol.values") 187) none (@Value.ref 204) Value.none 0)) (@List.toArray (@Option Value) []))
noncomputable abbrev o9x206 (P : Params) : Obj := (@Obj.mk (@Value.type "tuple") none (@Data.seq (@List.toArray Value [(@Value.str (Str.ofString "chars") 449), (@Value.str (Str.ofString "") 450)]) 0) (@List.toArray (@Option Value) []))
noncomputable abbrev o9x207 (P : Params) : Obj := (@Obj.mk (@Value.type "tuple") none (@Data.seq (@List.toArray Value []) 0) (@List.toArray (@Option Value) []))
noncomputable abbrev o9x208 (P : Params) : Obj := (@Obj.mk Value.none none (@Data.fields (@List.toArray Value [])) (@List.toArray (@Option Value) []))
noncomputable abbrev o9x209 (P : Params) : Obj := (@Obj.mk (@Value.type "tuple") none (@Data.seq (@List.toArray Value [(@Value.str (Str.ofString "node") 463)]) 0) (@List.toArray (@Option Value) []))
noncomputable abbrev o9x210 (P : Params) : Obj := (@Obj.mk (@Value.type "tuple") none (@Data.seq (@List.toArray Value []) 0) (@List.toArray (@Option Value) []))
noncomputable abbrev o9x211 (P : Params) : Obj := (@Obj.mk Value.none none (@Data.func (@FuncData.mk (Str.ofString "is_null_node") (Str.ofString "is_null_node") (fnA (stAt 23)) (FuncBody.stmts (fnB (stAt 23))) (fnS (stAt 23)) 0 [] Value.none Value.none Value.none Value.none none Value.none Value.none 0)) (@List.toArray (@Option Value) []))
noncomputable abbrev o9x212 (P : Params) : Obj := (@Obj.mk (@Value.type "code") none (@Data.fields (@List.toArray Value [(@Value.str (Str.ofString "is_null_node") 460), (@Value.str (Str.ofString "is_null_node") 461), (@Value.str (Str.ofString "/claim/cut.py") 462), (@Value.int (@OfNat.ofNat Int (nat_lit 80) (@instOfNat (nat_lit 80))) 0), (@Value.int (@OfNat.ofNat Int (nat_lit 1) (@instOfNat (nat_lit 1))) 0), (@Value.int (@OfNat.ofNat Int (nat_lit 0) (@instOfNat (nat_lit 0))) 0), (@Value.int (@OfNat.ofNat Int (nat_lit 0) (@instOfNat (nat_lit 0))) 0), (@Value.int (@OfNat.ofNat Int (nat_lit 3) (@instOfNat (nat_lit 3))) 0), (@Value.ref 207), (@Value.bool Bool.true), (@Value.int (@OfNat.ofNat Int (nat_lit 181) (@instOfNat (nat_lit 181))) 0), (@Value.ref 208), Value.none, (@Value.ref 209), (@Value.ref 210), (@Value.ref 211), (@Value.int (@OfNat.ofNat Int (nat_lit 464) (@instOfNat (nat_lit 464))) 0), (@Value.int (@OfNat.ofNat Int (nat_lit 80) (@instOfNat (nat_lit 80))) 0), (@Value.str (Str.ofString "/claim/cut.py") 465)])) (@List.toArray (@Option Value) []))
noncomputable abbrev o9x213 (P : Params) : Obj := (@Obj.mk (@Value.type "function") none (@Data.func (@FuncData.mk (Str.ofString "is_null_node") (Str.ofString "is_null_node") (fnA (stAt 23)) (FuncBody.stmts (fnB (stAt 23))) (fnS (stAt 23)) 3 [] Value.none Value.none Value.none (@Value.str (Str.ofString "snobol.nodes") 447) none (@Value.ref 212) Value.none 0)) (@List.toArray (@Option Value) []))
noncomputable abbrev o9x214 (P : Params) : Obj := (@Obj.mk (@Value.type "tuple") none (@Data.seq (@List.toArray Value []) 0) (@List.toArray (@Option Value) []))
noncomputable abbrev o9x215 (P : Params) : Obj := (@Obj.mk Value.none none (@Data.fields (@List.toArray Value [])) (@List.toArray (@Option Value) []))
noncomputable abbrev o9x216 (P : Params) : Obj := (@Obj.mk (@Value.type "tuple") none (@Data.seq (@List.toArray Value [(@Value.str (Str.ofString "node") 470), (@Value.str (Str.ofString "ref") 471)]) 0) (@List.toArray (@Option Value) []))
noncomputable abbrev o9x217 (P : Params) : Obj := (@Obj.mk (@Value.type "tuple") none (@Data.seq (@List.toArray Value []) 0) (@List.toArray (@Option Value) []))
noncomputable abbrev o9x218 (P : Params) : Obj := (@Obj.mk Value.none none (@Data.func (@FuncData.mk (Str.ofString "later_node") (Str.ofString "later_node") (fnA (stAt 24)) (FuncBody.stmts (fnB (stAt 24))) (fnS (stAt 24)) 0 [] Value.none Value.none Value.none Value.none none Value.none Value.none 0)) (@List.toArray (@Option Value) []))
noncomputable abbrev o9x219 (P : Params) : Obj := (@Obj.mk (@Value.type "code") none (@Data.fields (@List.toArray Value [(@Value.str (Str.ofString "later_node") 467), (@Value.str (Str.ofString "later_node") 468), (@Value.str (Str.ofString "/claim/cut.py") 469), (@Value.int (@OfNat.ofNat Int (nat_lit 82) (@instOfNat (nat_lit 82))) 0), (@Value.int (@OfNat.ofNat Int (nat_lit 2) (@instOfNat (nat_lit 2))) 0), (@Value.int (@OfNat.ofNat Int (nat_lit 0) (@instOfNat (nat_lit 0))) 0), (@Value.int (@OfNat.ofNat Int (nat_lit 0) (@instOfNat (nat_lit 0))) 0), (@Value.int (@OfNat.ofNat Int (nat_lit 3) (@instOfNat (nat_lit 3))) 0), (@Value.ref 214), (@Value.bool Bool.true), (@Value.int (@OfNat.ofNat Int (nat_lit 181) (@instOfNat (nat_lit 181))) 0), (@Value.ref 215), Value.none, (@Value.ref 216), (@Value.ref 217), (@Value.ref 218), (@Value.int (@OfNat.ofNat Int (nat_lit 472) (@instOfNat (nat_lit 472))) 0), (@Value.int (@OfNat.ofNat Int (nat_lit 82) (@instOfNat (nat_lit 82))) 0), (@Value.str (Str.ofString "/claim/cut.py") 473)])) (@List.toArray (@Option Value) []))
noncomputable abbrev o9x220 (P : Params) : Obj := (@Obj.mk (@Value.type "function") none (@Data.func (@FuncData.mk (Str.ofString "later_node") (Str.ofString "later_node") (fnA (stAt 24)) (FuncBody.stmts (fnB (stAt 24))) (fnS (stAt 24)) 3 [] Value.none Value.none Value.none (@Value.str (Str.ofString "snobol.nodes") 447) none (@Value.ref 219) Value.none 0)) (@List.toArray (@Option Value) []))
noncomputable abbrev o9x221 (P : Params) : Obj := (@Obj.mk (@Value.type "tuple") none (@Data.seq (@List.toArray Value []) 0) (@List.toArray (@Option Value) []))
noncomputable abbrev o9x222 (P : Params) : Obj := (@Obj.mk Value.none none (@Data.fields (@List.toArray Value [])) (@List.toArray (@Option Value) []))
noncomputable abbrev o9x223 (P : Params) : Obj := (@Obj.mk (@Value.type "tuple") none (@Data.seq (@List.toArray Value [(@Value.str (Str.ofString "node") 478), (@Value.str (Str.ofString "ref") 479)]) 0) (@List.toArray (@Option Value) []))
noncomputable abbrev o9x224 (P : Params) : Obj := (@Obj.mk (@Value.type "tuple") none (@Data.seq (@List.toArray Value []) 0) (@List.toArray (@Option Value) []))
noncomputable abbrev o9x225 (P : Params) : Obj := (@Obj.mk Value.none none (@Data.func (@FuncData.mk (Str.ofString "now_node") (Str.ofString "now_node") (fnA (stAt 25)) (FuncBody.stmts (fnB (stAt 25))) (fnS (stAt 25)) 0 [] Value.none Value.none Value.none Value.none none Value.none Value.none 0)) (@List.toArray (@Option Value) []))
noncomputable abbrev o9x226 (P : Params) : Obj := (@Obj.mk (@Value.type "code") none (@Data.fields (@List.toArray Value [(@Value.str (Str.ofString "now_node") 475), (@Value.str (Str.ofString "now_node") 476), (@Value.str (Str.ofString "/claim/cut.py") 477), (@Value.int (@OfNat.ofNat Int (nat_lit 84) (@instOfNat (nat_lit 84))) 0), (@Value.int (@OfNat.ofNat Int (nat_lit 2) (@instOfNat (nat_lit 2))) 0), (@Value.int (@OfNat.ofNat Int (nat_lit 0) (@instOfNat (nat_lit 0))) 0), (@Value.int (@OfNat.ofNat Int (nat_lit 0) (@instOfNat (nat_lit 0))) 0), (@Value.int (@OfNat.ofNat Int (nat_lit 3) (@instOfNat (nat_lit 3))) 0), (@Value.ref 221), (@Value.bool Bool.true), (@Value.int (@OfNat.ofNat Int (nat_lit 181) (@instOfNat (nat_lit 181))) 0), (@Value.ref 222), Value.none, (@Value.ref 223), (@Value.ref 224), (@Value.ref 225), (@Value.int (@OfNat.ofNat Int (nat_lit 480) (@instOfNat (nat_lit 480))) 0), (@Value.int (@OfNat.ofNat Int (nat_lit 84) (@instOfNat (nat_lit 84))) 0), (@Value.str (Str.ofString "/claim/cut.py") 481)])) (@List.toArray (@Option Value) []))
noncomputable abbrev o9x227 (P : Params) : Obj := (@Obj.mk (@Value.type "function") none (@Data.func (@FuncData.mk (Str.ofString "now_node") (Str.ofString "now_node") (fnA (stAt 25)) (FuncBody.stmts (fnB (stAt 25))) (fnS (stAt 25)) 3 [] Value.none Value.none Value.none (@Value.str (Str.ofString "snobol.nodes") 447) none (@Value.ref 226) Value.none 0)) (@List.toArray (@Option Value) []))
noncomputable abbrev o9x228 (P : Params) : Obj := (@Obj.mk (@Value.type "tuple") none (@Data.seq (@List.toArray Value []) 0) (@List.toArray (@Option Value) []))
noncomputable abbrev o9x229 (P : Params) : Obj := (@Obj.mk Value.none none (@Data.fields (@List.toArray Value [])) (@List.toArray (@Option Value) []))
noncomputable abbrev o9x230 (P : Params) : Obj := (@Obj.mk (@Value.type "tuple") none (@Data.seq (@List.toArray Value [(@Value.str (Str.ofString "ref") 486)]) 0) (@List.toArray (@Option Value) []))
noncomputable abbrev o9x231 (P : Params) : Obj := (@Obj.mk (@Value.type "tuple") none (@Data.seq (@List.toArray Value []) 0) (@List.toArray (@Option Value) []))
noncomputable abbrev o9x232 (P : Params) : Obj := (@Obj.mk Value.none none (@Data.func (@FuncData.mk (Str.ofString "cursor_node") (Str.ofString "cursor_node") (fnA (stAt 26)) (FuncBody.stmts (fnB (stAt 26))) (fnS (stAt 26)) 0 [] Value.none Value.none Value.none Value.none none Value.none Value.none 0)) (@List.toArray (@Option Value) []))
noncomputable abbrev o9x233 (P : Params) : Obj := (@Obj.mk (@Value.type "code") none (@Data.fields (@List.toArray Value [(@Value.str (Str.ofString "cursor_node") 483), (@Value.str (Str.ofString "cursor_node") 484), (@Value.str (Str.ofString "/claim/cut.py") 485), (@Value.int (@OfNat.ofNat Int (nat_lit 86) (@instOfNat (nat_lit 86))) 0), (@Value.int (@OfNat.ofNat Int (nat_lit 1) (@instOfNat (nat_lit 1))) 0), (@Value.int (@OfNat.ofNat Int (nat_lit 0) (@instOfNat (nat_lit 0))) 0), (@Value.int (@OfNat.ofNat Int (nat_lit 0) (@instOfNat (nat_lit 0))) 0), (@Value.int (@OfNat.ofNat Int (nat_lit 3) (@instOfNat (nat_lit 3))) 0), (@Value.ref 228), (@Value.bool Bool.true), (@Value.int (@OfNat.ofNat Int (nat_lit 181) (@instOfNat (nat_lit 181))) 0), (@Value.ref 229), Value.none, (@Value.ref 230), (@Value.ref 231), (@Value.ref 232), (@Value.int (@OfNat.ofNat Int (nat_lit 487) (@instOfNat (nat_lit 487))) 0), (@Value.int (@OfNat.ofNat Int (nat_lit 86) (@instOfNat (nat_lit 86))) 0), (@Value.str (Str.ofString "/claim/cut.py") 488)])) (@List.toArray (@Option Value) []))
noncomputable abbrev o9x234 (P : Params) : Obj := (@Obj.mk (@Value.type "function") none (@Data.func (@FuncData.mk (Str.ofString "cursor_node") (Str.ofString "cursor_node") (fnA (stAt 26)) (FuncBody.stmts (fnB (stAt 26))) (fnS (stAt 26)) 3 [] Value.none Value.none Value.none (@Value.str (Str.ofString "snobol.nodes") 447) none (@Value.ref 233) Value.none 0)) (@List.toArray (@Option Value) []))
noncomputable abbrev o9x235 (P : Params) : Obj := (@Obj.mk (@Value.type "tuple") none (@Data.seq (@List.toArray Value []) 0) (@List.toArray (@Option Value) []))
noncomputable abbrev o9x236 (P : Params) : Obj := (@Obj.mk Value.none none (@Data.fields (@List.toArray Value [])) (@List.toArray (@Option Value) []))
noncomputable abbrev o9x237 (P : Params) : Obj := (@Obj.mk (@Value.type "tuple") none (@Data.seq (@List.toArray Value [(@Value.str (Str.ofString "one") 493), (@Value.str (Str.ofString "other") 494)]) 0) (@List.toArray (@Option Value) []))
noncomputable abbrev o9x238 (P : Params) : Obj := (@Obj.mk (@Value.type "tuple") none (@Data.seq (@List.toArray Value []) 0) (@List.toArray (@Option Value) []))
noncomputable abbrev o9x239 (P : Params) : Obj := (@Obj.mk Value.none none (@Data.func (@FuncData.mk (Str.ofString "joined") (Str.ofString "joined") (fnA (stAt 27)) (FuncBody.stmts (fnB (stAt 27))) (fnS (stAt 27)) 0 [] Value.none Value.none Value.none Value.none none Value.none Value.none 0)) (@List.toArray (@Option Value) []))
noncomputable abbrev o9x240 (P : Params) : Obj := (@Obj.mk (@Value.type "code") none (@Data.fields (@List.toArray Value [(@Value.str (Str.ofString "joined") 490), (@Value.str (Str.ofString "joined") 491), (@Value.str (Str.ofString "/claim/cut.py") 492), (@Value.int (@OfNat.ofNat Int (nat_lit 88) (@instOfNat (nat_lit 88))) 0), (@Value.int (@OfNat.ofNat Int (nat_lit 2) (@instOfNat (nat_lit 2))) 0), (@Value.int (@OfNat.ofNat Int (nat_lit 0) (@instOfNat (nat_lit 0))) 0), (@Value.int (@OfNat.ofNat Int (nat_lit 0) (@instOfNat (nat_lit 0))) 0), (@Value.int (@OfNat.ofNat Int (nat_lit 3) (@instOfNat (nat_lit 3))) 0), (@Value.ref 235), (@Value.bool Bool.true), (@Value.int (@OfNat.ofNat Int (nat_lit 181) (@instOfNat (nat_lit 181))) 0), (@Value.ref 236), Value.none, (@Value.ref 237), (@Value.ref 238), (@Value.ref 239), (@Value.int (@OfNat.ofNat Int (nat_lit 495) (@instOfNat (nat_lit 495))) 0), (@Value.int (@OfNat.ofNat Int (nat_lit 88) (@instOfNat (nat_lit 88))) 0), (@Value.str (Str.ofString "/claim/cut.py") 496)])) (@List.toArray (@Option Value) []))
noncomputable abbrev o9x241 (P : Params) : Obj := (@Obj.mk (@Value.type "function") none (@Data.func (@FuncData.mk (Str.ofString "joined") (Str.ofString "joined") (fnA (stAt 27)) (FuncBody.stmts (fnB (stAt 27))) (fnS (stAt 27)) 3 [] Value.none Value.none Value.none (@Value.str (Str.ofString "snobol.nodes") 447) none (@Value.ref 240) Value.none 0)) (@List.toArray (@Option Value) []))
noncomputable abbrev o9x242 (P : Params) : Obj := (@Obj.mk (@Value.type "tuple") none (@Data.seq (@List.toArray Value []) 0) (@List.toArray (@Option Value) []))
noncomputable abbrev o9x243 (P : Params) : Obj := (@Obj.mk Value.none none (@Data.fields (@List.toArray Value [])) (@List.toArray (@Option Value) []))
noncomputable abbrev o9x244 (P : Params) : Obj := (@Obj.mk (@Value.type "tuple") none (@Data.seq (@List.toArray Value [(@Value.str (Str.ofString "one") 501), (@Value.str (Str.ofString "other") 502)]) 0) (@List.toArray (@Option Value) []))
noncomputable abbrev o9x245 (P : Params) : Obj := (@Obj.mk (@Value.type "tuple") none (@Data.seq (@List.toArray Value []) 0) (@List.toArray (@Option Value) []))
noncomputable abbrev o9x246 (P : Params) : Obj := (@Obj.mk Value.none none (@Data.func (@FuncData.mk (Str.ofString "either") (Str.ofString "either") (fnA (stAt 28)) (FuncBody.stmts (fnB (stAt 28))) (fnS (stAt 28)) 0 [] Value.none Value.none Value.none Value.none none Value.none Value.none 0)) (@List.toArray (@Option Value) []))
noncomputable abbrev o9x247 (P : Params) : Obj := (@Obj.mk (@Value.type "code") none (@Data.fields (@List.toArray Value [(@Value.str (Str.ofString "either") 498), (@Value.str (Str.ofString "either") 499), (@Value.str (Str.ofString "/claim/cut.py") 500), (@Value.int (@OfNat.ofNat Int (nat_lit 96) (@instOfNat (nat_lit 96))) 0), (@Value.int (@OfNat.ofNat Int (nat_lit 2) (@instOfNat (nat_lit 2))) 0), (@Value.int (@OfNat.ofNat Int (nat_lit 0) (@instOfNat (nat_lit 0))) 0), (@Value.int (@OfNat.ofNat Int (nat_lit 0) (@instOfNat (nat_lit 0))) 0), (@Value.int (@OfNat.ofNat Int (nat_lit 3) (@instOfNat (nat_lit 3))) 0), (@Value.ref 242), (@Value.bool Bool.true), (@Value.int (@OfNat.ofNat Int (nat_lit 181) (@instOfNat (nat_lit 181))) 0), (@Value.ref 243), Value.none, (@Value.ref 244), (@Value.ref 245), (@Value.ref 246), (@Value.int (@OfNat.ofNat Int (nat_lit 503) (@instOfNat (nat_lit 503))) 0), (@Value.int (@OfNat.ofNat Int (nat_lit 96) (@instOfNat (nat_lit 96))) 0), (@Value.str (Str.ofString "/claim/cut.py") 504)])) (@List.toArray (@Option Value) []))
noncomputable abbrev o9x248 (P : Params) : Obj := (@Obj.mk (@Value.type "function") none (@Data.func (@FuncData.mk (Str.ofString "either") (Str.ofString "either") (fnA (stAt 28)) (FuncBody.stmts (fnB (stAt 28))) (fnS (stAt 28)) 3 [] Value.none Value.none Value.none (@Value.str (Str.ofString "snobol.nodes") 447) none (@Value.ref 247) Value.none 0)) (@List.toArray (@Option Value) []))
noncomputable abbrev hp6 (P : Params) : Heap := Heap.mk (Array.mk (boot_o_0 P :: boot_o_1 P :: o3x2 P :: o9x3 P :: boot_o_4 P :: boot_o_5 P :: boot_o_6 P :: boot_o_7 P :: boot_o_8 P :: boot_o_9 P :: boot_o_10 P :: o1x11 P :: o9x12 P :: o1x13 P :: o1x14 P :: o3x15 P :: o3x16 P :: o3x17 P :: o3x18 P :: o3x19 P :: o3x20 P :: o3x21 P :: o3x22 P :: o3x23 P :: o3x24 P :: o3x25 P :: o3x26 P :: o3x27 P :: o3x28 P :: o3x29 P :: o3x30 P :: o3x31 P :: o3x32 P :: o3x33 P :: o3x34 P :: o3x35 P :: o3x36 P :: o3x37 P :: o4x38 P :: o4x39 P :: o4x40 P :: o4x41 P :: o4x42 P :: o4x43 P :: o4x44 P :: o4x45 P :: o4x46 P :: o4x47 P :: o4x48 P :: o4x49 P :: o4x50 P :: o4x51 P :: o5x52 P :: o5x53 P :: o5x54 P :: o5x55 P :: o5x56 P :: o5x57 P :: o5x58 P :: o5x59 P :: o5x60 P :: o5x61 P :: o5x62 P :: o5x63 P :: o5x64 P :: o5x65 P :: o5x66 P :: o5x67 P :: o5x68 P :: o5x69 P :: o5x70 P :: o5x71 P :: o5x72 P :: o6x73 P :: o6x74 P :: o6x75 P :: o6x76 P :: o6x77 P :: o6x78 P :: o6x79 P :: o6x80 P :: o6x81 P :: o6x82 P :: o6x83 P :: o6x84 P :: o6x85 P :: o6x86 P :: o6x87 P :: o6x88 P :: o6x89 P :: o6x90 P :: o6x91 P :: o6x92 P :: o6x93 P :: o7x94 P :: o7x95 P :: o7x96 P :: o7x97 P :: o7x98 P :: o7x99 P :: o7x100 P :: o7x101 P :: o7x102 P :: o7x103 P :: o7x104 P :: o7x105 P :: o7x106 P :: o7x107 P :: o7x108 P :: o7x109 P :: o7x110 P :: o7x111 P :: o7x112 P :: o7x113 P :: o7x114 P :: o8x115 P :: o8x116 P :: o8x117 P :: o8x118 P :: o8x119 P :: o8x120 P :: o8x121 P :: o8x122 P :: o8x123 P :: o8x124 P :: o8x125 P :: o8x126 P :: o8x127 P :: o8x128 P :: o8x129 P :: o8x130 P :: o8x131 P :: o8x132 P :: o8x133 P :: o8x134 P :: o8x135 P :: o8x136 P :: o8x137 P :: o8x138 P :: o8x139 P :: o8x140 P :: o8x141 P :: o8x142 P :: o8x143 P :: o8x144 P :: o8x145 P :: o8x146 P :: o8x147 P :: o8x148 P :: o8x149 P :: o8x150 P :: o8x151 P :: o8x152 P :: o8x153 P :: o8x154 P :: o8x155 P :: o8x156 P :: o8x157 P :: o8x158 P :: o8x159 P :: o8x160 P :: o8x161 P :: o8x162 P :: o8x163 P :: o8x164 P :: o8x165 P :: o8x166 P :: o8x167 P :: o8x168 P :: o8x169 P :: o8x170 P :: o9x171 P :: o9x172 P :: o9x173 P :: o9x174 P :: o9x175 P :: o9x176 P :: o9x177 P :: o9x178 P :: o9x179 P :: o9x180 P :: o9x181 P :: o9x182 P :: o9x183 P :: o9x184 P :: o9x185 P :: o9x186 P :: o9x187 P :: o9x188 P :: o9x189 P :: o9x190 P :: o9x191 P :: o9x192 P :: o9x193 P :: o9x194 P :: o9x195 P :: o9x196 P :: o9x197 P :: o9x198 P :: o9x199 P :: o9x200 P :: o9x201 P :: o9x202 P :: o9x203 P :: o9x204 P :: o9x205 P :: o9x206 P :: o9x207 P :: o9x208 P :: o9x209 P :: o9x210 P :: o9x211 P :: o9x212 P :: o9x213 P :: o9x214 P :: o9x215 P :: o9x216 P :: o9x217 P :: o9x218 P :: o9x219 P :: o9x220 P :: o9x221 P :: o9x222 P :: o9x223 P :: o9x224 P :: o9x225 P :: o9x226 P :: o9x227 P :: o9x228 P :: o9x229 P :: o9x230 P :: o9x231 P :: o9x232 P :: o9x233 P :: o9x234 P :: o9x235 P :: o9x236 P :: o9x237 P :: o9x238 P :: o9x239 P :: o9x240 P :: o9x241 P :: o9x242 P :: o9x243 P :: o9x244 P :: o9x245 P :: o9x246 P :: o9x247 P :: o9x248 P :: [])) (@PySem.Life.mk [] [] [] 0 [] [] Bool.false (@List.toArray Nat []) [] 0 Bool.false Bool.false Bool.false (@OfNat.ofNat Int (nat_lit 0) (@instOfNat (nat_lit 0))) [(@OfNat.ofNat Int (nat_lit 2000) (@instOfNat (nat_lit 2000))), (@OfNat.ofNat Int (nat_lit 10) (@instOfNat (nat_lit 10))), (@OfNat.ofNat Int (nat_lit 10) (@instOfNat (nat_lit 10)))] Bool.false 0 Bool.true [] [] 0 Bool.false)
noncomputable abbrev shp6 (w : World) (os : OsState) : Shared := ⟨hp6 w.params, Array.mk [], (@PySem.Drawn.mk 0 0 0 0), (nat_lit 506), os⟩
noncomputable abbrev sts6 : List Stmt := (bodT.drop 12).take 17
theorem seg6 : ∀ (w : World) (os : OsState), segRun treeTable pw w (nat_lit 11) (some (@Value.ref 6)) (nat_lit 1) (nat_lit 387) (shp5 w os) (piecesOf sts6 envT cT ⟨38, 0, 50, 50⟩ B_T) = some (Flow.next, shp6 w os, cT, ⟨96, 0, 97, 30⟩) := by
  intro w os; kernel_rfl
noncomputable abbrev o10x3 (P : Params) : Obj := (@Obj.mk (@Value.type "dict") none (@Data.dict (@List.toArray PySem.DictEntry [(@DictEntry.mk (@PyData.keyHash P (Str.ofString "__name__")) (@Value.str (Str.ofString "__name__") 165) (@Value.str (Str.ofString "snobol.operators") 543)), (@DictEntry.mk (@PyData.keyHash P (Str.ofString "__doc__")) (@Value.str (Str.ofString "__doc__") 166) Value.none), (@DictEntry.mk (@PyData.keyHash P (Str.ofString "__package__")) (@Value.str (Str.ofString "__package__") 167) Value.none), (@DictEntry.mk (@PyData.keyHash P (Str.ofString "__loader__")) (@Value.str (Str.ofString "__loader__") 168) (@Value.builtin "__main__.__loader__#opaque")), (@DictEntry.mk (@PyData.keyHash P (Str.ofString "__spec__")) (@Value.str (Str.ofString "__spec__") 169) Value.none), (@DictEntry.mk (@PyData.keyHash P (Str.ofString "__annotations__")) (@Value.str (Str.ofString "__annotations__") 170) (@Value.ref 6)), (@DictEntry.mk (@PyData.keyHash P (Str.ofString "__builtins__")) (@Value.str (Str.ofString "__builtins__") 171) (@Value.ref 4)), (@DictEntry.mk (@PyData.keyHash P (Str.ofString "__file__")) (@Value.str (Str.ofString "__file__") 173) (@Value.str (Str.ofString "/claim/cut.py") 172)), (@DictEntry.mk (@PyData.keyHash P (Str.ofString "__cached__")) (@Value.str (Str.ofString "__cached__") 174) Value.none), (@DictEntry.mk (@PyData.keyHash P (Str.ofString "SnobolError")) (@Value.str (Str.ofString "SnobolError") 222) (@Value.ref 34)), (@DictEntry.mk (@PyData.keyHash P (Str.ofString "Failure")) (@Value.str (Str.ofString "Failure") 242) (@Value.ref 47)), (@DictEntry.mk (@PyData.keyHash P (Str.ofString "Pattern")) (@Value.str (Str.ofString "Pattern") 271) (@Value.ref 68)), (@DictEntry.mk (@PyData.keyHash P (Str.ofString "Delayed")) (@Value.str (Str.ofString "Delayed") 300) (@Value.ref 89)), (@DictEntry.mk (@PyData.keyHash P (Str.ofString "NameRef")) (@Value.str (Str.ofString "NameRef") 333) (@Value.ref 110)), (@DictEntry.mk (@PyData.keyHash P (Str.ofString "Holder")) (@Value.str (Str.ofString "Holder") 365) (@Value.ref 131)), (@DictEntry.mk (@PyData.keyHash P (Str.ofString "is_fail")) (@Value.str (Str.ofString "is_fail") 372) (@Value.ref 142)), (@DictEntry.mk (@PyData.keyHash P (Str.ofString "is_null")) (@Value.str (Str.ofString "is_null") 379) (@Value.ref 149)), (@DictEntry.mk (@PyData.keyHash P (Str.ofString "is_plain")) (@Value.str (Str.ofString "is_plain") 386) (@Value.ref 156)), (@DictEntry.mk (@PyData.keyHash P (Str.ofString "fits")) (@Value.str (Str.ofString "fits") 394) (@Value.ref 163)), (@DictEntry.mk (@PyData.keyHash P (Str.ofString "whole_of_text")) (@Value.str (Str.ofString "whole_of_text") 405) (@Value.ref 170)), (@DictEntry.mk (@PyData.keyHash P (Str.ofString "text_of_whole")) (@Value.str (Str.ofString "text_of_whole") 414) (@Value.ref 177)), (@DictEntry.mk (@PyData.keyHash P (Str.ofString "to_whole")) (@Value.str (Str.ofString "to_whole") 422) (@Value.ref 184)), (@DictEntry.mk (@PyData.keyHash P (Str.ofString "to_text")) (@Value.str (Str.ofString "to_text") 429) (@Value.ref 191)), (@DictEntry.mk (@PyData.keyHash P (Str.ofString "need_whole")) (@Value.str (Str.ofString "need_whole") 438) (@Value.ref 198)), (@DictEntry.mk (@PyData.keyHash P (Str.ofString "checked_whole")) (@Value.str (Str.ofString "checked_whole") 446) (@Value.ref 205)), (@DictEntry.mk (@PyData.keyHash P (Str.ofString "NULL_NODE")) (@Value.str (Str.ofString "NULL_NODE") 451) (@Value.ref 206)), (@DictEntry.mk (@PyData.keyHash P (Str.ofString "MOST_PARTS")) (@Value.str (Str.ofString "MOST_PARTS") 453) (@Value.int (@OfNat.ofNat Int (nat_lit 600) (@instOfNat (nat_lit 600))) 452)), (@DictEntry.mk (@PyData.keyHash P (Str.ofString "MOST_DEPTH")) (@Value.str (Str.ofString "MOST_DEPTH") 455) (@Value.int (@OfNat.ofNat Int (nat_lit 100) (@instOfNat (nat_lit 100))) 454)), (@DictEntry.mk (@PyData.keyHash P (Str.ofString "MOST_SIGNS")) (@Value.str (Str.ofString "MOST_SIGNS") 457) (@Value.int (@OfNat.ofNat Int (nat_lit 20000) (@instOfNat (nat_lit 20000))) 456)), (@DictEntry.mk (@PyData.keyHash P (Str.ofString "TOO_GREAT")) (@Value.str (Str.ofString "TOO_GREAT") 459) (@Value.int (@OfNat.ofNat Int (nat_lit 23) (@instOfNat (nat_lit 23))) 458)), (@DictEntry.mk (@PyData.keyHash P (Str.ofString "is_null_node")) (@Value.str (Str.ofString "is_null_node") 466) (@Value.ref 213)), (@DictEntry.mk (@PyData.keyHash P (Str.ofString "later_node")) (@Value.str (Str.ofString "later_node") 474) (@Value.ref 220)), (@DictEntry.mk (@PyData.keyHash P (Str.ofString "now_node")) (@Value.str (Str.ofString "now_node") 482) (@Value.ref 227)), (@DictEntry.mk (@PyData.keyHash P (Str.ofString "cursor_node")) (@Value.str (Str.ofString "cursor_node") 489) (@Value.ref 234)), (@DictEntry.mk (@PyData.keyHash P (Str.ofString "joined")) (@Value.str (Str.ofString "joined") 497) (@Value.ref 241)), (@DictEntry.mk (@PyData.keyHash P (Str.ofString "either")) (@Value.str (Str.ofString "either") 505) (@Value.ref 248)), (@DictEntry.mk (@PyData.keyHash P (Str.ofString "pattern_of")) (@Value.str (Str.ofString "pattern_of") 513) (@Value.ref 255)), (@DictEntry.mk (@PyData.keyHash P (Str.ofString "parts_of")) (@Value.str (Str.ofString "parts_of") 520) (@Value.ref 262)), (@DictEntry.mk (@PyData.keyHash P (Str.ofString "checked_node")) (@Value.str (Str.ofString "checked_node") 532) (@Value.ref 269)), (@DictEntry.mk (@PyData.keyHash P (Str.ofString "check_length")) (@Value.str (Str.ofString "check_length") 542) (@Value.ref 276)), (@DictEntry.mk (@PyData.keyHash P (Str.ofString "divided")) (@Value.str (Str.ofString "divided") 553) (@Value.ref 283)), (@DictEntry.mk (@PyData.keyHash P (Str.ofString "raised_to")) (@Value.str (Str.ofString "raised_to") 564) (@Value.ref 290)), (@DictEntry.mk (@PyData.keyHash P (Str.ofString "reckoned")) (@Value.str (Str.ofString "reckoned") 574) (@Value.ref 297)), (@DictEntry.mk (@PyData.keyHash P (Str.ofString "is_part")) (@Value.str (Str.ofString "is_part") 581) (@Value.ref 304)), (@DictEntry.mk (@PyData.keyHash P (Str.ofString "join_values")) (@Value.str (Str.ofString "join_values") 590) (@Value.ref 311)), (@DictEntry.mk (@PyData.keyHash P (Str.ofString "either_value")) (@Value.str (Str.ofString "either_value") 598) (@Value.ref 318)), (@DictEntry.mk (@PyData.keyHash P (Str.ofString "binary_value")) (@Value.str (Str.ofString "binary_value") 609) (@Value.ref 325)), (@DictEntry.mk (@PyData.keyHash P (Str.ofString "unary_value")) (@Value.str (Str.ofString "unary_value") 619) (@Value.ref 332))]) 48) (@List.toArray (@Option Value) []))
noncomputable abbrev o10x12 (P : Params) : Obj := (@Obj.mk Value.none none (@Data.fields (@List.toArray Value ((@Value.int (@OfNat.ofNat Int (nat_lit 2) (@instOfNat (nat_lit 2))) 0) :: (@Value.int (@OfNat.ofNat Int (nat_lit 0) (@instOfNat (nat_lit 0))) 0) :: (@Value.ref 21) :: (@Value.int (@OfNat.ofNat Int (nat_lit 8) (@instOfNat (nat_lit 8))) 0) :: (@Value.int (@OfNat.ofNat Int (nat_lit 0) (@instOfNat (nat_lit 0))) 0) :: (@Value.ref 43) :: (@Value.int (@OfNat.ofNat Int (nat_lit 10) (@instOfNat (nat_lit 10))) 0) :: (@Value.int (@OfNat.ofNat Int (nat_lit 0) (@instOfNat (nat_lit 0))) 0) :: (@Value.ref 57) :: (@Value.int (@OfNat.ofNat Int (nat_lit 14) (@instOfNat (nat_lit 14))) 0) :: (@Value.int (@OfNat.ofNat Int (nat_lit 0) (@instOfNat (nat_lit 0))) 0) :: (@Value.ref 78) :: (@Value.int (@OfNat.ofNat Int (nat_lit 18) (@instOfNat (nat_lit 18))) 0) :: (@Value.int (@OfNat.ofNat Int (nat_lit 0) (@instOfNat (nat_lit 0))) 0) :: (@Value.ref 99) :: (@Value.int (@OfNat.ofNat Int (nat_lit 24) (@instOfNat (nat_lit 24))) 0) :: (@Value.int (@OfNat.ofNat Int (nat_lit 0) (@instOfNat (nat_lit 0))) 0) :: (@Value.ref 120) :: (@Value.int (@OfNat.ofNat Int (nat_lit 30) (@instOfNat (nat_lit 30))) 0) :: (@Value.int (@OfNat.ofNat Int (nat_lit 0) (@instOfNat (nat_lit 0))) 0) :: (@Value.ref 141) :: (@Value.int (@OfNat.ofNat Int (nat_lit 32) (@instOfNat (nat_lit 32))) 0) :: (@Value.int (@OfNat.ofNat Int (nat_lit 0) (@instOfNat (nat_lit 0))) 0) :: (@Value.ref 148) :: (@Value.int (@OfNat.ofNat Int (nat_lit 34) (@instOfNat (nat_lit 34))) 0) :: (@Value.int (@OfNat.ofNat Int (nat_lit 0) (@instOfNat (nat_lit 0))) 0) :: (@Value.ref 155) :: (@Value.int (@OfNat.ofNat Int (nat_lit 36) (@instOfNat (nat_lit 36))) 0) :: (@Value.int (@OfNat.ofNat Int (nat_lit 0) (@instOfNat (nat_lit 0))) 0) :: (@Value.ref 162) :: (@Value.int (@OfNat.ofNat Int (nat_lit 38) (@instOfNat (nat_lit 38))) 0) :: (@Value.int (@OfNat.ofNat Int (nat_lit 0) (@instOfNat (nat_lit 0))) 0) :: (@Value.ref 169) :: (@Value.int (@OfNat.ofNat Int (nat_lit 51) (@instOfNat (nat_lit 51))) 0) :: (@Value.int (@OfNat.ofNat Int (nat_lit 0) (@instOfNat (nat_lit 0))) 0) :: (@Value.ref 176) :: (@Value.int (@OfNat.ofNat Int (nat_lit 57) (@instOfNat (nat_lit 57))) 0) :: (@Value.int (@OfNat.ofNat Int (nat_lit 0) (@instOfNat (nat_lit 0))) 0) :: (@Value.ref 183) :: (@Value.int (@OfNat.ofNat Int (nat_lit 61) (@instOfNat (nat_lit 61))) 0) :: (@Value.int (@OfNat.ofNat Int (nat_lit 0) (@instOfNat (nat_lit 0))) 0) :: (@Value.ref 190) :: (@Value.int (@OfNat.ofNat Int (nat_lit 65) (@instOfNat (nat_lit 65))) 0) :: (@Value.int (@OfNat.ofNat Int (nat_lit 0) (@instOfNat (nat_lit 0))) 0) :: (@Value.ref 197) :: (@Value.int (@OfNat.ofNat Int (nat_lit 70) (@instOfNat (nat_lit 70))) 0) :: (@Value.int (@OfNat.ofNat Int (nat_lit 0) (@instOfNat (nat_lit 0))) 0) :: (@Value.ref 204) :: (@Value.int (@OfNat.ofNat Int (nat_lit 80) (@instOfNat (nat_lit 80))) 0) :: (@Value.int (@OfNat.ofNat Int (nat_lit 0) (@instOfNat (nat_lit 0))) 0) :: (@Value.ref 212) :: (@Value.int (@OfNat.ofNat Int (nat_lit 82) (@instOfNat (nat_lit 82))) 0) :: (@Value.int (@OfNat.ofNat Int (nat_lit 0) (@instOfNat (nat_lit 0))) 0) :: (@Value.ref 219) :: (@Value.int (@OfNat.ofNat Int (nat_lit 84) (@instOfNat (nat_lit 84))) 0) :: (@Value.int (@OfNat.ofNat Int (nat_lit 0) (@instOfNat (nat_lit 0))) 0) :: (@Value.ref 226) :: (@Value.int (@OfNat.ofNat Int (nat_lit 86) (@instOfNat (nat_lit 86))) 0) :: (@Value.int (@OfNat.ofNat Int (nat_lit 0) (@instOfNat (nat_lit 0))) 0) :: (@Value.ref 233) :: (@Value.int (@OfNat.ofNat Int (nat_lit 88) (@instOfNat (nat_lit 88))) 0) :: (@Value.int (@OfNat.ofNat Int (nat_lit 0) (@instOfNat (nat_lit 0))) 0) :: (@Value.ref 240) :: (@Value.int (@OfNat.ofNat Int (nat_lit 96) (@instOfNat (nat_lit 96))) 0) :: (@Value.int (@OfNat.ofNat Int (nat_lit 0) (@instOfNat (nat_lit 0))) 0) :: (@Value.ref 247) :: (@Value.int (@OfNat.ofNat Int (nat_lit 98) (@instOfNat (nat_lit 98))) 0) :: (@Value.int (@OfNat.ofNat Int (nat_lit 0) (@instOfNat (nat_lit 0))) 0) :: (@Value.ref 254) :: (@Value.int (@OfNat.ofNat Int (nat_lit 107) (@instOfNat (nat_lit 107))) 0) :: (@Value.int (@OfNat.ofNat Int (nat_lit 0) (@instOfNat (nat_lit 0))) 0) :: (@Value.ref 261) :: (@Value.int (@OfNat.ofNat Int (nat_lit 111) (@instOfNat (nat_lit 111))) 0) :: (@Value.int (@OfNat.ofNat Int (nat_lit 0) (@instOfNat (nat_lit 0))) 0) :: (@Value.ref 268) :: (@Value.int (@OfNat.ofNat Int (nat_lit 122) (@instOfNat (nat_lit 122))) 0) :: (@Value.int (@OfNat.ofNat Int (nat_lit 0) (@instOfNat (nat_lit 0))) 0) :: (@Value.ref 275) :: (@Value.int (@OfNat.ofNat Int (nat_lit 127) (@instOfNat (nat_lit 127))) 0) :: (@Value.int (@OfNat.ofNat Int (nat_lit 0) (@instOfNat (nat_lit 0))) 0) :: (@Value.ref 282) :: (@Value.int (@OfNat.ofNat Int (nat_lit 132) (@instOfNat (nat_lit 132))) 0) :: (@Value.int (@OfNat.ofNat Int (nat_lit 0) (@instOfNat (nat_lit 0))) 0) :: (@Value.ref 289) :: (@Value.int (@OfNat.ofNat Int (nat_lit 145) (@instOfNat (nat_lit 145))) 0) :: (@Value.int (@OfNat.ofNat Int (nat_lit 0) (@instOfNat (nat_lit 0))) 0) :: (@Value.ref 296) :: (@Value.int (@OfNat.ofNat Int (nat_lit 157) (@instOfNat (nat_lit 157))) 0) :: (@Value.int (@OfNat.ofNat Int (nat_lit 0) (@instOfNat (nat_lit 0))) 0) :: (@Value.ref 303) :: (@Value.int (@OfNat.ofNat Int (nat_lit 159) (@instOfNat (nat_lit 159))) 0) :: (@Value.int (@OfNat.ofNat Int (nat_lit 0) (@instOfNat (nat_lit 0))) 0) :: (@Value.ref 310) :: (@Value.int (@OfNat.ofNat Int (nat_lit 169) (@instOfNat (nat_lit 169))) 0) :: (@Value.int (@OfNat.ofNat Int (nat_lit 0) (@instOfNat (nat_lit 0))) 0) :: (@Value.ref 317) :: (@Value.int (@OfNat.ofNat Int (nat_lit 173) (@instOfNat (nat_lit 173))) 0) :: (@Value.int (@OfNat.ofNat Int (nat_lit 0) (@instOfNat (nat_lit 0))) 0) :: (@Value.ref 324) :: (@Value.int (@OfNat.ofNat Int (nat_lit 180) (@instOfNat (nat_lit 180))) 0) :: (@Value.int (@OfNat.ofNat Int (nat_lit 0) (@instOfNat (nat_lit 0))) 0) :: (@Value.ref 331) :: []))) (@List.toArray (@Option Value) []))
noncomputable abbrev o10x249 (P : Params) : Obj := (@Obj.mk (@Value.type "tuple") none (@Data.seq (@List.toArray Value []) 0) (@List.toArray (@Option Value) []))
noncomputable abbrev o10x250 (P : Params) : Obj := (@Obj.mk Value.none none (@Data.fields (@List.toArray Value [])) (@List.toArray (@Option Value) []))
noncomputable abbrev o10x251 (P : Params) : Obj := (@Obj.mk (@Value.type "tuple") none (@Data.seq (@List.toArray Value [(@Value.str (Str.ofString "value") 509), (@Value.str (Str.ofString "text") 510)]) 0) (@List.toArray (@Option Value) []))
noncomputable abbrev o10x252 (P : Params) : Obj := (@Obj.mk (@Value.type "tuple") none (@Data.seq (@List.toArray Value []) 0) (@List.toArray (@Option Value) []))
noncomputable abbrev o10x253 (P : Params) : Obj := (@Obj.mk Value.none none (@Data.func (@FuncData.mk (Str.ofString "pattern_of") (Str.ofString "pattern_of") (fnA (stAt 29)) (FuncBody.stmts (fnB (stAt 29))) (fnS (stAt 29)) 0 [] Value.none Value.none Value.none Value.none none Value.none Value.none 0)) (@List.toArray (@Option Value) []))
noncomputable abbrev o10x254 (P : Params) : Obj := (@Obj.mk (@Value.type "code") none (@Data.fields (@List.toArray Value [(@Value.str (Str.ofString "pattern_of") 506), (@Value.str (Str.ofString "pattern_of") 507), (@Value.str (Str.ofString "/claim/cut.py") 508), (@Value.int (@OfNat.ofNat Int (nat_lit 98) (@instOfNat (nat_lit 98))) 0), (@Value.int (@OfNat.ofNat Int (nat_lit 1) (@instOfNat (nat_lit 1))) 0), (@Value.int (@OfNat.ofNat Int (nat_lit 0) (@instOfNat (nat_lit 0))) 0), (@Value.int (@OfNat.ofNat Int (nat_lit 0) (@instOfNat (nat_lit 0))) 0), (@Value.int (@OfNat.ofNat Int (nat_lit 3) (@instOfNat (nat_lit 3))) 0), (@Value.ref 249), (@Value.bool Bool.true), (@Value.int (@OfNat.ofNat Int (nat_lit 181) (@instOfNat (nat_lit 181))) 0), (@Value.ref 250), Value.none, (@Value.ref 251), (@Value.ref 252), (@Value.ref 253), (@Value.int (@OfNat.ofNat Int (nat_lit 511) (@instOfNat (nat_lit 511))) 0), (@Value.int (@OfNat.ofNat Int (nat_lit 98) (@instOfNat (nat_lit 98))) 0), (@Value.str (Str.ofString "/claim/cut.py") 512)])) (@List.toArray (@Option Value) []))
noncomputable abbrev o10x255 (P : Params) : Obj := (@Obj.mk (@Value.type "function") none (@Data.func (@FuncData.mk (Str.ofString "pattern_of") (Str.ofString "pattern_of") (fnA (stAt 29)) (FuncBody.stmts (fnB (stAt 29))) (fnS (stAt 29)) 3 [] Value.none Value.none Value.none (@Value.str (Str.ofString "snobol.nodes") 447) none (@Value.ref 254) Value.none 0)) (@List.toArray (@Option Value) []))
noncomputable abbrev o10x256 (P : Params) : Obj := (@Obj.mk (@Value.type "tuple") none (@Data.seq (@List.toArray Value []) 0) (@List.toArray (@Option Value) []))
noncomputable abbrev o10x257 (P : Params) : Obj := (@Obj.mk Value.none none (@Data.fields (@List.toArray Value [])) (@List.toArray (@Option Value) []))
noncomputable abbrev o10x258 (P : Params) : Obj := (@Obj.mk (@Value.type "tuple") none (@Data.seq (@List.toArray Value [(@Value.str (Str.ofString "node") 517)]) 0) (@List.toArray (@Option Value) []))
noncomputable abbrev o10x259 (P : Params) : Obj := (@Obj.mk (@Value.type "tuple") none (@Data.seq (@List.toArray Value []) 0) (@List.toArray (@Option Value) []))
noncomputable abbrev o10x260 (P : Params) : Obj := (@Obj.mk Value.none none (@Data.func (@FuncData.mk (Str.ofString "parts_of") (Str.ofString "parts_of") (fnA (stAt 30)) (FuncBody.stmts (fnB (stAt 30))) (fnS (stAt 30)) 0 [] Value.none Value.none Value.none Value.none none Value.none Value.none 0)) (@List.toArray (@Option Value) []))
noncomputable abbrev o10x261 (P : Params) : Obj := (@Obj.mk (@Value.type "code") none (@Data.fields (@List.toArray Value [(@Value.str (Str.ofString "parts_of") 514), (@Value.str (Str.ofString "parts_of") 515), (@Value.str (Str.ofString "/claim/cut.py") 516), (@Value.int (@OfNat.ofNat Int (nat_lit 107) (@instOfNat (nat_lit 107))) 0), (@Value.int (@OfNat.ofNat Int (nat_lit 1) (@instOfNat (nat_lit 1))) 0), (@Value.int (@OfNat.ofNat Int (nat_lit 0) (@instOfNat (nat_lit 0))) 0), (@Value.int (@OfNat.ofNat Int (nat_lit 0) (@instOfNat (nat_lit 0))) 0), (@Value.int (@OfNat.ofNat Int (nat_lit 3) (@instOfNat (nat_lit 3))) 0), (@Value.ref 256), (@Value.bool Bool.true), (@Value.int (@OfNat.ofNat Int (nat_lit 181) (@instOfNat (nat_lit 181))) 0), (@Value.ref 257), Value.none, (@Value.ref 258), (@Value.ref 259), (@Value.ref 260), (@Value.int (@OfNat.ofNat Int (nat_lit 518) (@instOfNat (nat_lit 518))) 0), (@Value.int (@OfNat.ofNat Int (nat_lit 107) (@instOfNat (nat_lit 107))) 0), (@Value.str (Str.ofString "/claim/cut.py") 519)])) (@List.toArray (@Option Value) []))
noncomputable abbrev o10x262 (P : Params) : Obj := (@Obj.mk (@Value.type "function") none (@Data.func (@FuncData.mk (Str.ofString "parts_of") (Str.ofString "parts_of") (fnA (stAt 30)) (FuncBody.stmts (fnB (stAt 30))) (fnS (stAt 30)) 3 [] Value.none Value.none Value.none (@Value.str (Str.ofString "snobol.nodes") 447) none (@Value.ref 261) Value.none 0)) (@List.toArray (@Option Value) []))
noncomputable abbrev o10x263 (P : Params) : Obj := (@Obj.mk (@Value.type "tuple") none (@Data.seq (@List.toArray Value []) 0) (@List.toArray (@Option Value) []))
noncomputable abbrev o10x264 (P : Params) : Obj := (@Obj.mk Value.none none (@Data.fields (@List.toArray Value [])) (@List.toArray (@Option Value) []))
noncomputable abbrev o10x265 (P : Params) : Obj := (@Obj.mk (@Value.type "tuple") none (@Data.seq (@List.toArray Value [(@Value.str (Str.ofString "node") 524), (@Value.str (Str.ofString "many") 525), (@Value.str (Str.ofString "left") 526), (@Value.str (Str.ofString "here") 527), (@Value.str (Str.ofString "depth") 528), (@Value.str (Str.ofString "part") 529)]) 0) (@List.toArray (@Option Value) []))
noncomputable abbrev o10x266 (P : Params) : Obj := (@Obj.mk (@Value.type "tuple") none (@Data.seq (@List.toArray Value []) 0) (@List.toArray (@Option Value) []))
noncomputable abbrev o10x267 (P : Params) : Obj := (@Obj.mk Value.none none (@Data.func (@FuncData.mk (Str.ofString "checked_node") (Str.ofString "checked_node") (fnA (stAt 31)) (FuncBody.stmts (fnB (stAt 31))) (fnS (stAt 31)) 0 [] Value.none Value.none Value.none Value.none none Value.none Value.none 0)) (@List.toArray (@Option Value) []))
noncomputable abbrev o10x268 (P : Params) : Obj := (@Obj.mk (@Value.type "code") none (@Data.fields (@List.toArray Value [(@Value.str (Str.ofString "checked_node") 521), (@Value.str (Str.ofString "checked_node") 522), (@Value.str (Str.ofString "/claim/cut.py") 523), (@Value.int (@OfNat.ofNat Int (nat_lit 111) (@instOfNat (nat_lit 111))) 0), (@Value.int (@OfNat.ofNat Int (nat_lit 1) (@instOfNat (nat_lit 1))) 0), (@Value.int (@OfNat.ofNat Int (nat_lit 0) (@instOfNat (nat_lit 0))) 0), (@Value.int (@OfNat.ofNat Int (nat_lit 0) (@instOfNat (nat_lit 0))) 0), (@Value.int (@OfNat.ofNat Int (nat_lit 3) (@instOfNat (nat_lit 3))) 0), (@Value.ref 263), (@Value.bool Bool.true), (@Value.int (@OfNat.ofNat Int (nat_lit 181) (@instOfNat (nat_lit 181))) 0), (@Value.ref 264), Value.none, (@Value.ref 265), (@Value.ref 266), (@Value.ref 267), (@Value.int (@OfNat.ofNat Int (nat_lit 530) (@instOfNat (nat_lit 530))) 0), (@Value.int (@OfNat.ofNat Int (nat_lit 111) (@instOfNat (nat_lit 111))) 0), (@Value.str (Str.ofString "/claim/cut.py") 531)])) (@List.toArray (@Option Value) []))
noncomputable abbrev o10x269 (P : Params) : Obj := (@Obj.mk (@Value.type "function") none (@Data.func (@FuncData.mk (Str.ofString "checked_node") (Str.ofString "checked_node") (fnA (stAt 31)) (FuncBody.stmts (fnB (stAt 31))) (fnS (stAt 31)) 3 [] Value.none Value.none Value.none (@Value.str (Str.ofString "snobol.nodes") 447) none (@Value.ref 268) Value.none 0)) (@List.toArray (@Option Value) []))
noncomputable abbrev o10x270 (P : Params) : Obj := (@Obj.mk (@Value.type "tuple") none (@Data.seq (@List.toArray Value []) 0) (@List.toArray (@Option Value) []))
noncomputable abbrev o10x271 (P : Params) : Obj := (@Obj.mk Value.none none (@Data.fields (@List.toArray Value [])) (@List.toArray (@Option Value) []))
noncomputable abbrev o10x272 (P : Params) : Obj := (@Obj.mk (@Value.type "tuple") none (@Data.seq (@List.toArray Value [(@Value.str (Str.ofString "world") 538), (@Value.str (Str.ofString "text") 539)]) 0) (@List.toArray (@Option Value) []))
noncomputable abbrev o10x273 (P : Params) : Obj := (@Obj.mk (@Value.type "tuple") none (@Data.seq (@List.toArray Value []) 0) (@List.toArray (@Option Value) []))
noncomputable abbrev o10x274 (P : Params) : Obj := (@Obj.mk Value.none none (@Data.func (@FuncData.mk (Str.ofString "check_length") (Str.ofString "check_length") (fnA (stAt 33)) (FuncBody.stmts (fnB (stAt 33))) (fnS (stAt 33)) 0 [] Value.none Value.none Value.none Value.none none Value.none Value.none 0)) (@List.toArray (@Option Value) []))
noncomputable abbrev o10x275 (P : Params) : Obj := (@Obj.mk (@Value.type "code") none (@Data.fields (@List.toArray Value [(@Value.str (Str.ofString "check_length") 535), (@Value.str (Str.ofString "check_length") 536), (@Value.str (Str.ofString "/claim/cut.py") 537), (@Value.int (@OfNat.ofNat Int (nat_lit 122) (@instOfNat (nat_lit 122))) 0), (@Value.int (@OfNat.ofNat Int (nat_lit 2) (@instOfNat (nat_lit 2))) 0), (@Value.int (@OfNat.ofNat Int (nat_lit 0) (@instOfNat (nat_lit 0))) 0), (@Value.int (@OfNat.ofNat Int (nat_lit 0) (@instOfNat (nat_lit 0))) 0), (@Value.int (@OfNat.ofNat Int (nat_lit 3) (@instOfNat (nat_lit 3))) 0), (@Value.ref 270), (@Value.bool Bool.true), (@Value.int (@OfNat.ofNat Int (nat_lit 181) (@instOfNat (nat_lit 181))) 0), (@Value.ref 271), Value.none, (@Value.ref 272), (@Value.ref 273), (@Value.ref 274), (@Value.int (@OfNat.ofNat Int (nat_lit 540) (@instOfNat (nat_lit 540))) 0), (@Value.int (@OfNat.ofNat Int (nat_lit 122) (@instOfNat (nat_lit 122))) 0), (@Value.str (Str.ofString "/claim/cut.py") 541)])) (@List.toArray (@Option Value) []))
noncomputable abbrev o10x276 (P : Params) : Obj := (@Obj.mk (@Value.type "function") none (@Data.func (@FuncData.mk (Str.ofString "check_length") (Str.ofString "check_length") (fnA (stAt 33)) (FuncBody.stmts (fnB (stAt 33))) (fnS (stAt 33)) 3 [] Value.none Value.none Value.none (@Value.str (Str.ofString "snobol.world") 533) none (@Value.ref 275) Value.none 0)) (@List.toArray (@Option Value) []))
noncomputable abbrev o10x277 (P : Params) : Obj := (@Obj.mk (@Value.type "tuple") none (@Data.seq (@List.toArray Value []) 0) (@List.toArray (@Option Value) []))
noncomputable abbrev o10x278 (P : Params) : Obj := (@Obj.mk Value.none none (@Data.fields (@List.toArray Value [])) (@List.toArray (@Option Value) []))
noncomputable abbrev o10x279 (P : Params) : Obj := (@Obj.mk (@Value.type "tuple") none (@Data.seq (@List.toArray Value [(@Value.str (Str.ofString "one") 548), (@Value.str (Str.ofString "other") 549), (@Value.str (Str.ofString "found") 550)]) 0) (@List.toArray (@Option Value) []))
noncomputable abbrev o10x280 (P : Params) : Obj := (@Obj.mk (@Value.type "tuple") none (@Data.seq (@List.toArray Value []) 0) (@List.toArray (@Option Value) []))
noncomputable abbrev o10x281 (P : Params) : Obj := (@Obj.mk Value.none none (@Data.func (@FuncData.mk (Str.ofString "divided") (Str.ofString "divided") (fnA (stAt 35)) (FuncBody.stmts (fnB (stAt 35))) (fnS (stAt 35)) 0 [] Value.none Value.none Value.none Value.none none Value.none Value.none 0)) (@List.toArray (@Option Value) []))
noncomputable abbrev o10x282 (P : Params) : Obj := (@Obj.mk (@Value.type "code") none (@Data.fields (@List.toArray Value [(@Value.str (Str.ofString "divided") 545), (@Value.str (Str.ofString "divided") 546), (@Value.str (Str.ofString "/claim/cut.py") 547), (@Value.int (@OfNat.ofNat Int (nat_lit 127) (@instOfNat (nat_lit 127))) 0), (@Value.int (@OfNat.ofNat Int (nat_lit 2) (@instOfNat (nat_lit 2))) 0), (@Value.int (@OfNat.ofNat Int (nat_lit 0) (@instOfNat (nat_lit 0))) 0), (@Value.int (@OfNat.ofNat Int (nat_lit 0) (@instOfNat (nat_lit 0))) 0), (@Value.int (@OfNat.ofNat Int (nat_lit 3) (@instOfNat (nat_lit 3))) 0), (@Value.ref 277), (@Value.bool Bool.true), (@Value.int (@OfNat.ofNat Int (nat_lit 181) (@instOfNat (nat_lit 181))) 0), (@Value.ref 278), Value.none, (@Value.ref 279), (@Value.ref 280), (@Value.ref 281), (@Value.int (@OfNat.ofNat Int (nat_lit 551) (@instOfNat (nat_lit 551))) 0), (@Value.int (@OfNat.ofNat Int (nat_lit 127) (@instOfNat (nat_lit 127))) 0), (@Value.str (Str.ofString "/claim/cut.py") 552)])) (@List.toArray (@Option Value) []))
noncomputable abbrev o10x283 (P : Params) : Obj := (@Obj.mk (@Value.type "function") none (@Data.func (@FuncData.mk (Str.ofString "divided") (Str.ofString "divided") (fnA (stAt 35)) (FuncBody.stmts (fnB (stAt 35))) (fnS (stAt 35)) 3 [] Value.none Value.none Value.none (@Value.str (Str.ofString "snobol.operators") 543) none (@Value.ref 282) Value.none 0)) (@List.toArray (@Option Value) []))
noncomputable abbrev o10x284 (P : Params) : Obj := (@Obj.mk (@Value.type "tuple") none (@Data.seq (@List.toArray Value []) 0) (@List.toArray (@Option Value) []))
noncomputable abbrev o10x285 (P : Params) : Obj := (@Obj.mk Value.none none (@Data.fields (@List.toArray Value [])) (@List.toArray (@Option Value) []))
noncomputable abbrev o10x286 (P : Params) : Obj := (@Obj.mk (@Value.type "tuple") none (@Data.seq (@List.toArray Value [(@Value.str (Str.ofString "one") 557), (@Value.str (Str.ofString "other") 558), (@Value.str (Str.ofString "width") 559), (@Value.str (Str.ofString "found") 560), (@Value.str (Str.ofString "turn") 561)]) 0) (@List.toArray (@Option Value) []))
noncomputable abbrev o10x287 (P : Params) : Obj := (@Obj.mk (@Value.type "tuple") none (@Data.seq (@List.toArray Value []) 0) (@List.toArray (@Option Value) []))
noncomputable abbrev o10x288 (P : Params) : Obj := (@Obj.mk Value.none none (@Data.func (@FuncData.mk (Str.ofString "raised_to") (Str.ofString "raised_to") (fnA (stAt 36)) (FuncBody.stmts (fnB (stAt 36))) (fnS (stAt 36)) 0 [] Value.none Value.none Value.none Value.none none Value.none Value.none 0)) (@List.toArray (@Option Value) []))
noncomputable abbrev o10x289 (P : Params) : Obj := (@Obj.mk (@Value.type "code") none (@Data.fields (@List.toArray Value [(@Value.str (Str.ofString "raised_to") 554), (@Value.str (Str.ofString "raised_to") 555), (@Value.str (Str.ofString "/claim/cut.py") 556), (@Value.int (@OfNat.ofNat Int (nat_lit 132) (@instOfNat (nat_lit 132))) 0), (@Value.int (@OfNat.ofNat Int (nat_lit 3) (@instOfNat (nat_lit 3))) 0), (@Value.int (@OfNat.ofNat Int (nat_lit 0) (@instOfNat (nat_lit 0))) 0), (@Value.int (@OfNat.ofNat Int (nat_lit 0) (@instOfNat (nat_lit 0))) 0), (@Value.int (@OfNat.ofNat Int (nat_lit 3) (@instOfNat (nat_lit 3))) 0), (@Value.ref 284), (@Value.bool Bool.true), (@Value.int (@OfNat.ofNat Int (nat_lit 181) (@instOfNat (nat_lit 181))) 0), (@Value.ref 285), Value.none, (@Value.ref 286), (@Value.ref 287), (@Value.ref 288), (@Value.int (@OfNat.ofNat Int (nat_lit 562) (@instOfNat (nat_lit 562))) 0), (@Value.int (@OfNat.ofNat Int (nat_lit 132) (@instOfNat (nat_lit 132))) 0), (@Value.str (Str.ofString "/claim/cut.py") 563)])) (@List.toArray (@Option Value) []))
noncomputable abbrev o10x290 (P : Params) : Obj := (@Obj.mk (@Value.type "function") none (@Data.func (@FuncData.mk (Str.ofString "raised_to") (Str.ofString "raised_to") (fnA (stAt 36)) (FuncBody.stmts (fnB (stAt 36))) (fnS (stAt 36)) 3 [] Value.none Value.none Value.none (@Value.str (Str.ofString "snobol.operators") 543) none (@Value.ref 289) Value.none 0)) (@List.toArray (@Option Value) []))
noncomputable abbrev o10x291 (P : Params) : Obj := (@Obj.mk (@Value.type "tuple") none (@Data.seq (@List.toArray Value []) 0) (@List.toArray (@Option Value) []))
noncomputable abbrev o10x292 (P : Params) : Obj := (@Obj.mk Value.none none (@Data.fields (@List.toArray Value [])) (@List.toArray (@Option Value) []))
noncomputable abbrev o10x293 (P : Params) : Obj := (@Obj.mk (@Value.type "tuple") none (@Data.seq (@List.toArray Value [(@Value.str (Str.ofString "op") 568), (@Value.str (Str.ofString "one") 569), (@Value.str (Str.ofString "other") 570), (@Value.str (Str.ofString "width") 571)]) 0) (@List.toArray (@Option Value) []))
noncomputable abbrev o10x294 (P : Params) : Obj := (@Obj.mk (@Value.type "tuple") none (@Data.seq (@List.toArray Value []) 0) (@List.toArray (@Option Value) []))
noncomputable abbrev o10x295 (P : Params) : Obj := (@Obj.mk Value.none none (@Data.func (@FuncData.mk (Str.ofString "reckoned") (Str.ofString "reckoned") (fnA (stAt 37)) (FuncBody.stmts (fnB (stAt 37))) (fnS (stAt 37)) 0 [] Value.none Value.none Value.none Value.none none Value.none Value.none 0)) (@List.toArray (@Option Value) []))
noncomputable abbrev o10x296 (P : Params) : Obj := (@Obj.mk (@Value.type "code") none (@Data.fields (@List.toArray Value [(@Value.str (Str.ofString "reckoned") 565), (@Value.str (Str.ofString "reckoned") 566), (@Value.str (Str.ofString "/claim/cut.py") 567), (@Value.int (@OfNat.ofNat Int (nat_lit 145) (@instOfNat (nat_lit 145))) 0), (@Value.int (@OfNat.ofNat Int (nat_lit 4) (@instOfNat (nat_lit 4))) 0), (@Value.int (@OfNat.ofNat Int (nat_lit 0) (@instOfNat (nat_lit 0))) 0), (@Value.int (@OfNat.ofNat Int (nat_lit 0) (@instOfNat (nat_lit 0))) 0), (@Value.int (@OfNat.ofNat Int (nat_lit 3) (@instOfNat (nat_lit 3))) 0), (@Value.ref 291), (@Value.bool Bool.true), (@Value.int (@OfNat.ofNat Int (nat_lit 181) (@instOfNat (nat_lit 181))) 0), (@Value.ref 292), Value.none, (@Value.ref 293), (@Value.ref 294), (@Value.ref 295), (@Value.int (@OfNat.ofNat Int (nat_lit 572) (@instOfNat (nat_lit 572))) 0), (@Value.int (@OfNat.ofNat Int (nat_lit 145) (@instOfNat (nat_lit 145))) 0), (@Value.str (Str.ofString "/claim/cut.py") 573)])) (@List.toArray (@Option Value) []))
noncomputable abbrev o10x297 (P : Params) : Obj := (@Obj.mk (@Value.type "function") none (@Data.func (@FuncData.mk (Str.ofString "reckoned") (Str.ofString "reckoned") (fnA (stAt 37)) (FuncBody.stmts (fnB (stAt 37))) (fnS (stAt 37)) 3 [] Value.none Value.none Value.none (@Value.str (Str.ofString "snobol.operators") 543) none (@Value.ref 296) Value.none 0)) (@List.toArray (@Option Value) []))
noncomputable abbrev o10x298 (P : Params) : Obj := (@Obj.mk (@Value.type "tuple") none (@Data.seq (@List.toArray Value []) 0) (@List.toArray (@Option Value) []))
noncomputable abbrev o10x299 (P : Params) : Obj := (@Obj.mk Value.none none (@Data.fields (@List.toArray Value [])) (@List.toArray (@Option Value) []))
noncomputable abbrev o10x300 (P : Params) : Obj := (@Obj.mk (@Value.type "tuple") none (@Data.seq (@List.toArray Value [(@Value.str (Str.ofString "value") 578)]) 0) (@List.toArray (@Option Value) []))
noncomputable abbrev o10x301 (P : Params) : Obj := (@Obj.mk (@Value.type "tuple") none (@Data.seq (@List.toArray Value []) 0) (@List.toArray (@Option Value) []))
noncomputable abbrev o10x302 (P : Params) : Obj := (@Obj.mk Value.none none (@Data.func (@FuncData.mk (Str.ofString "is_part") (Str.ofString "is_part") (fnA (stAt 38)) (FuncBody.stmts (fnB (stAt 38))) (fnS (stAt 38)) 0 [] Value.none Value.none Value.none Value.none none Value.none Value.none 0)) (@List.toArray (@Option Value) []))
noncomputable abbrev o10x303 (P : Params) : Obj := (@Obj.mk (@Value.type "code") none (@Data.fields (@List.toArray Value [(@Value.str (Str.ofString "is_part") 575), (@Value.str (Str.ofString "is_part") 576), (@Value.str (Str.ofString "/claim/cut.py") 577), (@Value.int (@OfNat.ofNat Int (nat_lit 157) (@instOfNat (nat_lit 157))) 0), (@Value.int (@OfNat.ofNat Int (nat_lit 1) (@instOfNat (nat_lit 1))) 0), (@Value.int (@OfNat.ofNat Int (nat_lit 0) (@instOfNat (nat_lit 0))) 0), (@Value.int (@OfNat.ofNat Int (nat_lit 0) (@instOfNat (nat_lit 0))) 0), (@Value.int (@OfNat.ofNat Int (nat_lit 3) (@instOfNat (nat_lit 3))) 0), (@Value.ref 298), (@Value.bool Bool.true), (@Value.int (@OfNat.ofNat Int (nat_lit 181) (@instOfNat (nat_lit 181))) 0), (@Value.ref 299), Value.none, (@Value.ref 300), (@Value.ref 301), (@Value.ref 302), (@Value.int (@OfNat.ofNat Int (nat_lit 579) (@instOfNat (nat_lit 579))) 0), (@Value.int (@OfNat.ofNat Int (nat_lit 157) (@instOfNat (nat_lit 157))) 0), (@Value.str (Str.ofString "/claim/cut.py") 580)])) (@List.toArray (@Option Value) []))
noncomputable abbrev o10x304 (P : Params) : Obj := (@Obj.mk (@Value.type "function") none (@Data.func (@FuncData.mk (Str.ofString "is_part") (Str.ofString "is_part") (fnA (stAt 38)) (FuncBody.stmts (fnB (stAt 38))) (fnS (stAt 38)) 3 [] Value.none Value.none Value.none (@Value.str (Str.ofString "snobol.operators") 543) none (@Value.ref 303) Value.none 0)) (@List.toArray (@Option Value) []))
noncomputable abbrev o10x305 (P : Params) : Obj := (@Obj.mk (@Value.type "tuple") none (@Data.seq (@List.toArray Value []) 0) (@List.toArray (@Option Value) []))
noncomputable abbrev o10x306 (P : Params) : Obj := (@Obj.mk Value.none none (@Data.fields (@List.toArray Value [])) (@List.toArray (@Option Value) []))
noncomputable abbrev o10x307 (P : Params) : Obj := (@Obj.mk (@Value.type "tuple") none (@Data.seq (@List.toArray Value [(@Value.str (Str.ofString "world") 585), (@Value.str (Str.ofString "one") 586), (@Value.str (Str.ofString "other") 587)]) 0) (@List.toArray (@Option Value) []))
noncomputable abbrev o10x308 (P : Params) : Obj := (@Obj.mk (@Value.type "tuple") none (@Data.seq (@List.toArray Value []) 0) (@List.toArray (@Option Value) []))
noncomputable abbrev o10x309 (P : Params) : Obj := (@Obj.mk Value.none none (@Data.func (@FuncData.mk (Str.ofString "join_values") (Str.ofString "join_values") (fnA (stAt 39)) (FuncBody.stmts (fnB (stAt 39))) (fnS (stAt 39)) 0 [] Value.none Value.none Value.none Value.none none Value.none Value.none 0)) (@List.toArray (@Option Value) []))
noncomputable abbrev o10x310 (P : Params) : Obj := (@Obj.mk (@Value.type "code") none (@Data.fields (@List.toArray Value [(@Value.str (Str.ofString "join_values") 582), (@Value.str (Str.ofString "join_values") 583), (@Value.str (Str.ofString "/claim/cut.py") 584), (@Value.int (@OfNat.ofNat Int (nat_lit 159) (@instOfNat (nat_lit 159))) 0), (@Value.int (@OfNat.ofNat Int (nat_lit 3) (@instOfNat (nat_lit 3))) 0), (@Value.int (@OfNat.ofNat Int (nat_lit 0) (@instOfNat (nat_lit 0))) 0), (@Value.int (@OfNat.ofNat Int (nat_lit 0) (@instOfNat (nat_lit 0))) 0), (@Value.int (@OfNat.ofNat Int (nat_lit 3) (@instOfNat (nat_lit 3))) 0), (@Value.ref 305), (@Value.bool Bool.true), (@Value.int (@OfNat.ofNat Int (nat_lit 181) (@instOfNat (nat_lit 181))) 0), (@Value.ref 306), Value.none, (@Value.ref 307), (@Value.ref 308), (@Value.ref 309), (@Value.int (@OfNat.ofNat Int (nat_lit 588) (@instOfNat (nat_lit 588))) 0), (@Value.int (@OfNat.ofNat Int (nat_lit 159) (@instOfNat (nat_lit 159))) 0), (@Value.str (Str.ofString "/claim/cut.py") 589)])) (@List.toArray (@Option Value) []))
noncomputable abbrev o10x311 (P : Params) : Obj := (@Obj.mk (@Value.type "function") none (@Data.func (@FuncData.mk (Str.ofString "join_values") (Str.ofString "join_values") (fnA (stAt 39)) (FuncBody.stmts (fnB (stAt 39))) (fnS (stAt 39)) 3 [] Value.none Value.none Value.none (@Value.str (Str.ofString "snobol.operators") 543) none (@Value.ref 310) Value.none 0)) (@List.toArray (@Option Value) []))
noncomputable abbrev o10x312 (P : Params) : Obj := (@Obj.mk (@Value.type "tuple") none (@Data.seq (@List.toArray Value []) 0) (@List.toArray (@Option Value) []))
noncomputable abbrev o10x313 (P : Params) : Obj := (@Obj.mk Value.none none (@Data.fields (@List.toArray Value [])) (@List.toArray (@Option Value) []))
noncomputable abbrev o10x314 (P : Params) : Obj := (@Obj.mk (@Value.type "tuple") none (@Data.seq (@List.toArray Value [(@Value.str (Str.ofString "one") 594), (@Value.str (Str.ofString "other") 595)]) 0) (@List.toArray (@Option Value) []))
noncomputable abbrev o10x315 (P : Params) : Obj := (@Obj.mk (@Value.type "tuple") none (@Data.seq (@List.toArray Value []) 0) (@List.toArray (@Option Value) []))
noncomputable abbrev o10x316 (P : Params) : Obj := (@Obj.mk Value.none none (@Data.func (@FuncData.mk (Str.ofString "either_value") (Str.ofString "either_value") (fnA (stAt 40)) (FuncBody.stmts (fnB (stAt 40))) (fnS (stAt 40)) 0 [] Value.none Value.none Value.none Value.none none Value.none Value.none 0)) (@List.toArray (@Option Value) []))
noncomputable abbrev o10x317 (P : Params) : Obj := (@Obj.mk (@Value.type "code") none (@Data.fields (@List.toArray Value [(@Value.str (Str.ofString "either_value") 591), (@Value.str (Str.ofString "either_value") 592), (@Value.str (Str.ofString "/claim/cut.py") 593), (@Value.int (@OfNat.ofNat Int (nat_lit 169) (@instOfNat (nat_lit 169))) 0), (@Value.int (@OfNat.ofNat Int (nat_lit 2) (@instOfNat (nat_lit 2))) 0), (@Value.int (@OfNat.ofNat Int (nat_lit 0) (@instOfNat (nat_lit 0))) 0), (@Value.int (@OfNat.ofNat Int (nat_lit 0) (@instOfNat (nat_lit 0))) 0), (@Value.int (@OfNat.ofNat Int (nat_lit 3) (@instOfNat (nat_lit 3))) 0), (@Value.ref 312), (@Value.bool Bool.true), (@Value.int (@OfNat.ofNat Int (nat_lit 181) (@instOfNat (nat_lit 181))) 0), (@Value.ref 313), Value.none, (@Value.ref 314), (@Value.ref 315), (@Value.ref 316), (@Value.int (@OfNat.ofNat Int (nat_lit 596) (@instOfNat (nat_lit 596))) 0), (@Value.int (@OfNat.ofNat Int (nat_lit 169) (@instOfNat (nat_lit 169))) 0), (@Value.str (Str.ofString "/claim/cut.py") 597)])) (@List.toArray (@Option Value) []))
noncomputable abbrev o10x318 (P : Params) : Obj := (@Obj.mk (@Value.type "function") none (@Data.func (@FuncData.mk (Str.ofString "either_value") (Str.ofString "either_value") (fnA (stAt 40)) (FuncBody.stmts (fnB (stAt 40))) (fnS (stAt 40)) 3 [] Value.none Value.none Value.none (@Value.str (Str.ofString "snobol.operators") 543) none (@Value.ref 317) Value.none 0)) (@List.toArray (@Option Value) []))
noncomputable abbrev o10x319 (P : Params) : Obj := (@Obj.mk (@Value.type "tuple") none (@Data.seq (@List.toArray Value []) 0) (@List.toArray (@Option Value) []))
noncomputable abbrev o10x320 (P : Params) : Obj := (@Obj.mk Value.none none (@Data.fields (@List.toArray Value [])) (@List.toArray (@Option Value) []))
noncomputable abbrev o10x321 (P : Params) : Obj := (@Obj.mk (@Value.type "tuple") none (@Data.seq (@List.toArray Value [(@Value.str (Str.ofString "world") 602), (@Value.str (Str.ofString "op") 603), (@Value.str (Str.ofString "one") 604), (@Value.str (Str.ofString "other") 605), (@Value.str (Str.ofString "first") 606)]) 0) (@List.toArray (@Option Value) []))
noncomputable abbrev o10x322 (P : Params) : Obj := (@Obj.mk (@Value.type "tuple") none (@Data.seq (@List.toArray Value []) 0) (@List.toArray (@Option Value) []))
noncomputable abbrev o10x323 (P : Params) : Obj := (@Obj.mk Value.none none (@Data.func (@FuncData.mk (Str.ofString "binary_value") (Str.ofString "binary_value") (fnA (stAt 41)) (FuncBody.stmts (fnB (stAt 41))) (fnS (stAt 41)) 0 [] Value.none Value.none Value.none Value.none none Value.none Value.none 0)) (@List.toArray (@Option Value) []))
noncomputable abbrev o10x324 (P : Params) : Obj := (@Obj.mk (@Value.type "code") none (@Data.fields (@List.toArray Value [(@Value.str (Str.ofString "binary_value") 599), (@Value.str (Str.ofString "binary_value") 600), (@Value.str (Str.ofString "/claim/cut.py") 601), (@Value.int (@OfNat.ofNat Int (nat_lit 173) (@instOfNat (nat_lit 173))) 0), (@Value.int (@OfNat.ofNat Int (nat_lit 4) (@instOfNat (nat_lit 4))) 0), (@Value.int (@OfNat.ofNat Int (nat_lit 0) (@instOfNat (nat_lit 0))) 0), (@Value.int (@OfNat.ofNat Int (nat_lit 0) (@instOfNat (nat_lit 0))) 0), (@Value.int (@OfNat.ofNat Int (nat_lit 3) (@instOfNat (nat_lit 3))) 0), (@Value.ref 319), (@Value.bool Bool.true), (@Value.int (@OfNat.ofNat Int (nat_lit 181) (@instOfNat (nat_lit 181))) 0), (@Value.ref 320), Value.none, (@Value.ref 321), (@Value.ref 322), (@Value.ref 323), (@Value.int (@OfNat.ofNat Int (nat_lit 607) (@instOfNat (nat_lit 607))) 0), (@Value.int (@OfNat.ofNat Int (nat_lit 173) (@instOfNat (nat_lit 173))) 0), (@Value.str (Str.ofString "/claim/cut.py") 608)])) (@List.toArray (@Option Value) []))
noncomputable abbrev o10x325 (P : Params) : Obj := (@Obj.mk (@Value.type "function") none (@Data.func (@FuncData.mk (Str.ofString "binary_value") (Str.ofString "binary_value") (fnA (stAt 41)) (FuncBody.stmts (fnB (stAt 41))) (fnS (stAt 41)) 3 [] Value.none Value.none Value.none (@Value.str (Str.ofString "snobol.operators") 543) none (@Value.ref 324) Value.none 0)) (@List.toArray (@Option Value) []))
noncomputable abbrev o10x326 (P : Params) : Obj := (@Obj.mk (@Value.type "tuple") none (@Data.seq (@List.toArray Value []) 0) (@List.toArray (@Option Value) []))
noncomputable abbrev o10x327 (P : Params) : Obj := (@Obj.mk Value.none none (@Data.fields (@List.toArray Value [])) (@List.toArray (@Option Value) []))
noncomputable abbrev o10x328 (P : Params) : Obj := (@Obj.mk (@Value.type "tuple") none (@Data.seq (@List.toArray Value [(@Value.str (Str.ofString "world") 613), (@Value.str (Str.ofString "op") 614), (@Value.str (Str.ofString "value") 615), (@Value.str (Str.ofString "number") 616)]) 0) (@List.toArray (@Option Value) []))
noncomputable abbrev o10x329 (P : Params) : Obj := (@Obj.mk (@Value.type "tuple") none (@Data.seq (@List.toArray Value []) 0) (@List.toArray (@Option Value) []))
noncomputable abbrev o10x330 (P : Params) : Obj := (@Obj.mk Value.none none (@Data.func (@FuncData.mk (Str.ofString "unary_value") (Str.ofString "unary_value") (fnA (stAt 42)) (FuncBody.stmts (fnB (stAt 42))) (fnS (stAt 42)) 0 [] Value.none Value.none Value.none Value.none none Value.none Value.none 0)) (@List.toArray (@Option Value) []))
noncomputable abbrev o10x331 (P : Params) : Obj := (@Obj.mk (@Value.type "code") none (@Data.fields (@List.toArray Value [(@Value.str (Str.ofString "unary_value") 610), (@Value.str (Str.ofString "unary_value") 611), (@Value.str (Str.ofString "/claim/cut.py") 612), (@Value.int (@OfNat.ofNat Int (nat_lit 180) (@instOfNat (nat_lit 180))) 0), (@Value.int (@OfNat.ofNat Int (nat_lit 3) (@instOfNat (nat_lit 3))) 0), (@Value.int (@OfNat.ofNat Int (nat_lit 0) (@instOfNat (nat_lit 0))) 0), (@Value.int (@OfNat.ofNat Int (nat_lit 0) (@instOfNat (nat_lit 0))) 0), (@Value.int (@OfNat.ofNat Int (nat_lit 3) (@instOfNat (nat_lit 3))) 0), (@Value.ref 326), (@Value.bool Bool.true), (@Value.int (@OfNat.ofNat Int (nat_lit 181) (@instOfNat (nat_lit 181))) 0), (@Value.ref 327), Value.none, (@Value.ref 328), (@Value.ref 329), (@Value.ref 330), (@Value.int (@OfNat.ofNat Int (nat_lit 617) (@instOfNat (nat_lit 617))) 0), (@Value.int (@OfNat.ofNat Int (nat_lit 180) (@instOfNat (nat_lit 180))) 0), (@Value.str (Str.ofString "/claim/cut.py") 618)])) (@List.toArray (@Option Value) []))
noncomputable abbrev o10x332 (P : Params) : Obj := (@Obj.mk (@Value.type "function") none (@Data.func (@FuncData.mk (Str.ofString "unary_value") (Str.ofString "unary_value") (fnA (stAt 42)) (FuncBody.stmts (fnB (stAt 42))) (fnS (stAt 42)) 3 [] Value.none Value.none Value.none (@Value.str (Str.ofString "snobol.operators") 543) none (@Value.ref 331) Value.none 0)) (@List.toArray (@Option Value) []))
noncomputable abbrev hp7 (P : Params) : Heap := Heap.mk (Array.mk (boot_o_0 P :: boot_o_1 P :: o3x2 P :: o10x3 P :: boot_o_4 P :: boot_o_5 P :: boot_o_6 P :: boot_o_7 P :: boot_o_8 P :: boot_o_9 P :: boot_o_10 P :: o1x11 P :: o10x12 P :: o1x13 P :: o1x14 P :: o3x15 P :: o3x16 P :: o3x17 P :: o3x18 P :: o3x19 P :: o3x20 P :: o3x21 P :: o3x22 P :: o3x23 P :: o3x24 P :: o3x25 P :: o3x26 P :: o3x27 P :: o3x28 P :: o3x29 P :: o3x30 P :: o3x31 P :: o3x32 P :: o3x33 P :: o3x34 P :: o3x35 P :: o3x36 P :: o3x37 P :: o4x38 P :: o4x39 P :: o4x40 P :: o4x41 P :: o4x42 P :: o4x43 P :: o4x44 P :: o4x45 P :: o4x46 P :: o4x47 P :: o4x48 P :: o4x49 P :: o4x50 P :: o4x51 P :: o5x52 P :: o5x53 P :: o5x54 P :: o5x55 P :: o5x56 P :: o5x57 P :: o5x58 P :: o5x59 P :: o5x60 P :: o5x61 P :: o5x62 P :: o5x63 P :: o5x64 P :: o5x65 P :: o5x66 P :: o5x67 P :: o5x68 P :: o5x69 P :: o5x70 P :: o5x71 P :: o5x72 P :: o6x73 P :: o6x74 P :: o6x75 P :: o6x76 P :: o6x77 P :: o6x78 P :: o6x79 P :: o6x80 P :: o6x81 P :: o6x82 P :: o6x83 P :: o6x84 P :: o6x85 P :: o6x86 P :: o6x87 P :: o6x88 P :: o6x89 P :: o6x90 P :: o6x91 P :: o6x92 P :: o6x93 P :: o7x94 P :: o7x95 P :: o7x96 P :: o7x97 P :: o7x98 P :: o7x99 P :: o7x100 P :: o7x101 P :: o7x102 P :: o7x103 P :: o7x104 P :: o7x105 P :: o7x106 P :: o7x107 P :: o7x108 P :: o7x109 P :: o7x110 P :: o7x111 P :: o7x112 P :: o7x113 P :: o7x114 P :: o8x115 P :: o8x116 P :: o8x117 P :: o8x118 P :: o8x119 P :: o8x120 P :: o8x121 P :: o8x122 P :: o8x123 P :: o8x124 P :: o8x125 P :: o8x126 P :: o8x127 P :: o8x128 P :: o8x129 P :: o8x130 P :: o8x131 P :: o8x132 P :: o8x133 P :: o8x134 P :: o8x135 P :: o8x136 P :: o8x137 P :: o8x138 P :: o8x139 P :: o8x140 P :: o8x141 P :: o8x142 P :: o8x143 P :: o8x144 P :: o8x145 P :: o8x146 P :: o8x147 P :: o8x148 P :: o8x149 P :: o8x150 P :: o8x151 P :: o8x152 P :: o8x153 P :: o8x154 P :: o8x155 P :: o8x156 P :: o8x157 P :: o8x158 P :: o8x159 P :: o8x160 P :: o8x161 P :: o8x162 P :: o8x163 P :: o8x164 P :: o8x165 P :: o8x166 P :: o8x167 P :: o8x168 P :: o8x169 P :: o8x170 P :: o9x171 P :: o9x172 P :: o9x173 P :: o9x174 P :: o9x175 P :: o9x176 P :: o9x177 P :: o9x178 P :: o9x179 P :: o9x180 P :: o9x181 P :: o9x182 P :: o9x183 P :: o9x184 P :: o9x185 P :: o9x186 P :: o9x187 P :: o9x188 P :: o9x189 P :: o9x190 P :: o9x191 P :: o9x192 P :: o9x193 P :: o9x194 P :: o9x195 P :: o9x196 P :: o9x197 P :: o9x198 P :: o9x199 P :: o9x200 P :: o9x201 P :: o9x202 P :: o9x203 P :: o9x204 P :: o9x205 P :: o9x206 P :: o9x207 P :: o9x208 P :: o9x209 P :: o9x210 P :: o9x211 P :: o9x212 P :: o9x213 P :: o9x214 P :: o9x215 P :: o9x216 P :: o9x217 P :: o9x218 P :: o9x219 P :: o9x220 P :: o9x221 P :: o9x222 P :: o9x223 P :: o9x224 P :: o9x225 P :: o9x226 P :: o9x227 P :: o9x228 P :: o9x229 P :: o9x230 P :: o9x231 P :: o9x232 P :: o9x233 P :: o9x234 P :: o9x235 P :: o9x236 P :: o9x237 P :: o9x238 P :: o9x239 P :: o9x240 P :: o9x241 P :: o9x242 P :: o9x243 P :: o9x244 P :: o9x245 P :: o9x246 P :: o9x247 P :: o9x248 P :: o10x249 P :: o10x250 P :: o10x251 P :: o10x252 P :: o10x253 P :: o10x254 P :: o10x255 P :: o10x256 P :: o10x257 P :: o10x258 P :: o10x259 P :: o10x260 P :: o10x261 P :: o10x262 P :: o10x263 P :: o10x264 P :: o10x265 P :: o10x266 P :: o10x267 P :: o10x268 P :: o10x269 P :: o10x270 P :: o10x271 P :: o10x272 P :: o10x273 P :: o10x274 P :: o10x275 P :: o10x276 P :: o10x277 P :: o10x278 P :: o10x279 P :: o10x280 P :: o10x281 P :: o10x282 P :: o10x283 P :: o10x284 P :: o10x285 P :: o10x286 P :: o10x287 P :: o10x288 P :: o10x289 P :: o10x290 P :: o10x291 P :: o10x292 P :: o10x293 P :: o10x294 P :: o10x295 P :: o10x296 P :: o10x297 P :: o10x298 P :: o10x299 P :: o10x300 P :: o10x301 P :: o10x302 P :: o10x303 P :: o10x304 P :: o10x305 P :: o10x306 P :: o10x307 P :: o10x308 P :: o10x309 P :: o10x310 P :: o10x311 P :: o10x312 P :: o10x313 P :: o10x314 P :: o10x315 P :: o10x316 P :: o10x317 P :: o10x318 P :: o10x319 P :: o10x320 P :: o10x321 P :: o10x322 P :: o10x323 P :: o10x324 P :: o10x325 P :: o10x326 P :: o10x327 P :: o10x328 P :: o10x329 P :: o10x330 P :: o10x331 P :: o10x332 P :: [])) (@PySem.Life.mk [] [] [] 0 [] [] Bool.false (@List.toArray Nat []) [] 0 Bool.false Bool.false Bool.false (@OfNat.ofNat Int (nat_lit 0) (@instOfNat (nat_lit 0))) [(@OfNat.ofNat Int (nat_lit 2000) (@instOfNat (nat_lit 2000))), (@OfNat.ofNat Int (nat_lit 10) (@instOfNat (nat_lit 10))), (@OfNat.ofNat Int (nat_lit 10) (@instOfNat (nat_lit 10)))] Bool.false 0 Bool.true [] [] 0 Bool.false)
noncomputable abbrev shp7 (w : World) (os : OsState) : Shared := ⟨hp7 w.params, Array.mk [], (@PySem.Drawn.mk 0 0 0 0), (nat_lit 620), os⟩
noncomputable abbrev sts7 : List Stmt := (bodT.drop 29).take 14
theorem seg7 : ∀ (w : World) (os : OsState), segRun treeTable pw w (nat_lit 11) (some (@Value.ref 6)) (nat_lit 1) (nat_lit 393) (shp6 w os) (piecesOf sts7 envT cT ⟨96, 0, 97, 30⟩ B_T) = some (Flow.next, shp7 w os, cT, ⟨180, 0, 184, 71⟩) := by
  intro w os; kernel_rfl
noncomputable abbrev o11x3 (P : Params) : Obj := (@Obj.mk (@Value.type "dict") none (@Data.dict (@List.toArray PySem.DictEntry [(@DictEntry.mk (@PyData.keyHash P (Str.ofString "__name__")) (@Value.str (Str.ofString "__name__") 165) (@Value.str (Str.ofString "snobol.plainexpr") 620)), (@DictEntry.mk (@PyData.keyHash P (Str.ofString "__doc__")) (@Value.str (Str.ofString "__doc__") 166) Value.none), (@DictEntry.mk (@PyData.keyHash P (Str.ofString "__package__")) (@Value.str (Str.ofString "__package__") 167) Value.none), (@DictEntry.mk (@PyData.keyHash P (Str.ofString "__loader__")) (@Value.str (Str.ofString "__loader__") 168) (@Value.builtin "__main__.__loader__#opaque")), (@DictEntry.mk (@PyData.keyHash P (Str.ofString "__spec__")) (@Value.str (Str.ofString "__spec__") 169) Value.none), (@DictEntry.mk (@PyData.keyHash P (Str.ofString "__annotations__")) (@Value.str (Str.ofString "__annotations__") 170) (@Value.ref 6)), (@DictEntry.mk (@PyData.keyHash P (Str.ofString "__builtins__")) (@Value.str (Str.ofString "__builtins__") 171) (@Value.ref 4)), (@DictEntry.mk (@PyData.keyHash P (Str.ofString "__file__")) (@Value.str (Str.ofString "__file__") 173) (@Value.str (Str.ofString "/claim/cut.py") 172)), (@DictEntry.mk (@PyData.keyHash P (Str.ofString "__cached__")) (@Value.str (Str.ofString "__cached__") 174) Value.none), (@DictEntry.mk (@PyData.keyHash P (Str.ofString "SnobolError")) (@Value.str (Str.ofString "SnobolError") 222) (@Value.ref 34)), (@DictEntry.mk (@PyData.keyHash P (Str.ofString "Failure")) (@Value.str (Str.ofString "Failure") 242) (@Value.ref 47)), (@DictEntry.mk (@PyData.keyHash P (Str.ofString "Pattern")) (@Value.str (Str.ofString "Pattern") 271) (@Value.ref 68)), (@DictEntry.mk (@PyData.keyHash P (Str.ofString "Delayed")) (@Value.str (Str.ofString "Delayed") 300) (@Value.ref 89)), (@DictEntry.mk (@PyData.keyHash P (Str.ofString "NameRef")) (@Value.str (Str.ofString "NameRef") 333) (@Value.ref 110)), (@DictEntry.mk (@PyData.keyHash P (Str.ofString "Holder")) (@Value.str (Str.ofString "Holder") 365) (@Value.ref 131)), (@DictEntry.mk (@PyData.keyHash P (Str.ofString "is_fail")) (@Value.str (Str.ofString "is_fail") 372) (@Value.ref 142)), (@DictEntry.mk (@PyData.keyHash P (Str.ofString "is_null")) (@Value.str (Str.ofString "is_null") 379) (@Value.ref 149)), (@DictEntry.mk (@PyData.keyHash P (Str.ofString "is_plain")) (@Value.str (Str.ofString "is_plain") 386) (@Value.ref 156)), (@DictEntry.mk (@PyData.keyHash P (Str.ofString "fits")) (@Value.str (Str.ofString "fits") 394) (@Value.ref 163)), (@DictEntry.mk (@PyData.keyHash P (Str.ofString "whole_of_text")) (@Value.str (Str.ofString "whole_of_text") 405) (@Value.ref 170)), (@DictEntry.mk (@PyData.keyHash P (Str.ofString "text_of_whole")) (@Value.str (Str.ofString "text_of_whole") 414) (@Value.ref 177)), (@DictEntry.mk (@PyData.keyHash P (Str.ofString "to_whole")) (@Value.str (Str.ofString "to_whole") 422) (@Value.ref 184)), (@DictEntry.mk (@PyData.keyHash P (Str.ofString "to_text")) (@Value.str (Str.ofString "to_text") 429) (@Value.ref 191)), (@DictEntry.mk (@PyData.keyHash P (Str.ofString "need_whole")) (@Value.str (Str.ofString "need_whole") 438) (@Value.ref 198)), (@DictEntry.mk (@PyData.keyHash P (Str.ofString "checked_whole")) (@Value.str (Str.ofString "checked_whole") 446) (@Value.ref 205)), (@DictEntry.mk (@PyData.keyHash P (Str.ofString "NULL_NODE")) (@Value.str (Str.ofString "NULL_NODE") 451) (@Value.ref 206)), (@DictEntry.mk (@PyData.keyHash P (Str.ofString "MOST_PARTS")) (@Value.str (Str.ofString "MOST_PARTS") 453) (@Value.int (@OfNat.ofNat Int (nat_lit 600) (@instOfNat (nat_lit 600))) 452)), (@DictEntry.mk (@PyData.keyHash P (Str.ofString "MOST_DEPTH")) (@Value.str (Str.ofString "MOST_DEPTH") 455) (@Value.int (@OfNat.ofNat Int (nat_lit 100) (@instOfNat (nat_lit 100))) 454)), (@DictEntry.mk (@PyData.keyHash P (Str.ofString "MOST_SIGNS")) (@Value.str (Str.ofString "MOST_SIGNS") 457) (@Value.int (@OfNat.ofNat Int (nat_lit 20000) (@instOfNat (nat_lit 20000))) 456)), (@DictEntry.mk (@PyData.keyHash P (Str.ofString "TOO_GREAT")) (@Value.str (Str.ofString "TOO_GREAT") 459) (@Value.int (@OfNat.ofNat Int (nat_lit 23) (@instOfNat (nat_lit 23))) 458)), (@DictEntry.mk (@PyData.keyHash P (Str.ofString "is_null_node")) (@Value.str (Str.ofString "is_null_node") 466) (@Value.ref 213)), (@DictEntry.mk (@PyData.keyHash P (Str.ofString "later_node")) (@Value.str (Str.ofString "later_node") 474) (@Value.ref 220)), (@DictEntry.mk (@PyData.keyHash P (Str.ofString "now_node")) (@Value.str (Str.ofString "now_node") 482) (@Value.ref 227)), (@DictEntry.mk (@PyData.keyHash P (Str.ofString "cursor_node")) (@Value.str (Str.ofString "cursor_node") 489) (@Value.ref 234)), (@DictEntry.mk (@PyData.keyHash P (Str.ofString "joined")) (@Value.str (Str.ofString "joined") 497) (@Value.ref 241)), (@DictEntry.mk (@PyData.keyHash P (Str.ofString "either")) (@Value.str (Str.ofString "either") 505) (@Value.ref 248)), (@DictEntry.mk (@PyData.keyHash P (Str.ofString "pattern_of")) (@Value.str (Str.ofString "pattern_of") 513) (@Value.ref 255)), (@DictEntry.mk (@PyData.keyHash P (Str.ofString "parts_of")) (@Value.str (Str.ofString "parts_of") 520) (@Value.ref 262)), (@DictEntry.mk (@PyData.keyHash P (Str.ofString "checked_node")) (@Value.str (Str.ofString "checked_node") 532) (@Value.ref 269)), (@DictEntry.mk (@PyData.keyHash P (Str.ofString "check_length")) (@Value.str (Str.ofString "check_length") 542) (@Value.ref 276)), (@DictEntry.mk (@PyData.keyHash P (Str.ofString "divided")) (@Value.str (Str.ofString "divided") 553) (@Value.ref 283)), (@DictEntry.mk (@PyData.keyHash P (Str.ofString "raised_to")) (@Value.str (Str.ofString "raised_to") 564) (@Value.ref 290)), (@DictEntry.mk (@PyData.keyHash P (Str.ofString "reckoned")) (@Value.str (Str.ofString "reckoned") 574) (@Value.ref 297)), (@DictEntry.mk (@PyData.keyHash P (Str.ofString "is_part")) (@Value.str (Str.ofString "is_part") 581) (@Value.ref 304)), (@DictEntry.mk (@PyData.keyHash P (Str.ofString "join_values")) (@Value.str (Str.ofString "join_values") 590) (@Value.ref 311)), (@DictEntry.mk (@PyData.keyHash P (Str.ofString "either_value")) (@Value.str (Str.ofString "either_value") 598) (@Value.ref 318)), (@DictEntry.mk (@PyData.keyHash P (Str.ofString "binary_value")) (@Value.str (Str.ofString "binary_value") 609) (@Value.ref 325)), (@DictEntry.mk (@PyData.keyHash P (Str.ofString "unary_value")) (@Value.str (Str.ofString "unary_value") 619) (@Value.ref 332)), (@DictEntry.mk (@PyData.keyHash P (Str.ofString "ExprHooks")) (@Value.str (Str.ofString "ExprHooks") 675) (@Value.ref 363)), (@DictEntry.mk (@PyData.keyHash P (Str.ofString "worth")) (@Value.str (Str.ofString "worth") 685) (@Value.ref 374)), (@DictEntry.mk (@PyData.keyHash P (Str.ofString "worths")) (@Value.str (Str.ofString "worths") 696) (@Value.ref 381))]) 51) (@List.toArray (@Option Value) []))
noncomputable abbrev o11x12 (P : Params) : Obj := (@Obj.mk Value.none none (@Data.fields (@List.toArray Value ((@Value.int (@OfNat.ofNat Int (nat_lit 2) (@instOfNat (nat_lit 2))) 0) :: (@Value.int (@OfNat.ofNat Int (nat_lit 0) (@instOfNat (nat_lit 0))) 0) :: (@Value.ref 21) :: (@Value.int (@OfNat.ofNat Int (nat_lit 8) (@instOfNat (nat_lit 8))) 0) :: (@Value.int (@OfNat.ofNat Int (nat_lit 0) (@instOfNat (nat_lit 0))) 0) :: (@Value.ref 43) :: (@Value.int (@OfNat.ofNat Int (nat_lit 10) (@instOfNat (nat_lit 10))) 0) :: (@Value.int (@OfNat.ofNat Int (nat_lit 0) (@instOfNat (nat_lit 0))) 0) :: (@Value.ref 57) :: (@Value.int (@OfNat.ofNat Int (nat_lit 14) (@instOfNat (nat_lit 14))) 0) :: (@Value.int (@OfNat.ofNat Int (nat_lit 0) (@instOfNat (nat_lit 0))) 0) :: (@Value.ref 78) :: (@Value.int (@OfNat.ofNat Int (nat_lit 18) (@instOfNat (nat_lit 18))) 0) :: (@Value.int (@OfNat.ofNat Int (nat_lit 0) (@instOfNat (nat_lit 0))) 0) :: (@Value.ref 99) :: (@Value.int (@OfNat.ofNat Int (nat_lit 24) (@instOfNat (nat_lit 24))) 0) :: (@Value.int (@OfNat.ofNat Int (nat_lit 0) (@instOfNat (nat_lit 0))) 0) :: (@Value.ref 120) :: (@Value.int (@OfNat.ofNat Int (nat_lit 30) (@instOfNat (nat_lit 30))) 0) :: (@Value.int (@OfNat.ofNat Int (nat_lit 0) (@instOfNat (nat_lit 0))) 0) :: (@Value.ref 141) :: (@Value.int (@OfNat.ofNat Int (nat_lit 32) (@instOfNat (nat_lit 32))) 0) :: (@Value.int (@OfNat.ofNat Int (nat_lit 0) (@instOfNat (nat_lit 0))) 0) :: (@Value.ref 148) :: (@Value.int (@OfNat.ofNat Int (nat_lit 34) (@instOfNat (nat_lit 34))) 0) :: (@Value.int (@OfNat.ofNat Int (nat_lit 0) (@instOfNat (nat_lit 0))) 0) :: (@Value.ref 155) :: (@Value.int (@OfNat.ofNat Int (nat_lit 36) (@instOfNat (nat_lit 36))) 0) :: (@Value.int (@OfNat.ofNat Int (nat_lit 0) (@instOfNat (nat_lit 0))) 0) :: (@Value.ref 162) :: (@Value.int (@OfNat.ofNat Int (nat_lit 38) (@instOfNat (nat_lit 38))) 0) :: (@Value.int (@OfNat.ofNat Int (nat_lit 0) (@instOfNat (nat_lit 0))) 0) :: (@Value.ref 169) :: (@Value.int (@OfNat.ofNat Int (nat_lit 51) (@instOfNat (nat_lit 51))) 0) :: (@Value.int (@OfNat.ofNat Int (nat_lit 0) (@instOfNat (nat_lit 0))) 0) :: (@Value.ref 176) :: (@Value.int (@OfNat.ofNat Int (nat_lit 57) (@instOfNat (nat_lit 57))) 0) :: (@Value.int (@OfNat.ofNat Int (nat_lit 0) (@instOfNat (nat_lit 0))) 0) :: (@Value.ref 183) :: (@Value.int (@OfNat.ofNat Int (nat_lit 61) (@instOfNat (nat_lit 61))) 0) :: (@Value.int (@OfNat.ofNat Int (nat_lit 0) (@instOfNat (nat_lit 0))) 0) :: (@Value.ref 190) :: (@Value.int (@OfNat.ofNat Int (nat_lit 65) (@instOfNat (nat_lit 65))) 0) :: (@Value.int (@OfNat.ofNat Int (nat_lit 0) (@instOfNat (nat_lit 0))) 0) :: (@Value.ref 197) :: (@Value.int (@OfNat.ofNat Int (nat_lit 70) (@instOfNat (nat_lit 70))) 0) :: (@Value.int (@OfNat.ofNat Int (nat_lit 0) (@instOfNat (nat_lit 0))) 0) :: (@Value.ref 204) :: (@Value.int (@OfNat.ofNat Int (nat_lit 80) (@instOfNat (nat_lit 80))) 0) :: (@Value.int (@OfNat.ofNat Int (nat_lit 0) (@instOfNat (nat_lit 0))) 0) :: (@Value.ref 212) :: (@Value.int (@OfNat.ofNat Int (nat_lit 82) (@instOfNat (nat_lit 82))) 0) :: (@Value.int (@OfNat.ofNat Int (nat_lit 0) (@instOfNat (nat_lit 0))) 0) :: (@Value.ref 219) :: (@Value.int (@OfNat.ofNat Int (nat_lit 84) (@instOfNat (nat_lit 84))) 0) :: (@Value.int (@OfNat.ofNat Int (nat_lit 0) (@instOfNat (nat_lit 0))) 0) :: (@Value.ref 226) :: (@Value.int (@OfNat.ofNat Int (nat_lit 86) (@instOfNat (nat_lit 86))) 0) :: (@Value.int (@OfNat.ofNat Int (nat_lit 0) (@instOfNat (nat_lit 0))) 0) :: (@Value.ref 233) :: (@Value.int (@OfNat.ofNat Int (nat_lit 88) (@instOfNat (nat_lit 88))) 0) :: (@Value.int (@OfNat.ofNat Int (nat_lit 0) (@instOfNat (nat_lit 0))) 0) :: (@Value.ref 240) :: (@Value.int (@OfNat.ofNat Int (nat_lit 96) (@instOfNat (nat_lit 96))) 0) :: (@Value.int (@OfNat.ofNat Int (nat_lit 0) (@instOfNat (nat_lit 0))) 0) :: (@Value.ref 247) :: (@Value.int (@OfNat.ofNat Int (nat_lit 98) (@instOfNat (nat_lit 98))) 0) :: (@Value.int (@OfNat.ofNat Int (nat_lit 0) (@instOfNat (nat_lit 0))) 0) :: (@Value.ref 254) :: (@Value.int (@OfNat.ofNat Int (nat_lit 107) (@instOfNat (nat_lit 107))) 0) :: (@Value.int (@OfNat.ofNat Int (nat_lit 0) (@instOfNat (nat_lit 0))) 0) :: (@Value.ref 261) :: (@Value.int (@OfNat.ofNat Int (nat_lit 111) (@instOfNat (nat_lit 111))) 0) :: (@Value.int (@OfNat.ofNat Int (nat_lit 0) (@instOfNat (nat_lit 0))) 0) :: (@Value.ref 268) :: (@Value.int (@OfNat.ofNat Int (nat_lit 122) (@instOfNat (nat_lit 122))) 0) :: (@Value.int (@OfNat.ofNat Int (nat_lit 0) (@instOfNat (nat_lit 0))) 0) :: (@Value.ref 275) :: (@Value.int (@OfNat.ofNat Int (nat_lit 127) (@instOfNat (nat_lit 127))) 0) :: (@Value.int (@OfNat.ofNat Int (nat_lit 0) (@instOfNat (nat_lit 0))) 0) :: (@Value.ref 282) :: (@Value.int (@OfNat.ofNat Int (nat_lit 132) (@instOfNat (nat_lit 132))) 0) :: (@Value.int (@OfNat.ofNat Int (nat_lit 0) (@instOfNat (nat_lit 0))) 0) :: (@Value.ref 289) :: (@Value.int (@OfNat.ofNat Int (nat_lit 145) (@instOfNat (nat_lit 145))) 0) :: (@Value.int (@OfNat.ofNat Int (nat_lit 0) (@instOfNat (nat_lit 0))) 0) :: (@Value.ref 296) :: (@Value.int (@OfNat.ofNat Int (nat_lit 157) (@instOfNat (nat_lit 157))) 0) :: (@Value.int (@OfNat.ofNat Int (nat_lit 0) (@instOfNat (nat_lit 0))) 0) :: (@Value.ref 303) :: (@Value.int (@OfNat.ofNat Int (nat_lit 159) (@instOfNat (nat_lit 159))) 0) :: (@Value.int (@OfNat.ofNat Int (nat_lit 0) (@instOfNat (nat_lit 0))) 0) :: (@Value.ref 310) :: (@Value.int (@OfNat.ofNat Int (nat_lit 169) (@instOfNat (nat_lit 169))) 0) :: (@Value.int (@OfNat.ofNat Int (nat_lit 0) (@instOfNat (nat_lit 0))) 0) :: (@Value.ref 317) :: (@Value.int (@OfNat.ofNat Int (nat_lit 173) (@instOfNat (nat_lit 173))) 0) :: (@Value.int (@OfNat.ofNat Int (nat_lit 0) (@instOfNat (nat_lit 0))) 0) :: (@Value.ref 324) :: (@Value.int (@OfNat.ofNat Int (nat_lit 180) (@instOfNat (nat_lit 180))) 0) :: (@Value.int (@OfNat.ofNat Int (nat_lit 0) (@instOfNat (nat_lit 0))) 0) :: (@Value.ref 331) :: (@Value.int (@OfNat.ofNat Int (nat_lit 186) (@instOfNat (nat_lit 186))) 0) :: (@Value.int (@OfNat.ofNat Int (nat_lit 0) (@instOfNat (nat_lit 0))) 0) :: (@Value.ref 338) :: (@Value.int (@OfNat.ofNat Int (nat_lit 204) (@instOfNat (nat_lit 204))) 0) :: (@Value.int (@OfNat.ofNat Int (nat_lit 0) (@instOfNat (nat_lit 0))) 0) :: (@Value.ref 373) :: (@Value.int (@OfNat.ofNat Int (nat_lit 220) (@instOfNat (nat_lit 220))) 0) :: (@Value.int (@OfNat.ofNat Int (nat_lit 0) (@instOfNat (nat_lit 0))) 0) :: (@Value.ref 380) :: []))) (@List.toArray (@Option Value) []))
noncomputable abbrev o11x333 (P : Params) : Obj := (@Obj.mk (@Value.type "tuple") none (@Data.seq (@List.toArray Value []) 0) (@List.toArray (@Option Value) []))
noncomputable abbrev o11x334 (P : Params) : Obj := (@Obj.mk (@Value.type "builtin_function_or_method") none (@Data.fields (@List.toArray Value [(@Value.builtin "type.__prepare__"), (@Value.type "type")])) (@List.toArray (@Option Value) []))
noncomputable abbrev o11x335 (P : Params) : Obj := (@Obj.mk (@Value.type "dict") none (@Data.dict (@List.toArray PySem.DictEntry [(@DictEntry.mk (@PyData.keyHash P (Str.ofString "__module__")) (@Value.str (Str.ofString "__module__") 629) (@Value.str (Str.ofString "snobol.plainexpr") 620)), (@DictEntry.mk (@PyData.keyHash P (Str.ofString "__qualname__")) (@Value.str (Str.ofString "__qualname__") 631) (@Value.str (Str.ofString "ExprHooks") 630)), (@DictEntry.mk (@PyData.keyHash P (Str.ofString "__firstlineno__")) (@Value.str (Str.ofString "__firstlineno__") 633) (@Value.int (@OfNat.ofNat Int (nat_lit 186) (@instOfNat (nat_lit 186))) 632)), (@DictEntry.mk (@PyData.keyHash P (Str.ofString "__init__")) (@Value.str (Str.ofString "__init__") 644) (@Value.ref 346)), (@DictEntry.mk (@PyData.keyHash P (Str.ofString "get")) (@Value.str (Str.ofString "get") 652) (@Value.ref 353)), (@DictEntry.mk (@PyData.keyHash P (Str.ofString "call")) (@Value.str (Str.ofString "call") 662) (@Value.ref 360)), (@DictEntry.mk (@PyData.keyHash P (Str.ofString "__static_attributes__")) (@Value.str (Str.ofString "__static_attributes__") 668) (@Value.ref 361))]) 7) (@List.toArray (@Option Value) []))
noncomputable abbrev o11x336 (P : Params) : Obj := (@Obj.mk (@Value.type "tuple") none (@Data.seq (@List.toArray Value []) 0) (@List.toArray (@Option Value) []))
noncomputable abbrev o11x337 (P : Params) : Obj := (@Obj.mk Value.none none (@Data.fields (@List.toArray Value [(@Value.int (@OfNat.ofNat Int (nat_lit 188) (@instOfNat (nat_lit 188))) 0), (@Value.int (@OfNat.ofNat Int (nat_lit 4) (@instOfNat (nat_lit 4))) 0), (@Value.ref 345), (@Value.int (@OfNat.ofNat Int (nat_lit 195) (@instOfNat (nat_lit 195))) 0), (@Value.int (@OfNat.ofNat Int (nat_lit 4) (@instOfNat (nat_lit 4))) 0), (@Value.ref 352), (@Value.int (@OfNat.ofNat Int (nat_lit 198) (@instOfNat (nat_lit 198))) 0), (@Value.int (@OfNat.ofNat Int (nat_lit 4) (@instOfNat (nat_lit 4))) 0), (@Value.ref 359)])) (@List.toArray (@Option Value) []))
noncomputable abbrev o11x338 (P : Params) : Obj := (@Obj.mk (@Value.type "code") none (@Data.fields (@List.toArray Value [(@Value.str (Str.ofString "ExprHooks") 624), (@Value.str (Str.ofString "ExprHooks") 625), (@Value.str (Str.ofString "/claim/cut.py") 626), (@Value.int (@OfNat.ofNat Int (nat_lit 186) (@instOfNat (nat_lit 186))) 0), (@Value.int (@OfNat.ofNat Int (nat_lit 0) (@instOfNat (nat_lit 0))) 0), (@Value.int (@OfNat.ofNat Int (nat_lit 0) (@instOfNat (nat_lit 0))) 0), (@Value.int (@OfNat.ofNat Int (nat_lit 0) (@instOfNat (nat_lit 0))) 0), (@Value.int (@OfNat.ofNat Int (nat_lit 0) (@instOfNat (nat_lit 0))) 0), (@Value.ref 336), (@Value.bool Bool.false), (@Value.int (@OfNat.ofNat Int (nat_lit 181) (@instOfNat (nat_lit 181))) 0), (@Value.ref 337), Value.none, Value.none, Value.none, Value.none, (@Value.int (@OfNat.ofNat Int (nat_lit 627) (@instOfNat (nat_lit 627))) 0), (@Value.int (@OfNat.ofNat Int (nat_lit 186) (@instOfNat (nat_lit 186))) 0), (@Value.str (Str.ofString "/claim/cut.py") 628)])) (@List.toArray (@Option Value) []))
noncomputable abbrev o11x339 (P : Params) : Obj := (@Obj.mk (@Value.type "frame") none PySem.Data.plain (@List.toArray (@Option Value) [(some (@Value.ref 338)), (some (@Value.ref 3)), (some (@Value.ref 335)), none, (some (@Value.str (Str.ofString "snobol.plainexpr") 620)), none, (some (@Value.ref 0))]))
noncomputable abbrev o11x340 (P : Params) : Obj := (@Obj.mk (@Value.type "tuple") none (@Data.seq (@List.toArray Value []) 0) (@List.toArray (@Option Value) []))
noncomputable abbrev o11x341 (P : Params) : Obj := (@Obj.mk Value.none none (@Data.fields (@List.toArray Value [])) (@List.toArray (@Option Value) []))
noncomputable abbrev o11x342 (P : Params) : Obj := (@Obj.mk (@Value.type "tuple") none (@Data.seq (@List.toArray Value [(@Value.str (Str.ofString "self") 637), (@Value.str (Str.ofString "values") 638), (@Value.str (Str.ofString "functions") 639), (@Value.str (Str.ofString "width") 640), (@Value.str (Str.ofString "most_length") 641)]) 0) (@List.toArray (@Option Value) []))
noncomputable abbrev o11x343 (P : Params) : Obj := (@Obj.mk (@Value.type "tuple") none (@Data.seq (@List.toArray Value []) 0) (@List.toArray (@Option Value) []))
noncomputable abbrev o11x344 (P : Params) : Obj := (@Obj.mk Value.none none (@Data.func (@FuncData.mk (Str.ofString "__init__") (Str.ofString "ExprHooks.__init__") (fnA (stIn 44 0)) (FuncBody.stmts (fnB (stIn 44 0))) (fnS (stIn 44 0)) 0 [] Value.none Value.none Value.none Value.none none Value.none Value.none 0)) (@List.toArray (@Option Value) []))
noncomputable abbrev o11x345 (P : Params) : Obj := (@Obj.mk (@Value.type "code") none (@Data.fields (@List.toArray Value [(@Value.str (Str.ofString "__init__") 634), (@Value.str (Str.ofString "ExprHooks.__init__") 635), (@Value.str (Str.ofString "/claim/cut.py") 636), (@Value.int (@OfNat.ofNat Int (nat_lit 188) (@instOfNat (nat_lit 188))) 0), (@Value.int (@OfNat.ofNat Int (nat_lit 5) (@instOfNat (nat_lit 5))) 0), (@Value.int (@OfNat.ofNat Int (nat_lit 0) (@instOfNat (nat_lit 0))) 0), (@Value.int (@OfNat.ofNat Int (nat_lit 0) (@instOfNat (nat_lit 0))) 0), (@Value.int (@OfNat.ofNat Int (nat_lit 3) (@instOfNat (nat_lit 3))) 0), (@Value.ref 340), (@Value.bool Bool.true), (@Value.int (@OfNat.ofNat Int (nat_lit 181) (@instOfNat (nat_lit 181))) 0), (@Value.ref 341), Value.none, (@Value.ref 342), (@Value.ref 343), (@Value.ref 344), (@Value.int (@OfNat.ofNat Int (nat_lit 642) (@instOfNat (nat_lit 642))) 0), (@Value.int (@OfNat.ofNat Int (nat_lit 188) (@instOfNat (nat_lit 188))) 0), (@Value.str (Str.ofString "/claim/cut.py") 643)])) (@List.toArray (@Option Value) []))
noncomputable abbrev o11x346 (P : Params) : Obj := (@Obj.mk (@Value.type "function") none (@Data.func (@FuncData.mk (Str.ofString "__init__") (Str.ofString "ExprHooks.__init__") (fnA (stIn 44 0)) (FuncBody.stmts (fnB (stIn 44 0))) (fnS (stIn 44 0)) 3 [] Value.none Value.none Value.none (@Value.str (Str.ofString "snobol.plainexpr") 620) none (@Value.ref 345) Value.none 0)) (@List.toArray (@Option Value) []))
noncomputable abbrev o11x347 (P : Params) : Obj := (@Obj.mk (@Value.type "tuple") none (@Data.seq (@List.toArray Value []) 0) (@List.toArray (@Option Value) []))
noncomputable abbrev o11x348 (P : Params) : Obj := (@Obj.mk Value.none none (@Data.fields (@List.toArray Value [])) (@List.toArray (@Option Value) []))
noncomputable abbrev o11x349 (P : Params) : Obj := (@Obj.mk (@Value.type "tuple") none (@Data.seq (@List.toArray Value [(@Value.str (Str.ofString "self") 648), (@Value.str (Str.ofString "name") 649)]) 0) (@List.toArray (@Option Value) []))
noncomputable abbrev o11x350 (P : Params) : Obj := (@Obj.mk (@Value.type "tuple") none (@Data.seq (@List.toArray Value []) 0) (@List.toArray (@Option Value) []))
noncomputable abbrev o11x351 (P : Params) : Obj := (@Obj.mk Value.none none (@Data.func (@FuncData.mk (Str.ofString "get") (Str.ofString "ExprHooks.get") (fnA (stIn 44 1)) (FuncBody.stmts (fnB (stIn 44 1))) (fnS (stIn 44 1)) 0 [] Value.none Value.none Value.none Value.none none Value.none Value.none 0)) (@List.toArray (@Option Value) []))
noncomputable abbrev o11x352 (P : Params) : Obj := (@Obj.mk (@Value.type "code") none (@Data.fields (@List.toArray Value [(@Value.str (Str.ofString "get") 645), (@Value.str (Str.ofString "ExprHooks.get") 646), (@Value.str (Str.ofString "/claim/cut.py") 647), (@Value.int (@OfNat.ofNat Int (nat_lit 195) (@instOfNat (nat_lit 195))) 0), (@Value.int (@OfNat.ofNat Int (nat_lit 2) (@instOfNat (nat_lit 2))) 0), (@Value.int (@OfNat.ofNat Int (nat_lit 0) (@instOfNat (nat_lit 0))) 0), (@Value.int (@OfNat.ofNat Int (nat_lit 0) (@instOfNat (nat_lit 0))) 0), (@Value.int (@OfNat.ofNat Int (nat_lit 3) (@instOfNat (nat_lit 3))) 0), (@Value.ref 347), (@Value.bool Bool.true), (@Value.int (@OfNat.ofNat Int (nat_lit 181) (@instOfNat (nat_lit 181))) 0), (@Value.ref 348), Value.none, (@Value.ref 349), (@Value.ref 350), (@Value.ref 351), (@Value.int (@OfNat.ofNat Int (nat_lit 650) (@instOfNat (nat_lit 650))) 0), (@Value.int (@OfNat.ofNat Int (nat_lit 195) (@instOfNat (nat_lit 195))) 0), (@Value.str (Str.ofString "/claim/cut.py") 651)])) (@List.toArray (@Option Value) []))
noncomputable abbrev o11x353 (P : Params) : Obj := (@Obj.mk (@Value.type "function") none (@Data.func (@FuncData.mk (Str.ofString "get") (Str.ofString "ExprHooks.get") (fnA (stIn 44 1)) (FuncBody.stmts (fnB (stIn 44 1))) (fnS (stIn 44 1)) 3 [] Value.none Value.none Value.none (@Value.str (Str.ofString "snobol.plainexpr") 620) none (@Value.ref 352) Value.none 0)) (@List.toArray (@Option Value) []))
noncomputable abbrev o11x354 (P : Params) : Obj := (@Obj.mk (@Value.type "tuple") none (@Data.seq (@List.toArray Value []) 0) (@List.toArray (@Option Value) []))
noncomputable abbrev o11x355 (P : Params) : Obj := (@Obj.mk Value.none none (@Data.fields (@List.toArray Value [])) (@List.toArray (@Option Value) []))
noncomputable abbrev o11x356 (P : Params) : Obj := (@Obj.mk (@Value.type "tuple") none (@Data.seq (@List.toArray Value [(@Value.str (Str.ofString "self") 656), (@Value.str (Str.ofString "name") 657), (@Value.str (Str.ofString "args") 658), (@Value.str (Str.ofString "given") 659)]) 0) (@List.toArray (@Option Value) []))
noncomputable abbrev o11x357 (P : Params) : Obj := (@Obj.mk (@Value.type "tuple") none (@Data.seq (@List.toArray Value []) 0) (@List.toArray (@Option Value) []))
noncomputable abbrev o11x358 (P : Params) : Obj := (@Obj.mk Value.none none (@Data.func (@FuncData.mk (Str.ofString "call") (Str.ofString "ExprHooks.call") (fnA (stIn 44 2)) (FuncBody.stmts (fnB (stIn 44 2))) (fnS (stIn 44 2)) 0 [] Value.none Value.none Value.none Value.none none Value.none Value.none 0)) (@List.toArray (@Option Value) []))
noncomputable abbrev o11x359 (P : Params) : Obj := (@Obj.mk (@Value.type "code") none (@Data.fields (@List.toArray Value [(@Value.str (Str.ofString "call") 653), (@Value.str (Str.ofString "ExprHooks.call") 654), (@Value.str (Str.ofString "/claim/cut.py") 655), (@Value.int (@OfNat.ofNat Int (nat_lit 198) (@instOfNat (nat_lit 198))) 0), (@Value.int (@OfNat.ofNat Int (nat_lit 3) (@instOfNat (nat_lit 3))) 0), (@Value.int (@OfNat.ofNat Int (nat_lit 0) (@instOfNat (nat_lit 0))) 0), (@Value.int (@OfNat.ofNat Int (nat_lit 0) (@instOfNat (nat_lit 0))) 0), (@Value.int (@OfNat.ofNat Int (nat_lit 3) (@instOfNat (nat_lit 3))) 0), (@Value.ref 354), (@Value.bool Bool.true), (@Value.int (@OfNat.ofNat Int (nat_lit 181) (@instOfNat (nat_lit 181))) 0), (@Value.ref 355), Value.none, (@Value.ref 356), (@Value.ref 357), (@Value.ref 358), (@Value.int (@OfNat.ofNat Int (nat_lit 660) (@instOfNat (nat_lit 660))) 0), (@Value.int (@OfNat.ofNat Int (nat_lit 198) (@instOfNat (nat_lit 198))) 0), (@Value.str (Str.ofString "/claim/cut.py") 661)])) (@List.toArray (@Option Value) []))
noncomputable abbrev o11x360 (P : Params) : Obj := (@Obj.mk (@Value.type "function") none (@Data.func (@FuncData.mk (Str.ofString "call") (Str.ofString "ExprHooks.call") (fnA (stIn 44 2)) (FuncBody.stmts (fnB (stIn 44 2))) (fnS (stIn 44 2)) 3 [] Value.none Value.none Value.none (@Value.str (Str.ofString "snobol.plainexpr") 620) none (@Value.ref 359) Value.none 0)) (@List.toArray (@Option Value) []))
noncomputable abbrev o11x361 (P : Params) : Obj := (@Obj.mk (@Value.type "tuple") none (@Data.seq (@List.toArray Value [(@Value.str (Str.ofString "functions") 663), (@Value.str (Str.ofString "log") 664), (@Value.str (Str.ofString "most_length") 665), (@Value.str (Str.ofString "values") 666), (@Value.str (Str.ofString "width") 667)]) 0) (@List.toArray (@Option Value) []))
noncomputable abbrev o11x362 (P : Params) : Obj := (@Obj.mk (@Value.type "dict") none (@Data.dict (@List.toArray PySem.DictEntry [(@DictEntry.mk (@PyData.keyHash P (Str.ofString "__module__")) (@Value.str (Str.ofString "__module__") 629) (@Value.str (Str.ofString "snobol.plainexpr") 620)), (@DictEntry.mk (@PyData.keyHash P (Str.ofString "__firstlineno__")) (@Value.str (Str.ofString "__firstlineno__") 633) (@Value.int (@OfNat.ofNat Int (nat_lit 186) (@instOfNat (nat_lit 186))) 632)), (@DictEntry.mk (@PyData.keyHash P (Str.ofString "__init__")) (@Value.str (Str.ofString "__init__") 644) (@Value.ref 346)), (@DictEntry.mk (@PyData.keyHash P (Str.ofString "get")) (@Value.str (Str.ofString "get") 652) (@Value.ref 353)), (@DictEntry.mk (@PyData.keyHash P (Str.ofString "call")) (@Value.str (Str.ofString "call") 662) (@Value.ref 360)), (@DictEntry.mk (@PyData.keyHash P (Str.ofString "__static_attributes__")) (@Value.str (Str.ofString "__static_attributes__") 668) (@Value.ref 361)), (@DictEntry.mk (@PyData.keyHash P (Str.ofString "__dict__")) (@Value.str (Str.ofString "__dict__") 670) (@Value.ref 364)), (@DictEntry.mk (@PyData.keyHash P (Str.ofString "__weakref__")) (@Value.str (Str.ofString "__weakref__") 672) (@Value.ref 365)), (@DictEntry.mk (@PyData.keyHash P (Str.ofString "__doc__")) (@Value.str (Str.ofString "__doc__") 673) Value.none)]) 4) (@List.toArray (@Option Value) []))
noncomputable abbrev o11x363 (P : Params) : Obj := (@Obj.mk (@Value.type "type") none (@Data.cls (@PySem.ClassData.mk (Str.ofString "ExprHooks") [(@Value.type "object")] [(@Value.ref 363), (@Value.type "object")] 362 (Str.ofString "ExprHooks") Bool.true [] [] Bool.false none Bool.false)) (@List.toArray (@Option Value) [none, none, (some (@Value.str (Str.ofString "ExprHooks") 622)), (some (@Value.str (Str.ofString "ExprHooks") 630)), (some (@Value.builtin "object.__new__")), (some (@Value.bool Bool.true))]))
noncomputable abbrev o11x364 (P : Params) : Obj := (@Obj.mk (@Value.type "getset_descriptor") none (@Data.fields (@List.toArray Value [(@Value.str (Str.ofString "__dict__") 669), (@Value.ref 363), (@Value.builtin "function.__dict__"), (@Value.builtin "function.__dict__#set")])) (@List.toArray (@Option Value) []))
noncomputable abbrev o11x365 (P : Params) : Obj := (@Obj.mk (@Value.type "getset_descriptor") none (@Data.fields (@List.toArray Value [(@Value.str (Str.ofString "__weakref__") 671), (@Value.ref 363), (@Value.builtin "ExceptionGroup.__weakref__"), Value.none])) (@List.toArray (@Option Value) []))
noncomputable abbrev o11x366 (P : Params) : Obj := (@Obj.mk (@Value.type "super") none (@Data.fields (@List.toArray Value [(@Value.ref 363), (@Value.ref 363), (@Value.ref 363)])) (@List.toArray (@Option Value) []))
noncomputable abbrev o11x367 (P : Params) : Obj := (@Obj.mk (@Value.type "builtin_function_or_method") none (@Data.fields (@List.toArray Value [(@Value.builtin "object.__init_subclass__"), (@Value.ref 363)])) (@List.toArray (@Option Value) []))
noncomputable abbrev o11x368 (P : Params) : Obj := (@Obj.mk (@Value.type "tuple") none (@Data.seq (@List.toArray Value []) 0) (@List.toArray (@Option Value) []))
noncomputable abbrev o11x369 (P : Params) : Obj := (@Obj.mk Value.none none (@Data.fields (@List.toArray Value [])) (@List.toArray (@Option Value) []))
noncomputable abbrev o11x370 (P : Params) : Obj := (@Obj.mk (@Value.type "tuple") none (@Data.seq (@List.toArray Value [(@Value.str (Str.ofString "tree") 679), (@Value.str (Str.ofString "hooks") 680), (@Value.str (Str.ofString "kind") 681), (@Value.str (Str.ofString "args") 682)]) 0) (@List.toArray (@Option Value) []))
noncomputable abbrev o11x371 (P : Params) : Obj := (@Obj.mk (@Value.type "tuple") none (@Data.seq (@List.toArray Value []) 0) (@List.toArray (@Option Value) []))
noncomputable abbrev o11x372 (P : Params) : Obj := (@Obj.mk Value.none none (@Data.func (@FuncData.mk (Str.ofString "worth") (Str.ofString "worth") (fnA (stAt 45)) (FuncBody.stmts (fnB (stAt 45))) (fnS (stAt 45)) 0 [] Value.none Value.none Value.none Value.none none Value.none Value.none 0)) (@List.toArray (@Option Value) []))
noncomputable abbrev o11x373 (P : Params) : Obj := (@Obj.mk (@Value.type "code") none (@Data.fields (@List.toArray Value [(@Value.str (Str.ofString "worth") 676), (@Value.str (Str.ofString "worth") 677), (@Value.str (Str.ofString "/claim/cut.py") 678), (@Value.int (@OfNat.ofNat Int (nat_lit 204) (@instOfNat (nat_lit 204))) 0), (@Value.int (@OfNat.ofNat Int (nat_lit 2) (@instOfNat (nat_lit 2))) 0), (@Value.int (@OfNat.ofNat Int (nat_lit 0) (@instOfNat (nat_lit 0))) 0), (@Value.int (@OfNat.ofNat Int (nat_lit 0) (@instOfNat (nat_lit 0))) 0), (@Value.int (@OfNat.ofNat Int (nat_lit 3) (@instOfNat (nat_lit 3))) 0), (@Value.ref 368), (@Value.bool Bool.true), (@Value.int (@OfNat.ofNat Int (nat_lit 181) (@instOfNat (nat_lit 181))) 0), (@Value.ref 369), Value.none, (@Value.ref 370), (@Value.ref 371), (@Value.ref 372), (@Value.int (@OfNat.ofNat Int (nat_lit 683) (@instOfNat (nat_lit 683))) 0), (@Value.int (@OfNat.ofNat Int (nat_lit 204) (@instOfNat (nat_lit 204))) 0), (@Value.str (Str.ofString "/claim/cut.py") 684)])) (@List.toArray (@Option Value) []))
noncomputable abbrev o11x374 (P : Params) : Obj := (@Obj.mk (@Value.type "function") none (@Data.func (@FuncData.mk (Str.ofString "worth") (Str.ofString "worth") (fnA (stAt 45)) (FuncBody.stmts (fnB (stAt 45))) (fnS (stAt 45)) 3 [] Value.none Value.none Value.none (@Value.str (Str.ofString "snobol.plainexpr") 620) none (@Value.ref 373) Value.none 0)) (@List.toArray (@Option Value) []))
noncomputable abbrev o11x375 (P : Params) : Obj := (@Obj.mk (@Value.type "tuple") none (@Data.seq (@List.toArray Value []) 0) (@List.toArray (@Option Value) []))
noncomputable abbrev o11x376 (P : Params) : Obj := (@Obj.mk Value.none none (@Data.fields (@List.toArray Value [])) (@List.toArray (@Option Value) []))
noncomputable abbrev o11x377 (P : Params) : Obj := (@Obj.mk (@Value.type "tuple") none (@Data.seq (@List.toArray Value [(@Value.str (Str.ofString "trees") 689), (@Value.str (Str.ofString "hooks") 690), (@Value.str (Str.ofString "found") 691), (@Value.str (Str.ofString "tree") 692), (@Value.str (Str.ofString "value") 693)]) 0) (@List.toArray (@Option Value) []))
noncomputable abbrev o11x378 (P : Params) : Obj := (@Obj.mk (@Value.type "tuple") none (@Data.seq (@List.toArray Value []) 0) (@List.toArray (@Option Value) []))
noncomputable abbrev o11x379 (P : Params) : Obj := (@Obj.mk Value.none none (@Data.func (@FuncData.mk (Str.ofString "worths") (Str.ofString "worths") (fnA (stAt 46)) (FuncBody.stmts (fnB (stAt 46))) (fnS (stAt 46)) 0 [] Value.none Value.none Value.none Value.none none Value.none Value.none 0)) (@List.toArray (@Option Value) []))
noncomputable abbrev o11x380 (P : Params) : Obj := (@Obj.mk (@Value.type "code") none (@Data.fields (@List.toArray Value [(@Value.str (Str.ofString "worths") 686), (@Value.str (Str.ofString "worths") 687), (@Value.str (Str.ofString "/claim/cut.py") 688), (@Value.int (@OfNat.ofNat Int (nat_lit 220) (@instOfNat (nat_lit 220))) 0), (@Value.int (@OfNat.ofNat Int (nat_lit 2) (@instOfNat (nat_lit 2))) 0), (@Value.int (@OfNat.ofNat Int (nat_lit 0) (@instOfNat (nat_lit 0))) 0), (@Value.int (@OfNat.ofNat Int (nat_lit 0) (@instOfNat (nat_lit 0))) 0), (@Value.int (@OfNat.ofNat Int (nat_lit 3) (@instOfNat (nat_lit 3))) 0), (@Value.ref 375), (@Value.bool Bool.true), (@Value.int (@OfNat.ofNat Int (nat_lit 181) (@instOfNat (nat_lit 181))) 0), (@Value.ref 376), Value.none, (@Value.ref 377), (@Value.ref 378), (@Value.ref 379), (@Value.int (@OfNat.ofNat Int (nat_lit 694) (@instOfNat (nat_lit 694))) 0), (@Value.int (@OfNat.ofNat Int (nat_lit 220) (@instOfNat (nat_lit 220))) 0), (@Value.str (Str.ofString "/claim/cut.py") 695)])) (@List.toArray (@Option Value) []))
noncomputable abbrev o11x381 (P : Params) : Obj := (@Obj.mk (@Value.type "function") none (@Data.func (@FuncData.mk (Str.ofString "worths") (Str.ofString "worths") (fnA (stAt 46)) (FuncBody.stmts (fnB (stAt 46))) (fnS (stAt 46)) 3 [] Value.none Value.none Value.none (@Value.str (Str.ofString "snobol.plainexpr") 620) none (@Value.ref 380) Value.none 0)) (@List.toArray (@Option Value) []))
noncomputable abbrev hp8 (P : Params) : Heap := Heap.mk (Array.mk (boot_o_0 P :: boot_o_1 P :: o3x2 P :: o11x3 P :: boot_o_4 P :: boot_o_5 P :: boot_o_6 P :: boot_o_7 P :: boot_o_8 P :: boot_o_9 P :: boot_o_10 P :: o1x11 P :: o11x12 P :: o1x13 P :: o1x14 P :: o3x15 P :: o3x16 P :: o3x17 P :: o3x18 P :: o3x19 P :: o3x20 P :: o3x21 P :: o3x22 P :: o3x23 P :: o3x24 P :: o3x25 P :: o3x26 P :: o3x27 P :: o3x28 P :: o3x29 P :: o3x30 P :: o3x31 P :: o3x32 P :: o3x33 P :: o3x34 P :: o3x35 P :: o3x36 P :: o3x37 P :: o4x38 P :: o4x39 P :: o4x40 P :: o4x41 P :: o4x42 P :: o4x43 P :: o4x44 P :: o4x45 P :: o4x46 P :: o4x47 P :: o4x48 P :: o4x49 P :: o4x50 P :: o4x51 P :: o5x52 P :: o5x53 P :: o5x54 P :: o5x55 P :: o5x56 P :: o5x57 P :: o5x58 P :: o5x59 P :: o5x60 P :: o5x61 P :: o5x62 P :: o5x63 P :: o5x64 P :: o5x65 P :: o5x66 P :: o5x67 P :: o5x68 P :: o5x69 P :: o5x70 P :: o5x71 P :: o5x72 P :: o6x73 P :: o6x74 P :: o6x75 P :: o6x76 P :: o6x77 P :: o6x78 P :: o6x79 P :: o6x80 P :: o6x81 P :: o6x82 P :: o6x83 P :: o6x84 P :: o6x85 P :: o6x86 P :: o6x87 P :: o6x88 P :: o6x89 P :: o6x90 P :: o6x91 P :: o6x92 P :: o6x93 P :: o7x94 P :: o7x95 P :: o7x96 P :: o7x97 P :: o7x98 P :: o7x99 P :: o7x100 P :: o7x101 P :: o7x102 P :: o7x103 P :: o7x104 P :: o7x105 P :: o7x106 P :: o7x107 P :: o7x108 P :: o7x109 P :: o7x110 P :: o7x111 P :: o7x112 P :: o7x113 P :: o7x114 P :: o8x115 P :: o8x116 P :: o8x117 P :: o8x118 P :: o8x119 P :: o8x120 P :: o8x121 P :: o8x122 P :: o8x123 P :: o8x124 P :: o8x125 P :: o8x126 P :: o8x127 P :: o8x128 P :: o8x129 P :: o8x130 P :: o8x131 P :: o8x132 P :: o8x133 P :: o8x134 P :: o8x135 P :: o8x136 P :: o8x137 P :: o8x138 P :: o8x139 P :: o8x140 P :: o8x141 P :: o8x142 P :: o8x143 P :: o8x144 P :: o8x145 P :: o8x146 P :: o8x147 P :: o8x148 P :: o8x149 P :: o8x150 P :: o8x151 P :: o8x152 P :: o8x153 P :: o8x154 P :: o8x155 P :: o8x156 P :: o8x157 P :: o8x158 P :: o8x159 P :: o8x160 P :: o8x161 P :: o8x162 P :: o8x163 P :: o8x164 P :: o8x165 P :: o8x166 P :: o8x167 P :: o8x168 P :: o8x169 P :: o8x170 P :: o9x171 P :: o9x172 P :: o9x173 P :: o9x174 P :: o9x175 P :: o9x176 P :: o9x177 P :: o9x178 P :: o9x179 P :: o9x180 P :: o9x181 P :: o9x182 P :: o9x183 P :: o9x184 P :: o9x185 P :: o9x186 P :: o9x187 P :: o9x188 P :: o9x189 P :: o9x190 P :: o9x191 P :: o9x192 P :: o9x193 P :: o9x194 P :: o9x195 P :: o9x196 P :: o9x197 P :: o9x198 P :: o9x199 P :: o9x200 P :: o9x201 P :: o9x202 P :: o9x203 P :: o9x204 P :: o9x205 P :: o9x206 P :: o9x207 P :: o9x208 P :: o9x209 P :: o9x210 P :: o9x211 P :: o9x212 P :: o9x213 P :: o9x214 P :: o9x215 P :: o9x216 P :: o9x217 P :: o9x218 P :: o9x219 P :: o9x220 P :: o9x221 P :: o9x222 P :: o9x223 P :: o9x224 P :: o9x225 P :: o9x226 P :: o9x227 P :: o9x228 P :: o9x229 P :: o9x230 P :: o9x231 P :: o9x232 P :: o9x233 P :: o9x234 P :: o9x235 P :: o9x236 P :: o9x237 P :: o9x238 P :: o9x239 P :: o9x240 P :: o9x241 P :: o9x242 P :: o9x243 P :: o9x244 P :: o9x245 P :: o9x246 P :: o9x247 P :: o9x248 P :: o10x249 P :: o10x250 P :: o10x251 P :: o10x252 P :: o10x253 P :: o10x254 P :: o10x255 P :: o10x256 P :: o10x257 P :: o10x258 P :: o10x259 P :: o10x260 P :: o10x261 P :: o10x262 P :: o10x263 P :: o10x264 P :: o10x265 P :: o10x266 P :: o10x267 P :: o10x268 P :: o10x269 P :: o10x270 P :: o10x271 P :: o10x272 P :: o10x273 P :: o10x274 P :: o10x275 P :: o10x276 P :: o10x277 P :: o10x278 P :: o10x279 P :: o10x280 P :: o10x281 P :: o10x282 P :: o10x283 P :: o10x284 P :: o10x285 P :: o10x286 P :: o10x287 P :: o10x288 P :: o10x289 P :: o10x290 P :: o10x291 P :: o10x292 P :: o10x293 P :: o10x294 P :: o10x295 P :: o10x296 P :: o10x297 P :: o10x298 P :: o10x299 P :: o10x300 P :: o10x301 P :: o10x302 P :: o10x303 P :: o10x304 P :: o10x305 P :: o10x306 P :: o10x307 P :: o10x308 P :: o10x309 P :: o10x310 P :: o10x311 P :: o10x312 P :: o10x313 P :: o10x314 P :: o10x315 P :: o10x316 P :: o10x317 P :: o10x318 P :: o10x319 P :: o10x320 P :: o10x321 P :: o10x322 P :: o10x323 P :: o10x324 P :: o10x325 P :: o10x326 P :: o10x327 P :: o10x328 P :: o10x329 P :: o10x330 P :: o10x331 P :: o10x332 P :: o11x333 P :: o11x334 P :: o11x335 P :: o11x336 P :: o11x337 P :: o11x338 P :: o11x339 P :: o11x340 P :: o11x341 P :: o11x342 P :: o11x343 P :: o11x344 P :: o11x345 P :: o11x346 P :: o11x347 P :: o11x348 P :: o11x349 P :: o11x350 P :: o11x351 P :: o11x352 P :: o11x353 P :: o11x354 P :: o11x355 P :: o11x356 P :: o11x357 P :: o11x358 P :: o11x359 P :: o11x360 P :: o11x361 P :: o11x362 P :: o11x363 P :: o11x364 P :: o11x365 P :: o11x366 P :: o11x367 P :: o11x368 P :: o11x369 P :: o11x370 P :: o11x371 P :: o11x372 P :: o11x373 P :: o11x374 P :: o11x375 P :: o11x376 P :: o11x377 P :: o11x378 P :: o11x379 P :: o11x380 P :: o11x381 P :: [])) (@PySem.Life.mk [] [] [] 0 [] [] Bool.false (@List.toArray Nat []) [] 0 Bool.false Bool.false Bool.false (@OfNat.ofNat Int (nat_lit 0) (@instOfNat (nat_lit 0))) [(@OfNat.ofNat Int (nat_lit 2000) (@instOfNat (nat_lit 2000))), (@OfNat.ofNat Int (nat_lit 10) (@instOfNat (nat_lit 10))), (@OfNat.ofNat Int (nat_lit 10) (@instOfNat (nat_lit 10)))] Bool.false 0 Bool.true [] [] 0 Bool.false)
noncomputable abbrev shp8 (w : World) (os : OsState) : Shared := ⟨hp8 w.params, Array.mk [], (@PySem.Drawn.mk 0 0 0 0), (nat_lit 697), os⟩
noncomputable abbrev sts8 : List Stmt := (bodT.drop 43).take 4
theorem seg8 : ∀ (w : World) (os : OsState), segRun treeTable pw w (nat_lit 11) (some (@Value.ref 6)) (nat_lit 1) (nat_lit 370) (shp7 w os) (piecesOf sts8 envT cT ⟨180, 0, 184, 71⟩ B_T) = some (Flow.next, shp8 w os, cT, ⟨220, 0, 227, 16⟩) := by
  intro w os; kernel_rfl
noncomputable abbrev o12x3 (P : Params) : Obj := (@Obj.mk (@Value.type "dict") none (@Data.dict (@List.toArray PySem.DictEntry ((@DictEntry.mk (@PyData.keyHash P (Str.ofString "__name__")) (@Value.str (Str.ofString "__name__") 165) (@Value.str (Str.ofString "law_rh0230_01") 743)) :: (@DictEntry.mk (@PyData.keyHash P (Str.ofString "__doc__")) (@Value.str (Str.ofString "__doc__") 166) Value.none) :: (@DictEntry.mk (@PyData.keyHash P (Str.ofString "__package__")) (@Value.str (Str.ofString "__package__") 167) Value.none) :: (@DictEntry.mk (@PyData.keyHash P (Str.ofString "__loader__")) (@Value.str (Str.ofString "__loader__") 168) (@Value.builtin "__main__.__loader__#opaque")) :: (@DictEntry.mk (@PyData.keyHash P (Str.ofString "__spec__")) (@Value.str (Str.ofString "__spec__") 169) Value.none) :: (@DictEntry.mk (@PyData.keyHash P (Str.ofString "__annotations__")) (@Value.str (Str.ofString "__annotations__") 170) (@Value.ref 6)) :: (@DictEntry.mk (@PyData.keyHash P (Str.ofString "__builtins__")) (@Value.str (Str.ofString "__builtins__") 171) (@Value.ref 4)) :: (@DictEntry.mk (@PyData.keyHash P (Str.ofString "__file__")) (@Value.str (Str.ofString "__file__") 173) (@Value.str (Str.ofString "/claim/cut.py") 172)) :: (@DictEntry.mk (@PyData.keyHash P (Str.ofString "__cached__")) (@Value.str (Str.ofString "__cached__") 174) Value.none) :: (@DictEntry.mk (@PyData.keyHash P (Str.ofString "SnobolError")) (@Value.str (Str.ofString "SnobolError") 222) (@Value.ref 34)) :: (@DictEntry.mk (@PyData.keyHash P (Str.ofString "Failure")) (@Value.str (Str.ofString "Failure") 242) (@Value.ref 47)) :: (@DictEntry.mk (@PyData.keyHash P (Str.ofString "Pattern")) (@Value.str (Str.ofString "Pattern") 271) (@Value.ref 68)) :: (@DictEntry.mk (@PyData.keyHash P (Str.ofString "Delayed")) (@Value.str (Str.ofString "Delayed") 300) (@Value.ref 89)) :: (@DictEntry.mk (@PyData.keyHash P (Str.ofString "NameRef")) (@Value.str (Str.ofString "NameRef") 333) (@Value.ref 110)) :: (@DictEntry.mk (@PyData.keyHash P (Str.ofString "Holder")) (@Value.str (Str.ofString "Holder") 365) (@Value.ref 131)) :: (@DictEntry.mk (@PyData.keyHash P (Str.ofString "is_fail")) (@Value.str (Str.ofString "is_fail") 372) (@Value.ref 142)) :: (@DictEntry.mk (@PyData.keyHash P (Str.ofString "is_null")) (@Value.str (Str.ofString "is_null") 379) (@Value.ref 149)) :: (@DictEntry.mk (@PyData.keyHash P (Str.ofString "is_plain")) (@Value.str (Str.ofString "is_plain") 386) (@Value.ref 156)) :: (@DictEntry.mk (@PyData.keyHash P (Str.ofString "fits")) (@Value.str (Str.ofString "fits") 394) (@Value.ref 163)) :: (@DictEntry.mk (@PyData.keyHash P (Str.ofString "whole_of_text")) (@Value.str (Str.ofString "whole_of_text") 405) (@Value.ref 170)) :: (@DictEntry.mk (@PyData.keyHash P (Str.ofString "text_of_whole")) (@Value.str (Str.ofString "text_of_whole") 414) (@Value.ref 177)) :: (@DictEntry.mk (@PyData.keyHash P (Str.ofString "to_whole")) (@Value.str (Str.ofString "to_whole") 422) (@Value.ref 184)) :: (@DictEntry.mk (@PyData.keyHash P (Str.ofString "to_text")) (@Value.str (Str.ofString "to_text") 429) (@Value.ref 191)) :: (@DictEntry.mk (@PyData.keyHash P (Str.ofString "need_whole")) (@Value.str (Str.ofString "need_whole") 438) (@Value.ref 198)) :: (@DictEntry.mk (@PyData.keyHash P (Str.ofString "checked_whole")) (@Value.str (Str.ofString "checked_whole") 446) (@Value.ref 205)) :: (@DictEntry.mk (@PyData.keyHash P (Str.ofString "NULL_NODE")) (@Value.str (Str.ofString "NULL_NODE") 451) (@Value.ref 206)) :: (@DictEntry.mk (@PyData.keyHash P (Str.ofString "MOST_PARTS")) (@Value.str (Str.ofString "MOST_PARTS") 453) (@Value.int (@OfNat.ofNat Int (nat_lit 600) (@instOfNat (nat_lit 600))) 452)) :: (@DictEntry.mk (@PyData.keyHash P (Str.ofString "MOST_DEPTH")) (@Value.str (Str.ofString "MOST_DEPTH") 455) (@Value.int (@OfNat.ofNat Int (nat_lit 100) (@instOfNat (nat_lit 100))) 454)) :: (@DictEntry.mk (@PyData.keyHash P (Str.ofString "MOST_SIGNS")) (@Value.str (Str.ofString "MOST_SIGNS") 457) (@Value.int (@OfNat.ofNat Int (nat_lit 20000) (@instOfNat (nat_lit 20000))) 456)) :: (@DictEntry.mk (@PyData.keyHash P (Str.ofString "TOO_GREAT")) (@Value.str (Str.ofString "TOO_GREAT") 459) (@Value.int (@OfNat.ofNat Int (nat_lit 23) (@instOfNat (nat_lit 23))) 458)) :: (@DictEntry.mk (@PyData.keyHash P (Str.ofString "is_null_node")) (@Value.str (Str.ofString "is_null_node") 466) (@Value.ref 213)) :: (@DictEntry.mk (@PyData.keyHash P (Str.ofString "later_node")) (@Value.str (Str.ofString "later_node") 474) (@Value.ref 220)) :: (@DictEntry.mk (@PyData.keyHash P (Str.ofString "now_node")) (@Value.str (Str.ofString "now_node") 482) (@Value.ref 227)) :: (@DictEntry.mk (@PyData.keyHash P (Str.ofString "cursor_node")) (@Value.str (Str.ofString "cursor_node") 489) (@Value.ref 234)) :: (@DictEntry.mk (@PyData.keyHash P (Str.ofString "joined")) (@Value.str (Str.ofString "joined") 497) (@Value.ref 241)) :: (@DictEntry.mk (@PyData.keyHash P (Str.ofString "either")) (@Value.str (Str.ofString "either") 505) (@Value.ref 248)) :: (@DictEntry.mk (@PyData.keyHash P (Str.ofString "pattern_of")) (@Value.str (Str.ofString "pattern_of") 513) (@Value.ref 255)) :: (@DictEntry.mk (@PyData.keyHash P (Str.ofString "parts_of")) (@Value.str (Str.ofString "parts_of") 520) (@Value.ref 262)) :: (@DictEntry.mk (@PyData.keyHash P (Str.ofString "checked_node")) (@Value.str (Str.ofString "checked_node") 532) (@Value.ref 269)) :: (@DictEntry.mk (@PyData.keyHash P (Str.ofString "check_length")) (@Value.str (Str.ofString "check_length") 542) (@Value.ref 276)) :: (@DictEntry.mk (@PyData.keyHash P (Str.ofString "divided")) (@Value.str (Str.ofString "divided") 553) (@Value.ref 283)) :: (@DictEntry.mk (@PyData.keyHash P (Str.ofString "raised_to")) (@Value.str (Str.ofString "raised_to") 564) (@Value.ref 290)) :: (@DictEntry.mk (@PyData.keyHash P (Str.ofString "reckoned")) (@Value.str (Str.ofString "reckoned") 574) (@Value.ref 297)) :: (@DictEntry.mk (@PyData.keyHash P (Str.ofString "is_part")) (@Value.str (Str.ofString "is_part") 581) (@Value.ref 304)) :: (@DictEntry.mk (@PyData.keyHash P (Str.ofString "join_values")) (@Value.str (Str.ofString "join_values") 590) (@Value.ref 311)) :: (@DictEntry.mk (@PyData.keyHash P (Str.ofString "either_value")) (@Value.str (Str.ofString "either_value") 598) (@Value.ref 318)) :: (@DictEntry.mk (@PyData.keyHash P (Str.ofString "binary_value")) (@Value.str (Str.ofString "binary_value") 609) (@Value.ref 325)) :: (@DictEntry.mk (@PyData.keyHash P (Str.ofString "unary_value")) (@Value.str (Str.ofString "unary_value") 619) (@Value.ref 332)) :: (@DictEntry.mk (@PyData.keyHash P (Str.ofString "ExprHooks")) (@Value.str (Str.ofString "ExprHooks") 675) (@Value.ref 363)) :: (@DictEntry.mk (@PyData.keyHash P (Str.ofString "worth")) (@Value.str (Str.ofString "worth") 685) (@Value.ref 374)) :: (@DictEntry.mk (@PyData.keyHash P (Str.ofString "worths")) (@Value.str (Str.ofString "worths") 696) (@Value.ref 381)) :: (@DictEntry.mk (@PyData.keyHash P (Str.ofString "name_in")) (@Value.str (Str.ofString "name_in") 706) (@Value.ref 388)) :: (@DictEntry.mk (@PyData.keyHash P (Str.ofString "worth_of_one")) (@Value.str (Str.ofString "worth_of_one") 717) (@Value.ref 395)) :: (@DictEntry.mk (@PyData.keyHash P (Str.ofString "worth_of_two")) (@Value.str (Str.ofString "worth_of_two") 732) (@Value.ref 402)) :: (@DictEntry.mk (@PyData.keyHash P (Str.ofString "worth_told")) (@Value.str (Str.ofString "worth_told") 742) (@Value.ref 409)) :: (@DictEntry.mk (@PyData.keyHash P (Str.ofString "_law_next")) (@Value.str (Str.ofString "_law_next") 754) (@Value.ref 416)) :: (@DictEntry.mk (@PyData.keyHash P (Str.ofString "_law_tree")) (@Value.str (Str.ofString "_law_tree") 763) (@Value.ref 423)) :: (@DictEntry.mk (@PyData.keyHash P (Str.ofString "_law_plain")) (@Value.str (Str.ofString "_law_plain") 769) (@Value.ref 428)) :: (@DictEntry.mk (@PyData.keyHash P (Str.ofString "_law_due")) (@Value.str (Str.ofString "_law_due") 780) (@Value.ref 435)) :: (@DictEntry.mk (@PyData.keyHash P (Str.ofString "law")) (@Value.str (Str.ofString "law") 795) (@Value.ref 442)) :: [])) 60) (@List.toArray (@Option Value) []))
noncomputable abbrev o12x12 (P : Params) : Obj := (@Obj.mk Value.none none (@Data.fields (@List.toArray Value ((@Value.int (@OfNat.ofNat Int (nat_lit 2) (@instOfNat (nat_lit 2))) 0) :: (@Value.int (@OfNat.ofNat Int (nat_lit 0) (@instOfNat (nat_lit 0))) 0) :: (@Value.ref 21) :: (@Value.int (@OfNat.ofNat Int (nat_lit 8) (@instOfNat (nat_lit 8))) 0) :: (@Value.int (@OfNat.ofNat Int (nat_lit 0) (@instOfNat (nat_lit 0))) 0) :: (@Value.ref 43) :: (@Value.int (@OfNat.ofNat Int (nat_lit 10) (@instOfNat (nat_lit 10))) 0) :: (@Value.int (@OfNat.ofNat Int (nat_lit 0) (@instOfNat (nat_lit 0))) 0) :: (@Value.ref 57) :: (@Value.int (@OfNat.ofNat Int (nat_lit 14) (@instOfNat (nat_lit 14))) 0) :: (@Value.int (@OfNat.ofNat Int (nat_lit 0) (@instOfNat (nat_lit 0))) 0) :: (@Value.ref 78) :: (@Value.int (@OfNat.ofNat Int (nat_lit 18) (@instOfNat (nat_lit 18))) 0) :: (@Value.int (@OfNat.ofNat Int (nat_lit 0) (@instOfNat (nat_lit 0))) 0) :: (@Value.ref 99) :: (@Value.int (@OfNat.ofNat Int (nat_lit 24) (@instOfNat (nat_lit 24))) 0) :: (@Value.int (@OfNat.ofNat Int (nat_lit 0) (@instOfNat (nat_lit 0))) 0) :: (@Value.ref 120) :: (@Value.int (@OfNat.ofNat Int (nat_lit 30) (@instOfNat (nat_lit 30))) 0) :: (@Value.int (@OfNat.ofNat Int (nat_lit 0) (@instOfNat (nat_lit 0))) 0) :: (@Value.ref 141) :: (@Value.int (@OfNat.ofNat Int (nat_lit 32) (@instOfNat (nat_lit 32))) 0) :: (@Value.int (@OfNat.ofNat Int (nat_lit 0) (@instOfNat (nat_lit 0))) 0) :: (@Value.ref 148) :: (@Value.int (@OfNat.ofNat Int (nat_lit 34) (@instOfNat (nat_lit 34))) 0) :: (@Value.int (@OfNat.ofNat Int (nat_lit 0) (@instOfNat (nat_lit 0))) 0) :: (@Value.ref 155) :: (@Value.int (@OfNat.ofNat Int (nat_lit 36) (@instOfNat (nat_lit 36))) 0) :: (@Value.int (@OfNat.ofNat Int (nat_lit 0) (@instOfNat (nat_lit 0))) 0) :: (@Value.ref 162) :: (@Value.int (@OfNat.ofNat Int (nat_lit 38) (@instOfNat (nat_lit 38))) 0) :: (@Value.int (@OfNat.ofNat Int (nat_lit 0) (@instOfNat (nat_lit 0))) 0) :: (@Value.ref 169) :: (@Value.int (@OfNat.ofNat Int (nat_lit 51) (@instOfNat (nat_lit 51))) 0) :: (@Value.int (@OfNat.ofNat Int (nat_lit 0) (@instOfNat (nat_lit 0))) 0) :: (@Value.ref 176) :: (@Value.int (@OfNat.ofNat Int (nat_lit 57) (@instOfNat (nat_lit 57))) 0) :: (@Value.int (@OfNat.ofNat Int (nat_lit 0) (@instOfNat (nat_lit 0))) 0) :: (@Value.ref 183) :: (@Value.int (@OfNat.ofNat Int (nat_lit 61) (@instOfNat (nat_lit 61))) 0) :: (@Value.int (@OfNat.ofNat Int (nat_lit 0) (@instOfNat (nat_lit 0))) 0) :: (@Value.ref 190) :: (@Value.int (@OfNat.ofNat Int (nat_lit 65) (@instOfNat (nat_lit 65))) 0) :: (@Value.int (@OfNat.ofNat Int (nat_lit 0) (@instOfNat (nat_lit 0))) 0) :: (@Value.ref 197) :: (@Value.int (@OfNat.ofNat Int (nat_lit 70) (@instOfNat (nat_lit 70))) 0) :: (@Value.int (@OfNat.ofNat Int (nat_lit 0) (@instOfNat (nat_lit 0))) 0) :: (@Value.ref 204) :: (@Value.int (@OfNat.ofNat Int (nat_lit 80) (@instOfNat (nat_lit 80))) 0) :: (@Value.int (@OfNat.ofNat Int (nat_lit 0) (@instOfNat (nat_lit 0))) 0) :: (@Value.ref 212) :: (@Value.int (@OfNat.ofNat Int (nat_lit 82) (@instOfNat (nat_lit 82))) 0) :: (@Value.int (@OfNat.ofNat Int (nat_lit 0) (@instOfNat (nat_lit 0))) 0) :: (@Value.ref 219) :: (@Value.int (@OfNat.ofNat Int (nat_lit 84) (@instOfNat (nat_lit 84))) 0) :: (@Value.int (@OfNat.ofNat Int (nat_lit 0) (@instOfNat (nat_lit 0))) 0) :: (@Value.ref 226) :: (@Value.int (@OfNat.ofNat Int (nat_lit 86) (@instOfNat (nat_lit 86))) 0) :: (@Value.int (@OfNat.ofNat Int (nat_lit 0) (@instOfNat (nat_lit 0))) 0) :: (@Value.ref 233) :: (@Value.int (@OfNat.ofNat Int (nat_lit 88) (@instOfNat (nat_lit 88))) 0) :: (@Value.int (@OfNat.ofNat Int (nat_lit 0) (@instOfNat (nat_lit 0))) 0) :: (@Value.ref 240) :: (@Value.int (@OfNat.ofNat Int (nat_lit 96) (@instOfNat (nat_lit 96))) 0) :: (@Value.int (@OfNat.ofNat Int (nat_lit 0) (@instOfNat (nat_lit 0))) 0) :: (@Value.ref 247) :: (@Value.int (@OfNat.ofNat Int (nat_lit 98) (@instOfNat (nat_lit 98))) 0) :: (@Value.int (@OfNat.ofNat Int (nat_lit 0) (@instOfNat (nat_lit 0))) 0) :: (@Value.ref 254) :: (@Value.int (@OfNat.ofNat Int (nat_lit 107) (@instOfNat (nat_lit 107))) 0) :: (@Value.int (@OfNat.ofNat Int (nat_lit 0) (@instOfNat (nat_lit 0))) 0) :: (@Value.ref 261) :: (@Value.int (@OfNat.ofNat Int (nat_lit 111) (@instOfNat (nat_lit 111))) 0) :: (@Value.int (@OfNat.ofNat Int (nat_lit 0) (@instOfNat (nat_lit 0))) 0) :: (@Value.ref 268) :: (@Value.int (@OfNat.ofNat Int (nat_lit 122) (@instOfNat (nat_lit 122))) 0) :: (@Value.int (@OfNat.ofNat Int (nat_lit 0) (@instOfNat (nat_lit 0))) 0) :: (@Value.ref 275) :: (@Value.int (@OfNat.ofNat Int (nat_lit 127) (@instOfNat (nat_lit 127))) 0) :: (@Value.int (@OfNat.ofNat Int (nat_lit 0) (@instOfNat (nat_lit 0))) 0) :: (@Value.ref 282) :: (@Value.int (@OfNat.ofNat Int (nat_lit 132) (@instOfNat (nat_lit 132))) 0) :: (@Value.int (@OfNat.ofNat Int (nat_lit 0) (@instOfNat (nat_lit 0))) 0) :: (@Value.ref 289) :: (@Value.int (@OfNat.ofNat Int (nat_lit 145) (@instOfNat (nat_lit 145))) 0) :: (@Value.int (@OfNat.ofNat Int (nat_lit 0) (@instOfNat (nat_lit 0))) 0) :: (@Value.ref 296) :: (@Value.int (@OfNat.ofNat Int (nat_lit 157) (@instOfNat (nat_lit 157))) 0) :: (@Value.int (@OfNat.ofNat Int (nat_lit 0) (@instOfNat (nat_lit 0))) 0) :: (@Value.ref 303) :: (@Value.int (@OfNat.ofNat Int (nat_lit 159) (@instOfNat (nat_lit 159))) 0) :: (@Value.int (@OfNat.ofNat Int (nat_lit 0) (@instOfNat (nat_lit 0))) 0) :: (@Value.ref 310) :: (@Value.int (@OfNat.ofNat Int (nat_lit 169) (@instOfNat (nat_lit 169))) 0) :: (@Value.int (@OfNat.ofNat Int (nat_lit 0) (@instOfNat (nat_lit 0))) 0) :: (@Value.ref 317) :: (@Value.int (@OfNat.ofNat Int (nat_lit 173) (@instOfNat (nat_lit 173))) 0) :: (@Value.int (@OfNat.ofNat Int (nat_lit 0) (@instOfNat (nat_lit 0))) 0) :: (@Value.ref 324) :: (@Value.int (@OfNat.ofNat Int (nat_lit 180) (@instOfNat (nat_lit 180))) 0) :: (@Value.int (@OfNat.ofNat Int (nat_lit 0) (@instOfNat (nat_lit 0))) 0) :: (@Value.ref 331) :: (@Value.int (@OfNat.ofNat Int (nat_lit 186) (@instOfNat (nat_lit 186))) 0) :: (@Value.int (@OfNat.ofNat Int (nat_lit 0) (@instOfNat (nat_lit 0))) 0) :: (@Value.ref 338) :: (@Value.int (@OfNat.ofNat Int (nat_lit 204) (@instOfNat (nat_lit 204))) 0) :: (@Value.int (@OfNat.ofNat Int (nat_lit 0) (@instOfNat (nat_lit 0))) 0) :: (@Value.ref 373) :: (@Value.int (@OfNat.ofNat Int (nat_lit 220) (@instOfNat (nat_lit 220))) 0) :: (@Value.int (@OfNat.ofNat Int (nat_lit 0) (@instOfNat (nat_lit 0))) 0) :: (@Value.ref 380) :: (@Value.int (@OfNat.ofNat Int (nat_lit 228) (@instOfNat (nat_lit 228))) 0) :: (@Value.int (@OfNat.ofNat Int (nat_lit 0) (@instOfNat (nat_lit 0))) 0) :: (@Value.ref 387) :: (@Value.int (@OfNat.ofNat Int (nat_lit 240) (@instOfNat (nat_lit 240))) 0) :: (@Value.int (@OfNat.ofNat Int (nat_lit 0) (@instOfNat (nat_lit 0))) 0) :: (@Value.ref 394) :: (@Value.int (@OfNat.ofNat Int (nat_lit 258) (@instOfNat (nat_lit 258))) 0) :: (@Value.int (@OfNat.ofNat Int (nat_lit 0) (@instOfNat (nat_lit 0))) 0) :: (@Value.ref 401) :: (@Value.int (@OfNat.ofNat Int (nat_lit 272) (@instOfNat (nat_lit 272))) 0) :: (@Value.int (@OfNat.ofNat Int (nat_lit 0) (@instOfNat (nat_lit 0))) 0) :: (@Value.ref 408) :: (@Value.int (@OfNat.ofNat Int (nat_lit 279) (@instOfNat (nat_lit 279))) 0) :: (@Value.int (@OfNat.ofNat Int (nat_lit 0) (@instOfNat (nat_lit 0))) 0) :: (@Value.ref 415) :: (@Value.int (@OfNat.ofNat Int (nat_lit 285) (@instOfNat (nat_lit 285))) 0) :: (@Value.int (@OfNat.ofNat Int (nat_lit 0) (@instOfNat (nat_lit 0))) 0) :: (@Value.ref 422) :: (@Value.int (@OfNat.ofNat Int (nat_lit 290) (@instOfNat (nat_lit 290))) 0) :: (@Value.int (@OfNat.ofNat Int (nat_lit 0) (@instOfNat (nat_lit 0))) 0) :: (@Value.ref 427) :: (@Value.int (@OfNat.ofNat Int (nat_lit 296) (@instOfNat (nat_lit 296))) 0) :: (@Value.int (@OfNat.ofNat Int (nat_lit 0) (@instOfNat (nat_lit 0))) 0) :: (@Value.ref 434) :: (@Value.int (@OfNat.ofNat Int (nat_lit 310) (@instOfNat (nat_lit 310))) 0) :: (@Value.int (@OfNat.ofNat Int (nat_lit 0) (@instOfNat (nat_lit 0))) 0) :: (@Value.ref 441) :: []))) (@List.toArray (@Option Value) []))
noncomputable abbrev o12x382 (P : Params) : Obj := (@Obj.mk (@Value.type "tuple") none (@Data.seq (@List.toArray Value []) 0) (@List.toArray (@Option Value) []))
noncomputable abbrev o12x383 (P : Params) : Obj := (@Obj.mk Value.none none (@Data.fields (@List.toArray Value [])) (@List.toArray (@Option Value) []))
noncomputable abbrev o12x384 (P : Params) : Obj := (@Obj.mk (@Value.type "tuple") none (@Data.seq (@List.toArray Value [(@Value.str (Str.ofString "tree") 700), (@Value.str (Str.ofString "hooks") 701), (@Value.str (Str.ofString "value") 702), (@Value.str (Str.ofString "text") 703)]) 0) (@List.toArray (@Option Value) []))
noncomputable abbrev o12x385 (P : Params) : Obj := (@Obj.mk (@Value.type "tuple") none (@Data.seq (@List.toArray Value []) 0) (@List.toArray (@Option Value) []))
noncomputable abbrev o12x386 (P : Params) : Obj := (@Obj.mk Value.none none (@Data.func (@FuncData.mk (Str.ofString "name_in") (Str.ofString "name_in") (fnA (stAt 47)) (FuncBody.stmts (fnB (stAt 47))) (fnS (stAt 47)) 0 [] Value.none Value.none Value.none Value.none none Value.none Value.none 0)) (@List.toArray (@Option Value) []))
noncomputable abbrev o12x387 (P : Params) : Obj := (@Obj.mk (@Value.type "code") none (@Data.fields (@List.toArray Value [(@Value.str (Str.ofString "name_in") 697), (@Value.str (Str.ofString "name_in") 698), (@Value.str (Str.ofString "/claim/cut.py") 699), (@Value.int (@OfNat.ofNat Int (nat_lit 228) (@instOfNat (nat_lit 228))) 0), (@Value.int (@OfNat.ofNat Int (nat_lit 2) (@instOfNat (nat_lit 2))) 0), (@Value.int (@OfNat.ofNat Int (nat_lit 0) (@instOfNat (nat_lit 0))) 0), (@Value.int (@OfNat.ofNat Int (nat_lit 0) (@instOfNat (nat_lit 0))) 0), (@Value.int (@OfNat.ofNat Int (nat_lit 3) (@instOfNat (nat_lit 3))) 0), (@Value.ref 382), (@Value.bool Bool.true), (@Value.int (@OfNat.ofNat Int (nat_lit 181) (@instOfNat (nat_lit 181))) 0), (@Value.ref 383), Value.none, (@Value.ref 384), (@Value.ref 385), (@Value.ref 386), (@Value.int (@OfNat.ofNat Int (nat_lit 704) (@instOfNat (nat_lit 704))) 0), (@Value.int (@OfNat.ofNat Int (nat_lit 228) (@instOfNat (nat_lit 228))) 0), (@Value.str (Str.ofString "/claim/cut.py") 705)])) (@List.toArray (@Option Value) []))
noncomputable abbrev o12x388 (P : Params) : Obj := (@Obj.mk (@Value.type "function") none (@Data.func (@FuncData.mk (Str.ofString "name_in") (Str.ofString "name_in") (fnA (stAt 47)) (FuncBody.stmts (fnB (stAt 47))) (fnS (stAt 47)) 3 [] Value.none Value.none Value.none (@Value.str (Str.ofString "snobol.plainexpr") 620) none (@Value.ref 387) Value.none 0)) (@List.toArray (@Option Value) []))
noncomputable abbrev o12x389 (P : Params) : Obj := (@Obj.mk (@Value.type "tuple") none (@Data.seq (@List.toArray Value []) 0) (@List.toArray (@Option Value) []))
noncomputable abbrev o12x390 (P : Params) : Obj := (@Obj.mk Value.none none (@Data.fields (@List.toArray Value [])) (@List.toArray (@Option Value) []))
noncomputable abbrev o12x391 (P : Params) : Obj := (@Obj.mk (@Value.type "tuple") none (@Data.seq (@List.toArray Value [(@Value.str (Str.ofString "op") 710), (@Value.str (Str.ofString "tree") 711), (@Value.str (Str.ofString "hooks") 712), (@Value.str (Str.ofString "ref") 713), (@Value.str (Str.ofString "value") 714)]) 0) (@List.toArray (@Option Value) []))
noncomputable abbrev o12x392 (P : Params) : Obj := (@Obj.mk (@Value.type "tuple") none (@Data.seq (@List.toArray Value []) 0) (@List.toArray (@Option Value) []))
noncomputable abbrev o12x393 (P : Params) : Obj := (@Obj.mk Value.none none (@Data.func (@FuncData.mk (Str.ofString "worth_of_one") (Str.ofString "worth_of_one") (fnA (stAt 48)) (FuncBody.stmts (fnB (stAt 48))) (fnS (stAt 48)) 0 [] Value.none Value.none Value.none Value.none none Value.none Value.none 0)) (@List.toArray (@Option Value) []))
noncomputable abbrev o12x394 (P : Params) : Obj := (@Obj.mk (@Value.type "code") none (@Data.fields (@List.toArray Value [(@Value.str (Str.ofString "worth_of_one") 707), (@Value.str (Str.ofString "worth_of_one") 708), (@Value.str (Str.ofString "/claim/cut.py") 709), (@Value.int (@OfNat.ofNat Int (nat_lit 240) (@instOfNat (nat_lit 240))) 0), (@Value.int (@OfNat.ofNat Int (nat_lit 3) (@instOfNat (nat_lit 3))) 0), (@Value.int (@OfNat.ofNat Int (nat_lit 0) (@instOfNat (nat_lit 0))) 0), (@Value.int (@OfNat.ofNat Int (nat_lit 0) (@instOfNat (nat_lit 0))) 0), (@Value.int (@OfNat.ofNat Int (nat_lit 3) (@instOfNat (nat_lit 3))) 0), (@Value.ref 389), (@Value.bool Bool.true), (@Value.int (@OfNat.ofNat Int (nat_lit 181) (@instOfNat (nat_lit 181))) 0), (@Value.ref 390), Value.none, (@Value.ref 391), (@Value.ref 392), (@Value.ref 393), (@Value.int (@OfNat.ofNat Int (nat_lit 715) (@instOfNat (nat_lit 715))) 0), (@Value.int (@OfNat.ofNat Int (nat_lit 240) (@instOfNat (nat_lit 240))) 0), (@Value.str (Str.ofString "/claim/cut.py") 716)])) (@List.toArray (@Option Value) []))
noncomputable abbrev o12x395 (P : Params) : Obj := (@Obj.mk (@Value.type "function") none (@Data.func (@FuncData.mk (Str.ofString "worth_of_one") (Str.ofString "worth_of_one") (fnA (stAt 48)) (FuncBody.stmts (fnB (stAt 48))) (fnS (stAt 48)) 3 [] Value.none Value.none Value.none (@Value.str (Str.ofString "snobol.plainexpr") 620) none (@Value.ref 394) Value.none 0)) (@List.toArray (@Option Value) []))
noncomputable abbrev o12x396 (P : Params) : Obj := (@Obj.mk (@Value.type "tuple") none (@Data.seq (@List.toArray Value []) 0) (@List.toArray (@Option Value) []))
noncomputable abbrev o12x397 (P : Params) : Obj := (@Obj.mk Value.none none (@Data.fields (@List.toArray Value [])) (@List.toArray (@Option Value) []))
noncomputable abbrev o12x398 (P : Params) : Obj := (@Obj.mk (@Value.type "tuple") none (@Data.seq (@List.toArray Value [(@Value.str (Str.ofString "tree") 721), (@Value.str (Str.ofString "hooks") 722), (@Value.str (Str.ofString "both") 723), (@Value.str (Str.ofString "op") 724), (@Value.str (Str.ofString "left") 725), (@Value.str (Str.ofString "right") 726), (@Value.str (Str.ofString "value") 727), (@Value.str (Str.ofString "ref") 728), (@Value.str (Str.ofString "node") 729)]) 0) (@List.toArray (@Option Value) []))
noncomputable abbrev o12x399 (P : Params) : Obj := (@Obj.mk (@Value.type "tuple") none (@Data.seq (@List.toArray Value []) 0) (@List.toArray (@Option Value) []))
noncomputable abbrev o12x400 (P : Params) : Obj := (@Obj.mk Value.none none (@Data.func (@FuncData.mk (Str.ofString "worth_of_two") (Str.ofString "worth_of_two") (fnA (stAt 49)) (FuncBody.stmts (fnB (stAt 49))) (fnS (stAt 49)) 0 [] Value.none Value.none Value.none Value.none none Value.none Value.none 0)) (@List.toArray (@Option Value) []))
noncomputable abbrev o12x401 (P : Params) : Obj := (@Obj.mk (@Value.type "code") none (@Data.fields (@List.toArray Value [(@Value.str (Str.ofString "worth_of_two") 718), (@Value.str (Str.ofString "worth_of_two") 719), (@Value.str (Str.ofString "/claim/cut.py") 720), (@Value.int (@OfNat.ofNat Int (nat_lit 258) (@instOfNat (nat_lit 258))) 0), (@Value.int (@OfNat.ofNat Int (nat_lit 2) (@instOfNat (nat_lit 2))) 0), (@Value.int (@OfNat.ofNat Int (nat_lit 0) (@instOfNat (nat_lit 0))) 0), (@Value.int (@OfNat.ofNat Int (nat_lit 0) (@instOfNat (nat_lit 0))) 0), (@Value.int (@OfNat.ofNat Int (nat_lit 3) (@instOfNat (nat_lit 3))) 0), (@Value.ref 396), (@Value.bool Bool.true), (@Value.int (@OfNat.ofNat Int (nat_lit 181) (@instOfNat (nat_lit 181))) 0), (@Value.ref 397), Value.none, (@Value.ref 398), (@Value.ref 399), (@Value.ref 400), (@Value.int (@OfNat.ofNat Int (nat_lit 730) (@instOfNat (nat_lit 730))) 0), (@Value.int (@OfNat.ofNat Int (nat_lit 258) (@instOfNat (nat_lit 258))) 0), (@Value.str (Str.ofString "/claim/cut.py") 731)])) (@List.toArray (@Option Value) []))
noncomputable abbrev o12x402 (P : Params) : Obj := (@Obj.mk (@Value.type "function") none (@Data.func (@FuncData.mk (Str.ofString "worth_of_two") (Str.ofString "worth_of_two") (fnA (stAt 49)) (FuncBody.stmts (fnB (stAt 49))) (fnS (stAt 49)) 3 [] Value.none Value.none Value.none (@Value.str (Str.ofString "snobol.plainexpr") 620) none (@Value.ref 401) Value.none 0)) (@List.toArray (@Option Value) []))
noncomputable abbrev o12x403 (P : Params) : Obj := (@Obj.mk (@Value.type "tuple") none (@Data.seq (@List.toArray Value []) 0) (@List.toArray (@Option Value) []))
noncomputable abbrev o12x404 (P : Params) : Obj := (@Obj.mk Value.none none (@Data.fields (@List.toArray Value [])) (@List.toArray (@Option Value) []))
noncomputable abbrev o12x405 (P : Params) : Obj := (@Obj.mk (@Value.type "tuple") none (@Data.seq (@List.toArray Value [(@Value.str (Str.ofString "tree") 736), (@Value.str (Str.ofString "hooks") 737), (@Value.str (Str.ofString "found") 738), (@Value.str (Str.ofString "error") 739)]) 0) (@List.toArray (@Option Value) []))
noncomputable abbrev o12x406 (P : Params) : Obj := (@Obj.mk (@Value.type "tuple") none (@Data.seq (@List.toArray Value []) 0) (@List.toArray (@Option Value) []))
noncomputable abbrev o12x407 (P : Params) : Obj := (@Obj.mk Value.none none (@Data.func (@FuncData.mk (Str.ofString "worth_told") (Str.ofString "worth_told") (fnA (stAt 50)) (FuncBody.stmts (fnB (stAt 50))) (fnS (stAt 50)) 0 [] Value.none Value.none Value.none Value.none none Value.none Value.none 0)) (@List.toArray (@Option Value) []))
noncomputable abbrev o12x408 (P : Params) : Obj := (@Obj.mk (@Value.type "code") none (@Data.fields (@List.toArray Value [(@Value.str (Str.ofString "worth_told") 733), (@Value.str (Str.ofString "worth_told") 734), (@Value.str (Str.ofString "/claim/cut.py") 735), (@Value.int (@OfNat.ofNat Int (nat_lit 272) (@instOfNat (nat_lit 272))) 0), (@Value.int (@OfNat.ofNat Int (nat_lit 2) (@instOfNat (nat_lit 2))) 0), (@Value.int (@OfNat.ofNat Int (nat_lit 0) (@instOfNat (nat_lit 0))) 0), (@Value.int (@OfNat.ofNat Int (nat_lit 0) (@instOfNat (nat_lit 0))) 0), (@Value.int (@OfNat.ofNat Int (nat_lit 3) (@instOfNat (nat_lit 3))) 0), (@Value.ref 403), (@Value.bool Bool.true), (@Value.int (@OfNat.ofNat Int (nat_lit 181) (@instOfNat (nat_lit 181))) 0), (@Value.ref 404), Value.none, (@Value.ref 405), (@Value.ref 406), (@Value.ref 407), (@Value.int (@OfNat.ofNat Int (nat_lit 740) (@instOfNat (nat_lit 740))) 0), (@Value.int (@OfNat.ofNat Int (nat_lit 272) (@instOfNat (nat_lit 272))) 0), (@Value.str (Str.ofString "/claim/cut.py") 741)])) (@List.toArray (@Option Value) []))
noncomputable abbrev o12x409 (P : Params) : Obj := (@Obj.mk (@Value.type "function") none (@Data.func (@FuncData.mk (Str.ofString "worth_told") (Str.ofString "worth_told") (fnA (stAt 50)) (FuncBody.stmts (fnB (stAt 50))) (fnS (stAt 50)) 3 [] Value.none Value.none Value.none (@Value.str (Str.ofString "snobol.plainexpr") 620) none (@Value.ref 408) Value.none 0)) (@List.toArray (@Option Value) []))
noncomputable abbrev o12x410 (P : Params) : Obj := (@Obj.mk (@Value.type "tuple") none (@Data.seq (@List.toArray Value []) 0) (@List.toArray (@Option Value) []))
noncomputable abbrev o12x411 (P : Params) : Obj := (@Obj.mk Value.none none (@Data.fields (@List.toArray Value [])) (@List.toArray (@Option Value) []))
noncomputable abbrev o12x412 (P : Params) : Obj := (@Obj.mk (@Value.type "tuple") none (@Data.seq (@List.toArray Value [(@Value.str (Str.ofString "feed") 748), (@Value.str (Str.ofString "many") 749), (@Value.str (Str.ofString "cells") 750), (@Value.str (Str.ofString "turn") 751)]) 0) (@List.toArray (@Option Value) []))
noncomputable abbrev o12x413 (P : Params) : Obj := (@Obj.mk (@Value.type "tuple") none (@Data.seq (@List.toArray Value []) 0) (@List.toArray (@Option Value) []))
noncomputable abbrev o12x414 (P : Params) : Obj := (@Obj.mk Value.none none (@Data.func (@FuncData.mk (Str.ofString "_law_next") (Str.ofString "_law_next") (fnA (stAt 52)) (FuncBody.stmts (fnB (stAt 52))) (fnS (stAt 52)) 0 [] Value.none Value.none Value.none Value.none none Value.none Value.none 0)) (@List.toArray (@Option Value) []))
noncomputable abbrev o12x415 (P : Params) : Obj := (@Obj.mk (@Value.type "code") none (@Data.fields (@List.toArray Value [(@Value.str (Str.ofString "_law_next") 745), (@Value.str (Str.ofString "_law_next") 746), (@Value.str (Str.ofString "/claim/cut.py") 747), (@Value.int (@OfNat.ofNat Int (nat_lit 279) (@instOfNat (nat_lit 279))) 0), (@Value.int (@OfNat.ofNat Int (nat_lit 2) (@instOfNat (nat_lit 2))) 0), (@Value.int (@OfNat.ofNat Int (nat_lit 0) (@instOfNat (nat_lit 0))) 0), (@Value.int (@OfNat.ofNat Int (nat_lit 0) (@instOfNat (nat_lit 0))) 0), (@Value.int (@OfNat.ofNat Int (nat_lit 3) (@instOfNat (nat_lit 3))) 0), (@Value.ref 410), (@Value.bool Bool.true), (@Value.int (@OfNat.ofNat Int (nat_lit 181) (@instOfNat (nat_lit 181))) 0), (@Value.ref 411), Value.none, (@Value.ref 412), (@Value.ref 413), (@Value.ref 414), (@Value.int (@OfNat.ofNat Int (nat_lit 752) (@instOfNat (nat_lit 752))) 0), (@Value.int (@OfNat.ofNat Int (nat_lit 279) (@instOfNat (nat_lit 279))) 0), (@Value.str (Str.ofString "/claim/cut.py") 753)])) (@List.toArray (@Option Value) []))
noncomputable abbrev o12x416 (P : Params) : Obj := (@Obj.mk (@Value.type "function") none (@Data.func (@FuncData.mk (Str.ofString "_law_next") (Str.ofString "_law_next") (fnA (stAt 52)) (FuncBody.stmts (fnB (stAt 52))) (fnS (stAt 52)) 3 [] Value.none Value.none Value.none (@Value.str (Str.ofString "law_rh0230_01") 743) none (@Value.ref 415) Value.none 0)) (@List.toArray (@Option Value) []))
noncomputable abbrev o12x417 (P : Params) : Obj := (@Obj.mk (@Value.type "tuple") none (@Data.seq (@List.toArray Value []) 0) (@List.toArray (@Option Value) []))
noncomputable abbrev o12x418 (P : Params) : Obj := (@Obj.mk Value.none none (@Data.fields (@List.toArray Value [])) (@List.toArray (@Option Value) []))
noncomputable abbrev o12x419 (P : Params) : Obj := (@Obj.mk (@Value.type "tuple") none (@Data.seq (@List.toArray Value [(@Value.str (Str.ofString "form") 758), (@Value.str (Str.ofString "part") 759), (@Value.str (Str.ofString "text") 760)]) 0) (@List.toArray (@Option Value) []))
noncomputable abbrev o12x420 (P : Params) : Obj := (@Obj.mk (@Value.type "tuple") none (@Data.seq (@List.toArray Value []) 0) (@List.toArray (@Option Value) []))
noncomputable abbrev o12x421 (P : Params) : Obj := (@Obj.mk Value.none none (@Data.func (@FuncData.mk (Str.ofString "_law_tree") (Str.ofString "_law_tree") (fnA (stAt 53)) (FuncBody.stmts (fnB (stAt 53))) (fnS (stAt 53)) 0 [] Value.none Value.none Value.none Value.none none Value.none Value.none 0)) (@List.toArray (@Option Value) []))
noncomputable abbrev o12x422 (P : Params) : Obj := (@Obj.mk (@Value.type "code") none (@Data.fields (@List.toArray Value [(@Value.str (Str.ofString "_law_tree") 755), (@Value.str (Str.ofString "_law_tree") 756), (@Value.str (Str.ofString "/claim/cut.py") 757), (@Value.int (@OfNat.ofNat Int (nat_lit 285) (@instOfNat (nat_lit 285))) 0), (@Value.int (@OfNat.ofNat Int (nat_lit 1) (@instOfNat (nat_lit 1))) 0), (@Value.int (@OfNat.ofNat Int (nat_lit 0) (@instOfNat (nat_lit 0))) 0), (@Value.int (@OfNat.ofNat Int (nat_lit 0) (@instOfNat (nat_lit 0))) 0), (@Value.int (@OfNat.ofNat Int (nat_lit 3) (@instOfNat (nat_lit 3))) 0), (@Value.ref 417), (@Value.bool Bool.true), (@Value.int (@OfNat.ofNat Int (nat_lit 181) (@instOfNat (nat_lit 181))) 0), (@Value.ref 418), Value.none, (@Value.ref 419), (@Value.ref 420), (@Value.ref 421), (@Value.int (@OfNat.ofNat Int (nat_lit 761) (@instOfNat (nat_lit 761))) 0), (@Value.int (@OfNat.ofNat Int (nat_lit 285) (@instOfNat (nat_lit 285))) 0), (@Value.str (Str.ofString "/claim/cut.py") 762)])) (@List.toArray (@Option Value) []))
noncomputable abbrev o12x423 (P : Params) : Obj := (@Obj.mk (@Value.type "function") none (@Data.func (@FuncData.mk (Str.ofString "_law_tree") (Str.ofString "_law_tree") (fnA (stAt 53)) (FuncBody.stmts (fnB (stAt 53))) (fnS (stAt 53)) 3 [] Value.none Value.none Value.none (@Value.str (Str.ofString "law_rh0230_01") 743) none (@Value.ref 422) Value.none 0)) (@List.toArray (@Option Value) []))
noncomputable abbrev o12x424 (P : Params) : Obj := (@Obj.mk (@Value.type "tuple") none (@Data.seq (@List.toArray Value []) 0) (@List.toArray (@Option Value) []))
noncomputable abbrev o12x425 (P : Params) : Obj := (@Obj.mk Value.none none (@Data.fields (@List.toArray Value [])) (@List.toArray (@Option Value) []))
noncomputable abbrev o12x426 (P : Params) : Obj := (@Obj.mk Value.none none (@Data.func (@FuncData.mk (Str.ofString "_law_plain") (Str.ofString "_law_plain") (fnA (stAt 54)) (FuncBody.stmts (fnB (stAt 54))) (fnS (stAt 54)) 0 [] Value.none Value.none Value.none Value.none none Value.none Value.none 0)) (@List.toArray (@Option Value) []))
noncomputable abbrev o12x427 (P : Params) : Obj := (@Obj.mk (@Value.type "code") none (@Data.fields (@List.toArray Value [(@Value.str (Str.ofString "_law_plain") 764), (@Value.str (Str.ofString "_law_plain") 765), (@Value.str (Str.ofString "/claim/cut.py") 766), (@Value.int (@OfNat.ofNat Int (nat_lit 290) (@instOfNat (nat_lit 290))) 0), (@Value.int (@OfNat.ofNat Int (nat_lit 1) (@instOfNat (nat_lit 1))) 0), (@Value.int (@OfNat.ofNat Int (nat_lit 0) (@instOfNat (nat_lit 0))) 0), (@Value.int (@OfNat.ofNat Int (nat_lit 0) (@instOfNat (nat_lit 0))) 0), (@Value.int (@OfNat.ofNat Int (nat_lit 3) (@instOfNat (nat_lit 3))) 0), (@Value.ref 424), (@Value.bool Bool.true), (@Value.int (@OfNat.ofNat Int (nat_lit 181) (@instOfNat (nat_lit 181))) 0), (@Value.ref 425), Value.none, Value.none, Value.none, (@Value.ref 426), (@Value.int (@OfNat.ofNat Int (nat_lit 767) (@instOfNat (nat_lit 767))) 0), (@Value.int (@OfNat.ofNat Int (nat_lit 290) (@instOfNat (nat_lit 290))) 0), (@Value.str (Str.ofString "/claim/cut.py") 768)])) (@List.toArray (@Option Value) []))
noncomputable abbrev o12x428 (P : Params) : Obj := (@Obj.mk (@Value.type "function") none (@Data.func (@FuncData.mk (Str.ofString "_law_plain") (Str.ofString "_law_plain") (fnA (stAt 54)) (FuncBody.stmts (fnB (stAt 54))) (fnS (stAt 54)) 3 [] Value.none Value.none Value.none (@Value.str (Str.ofString "law_rh0230_01") 743) none (@Value.ref 427) Value.none 0)) (@List.toArray (@Option Value) []))
noncomputable abbrev o12x429 (P : Params) : Obj := (@Obj.mk (@Value.type "tuple") none (@Data.seq (@List.toArray Value []) 0) (@List.toArray (@Option Value) []))
noncomputable abbrev o12x430 (P : Params) : Obj := (@Obj.mk Value.none none (@Data.fields (@List.toArray Value [])) (@List.toArray (@Option Value) []))
noncomputable abbrev o12x431 (P : Params) : Obj := (@Obj.mk (@Value.type "tuple") none (@Data.seq (@List.toArray Value [(@Value.str (Str.ofString "form") 773), (@Value.str (Str.ofString "borne") 774), (@Value.str (Str.ofString "value") 775), (@Value.str (Str.ofString "name") 776), (@Value.str (Str.ofString "node") 777)]) 0) (@List.toArray (@Option Value) []))
noncomputable abbrev o12x432 (P : Params) : Obj := (@Obj.mk (@Value.type "tuple") none (@Data.seq (@List.toArray Value []) 0) (@List.toArray (@Option Value) []))
noncomputable abbrev o12x433 (P : Params) : Obj := (@Obj.mk Value.none none (@Data.func (@FuncData.mk (Str.ofString "_law_due") (Str.ofString "_law_due") (fnA (stAt 55)) (FuncBody.stmts (fnB (stAt 55))) (fnS (stAt 55)) 0 [] Value.none Value.none Value.none Value.none none Value.none Value.none 0)) (@List.toArray (@Option Value) []))
noncomputable abbrev o12x434 (P : Params) : Obj := (@Obj.mk (@Value.type "code") none (@Data.fields (@List.toArray Value [(@Value.str (Str.ofString "_law_due") 770), (@Value.str (Str.ofString "_law_due") 771), (@Value.str (Str.ofString "/claim/cut.py") 772), (@Value.int (@OfNat.ofNat Int (nat_lit 296) (@instOfNat (nat_lit 296))) 0), (@Value.int (@OfNat.ofNat Int (nat_lit 3) (@instOfNat (nat_lit 3))) 0), (@Value.int (@OfNat.ofNat Int (nat_lit 0) (@instOfNat (nat_lit 0))) 0), (@Value.int (@OfNat.ofNat Int (nat_lit 0) (@instOfNat (nat_lit 0))) 0), (@Value.int (@OfNat.ofNat Int (nat_lit 3) (@instOfNat (nat_lit 3))) 0), (@Value.ref 429), (@Value.bool Bool.true), (@Value.int (@OfNat.ofNat Int (nat_lit 181) (@instOfNat (nat_lit 181))) 0), (@Value.ref 430), Value.none, (@Value.ref 431), (@Value.ref 432), (@Value.ref 433), (@Value.int (@OfNat.ofNat Int (nat_lit 778) (@instOfNat (nat_lit 778))) 0), (@Value.int (@OfNat.ofNat Int (nat_lit 296) (@instOfNat (nat_lit 296))) 0), (@Value.str (Str.ofString "/claim/cut.py") 779)])) (@List.toArray (@Option Value) []))
noncomputable abbrev o12x435 (P : Params) : Obj := (@Obj.mk (@Value.type "function") none (@Data.func (@FuncData.mk (Str.ofString "_law_due") (Str.ofString "_law_due") (fnA (stAt 55)) (FuncBody.stmts (fnB (stAt 55))) (fnS (stAt 55)) 3 [] Value.none Value.none Value.none (@Value.str (Str.ofString "law_rh0230_01") 743) none (@Value.ref 434) Value.none 0)) (@List.toArray (@Option Value) []))
noncomputable abbrev o12x436 (P : Params) : Obj := (@Obj.mk (@Value.type "tuple") none (@Data.seq (@List.toArray Value []) 0) (@List.toArray (@Option Value) []))
noncomputable abbrev o12x437 (P : Params) : Obj := (@Obj.mk Value.none none (@Data.fields (@List.toArray Value [])) (@List.toArray (@Option Value) []))
noncomputable abbrev o12x438 (P : Params) : Obj := (@Obj.mk (@Value.type "tuple") none (@Data.seq (@List.toArray Value [(@Value.str (Str.ofString "script") 784), (@Value.str (Str.ofString "feed") 785), (@Value.str (Str.ofString "some") 786), (@Value.str (Str.ofString "borne") 787), (@Value.str (Str.ofString "form") 788), (@Value.str (Str.ofString "value") 789), (@Value.str (Str.ofString "hooks") 790), (@Value.str (Str.ofString "how") 791), (@Value.str (Str.ofString "found") 792)]) 0) (@List.toArray (@Option Value) []))
noncomputable abbrev o12x439 (P : Params) : Obj := (@Obj.mk (@Value.type "tuple") none (@Data.seq (@List.toArray Value []) 0) (@List.toArray (@Option Value) []))
noncomputable abbrev o12x440 (P : Params) : Obj := (@Obj.mk Value.none none (@Data.func (@FuncData.mk (Str.ofString "law") (Str.ofString "law") (fnA (stAt 56)) (FuncBody.stmts (fnB (stAt 56))) (fnS (stAt 56)) 0 [] Value.none Value.none Value.none Value.none none Value.none Value.none 0)) (@List.toArray (@Option Value) []))
noncomputable abbrev o12x441 (P : Params) : Obj := (@Obj.mk (@Value.type "code") none (@Data.fields (@List.toArray Value [(@Value.str (Str.ofString "law") 781), (@Value.str (Str.ofString "law") 782), (@Value.str (Str.ofString "/claim/cut.py") 783), (@Value.int (@OfNat.ofNat Int (nat_lit 310) (@instOfNat (nat_lit 310))) 0), (@Value.int (@OfNat.ofNat Int (nat_lit 1) (@instOfNat (nat_lit 1))) 0), (@Value.int (@OfNat.ofNat Int (nat_lit 0) (@instOfNat (nat_lit 0))) 0), (@Value.int (@OfNat.ofNat Int (nat_lit 0) (@instOfNat (nat_lit 0))) 0), (@Value.int (@OfNat.ofNat Int (nat_lit 3) (@instOfNat (nat_lit 3))) 0), (@Value.ref 436), (@Value.bool Bool.true), (@Value.int (@OfNat.ofNat Int (nat_lit 181) (@instOfNat (nat_lit 181))) 0), (@Value.ref 437), Value.none, (@Value.ref 438), (@Value.ref 439), (@Value.ref 440), (@Value.int (@OfNat.ofNat Int (nat_lit 793) (@instOfNat (nat_lit 793))) 0), (@Value.int (@OfNat.ofNat Int (nat_lit 310) (@instOfNat (nat_lit 310))) 0), (@Value.str (Str.ofString "/claim/cut.py") 794)])) (@List.toArray (@Option Value) []))
noncomputable abbrev o12x442 (P : Params) : Obj := (@Obj.mk (@Value.type "function") none (@Data.func (@FuncData.mk (Str.ofString "law") (Str.ofString "law") (fnA (stAt 56)) (FuncBody.stmts (fnB (stAt 56))) (fnS (stAt 56)) 3 [] Value.none Value.none Value.none (@Value.str (Str.ofString "law_rh0230_01") 743) none (@Value.ref 441) Value.none 0)) (@List.toArray (@Option Value) []))
noncomputable abbrev hp9 (P : Params) : Heap := Heap.mk (Array.mk (boot_o_0 P :: boot_o_1 P :: o3x2 P :: o12x3 P :: boot_o_4 P :: boot_o_5 P :: boot_o_6 P :: boot_o_7 P :: boot_o_8 P :: boot_o_9 P :: boot_o_10 P :: o1x11 P :: o12x12 P :: o1x13 P :: o1x14 P :: o3x15 P :: o3x16 P :: o3x17 P :: o3x18 P :: o3x19 P :: o3x20 P :: o3x21 P :: o3x22 P :: o3x23 P :: o3x24 P :: o3x25 P :: o3x26 P :: o3x27 P :: o3x28 P :: o3x29 P :: o3x30 P :: o3x31 P :: o3x32 P :: o3x33 P :: o3x34 P :: o3x35 P :: o3x36 P :: o3x37 P :: o4x38 P :: o4x39 P :: o4x40 P :: o4x41 P :: o4x42 P :: o4x43 P :: o4x44 P :: o4x45 P :: o4x46 P :: o4x47 P :: o4x48 P :: o4x49 P :: o4x50 P :: o4x51 P :: o5x52 P :: o5x53 P :: o5x54 P :: o5x55 P :: o5x56 P :: o5x57 P :: o5x58 P :: o5x59 P :: o5x60 P :: o5x61 P :: o5x62 P :: o5x63 P :: o5x64 P :: o5x65 P :: o5x66 P :: o5x67 P :: o5x68 P :: o5x69 P :: o5x70 P :: o5x71 P :: o5x72 P :: o6x73 P :: o6x74 P :: o6x75 P :: o6x76 P :: o6x77 P :: o6x78 P :: o6x79 P :: o6x80 P :: o6x81 P :: o6x82 P :: o6x83 P :: o6x84 P :: o6x85 P :: o6x86 P :: o6x87 P :: o6x88 P :: o6x89 P :: o6x90 P :: o6x91 P :: o6x92 P :: o6x93 P :: o7x94 P :: o7x95 P :: o7x96 P :: o7x97 P :: o7x98 P :: o7x99 P :: o7x100 P :: o7x101 P :: o7x102 P :: o7x103 P :: o7x104 P :: o7x105 P :: o7x106 P :: o7x107 P :: o7x108 P :: o7x109 P :: o7x110 P :: o7x111 P :: o7x112 P :: o7x113 P :: o7x114 P :: o8x115 P :: o8x116 P :: o8x117 P :: o8x118 P :: o8x119 P :: o8x120 P :: o8x121 P :: o8x122 P :: o8x123 P :: o8x124 P :: o8x125 P :: o8x126 P :: o8x127 P :: o8x128 P :: o8x129 P :: o8x130 P :: o8x131 P :: o8x132 P :: o8x133 P :: o8x134 P :: o8x135 P :: o8x136 P :: o8x137 P :: o8x138 P :: o8x139 P :: o8x140 P :: o8x141 P :: o8x142 P :: o8x143 P :: o8x144 P :: o8x145 P :: o8x146 P :: o8x147 P :: o8x148 P :: o8x149 P :: o8x150 P :: o8x151 P :: o8x152 P :: o8x153 P :: o8x154 P :: o8x155 P :: o8x156 P :: o8x157 P :: o8x158 P :: o8x159 P :: o8x160 P :: o8x161 P :: o8x162 P :: o8x163 P :: o8x164 P :: o8x165 P :: o8x166 P :: o8x167 P :: o8x168 P :: o8x169 P :: o8x170 P :: o9x171 P :: o9x172 P :: o9x173 P :: o9x174 P :: o9x175 P :: o9x176 P :: o9x177 P :: o9x178 P :: o9x179 P :: o9x180 P :: o9x181 P :: o9x182 P :: o9x183 P :: o9x184 P :: o9x185 P :: o9x186 P :: o9x187 P :: o9x188 P :: o9x189 P :: o9x190 P :: o9x191 P :: o9x192 P :: o9x193 P :: o9x194 P :: o9x195 P :: o9x196 P :: o9x197 P :: o9x198 P :: o9x199 P :: o9x200 P :: o9x201 P :: o9x202 P :: o9x203 P :: o9x204 P :: o9x205 P :: o9x206 P :: o9x207 P :: o9x208 P :: o9x209 P :: o9x210 P :: o9x211 P :: o9x212 P :: o9x213 P :: o9x214 P :: o9x215 P :: o9x216 P :: o9x217 P :: o9x218 P :: o9x219 P :: o9x220 P :: o9x221 P :: o9x222 P :: o9x223 P :: o9x224 P :: o9x225 P :: o9x226 P :: o9x227 P :: o9x228 P :: o9x229 P :: o9x230 P :: o9x231 P :: o9x232 P :: o9x233 P :: o9x234 P :: o9x235 P :: o9x236 P :: o9x237 P :: o9x238 P :: o9x239 P :: o9x240 P :: o9x241 P :: o9x242 P :: o9x243 P :: o9x244 P :: o9x245 P :: o9x246 P :: o9x247 P :: o9x248 P :: o10x249 P :: o10x250 P :: o10x251 P :: o10x252 P :: o10x253 P :: o10x254 P :: o10x255 P :: o10x256 P :: o10x257 P :: o10x258 P :: o10x259 P :: o10x260 P :: o10x261 P :: o10x262 P :: o10x263 P :: o10x264 P :: o10x265 P :: o10x266 P :: o10x267 P :: o10x268 P :: o10x269 P :: o10x270 P :: o10x271 P :: o10x272 P :: o10x273 P :: o10x274 P :: o10x275 P :: o10x276 P :: o10x277 P :: o10x278 P :: o10x279 P :: o10x280 P :: o10x281 P :: o10x282 P :: o10x283 P :: o10x284 P :: o10x285 P :: o10x286 P :: o10x287 P :: o10x288 P :: o10x289 P :: o10x290 P :: o10x291 P :: o10x292 P :: o10x293 P :: o10x294 P :: o10x295 P :: o10x296 P :: o10x297 P :: o10x298 P :: o10x299 P :: o10x300 P :: o10x301 P :: o10x302 P :: o10x303 P :: o10x304 P :: o10x305 P :: o10x306 P :: o10x307 P :: o10x308 P :: o10x309 P :: o10x310 P :: o10x311 P :: o10x312 P :: o10x313 P :: o10x314 P :: o10x315 P :: o10x316 P :: o10x317 P :: o10x318 P :: o10x319 P :: o10x320 P :: o10x321 P :: o10x322 P :: o10x323 P :: o10x324 P :: o10x325 P :: o10x326 P :: o10x327 P :: o10x328 P :: o10x329 P :: o10x330 P :: o10x331 P :: o10x332 P :: o11x333 P :: o11x334 P :: o11x335 P :: o11x336 P :: o11x337 P :: o11x338 P :: o11x339 P :: o11x340 P :: o11x341 P :: o11x342 P :: o11x343 P :: o11x344 P :: o11x345 P :: o11x346 P :: o11x347 P :: o11x348 P :: o11x349 P :: o11x350 P :: o11x351 P :: o11x352 P :: o11x353 P :: o11x354 P :: o11x355 P :: o11x356 P :: o11x357 P :: o11x358 P :: o11x359 P :: o11x360 P :: o11x361 P :: o11x362 P :: o11x363 P :: o11x364 P :: o11x365 P :: o11x366 P :: o11x367 P :: o11x368 P :: o11x369 P :: o11x370 P :: o11x371 P :: o11x372 P :: o11x373 P :: o11x374 P :: o11x375 P :: o11x376 P :: o11x377 P :: o11x378 P :: o11x379 P :: o11x380 P :: o11x381 P :: o12x382 P :: o12x383 P :: o12x384 P :: o12x385 P :: o12x386 P :: o12x387 P :: o12x388 P :: o12x389 P :: o12x390 P :: o12x391 P :: o12x392 P :: o12x393 P :: o12x394 P :: o12x395 P :: o12x396 P :: o12x397 P :: o12x398 P :: o12x399 P :: o12x400 P :: o12x401 P :: o12x402 P :: o12x403 P :: o12x404 P :: o12x405 P :: o12x406 P :: o12x407 P :: o12x408 P :: o12x409 P :: o12x410 P :: o12x411 P :: o12x412 P :: o12x413 P :: o12x414 P :: o12x415 P :: o12x416 P :: o12x417 P :: o12x418 P :: o12x419 P :: o12x420 P :: o12x421 P :: o12x422 P :: o12x423 P :: o12x424 P :: o12x425 P :: o12x426 P :: o12x427 P :: o12x428 P :: o12x429 P :: o12x430 P :: o12x431 P :: o12x432 P :: o12x433 P :: o12x434 P :: o12x435 P :: o12x436 P :: o12x437 P :: o12x438 P :: o12x439 P :: o12x440 P :: o12x441 P :: o12x442 P :: [])) (@PySem.Life.mk [] [] [] 0 [] [] Bool.false (@List.toArray Nat []) [] 0 Bool.false Bool.false Bool.false (@OfNat.ofNat Int (nat_lit 0) (@instOfNat (nat_lit 0))) [(@OfNat.ofNat Int (nat_lit 2000) (@instOfNat (nat_lit 2000))), (@OfNat.ofNat Int (nat_lit 10) (@instOfNat (nat_lit 10))), (@OfNat.ofNat Int (nat_lit 10) (@instOfNat (nat_lit 10)))] Bool.false 0 Bool.true [] [] 0 Bool.false)
noncomputable abbrev shp9 (w : World) (os : OsState) : Shared := ⟨hp9 w.params, Array.mk [], (@PySem.Drawn.mk 0 0 0 0), (nat_lit 796), os⟩
noncomputable abbrev sts9 : List Stmt := (bodT.drop 47).take 10
theorem seg9 : ∀ (w : World) (os : OsState), segRun treeTable pw w (nat_lit 11) (some (@Value.ref 6)) (nat_lit 1) (nat_lit 303) (shp8 w os) (piecesOf sts9 envT cT ⟨220, 0, 227, 16⟩ B_T) = some (Flow.next, shp9 w os, cT, ⟨310, 0, 317, 80⟩) := by
  intro w os; kernel_rfl
noncomputable abbrev hpF (P : Params) : Heap := Heap.mk (Array.mk (boot_o_0 P :: boot_o_1 P :: o3x2 P :: o12x3 P :: boot_o_4 P :: boot_o_5 P :: boot_o_6 P :: boot_o_7 P :: boot_o_8 P :: boot_o_9 P :: boot_o_10 P :: o1x11 P :: o12x12 P :: o1x13 P :: o1x14 P :: o3x15 P :: o3x16 P :: o3x17 P :: o3x18 P :: o3x19 P :: o3x20 P :: o3x21 P :: o3x22 P :: o3x23 P :: o3x24 P :: o3x25 P :: o3x26 P :: o3x27 P :: o3x28 P :: o3x29 P :: o3x30 P :: o3x31 P :: o3x32 P :: o3x33 P :: o3x34 P :: o3x35 P :: o3x36 P :: o3x37 P :: o4x38 P :: o4x39 P :: o4x40 P :: o4x41 P :: o4x42 P :: o4x43 P :: o4x44 P :: o4x45 P :: o4x46 P :: o4x47 P :: o4x48 P :: o4x49 P :: o4x50 P :: o4x51 P :: o5x52 P :: o5x53 P :: o5x54 P :: o5x55 P :: o5x56 P :: o5x57 P :: o5x58 P :: o5x59 P :: o5x60 P :: o5x61 P :: o5x62 P :: o5x63 P :: o5x64 P :: o5x65 P :: o5x66 P :: o5x67 P :: o5x68 P :: o5x69 P :: o5x70 P :: o5x71 P :: o5x72 P :: o6x73 P :: o6x74 P :: o6x75 P :: o6x76 P :: o6x77 P :: o6x78 P :: o6x79 P :: o6x80 P :: o6x81 P :: o6x82 P :: o6x83 P :: o6x84 P :: o6x85 P :: o6x86 P :: o6x87 P :: o6x88 P :: o6x89 P :: o6x90 P :: o6x91 P :: o6x92 P :: o6x93 P :: o7x94 P :: o7x95 P :: o7x96 P :: o7x97 P :: o7x98 P :: o7x99 P :: o7x100 P :: o7x101 P :: o7x102 P :: o7x103 P :: o7x104 P :: o7x105 P :: o7x106 P :: o7x107 P :: o7x108 P :: o7x109 P :: o7x110 P :: o7x111 P :: o7x112 P :: o7x113 P :: o7x114 P :: o8x115 P :: o8x116 P :: o8x117 P :: o8x118 P :: o8x119 P :: o8x120 P :: o8x121 P :: o8x122 P :: o8x123 P :: o8x124 P :: o8x125 P :: o8x126 P :: o8x127 P :: o8x128 P :: o8x129 P :: o8x130 P :: o8x131 P :: o8x132 P :: o8x133 P :: o8x134 P :: o8x135 P :: o8x136 P :: o8x137 P :: o8x138 P :: o8x139 P :: o8x140 P :: o8x141 P :: o8x142 P :: o8x143 P :: o8x144 P :: o8x145 P :: o8x146 P :: o8x147 P :: o8x148 P :: o8x149 P :: o8x150 P :: o8x151 P :: o8x152 P :: o8x153 P :: o8x154 P :: o8x155 P :: o8x156 P :: o8x157 P :: o8x158 P :: o8x159 P :: o8x160 P :: o8x161 P :: o8x162 P :: o8x163 P :: o8x164 P :: o8x165 P :: o8x166 P :: o8x167 P :: o8x168 P :: o8x169 P :: o8x170 P :: o9x171 P :: o9x172 P :: o9x173 P :: o9x174 P :: o9x175 P :: o9x176 P :: o9x177 P :: o9x178 P :: o9x179 P :: o9x180 P :: o9x181 P :: o9x182 P :: o9x183 P :: o9x184 P :: o9x185 P :: o9x186 P :: o9x187 P :: o9x188 P :: o9x189 P :: o9x190 P :: o9x191 P :: o9x192 P :: o9x193 P :: o9x194 P :: o9x195 P :: o9x196 P :: o9x197 P :: o9x198 P :: o9x199 P :: o9x200 P :: o9x201 P :: o9x202 P :: o9x203 P :: o9x204 P :: o9x205 P :: o9x206 P :: o9x207 P :: o9x208 P :: o9x209 P :: o9x210 P :: o9x211 P :: o9x212 P :: o9x213 P :: o9x214 P :: o9x215 P :: o9x216 P :: o9x217 P :: o9x218 P :: o9x219 P :: o9x220 P :: o9x221 P :: o9x222 P :: o9x223 P :: o9x224 P :: o9x225 P :: o9x226 P :: o9x227 P :: o9x228 P :: o9x229 P :: o9x230 P :: o9x231 P :: o9x232 P :: o9x233 P :: o9x234 P :: o9x235 P :: o9x236 P :: o9x237 P :: o9x238 P :: o9x239 P :: o9x240 P :: o9x241 P :: o9x242 P :: o9x243 P :: o9x244 P :: o9x245 P :: o9x246 P :: o9x247 P :: o9x248 P :: o10x249 P :: o10x250 P :: o10x251 P :: o10x252 P :: o10x253 P :: o10x254 P :: o10x255 P :: o10x256 P :: o10x257 P :: o10x258 P :: o10x259 P :: o10x260 P :: o10x261 P :: o10x262 P :: o10x263 P :: o10x264 P :: o10x265 P :: o10x266 P :: o10x267 P :: o10x268 P :: o10x269 P :: o10x270 P :: o10x271 P :: o10x272 P :: o10x273 P :: o10x274 P :: o10x275 P :: o10x276 P :: o10x277 P :: o10x278 P :: o10x279 P :: o10x280 P :: o10x281 P :: o10x282 P :: o10x283 P :: o10x284 P :: o10x285 P :: o10x286 P :: o10x287 P :: o10x288 P :: o10x289 P :: o10x290 P :: o10x291 P :: o10x292 P :: o10x293 P :: o10x294 P :: o10x295 P :: o10x296 P :: o10x297 P :: o10x298 P :: o10x299 P :: o10x300 P :: o10x301 P :: o10x302 P :: o10x303 P :: o10x304 P :: o10x305 P :: o10x306 P :: o10x307 P :: o10x308 P :: o10x309 P :: o10x310 P :: o10x311 P :: o10x312 P :: o10x313 P :: o10x314 P :: o10x315 P :: o10x316 P :: o10x317 P :: o10x318 P :: o10x319 P :: o10x320 P :: o10x321 P :: o10x322 P :: o10x323 P :: o10x324 P :: o10x325 P :: o10x326 P :: o10x327 P :: o10x328 P :: o10x329 P :: o10x330 P :: o10x331 P :: o10x332 P :: o11x333 P :: o11x334 P :: o11x335 P :: o11x336 P :: o11x337 P :: o11x338 P :: o11x339 P :: o11x340 P :: o11x341 P :: o11x342 P :: o11x343 P :: o11x344 P :: o11x345 P :: o11x346 P :: o11x347 P :: o11x348 P :: o11x349 P :: o11x350 P :: o11x351 P :: o11x352 P :: o11x353 P :: o11x354 P :: o11x355 P :: o11x356 P :: o11x357 P :: o11x358 P :: o11x359 P :: o11x360 P :: o11x361 P :: o11x362 P :: o11x363 P :: o11x364 P :: o11x365 P :: o11x366 P :: o11x367 P :: o11x368 P :: o11x369 P :: o11x370 P :: o11x371 P :: o11x372 P :: o11x373 P :: o11x374 P :: o11x375 P :: o11x376 P :: o11x377 P :: o11x378 P :: o11x379 P :: o11x380 P :: o11x381 P :: o12x382 P :: o12x383 P :: o12x384 P :: o12x385 P :: o12x386 P :: o12x387 P :: o12x388 P :: o12x389 P :: o12x390 P :: o12x391 P :: o12x392 P :: o12x393 P :: o12x394 P :: o12x395 P :: o12x396 P :: o12x397 P :: o12x398 P :: o12x399 P :: o12x400 P :: o12x401 P :: o12x402 P :: o12x403 P :: o12x404 P :: o12x405 P :: o12x406 P :: o12x407 P :: o12x408 P :: o12x409 P :: o12x410 P :: o12x411 P :: o12x412 P :: o12x413 P :: o12x414 P :: o12x415 P :: o12x416 P :: o12x417 P :: o12x418 P :: o12x419 P :: o12x420 P :: o12x421 P :: o12x422 P :: o12x423 P :: o12x424 P :: o12x425 P :: o12x426 P :: o12x427 P :: o12x428 P :: o12x429 P :: o12x430 P :: o12x431 P :: o12x432 P :: o12x433 P :: o12x434 P :: o12x435 P :: o12x436 P :: o12x437 P :: o12x438 P :: o12x439 P :: o12x440 P :: o12x441 P :: o12x442 P :: [])) (@PySem.Life.mk [] [] [] 0 [] [] Bool.false (@List.toArray Nat []) [] 0 Bool.false Bool.false Bool.false (@OfNat.ofNat Int (nat_lit 0) (@instOfNat (nat_lit 0))) [(@OfNat.ofNat Int (nat_lit 2000) (@instOfNat (nat_lit 2000))), (@OfNat.ofNat Int (nat_lit 10) (@instOfNat (nat_lit 10))), (@OfNat.ofNat Int (nat_lit 10) (@instOfNat (nat_lit 10)))] Bool.false 0 Bool.true [] [] 0 Bool.false)
noncomputable abbrev shpF (w : World) (os : OsState) : Shared := ⟨hpF w.params, Array.mk [], (@PySem.Drawn.mk 0 0 0 0), (nat_lit 796), os⟩
theorem fin_T : ∀ (w : World) (os : OsState), topRun treeTable pw w (nat_lit 11) (some (@Value.ref 6)) (nat_lit 2) (shp9 w os) ⟨doneF .next, cT, ⟨310, 0, 317, 80⟩, B_T⟩ = some (shpF w os) := by
  intro w os; kernel_rfl
theorem body_T : bodT = (sts0 ++ (sts1 ++ (sts2 ++ (sts3 ++ (sts4 ++ (sts5 ++ (sts6 ++ (sts7 ++ (sts8 ++ (sts9 ++ [])))))))))) := by kernel_rfl
theorem restT : ∀ (w : World) (os : OsState), topRun treeTable pw w (nat_lit 11) (some (@Value.ref 6)) (((nat_lit 258) + ((nat_lit 191) + ((nat_lit 223) + ((nat_lit 223) + ((nat_lit 227) + ((nat_lit 376) + ((nat_lit 387) + ((nat_lit 393) + ((nat_lit 370) + ((nat_lit 303) + (nat_lit 2)))))))))))) (shpB w os) (restOf ((sts0 ++ (sts1 ++ (sts2 ++ (sts3 ++ (sts4 ++ (sts5 ++ (sts6 ++ (sts7 ++ (sts8 ++ (sts9 ++ []))))))))))) envT cT ⟨0, 0, 0, 0⟩ B_T) = some (shpF w os) := fun w os => (piece_app (seg0 w os) (piece_app (seg1 w os) (piece_app (seg2 w os) (piece_app (seg3 w os) (piece_app (seg4 w os) (piece_app (seg5 w os) (piece_app (seg6 w os) (piece_app (seg7 w os) (piece_app (seg8 w os) (piece_app (seg9 w os) (fin_T w os)))))))))))
theorem run_T : ∀ (w : World) (os : OsState), topRun treeTable pw w (nat_lit 11) (some (@Value.ref 6)) ((nat_lit 12) + ((nat_lit 1) + ((nat_lit 258) + ((nat_lit 191) + ((nat_lit 223) + ((nat_lit 223) + ((nat_lit 227) + ((nat_lit 376) + ((nat_lit 387) + ((nat_lit 393) + ((nat_lit 370) + ((nat_lit 303) + (nat_lit 2))))))))))))) ⟨boot_heap w.params, Array.mk [], boot_drawn, boot_toks, os⟩ (topStub pw) = some (shpF w os) := fun w os => go_top (pre_T w os) (piece_block (block_T w os) (body_T ▸ restT w os))
noncomputable abbrev KF (P : Params) : Frag := (nat_lit 2, o3x2 P) :: (nat_lit 3, o12x3 P) :: (nat_lit 15, o3x15 P) :: (nat_lit 18, o3x18 P) :: (nat_lit 23, o3x23 P) :: (nat_lit 24, o3x24 P) :: (nat_lit 25, o3x25 P) :: (nat_lit 27, o3x27 P) :: (nat_lit 28, o3x28 P) :: (nat_lit 30, o3x30 P) :: (nat_lit 31, o3x31 P) :: (nat_lit 32, o3x32 P) :: (nat_lit 33, o3x33 P) :: (nat_lit 34, o3x34 P) :: (nat_lit 35, o3x35 P) :: (nat_lit 45, o4x45 P) :: (nat_lit 46, o4x46 P) :: (nat_lit 47, o4x47 P) :: (nat_lit 48, o4x48 P) :: (nat_lit 49, o4x49 P) :: (nat_lit 59, o5x59 P) :: (nat_lit 61, o5x61 P) :: (nat_lit 62, o5x62 P) :: (nat_lit 64, o5x64 P) :: (nat_lit 65, o5x65 P) :: (nat_lit 66, o5x66 P) :: (nat_lit 67, o5x67 P) :: (nat_lit 68, o5x68 P) :: (nat_lit 69, o5x69 P) :: (nat_lit 70, o5x70 P) :: (nat_lit 80, o6x80 P) :: (nat_lit 82, o6x82 P) :: (nat_lit 83, o6x83 P) :: (nat_lit 85, o6x85 P) :: (nat_lit 86, o6x86 P) :: (nat_lit 87, o6x87 P) :: (nat_lit 88, o6x88 P) :: (nat_lit 89, o6x89 P) :: (nat_lit 90, o6x90 P) :: (nat_lit 91, o6x91 P) :: (nat_lit 101, o7x101 P) :: (nat_lit 103, o7x103 P) :: (nat_lit 104, o7x104 P) :: (nat_lit 106, o7x106 P) :: (nat_lit 107, o7x107 P) :: (nat_lit 108, o7x108 P) :: (nat_lit 109, o7x109 P) :: (nat_lit 110, o7x110 P) :: (nat_lit 111, o7x111 P) :: (nat_lit 112, o7x112 P) :: (nat_lit 122, o8x122 P) :: (nat_lit 124, o8x124 P) :: (nat_lit 125, o8x125 P) :: (nat_lit 127, o8x127 P) :: (nat_lit 128, o8x128 P) :: (nat_lit 129, o8x129 P) :: (nat_lit 130, o8x130 P) :: (nat_lit 131, o8x131 P) :: (nat_lit 132, o8x132 P) :: (nat_lit 133, o8x133 P) :: (nat_lit 136, o8x136 P) :: (nat_lit 138, o8x138 P) :: (nat_lit 139, o8x139 P) :: (nat_lit 141, o8x141 P) :: (nat_lit 142, o8x142 P) :: (nat_lit 143, o8x143 P) :: (nat_lit 145, o8x145 P) :: (nat_lit 146, o8x146 P) :: (nat_lit 148, o8x148 P) :: (nat_lit 149, o8x149 P) :: (nat_lit 150, o8x150 P) :: (nat_lit 152, o8x152 P) :: (nat_lit 153, o8x153 P) :: (nat_lit 155, o8x155 P) :: (nat_lit 156, o8x156 P) :: (nat_lit 157, o8x157 P) :: (nat_lit 159, o8x159 P) :: (nat_lit 160, o8x160 P) :: (nat_lit 162, o8x162 P) :: (nat_lit 163, o8x163 P) :: (nat_lit 164, o8x164 P) :: (nat_lit 166, o8x166 P) :: (nat_lit 167, o8x167 P) :: (nat_lit 169, o8x169 P) :: (nat_lit 170, o8x170 P) :: (nat_lit 171, o9x171 P) :: (nat_lit 173, o9x173 P) :: (nat_lit 174, o9x174 P) :: (nat_lit 176, o9x176 P) :: (nat_lit 177, o9x177 P) :: (nat_lit 178, o9x178 P) :: (nat_lit 180, o9x180 P) :: (nat_lit 181, o9x181 P) :: (nat_lit 183, o9x183 P) :: (nat_lit 184, o9x184 P) :: (nat_lit 185, o9x185 P) :: (nat_lit 187, o9x187 P) :: (nat_lit 188, o9x188 P) :: (nat_lit 190, o9x190 P) :: (nat_lit 191, o9x191 P) :: (nat_lit 192, o9x192 P) :: (nat_lit 194, o9x194 P) :: (nat_lit 195, o9x195 P) :: (nat_lit 197, o9x197 P) :: (nat_lit 198, o9x198 P) :: (nat_lit 199, o9x199 P) :: (nat_lit 201, o9x201 P) :: (nat_lit 202, o9x202 P) :: (nat_lit 204, o9x204 P) :: (nat_lit 205, o9x205 P) :: (nat_lit 206, o9x206 P) :: (nat_lit 207, o9x207 P) :: (nat_lit 209, o9x209 P) :: (nat_lit 210, o9x210 P) :: (nat_lit 212, o9x212 P) :: (nat_lit 213, o9x213 P) :: (nat_lit 214, o9x214 P) :: (nat_lit 216, o9x216 P) :: (nat_lit 217, o9x217 P) :: (nat_lit 219, o9x219 P) :: (nat_lit 220, o9x220 P) :: (nat_lit 221, o9x221 P) :: (nat_lit 223, o9x223 P) :: (nat_lit 224, o9x224 P) :: (nat_lit 226, o9x226 P) :: (nat_lit 227, o9x227 P) :: (nat_lit 228, o9x228 P) :: (nat_lit 230, o9x230 P) :: (nat_lit 231, o9x231 P) :: (nat_lit 233, o9x233 P) :: (nat_lit 234, o9x234 P) :: (nat_lit 235, o9x235 P) :: (nat_lit 237, o9x237 P) :: (nat_lit 238, o9x238 P) :: (nat_lit 240, o9x240 P) :: (nat_lit 241, o9x241 P) :: (nat_lit 242, o9x242 P) :: (nat_lit 244, o9x244 P) :: (nat_lit 245, o9x245 P) :: (nat_lit 247, o9x247 P) :: (nat_lit 248, o9x248 P) :: (nat_lit 249, o10x249 P) :: (nat_lit 251, o10x251 P) :: (nat_lit 252, o10x252 P) :: (nat_lit 254, o10x254 P) :: (nat_lit 255, o10x255 P) :: (nat_lit 256, o10x256 P) :: (nat_lit 258, o10x258 P) :: (nat_lit 259, o10x259 P) :: (nat_lit 261, o10x261 P) :: (nat_lit 262, o10x262 P) :: (nat_lit 263, o10x263 P) :: (nat_lit 265, o10x265 P) :: (nat_lit 266, o10x266 P) :: (nat_lit 268, o10x268 P) :: (nat_lit 269, o10x269 P) :: (nat_lit 270, o10x270 P) :: (nat_lit 272, o10x272 P) :: (nat_lit 273, o10x273 P) :: (nat_lit 275, o10x275 P) :: (nat_lit 276, o10x276 P) :: (nat_lit 277, o10x277 P) :: (nat_lit 279, o10x279 P) :: (nat_lit 280, o10x280 P) :: (nat_lit 282, o10x282 P) :: (nat_lit 283, o10x283 P) :: (nat_lit 284, o10x284 P) :: (nat_lit 286, o10x286 P) :: (nat_lit 287, o10x287 P) :: (nat_lit 289, o10x289 P) :: (nat_lit 290, o10x290 P) :: (nat_lit 291, o10x291 P) :: (nat_lit 293, o10x293 P) :: (nat_lit 294, o10x294 P) :: (nat_lit 296, o10x296 P) :: (nat_lit 297, o10x297 P) :: (nat_lit 298, o10x298 P) :: (nat_lit 300, o10x300 P) :: (nat_lit 301, o10x301 P) :: (nat_lit 303, o10x303 P) :: (nat_lit 304, o10x304 P) :: (nat_lit 305, o10x305 P) :: (nat_lit 307, o10x307 P) :: (nat_lit 308, o10x308 P) :: (nat_lit 310, o10x310 P) :: (nat_lit 311, o10x311 P) :: (nat_lit 312, o10x312 P) :: (nat_lit 314, o10x314 P) :: (nat_lit 315, o10x315 P) :: (nat_lit 317, o10x317 P) :: (nat_lit 318, o10x318 P) :: (nat_lit 319, o10x319 P) :: (nat_lit 321, o10x321 P) :: (nat_lit 322, o10x322 P) :: (nat_lit 324, o10x324 P) :: (nat_lit 325, o10x325 P) :: (nat_lit 326, o10x326 P) :: (nat_lit 328, o10x328 P) :: (nat_lit 329, o10x329 P) :: (nat_lit 331, o10x331 P) :: (nat_lit 332, o10x332 P) :: (nat_lit 340, o11x340 P) :: (nat_lit 342, o11x342 P) :: (nat_lit 343, o11x343 P) :: (nat_lit 345, o11x345 P) :: (nat_lit 346, o11x346 P) :: (nat_lit 347, o11x347 P) :: (nat_lit 349, o11x349 P) :: (nat_lit 350, o11x350 P) :: (nat_lit 352, o11x352 P) :: (nat_lit 353, o11x353 P) :: (nat_lit 354, o11x354 P) :: (nat_lit 356, o11x356 P) :: (nat_lit 357, o11x357 P) :: (nat_lit 359, o11x359 P) :: (nat_lit 360, o11x360 P) :: (nat_lit 361, o11x361 P) :: (nat_lit 362, o11x362 P) :: (nat_lit 363, o11x363 P) :: (nat_lit 364, o11x364 P) :: (nat_lit 365, o11x365 P) :: (nat_lit 368, o11x368 P) :: (nat_lit 370, o11x370 P) :: (nat_lit 371, o11x371 P) :: (nat_lit 373, o11x373 P) :: (nat_lit 374, o11x374 P) :: (nat_lit 375, o11x375 P) :: (nat_lit 377, o11x377 P) :: (nat_lit 378, o11x378 P) :: (nat_lit 380, o11x380 P) :: (nat_lit 381, o11x381 P) :: (nat_lit 382, o12x382 P) :: (nat_lit 384, o12x384 P) :: (nat_lit 385, o12x385 P) :: (nat_lit 387, o12x387 P) :: (nat_lit 388, o12x388 P) :: (nat_lit 389, o12x389 P) :: (nat_lit 391, o12x391 P) :: (nat_lit 392, o12x392 P) :: (nat_lit 394, o12x394 P) :: (nat_lit 395, o12x395 P) :: (nat_lit 396, o12x396 P) :: (nat_lit 398, o12x398 P) :: (nat_lit 399, o12x399 P) :: (nat_lit 401, o12x401 P) :: (nat_lit 402, o12x402 P) :: (nat_lit 403, o12x403 P) :: (nat_lit 405, o12x405 P) :: (nat_lit 406, o12x406 P) :: (nat_lit 408, o12x408 P) :: (nat_lit 409, o12x409 P) :: (nat_lit 410, o12x410 P) :: (nat_lit 412, o12x412 P) :: (nat_lit 413, o12x413 P) :: (nat_lit 415, o12x415 P) :: (nat_lit 416, o12x416 P) :: (nat_lit 417, o12x417 P) :: (nat_lit 419, o12x419 P) :: (nat_lit 420, o12x420 P) :: (nat_lit 422, o12x422 P) :: (nat_lit 423, o12x423 P) :: (nat_lit 424, o12x424 P) :: (nat_lit 427, o12x427 P) :: (nat_lit 428, o12x428 P) :: (nat_lit 429, o12x429 P) :: (nat_lit 431, o12x431 P) :: (nat_lit 432, o12x432 P) :: (nat_lit 434, o12x434 P) :: (nat_lit 435, o12x435 P) :: (nat_lit 436, o12x436 P) :: (nat_lit 438, o12x438 P) :: (nat_lit 439, o12x439 P) :: (nat_lit 441, o12x441 P) :: (nat_lit 442, o12x442 P) :: []
noncomputable abbrev KAs : List Addr := (nat_lit 2) :: (nat_lit 3) :: (nat_lit 15) :: (nat_lit 18) :: (nat_lit 23) :: (nat_lit 24) :: (nat_lit 25) :: (nat_lit 27) :: (nat_lit 28) :: (nat_lit 30) :: (nat_lit 31) :: (nat_lit 32) :: (nat_lit 33) :: (nat_lit 34) :: (nat_lit 35) :: (nat_lit 45) :: (nat_lit 46) :: (nat_lit 47) :: (nat_lit 48) :: (nat_lit 49) :: (nat_lit 59) :: (nat_lit 61) :: (nat_lit 62) :: (nat_lit 64) :: (nat_lit 65) :: (nat_lit 66) :: (nat_lit 67) :: (nat_lit 68) :: (nat_lit 69) :: (nat_lit 70) :: (nat_lit 80) :: (nat_lit 82) :: (nat_lit 83) :: (nat_lit 85) :: (nat_lit 86) :: (nat_lit 87) :: (nat_lit 88) :: (nat_lit 89) :: (nat_lit 90) :: (nat_lit 91) :: (nat_lit 101) :: (nat_lit 103) :: (nat_lit 104) :: (nat_lit 106) :: (nat_lit 107) :: (nat_lit 108) :: (nat_lit 109) :: (nat_lit 110) :: (nat_lit 111) :: (nat_lit 112) :: (nat_lit 122) :: (nat_lit 124) :: (nat_lit 125) :: (nat_lit 127) :: (nat_lit 128) :: (nat_lit 129) :: (nat_lit 130) :: (nat_lit 131) :: (nat_lit 132) :: (nat_lit 133) :: (nat_lit 136) :: (nat_lit 138) :: (nat_lit 139) :: (nat_lit 141) :: (nat_lit 142) :: (nat_lit 143) :: (nat_lit 145) :: (nat_lit 146) :: (nat_lit 148) :: (nat_lit 149) :: (nat_lit 150) :: (nat_lit 152) :: (nat_lit 153) :: (nat_lit 155) :: (nat_lit 156) :: (nat_lit 157) :: (nat_lit 159) :: (nat_lit 160) :: (nat_lit 162) :: (nat_lit 163) :: (nat_lit 164) :: (nat_lit 166) :: (nat_lit 167) :: (nat_lit 169) :: (nat_lit 170) :: (nat_lit 171) :: (nat_lit 173) :: (nat_lit 174) :: (nat_lit 176) :: (nat_lit 177) :: (nat_lit 178) :: (nat_lit 180) :: (nat_lit 181) :: (nat_lit 183) :: (nat_lit 184) :: (nat_lit 185) :: (nat_lit 187) :: (nat_lit 188) :: (nat_lit 190) :: (nat_lit 191) :: (nat_lit 192) :: (nat_lit 194) :: (nat_lit 195) :: (nat_lit 197) :: (nat_lit 198) :: (nat_lit 199) :: (nat_lit 201) :: (nat_lit 202) :: (nat_lit 204) :: (nat_lit 205) :: (nat_lit 206) :: (nat_lit 207) :: (nat_lit 209) :: (nat_lit 210) :: (nat_lit 212) :: (nat_lit 213) :: (nat_lit 214) :: (nat_lit 216) :: (nat_lit 217) :: (nat_lit 219) :: (nat_lit 220) :: (nat_lit 221) :: (nat_lit 223) :: (nat_lit 224) :: (nat_lit 226) :: (nat_lit 227) :: (nat_lit 228) :: (nat_lit 230) :: (nat_lit 231) :: (nat_lit 233) :: (nat_lit 234) :: (nat_lit 235) :: (nat_lit 237) :: (nat_lit 238) :: (nat_lit 240) :: (nat_lit 241) :: (nat_lit 242) :: (nat_lit 244) :: (nat_lit 245) :: (nat_lit 247) :: (nat_lit 248) :: (nat_lit 249) :: (nat_lit 251) :: (nat_lit 252) :: (nat_lit 254) :: (nat_lit 255) :: (nat_lit 256) :: (nat_lit 258) :: (nat_lit 259) :: (nat_lit 261) :: (nat_lit 262) :: (nat_lit 263) :: (nat_lit 265) :: (nat_lit 266) :: (nat_lit 268) :: (nat_lit 269) :: (nat_lit 270) :: (nat_lit 272) :: (nat_lit 273) :: (nat_lit 275) :: (nat_lit 276) :: (nat_lit 277) :: (nat_lit 279) :: (nat_lit 280) :: (nat_lit 282) :: (nat_lit 283) :: (nat_lit 284) :: (nat_lit 286) :: (nat_lit 287) :: (nat_lit 289) :: (nat_lit 290) :: (nat_lit 291) :: (nat_lit 293) :: (nat_lit 294) :: (nat_lit 296) :: (nat_lit 297) :: (nat_lit 298) :: (nat_lit 300) :: (nat_lit 301) :: (nat_lit 303) :: (nat_lit 304) :: (nat_lit 305) :: (nat_lit 307) :: (nat_lit 308) :: (nat_lit 310) :: (nat_lit 311) :: (nat_lit 312) :: (nat_lit 314) :: (nat_lit 315) :: (nat_lit 317) :: (nat_lit 318) :: (nat_lit 319) :: (nat_lit 321) :: (nat_lit 322) :: (nat_lit 324) :: (nat_lit 325) :: (nat_lit 326) :: (nat_lit 328) :: (nat_lit 329) :: (nat_lit 331) :: (nat_lit 332) :: (nat_lit 340) :: (nat_lit 342) :: (nat_lit 343) :: (nat_lit 345) :: (nat_lit 346) :: (nat_lit 347) :: (nat_lit 349) :: (nat_lit 350) :: (nat_lit 352) :: (nat_lit 353) :: (nat_lit 354) :: (nat_lit 356) :: (nat_lit 357) :: (nat_lit 359) :: (nat_lit 360) :: (nat_lit 361) :: (nat_lit 362) :: (nat_lit 363) :: (nat_lit 364) :: (nat_lit 365) :: (nat_lit 368) :: (nat_lit 370) :: (nat_lit 371) :: (nat_lit 373) :: (nat_lit 374) :: (nat_lit 375) :: (nat_lit 377) :: (nat_lit 378) :: (nat_lit 380) :: (nat_lit 381) :: (nat_lit 382) :: (nat_lit 384) :: (nat_lit 385) :: (nat_lit 387) :: (nat_lit 388) :: (nat_lit 389) :: (nat_lit 391) :: (nat_lit 392) :: (nat_lit 394) :: (nat_lit 395) :: (nat_lit 396) :: (nat_lit 398) :: (nat_lit 399) :: (nat_lit 401) :: (nat_lit 402) :: (nat_lit 403) :: (nat_lit 405) :: (nat_lit 406) :: (nat_lit 408) :: (nat_lit 409) :: (nat_lit 410) :: (nat_lit 412) :: (nat_lit 413) :: (nat_lit 415) :: (nat_lit 416) :: (nat_lit 417) :: (nat_lit 419) :: (nat_lit 420) :: (nat_lit 422) :: (nat_lit 423) :: (nat_lit 424) :: (nat_lit 427) :: (nat_lit 428) :: (nat_lit 429) :: (nat_lit 431) :: (nat_lit 432) :: (nat_lit 434) :: (nat_lit 435) :: (nat_lit 436) :: (nat_lit 438) :: (nat_lit 439) :: (nat_lit 441) :: (nat_lit 442) :: []
-- N 6008; loose [SnobolError]; keep [1, 2, 3, 4, 5, 6, 7, 8, 9, 10, 11, 12, 13, 14, 15, 16, 18, 19, 20, 21, 22, 23, 24, 25, 26, 27, 28, 29, 30, 31, 33, 35, 36, 37, 38, 39, 40, 41, 42, 44, 45, 46, 47, 48, 49, 50, 52, 53, 54, 55, 56]; lv 0; rows [] []; gens 0; m0 11; M
end Mine
end
section
open PySem PySem.W PyProof.Rows PySem.Calls
set_option linter.unusedVariables false
set_option Elab.async false
set_option maxRecDepth 100000
set_option maxHeartbeats 0
namespace Mine
noncomputable def view : Program := { pw with main := { pw.main with body := ([1, 2, 3, 4, 5, 6, 7, 8, 9, 10, 11, 12, 13, 14, 15, 16, 18, 19, 20, 21, 22, 23, 24, 25, 26, 27, 28, 29, 30, 31, 33, 35, 36, 37, 38, 39, 40, 41, 42, 44, 45, 46, 47, 48, 49, 50, 52, 53, 54, 55, 56] : List Nat).filterMap fun i => pw.main.body[i]? } }
noncomputable abbrev looseT : List Str := [Str.ofString "SnobolError"]
noncomputable abbrev XtT : Shared → Bool := fun s => xlAt view [] s && recOk (RowW.records PySem.Challenge.rw_rh0230_01.row.toRowW) s
theorem keys_T : ∀ P, KAs = (KF P).map (·.1) := fun _ => by kernel_rfl
noncomputable abbrev HT : Hook := kHook KF KAs keys_T
theorem open_T : ∀ w : World, (fencedOpening treeTable pw w 6008).map (fun s => (s.heap, s.gens, s.drawn, s.toks)) = some (boot_heap w.params, Array.mk [], boot_drawn, boot_toks) :=
  boot_open (by kernel_rfl) (by decide) (fun s => by kernel_rfl)
theorem size_T : ∀ w : World, ((boot_heap w.params).isNs mainGlobals && (Array.mk [] : Array GenState).size == 0, (boot_heap w.params).objs.size, (boot_heap w.params).nsMap mainGlobals "__annotations__") = (true, 11, some (Value.ref 6)) := by
  intro w; kernel_rfl
theorem looks_T : ∀ w : World, (fun os => ((staticsOk (importedModules pw.main.body) (boot_heap w.params) (hpF w.params) && namesBound pw (hpF w.params) && gensDone (shpF w os) && laidKept (boot_heap w.params) (hpF w.params)),
        openSeen view looseT (importedModules pw.main.body) XtT true (shpF w os), HT.obs (shpF w os))) = fun _ => (true, openGood view looseT, HT.val w) := by
  intro w; kernel_rfl
theorem left_T : LeftO pw view looseT XtT HT.obs HT.val 6008 :=
  LeftO.of_pieces open_T size_T run_T (by decide) looks_T
end Mine
end
section
open PySem PySem.W PyProof.Rows
set_option Elab.async false
set_option maxRecDepth 100000
set_option maxHeartbeats 0
namespace Mine
def excJ (K : Frag) (C N : Addr) (bmB : List Value) (newId : String) (fI : Addr) : Bool := match K.lookup C with
  | some ⟨.type "type", _, .cls cd, sl⟩ => (match cd.mro, sl.toList with
    | .ref C' :: bm, [_, _, _, _, some (.builtin n), _] => C' == C && n == newId && !cd.hasDel && cd.hasDict && cd.ns == N && decide (bm = bmB) && nsOkIn K N && decide (nsIn K N "__init__" = some (some (.ref fI))) && decide ((K.lookup fI).map (·.cls) = some (.type "function"))
    | _, _ => false)
  | _ => false
theorem ns_of {K : Frag} {h : Heap} {N : Addr} {mN : Str → Option Value} {n : Str} {v : Value} (X : K.In h) (G : h.Ns N mN) (e : nsIn K N n = some (some v)) : mN n = some v := by
  obtain ⟨o, es, ep, ho, hd, _, hf⟩ := G
  unfold nsIn at e
  split at e
  · rename_i c d es' n' sl q
    have := X _ _ q
    rw [ho] at this
    cases this
    cases hd
    split at e
    · rename_i en he
      cases e
      rw [← hf]
      unfold nsFind findBy
      rw [← Array.find?_toList, he]
      rfl
    · split at e <;> cases e
  · cases e
theorem excJ_of {K : Frag} {h : Heap} {C N fI : Addr} {bmB : List Value} {newId : String} (X : K.In h) (q : excJ K C N bmB newId fI = true) :
    ∃ nm qn bs sn sub ab col dd k0 k1 k2 k3 k5 mN oI, h.get? C = some (excClassObj nm qn C N bs bmB true sn sub ab col dd k0 k1 k2 k3 k5 newId) ∧ h.Ns N mN ∧ mN "__init__" = some (.ref fI) ∧ h.get? fI = some oI ∧ oI.cls = .type "function" := by
  unfold excJ at q
  split at q
  · rename_i dd cd sl ho
    split at q
    · rename_i C' bm k0 k1 k2 k3 n k5 hm hs
      simp only [Bool.and_eq_true, beq_iff_eq, Bool.not_eq_true', decide_eq_true_eq] at q
      obtain ⟨⟨⟨⟨⟨⟨⟨⟨rfl, rfl⟩, hdel⟩, hdi⟩, hN⟩, rfl⟩, hok⟩, hi⟩, hf⟩ := q
      obtain ⟨nm, bs, mro, ns, qn, hd, sn, sub, ab, col, del⟩ := cd
      dsimp only at hm hdel hN hdi
      subst hm hdel hN hdi
      have hsl : sl = #[k0, k1, k2, k3, some (.builtin n), k5] := by
        obtain ⟨l⟩ := sl
        simp only at hs
        rw [hs]
      subst hsl
      cases z : K.lookup fI with
      | none => rw [z] at hf; cases hf
      | some oI =>
        rw [z] at hf
        have G := Heap.Ns.of_isNs (isNs_of_in X hok)
        exact ⟨nm, qn, bs, sn, sub, ab, col, dd, k0, k1, k2, k3, k5, _, oI, X _ _ ho, G, ns_of X G hi, X _ _ z, Option.some.inj hf⟩
    · cases q
  · cases q
theorem exc34 (w : World) {h : Heap} (X : (KF w.params).In h) :
    ∃ nm qn bs sn sub ab col dd k0 k1 k2 k3 k5 mN oI, h.get? 34 = some (excClassObj nm qn 34 33 bs [.type "Exception", .type "BaseException", .type "object"] true sn sub ab col dd k0 k1 k2 k3 k5 "Exception.__new__") ∧ h.Ns 33 mN ∧ mN "__init__" = some (.ref 31) ∧ h.get? 31 = some oI ∧ oI.cls = .type "function" :=
  excJ_of X (by kernel_rfl)
end Mine
end
section
open PySem PySem.W PyProof.Rows PySem.Calls
set_option Elab.async false
set_option maxRecDepth 100000
set_option maxHeartbeats 0
namespace Mine
theorem slot_wd_get : Slot "wrapper_descriptor" "__get__" "wrapper_descriptor.__get__" := .of (owner := "wrapper_descriptor") (n := "__get__") (by rw [typeLookup_type, builtinLookup_eq_fast]; kernel_rfl) (by decide +kernel) (by decide +kernel) (by decide +kernel)
  (by first | exact .inl (by decide +kernel) | exact .inr (by decide +kernel)) (by rw [isSubtype_type]; kernel_rfl)
theorem entry_wd_get : entryFor table "wrapper_descriptor.__get__" = some Builtin.«wrapper_descriptor.__get__» := entryFor_of_tree (by kernel_rfl)
theorem args_wd_get (a b c : Value) : argsOk "wrapper_descriptor.__get__" ⟨[a, b, c], []⟩ := by unfold argsOk; kernel_rfl
theorem type_exc_init : typeOf (.builtin "Exception.__init__") = pure (.type "wrapper_descriptor") := by kernel_rfl
theorem wd_get_eq (e c : Addr) : ∃ X : Sem Unit, Builtin.«wrapper_descriptor.__get__» ⟨[.builtin "Exception.__init__", .ref e, .ref c], []⟩ =
    ((isInstance (.ref e) (.type "Exception") >>= fun b => if (!b) = true then X else pure ()) >>= fun _ => newFields "method-wrapper" [.builtin "Exception.__init__", .ref e] >>= fun v => ret v) := by
  exact ⟨_, rfl⟩
abbrev mwO (e : Addr) : Obj := { cls := .type "method-wrapper", data := .fields #[.builtin "Exception.__init__", .ref e] }
section
variable {prog : Program} {w : World} {M : Model} {A : Around} {E : Value → Shared → Prop} {h : Heap} {g : Array GenState} {d : Drawn} {t : Nat} {os : OsState}
variable {nm qn : Str} {N : Addr} {bs : List Value} {hd : Bool} {sn : List Str} {sub : List Value} {ab : Bool} {col : Option Bool} {dd : Option Addr} {k0 k1 k2 k3 k5 : Option Value}
abbrev excBm : List Value := [.type "Exception", .type "BaseException", .type "object"]
theorem isInst_exc {e : Addr} {oe : Obj} {Q : Bool → Shared → Prop} (hC : h.get? 34 = some (excClassObj nm qn 34 N bs excBm hd sn sub ab col dd k0 k1 k2 k3 k5 "Exception.__new__")) (he : h.get? e = some oe) (hc : oe.cls = .ref 34)
    (hq : Q true ⟨h, g, d, t, os⟩) : wpAny M A (isInstance (.ref e) (.type "Exception")) Q E ⟨h, g, d, t, os⟩ := by
  have hcB : (Value.ref 34 :: excBm).contains (.type "Exception") = true := by decide
  unfold isInstance
  repeat (first | (with_reducible refine wpAny_loadPart_at he ?_; rw [hc]) | (with_reducible refine wpAny_isSubtype_exc hC ?_; rw [hcB]) | wp_step)
  exact hq
theorem wd_get_wp {e c : Addr} {oe : Obj} {Q : PySem.Fin → Shared → Prop} (hC : h.get? 34 = some (excClassObj nm qn 34 N bs excBm hd sn sub ab col dd k0 k1 k2 k3 k5 "Exception.__new__")) (he : h.get? e = some oe) (hc : oe.cls = .ref 34)
    (hq : Q (.done (.ret (.ref h.objs.size))) ⟨h.push (mwO e), g, d, t, os⟩) :
    wpAny M A (Builtin.«wrapper_descriptor.__get__» ⟨[.builtin "Exception.__init__", .ref e, .ref c], []⟩) Q E ⟨h, g, d, t, os⟩ := by
  obtain ⟨X, hX⟩ := wd_get_eq e c
  rw [hX]
  refine wpAny_bind (wpAny_bind (isInst_exc hC he hc ?_))
  rw [if_neg (by decide)]
  refine wpAny_pure ?_
  unfold newFields
  exact wpAny_bind (wpAny_newObj_type (wpAny_pure hq))
theorem superGaB {so e : Addr} {oe : Obj} {l₀ l : List Value} {K : Frag} {tk : Tok} {Q : PySem.Fin → Shared → Prop}
    (hso : h.get? so = some { cls := .type "super", dict := none, data := .fields #[.ref 34, .ref e, .ref 34], slots := #[] }) (hno : Looks (model prog w) h (opaqueClassAbove (.ref 34)) none)
    (hM : Looks (model prog w) h (mroOf (.ref 34)) l₀) (hl : (l₀.dropWhile (· != .ref 34)).drop 1 = l) (X : K.In h)
    (hf : alongIn K "__init__" l = some (some (.builtin "Exception.__init__"))) (hne : e ≠ 34)
    (hC : h.get? 34 = some (excClassObj nm qn 34 N bs excBm hd sn sub ab col dd k0 k1 k2 k3 k5 "Exception.__new__")) (he : h.get? e = some oe) (hc : oe.cls = .ref 34)
    (hq : Q (.done (.ret (.ref h.objs.size))) ⟨h.push (mwO e), g, d, t, os⟩) :
    wpAny (model prog w) A (Builtin.«super.__getattribute__» ⟨[.ref so, .str "__init__" tk], []⟩) Q E ⟨h, g, d, t, os⟩ := by
  have hlk := slot_wd_get.lookup
  have hn : (("__init__" : Str) == ("__class__" : Str)) = false := by decide
  have hne' : (Value.ref e == Value.ref 34) = false := by simp [hne]
  have hTf : (⟨h, g, d, t, os⟩ : Shared).TypeIs (.builtin "Exception.__init__") "wrapper_descriptor" := type_exc_init
  have hdt : ({ cls := .type "super", dict := none, data := .fields #[.ref 34, .ref e, .ref 34], slots := #[] } : Obj).data = .fields #[.ref 34, .ref e, .ref 34] := rfl
  have f0 : (#[.ref 34, .ref e, .ref 34] : Array Value)[0]? = some (.ref 34) := rfl
  have f1 : (#[.ref 34, .ref e, .ref 34] : Array Value)[1]? = some (.ref e) := rfl
  have f2 : (#[.ref 34, .ref e, .ref 34] : Array Value)[2]? = some (.ref 34) := rfl
  unfold Builtin.«super.__getattribute__»
  repeat (first
    | (with_reducible refine wpAny_field hso hdt f0 ?_) | (with_reducible refine wpAny_field hso hdt f1 ?_) | (with_reducible refine wpAny_field hso hdt f2 ?_)
    | (with_reducible refine ks_wpAny_notOpaque hno ?_)
    | (with_reducible refine Looks.at hM ?_; rw [hl])
    | (refine ks_forIn_along X (fun _ _ => rfl) rfl ?_ hf)
    | (with_reducible refine wpAny_typeOf hTf ?_)
    | (with_reducible refine wpAny_call_entry slot_wd_get hTf entry_wd_get ?_ (args_wd_get _ _ _))
    | (with_reducible refine wd_get_wp hC he hc ?_)
    | (with_reducible refine ⟨_, rfl, ?_⟩)
    | (simp only [hn, hne', Bool.or_false, Bool.false_eq_true, if_false])
    | wp_step
    | dsimp only)
  all_goals exact hq
theorem getMethodSuperB {so e : Addr} {oe : Obj} {l₀ l : List Value} {K : Frag} {pl : Sem Bool} {Q : Value × List Value → Shared → Prop}
    (hso : h.get? so = some { cls := .type "super", dict := none, data := .fields #[.ref 34, .ref e, .ref 34], slots := #[] }) (hno : Looks (model prog w) h (opaqueClassAbove (.ref 34)) none)
    (hM : Looks (model prog w) h (mroOf (.ref 34)) l₀) (hl : (l₀.dropWhile (· != .ref 34)).drop 1 = l) (X : K.In h)
    (hf : alongIn K "__init__" l = some (some (.builtin "Exception.__init__"))) (hne : e ≠ 34)
    (hC : h.get? 34 = some (excClassObj nm qn 34 N bs excBm hd sn sub ab col dd k0 k1 k2 k3 k5 "Exception.__new__")) (he : h.get? e = some oe) (hc : oe.cls = .ref 34)
    (hq : Q (.ref h.objs.size, []) ⟨h.push (mwO e), g, d, t + 1, os⟩) :
    wpAny (model prog w) A (getMethod (.ref so) "__init__" pl) Q E ⟨h, g, d, t, os⟩ := by
  have hlk := F.ks_slot_super_ga.lookup
  have hcan := F.ks_canon_super_ga
  have hT : ∀ t', (⟨h, g, d, t', os⟩ : Shared).TypeIs (.ref so) "super" := fun _ => ⟨_, hso, rfl⟩
  unfold getMethod
  refine wpAny_bind (wpAny_specialOf (hT _) hlk ?_)
  show wpAny _ _ (if (Manifest.canonical "super.__getattribute__" != "object.__getattribute__") = true then _ else _) _ _ _
  rw [if_pos hcan]
  unfold getAttr getAttrBy
  refine wpAny_bind (wpAny_bind (wpAny_mkText (wpAny_holding (wpAny_bind (wpAny_typeOf (hT _) (wpAny_bind (wpAny_of_eq hlk ?_)))))))
  show wpAny _ _ (getAttrByItsOwn (.ref so) (.str "__init__" t) (.type "super") (.builtin "super.__getattribute__") true false) _ _ _
  unfold getAttrByItsOwn hookBefore callGetattribute boundAndCalled
  refine wpAny_bind (wpAny_of_eq (show (if onTheHeap (.type "super") then typeLookup (.type "super") "__getattr__" else pure none) = pure none from rfl) ?_)
  refine wpAny_bind (wpAny_attempt (wpAny_holding ?_))
  show wpAny _ _ (bindSpecial (.builtin "super.__getattribute__") (.ref so) >>= _) _ _ _
  refine wpAny_bind (wpAny_of_eq (F.ks_slot_super_ga.bind _) ?_)
  refine wpAny_mono (Q := fun v s' => v = .ref h.objs.size ∧ s' = ⟨h.push (mwO e), g, d, t + 1, os⟩) (E := fun _ _ => False)
    (wpAny_call_entry F.ks_slot_super_ga (hT _) F.ks_entry_super_ga (superGaB hso hno hM hl X hf hne hC he hc ⟨_, rfl, rfl, rfl⟩) (F.ks_gaArgs_super _ _)) (fun v s' hv => ?_) fun _ _ z => z.elim
  obtain ⟨rfl, rfl⟩ := hv
  exact wpAny_pure (wpAny_pure hq)
end
end Mine
end
section
open PySem PySem.W PyProof.Rows PySem.Calls
set_option Elab.async false
set_option maxRecDepth 100000
set_option maxHeartbeats 0
namespace Mine
abbrev tup (vs : List Value) : Obj := { cls := .type "tuple", data := .seq vs.toArray }
abbrev excO (d : Option Addr) (t : Addr) : Obj := { cls := .ref 34, dict := d, data := .fields #[.ref t, .none, .none, .none, .bool false, .none] }
section
variable {prog : Program} {w : World} {M : Model} {A : Around} {E : Value → Shared → Prop} {h : Heap} {g : Array GenState} {d : Drawn} {t : Nat} {os : OsState}
variable {nm qn : Str} {N : Addr} {bs : List Value} {hd : Bool} {sn : List Str} {sub : List Value} {ab : Bool} {col : Option Bool} {dd : Option Addr} {k0 k1 k2 k3 k5 : Option Value}
theorem check_bound_init {e : Addr} {oe : Obj} {v : Value} {Q : Unit → Shared → Prop} (hC : h.get? 34 = some (excClassObj nm qn 34 N bs excBm hd sn sub ab col dd k0 k1 k2 k3 k5 "Exception.__new__")) (he : h.get? e = some oe) (hcls : oe.cls = .ref 34)
    (hq : Q () ⟨h, g, d, t, os⟩) : wpAny M A (checkBoundCall "Exception.__init__" ⟨[.ref e, v], []⟩) Q E ⟨h, g, d, t, os⟩ := by
  have hcB : (Value.ref 34 :: excBm).contains (.type "Exception") = true := by decide
  have hshort := PySem.F.excCall_Exception.noStar
  simp only [checkBoundCall, PySem.F.excCall_Exception.initKind, PySem.F.excCall_Exception.initRow]
  repeat (first | (with_reducible refine wpAny_loadPart_at he ?_; rw [hcls]) | with_reducible refine wpAny_loadPart_at hC ?_ | (with_reducible refine wpAny_isSubtype_exc hC ?_; rw [hcB]) | wp_step)
  exact hq
theorem mw_call {q e tt : Addr} {v : Value} {R : Result → Shared → Prop} (hC : h.get? 34 = some (excClassObj nm qn 34 N bs excBm hd sn sub ab col dd k0 k1 k2 k3 k5 "Exception.__new__"))
    (hq : h.get? q = some (mwO e)) (he : h.get? e = some (excO none tt))
    (hR : ∀ h2, Heap.SameBut e (h.push (tup [v])) h2 → h2.get? e = some (excO none h.objs.size) → R (.ok (.ret .none)) ⟨h2, g, d, t, os⟩) :
    codeAny (model prog w) A (.call (.ref q) ⟨[v], []⟩) R ⟨h, g, d, t, os⟩ := by
  have he1 := Heap.get?_push_of_some (tup [v]) he
  refine codeAny_of_tree ?_
  show wpAny _ _ (callAny (.ref q) _) _ _ _
  unfold callAny
  refine wpAny_bind (wpAny_load hq ?_)
  show wpAny _ _ (checkBoundCall "Exception.__init__" ⟨[.ref e, v], []⟩ >>= fun _ => again (.builtin "Exception.__init__" ⟨[.ref e, v], []⟩)) _ _ _
  refine wpAny_bind (check_bound_init hC he rfl ?_)
  refine wpAny_pure ⟨Code.quiet_builtin _ (by decide +kernel), codeAny_builtin PySem.F.excCall_Exception.initEntry ?_⟩
  unfold Builtin.«BaseException.__init__»
  dsimp only
  rw [if_neg (by simp)]
  unfold newTuple Builtin.BaseException.bexcPut
  refine wpAny_bind (wpAny_newObj_type (wpAny_bind (wpAny_bind (wpAny_field he1 rfl (x := .ref tt) rfl (wpAny_bind (wpAny_setField he1 rfl (by show 0 < 6; decide) ?_))))))
  refine wpAny_letGo (wpAny_pure (hR _ (Heap.SameBut.update ..) ?_))
  exact Heap.get?_update_self _ he1 rfl
end
end Mine
end
section
open PySem PySem.W PyProof.Rows PySem.Calls PySem.Builtin PySem.Builtin.ObjectAttr
set_option Elab.async false
set_option maxRecDepth 100000
set_option maxHeartbeats 0
namespace Mine
section
variable {prog : Program} {w : World} {A : Around} {E : Value → Shared → Prop} {h : Heap} {g : Array GenState} {d : Drawn} {t : Nat} {os : OsState}
variable {nm qn : Str} {C N e : Addr} {bs bm : List Value} {sn : List Str} {sub : List Value} {ab : Bool} {col : Option Bool} {dd : Option Addr} {k0 k1 k2 k3 k5 : Option Value} {mN : Str → Option Value} {B newId sa owner : String} {oe : Obj} {name : Str} {v : Value}
theorem set0_entry {tk : Tok} {Q : PySem.Fin → Shared → Prop} (SF : StoreFacts B bm sa owner) (hC : h.get? C = some (excClassObj nm qn C N bs bm true sn sub ab col dd k0 k1 k2 k3 k5 newId))
    (hn : h.Ns N mN) (hna : mN name = none) (hB : typeLookup (.type B) name = pure none)
    (hx : h.get? e = some oe) (hc : oe.cls = .ref C) (hnc : ∀ c, oe.data ≠ .cls c) (hdn : oe.dict = none)
    (hq : ∀ h' tk' D, h.get? D = none → (∀ b o, b ≠ e → h.get? b = some o → h'.get? b = some o) → h'.get? e = some { oe with dict := some D } → D ≠ e → h'.Ns1 D (fun y => if y = name then some v else none) → Q (.done (.ret .none)) ⟨h', g, d, tk', os⟩) :
    wpAny (model prog w) A (Builtin.«object.__setattr__» ⟨[.ref e, .str name tk, v], []⟩) Q E ⟨h, g, d, t, os⟩ := by
  have hpass := SF.passes (.ref e)
  unfold Builtin.«object.__setattr__»
  repeat (first | rw [refuse_eq] | (rw [refuseLoop_ref, hpass]) | (with_reducible refine wpAny_loadPart_at hx ?_; rw [hc]) | with_reducible refine wpAny_mroOf_exc hC ?_ | (with_reducible refine wpAny_typeLookup_exc hC hn SF.mro hB ?_; rw [hna]) | wp_step)
  rw [hdn, if_neg (by simp [typeHasDict])]
  split
  · rename_i hcd
    cases hcd
  split
  · rename_i c hcd
    exact absurd hcd (hnc c)
  · have hx₁ : (h.push { cls := .type "dict", data := .dict #[] }).get? e = some oe := Heap.get?_push_of_some _ hx
    have hxs : e ≠ h.objs.size := Nat.ne_of_lt (Heap.lt_size hx)
    refine wpAny_bind (wpAny_alloc' ?_)
    refine wpAny_bind (wpAny_update' hx₁ ?_)
    refine wpAny_pure ?_
    have hgd : ((h.push { cls := .type "dict", data := .dict #[] }).update e fun o => { cls := o.cls, dict := some h.objs.size, data := o.data, slots := o.slots }).get? h.objs.size
        = some { cls := .type "dict", data := .dict #[] } :=
      (Heap.get?_update_ne _ _ _ _ hxs.symm).trans (Heap.get?_push_at rfl rfl)
    have hnd : ((h.push { cls := .type "dict", data := .dict #[] }).update e fun o => { cls := o.cls, dict := some h.objs.size, data := o.data, slots := o.slots }).Ns h.objs.size (fun _ => none) :=
      ⟨_, #[], _, hgd, rfl, fun e he => absurd he (by simp), fun _ => rfl⟩
    show wpAny _ _ (storeInDict h.objs.size (.str name tk) name v) _ _ _
    unfold storeInDict newKeyGuard
    refine wpAny_bind (wpAny_pure (wpAny_bind (wpAny_nsSet1 (Heap.Ns1.of_empty hnd) fun h' hn' hs => ?_)))
    obtain ⟨oD, esD, epD, hoD, hdD, hcD⟩ := hn'.count (Within.cons name v Within.nil)
    refine wpAny_bind (wpAny_lookBehind hoD (by rw [hdD]; exact pastItsLine_dict (Nat.le_trans hcD (by rw [List.length_cons, List.length_nil, sizeLine_eq]; omega))) ?_)
    wp_walk
    have hx' : h'.get? e = some { oe with dict := some h.objs.size } := by
      refine (hs.2 e hxs).trans (Heap.get?_update_self _ hx₁ ?_)
      have hfr := (Heap.get?_some_iff.mp hx).2
      obtain ⟨oc, od, odt, osl⟩ := oe
      cases odt <;> first | rfl | exact hfr
    refine hq h' _ h.objs.size (Heap.get?_none_of_le (Nat.le_refl _)) (fun b ob hbx hb => ?_) hx' hxs.symm hn'
    exact (hs.2 b (Nat.ne_of_lt (Heap.lt_size hb))).trans ((Heap.get?_update_ne _ _ _ _ hbx).trans (Heap.get?_push_of_some _ hb))
theorem set0_call {tk : Tok} {R : Result → Shared → Prop} (SF : StoreFacts B bm sa owner) (hC : h.get? C = some (excClassObj nm qn C N bs bm true sn sub ab col dd k0 k1 k2 k3 k5 newId))
    (hn : h.Ns N mN) (hna : mN name = none) (hB : typeLookup (.type B) name = pure none)
    (hx : h.get? e = some oe) (hc : oe.cls = .ref C) (hnc : ∀ c, oe.data ≠ .cls c) (hdn : oe.dict = none)
    (hq : ∀ h' tk' D, h.get? D = none → (∀ b o, b ≠ e → h.get? b = some o → h'.get? b = some o) → h'.get? e = some { oe with dict := some D } → D ≠ e → h'.Ns1 D (fun y => if y = name then some v else none) → R (.ok (.ret .none)) ⟨h', g, d, tk', os⟩) :
    codeAny (model prog w) A (.call (.builtin sa) ⟨[.ref e, .str name tk, v], []⟩) R ⟨h, g, d, t, os⟩ :=
  codeAny_call_builtin SF.slot.plain SF.entry (wpAny_check_sa SF hC hx hc (set0_entry SF hC hn hna hB hx hc hnc hdn hq))
theorem set0 {Q : Unit → Shared → Prop} (SF : StoreFacts B bm sa owner) (hC : h.get? C = some (excClassObj nm qn C N bs bm true sn sub ab col dd k0 k1 k2 k3 k5 newId))
    (hn : h.Ns N mN) (hns : mN "__setattr__" = none) (hna : mN name = none) (hB : typeLookup (.type B) name = pure none)
    (hx : h.get? e = some oe) (hc : oe.cls = .ref C) (hnc : ∀ c, oe.data ≠ .cls c) (hdn : oe.dict = none)
    (hq : ∀ h' tk' D, h.get? D = none → (∀ b o, b ≠ e → h.get? b = some o → h'.get? b = some o) → h'.get? e = some { oe with dict := some D } → D ≠ e → h'.Ns1 D (fun y => if y = name then some v else none) → Q () ⟨h', g, d, tk', os⟩) :
    wpAny (model prog w) A (setAttr (.ref e) name v) Q E ⟨h, g, d, t, os⟩ := by
  have f3 := SF.slot.bind (.ref e)
  unfold setAttr callSpecial? specialOf
  repeat (any_goals (first | assumption | (with_reducible refine wpAny_loadPart_at hx ?_; rw [hc]) | (with_reducible refine wpAny_typeLookup_exc hC hn SF.mro SF.slot.lookup ?_; rw [hns]) | wp_step))
  refine set0_call SF hC hn hna hB hx hc hnc hdn fun h' tk' D a1 a2 a3 a4 a5 => ?_
  repeat (any_goals (first | assumption | wp_step))
  exact hq h' tk' D a1 a2 a3 a4 a5
end
end Mine
end
section
open PySem PySem.W PyProof.Rows PySem.Calls
set_option Elab.async false
set_option maxRecDepth 100000
set_option maxHeartbeats 0
namespace Mine
theorem instExc0 {h : Heap} {e t : Addr} (hx : h.get? e = some (excO none t)) : W.InstAt h e (excO none t) 34 none := ⟨hx, rfl, rfl, trivial⟩
theorem ex_fr {h₀ h h' : Heap} {L : Addr} {m : Str → Option Value} (F : Fr h₀ L h m) (k : ∀ b o, b = L ∨ h₀.get? b = some o → h.get? b = some o → h'.get? b = some o) : Fr h₀ L h' m := by
  obtain ⟨oL, es, ep, hL, r⟩ := F.ns
  exact ⟨⟨oL, es, ep, k _ _ (.inl rfl) hL, r⟩, fun b o q => k b o (.inr q) (F.keep b o q), F.above⟩
section
variable {prog : Program} {w : World} {A : Around} {E : Value → Shared → Prop} {s : Shared} {h₀ : Heap} {L so e q tt : Addr} {m : Str → Option Value} {news : List (Addr × Obj)} {K : Frag}
theorem superInit_K {oe : Obj} {pl : Sem Bool} {Q : Value × List Value → Shared → Prop} (F : Fr h₀ L s.heap m) (X₀ : K.In h₀) (N : News h₀ L s.heap news) (hso : (so, ks_superObj 34 e 34) ∈ news) (hem : (e, oe) ∈ news) (hcls : oe.cls = .ref 34)
    (ho : nsIn K cStatics "thirdparty.any" = some none) (hm : ks_superIn K 34 34 "__init__" = some (some (.builtin "Exception.__init__"))) (hJ : excJ K 34 33 excBm "Exception.__new__" 31 = true)
    (h : ∀ q h', Fr h₀ L h' m → News h₀ L h' ((q, mwO e) :: news) → (∀ p ∈ news, p.1 < q) → Q (.ref q, []) { s with heap := h', toks := s.toks + 1 }) :
    wpAny (model prog w) A (getMethod (.ref so) "__init__" pl) Q E s := by
  have X : K.In s.heap := X₀.keeps F.keep
  obtain ⟨nm, qn, bs, sn, sub, ab, col, dd, k0, k1, k2, k3, k5, mN, oI, hC0, hn, hi, hfI, hfc⟩ := excJ_of X₀ hJ
  have hC := F.keep _ _ hC0
  have hne : e ≠ 34 := fun z => by have := (N _ hem).2.2; rw [z, hC0] at this; cases this
  obtain ⟨hh, g, d, t, os⟩ := s
  cases hc : clsIn K 34 with
  | none => unfold ks_superIn at hm; rw [hc] at hm; cases hm
  | some cd =>
    unfold ks_superIn at hm
    rw [hc] at hm
    refine getMethodSuperB (N _ hso).1 (looks_opaque X ho) (l₀ := cd.mro) ?_ rfl X hm hne hC (N _ hem).1 hcls ?_
    · exact fun A Q E s k q => wpAny_bind ((looks_clsIn X hc) A _ E s k (wpAny_pure q))
    · obtain ⟨F', N', l'⟩ := ks_newsPush (s := ⟨hh, g, d, t, os⟩) (o := mwO e) F N rfl (Heap.get?_push_at rfl rfl) (fun b o e => Heap.get?_push_of_some _ e)
      exact h _ _ F' N' l'
theorem callWith_mw {M : Model} {env : Env} {pos : Pos} {first : List Value} {Q : Value → Shared → Prop} {e0 : PySem.Expr} {rest : List PySem.Expr}
    (h : wpAny M A (spliced (backTo pos (starEach (e0 :: rest) env))) (fun vs s₁ => s₁.heap.get? q = some (mwO e) ∧ wpAny M A (call (.ref q) (first ++ vs)) Q E s₁) E s)
    (he : starEach (e0 :: rest) env = (false, eval e0 env) :: starEach rest env := by rfl) (hplain : (backTo pos (starEach rest env)).any (·.1) = false := by rfl) :
    wpAny M A (callWith pos (.ref q) first (backTo pos (starEach (e0 :: rest) env)) []) Q E s := by
  rw [he] at h ⊢
  exact callWith_of (P := fun h => h.get? q = some (mwO e)) (by show ((false || (backTo pos (starEach rest env)).any (·.1)) || false) = false; rw [hplain]; rfl)
    (fun h X => ⟨.machine, .inr (.inl rfl), (Looks.ld (part := none) X).andThen .now⟩) (evalArgs_plain h)
theorem mw_call_K {v : Value} {Q : Value → Shared → Prop} (F : Fr h₀ L s.heap m) (X₀ : K.In h₀) (hJ : excJ K 34 33 excBm "Exception.__new__" 31 = true) (N : News h₀ L s.heap ((q, mwO e) :: (so, ks_superObj 34 e 34) :: (e, excO none tt) :: news)) (hq : e < q) (hs : e < so) (hl : ∀ p ∈ news, p.1 ≠ e)
    (h : ∀ t2 h', Fr h₀ L h' m → News h₀ L h' ((e, excO none t2) :: (t2, tup [v]) :: news) → (∀ p ∈ news, p.1 < t2) → e < t2 → Q .none { s with heap := h' }) :
    wpAny (model prog w) A (call (.ref q) [v]) Q E s := by
  obtain ⟨nm, qn, bs, sn, sub, ab, col, dd, k0, k1, k2, k3, k5, mN, oI, hC0, hn, hi, hfI, hfc⟩ := excJ_of X₀ hJ
  have hC := F.keep _ _ hC0
  obtain ⟨hh, g, d, t, os⟩ := s
  have Ne := N _ (.tail _ (.tail _ (.head _)))
  refine wpAny_call (mw_call hC (N _ (.head _)).1 Ne.1 fun h2 hs2 he2 => ?_)
  have hp : (hh.push (tup [v])).get? hh.objs.size = some (tup [v]) := Heap.get?_push_at rfl rfl
  have lt := Heap.lt_size Ne.1
  have F1 : Fr h₀ L h2 m := ex_fr F fun b o hb q => by
    refine (hs2.2 b ?_).trans (Heap.get?_push_of_some _ q)
    rcases hb with rfl | hb
    · exact Ne.2.1.symm
    · intro z; rw [← z, hb] at Ne; exact nomatch Ne.2.2
  refine h hh.objs.size h2 F1 ?_ (fun p hp => Heap.lt_size (N p (.tail _ (.tail _ (.tail _ hp)))).1) lt
  intro p hp'
  rcases List.mem_cons.mp hp' with rfl | hp'
  · exact ⟨he2, Ne.2⟩
  rcases List.mem_cons.mp hp' with rfl | hp'
  · refine ⟨(hs2.2 _ (Nat.ne_of_gt lt)).trans hp, ?_, ?_⟩
    · obtain ⟨oL, _, _, hL, _⟩ := F.ns
      exact Nat.ne_of_gt (Heap.lt_size hL)
    · cases z : h₀.get? hh.objs.size with
      | none => rfl
      | some o => exact absurd (Heap.lt_size (F.keep _ _ z)) (Nat.lt_irrefl _)
  · have := N p (.tail _ (.tail _ (.tail _ hp')))
    exact ⟨(hs2.2 _ (hl p hp')).trans (Heap.get?_push_of_some _ this.1), this.2⟩
end
end Mine
end
section
local macro_rules | `(tactic| walk_at $s:str) => `(tactic| k_extra $s)
namespace Mine
theorem words1 : True := by
  k_with_none
  k_with "call ref" => (k_here; k_dflt (first | (refine' call_cls0 ?k1 ?k2 ?k3 ?k4 ?k5 ?_; (case k1 => k_asm); (case k2 => k_asm); (case k3 => k_asm); (case k4 => k_is); (case k5 => k_is); k_whole; intro x' d' h' F' N' l1 l2; (try k_lt l1); (try k_lt2 l2); (try k_sweep)) | (refine' call_cls ?k1 ?k2 ?k3 ?k4 ?k5 ?k6 ?_; (case k1 => k_asm); (case k2 => k_asm); (case k3 => k_asm); (case k4 => k_is); (case k5 => k_is); (case k6 => k_is); k_whole; intro x' d' h' F' N' l1 l2; (try k_lt l1); (try k_lt2 l2); (try k_sweep); k_enter) | (refine' call_meth ?k1 ?k2 ?_; (case k1 => k_asm); (case k2 => k_mem); k_whole; k_enter) | (refine wpAny_call ?_; k_enter)))
  k_with "callWith ref" => (k_here; k_dflt (first | refine' callWith_K ?k1 ?k2 ?_; (case k1 => k_asm); (case k2 => k_is); k_whole | refine' callWith_K0 ?k1 ?k2 ?_; (case k1 => k_in); (case k2 => k_is); k_whole))
  k_with "eval Name" => (k_here; k_dflt (first | (refine' nameX_L ?F ?v ?_ ?a ?b; (case F => k_asm); (case a => rfl); (case b => rfl); (case v => rfl); k_whole) | (refine' nameX_K ?F ?X ?T ?e ?_ ?a ?b; (case F => k_asm); (case X => k_asm); (case T => k_asm); (case a => rfl); (case b => rfl); (case e => k_is); k_whole) | (refine' nameX_B ?F ?X ?T ?e ?v ?n ?_ ?a ?b; (case F => k_asm); (case X => k_asm); (case T => k_asm); (case a => rfl); (case b => rfl); (case e => k_is); (case v => boot_fast); (case n => decide); k_whole)))
  k_with "subscriptTail Name Constant ref int" => (k_here; k_dflt (refine' item_tupleT ?t ?a ?b ?c ?d ?_; (case t => exact News.isTup (by k_asm) (by k_mem)); (case a => decide); (case b => decide); (case c => rfl); (case d => rfl); k_whole))
  k_with "call builtin:isinstance cons nil" => (k_here; (with_reducible show wpAny _ _ (call _ [Value.ref _, Value.ref _]) _ _ _); k_dflt (first | (refine' isi_call ?k1 ?k2 ?k3 ?k4 ?_; (case k1 => k_in); (case k2 => k_types); (case k3 => k_is); (case k4 => intro e; cases e); k_whole) | (refine' kin_callC ?k1 ?k2 ?k3 ?k4 ?k5 ?k6 ?k7 ?k8 ?k9 ?_; (case k1 => k_in); (case k2 => k_inst); (case k3 => kin_no); (case k4 => k_is); (case k5 => k_is); (case k6 => k_is); (case k7 => k_is); (case k8 => k_is); (case k9 => k_is); k_whole)))
  k_with "getMethod ref" => (k_here; (with_reducible show wpAny _ _ (getMethod (Value.ref _) (Str.ofString "get") _) _ _ _); k_dflt (refine kdg_method (knd := PySem.strKind _ _) (by k_asm) (by k_mem) (by k_asm) ?_))
  k_with "call builtin:dict.get" => (k_here; k_dflt (first | refine kdg_get2 (knd := PySem.strKind _ _) (by k_asm) (by k_mem) (by k_asm) (by k_asm) (strKind_is _ _ _ _) (some _) (by rfl) ?_ | refine kdg_get2 (knd := PySem.strKind _ _) (by k_asm) (by k_mem) (by k_asm) (by k_asm) (strKind_is _ _ _ _) none (by rfl) ?_); (try dsimp only [Option.getD]))
  trivial
end Mine
section
open PySem PySem.W PyProof.Rows PySem.Calls
set_option Elab.async false
set_option maxRecDepth 100000
set_option maxHeartbeats 0
namespace Mine
section
variable {prog : Program} {w : World} {A : Around} {E : Value → Shared → Prop} {s : Shared} {h₀ : Heap} {L e t2 : Addr} {m : Str → Option Value} {news : List (Addr × Obj)} {K : Frag}
theorem neverL {h : Heap} {D : Addr} (F : Fr h₀ L h m) (hD : h.get? D = none) : h₀.get? D = none ∧ D ≠ L := by
  refine ⟨?_, ?_⟩
  · cases z : h₀.get? D with
    | none => rfl
    | some o => rw [F.keep _ _ z] at hD; cases hD
  · rintro rfl
    obtain ⟨oL, _, _, hL, _⟩ := F.ns
    rw [hL] at hD; cases hD
theorem setExc1_K {name : Str} {v : Value} {Q : Unit → Shared → Prop} (F : Fr h₀ L s.heap m) (X₀ : K.In h₀) (hJ : excJ K 34 33 excBm "Exception.__new__" 31 = true)
    (hs : nsIn K 33 "__setattr__" = some none) (hn' : nsIn K 33 name = some none) (hB : typeLookup (.type "Exception") name = pure none)
    (N : News h₀ L s.heap ((e, excO none t2) :: news)) (hl : ∀ p ∈ news, p.1 ≠ e)
    (h : ∀ D h' tk', Fr h₀ L h' m → News h₀ L h' ((e, excO (some D) t2) :: news) → h₀.get? D = none → D ≠ L → (∀ p ∈ news, p.1 ≠ D) → D ≠ e → h'.Ns1 D (fun y => if y = name then some v else none) → Q () { s with heap := h', toks := tk' }) :
    wpAny (model prog w) A (setAttr (.ref e) name v) Q E s := by
  obtain ⟨nm, qn, bs, sn, sub, ab, col, dd, k0, k1, k2, k3, k5, mN, oI, hC0, hn0, hi, hfI, hfc⟩ := excJ_of X₀ hJ
  have hC := F.keep _ _ hC0
  have hn : s.heap.Ns 33 mN := let ⟨o, es, ep, e, r⟩ := hn0; ⟨o, es, ep, F.keep _ _ e, r⟩
  have X := X₀.keeps F.keep
  have Ne := N _ (.head _)
  obtain ⟨hh, g, d, t, os⟩ := s
  refine set0 PySem.F.store_Exception hC hn (ns_none_of X hn hs) (ns_none_of X hn hn') hB Ne.1 rfl (fun c q => nomatch q) rfl fun h' tk' D hD hk he hDe hns => ?_
  obtain ⟨n0, nL⟩ := neverL F hD
  refine h D h' tk' (ex_fr F fun b o hb q => hk b o ?_ q) (fun p hp => ?_) n0 nL (fun p hp z => ?_) hDe hns
  · rcases hb with rfl | hb
    · exact Ne.2.1.symm
    · intro z; rw [← z, hb] at Ne; exact nomatch Ne.2.2
  · rcases List.mem_cons.mp hp with rfl | hp
    · exact ⟨he, Ne.2⟩
    · have := N p (.tail _ hp)
      exact ⟨hk _ _ (hl p hp) this.1, this.2⟩
  · have := (N p (.tail _ hp)).1
    rw [z, hD] at this; cases this
theorem setExc2_K {D : Addr} {name : Str} {v : Value} {mA : Str → Option Value} {ns : List Str} {Q : Unit → Shared → Prop} (F : Fr h₀ L s.heap m) (X₀ : K.In h₀) (hJ : excJ K 34 33 excBm "Exception.__new__" 31 = true)
    (hs : nsIn K 33 "__setattr__" = some none) (hn' : nsIn K 33 name = some none) (hB : typeLookup (.type "Exception") name = pure none)
    (N : News h₀ L s.heap ((e, excO (some D) t2) :: news)) (hl : ∀ p ∈ news, p.1 ≠ e) (hD : h₀.get? D = none) (hDL : D ≠ L) (hDn : ∀ p ∈ news, p.1 ≠ D) (hDe : D ≠ e) (hA : s.heap.Ns1 D mA) (hw : Within mA ns) (hsz : ns.length ≤ sizeLine)
    (h : ∀ h' tk', Fr h₀ L h' m → News h₀ L h' ((e, excO (some D) t2) :: news) → h'.Ns1 D (fun y => if y = name then some v else mA y) → Q () { s with heap := h', toks := tk' }) :
    wpAny (model prog w) A (setAttr (.ref e) name v) Q E s := by
  obtain ⟨nm, qn, bs, sn, sub, ab, col, dd, k0, k1, k2, k3, k5, mN, oI, hC0, hn0, hi, hfI, hfc⟩ := excJ_of X₀ hJ
  have hC := F.keep _ _ hC0
  have hn : s.heap.Ns 33 mN := let ⟨o, es, ep, e, r⟩ := hn0; ⟨o, es, ep, F.keep _ _ e, r⟩
  have X := X₀.keeps F.keep
  have Ne := N _ (.head _)
  have hne : e ≠ 34 := fun z => by have := Ne.2.2; rw [z, hC0] at this; cases this
  obtain ⟨hh, g, d, t, os⟩ := s
  refine store_attr PySem.F.store_Exception hC hn (ns_none_of X hn hs) (ns_none_of X hn hn') hB hne (mA := mA) ⟨_, Ne.1, rfl, (fun c q => nomatch q), .inr ⟨D, rfl, hDe, hA⟩⟩ (fun h' tk' hI hk ho => ?_) hw hsz
  have hk' : ∀ b o, b ≠ e → b ≠ D → hh.get? b = some o → h'.get? b = some o := fun b o b1 b2 => hk b o b1 fun o₀ dx q1 q2 => by
    have := q1.symm.trans Ne.1
    cases this
    cases q2
    exact b2
  obtain ⟨o₁, e1, e2, e3, e4, e5⟩ := ho _ Ne.1
  have he : h'.get? e = some (excO (some D) t2) := by
    rw [e1]
    obtain ⟨oc, od, oda, osl⟩ := o₁
    dsimp only at e2 e3 e4 e5
    rw [e2, e3, e4, e5 D rfl]
  refine h h' tk' (ex_fr F fun b o hb q => hk' b o ?_ ?_ q) (fun p hp => ?_) ?_
  · rcases hb with rfl | hb
    · exact Ne.2.1.symm
    · intro z; rw [← z, hb] at Ne; exact nomatch Ne.2.2
  · rcases hb with rfl | hb
    · exact hDL.symm
    · intro z; rw [← z, hb] at hD; cases hD
  · rcases List.mem_cons.mp hp with rfl | hp
    · exact ⟨he, Ne.2⟩
    · have := N p (.tail _ hp)
      exact ⟨hk' _ _ (hl p hp) (hDn p hp) this.1, this.2⟩
  · obtain ⟨o, q1, q2, q3, q4⟩ := hI
    rw [he] at q1
    cases q1
    rcases q4 with ⟨z, _⟩ | ⟨d', z, _, zz⟩
    · cases z
    · cases z; exact zz
end
end Mine
end
section
open PySem PySem.W PyProof.Rows PySem.Calls
set_option Elab.async false
set_option maxRecDepth 100000
set_option maxHeartbeats 0
namespace Mine
theorem lk_number : typeLookup (.type "Exception") "number" = pure none := by rw [typeLookup_type, builtinLookup_eq_fast]; kernel_rfl
theorem lk_told : typeLookup (.type "Exception") "told" = pure none := by rw [typeLookup_type, builtinLookup_eq_fast]; kernel_rfl
abbrev mExc (n : Int) (u : Tok) (x : Str) (v : Tok) : Str → Option Value := fun y => if y = "told" then some (.str x v) else if y = "number" then some (.int n u) else none
theorem excNew : ∀ (w : World) (p : Program) (loose : List Str) (mean : ExcName → Option Value) (mg mb : Str → Option Value) (dp un : Nat) (gd : Option (List Code)) (cn : Str) (cs : Scope) (a : Addr) (ccd : Value) (cl : List (Str × Addr)) (outer : List Env) (A₀ : Around) (base h₀ : Heap) (L : Addr) (m : Str → Option Value) (news : List (Addr × Obj)) (s : Shared)
    (Q E : Value → Shared → Prop) (n : Int) (u : Tok) (x : Str) (v : Tok),
    Below A₀ base outer h₀ → Fr h₀ L s.heap m → (KF w.params).In h₀ → News h₀ L s.heap news → Top p loose mean mg mb h₀ → cs.kind = .function → dp < 700 →
    (∀ e D t2 h' tk', Fr h₀ L h' m → News h₀ L h' ((e, excO (some D) t2) :: news) → (∀ p ∈ news, p.1 ≠ e) → h₀.get? D = none → D ≠ L → (∀ p ∈ news, p.1 ≠ D) → D ≠ e → h'.Ns1 D (mExc n u x v) → Q (.ref e) { s with heap := h', toks := tk' }) →
    wpAny (model PySem.Challenge.rw_rh0230_01.row.prog w) (ktrTop dp un gd cn cs L a ccd cl outer) (call (.ref 34) [.int n u, .str x v]) Q E s := by
  k_fill
  intro w p loose mean mg mb dp un gd cn cs a ccd cl outer A₀ base h₀ L m news s Q E n u x v B F X N T hck hdp ret
  have hJ : excJ (KF w.params) 34 33 excBm "Exception.__new__" 31 = true := by kernel_rfl
  obtain ⟨nm, qn, bs, sn, sub, ab, col, dd, k0, k1, k2, k3, k5, mN, oI, hC, hn, hi, hfI, hfc⟩ := exc34 w (X.keeps F.keep)
  obtain ⟨hp, g, d, t, os⟩ := s
  refine wpAny_call_exc_init PySem.F.excBase_Exception hC hn hi hfI hfc (fun h' e hm => ?_) (by size_fits)
  obtain ⟨t', he, htn, ht⟩ := hm.there
  have F1 : Fr h₀ L h' m := ex_fr F fun b o _ q => hm.keeps _ _ q
  have N1 : News h₀ L h' ((e, excO none t') :: (t', tup [.int n u, .str x v]) :: news) := by
    have N0 : News h₀ L h' news := fun q hq => ⟨hm.keeps _ _ (N q hq).1, (N q hq).2⟩
    exact News.more F1 (News.more F1 N0 ht (fun es n q => by cases q) (neverL F htn).1) he (fun es n q => by cases q) (neverL F hm.new).1
  have l1 : ∀ q ∈ news, q.1 ≠ e := fun q hq z => by have := (N q hq).1; rw [z, hm.new] at this; cases this
  have l2 : t' ≠ e := fun z => by rw [z, he] at ht; cases ht
  clear N F hC hn hi hfI hfc ht he htn hm
  refine wpAny_call ?_
  k_dflt (refine' ks_code_super ?k1 ?k2 ?k3 ?k4 ?k5 ?kA ?kF ?kK ?k6 ?k7 ?k8 ?k9 ?kB ?_ ?c1 ?c2 ?c3 ?c4; (case kA => exact rfl); (case kF => exact rfl); (case kK => assumption); (case k1 => k_asm); (case k2 => k_asm); (case k3 => k_asm); (case k4 => k_asm); (case k5 => k_asm); (case k6 => k_is); (case k7 => k_is); (case k8 => ktr_room); (case k9 => exact binds_K (by k_in) rfl (by k_is) rfl rfl rfl); (case kB => exact locs rfl); (case c1 => decide); (case c2 => exact rfl); (case c3 => exact rfl); (case c4 => exact rfl); intro g' L' h' FG' F' N' B' X' T' l3; (try dsimp only); (try k_lift B'))
  walk1
  walk1
  walk1
  k_dflt (refine' ks_node ?a1 ?a2 ?a3 ?a4 ?a5 ?a6 ?a7 ?a8 ?a9 ?b1 ?b2 ?b3 ?b4 ?b5 ?b6 ?b7 ?b8 ?b9 ?c1 ?c2 ?c3 ?c4 ?_; (case a1 => k_asm); (case a2 => k_asm); (case a3 => k_asm); (case a4 => k_asm); (case a5 => k_is); (case a6 => rfl); (case a7 => rfl); (case a8 => exact instExc0 (N' _ (.head _)).1); (case a9 => k_is); (case b1 => rfl); (case b2 => first | rfl | decide +kernel); (case b3 => k_is); (case b4 => k_is); (case b5 => k_is); (case b6 => k_is); (case b7 => decide); (case b8 => rfl); (case b9 => rfl); (case c1 => rfl); (case c2 => rfl); (case c3 => decide +kernel); (case c4 => first | boot_by_name | rfl | kernel_rfl))
  intro so h2 F2 N2 l4
  refine superInit_K F2 X' N2 (.head _) (.tail _ (.head _)) rfl (by k_is) (by kernel_rfl) hJ ?_
  intro q h3 F3 N3 l5
  clear F2 N2 F' N'
  try dsimp only
  refine callWith_mw (e := e) ?_
  walk1
  walk1
  walk1
  refine ⟨(N3 _ (.head _)).1, ?_⟩
  refine mw_call_K F3 X' hJ N3 (l5 _ (.tail _ (.head _))) (l4 _ (.head _)) (fun p hp => ?_) ?_
  · rcases List.mem_cons.mp hp with rfl | hp
    · exact l2
    · exact l1 p hp
  intro t2 h4 F4 N4 l6 l7
  clear F3 N3
  try dsimp only
  iterate 5 (first | walk1 | (dsimp only; walk1))
  have l8 : ∀ (o : Obj), ∀ p ∈ (t2, o) :: (t', tup [.int n u, .str x v]) :: news, p.1 ≠ e := fun o p hp => by
    rcases List.mem_cons.mp hp with rfl | hp
    · exact Nat.ne_of_gt l7
    rcases List.mem_cons.mp hp with rfl | hp
    · exact l2
    · exact l1 p hp
  refine setExc1_K F4 X' hJ (by k_is) (by k_is) lk_number N4 (l8 _) ?_
  intro D h5 tk5 F5 N5 D1 D2 D3 D4 D5
  clear F4 N4
  iterate 5 (first | walk1 | (dsimp only; walk1))
  refine setExc2_K F5 X' hJ (by k_is) (by k_is) lk_told N5 (l8 _) D1 D2 D3 D4 D5 (Within.cons _ _ Within.nil) (by size_fits) ?_
  intro h6 tk6 F6 N6 D6
  clear F5 N5
  walk1
  obtain ⟨n0, nL⟩ := neverL FG' D1
  refine leaveK_ F6 N6 (fun kF kN => ⟨rfl, ret e D t2 h6 tk6 kF (fun p hp => kN p ?_) l1 n0 nL (fun p hp => D3 p (.tail _ (.tail _ hp))) D4 D6⟩)
  rcases List.mem_cons.mp hp with rfl | hp
  · exact .head _
  · exact .tail _ (.tail _ (.tail _ hp))
end Mine
end
section
open PySem PySem.W PyProof.Rows PySem.Calls
open PySem.Sem (wp)
set_option Elab.async false
set_option maxRecDepth 100000
set_option maxHeartbeats 0
namespace Mine
def OSim (o o' : Obj) : Prop := o'.cls = o.cls ∧ o'.dict = o.dict ∧ ((∀ vs, o.data ≠ .fields vs) → o'.data = o.data) ∧ ((∃ vs, o.data = .fields vs) → ∃ vs, o'.data = .fields vs)
theorem OSim.refl (o : Obj) : OSim o o := ⟨rfl, rfl, fun _ => rfl, fun h => h⟩
theorem OSim.trans {a b c : Obj} (x : OSim a b) (y : OSim b c) : OSim a c := by
  obtain ⟨x1, x2, x3, x4⟩ := x
  obtain ⟨y1, y2, y3, y4⟩ := y
  refine ⟨y1.trans x1, y2.trans x2, fun h => ?_, fun h => y4 (x4 h)⟩
  have e := x3 h
  exact (y3 fun vs z => h vs (e.symm.trans z)).trans e
def Sim (h h' : Heap) : Prop := ∀ b o, h.get? b = some o → ∃ o', h'.get? b = some o' ∧ OSim o o'
theorem Sim.refl (h : Heap) : Sim h h := fun _ o e => ⟨o, e, .refl o⟩
theorem Sim.trans {a b c : Heap} (x : Sim a b) (y : Sim b c) : Sim a c := fun d o e => by
  obtain ⟨o1, e1, s1⟩ := x d o e
  obtain ⟨o2, e2, s2⟩ := y d o1 e1
  exact ⟨o2, e2, s1.trans s2⟩
theorem Sim.of_keeps {h h' : Heap} (k : ∀ b o, h.get? b = some o → h'.get? b = some o) : Sim h h' := fun b o e => ⟨o, k b o e, .refl o⟩
theorem Sim.ns1 {h h' : Heap} (x : Sim h h') {D : Addr} {mA : Str → Option Value} (n : h.Ns1 D mA) : h'.Ns1 D mA := by
  obtain ⟨o, es, ep, e, d, r⟩ := n
  obtain ⟨o', e', _, _, s3, _⟩ := x D o e
  exact ⟨o', es, ep, e', (s3 fun vs z => by rw [d] at z; cases z).trans d, r⟩
structure KeepSim {α : Type} (t : Sem α) : Prop where
  out : ∀ (M : Model) (Γ : Ctx) (Q : α → Pos → Shared → Prop) (E : Value → Pos → Shared → Prop) (p : Pos) (s : Shared), wp M Γ t Q E p s →
    wp M Γ t (fun a p' s' => Q a p' s' ∧ Sim s.heap s'.heap) (fun e p' s' => E e p' s' ∧ Sim s.heap s'.heap) p s
namespace KeepSim
variable {α β : Type}
theorem pure (a : α) : KeepSim (Pure.pure a : Sem α) := ⟨fun _ _ _ _ _ s h => ⟨h, Sim.refl _⟩⟩
theorem unsupported (w : String) : KeepSim (PySem.unsupported w : Sem α) := ⟨fun _ _ _ _ _ _ h => h⟩
theorem bind {m : Sem α} {f : α → Sem β} (hm : KeepSim m) (hf : ∀ a, KeepSim (f a)) : KeepSim (m >>= f) := ⟨fun M Γ Q E p s h => by
  rw [Sem.wp_bind'] at h ⊢
  refine Sem.wp_mono M Γ m (fun a p' s' h' => ?_) (fun _ _ _ x => x) p s (hm.out M Γ _ E p s h)
  obtain ⟨h1, h2⟩ := h'
  exact Sem.wp_mono M Γ (f a) (fun _ _ _ x => ⟨x.1, h2.trans x.2⟩) (fun _ _ _ x => ⟨x.1, h2.trans x.2⟩) p' s' ((hf a).out M Γ Q E p' s' h1)⟩
theorem ite {c : Prop} [Decidable c] {t u : Sem α} (ht : KeepSim t) (hu : KeepSim u) : KeepSim (if c then t else u) := by split <;> assumption
theorem load (a : Addr) : KeepSim (PySem.load a) := ⟨fun M Γ Q E p s h => by
  unfold PySem.load at h ⊢
  rw [Sem.wp_load] at h ⊢
  obtain ⟨o, ho, h⟩ := h
  exact ⟨o, ho, h, Sim.refl _⟩⟩
theorem update (a : Addr) (f : Obj → Obj) (hf : ∀ o, o.isFreed = false → OSim o (f o) ∧ (f o).isFreed = false) : KeepSim (PySem.update a f) := ⟨fun M Γ Q E p s h => by
  unfold PySem.update at h ⊢
  rw [Sem.wp_update] at h ⊢
  refine ⟨h.1, h.2, fun b o e => ?_⟩
  by_cases hb : b = a
  · subst hb
    have hh := hf o (Heap.get?_some_iff.mp e).2
    exact ⟨_, Heap.get?_update_self f e hh.2, hh.1⟩
  · exact ⟨o, (Heap.get?_update_ne _ _ _ _ hb).trans e, .refl o⟩⟩
theorem stack : KeepSim PySem.stack := ⟨fun M Γ Q E p s h => by
  unfold PySem.stack at h ⊢
  rw [Sem.wp_stack] at h ⊢
  exact ⟨h, Sim.refl _⟩⟩
theorem alloc (o : Obj) : KeepSim (PySem.alloc o) := ⟨fun M Γ Q E p s h => ⟨h, Sim.of_keeps fun _ _ e => Heap.get?_push_of_some _ e⟩⟩
end KeepSim
theorem osim_mapFields (g : Array Value → Array Value) (o : Obj) (h : o.isFreed = false) : OSim o (Obj.mapFields g o) ∧ (Obj.mapFields g o).isFreed = false := by
  obtain ⟨c, d, dt, sl⟩ := o
  cases dt <;> first | exact ⟨⟨rfl, rfl, fun _ => rfl, fun h => h⟩, h⟩ | exact ⟨⟨rfl, rfl, fun q => absurd rfl (q _), fun _ => ⟨_, rfl⟩⟩, rfl⟩
end Mine
end
section
open PySem PySem.W PyProof.Rows PySem.Calls
open PySem.Sem (wp)
set_option linter.unusedVariables false
set_option Elab.async false
set_option maxRecDepth 100000
set_option maxHeartbeats 0
namespace Mine
theorem ks_fieldsOf (v : Value) : KeepSim (fieldsOf v) := by
  unfold fieldsOf
  cases v <;> try exact KeepSim.unsupported _
  refine KeepSim.bind (KeepSim.load _) fun o => ?_
  split <;> first | exact KeepSim.pure _ | exact KeepSim.unsupported _
theorem ks_field (v : Value) (i : Nat) : KeepSim (field v i) := by
  unfold field
  refine KeepSim.bind (ks_fieldsOf v) fun vs => ?_
  split <;> first | exact KeepSim.pure _ | exact KeepSim.unsupported _
theorem ks_setField (v : Value) (i : Nat) (x : Value) : KeepSim (setField v i x) := by
  unfold setField
  cases v <;> try exact KeepSim.unsupported _
  unfold updateField
  refine KeepSim.bind (KeepSim.load _) fun o => ?_
  split
  · refine KeepSim.ite (KeepSim.update _ _ fun o h => osim_mapFields _ o h) (KeepSim.unsupported _)
  · exact KeepSim.unsupported _
theorem ks_newFields (ty : String) (vs : List Value) : KeepSim (newFields ty vs) := by
  unfold newFields newObj newObjAsIs
  dsimp only
  repeat' with_reducible first
    | assumption
    | exact KeepSim.pure _
    | exact KeepSim.unsupported _
    | exact KeepSim.alloc _
    | apply KeepSim.ite
    | apply KeepSim.bind
    | intro _
    | split
theorem ks_behind (env : Env) (outer : List Env) : KeepSim (behindIsImport env outer) := by
  unfold behindIsImport
  repeat' with_reducible first | exact KeepSim.pure _ | exact ks_field _ _ | apply KeepSim.ite | apply KeepSim.bind | intro _ | split
theorem ks_under : KeepSim underTheClaimsCaller := by
  unfold underTheClaimsCaller
  repeat' with_reducible first | exact KeepSim.pure _ | exact KeepSim.stack | apply KeepSim.ite | apply KeepSim.bind | intro _ | split
theorem ks_kept (env : Env) (i : Bool) (l : List Env) : KeepSim (keptBack env i l) := by
  cases l <;> unfold keptBack <;> repeat' with_reducible first | exact KeepSim.pure _ | exact ks_under | apply KeepSim.ite | apply KeepSim.bind | intro _ | split
theorem ks_slots (a : Addr) (g : Obj → Array (Option Value)) : KeepSim (PySem.update a fun o => { cls := o.cls, dict := o.dict, data := o.data, slots := g o }) :=
  KeepSim.update _ _ fun o h => ⟨⟨rfl, rfl, fun _ => rfl, fun h => h⟩, by obtain ⟨c, d, dt, sl⟩ := o; cases dt <;> first | rfl | exact h⟩
theorem ks_ready : ∀ l : List Env, KeepSim (readyFrames l)
  | [] => KeepSim.pure _
  | env :: outer => by
    have ih := ks_ready outer
    unfold readyFrames
    repeat' with_reducible first
      | exact ih
      | exact KeepSim.pure _ | exact KeepSim.unsupported _ | exact KeepSim.load _ | exact ks_behind _ _ | exact ks_kept _ _ _
      | exact ks_slots _ _
      | apply KeepSim.ite | apply KeepSim.bind | intro _ | split
theorem ks_frameObject (l : List Env) : KeepSim (frameObject l) := by
  cases l with
  | nil => exact KeepSim.pure _
  | cons env outer =>
    unfold frameObject
    exact KeepSim.bind (ks_ready _) fun _ => KeepSim.pure _
theorem ks_frameOf (env : Env) : KeepSim (PySem.frameOf env) := by
  unfold PySem.frameOf frameEnvs
  repeat' with_reducible first | exact KeepSim.pure _ | exact KeepSim.unsupported _ | exact KeepSim.stack | exact ks_frameObject _ | apply KeepSim.bind | intro _ | split
theorem ks_place (f : Addr) (b : Bool) : KeepSim (entryPlaceOf f b) := by
  unfold entryPlaceOf
  repeat' with_reducible first | exact KeepSim.pure _ | exact KeepSim.unsupported _ | exact KeepSim.stack | apply KeepSim.bind | intro _ | split
theorem ks_setFlight (e : Value) (f : Option Addr) : KeepSim (setFlight e f) := by
  unfold setFlight
  repeat' with_reducible first | exact KeepSim.pure _ | exact ks_field _ _ | exact ks_setField _ _ _ | apply KeepSim.ite | apply KeepSim.bind | intro _ | split
theorem ks_noteFrame (e : Value) (env : Env) : KeepSim (noteFrame e env) := by
  unfold noteFrame EntryCells.newEntry
  repeat' with_reducible first | exact KeepSim.pure _ | exact KeepSim.unsupported _ | exact ks_field _ _ | exact ks_setField _ _ _ | exact ks_frameOf _ | exact ks_place _ _ | exact ks_newFields _ _ | apply KeepSim.ite | apply KeepSim.bind | intro _ | split
theorem ks_leaving (env : Env) (e : Value) : KeepSim (leaving env e) := by
  unfold leaving
  exact KeepSim.bind (ks_noteFrame _ _) fun _ => ks_setFlight _ _
theorem ks_any {α : Type} {t : Sem α} (k : KeepSim t) {M : Model} {A : Around} {Q : α → Shared → Prop} {E : Value → Shared → Prop} {s : Shared} (h : wpAny M A t (fun a s' => Sim s.heap s'.heap → Q a s') (fun e s' => Sim s.heap s'.heap → E e s') s) :
    wpAny M A t Q E s := fun Γ p hΓ =>
  Sem.wp_mono M Γ t (fun _ _ _ x => x.1 x.2) (fun _ _ _ x => x.1 x.2) p s (k.out M Γ _ _ p s (h Γ p hΓ))
end Mine
end
section
open PySem PySem.W PyProof.Rows PySem.Calls
open PySem.Sem (wp)
set_option linter.unusedVariables false
set_option Elab.async false
set_option maxRecDepth 100000
set_option maxHeartbeats 0
namespace Mine
def RaisedX (base G : Heap) (l : List Env) (e D : Addr) (news : List (Addr × Obj)) (h : Heap) : Prop :=
  (∃ B, base.StaysIn B ∧ (∀ b o, G.get? b = some o → b ∉ l.filterMap (·.frame) → B.get? b = some o) ∧ (∀ q ∈ news, B.get? q.1 = some q.2 ∧ G.get? q.1 = none ∧ base.get? q.1 = none) ∧ ∃ a0, Heap.FlyingW B l e (.ref 34) a0 h) ∧
    ∃ oe, h.get? e = some oe ∧ oe.dict = some D
section
variable {M : Model} {A : Around} {E : Value → Shared → Prop} {s' : Shared} {base g g₂ h : Heap} {outer : List Env} {L a e D t2 : Addr} {m : Str → Option Value} {name : Str} {scope : Scope} {cd : Value} {Q : Unit → Shared → Prop} {news : List (Addr × Obj)}
theorem leave_raiseX (K : Below A base outer g) (F : Fr g L s'.heap m) (N : News g L s'.heap ((e, excO (some D) t2) :: news)) (hl : ∀ p ∈ news, p.1 ≠ e)
    (hQ : ∀ h', RaisedX base g outer e D news h' → g.UpToSlots h' → Q () { s' with heap := h' }) (hk : scope.kind = .function := by rfl) :
    wpAny M (A.deeper (envOf name scope L a cd)) (leaving (envOf name scope L a cd) (.ref e)) Q E s' := by
  have K' := K.push (name := name) (a := a) (cd := cd) F hk
  have Ne := N _ (.head _)
  have hin : ∀ env ∈ (envOf name scope L a cd :: outer), ∀ b, env.frame = some b → b ∈ e :: (envOf name scope L a cd :: outer).filterMap (·.frame) := fun env he b hb => .tail _ (List.mem_filterMap.mpr ⟨env, he, hb⟩)
  have be : base.get? e = none := fresh_of_stays K.stays Ne.2.2
  have st : base.StaysIn (hideAll s'.heap (e :: (envOf name scope L a cd :: outer).filterMap (·.frame))) := fun b o q => hideAll_get _ (K'.stays b o q) fun hm => by
    rcases List.mem_cons.mp hm with rfl | hm
    · rw [be] at q; cases q
    · rw [(K'.frames.mem hm).1] at q; cases q
  have sg : ∀ b o, g.get? b = some o → b ∉ outer.filterMap (·.frame) → (hideAll s'.heap (e :: (envOf name scope L a cd :: outer).filterMap (·.frame))).get? b = some o := fun b o q nm => hideAll_get _ (F.keep b o q) fun hm => by
    rcases List.mem_cons.mp hm with rfl | hm
    · rw [Ne.2.2] at q; cases q
    rcases kts_mem hm with z | z
    · rw [z, kts_self F] at q; cases q
    · exact nm z
  have hn : ∀ q ∈ news, (hideAll s'.heap (e :: (envOf name scope L a cd :: outer).filterMap (·.frame))).get? q.1 = some q.2 ∧ g.get? q.1 = none ∧ base.get? q.1 = none := fun q hq => by
    have Nq := N q (.tail _ hq)
    refine ⟨hideAll_get _ Nq.1 fun hm => ?_, Nq.2.2, fresh_of_stays K.stays Nq.2.2⟩
    rcases List.mem_cons.mp hm with z | hm
    · exact hl q hq z
    obtain ⟨env, he, hf⟩ := List.mem_filterMap.mp hm
    rcases List.mem_cons.mp he with rfl | he
    · exact Nq.2.1 (Option.some.inj hf).symm
    · obtain ⟨o, ho, _⟩ := (K.frames.mem (List.mem_filterMap.mpr ⟨env, he, hf⟩)).2
      rw [Nq.2.2] at ho; cases ho
  have hBe : (hideAll s'.heap (e :: (envOf name scope L a cd :: outer).filterMap (·.frame))).get? e = none := hideAll_none _ (.head _)
  refine ks_any (ks_leaving _ _) (wpAny_leaving_firstW (a0 := .ref t2) (vs := #[.ref t2, .none, .none, .none, .bool false, .none]) K'.stack (funFrames_hide K'.frames hin) rfl Ne.1 (fun b o q => of_hideAll _ q) hBe rfl rfl rfl fun h' hL hs => ?_)
  obtain ⟨k1, ⟨_, _, k2⟩, k3, k4⟩ := hL
  obtain ⟨oe, he, _, hd, _⟩ := hs _ _ Ne.1
  exact hQ h' ⟨⟨_, st, sg, hn, _, k1, hBe, k2, k3⟩, oe, he, hd⟩ ((Heap.UpToSlots.of_keeps F.keep).trans k4)
theorem leave_onX (K : Below A base outer g) (F : Fr g L g₂ m) (R : RaisedX base g₂ (envOf name scope L a cd :: outer) e D news s'.heap) (hsm : g₂.UpToSlots s'.heap)
    (hQ : ∀ h', RaisedX base g outer e D news h' → g.UpToSlots h' → Q () { s' with heap := h' }) :
    wpAny M (A.deeper (envOf name scope L a cd)) (leaving (envOf name scope L a cd) (.ref e)) Q E s' := by
  obtain ⟨⟨B, hB, hBG, hn, a0, hfl⟩, oe, he, hd⟩ := R
  refine ks_any (ks_leaving _ _) (wpAny_leaves_onW (Around.frames_deeper K.stack) rfl hfl fun h' x1 x2 hs => ?_)
  obtain ⟨oe', he', _, hd', _⟩ := hs _ _ he
  exact hQ h' ⟨⟨B, hB, fun b o q nm => hBG b o (F.keep b o q) (fun hm => by
    rcases kts_mem hm with z | z
    · rw [z, kts_self F] at q; cases q
    · exact nm z), fun q hq => ⟨(hn q hq).1, kts_none F.keep (hn q hq).2.1, (hn q hq).2.2⟩, a0, x1⟩, oe', he', hd'.trans hd⟩ ((Heap.UpToSlots.of_keeps F.keep).trans (hsm.trans x2))
end
section
variable {M : Model} {A : Around} {E : Value → Shared → Prop} {env : Env}
theorem raiseStmt_X {K : Frag} {s : Shared} {x : Sem Value} {Q : Flow → Shared → Prop} (hJ : excJ K 34 33 excBm "Exception.__new__" 31 = true) (hh : A.handled = none)
    (h : wpAny M A x (fun v s₁ => ∃ e o t, v = .ref e ∧ K.In s₁.heap ∧ s₁.heap.get? e = some (excO o t) ∧ E (.ref e) s₁) E s) :
    wpAny M A (raiseStmt env (some x) none) Q E s := by
  have hcB : (Value.ref 34 :: excBm).contains (.type "BaseException") = true := by decide
  unfold raiseStmt
  refine wpAny_bind (wpAny_mono h (fun v s₁ h₁ => ?_) fun _ _ x => x)
  obtain ⟨e, o, t, rfl, X, he, hE⟩ := h₁
  obtain ⟨nm, qn, bs, sn, sub, ab, col, dd, k0, k1, k2, k3, k5, mN, oI, hC, hn, hi, hfI, hfc⟩ := excJ_of X hJ
  obtain ⟨hp, g, d, tk, os⟩ := s₁
  repeat (first | with_reducible refine wpAny_loadPart_at he ?_ | with_reducible refine wpAny_loadPart_at hC ?_ | (with_reducible refine wpAny_isSubtype_exc hC ?_; rw [hcB]) | wp_step)
  exact wpAny_raiseNew_none hh hE
theorem Raise_X {K : Frag} {s : Shared} {ex : PySem.Expr} {pos : Pos} {Q : Flow → Shared → Prop} (hJ : excJ K 34 33 excBm "Exception.__new__" 31 = true) (hh : A.handled = none)
    (h : wpAny M A (eval ex env) (fun v s₁ => ∃ e o t, v = .ref e ∧ K.In s₁.heap ∧ s₁.heap.get? e = some (excO o t) ∧ E (.ref e) s₁) E s) :
    wpAny M A (exec (.Raise (some ex) none pos) env) Q E s := by
  rw [arm_exec_Raise]
  refine wpAny_bind (wpAny_standAt (raiseStmt_X hJ hh (wpAny_bind (wpAny_mono h (fun v s₁ h₁ => wpAny_bind (wpAny_standAt (wpAny_pure h₁))) fun _ _ x => x))))
end
section
variable {prog : Program} {w : World} {A₀ : Around} {E : Value → Shared → Prop} {s' : Shared} {base g G g₀ : Heap} {outer : List Env} {L a e D : Addr} {m mg mb : Str → Option Value} {name n x : Str} {scope : Scope} {cd : Value} {news : List (Addr × Obj)} {p : Program} {loose : List Str} {mean : ExcName → Option Value}
  {KF : Frag} {b₀ : Stmt} {suite : List Stmt} {np pos : Pos} {rest : List ExceptHandler} {Q : Flow → Shared → Prop}
theorem caught_X (R : RaisedX base G (envOf name scope L a cd :: outer) e D news s'.heap) (F : Fr g L G m) (K : Below A₀ base outer g) (hsm : G.UpToSlots s'.heap) (XB : KF.In base) (TB : Top p loose mean mg mb base)
    (Ds : KtsDicts (outer.filterMap (·.frame)) g) (T0 : KtsTurn (outer.filterMap (·.frame)) g₀ g)
    (ex : nsIn KF mainGlobals x = some (some (.ref 34))) (hJ : excJ KF 34 33 excBm "Exception.__new__" 31 = true)
    (k : ∀ h' g' oe ws tk, KtsTurn (outer.filterMap (·.frame)) g₀ g' → Fr g' L h' (fun y => if y = n then some (.ref e) else m y) → News g' L h' ((e, oe) :: news) → oe.cls = .ref 34 → oe.dict = some D → oe.data = .fields ws → Below A₀ base outer g' → KF.In g' → Top p loose mean mg mb g' → KtsDicts (outer.filterMap (·.frame)) g' →
      wpAny (model prog w) ((A₀.deeper (envOf name scope L a cd)).mark (some (.ref e))) (execs (b₀ :: suite) (envOf name scope L a cd))
        (fun f s₄ => wpAny (model prog w) (A₀.deeper (envOf name scope L a cd)) (do bindName (envOf name scope L a cd) n .none; unbindBehindTheSuite (envOf name scope L a cd) n pos) (fun _ s₅ => Q f s₅) E s₄)
        (AsSuiteRaised (model prog w) ((A₀.deeper (envOf name scope L a cd)).mark (some (.ref e))) (envOf name scope L a cd) n pos (notedBy (model prog w) ((A₀.deeper (envOf name scope L a cd)).mark (some (.ref e))) (envOf name scope L a cd) (cameBackBy (model prog w) (A₀.deeper (envOf name scope L a cd)) (envOf name scope L a cd) E)))
        { s' with heap := h', toks := tk })
    (hk : scope.kind = .function := by rfl) (hlo : (envOf name scope L a cd).kindOf n = some .local := by rfl) (hx : (envOf name scope L a cd).kindOf x = some .globalImplicit := by rfl) (hd : (x == ("__debug__" : Str)) = false := by decide) :
    wpAny (model prog w) (A₀.deeper (envOf name scope L a cd)) (noteFrame (.ref e) (envOf name scope L a cd))
      (fun _ s₂ => wpAny (model prog w) (A₀.deeper (envOf name scope L a cd)) (setFlight (.ref e) none) (fun _ s₃ =>
        wpAny (model prog w) (A₀.deeper (envOf name scope L a cd)) (handleBy (.ref e) (envOf name scope L a cd) (.ExceptHandler (some (.Name x np)) (some n) (b₀ :: suite) pos :: rest)) Q E s₃) E s₂) E s' := by
  obtain ⟨⟨B, hB, hBG, hl, a0, hfl⟩, oe0, he0, hd0⟩ := R
  have hL : B.get? L = none := by
    obtain ⟨_, ⟨L', _, hf, hn', _⟩, _⟩ := hfl.2.2.1
    obtain rfl : L = L' := Option.some.inj hf
    exact hn'
  refine ks_any (ks_noteFrame _ _) (wpAny_looks_onW (Around.frames_deeper K.stack) rfl hfl fun h₄ hheld₄ hsm₄ sim4 => ?_)
  refine ks_any (ks_setFlight _ _) (wpAny_landsW hheld₄ fun h₅ hheld hsm₅' sim5 => ?_)
  have hsm₅ := hsm₄.trans hsm₅'
  obtain ⟨g₅, T₅, F₅, K₅⟩ := kts_ground K F hBG hheld.1 (hsm.trans hsm₅)
  have X₅ : KF.In g₅ := XB.keeps K₅.stays
  have P₅ : TopRead p loose mg mb g₅ := topRead_of (TB.keeps K₅.stays)
  obtain ⟨ob, hob, hobc⟩ := hheld.there
  obtain ⟨nm, qn, bs, sn, sub, ab, col, dd, k0, k1, k2, k3, k5, mN, oI, hC, hn, hi, hfI, hfc⟩ := excJ_of X₅ hJ
  have hC₅ := F₅.keep _ _ hC
  refine wpAny_handleBy_cons (codeAny_handlers_test (name_K F₅ X₅ P₅ ex ?_ hk hx hd)) (by intro q; cases q)
  refine wpAny_excMatches_sub_self hC₅ hob hobc (by decide) (codeAny_handlers_suite_as ?_)
  refine ks_any (ks_setFlight _ _) (lands_againW hheld fun h₆ hfl₆ hsm₆ sim6 => ?_)
  obtain ⟨g₆, T₆, F₆, K₆⟩ := kts_ground K F hBG hfl₆.1 ((hsm.trans hsm₅).trans hsm₆)
  obtain ⟨oe, ws, hoe, hoec, hoed, hoe0⟩ := hfl₆.first
  have hdict : oe.dict = some D := by
    obtain ⟨o', ho', _, q2, _⟩ := ((sim4.trans sim5).trans sim6) _ _ he0
    have : some o' = some oe := ho'.symm.trans hoe
    cases this
    exact q2.trans hd0
  have ne₆ : g₆.get? e = none := T₆.none_ _ (kts_fresh F hBG hfl₆.2.1 fun o ho m => by
    obtain ⟨_, o', ho', hd⟩ := K.frames.mem m
    rw [ho] at ho'
    cases ho'
    obtain ⟨sl, hs⟩ := ((hsm.trans hsm₅).trans hsm₆) _ _ (F.keep _ _ ho) hd
    rw [hoe] at hs
    cases hs
    exact hd _ hoed)
  have Nl : News g₆ L h₆ news := fun q hq => ⟨hfl₆.1 _ _ (hl q hq).1, (fun z => by have := (hl q hq).1; rw [z, hL] at this; cases this), T₆.none_ _ (kts_none F.keep (hl q hq).2.1)⟩
  have N₆ := News.more F₆ Nl hoe (fun es n q => by rw [hoed] at q; cases q) ne₆
  have X₆ : KF.In g₆ := XB.keeps K₆.stays
  have P₆ : Top p loose mean mg mb g₆ := TB.keeps K₆.stays
  have D₆ : KtsDicts (outer.filterMap (·.frame)) g₆ := Ds.turn T₆
  refine stN F₆ N₆ (fun h₇ F₇ N₇ => ?_) hk hlo
  exact k h₇ g₆ oe ws _ (T0.trans T₆) F₇ N₇ hoec hdict hoed K₆ X₆ P₆ D₆
end
end Mine
end
section
open PySem PySem.W PyProof.Rows PySem.Calls PySem.Builtin PySem.Builtin.ObjectAttr
set_option linter.unusedVariables false
set_option Elab.async false
set_option maxRecDepth 100000
set_option maxHeartbeats 0
namespace Mine
structure GaF (B : String) (bm : List Value) (ga owner : String) : Prop where
  mro : mroOf (.type B) = pure bm
  slot : Slot owner "__getattribute__" ga
  lk : typeLookup (.type B) "__getattribute__" = pure (some (.builtin ga))
  lkh : typeLookup (.type B) "__getattr__" = pure none
  other : (Value.builtin ga == Value.builtin "object.__getattribute__") = false
  entry : entryFor table ga = some Builtin.«object.__getattribute__»
  kind : builtinKind ga = some .slot
  split : splitId ga = some (owner, "__getattribute__")
  hasOwner : bm.contains (.type owner) = true
  args : ∀ a b : Value, argsOk ga ⟨[a, b], []⟩
theorem gaE : GaF "Exception" excBm "BaseException.__getattribute__" "BaseException" where
  mro := PySem.F.store_Exception.mro
  slot := .of (owner := "BaseException") (n := "__getattribute__") (by rw [typeLookup_type, builtinLookup_eq_fast]; kernel_rfl) (by decide +kernel) (by decide +kernel) (by decide +kernel)
    (by first | exact .inl (by decide +kernel) | exact .inr (by decide +kernel)) (by rw [isSubtype_type]; kernel_rfl)
  lk := by rw [typeLookup_type, builtinLookup_eq_fast]; kernel_rfl
  lkh := by rw [typeLookup_type, builtinLookup_eq_fast]; kernel_rfl
  other := by decide +kernel
  entry := entryFor_alias (id' := "object.__getattribute__") (by rw [fastTable_eq_tree]; kernel_rfl) (by first | rfl | decide +kernel) (by decide +kernel) (by rw [fastTable_eq_tree]; kernel_rfl)
  kind := by decide +kernel
  split := by decide +kernel
  hasOwner := by decide +kernel
  args := fun a b => by unfold argsOk; kernel_rfl
section
variable {prog : Program} {w : World} {A : Around} {E : Value → Shared → Prop} {h : Heap} {g : Array GenState} {d : Drawn} {t : Nat} {os : OsState}
variable {nm q : Str} {C N x : Addr} {bs bm : List Value} {sn : List Str} {sub : List Value} {ab : Bool} {col : Option Bool} {dd : Option Addr} {k0 k1 k2 k3 k5 : Option Value} {newId B ga owner : String}
  {mN mA : Str → Option Value} {name : Str} {v : Value}
theorem check_ga {M : Model} {o : Obj} {nameV : Value} {Q : Unit → Shared → Prop} (G : GaF B bm ga owner)
    (hC : h.get? C = some (excClassObj nm q C N bs bm true sn sub ab col dd k0 k1 k2 k3 k5 newId)) (hx : h.get? x = some o) (hc : o.cls = .ref C) (hq : Q () ⟨h, g, d, t, os⟩) :
    wpAny M A (checkBuiltinCall ga ⟨[.ref x, nameV], []⟩) Q E ⟨h, g, d, t, os⟩ := by
  have hcB : (Value.ref C :: bm).contains (.type owner) = true := by rw [List.contains_cons, G.hasOwner, Bool.or_true]
  have ha := G.args (.ref x) nameV
  simp only [checkBuiltinCall, G.kind, G.split]
  refine wpAny_bind ?_
  · unfold isInstance
    repeat (first | (with_reducible refine wpAny_loadPart_at hx ?_; rw [hc]) | (with_reducible refine wpAny_isSubtype_exc hC ?_; rw [hcB]) | wp_step)
    cases hsig : Manifest.signature? ga with
    | none => exact wpAny_pure hq
    | some sig =>
      simp only [argsOk, hsig] at ha
      have h2 : Bind.checkArgs ga sig ⟨[.ref x, nameV], []⟩ = pure () := ha
      show wpAny M A (Bind.checkArgs ga sig ⟨[.ref x, nameV], []⟩) Q E _
      rw [h2]; exact wpAny_pure hq
theorem loadE_entry {tk : Tok} {Q : PySem.Fin → Shared → Prop} (G : GaF B bm ga owner)
    (hC : h.get? C = some (excClassObj nm q C N bs bm true sn sub ab col dd k0 k1 k2 k3 k5 newId)) (hn : h.Ns N mN) (hna : mN name = none)
    (hB : typeLookup (.type B) name = pure none) (I : h.Inst x C mA) (hv : mA name = some v) (hq : Q (.done (.ret v)) ⟨h, g, d, t, os⟩) :
    wpAny (model prog w) A (Builtin.«object.__getattribute__» ⟨[.ref x, .str name tk], []⟩) Q E ⟨h, g, d, t, os⟩ := by
  obtain ⟨o, hx, hc, hnc, hd⟩ := I
  have hbm := G.mro
  rcases hd with ⟨_, hmA⟩ | ⟨dx, hdx, hne, hns⟩
  · rw [hmA name] at hv; cases hv
  unfold Builtin.«object.__getattribute__»
  repeat (first | (with_reducible refine wpAny_loadPart_at hx ?_; rw [hc]) | (with_reducible refine wpAny_typeLookup_exc hC hn hbm hB ?_; rw [hna]) | wp_step)
  split
  · rename_i c hcd
    exact absurd hcd (hnc c)
  unfold instanceDict
  repeat (first | (with_reducible refine wpAny_loadPart_at hx ?_; rw [hc]) | with_reducible refine wpAny_loadPart_at hC ?_ | wp_step)
  rw [hdx]
  repeat (first | (with_reducible refine wpAny_nsGet hns.ns ?_; rw [hv]) | wp_step)
  exact hq
theorem loadE_call {tk : Tok} {R : Result → Shared → Prop} (G : GaF B bm ga owner)
    (hC : h.get? C = some (excClassObj nm q C N bs bm true sn sub ab col dd k0 k1 k2 k3 k5 newId)) (hn : h.Ns N mN) (hna : mN name = none)
    (hB : typeLookup (.type B) name = pure none) (I : h.Inst x C mA) (hv : mA name = some v) (hq : R (.ok (.ret v)) ⟨h, g, d, t, os⟩) :
    codeAny (model prog w) A (.call (.builtin ga) ⟨[.ref x, .str name tk], []⟩) R ⟨h, g, d, t, os⟩ := by
  obtain ⟨o, hx, hc, _⟩ := id I
  exact codeAny_call_builtin G.slot.plain G.entry (check_ga G hC hx hc (loadE_entry G hC hn hna hB I hv hq))
theorem loadE_attr {expr : Bool} {Q : Value → Shared → Prop} (G : GaF B bm ga owner)
    (hC : h.get? C = some (excClassObj nm q C N bs bm true sn sub ab col dd k0 k1 k2 k3 k5 newId)) (hn : h.Ns N mN) (hng : mN "__getattribute__" = none) (hnh : mN "__getattr__" = none) (hna : mN name = none)
    (hB : typeLookup (.type B) name = pure none) (I : h.Inst x C mA) (hv : mA name = some v) (hh : handedOut v = pure v) (hq : Q v ⟨h, g, d, t + 1, os⟩) :
    wpAny (model prog w) A (getAttr (.ref x) name expr) Q E ⟨h, g, d, t, os⟩ := by
  obtain ⟨o, hx, hc, _⟩ := id I
  have hbm := G.mro
  have hoth := G.other
  have hbind := G.slot.bind (.ref x)
  unfold getAttr getAttrBy
  repeat (first | (with_reducible refine wpAny_loadPart_at hx ?_; rw [hc]) | (with_reducible refine wpAny_typeLookup_exc hC hn hbm G.lk ?_; rw [hng]) | wp_step)
  refine wpAny_typeLookup_exc hC hn hbm G.lkh ?_
  rw [hnh]
  dsimp only
  have hx2 : (expr && onTheHeap (.builtin ga)) = false := by cases expr <;> rfl
  unfold callGetattribute
  rw [if_neg (by rw [hx2]; decide)]
  unfold boundAndCalled
  refine wpAny_bind (wpAny_attempt (wpAny_holding (wpAny_bind (wpAny_of_eq hbind ?_))))
  refine wpAny_call (loadE_call G hC hn hna hB I hv ?_)
  show wpAny _ _ (handedOut v) _ _ _
  rw [hh]
  exact wpAny_pure hq
end
def HasNs (o : Obj) (mA : Str → Option Value) : Prop := ∃ es ep, o.data = .dict es ep ∧ StrKeys es ∧ UniqKeys es ∧ ∀ name, nsFind es name = mA name
section
variable {prog : Program} {w : World} {A : Around} {E : Value → Shared → Prop} {s : Shared} {h₀ : Heap} {L e D : Addr} {m : Str → Option Value} {news : List (Addr × Obj)} {K : Frag} {oe oD : Obj} {ws : Array Value} {name : Str} {v : Value} {mA : Str → Option Value}
theorem getExc_K {expr : Bool} {Q : Value → Shared → Prop} (F : Fr h₀ L s.heap m) (X₀ : K.In h₀) (N : News h₀ L s.heap news) (hJ : excJ K 34 33 excBm "Exception.__new__" 31 = true)
    (hg : nsIn K 33 "__getattribute__" = some none) (hgh : nsIn K 33 "__getattr__" = some none) (hn' : nsIn K 33 name = some none) (hB : typeLookup (.type "Exception") name = pure none)
    (he : (e, oe) ∈ news) (hc : oe.cls = .ref 34) (hd : oe.dict = some D) (hf : oe.data = .fields ws) (hD : (D, oD) ∈ news) (hM : HasNs oD mA) (hv : mA name = some v) (hh : handedOut v = pure v)
    (h : Q v { s with toks := s.toks + 1 }) : wpAny (model prog w) A (getAttr (.ref e) name expr) Q E s := by
  obtain ⟨nm, qn, bs, sn, sub, ab, col, dd, k0, k1, k2, k3, k5, mN, oI, hC0, hn0, hi, hfI, hfc⟩ := excJ_of X₀ hJ
  have hC := F.keep _ _ hC0
  have hn : s.heap.Ns 33 mN := let ⟨o, es, ep, e, r⟩ := hn0; ⟨o, es, ep, F.keep _ _ e, r⟩
  have X := X₀.keeps F.keep
  have Ne := (N _ he).1
  have ND := (N _ hD).1
  have hDe : D ≠ e := fun z => by
    rw [z] at ND
    have : some oD = some oe := ND.symm.trans Ne
    cases this
    obtain ⟨es, ep, q, _⟩ := hM
    rw [hf] at q; cases q
  obtain ⟨hh', g, d, t, os⟩ := s
  refine loadE_attr gaE hC hn (ns_none_of X hn hg) (ns_none_of X hn hgh) (ns_none_of X hn hn') hB (mA := mA) ⟨oe, Ne, hc, (fun c q => by rw [hf] at q; cases q), .inr ⟨D, hd, hDe, ?_⟩⟩ hv hh h
  obtain ⟨es, ep, q1, q2, q3, q4⟩ := hM
  exact ⟨oD, es, ep, ND, q1, q2, q3, q4⟩
end
theorem excNewD : ∀ (w : World) (p : Program) (loose : List Str) (mean : ExcName → Option Value) (mg mb : Str → Option Value) (dp un : Nat) (gd : Option (List Code)) (cn : Str) (cs : Scope) (a : Addr) (ccd : Value) (cl : List (Str × Addr)) (outer : List Env) (A₀ : Around) (base h₀ : Heap) (L : Addr) (m : Str → Option Value) (news : List (Addr × Obj)) (s : Shared)
    (Q E : Value → Shared → Prop) (n : Int) (u : Tok) (x : Str) (v : Tok),
    Below A₀ base outer h₀ → Fr h₀ L s.heap m → (KF w.params).In h₀ → News h₀ L s.heap news → Top p loose mean mg mb h₀ → cs.kind = .function → dp < 700 →
    (∀ e D oD t2 h' tk', Fr h₀ L h' m → News h₀ L h' ((e, excO (some D) t2) :: (D, oD) :: news) → (∀ p ∈ (D, oD) :: news, p.1 ≠ e) → HasNs oD (mExc n u x v) → Q (.ref e) { s with heap := h', toks := tk' }) →
    wpAny (model PySem.Challenge.rw_rh0230_01.row.prog w) (ktrTop dp un gd cn cs L a ccd cl outer) (call (.ref 34) [.int n u, .str x v]) Q E s := by
  intro w p loose mean mg mb dp un gd cn cs a ccd cl outer A₀ base h₀ L m news s Q E n u x v B F X N T hck hdp ret
  refine excNew w p loose mean mg mb dp un gd cn cs a ccd cl outer A₀ base h₀ L m news s Q E n u x v B F X N T hck hdp ?_
  intro e D t2 h' tk' F' N' l1 hD hDL l2 hDe hns
  obtain ⟨oD, es, ep, q0, q1, q2, q3, q4⟩ := hns
  refine ret e D oD t2 h' tk' F' (fun p hp => ?_) (fun p hp => ?_) ⟨es, ep, q1, q2, q3, q4⟩
  · rcases List.mem_cons.mp hp with rfl | hp
    · exact N' _ (.head _)
    rcases List.mem_cons.mp hp with rfl | hp
    · exact ⟨q0, hDL, hD⟩
    · exact N' _ (.tail _ hp)
  · rcases List.mem_cons.mp hp with rfl | hp
    · exact hDe
    · exact l1 p hp
end Mine
end
section
open PySem PySem.W PyProof.Rows PySem.Calls
set_option linter.unusedVariables false
set_option Elab.async false
set_option maxRecDepth 100000
set_option maxHeartbeats 0
namespace Mine
theorem RaisedX.sub {base G h : Heap} {l : List Env} {e D : Addr} {n n' : List (Addr × Obj)} (R : RaisedX base G l e D n h) (f : ∀ q ∈ n', q ∈ n) : RaisedX base G l e D n' h := by
  obtain ⟨⟨B, h1, h2, h3, h4⟩, h5⟩ := R
  exact ⟨⟨B, h1, h2, fun q hq => h3 q (f q hq), h4⟩, h5⟩
theorem News.sub {h₀ h : Heap} {L : Addr} {l l' : List (Addr × Obj)} (N : News h₀ L h l) (f : ∀ q ∈ l', q ∈ l) : News h₀ L h l' := fun q hq => N q (f q hq)
theorem exc_now {K : Frag} {R : Value → Shared → Prop} {s : Shared} {g : Heap} {L e : Addr} {m : Str → Option Value} {o : Option Addr} {t : Tok} {tl : List (Addr × Obj)} (F : Fr g L s.heap m) (X : K.In g) (N : News g L s.heap ((e, excO o t) :: tl)) (q : R (.ref e) s) :
    ∃ e' o' t', Value.ref e = .ref e' ∧ K.In s.heap ∧ s.heap.get? e' = some (excO o' t') ∧ R (.ref e') s := ⟨e, o, t, rfl, Frag.In.keeps X (Fr.keep F), N.get (.head _), q⟩
abbrev ent (w : World) (k : Str) (t : Tok) (v : Value) : DictEntry := ⟨PyData.keyHash w.params k, .str k t, v⟩
end Mine
end
section
open PySem PySem.W PyProof.Rows PySem.Calls
set_option linter.unusedVariables false
set_option Elab.async false
set_option maxRecDepth 100000
set_option maxHeartbeats 0
namespace Mine
structure Out where
  gives : Value → List (Addr × Obj) → Prop
  raises : Int → Prop
structure D (w : World) (b : Nat) (f : Addr) (n0 : List (Addr × Obj)) (args : List Value) (O : Out) : Prop where
  go : ∀ (p : Program) (loose : List Str) (mean : ExcName → Option Value) (mg mb : Str → Option Value) (dp un : Nat) (gd : Option (List Code)) (cn : Str) (cs : Scope) (a : Addr) (ccd : Value) (cl : List (Str × Addr)) (outer : List Env) (A₀ : Around) (base h₀ : Heap) (L : Addr) (m : Str → Option Value) (news : List (Addr × Obj)) (s : Shared) (Q E : Value → Shared → Prop),
    (∀ q ∈ n0, q ∈ news) → Below A₀ base outer h₀ → Fr h₀ L s.heap m → (KF w.params).In h₀ → News h₀ L s.heap news → Top p loose mean mg mb h₀ → cs.kind = .function → dp < b →
    (∀ v ext h' tk', O.gives v ext → Fr h₀ L h' m → News h₀ L h' (ext ++ news) → Q v { s with heap := h', toks := tk' }) →
    (∀ n G e Dd oD xx vv u h' tk', O.raises n → Fr h₀ L G m → RaisedX base G (envX cn cs L a ccd cl :: outer) e Dd ((Dd, oD) :: news) h' → G.UpToSlots h' → HasNs oD (mExc n u xx vv) → E (.ref e) { s with heap := h', toks := tk' }) →
    wpAny (model PySem.Challenge.rw_rh0230_01.row.prog w) (ktrTop dp un gd cn cs L a ccd cl outer) (call (.ref f) args) Q E s
theorem D.use {w : World} {b : Nat} {f : Addr} {n0 : List (Addr × Obj)} {args : List Value} {O : Out} (hD : D w b f n0 args O)
    {p : Program} {loose : List Str} {mean : ExcName → Option Value} {mg mb : Str → Option Value} {dp un : Nat} {gd : Option (List Code)} {cn : Str} {cs : Scope} {a : Addr} {ccd : Value} {cl : List (Str × Addr)} {outer : List Env} {A₀ : Around} {base h₀ : Heap} {L : Addr} {m : Str → Option Value} {news : List (Addr × Obj)} {s : Shared} {Q E : Value → Shared → Prop}
    (S : ∀ q ∈ n0, q ∈ news) (B : Below A₀ base outer h₀) (F : Fr h₀ L s.heap m) (X : (KF w.params).In h₀) (N : News h₀ L s.heap news) (T : Top p loose mean mg mb h₀) (hk : cs.kind = .function) (hd : dp < b)
    (rq : ∀ v ext h' tk', O.gives v ext → Fr h₀ L h' m → News h₀ L h' (ext ++ news) → Q v { s with heap := h', toks := tk' })
    (re : ∀ n G e Dd oD xx vv u h' tk', O.raises n → Fr h₀ L G m → RaisedX base G (envX cn cs L a ccd cl :: outer) e Dd ((Dd, oD) :: news) h' → G.UpToSlots h' → HasNs oD (mExc n u xx vv) → E (.ref e) { s with heap := h', toks := tk' }) :
    wpAny (model PySem.Challenge.rw_rh0230_01.row.prog w) (ktrTop dp un gd cn cs L a ccd cl outer) (call (.ref f) args) Q E s :=
  hD.go p loose mean mg mb dp un gd cn cs a ccd cl outer A₀ base h₀ L m news s Q E S B F X N T hk hd rq re
theorem D.low {w : World} {b b' : Nat} {f : Addr} {n0 : List (Addr × Obj)} {args : List Value} {O : Out} (hb : b' ≤ b) (hD : D w b f n0 args O) : D w b' f n0 args O :=
  ⟨fun _ _ _ _ _ _ _ _ _ _ _ _ _ _ _ _ _ _ _ _ _ _ _ S B F X N T hk hd rq re => hD.use S B F X N T hk (Nat.lt_of_lt_of_le hd hb) rq re⟩

def OV (gv : Prop) (v : Value) (rs : Int → Prop) : Out := ⟨fun r ext => gv ∧ r = v ∧ ext = [], rs⟩
def no : Int → Prop := fun _ => False
abbrev nrDict (w : World) (q1 q2 q3 kt : Tok) (kd : Str) (ow ky : Value) : Obj := dictOf [ent w (Str.ofString "kind") q1 (.str kd kt), ent w (Str.ofString "owner") q2 ow, ent w (Str.ofString "key") q3 ky] 3
def IsNR (w : World) (n : List (Addr × Obj)) (x : Addr) (kd : Str) (ow : Value) (ky : Str) : Prop := ∃ dx q1 q2 q3 kt yt, (x, instObj 110 dx) ∈ n ∧ (dx, nrDict w q1 q2 q3 kt kd ow (.str ky yt)) ∈ n
def ONR (w : World) (n0 : List (Addr × Obj)) (gv : Prop) (kd : Str) (ow ky : Value) (rs : Int → Prop) : Out :=
  ⟨fun r ext => gv ∧ ∃ x dx q1 q2 q3 kt, r = .ref x ∧ (x, instObj 110 dx) ∈ ext ++ n0 ∧ (dx, nrDict w q1 q2 q3 kt kd ow ky) ∈ ext ++ n0, rs⟩
structure NI (w : World) (b : Nat) (n0 : List (Addr × Obj)) (nm hk : Addr) (O : Out) : Prop where
  go : ∀ part t3 t4 n1, (∀ q ∈ n0, q ∈ n1) → (part, tup [.str (Str.ofString "unary") t3, .str (Str.ofString "$") t4, .ref nm]) ∈ n1 → D w b 388 n1 [.ref part, .ref hk] O
theorem mem_ext {ext n0 news : List (Addr × Obj)} {p : Addr × Obj} (h : p ∈ ext ++ n0) (S : ∀ q ∈ n0, q ∈ news) : p ∈ ext ++ news := by
  rcases List.mem_append.mp h with h | h
  · exact List.mem_append_left _ h
  · exact List.mem_append_right _ (S _ h)
theorem D.weak {w : World} {b : Nat} {f : Addr} {n0 n1 : List (Addr × Obj)} {args : List Value} {O O' : Out} (hD : D w b f n0 args O) (hs : ∀ q ∈ n0, q ∈ n1) (hg : ∀ v ext, O.gives v ext → O'.gives v ext) (hr : ∀ n, O.raises n → O'.raises n) : D w b f n1 args O' :=
  ⟨fun _ _ _ _ _ _ _ _ _ _ _ _ _ _ _ _ _ _ _ _ _ _ _ S B F X N T hk hd rq re => hD.use (fun q h => S q (hs q h)) B F X N T hk hd (fun v ext h' tk' g => rq v ext h' tk' (hg v ext g)) (fun n G e Dd oD xx vv u h' tk' r => re n G e Dd oD xx vv u h' tk' (hr n r))⟩
theorem D.useV {w : World} {b : Nat} {f : Addr} {n0 : List (Addr × Obj)} {args : List Value} {gv : Prop} {v : Value} {rs : Int → Prop} (hD : D w b f n0 args (OV gv v rs))
    {p : Program} {loose : List Str} {mean : ExcName → Option Value} {mg mb : Str → Option Value} {dp un : Nat} {gd : Option (List Code)} {cn : Str} {cs : Scope} {a : Addr} {ccd : Value} {cl : List (Str × Addr)} {outer : List Env} {A₀ : Around} {base h₀ : Heap} {L : Addr} {m : Str → Option Value} {news : List (Addr × Obj)} {s : Shared} {Q E : Value → Shared → Prop}
    (S : ∀ q ∈ n0, q ∈ news) (B : Below A₀ base outer h₀) (F : Fr h₀ L s.heap m) (X : (KF w.params).In h₀) (N : News h₀ L s.heap news) (T : Top p loose mean mg mb h₀) (hk : cs.kind = .function) (hd : dp < b)
    (rq : ∀ h' tk', gv → Fr h₀ L h' m → News h₀ L h' news → Q v { s with heap := h', toks := tk' })
    (re : ∀ n G e Dd oD xx vv u h' tk', rs n → Fr h₀ L G m → RaisedX base G (envX cn cs L a ccd cl :: outer) e Dd ((Dd, oD) :: news) h' → G.UpToSlots h' → HasNs oD (mExc n u xx vv) → E (.ref e) { s with heap := h', toks := tk' }) :
    wpAny (model PySem.Challenge.rw_rh0230_01.row.prog w) (ktrTop dp un gd cn cs L a ccd cl outer) (call (.ref f) args) Q E s :=
  hD.use S B F X N T hk hd (fun r ext h' tk' g F' N' => by obtain ⟨g1, rfl, rfl⟩ := g; exact rq h' tk' g1 F' N') re
theorem NI.use {w : World} {b : Nat} {n0 : List (Addr × Obj)} {nm hk part : Addr} {t3 t4 : Tok} {gv : Prop} {kd : Str} {ow ky : Value} {rs : Int → Prop} (hD : NI w b n0 nm hk (ONR w n0 gv kd ow ky rs))
    {p : Program} {loose : List Str} {mean : ExcName → Option Value} {mg mb : Str → Option Value} {dp un : Nat} {gd : Option (List Code)} {cn : Str} {cs : Scope} {a : Addr} {ccd : Value} {cl : List (Str × Addr)} {outer : List Env} {A₀ : Around} {base h₀ : Heap} {L : Addr} {m : Str → Option Value} {news : List (Addr × Obj)} {s : Shared} {Q E : Value → Shared → Prop}
    (S : ∀ q ∈ n0, q ∈ news) (hp : (part, tup [.str (Str.ofString "unary") t3, .str (Str.ofString "$") t4, .ref nm]) ∈ news) (B : Below A₀ base outer h₀) (F : Fr h₀ L s.heap m) (X : (KF w.params).In h₀) (N : News h₀ L s.heap news) (T : Top p loose mean mg mb h₀) (hkk : cs.kind = .function) (hd : dp < b)
    (rq : ∀ x dx q1 q2 q3 kt ext h' tk', gv → (x, instObj 110 dx) ∈ ext ++ n0 → (dx, nrDict w q1 q2 q3 kt kd ow ky) ∈ ext ++ n0 → (x, instObj 110 dx) ∈ ext ++ news → (dx, nrDict w q1 q2 q3 kt kd ow ky) ∈ ext ++ news → Fr h₀ L h' m → News h₀ L h' (ext ++ news) → Q (.ref x) { s with heap := h', toks := tk' })
    (re : ∀ n G e Dd oD xx vv u h' tk', rs n → Fr h₀ L G m → RaisedX base G (envX cn cs L a ccd cl :: outer) e Dd ((Dd, oD) :: news) h' → G.UpToSlots h' → HasNs oD (mExc n u xx vv) → E (.ref e) { s with heap := h', toks := tk' }) :
    wpAny (model PySem.Challenge.rw_rh0230_01.row.prog w) (ktrTop dp un gd cn cs L a ccd cl outer) (call (.ref 388) [.ref part, .ref hk]) Q E s :=
  (hD.go part t3 t4 news S hp).use (fun q h => h) B F X N T hkk hd (fun r ext h' tk' g F' N' => by
    obtain ⟨g1, x, dx, q1, q2, q3, kt, rfl, e1, e2⟩ := g
    exact rq x dx q1 q2 q3 kt ext h' tk' g1 e1 e2 (mem_ext e1 S) (mem_ext e2 S) F' N') re
theorem fin_g {O : Out} {h₀ h' : Heap} {L : Addr} {m : Str → Option Value} {ledger news : List (Addr × Obj)} {tk' : Tok} {v : Value} {s : Shared} {Q : Value → Shared → Prop}
    (rq : ∀ v ext h' tk', O.gives v ext → Fr h₀ L h' m → News h₀ L h' (ext ++ news) → Q v { s with heap := h', toks := tk' })
    (F : Fr h₀ L h' m) (N : News h₀ L h' ledger) (hs : ∀ q ∈ news, q ∈ ledger) (hg : O.gives v ledger) : Q v { s with heap := h', toks := tk' } :=
  rq v ledger h' tk' hg F (fun p hp => by
    rcases List.mem_append.mp hp with hp | hp
    · exact N _ hp
    · exact N _ (hs _ hp))
def OPc (w : World) (nB : List (Addr × Obj)) (gv : Prop) (kd : Str) (ow ky : Value) (rs : Int → Prop) : Out :=
  ⟨fun r ext => gv ∧ ∃ z dz nd q0 q4 x dx q1 q2 q3 kt, r = .ref z ∧ (z, instObj 68 dz) ∈ ext ++ nB ∧ (dz, dictOf [ent w (Str.ofString "node") q0 (.ref nd)] 1) ∈ ext ++ nB ∧ (nd, tup [.str (Str.ofString "cursor") q4, .ref x]) ∈ ext ++ nB ∧ (x, instObj 110 dx) ∈ ext ++ nB ∧ (dx, nrDict w q1 q2 q3 kt kd ow ky) ∈ ext ++ nB, rs⟩
def OPl (w : World) (nB : List (Addr × Obj)) (gv : Prop) (tag : Str) (kd : Str) (ow ky : Value) (rs : Int → Prop) : Out :=
  ⟨fun r ext => gv ∧ ∃ z dz nd ch q0 q4 q5 q6 x dx q1 q2 q3 kt, r = .ref z ∧ (z, instObj 68 dz) ∈ ext ++ nB ∧ (dz, dictOf [ent w (Str.ofString "node") q0 (.ref nd)] 1) ∈ ext ++ nB ∧ (nd, tup [.str tag q4, .ref ch, .ref x]) ∈ ext ++ nB ∧ (ch, tup [.str (Str.ofString "chars") q5, .str (Str.ofString "ab") q6]) ∈ ext ++ nB ∧ (x, instObj 110 dx) ∈ ext ++ nB ∧ (dx, nrDict w q1 q2 q3 kt kd ow ky) ∈ ext ++ nB, rs⟩
def OFl (gv : Prop) (rs : Int → Prop) : Out := ⟨fun r ext => gv ∧ ∃ z dz es ne, r = .ref z ∧ (z, instObj 47 dz) ∈ ext ∧ (dz, dictOf es ne) ∈ ext, rs⟩
def ODl (w : World) (x : Value) : Out := ⟨fun r ext => ∃ z dz q0, r = .ref z ∧ (z, instObj 89 dz) ∈ ext ∧ (dz, dictOf [ent w (Str.ofString "tree") q0 x] 1) ∈ ext, no⟩
theorem glue_t : Str.ofString "ab" ++ Str.ofString "t" = Str.ofString "abt" := by decide +kernel
theorem glue_5 : Str.ofString "ab" ++ Str.ofString "5" = Str.ofString "ab5" := by decide +kernel
theorem arr0 (x y : Value) : ((#[].push x).push y)[(0 : Int).toNat]? = some x := rfl
theorem arr1 (x y : Value) : ((#[].push x).push y)[(1 : Int).toNat]? = some y := rfl
theorem arrS (x : Value) : (#[].push x)[(0 : Int).toNat]? = some x := rfl
theorem ne_of_all {l : List (Addr × Obj)} {I : Addr} {p : Addr × Obj} (h : ∀ q ∈ l, q.1 < I) (hm : p ∈ l) : p.1 ≠ I := Nat.ne_of_lt (h p hm)
theorem endW {h₀ : Heap} {L : Addr} {s₁ : Shared} {I : Addr} {o : Obj} {rest : (Str → Option Value) → List (Addr × Obj) → Prop} {h' : Heap} {tk : Tok} {m' : Str → Option Value} {all news' : List (Addr × Obj)}
    (F : Fr h₀ L h' m') (N : News h₀ L h' all) (hI : (I, o) ∈ all) (sub : ∀ q ∈ news', q ∈ all) (ne : ∀ p ∈ news', p.1 ≠ I) (r : rest m' news') : UnrEndW h₀ L s₁ [(I, o)] rest { s₁ with heap := h', toks := tk } := by
  refine ⟨h', tk, m', news', rfl, F, ?_, ?_, r⟩
  · intro p hp
    rcases List.mem_append.mp hp with hp | hp
    · rcases List.mem_cons.mp hp with e | hp
      · rw [e]; exact N _ hI
      · cases hp
    · exact N _ (sub _ hp)
  · intro p hp q hq
    rcases List.mem_cons.mp hq with e | hq
    · rw [e]; exact ne p hp
    · cases hq
theorem endA {h₀ : Heap} {L : Addr} {s₁ : Shared} {I : Addr} {o : Obj} {rest : (Str → Option Value) → List (Addr × Obj) → Prop} {h' : Heap} {tk : Tok} {m' : Str → Option Value} {R : List (Addr × Obj)}
    (F : Fr h₀ L h' m') (N : News h₀ L h' ((I, o) :: R)) (ne : ∀ p ∈ R, p.1 ≠ I) (r : rest m' R) : UnrEndW h₀ L s₁ [(I, o)] rest { s₁ with heap := h', toks := tk } :=
  endW F N (.head _) (fun _ h => .tail _ h) ne r
theorem endB {h₀ : Heap} {L : Addr} {s₁ : Shared} {I : Addr} {o : Obj} {a : Addr × Obj} {rest : (Str → Option Value) → List (Addr × Obj) → Prop} {h' : Heap} {tk : Tok} {m' : Str → Option Value} {R : List (Addr × Obj)}
    (F : Fr h₀ L h' m') (N : News h₀ L h' (a :: (I, o) :: R)) (ne : ∀ p ∈ a :: R, p.1 ≠ I) (r : rest m' (a :: R)) : UnrEndW h₀ L s₁ [(I, o)] rest { s₁ with heap := h', toks := tk } :=
  endW F N (.tail _ (.head _)) (fun q h => by
    rcases List.mem_cons.mp h with e | h
    · rw [e]; exact .head _
    · exact .tail _ (.tail _ h)) ne r
structure DT (w : World) (b : Nat) (n0 : List (Addr × Obj)) (tree hk lg : Addr) (G : Addr → List (Addr × Obj) → Array Value → Prop) : Prop where
  go : ∀ (p : Program) (loose : List Str) (mean : ExcName → Option Value) (mg mb : Str → Option Value) (dp un : Nat) (gd : Option (List Code)) (cn : Str) (cs : Scope) (a : Addr) (ccd : Value) (A₀ : Around) (h₀ : Heap) (L : Addr) (m : Str → Option Value) (news : List (Addr × Obj)) (s : Shared) (Q E : Value → Shared → Prop),
    (∀ q ∈ n0, q ∈ news) → (∀ q ∈ news, q.1 ≠ lg) → Below A₀ h₀ [] h₀ → Fr h₀ L s.heap m → (KF w.params).In h₀ → News h₀ L s.heap ((lg, listOf #[] 0) :: news) → Top p loose mean mg mb h₀ → cs.kind = .function → dp < b →
    (∀ r ext logs k h' tk', G r ext logs → Fr h₀ L h' m → News h₀ L h' (ext ++ (lg, listOf logs k) :: news) → Q (.ref r) { s with heap := h', toks := tk' }) →
    wpAny (model PySem.Challenge.rw_rh0230_01.row.prog w) (ktrTop dp un gd cn cs L a ccd [] []) (call (.ref 409) [.ref tree, .ref hk]) Q E s
def GVal (O : Out) : Addr → List (Addr × Obj) → Array Value → Prop := fun r ext' logs => logs = #[] ∧
  ((∃ v ext tk, O.gives v ext ∧ (∀ q ∈ ext, q ∈ ext') ∧ (r, tup [.str (Str.ofString "value") tk, v]) ∈ ext') ∨ (∃ n tk u, O.raises n ∧ (r, tup [.str (Str.ofString "error") tk, .int n u]) ∈ ext'))
def GFail (O : Out) : Addr → List (Addr × Obj) → Array Value → Prop := fun r ext' logs => logs = #[] ∧
  ((∃ v ext tk, O.gives v ext ∧ (r, tup [.str (Str.ofString "fail") tk, .none]) ∈ ext') ∨ (∃ n tk u, O.raises n ∧ (r, tup [.str (Str.ofString "error") tk, .int n u]) ∈ ext'))
theorem fin_t {G : Addr → List (Addr × Obj) → Array Value → Prop} {lg : Addr} {h₀ h' : Heap} {L : Addr} {m : Str → Option Value} {ledger news : List (Addr × Obj)} {tk' : Tok} {r : Addr} {s : Shared} {Q : Value → Shared → Prop}
    (ret : ∀ r ext logs k h' tk', G r ext logs → Fr h₀ L h' m → News h₀ L h' (ext ++ (lg, listOf logs k) :: news) → Q (.ref r) { s with heap := h', toks := tk' })
    (F : Fr h₀ L h' m) (N : News h₀ L h' ledger) (hl : (lg, listOf #[] 0) ∈ ledger) (hs : ∀ q ∈ news, q ∈ ledger) (hg : G r ledger #[]) : Q (.ref r) { s with heap := h', toks := tk' } :=
  ret r ledger #[] 0 h' tk' hg F (fun p hp => by
    rcases List.mem_append.mp hp with hp | hp
    · exact N _ hp
    · rcases List.mem_cons.mp hp with e | hp
      · rw [e]; exact N _ hl
      · exact N _ (hs _ hp))
theorem item_any {prog : Program} {w : World} {A : Around} {E : Value → Shared → Prop} {s : Shared} {value slice : PySem.Expr} {l : Addr} {items : Array Value} {k : Int} {u : Tok} {Q : Value → Shared → Prop} (hl : s.heap.IsList l items)
    (h0 : 0 ≤ k) (h1 : k < items.size) (hfit : k < 2 ^ 63) (h : ∀ x, items[k.toNat]? = some x → Q x s)
    (hs : subscripted slice false (.ref l) (.int k u) = operate [.ref l, .int k u] (getItem (.ref l) (.int k u)) := by with_unfolding_all rfl) :
    wpAny (model prog w) A (subscriptTail value slice (.ref l) (.int k u)) Q E s := by
  have hk : k.toNat < items.size := by omega
  exact tail_any hl.typeIs slot_list_getitem.lookup (wpAny_getItem_list hl h0 hfit (x := items[k.toNat]) (Array.getElem?_eq_getElem hk) (h _ (Array.getElem?_eq_getElem hk))) hs
def OD (n0 : List (Addr × Obj)) (d : Dat) : Out := ⟨fun r ext => DatIn (ext ++ n0) r d, no⟩
theorem memR {a b : List (Addr × Obj)} : ∀ q ∈ b, q ∈ a ++ b := fun _ h => List.mem_append_right _ h
end Mine
end
section
open PySem PySem.W PyProof.Rows PySem.Calls
set_option linter.unusedVariables false
set_option Elab.async false
set_option maxRecDepth 100000
set_option maxHeartbeats 0
namespace Mine
def ONm (kd : Str) (nv ky : Value) : Out := ⟨fun r ext => ∃ a q1 q2, r = .ref a ∧ (a, tup [.str (Str.ofString "name") q1, .str kd q2, nv, ky]) ∈ ext, no⟩
def OPn2 (tag kd : Str) (nv ky : Value) : Out := ⟨fun r ext => ∃ z nr q0 q1 q2 q3, r = .ref z ∧ (z, tup [.str (Str.ofString "pattern") q0, .str tag q1, .ref nr]) ∈ ext ∧ (nr, tup [.str (Str.ofString "name") q2, .str kd q3, nv, ky]) ∈ ext, no⟩
def OPn3 (tag : Str) (ch : Addr) (kd : Str) (nv ky : Value) : Out := ⟨fun r ext => ∃ z nr q0 q1 q2 q3, r = .ref z ∧ (z, tup [.str (Str.ofString "pattern") q0, .str tag q1, .ref ch, .ref nr]) ∈ ext ∧ (nr, tup [.str (Str.ofString "name") q2, .str kd q3, nv, ky]) ∈ ext, no⟩
theorem ONm.dat {kd : Str} {nv ky r : Value} {ext n0 : List (Addr × Obj)} {d e : Dat} (h : (ONm kd nv ky).gives r ext) (hd : DatIn (ext ++ n0) nv d) (he : DatIn (ext ++ n0) ky e) : DatIn (ext ++ n0) r (.tuple [.str (Str.ofString "name"), .str kd, d, e]) := by
  obtain ⟨a, q1, q2, rfl, hm⟩ := h
  exact .tuple (List.mem_append_left _ hm) (.cons (.str _ _) (.cons (.str _ _) (.cons hd (.cons he .nil))))
section
variable {prog : Program} {w : World} {A : Around} {E : Value → Shared → Prop} {s : Shared} {h₀ : Heap} {L : Addr} {a b : Value} {news n₁ n₂ : List (Addr × Obj)} {d : Dat} {Q : Value → Shared → Prop}
theorem dat_eq (N : News h₀ L s.heap news) (Da : DatIn n₁ a d) (sa : ∀ p ∈ n₁, p ∈ news) (Db : DatIn n₂ b d) (sb : ∀ p ∈ n₂, p ∈ news) (hd : kqdOk 8 d = true) (hu : A.units + 64 < cLine) (h : Q (.bool true) s) : wpAny (model prog w) A (compareOp .Eq a b) Q E s := by
  obtain ⟨as, ra⟩ := kqd_in N 8 (Da.mono sa) hd
  obtain ⟨bs, rb⟩ := kqd_in N 8 (Db.mono sb) hd
  have la := kqd_lay 8 d hd
  have e : PyData.eqv (kqdP d) (kqdP d) = true := (kqd_eqv 8 d d 8 hd hd).mpr rfl
  refine eq_dataH ra rb ?_ ?_ hu (by rw [e]; exact h)
  · unfold SeqAt.shaped; rw [la.1, Bool.true_and]; exact decide_eq_true (Nat.le_trans la.2 (by decide))
  · unfold SeqAt.shaped; rw [la.1, Bool.true_and]; exact decide_eq_true (Nat.le_trans la.2 (by decide))
end
end Mine
end
section
open PySem PySem.W PyProof.Rows PySem.Calls PySem.Spec
open PyProof.Rows.LCg
set_option linter.unusedVariables false
set_option Elab.async false
set_option maxRecDepth 100000
set_option maxHeartbeats 0
namespace Mine
def TupSrc (tp : Addr) (its : Array Value) (news : List (Addr × Obj)) : Prop := ∃ k, (tp, ({ cls := .type "tuple", data := .seq its k } : Obj)) ∈ news
theorem TupSrc.tup {h₀ h : Heap} {L ax : Addr} {its : Array Value} {news : List (Addr × Obj)} (x : TupSrc ax its news) (N : News h₀ L h news) : h.IsTuple ax its :=
  let ⟨k, hm⟩ := x; ⟨_, (N _ hm).1, rfl, k, rfl⟩
theorem tup_st {h₀ : Heap} {L ax I : Addr} {its : Array Value} : ∀ i (h h' : Heap) (o : Obj) (nw : List (Addr × Obj)), (h.IsTupleIter I ax i ∧ h.IsTuple ax its) → h.get? I = some o → h'.get? I = some o → (∀ b o, h₀.get? b = some o → h'.get? b = some o) → News h₀ L h' nw → TupSrc ax its nw → (h'.IsTupleIter I ax i ∧ h'.IsTuple ax its) :=
  fun i h h' o nw st e e' k N S => ⟨by obtain ⟨o', q, r⟩ := st.1; rw [e] at q; cases q; exact ⟨o, e', r⟩, S.tup N⟩
section
variable {prog : Program} {w : World} {A : Around} {E : Value → Shared → Prop} {s : Shared} {h₀ : Heap} {L : Addr} {m : Str → Option Value} {env : Env}
def CTup (prog : Program) (w : World) (A : Around) (h₀ : Heap) (L : Addr) (m : Str → Option Value) (env : Env) (elt : Expr) (x : Str) (scope : Scope) (cl : List (Str × Addr)) (Q : Value → Shared → Prop) (xv : Value) (s₁ : Shared) : Prop :=
  ∃ ax its news, xv = .ref ax ∧ A.handled = none ∧ Fr h₀ L s₁.heap m ∧ News h₀ L s₁.heap news ∧ TupSrc ax its news ∧ its.size ≤ sizeLine ∧
    ∀ g : Heap, CompRest prog w A h₀ L m env elt x scope cl { s₁ with heap := g } (TupSrc ax its) (fun i v => its[i]? = some v) (FinE h₀ L m { s₁ with heap := g } Q) its.size 0 [] news
theorem ListComp_tup {elt iter : Expr} {x : Str} {px : Pos} {scope : Scope} {cl : List (Str × Addr)} {pos : Pos} {Q : Value → Shared → Prop} (F₀ : Fr h₀ L s.heap m)
    (hclos : closureFor scope env = pure cl) (hcell : ∀ y ∈ scope.names, y.2 ≠ .cell) (hkind : scope.kind = .function)
    (hnames : ∀ y ∈ scope.names, y.2 = .local → scope.names.lookup y.1 = some .local) (hx : scope.names.lookup x = some .local)
    (h : wpAny (model prog w) A (eval iter env) (CTup prog w A h₀ L m env elt x scope cl Q) E s)
    (hs : ∀ x, foldedSetIterable iter env x = pure x := by intro _; rfl) :
    wpAny (model prog w) A (eval (.ListComp elt [⟨.Name x px, iter, [], 0⟩] scope pos) env) Q E s := by
  rw [eval_ListComp]
  refine wpAny_comprehension_free (use := none) rfl hs hclos hkind hnames (wpAny_mono h (fun xv s₁ h₁ => ?_) fun _ _ e => e)
  obtain ⟨ax, its, news, rfl, hh, F, N, S, hsz, R⟩ := h₁
  have hl := S.tup N
  have hlt : ax < s₁.heap.objs.size := by obtain ⟨_, e, _⟩ := hl; exact Heap.lt_size e
  refine wpAny_pyIter_tuple hl ?_
  have up : ∀ b o, s₁.heap.get? b = some o → (s₁.heap.push { cls := .type "tuple_iterator", data := .fields #[.ref ax, .int 0 0] }).get? b = some o := fun b o e => Heap.get?_push_of_some _ e
  refine block_U (Walks.tuple hh s₁.heap.objs.size ax (Nat.ne_of_lt hlt) its) hsz (fun i h st => by obtain ⟨o, e, _⟩ := st.1; exact ⟨o, e⟩) tup_st hcell hkind hx ⟨⟨_, Heap.get?_push_size _ rfl, rfl, rfl⟩, hl.push _⟩ (fun b hb => ?_)
    (F.keeps up) (N.grown up) (Nat.ne_of_lt F.ns.lt) (next_is_new F) (fun p hp => Nat.ne_of_lt (Heap.lt_size (N p hp).1)) S (R _) ?_
  · show b < (s₁.heap.push _).objs.size
    rw [Heap.size_push]
    rcases List.mem_cons.mp hb with rfl | hb
    · exact Nat.lt_succ_self _
    · rw [List.mem_singleton.mp hb]; exact Nat.lt_succ_of_lt hlt
  · intro D C h tk m' ys news' F' N' o1 hn hC₀ hD₀ hCL hDL hCD offC fin
    refine ⟨m', hn, fun h'' hs'' => fin D h'' tk (F'.change hs'' hCL hC₀) (fun p hp => ?_) o1⟩
    refine ⟨hs''.extBut _ _ ?_ (N' p hp).1, (N' p hp).2⟩
    rcases List.mem_cons.mp hp with rfl | hp
    · exact Ne.symm hCD
    · exact offC p hp
end
structure DN (w : World) (b : Nat) (n0 : List (Addr × Obj)) (x : Addr) (kd : Str) (nv ky : Value) : Prop where
  go : ∀ (p : Program) (loose : List Str) (mean : ExcName → Option Value) (mg mb : Str → Option Value) (dp un : Nat) (gd : Option (List Code)) (cn : Str) (cs : Scope) (a : Addr) (ccd : Value) (cl : List (Str × Addr)) (outer : List Env) (A₀ : Around) (base h₀ : Heap) (L : Addr) (m : Str → Option Value) (news : List (Addr × Obj)) (s : Shared) (Q E : Value → Shared → Prop),
    (∀ q ∈ n0, q ∈ news) → Below A₀ base outer h₀ → Fr h₀ L s.heap m → (KF w.params).In h₀ → News h₀ L s.heap news → Top p loose mean mg mb h₀ → cs.kind = .function → dp < b →
    (∀ r q1 q2 h' tk', Fr h₀ L h' m → News h₀ L h' ((r, tup [.str (Str.ofString "name") q1, .str kd q2, nv, ky]) :: news) → (∀ p ∈ news, p.1 < r) → Q (.ref r) { s with heap := h', toks := tk' }) →
    wpAny (model PySem.Challenge.rw_rh0230_01.row.prog w) (ktrTop dp un gd cn cs L a ccd cl outer) (call (.ref 428) [.ref x]) Q E s
theorem DN.toD {w : World} {b : Nat} {n0 : List (Addr × Obj)} {x : Addr} {kd : Str} {nv ky : Value} (h : DN w b n0 x kd nv ky) : D w b 428 n0 [.ref x] (ONm kd nv ky) :=
  ⟨fun p loose mean mg mb dp un gd cn cs a ccd cl outer A₀ base h₀ L m news s Q E S B F X N T hk hd rq re =>
    h.go p loose mean mg mb dp un gd cn cs a ccd cl outer A₀ base h₀ L m news s Q E S B F X N T hk hd fun r q1 q2 h' tk' F' N' _ =>
      rq _ [_] h' tk' ⟨r, q1, q2, rfl, .head _⟩ F' N'⟩
theorem DN.use {w : World} {b : Nat} {n0 : List (Addr × Obj)} {x : Addr} {kd : Str} {nv ky : Value} (h : DN w b n0 x kd nv ky)
    {p : Program} {loose : List Str} {mean : ExcName → Option Value} {mg mb : Str → Option Value} {dp un : Nat} {gd : Option (List Code)} {cn : Str} {cs : Scope} {a : Addr} {ccd : Value} {cl : List (Str × Addr)} {outer : List Env} {A₀ : Around} {base h₀ : Heap} {L : Addr} {m : Str → Option Value} {news : List (Addr × Obj)} {s : Shared} {Q E : Value → Shared → Prop}
    (S : ∀ q ∈ n0, q ∈ news) (B : Below A₀ base outer h₀) (F : Fr h₀ L s.heap m) (X : (KF w.params).In h₀) (N : News h₀ L s.heap news) (T : Top p loose mean mg mb h₀) (hk : cs.kind = .function) (hd : dp < b)
    (ret : ∀ r q1 q2 h' tk', Fr h₀ L h' m → News h₀ L h' ((r, tup [.str (Str.ofString "name") q1, .str kd q2, nv, ky]) :: news) → (∀ p ∈ news, p.1 < r) → Q (.ref r) { s with heap := h', toks := tk' }) :
    wpAny (model PySem.Challenge.rw_rh0230_01.row.prog w) (ktrTop dp un gd cn cs L a ccd cl outer) (call (.ref 428) [.ref x]) Q E s :=
  h.go p loose mean mg mb dp un gd cn cs a ccd cl outer A₀ base h₀ L m news s Q E S B F X N T hk hd ret
theorem comp_a {h₀ : Heap} {L : Addr} {m : Str → Option Value} {s₁ : Shared} {I C D : Addr} {oI oC oD : Obj} {S : List (Addr × Obj) → Prop} {rest : Value → List (Addr × Obj) → Prop} {y : Value} {h' : Heap} {tk : Nat} {news : List (Addr × Obj)}
    (F : Fr h₀ L h' m) (N : News h₀ L h' ((I, oI) :: (C, oC) :: (D, oD) :: news)) (off : Off3 I C D news) (hS : S news) (r : rest y news) :
    CompEnd h₀ L m s₁ I oI C oC D oD S rest y { s₁ with heap := h', toks := tk } := CompEnd.intro F N news (fun _ h => h) off hS r
theorem comp_b {h₀ : Heap} {L : Addr} {m : Str → Option Value} {s₁ : Shared} {I C D a : Addr} {oI oC oD oa : Obj} {S : List (Addr × Obj) → Prop} {rest : Value → List (Addr × Obj) → Prop} {y : Value} {h' : Heap} {tk : Nat} {news : List (Addr × Obj)}
    (F : Fr h₀ L h' m) (N : News h₀ L h' ((a, oa) :: (I, oI) :: (C, oC) :: (D, oD) :: news)) (l : ∀ p ∈ (I, oI) :: (C, oC) :: (D, oD) :: news, p.1 < a) (off : Off3 I C D news) (hS : S ((a, oa) :: news)) (r : rest y ((a, oa) :: news)) :
    CompEnd h₀ L m s₁ I oI C oC D oD S rest y { s₁ with heap := h', toks := tk } :=
  CompEnd.intro F N ((a, oa) :: news) (fun p hp => by
    rcases List.mem_cons.mp hp with e | hp
    · rw [e]; exact .tail _ (.head _)
    rcases List.mem_cons.mp hp with e | hp
    · rw [e]; exact .tail _ (.tail _ (.head _))
    rcases List.mem_cons.mp hp with e | hp
    · rw [e]; exact .tail _ (.tail _ (.tail _ (.head _)))
    rcases List.mem_cons.mp hp with e | hp
    · rw [e]; exact .head _
    · exact .tail _ (.tail _ (.tail _ (.tail _ hp)))) ⟨⟨Nat.ne_of_gt (l _ (.head _)), Nat.ne_of_gt (l _ (.tail _ (.head _))), Nat.ne_of_gt (l _ (.tail _ (.tail _ (.head _))))⟩, off⟩ hS r
end Mine
end
section
open PySem PySem.W PyProof.Rows PySem.Calls PySem.Spec
set_option linter.unusedVariables false
set_option Elab.async false
set_option maxRecDepth 100000
set_option maxHeartbeats 0
namespace Mine
def nodeD (nm : Dat) (f : Int) : Dat := if f = 1 then nm else if f = 2 then .tuple [.str (Str.ofString "pattern"), .str (Str.ofString "cursor"), nm]
  else .tuple [.str (Str.ofString "pattern"), .str (Str.ofString (if f = 3 then "later" else "now")), .tuple [.str (Str.ofString "chars"), .str (Str.ofString "ab")], nm]
theorem nodeD_1 (nm : Dat) : nodeD nm 1 = nm := rfl
theorem nodeD_2 (nm : Dat) : nodeD nm 2 = .tuple [.str (Str.ofString "pattern"), .str (Str.ofString "cursor"), nm] := rfl
theorem nodeD_3 (nm : Dat) : nodeD nm 3 = .tuple [.str (Str.ofString "pattern"), .str (Str.ofString "later"), .tuple [.str (Str.ofString "chars"), .str (Str.ofString "ab")], nm] := rfl
theorem nodeD_4 (nm : Dat) : nodeD nm 4 = .tuple [.str (Str.ofString "pattern"), .str (Str.ofString "now"), .tuple [.str (Str.ofString "chars"), .str (Str.ofString "ab")], nm] := rfl
section
variable {x y : Int} {P R : Prop}
theorem ieq_t (h : x = y) (q : P) : if (x == y) = true then P else R := by rw [if_pos (beq_iff_eq.mpr h)]; exact q
theorem ieq_f (h : x ≠ y) (q : R) : if (x == y) = true then P else R := by rw [if_neg (fun e => h (beq_iff_eq.mp e))]; exact q
theorem dec_t {c : Prop} [Decidable c] (h : c) (q : P) : if decide c = true then P else R := by rw [if_pos (decide_eq_true h)]; exact q
theorem dec_f {c : Prop} [Decidable c] (h : ¬ c) (q : R) : if decide c = true then P else R := by rw [if_neg (fun e => h (of_decide_eq_true e))]; exact q
end
def exD : Expr := .Constant .none 0 ⟨0, 0, 0, 0⟩
def valOf : Stmt → Expr | .Assign (value := v) .. => v | _ => exD
def argsOf : Expr → List Expr | .Call (args := v) .. => v | _ => []
def valsOf : Expr → List Expr | .Dict (values := v) .. => v | _ => []
noncomputable def lamE : Expr := ((valsOf (((argsOf (valOf (((fnB (stAt 56))[4]?).getD (.Pass ⟨0, 0, 0, 0⟩))))[1]?).getD exD))[0]?).getD exD
def lamAO : Expr → Arguments | .Lambda (args := v) .. => v | _ => default
def lamBO : Expr → Expr | .Lambda (body := v) .. => v | _ => exD
def lamSO : Expr → Scope | .Lambda (scope := v) .. => v | _ => default
end Mine
end
section
open PySem PySem.W PyProof.Rows PySem.Calls PySem.Spec

open PySem.Builtin
set_option linter.unusedVariables false
set_option Elab.async false
set_option maxRecDepth 100000
set_option maxHeartbeats 0
namespace Mine
section
variable {A : Around} {E : Value → Shared → Prop} {h : Heap} {g : Array GenState} {d : Drawn} {t : Nat} {os : OsState}
variable {nm q : Str} {C N x : Addr} {bs bm : List Value} {hdct : Bool} {sn : List Str} {sub : List Value} {ab : Bool} {col : Option Bool} {dd : Option Addr} {k0 k1 k2 k3 k5 : Option Value} {B newId : String} {o : Obj} {y : Str} {u : Tok}
theorem objEq_str {M : Model} {s : Shared} {Q : PySem.Fin → Shared → Prop} (hq : Q (.done (.ret .notImplemented)) s) : wpAny M A (Builtin.«object.__eq__» ⟨[.ref x, .str y u], []⟩) Q E s := by
  unfold Builtin.«object.__eq__»
  repeat (first | with_reducible refine wpAny_isSame_plain (by rfl) ?_ | wp_step)
  exact hq
theorem strEq_ref {M : Model} {Q : PySem.Fin → Shared → Prop} (hx : h.get? x = some o) (hc : o.cls = .ref C)
    (hC : h.get? C = some (excClassObj nm q C N bs bm hdct sn sub ab col dd k0 k1 k2 k3 k5 newId)) (hcon : (Value.ref C :: bm).contains (.type "str") = false)
    (hnp : ∀ s t, o.data ≠ .prim (.str s t)) (hq : Q (.done (.ret .notImplemented)) ⟨h, g, d, t, os⟩) : wpAny M A (Builtin.«str.__eq__» ⟨[.str y u, .ref x], []⟩) Q E ⟨h, g, d, t, os⟩ := by
  unfold Builtin.«str.__eq__» Builtin.Str.strCompare
  repeat (first | (with_reducible refine wpAny_loadPart_at hx ?_; rw [hc]) | (with_reducible refine wpAny_isSubtype_exc hC ?_; rw [hcon]) | wp_step)
  split
  · rename_i e; exact absurd e (hnp _ _)
  repeat wp_step
  exact hq
end
section
variable {prog : Program} {w : World} {A : Around} {E : Value → Shared → Prop} {s : Shared} {h₀ : Heap} {L x C Nn fI : Addr} {m : Str → Option Value} {news : List (Addr × Obj)} {K : Frag} {o : Obj} {y : Str} {u : Tok}
theorem eq_inst_str {Q : Value → Shared → Prop} (hu : A.units < cLine) (F : Fr h₀ L s.heap m) (X₀ : K.In h₀) (N : News h₀ L s.heap news) (hm : (x, o) ∈ news) (hc : o.cls = .ref C) (hnp : ∀ s t, o.data ≠ .prim (.str s t))
    (hJ : excJ K C Nn [.type "object"] "object.__new__" fI = true) (he : nsIn K Nn "__eq__" = some none) (hne : nsIn K Nn "__ne__" = some none) (hq : Q (.bool false) s) :
    wpAny (model prog w) A (compareOp .Eq (.ref x) (.str y u)) Q E s := by
  obtain ⟨nm, qn, bs, sn, sub, ab, col, dd, k0, k1, k2, k3, k5, mN, oI, hC0, hn0, hi, hfI, hfc⟩ := excJ_of X₀ hJ
  have hC := F.keep _ _ hC0
  have hn : s.heap.Ns Nn mN := let ⟨o, es, ep, e, r⟩ := hn0; ⟨o, es, ep, F.keep _ _ e, r⟩
  have X := X₀.keeps F.keep
  have hx := (N _ hm).1
  have FB := PySem.F.cmp_object
  have e1 := ns_none_of X hn he
  have e2 := ns_none_of X hn hne
  obtain ⟨h, g, d, t, os⟩ := s
  have one : ∀ {Q : Option Value → Shared → Prop}, Q none ⟨h, g, d, t, os⟩ → wpAny (model prog w) A (tryCompare (.ref x) "__eq__" (.str y u)) Q E ⟨h, g, d, t, os⟩ := fun hq => by
    simp only [tryCompare]
    refine wpAny_bind (wpAny_callSpecialIfBound?_inst hx hc hC hn e1 FB.mro FB.eq (wpAny_call (codeAny_call_builtin FB.eq.plain PySem.F.cmpEntry_eq (wpAny_check_slot_inst PySem.F.cmpKind_eq PySem.F.cmpSplit_eq (PySem.F.cmpArgs_eq _ _) FB.hasObject hx hc hC (objEq_str ?_)))))
    exact wpAny_pure hq
  have two : ∀ {Q : Option Value → Shared → Prop}, Q none ⟨h, g, d, t, os⟩ → wpAny (model prog w) A (tryCompare (.str y u) "__eq__" (.ref x)) Q E ⟨h, g, d, t, os⟩ := fun hq => by
    refine wpAny_tryCompare_declines (typeIs_str _ y u) PySem.F.slot_str_eq_refl (wpAny_call_entry PySem.F.slot_str_eq_refl (typeIs_str _ y u) PySem.F.entry_str_eq ?_ (PySem.F.args_str_eq_2 _ _))
    exact strEq_ref hx hc hC (by rfl) hnp ⟨_, rfl, rfl, hq⟩
  show wpAny _ A (richCompare .Eq _ _) Q E _
  unfold richCompare
  simp only [cmpInfo_Eq, oneThing_ref]
  have sub : isSubtype (.type "str") (.ref C) = pure false := by rw [isSubtype_type]; rfl
  repeat (first | with_reducible refine wpAny_cRoomFor hu ?_ | (with_reducible refine wpAny_loadPart_at hx ?_; rw [hc]) | with_reducible refine one ?_ | with_reducible refine two ?_ | with_reducible refine wpAny_isSame_plain (by rfl) ?_ | wp_step)
  exact hq
end
theorem hJ110 (w : World) : excJ (KF w.params) 110 109 [.type "object"] "object.__new__" 107 = true := by kernel_rfl
theorem he110 (w : World) : nsIn (KF w.params) 109 "__eq__" = some none := by kernel_rfl
theorem hn110 (w : World) : nsIn (KF w.params) 109 "__ne__" = some none := by kernel_rfl
theorem eq_nr_str {prog : Program} {w : World} {A : Around} {E : Value → Shared → Prop} {s : Shared} {h₀ : Heap} {L x dx : Addr} {m : Str → Option Value} {news : List (Addr × Obj)} {y : Str} {u : Tok} {Q : Value → Shared → Prop}
    (hm : (x, instObj 110 dx) ∈ news) (hu : A.units < cLine) (F : Fr h₀ L s.heap m) (X₀ : (KF w.params).In h₀) (N : News h₀ L s.heap news) (hq : Q (.bool false) s) :
    wpAny (model prog w) A (compareOp .Eq (.ref x) (.str y u)) Q E s :=
  eq_inst_str hu F X₀ N hm rfl (fun _ _ e => by cases e) (hJ110 w) (he110 w) (hn110 w) hq
structure DU (w : World) (b : Nat) (n0 : List (Addr × Obj)) (args : List Value) (O : Out) : Prop where
  go : ∀ (p : Program) (loose : List Str) (mean : ExcName → Option Value) (mg mb : Str → Option Value) (dp un : Nat) (gd : Option (List Code)) (cn : Str) (cs : Scope) (a : Addr) (ccd : Value) (cl : List (Str × Addr)) (outer : List Env) (A₀ : Around) (base h₀ : Heap) (L : Addr) (m : Str → Option Value) (news : List (Addr × Obj)) (s : Shared) (Q E : Value → Shared → Prop),
    (∀ q ∈ n0, q ∈ news) → Below A₀ base outer h₀ → Fr h₀ L s.heap m → (KF w.params).In h₀ → News h₀ L s.heap news → Top p loose mean mg mb h₀ → cs.kind = .function → dp < b → un < 1000 →
    (∀ v ext h' tk', O.gives v ext → Fr h₀ L h' m → News h₀ L h' (ext ++ news) → Q v { s with heap := h', toks := tk' }) →
    wpAny (model PySem.Challenge.rw_rh0230_01.row.prog w) (ktrTop dp un gd cn cs L a ccd cl outer) (call (.ref 435) args) Q E s
theorem DU.use {w : World} {b : Nat} {n0 : List (Addr × Obj)} {args : List Value} {O : Out} (hD : DU w b n0 args O)
    {p : Program} {loose : List Str} {mean : ExcName → Option Value} {mg mb : Str → Option Value} {dp un : Nat} {gd : Option (List Code)} {cn : Str} {cs : Scope} {a : Addr} {ccd : Value} {cl : List (Str × Addr)} {outer : List Env} {A₀ : Around} {base h₀ : Heap} {L : Addr} {m : Str → Option Value} {news : List (Addr × Obj)} {s : Shared} {Q E : Value → Shared → Prop}
    (S : ∀ q ∈ n0, q ∈ news) (B : Below A₀ base outer h₀) (F : Fr h₀ L s.heap m) (X : (KF w.params).In h₀) (N : News h₀ L s.heap news) (T : Top p loose mean mg mb h₀) (hk : cs.kind = .function) (hd : dp < b) (hun : un < 1000)
    (rq : ∀ v ext h' tk', O.gives v ext → Fr h₀ L h' m → News h₀ L h' (ext ++ news) → Q v { s with heap := h', toks := tk' }) :
    wpAny (model PySem.Challenge.rw_rh0230_01.row.prog w) (ktrTop dp un gd cn cs L a ccd cl outer) (call (.ref 435) args) Q E s :=
  hD.go p loose mean mg mb dp un gd cn cs a ccd cl outer A₀ base h₀ L m news s Q E S B F X N T hk hd hun rq
def dueV (dv : Dat) (f : Int) : Dat := if f = 7 then .tuple [.tuple [.str (Str.ofString "fail"), .none], .list []] else .tuple [.tuple [.str (Str.ofString "value"), dv], .list (if f = 6 then [.tuple [.str (Str.ofString "F"), .int 1]] else [])]
theorem dueV_0 (dv : Dat) : dueV dv 0 = .tuple [.tuple [.str (Str.ofString "value"), dv], .list []] := rfl
theorem dueV_6 (dv : Dat) : dueV dv 6 = .tuple [.tuple [.str (Str.ofString "value"), dv], .list [.tuple [.str (Str.ofString "F"), .int 1]]] := rfl
theorem dueV_7 (dv : Dat) : dueV dv 7 = .tuple [.tuple [.str (Str.ofString "fail"), .none], .list []] := rfl
theorem sne_t {x y : Str} {P R : Prop} (h : x ≠ y) (q : P) : if (x != y) = true then P else R := by rw [if_pos (bne_iff_ne.mpr h)]; exact q
def OVP (gv : Prop) (P : Value → Prop) (rs : Int → Prop) : Out := ⟨fun y ext => gv ∧ ext = [] ∧ P y, rs⟩
def GCall (gv : Prop) (v : Value) (rs : Int → Prop) : Addr → List (Addr × Obj) → Array Value → Prop := fun r ext logs =>
  (gv ∧ ∃ a t1 tk u, logs = #[.ref a] ∧ (a, tup [.str (Str.ofString "F") t1, .int 1 u]) ∈ ext ∧ (r, tup [.str (Str.ofString "value") tk, v]) ∈ ext) ∨ (logs = #[] ∧ ∃ n tk u, rs n ∧ (r, tup [.str (Str.ofString "error") tk, .int n u]) ∈ ext)
def LamOk (w : World) (n : List (Addr × Obj)) (lam : Addr) (v : Value) : Prop := ∀ ls k n1, (∀ q ∈ n, q ∈ n1) → (ls, listOf #[v] k) ∈ n1 → D w 530 lam n1 [.ref ls] (OV True v no)
theorem dict_notin {prog : Program} {w : World} {K : Type} [DecidableEq K] {knd : KeyKind prog w K} {A : Around} {E : Value → Shared → Prop} {s : Shared} {h₀ : Heap} {L d : Addr} {news : List (Addr × Obj)} {o : Obj} {kvs : List (K × Value)} {k : K} {key : Value} {Q : Value → Shared → Prop}
    (N : News h₀ L s.heap news) (hp : (d, o) ∈ news) (hd : o.IsDictOf knd kvs) (lo : (d == sysModules) = false) (hkey : knd.is k key = true) (hb : (valueAt kvs k).isSome = true) (h : Q (.bool false) { s with toks := s.toks + 1 }) :
    wpAny (model prog w) A (compareOp .NotIn key (.ref d)) Q E s := wpAny_notIn_of hkey lo (kda_dict N hp hd).mapOf (by rw [hb]; exact h)
end Mine
end
namespace Mine
local macro_rules | `(tactic| k_room) => `(tactic| first | ((try simp only [depth_mark, depth_under_make, depth_under_kw, depth_in1, depth_deeper, depth_caller]); decide) | ((try simp only [depth_mark, depth_under_make, depth_under_kw, depth_in1, depth_deeper, depth_caller]); (try dsimp only [ktrTop]); (try simp only [recursionLimit]); omega))
local macro_rules | `(tactic| k_mem) => `(tactic| first | with_reducible assumption | ktr_member | exact List.mem_cons_self | (refine List.mem_cons_of_mem _ ?_; k_mem) | (refine List.mem_append_right _ ?_; k_mem) | (refine List.mem_append_left _ ?_; k_mem))
local macro_rules | `(tactic| k_all) => `(tactic| (intro p9 hp9; have h9 := ktn_ltOf (by assumption) p9 hp9; omega))
theorem words2 : True := by
  k_with_none
  k_with "callWith ref" => (k_here; k_dflt (refine' callWith_F ?k1 ?_; (case k1 => exact FnAt.of (by k_asm) (by k_mem)); k_whole))
  k_with "call ref" => (k_here; k_dflt (first | (refine' call_cls0 ?k1 ?k2 ?k3 ?k4 ?k5 ?_; (case k1 => k_asm); (case k2 => k_asm); (case k3 => k_asm); (case k4 => k_is); (case k5 => k_is); k_whole; intro x' d' h' F' N' l1 l2; (try k_lt l1); (try k_lt2 l2); (try k_sweep)) | (refine' call_cls ?k1 ?k2 ?k3 ?k4 ?k5 ?k6 ?_; (case k1 => k_asm); (case k2 => k_asm); (case k3 => k_asm); (case k4 => k_is); (case k5 => k_is); (case k6 => k_is); k_whole; intro x' d' h' F' N' l1 l2; (try k_lt l1); (try k_lt2 l2); (try k_sweep); k_enter) | (refine' call_meth ?k1 ?k2 ?_; (case k1 => k_asm); (case k2 => k_mem); k_whole; k_enter) | (refine wpAny_call ?_; k_enter)))
  k_with "callWith ref" => (k_here; k_dflt (first | refine' callWith_K ?k1 ?k2 ?_; (case k1 => k_asm); (case k2 => k_is); k_whole | refine' callWith_K0 ?k1 ?k2 ?_; (case k1 => k_in); (case k2 => k_is); k_whole))
  k_with "eval Name" => (k_here; k_dflt (first | (refine' nameX_L ?F ?v ?_ ?a ?b; (case F => k_asm); (case a => rfl); (case b => rfl); (case v => rfl); k_whole) | (refine' nameX_K ?F ?X ?T ?e ?_ ?a ?b; (case F => k_asm); (case X => k_asm); (case T => k_asm); (case a => rfl); (case b => rfl); (case e => k_is); k_whole) | (refine' nameX_B ?F ?X ?T ?e ?v ?n ?_ ?a ?b; (case F => k_asm); (case X => k_asm); (case T => k_asm); (case a => rfl); (case b => rfl); (case e => k_is); (case v => boot_fast); (case n => decide); k_whole)))
  k_with "subscriptTail Name Constant ref int" => (k_here; k_dflt (refine' item_tupleT ?t ?a ?b ?c ?d ?_; (case t => exact News.isTup (by k_asm) (by k_mem)); (case a => decide); (case b => decide); (case c => rfl); (case d => rfl); k_whole))
  k_with "call builtin:isinstance cons nil" => (k_here; (with_reducible show wpAny _ _ (call _ [Value.ref _, Value.ref _]) _ _ _); k_dflt (first | (refine' isi_call ?k1 ?k2 ?k3 ?k4 ?_; (case k1 => k_in); (case k2 => k_types); (case k3 => k_is); (case k4 => intro e; cases e); k_whole) | (refine' kin_callC ?k1 ?k2 ?k3 ?k4 ?k5 ?k6 ?k7 ?k8 ?k9 ?_; (case k1 => k_in); (case k2 => k_inst); (case k3 => kin_no); (case k4 => k_is); (case k5 => k_is); (case k6 => k_is); (case k7 => k_is); (case k8 => k_is); (case k9 => k_is); k_whole)))
  k_with "getMethod ref" => (k_here; (with_reducible show wpAny _ _ (getMethod (Value.ref _) (Str.ofString "get") _) _ _ _); k_dflt (refine kdg_method (knd := PySem.strKind _ _) (by k_asm) (by k_mem) (by k_asm) ?_))
  k_with "call builtin:dict.get" => (k_here; k_dflt (first | refine kdg_get2 (knd := PySem.strKind _ _) (by k_asm) (by k_mem) (by k_asm) (by k_asm) (strKind_is _ _ _ _) (some _) (by rfl) ?_ | refine kdg_get2 (knd := PySem.strKind _ _) (by k_asm) (by k_mem) (by k_asm) (by k_asm) (strKind_is _ _ _ _) none (by rfl) ?_); (try dsimp only [Option.getD]))
  k_with "noteFrame ref" => (k_here; k_dflt (refine' caught_X (g₀ := _) ?R ?F ?K ?U ?XB ?TB ?Ds KtsTurn.refl ?ex ?hJ ?_ ?hk ?hlo ?hx ?hd; (case R => assumption); (case U => assumption); (case F => k_asm); (case K => k_asm); (case XB => assumption); (case TB => assumption); (case Ds => assumption); (case ex => k_is); (case hJ => assumption); (case hk => exact rfl); (case hlo => exact rfl); (case hx => exact rfl); (case hd => decide); intro h' g' oe' ws' tk' T9 F' N' hc9 hd9 hf9 B' X' P' D'; (try dsimp only)))
  k_with "getAttr ref" => (k_here; (with_reducible show wpAny _ _ (getAttr (Value.ref _) (Str.ofString "number") _) _ _ _); k_dflt (refine' getExc_K ?F ?X ?N ?hJ ?g1 ?g2 ?g3 lk_number ?he ?hc ?hd ?hf ?hD ?hM ?hv ?hh ?_; (case F => k_asm); (case X => k_asm); (case N => k_asm); (case hJ => assumption); (case g1 => k_is); (case g2 => k_is); (case g3 => k_is); (case hc => assumption); (case hd => assumption); (case hf => assumption); (case he => k_mem); (case hM => assumption); (case hD => k_mem); (case hv => exact rfl); (case hh => exact rfl)))
  k_with "exec Raise some none" => (k_here; k_dflt (refine' Raise_X (K := KF _) ?hJ ?hh ?_; (case hJ => assumption); (case hh => exact rfl)))
  k_with "call ref cons nil" => (k_here; (with_reducible show wpAny _ _ (call (Value.ref 34) [Value.int _ _, Value.str _ _]) _ _ _); k_dflt (refine' excNewD _ _ _ _ _ _ _ _ _ _ _ _ _ _ _ _ _ _ _ _ _ _ _ _ _ _ _ _ ?B ?F ?X ?N ?T ?hk ?hd ?_; (case B => k_asm); (case F => k_asm); (case X => k_asm); (case N => k_asm); (case T => k_asm); (case hk => exact rfl); (case hd => first | decide | exact Nat.le_of_ble_eq_true rfl | ((try simp only [depth_mark, depth_under_make, depth_under_kw, depth_in1, depth_deeper, depth_caller]); (try dsimp only [ktrTop]); omega)); intro e' D' oD' t2' h' tk' F' N' l9 hM9))
  k_with "Exists" => (k_here; k_dflt (refine' exc_now ?F ?X ?N ?_; (case F => k_asm); (case X => k_asm); (case N => k_asm)))
  k_with "leaving ref" => (k_here; k_dflt (first | (refine' leave_onX ?K ?F ?R ?U ?_; (case R => assumption); (case K => k_asm); (case F => k_asm); (case U => assumption); intro h' R' U'; (try dsimp only at R' U' ⊢)) | (refine' leave_raiseX ?K ?F ?N ?l ?_; (case l => assumption); (case N => k_asm); (case K => k_asm); (case F => k_asm); intro h' R' U'; (try dsimp only at R' U' ⊢))))
  k_with "m hd" => (first | omega | ((try simp only [depth_mark, depth_under_make, depth_under_kw, depth_in1, depth_deeper, depth_caller]); (try dsimp only [ktrTop]); omega))
  k_with "m sub" => (intro q hq; first | exact hq | (exact absurd hq (List.not_mem_nil)) | (repeat (first | exact hq | exact (by assumption : ∀ q ∈ _, q ∈ _) q hq | refine List.mem_cons_of_mem _ ?_ | refine List.mem_append_right _ ?_)))
  k_with "m re" => (rotate_left; (intro n' G' e' D' oD' xx' vv' u' h' tk' hR' FG' R' U' hM9; (first | (exact hR'.elim) | (try dsimp only at R' U' ⊢))); rotate_right)
  k_with "call builtin:list.append" => (k_here; (with_reducible show wpAny _ _ (call (Value.builtin _) [Value.ref _, _]) _ _ _); k_dflt (refine' append_K ?k1 ?k2 ?k3 ?_ ?z; (case k1 => k_asm); (case k2 => k_asm); (case k3 => (repeat (first | exact Upd.head (by assumption) | (apply Upd.tail; (show (_ : Nat) ≠ _; omega))))); (case z => size_fits)); intro h' F' N')
  k_with "compareOp NotIn str ref" => (k_here; k_dflt (refine' dict_notin (knd := PySem.strKind _ _) ?N ?hp ?hd ?lo (strKind_is _ _ _ _) ?hb ?_; (case N => k_asm); (case hp => k_mem); (case hd => k_asm); (case lo => k_asm); (case hb => rfl)))
  k_with "subscriptTail Attribute Name Name ref str" => (k_here; k_dflt (refine' kda_item (knd := PySem.strKind _ _) ?N ?hp ?hd (strKind_is _ _ _ _) ?hl ?_; (case N => k_asm); (case hp => k_mem); (case hd => k_asm); (case hl => rfl); (try dsimp only)))
  k_with "subscriptTail Name Name ref str" => (k_here; k_dflt (refine' kda_item (knd := PySem.strKind _ _) ?N ?hp ?hd (strKind_is _ _ _ _) ?hl ?_; (case N => k_asm); (case hp => k_mem); (case hd => k_asm); (case hl => rfl); (try dsimp only)))
  k_with "compareOp Eq ref str" => (k_here; k_dflt (refine' eq_nr_str ?hm ?hu ?F ?X ?N ?_; (case F => k_asm); (case X => k_asm); (case N => k_asm); (case hm => k_mem); (case hu => (have hcL9 := cLine_is); (try simp only [units_in1, units_deeper, Around.mark_units, units_caller]); (try dsimp only [ktrTop]); omega)))
  k_with "ite" => (k_here; first | (with_reducible refine' sne_t ?h ?_; (case h => with_reducible assumption)) | (with_reducible refine' ieq_t ?h ?_; (case h => omega)) | (with_reducible refine' ieq_f ?h ?_; (case h => omega)) | (with_reducible refine' dec_t ?h ?_; (case h => omega)) | (with_reducible refine' dec_f ?h ?_; (case h => omega)))
  k_with "m dat" => (first | exact DatAll.nil | (refine DatAll.cons ?_ ?_ <;> walk_at "m dat") | exact DatIn.str _ _ | exact DatIn.int _ _ | exact DatIn.none | (refine' DatIn.tuple ?hm ?_; (case hm => exact List.mem_append_left _ (by k_mem)); walk_at "m dat") | (refine' DatIn.list ?hm ?_; (case hm => exact List.mem_append_left _ (by k_mem)); walk_at "m dat") | exact (by assumption : ∀ n, DatIn n _ _) _)
  k_with "eval ListComp" => (k_here; k_dflt (refine ListComp_tup (F₀ := by k_asm) (by with_unfolding_all rfl) (by decide) (by rfl) (by decide) (by rfl) ?_))
  k_with "CTup" => ((unfold CTup); refine' ⟨_, _, _, rfl, ?k0, ?k1, ?k2, ⟨_, ?k3⟩, ?k4, ?_⟩; (case k0 => rfl); (case k1 => k_asm); (case k2 => k_asm); (case k3 => k_mem); (case k4 => exact Nat.le_of_ble_eq_true rfl); intro g'; lcg_lit)
  k_with "CompRest" => (with_unfolding_all first | (refine LCg.CompRest.succ ?_; intro v' I' oI' C' oC' D' m' h' tk' E' hv' hC' hx' F' N' off' ne'; (simp only [List.getElem?_toArray, List.getElem?_cons_zero, List.getElem?_cons_succ, Option.some.injEq] at hv'); subst hv') | refine LCg.CompRest.zero ?_)
  k_with "CompEnd" => (k_dflt (first | (refine' comp_a ?F ?N ?o ?S ?_; (case F => k_asm); (case N => k_asm); (case o => assumption); (case S => exact ⟨_, by k_mem⟩)) | (refine' comp_b ?F ?N ?l ?o ?S ?_; (case F => k_asm); (case N => k_asm); (case l => assumption); (case o => assumption); (case S => exact ⟨_, by k_mem⟩))))
  k_with "FinE" => ((unfold LCg.FinE); intro D' h' tk' F' N' o1'; (try simp only [List.nil_append, List.cons_append] at N'); (try dsimp only))
  k_with "call ref cons nil" => (k_here; (with_reducible show wpAny _ _ (call (Value.ref _) _) _ _ _); k_dflt (refine' D.useV ?hD ?S  ?B ?F ?X ?N ?T ?hk ?hd ?_ ?_; (case F => k_asm); (case N => k_asm); (case S => exact fun q hq => hq); (case hD => k_extra "hL"); (case B => k_asm); (case X => k_asm);  (case T => k_asm); (case hk => exact rfl); (case hd => walk_at "m hd"); (intro h' tk' hg' F' N'; (try dsimp only)); walk_at "m re"))
  k_with "call ref cons nil" => (k_here; (with_reducible show wpAny _ _ (call (Value.ref 269) _) _ _ _); k_dflt (refine' D.useV ?hD ?S  ?B ?F ?X ?N ?T ?hk ?hd ?_ ?_; (case F => k_asm); (case N => k_asm); (case S => exact fun q hq => hq); (case hD => k_extra "h269"); (case B => k_asm); (case X => k_asm);  (case T => k_asm); (case hk => exact rfl); (case hd => walk_at "m hd"); (intro h' tk' hg' F' N'; (try dsimp only)); walk_at "m re"))
  k_with "call ref cons nil" => (k_here; (with_reducible show wpAny _ _ (call (Value.ref 428) _) _ _ _); k_dflt (refine' D.useV ?hD ?S  ?B ?F ?X ?N ?T ?hk ?hd ?_ ?_; (case F => k_asm); (case N => k_asm); (case S => exact fun q hq => hq); (case hD => k_extra "h428"); (case B => k_asm); (case X => k_asm);  (case T => k_asm); (case hk => exact rfl); (case hd => walk_at "m hd"); (intro h' tk' hg' F' N'; (try dsimp only)); walk_at "m re"))
  k_with "call ref cons nil" => (k_here; (with_reducible show wpAny _ _ (call (Value.ref 142) _) _ _ _); k_dflt (refine' D.useV ?hD ?S  ?B ?F ?X ?N ?T ?hk ?hd ?_ ?_; (case F => k_asm); (case N => k_asm); (case S => exact fun q hq => hq); (case hD => k_extra "h142"); (case B => k_asm); (case X => k_asm);  (case T => k_asm); (case hk => exact rfl); (case hd => walk_at "m hd"); (intro h' tk' hg' F' N'; (try dsimp only)); walk_at "m re"))
  k_with "call ref cons nil" => (k_here; (with_reducible show wpAny _ _ (call (Value.ref _) _) _ _ _); k_dflt (refine' NI.use ?hD ?S ?hp ?B ?F ?X ?N ?T ?hk ?hd ?_ ?_; (case hD => with_reducible assumption); (case B => k_asm); (case F => k_asm); (case X => k_asm); (case N => k_asm); (case S => walk_at "m sub"); (case hp => k_mem); (case T => k_asm); (case hk => exact rfl); (case hd => walk_at "m hd"); (intro x' dx' q1' q2' q3' kt' ext' h' tk' hg' hx0 hd0 hx1 hd1 F' N'; (try dsimp only)); walk_at "m re"))
  k_with "call ref cons nil" => (k_here; (with_reducible show wpAny _ _ (call (Value.ref _) _) _ _ _); k_dflt (refine' D.use ?hD ?S  ?B ?F ?X ?N ?T ?hk ?hd ?_ ?_; (case hD => with_reducible assumption); (case B => k_asm); (case F => k_asm); (case X => k_asm); (case N => k_asm); (case S => walk_at "m sub");  (case T => k_asm); (case hk => exact rfl); (case hd => walk_at "m hd"); (intro v' ext' h' tk' hG' F' N'; (try dsimp only)); walk_at "m re"))
  k_with "call ref cons nil" => (k_here; (with_reducible show wpAny _ _ (call (Value.ref _) _) _ _ _); k_dflt (refine' D.useV ?hD ?S  ?B ?F ?X ?N ?T ?hk ?hd ?_ ?_; (case hD => with_reducible assumption); (case B => k_asm); (case F => k_asm); (case X => k_asm); (case N => k_asm); (case S => walk_at "m sub");  (case T => k_asm); (case hk => exact rfl); (case hd => walk_at "m hd"); (intro h' tk' hg' F' N'; (try dsimp only)); walk_at "m re"))
  k_with "call ref cons nil" => (k_here; (with_reducible show wpAny _ _ (call (Value.ref 142) _) _ _ _); k_dflt (refine' D.useV ?hD ?S  ?B ?F ?X ?N ?T ?hk ?hd ?_ ?_; (case hD => k_extra "hX"); (case B => k_asm); (case F => k_asm); (case X => k_asm); (case N => k_asm); (case S => (intro q hq; refine mem_ext hq ?_; walk_at "m sub"));  (case T => k_asm); (case hk => exact rfl); (case hd => walk_at "m hd"); (intro h' tk' hg' F' N'; (try dsimp only)); walk_at "m re"))
  k_with "call ref cons nil" => (k_here; (with_reducible show wpAny _ _ (call (Value.ref 428) _) _ _ _); k_dflt (refine' DN.use ?hD ?S  ?B ?F ?X ?N ?T ?hk ?hd ?_; (case hD => with_reducible assumption); (case B => k_asm); (case F => k_asm); (case X => k_asm); (case N => k_asm); (case S => walk_at "m sub");  (case T => k_asm); (case hk => exact rfl); (case hd => walk_at "m hd"); (intro r' q1' q2' h' tk' F' N' l1'; (try dsimp only))))
  k_with "subscriptTail Name Constant ref int" => (k_here; k_dflt (refine' item_list ?t ?a ?b ?c ?_; (case t => exact News.isList (by k_asm) (by k_mem)); (case a => decide); (case b => decide); (case c => first | exact arr0 _ _ | exact arr1 _ _ | exact arrS _ | rfl); k_whole))
  k_with "exec For Name Name cons nil" => (k_here; (rename Fr _ _ _ _ => lF'); (with_unfolding_all refine' For_turns lF' ?_; k_whole))
  k_with "exec For Name Call cons nil" => (k_here; (rename Fr _ _ _ _ => lF'); (with_unfolding_all refine' For_turns lF' ?_; k_whole))
  k_with "pyIter ref" => (k_here; (with_reducible show wpAny _ _ (pyIter (Value.ref _)) (fun it s₂ => TurnsAt _ _ _ _ _ _ _ _ _ it s₂) _ _); first | (with_unfolding_all refine' iter_listTurns (by rfl) (by assumption) (by assumption) (by k_mem) (by rfl) (by rfl) ?_; intro i' l1; have l9 := l1; (try k_lt l1)) | (with_unfolding_all refine' iter_tupTurns (by rfl) (by assumption) (by assumption) (by k_mem) (by rfl) (by rfl) ?_; intro i' l1; have l9 := l1; (try k_lt l1)))
  k_with "UnrEndW" => (first | (refine' endA ?F ?N ?ne ⟨⟨?km, trivial⟩, ?_⟩; (case F => k_asm); (case N => k_asm); (case km => k_mem); (case ne => (repeat' (first | (refine List.forall_mem_cons.mpr (And.intro ?_ ?_)) | (exact fun p hp => absurd hp List.not_mem_nil) | (apply Nat.ne_of_lt; (try dsimp only); omega) | (apply Nat.ne_of_gt; (try dsimp only); omega) | (intro p9 hp9; refine' ne_of_all ?l8 ?m8; (case l8 => assumption); (case m8 => (repeat (first | exact hp9 | refine List.mem_cons_of_mem _ ?_)))))))) | (refine' endB ?F ?N ?ne ⟨⟨?km, trivial⟩, ?_⟩; (case F => k_asm); (case N => k_asm); (case km => k_mem); (case ne => (repeat' (first | (refine List.forall_mem_cons.mpr (And.intro ?_ ?_)) | (exact fun p hp => absurd hp List.not_mem_nil) | (apply Nat.ne_of_lt; (try dsimp only); omega) | (apply Nat.ne_of_gt; (try dsimp only); omega) | (intro p9 hp9; refine' ne_of_all ?l8 ?m8; (case l8 => assumption); (case m8 => (repeat (first | exact hp9 | refine List.mem_cons_of_mem _ ?_)))))))))
  k_with "exec While Compare cons nil" => (k_here; k_dflt (refine whl_start 100 ?_))
  k_with "exec While Compare cons" => (k_here; k_dflt (refine whl_start 100 ?_))
  k_with "subscriptTail List cons Name ref int" => (k_here; k_dflt (refine' item_any ?t ?a ?b ?c ?_; (case t => exact News.isList (by k_asm) (by k_mem)); (case a => omega); (case b => first | omega | (show _ < ((_ : Nat) : Int); (try simp only [List.size_toArray, List.length_cons, List.length_nil]); omega)); (case c => omega)); intro y9 hy9)
  k_with "subscriptTail List cons BinOp ref int" => (k_here; k_dflt (refine' item_any ?t ?a ?b ?c ?_; (case t => exact News.isList (by k_asm) (by k_mem)); (case a => omega); (case b => first | omega | (show _ < ((_ : Nat) : Int); (try simp only [List.size_toArray, List.length_cons, List.length_nil]); omega)); (case c => omega)); intro y9 hy9)
  k_with "subscriptTail Name BinOp ref int" => (k_here; k_dflt (refine' item_any ?t ?a ?b ?c ?_; (case t => exact News.isList (by k_asm) (by k_mem)); (case a => omega); (case b => first | omega | (show _ < ((_ : Nat) : Int); (try simp only [List.size_toArray, List.length_cons, List.length_nil]); omega)); (case c => omega)); intro y9 hy9)
  k_with "subscriptTail BinOp Name Add List Call ref int" => (k_here; k_dflt (refine' item_any ?t ?a ?b ?c ?_; (case t => exact News.isList (by k_asm) (by k_mem)); (case a => omega); (case b => first | omega | (show _ < ((_ : Nat) : Int); (try simp only [List.size_toArray, List.length_cons, List.length_nil]); omega)); (case c => omega)); intro y9 hy9)
  k_with "subscriptTail List cons Call ref int" => (k_here; k_dflt (refine' item_any ?t ?a ?b ?c ?_; (case t => exact News.isList (by k_asm) (by k_mem)); (case a => omega); (case b => first | omega | (show _ < ((_ : Nat) : Int); (try simp only [List.size_toArray, List.length_cons, List.length_nil]); omega)); (case c => omega)); intro y9 hy9)
  k_with "subscriptTail List cons Call Name ref int" => (k_here; k_dflt (refine' item_any ?t ?a ?b ?c ?_; (case t => exact News.isList (by k_asm) (by k_mem)); (case a => omega); (case b => first | omega | (show _ < ((_ : Nat) : Int); (try simp only [List.size_toArray, List.length_cons, List.length_nil]); omega)); (case c => omega)); intro y9 hy9)
  k_with "setItem ref int" => (k_here; k_dflt (refine' ki_set ?F ?N ?a ?b ?e ?U ?_; (case F => k_asm); (case N => k_asm); (case U => refine Upd.head (List.forall_mem_cons.mpr ⟨?_, ?_⟩) <;> assumption); (case a => decide); (case b => decide); (case e => rfl)); intro h' F' N'; (try dsimp only [List.nil_append, List.cons_append] at N'))
  k_with "call builtin:len cons nil" => (k_here; simp only [glue_t, glue_5])
  trivial
theorem words3 : True := by
  k_with "hX" => exact (by assumption : ∀ v ext, _ → D _ _ 142 (ext ++ _) [v] _) _ _ (by assumption)
  k_with "hL" => exact (by assumption : LamOk _ _ _ _) _ _ _ (by walk_at "m sub") (by k_mem)
  trivial
theorem F_int (w : World) (b : Nat) (n0 : List (Addr × Obj)) (i : Int) (t : Tok)  (hb : b ≤ 550): D w b 142 n0 [.int i t] (OV True (.bool false) no) := by
  refine ⟨?_⟩
  k_fill
  intro p loose mean mg mb dp un gd cn cs a ccd cl outer A₀ base h₀ L m news s Q E S B F X N T hck hdp rq re
  refine wpAny_call ?_
  k_dflt ktr_enter
  k_steps
  all_goals first | (exact rq _ [] _ _ ⟨trivial, rfl, rfl⟩ (by k_asm) (News.sub (by k_asm) (fun q hq => (by repeat (first | exact hq | refine List.mem_cons_of_mem _ ?_ | refine List.mem_append_right _ ?_))))) | (exact re _ _ _ _ _ _ _ _ _ _ (by assumption) (by k_asm) (RaisedX.sub (by assumption) (fun q hq => (by rcases List.mem_cons.mp hq with hq | hq <;> first | (rw [hq]; exact List.mem_cons_self) | (repeat (first | exact hq | refine List.mem_cons_of_mem _ ?_ | refine List.mem_append_right _ ?_))))) (by assumption) (by assumption))
theorem F_str (w : World) (b : Nat) (n0 : List (Addr × Obj)) (i : Str) (t : Tok)  (hb : b ≤ 550): D w b 142 n0 [.str i t] (OV True (.bool false) no) := by
  refine ⟨?_⟩
  k_fill
  intro p loose mean mg mb dp un gd cn cs a ccd cl outer A₀ base h₀ L m news s Q E S B F X N T hck hdp rq re
  refine wpAny_call ?_
  k_dflt ktr_enter
  k_steps
  all_goals first | (exact rq _ [] _ _ ⟨trivial, rfl, rfl⟩ (by k_asm) (News.sub (by k_asm) (fun q hq => (by repeat (first | exact hq | refine List.mem_cons_of_mem _ ?_ | refine List.mem_append_right _ ?_))))) | (exact re _ _ _ _ _ _ _ _ _ _ (by assumption) (by k_asm) (RaisedX.sub (by assumption) (fun q hq => (by rcases List.mem_cons.mp hq with hq | hq <;> first | (rw [hq]; exact List.mem_cons_self) | (repeat (first | exact hq | refine List.mem_cons_of_mem _ ?_ | refine List.mem_append_right _ ?_))))) (by assumption) (by assumption))
theorem F_nr (w : World) (b : Nat) (n0 : List (Addr × Obj)) (x dx : Addr) (es : List DictEntry) (ne : Nat) (h0 : (x, instObj 110 dx) ∈ n0) (h1 : (dx, dictOf es ne) ∈ n0) (hb : b ≤ 550): D w b 142 n0 [.ref x] (OV True (.bool false) no) := by
  refine ⟨?_⟩
  k_fill
  intro p loose mean mg mb dp un gd cn cs a ccd cl outer A₀ base h₀ L m news s Q E S B F X N T hck hdp rq re
  have m0 := S _ h0
  have m1 := S _ h1
  refine wpAny_call ?_
  k_dflt ktr_enter
  k_steps
  all_goals first | (exact rq _ [] _ _ ⟨trivial, rfl, rfl⟩ (by k_asm) (News.sub (by k_asm) (fun q hq => (by repeat (first | exact hq | refine List.mem_cons_of_mem _ ?_ | refine List.mem_append_right _ ?_))))) | (exact re _ _ _ _ _ _ _ _ _ _ (by assumption) (by k_asm) (RaisedX.sub (by assumption) (fun q hq => (by rcases List.mem_cons.mp hq with hq | hq <;> first | (rw [hq]; exact List.mem_cons_self) | (repeat (first | exact hq | refine List.mem_cons_of_mem _ ?_ | refine List.mem_append_right _ ?_))))) (by assumption) (by assumption))
theorem F_pat (w : World) (b : Nat) (n0 : List (Addr × Obj)) (x dx : Addr) (es : List DictEntry) (ne : Nat) (h0 : (x, instObj 68 dx) ∈ n0) (h1 : (dx, dictOf es ne) ∈ n0) (hb : b ≤ 550): D w b 142 n0 [.ref x] (OV True (.bool false) no) := by
  refine ⟨?_⟩
  k_fill
  intro p loose mean mg mb dp un gd cn cs a ccd cl outer A₀ base h₀ L m news s Q E S B F X N T hck hdp rq re
  have m0 := S _ h0
  have m1 := S _ h1
  refine wpAny_call ?_
  k_dflt ktr_enter
  k_steps
  all_goals first | (exact rq _ [] _ _ ⟨trivial, rfl, rfl⟩ (by k_asm) (News.sub (by k_asm) (fun q hq => (by repeat (first | exact hq | refine List.mem_cons_of_mem _ ?_ | refine List.mem_append_right _ ?_))))) | (exact re _ _ _ _ _ _ _ _ _ _ (by assumption) (by k_asm) (RaisedX.sub (by assumption) (fun q hq => (by rcases List.mem_cons.mp hq with hq | hq <;> first | (rw [hq]; exact List.mem_cons_self) | (repeat (first | exact hq | refine List.mem_cons_of_mem _ ?_ | refine List.mem_append_right _ ?_))))) (by assumption) (by assumption))
theorem F_del (w : World) (b : Nat) (n0 : List (Addr × Obj)) (x dx : Addr) (es : List DictEntry) (ne : Nat) (h0 : (x, instObj 89 dx) ∈ n0) (h1 : (dx, dictOf es ne) ∈ n0) (hb : b ≤ 550): D w b 142 n0 [.ref x] (OV True (.bool false) no) := by
  refine ⟨?_⟩
  k_fill
  intro p loose mean mg mb dp un gd cn cs a ccd cl outer A₀ base h₀ L m news s Q E S B F X N T hck hdp rq re
  have m0 := S _ h0
  have m1 := S _ h1
  refine wpAny_call ?_
  k_dflt ktr_enter
  k_steps
  all_goals first | (exact rq _ [] _ _ ⟨trivial, rfl, rfl⟩ (by k_asm) (News.sub (by k_asm) (fun q hq => (by repeat (first | exact hq | refine List.mem_cons_of_mem _ ?_ | refine List.mem_append_right _ ?_))))) | (exact re _ _ _ _ _ _ _ _ _ _ (by assumption) (by k_asm) (RaisedX.sub (by assumption) (fun q hq => (by rcases List.mem_cons.mp hq with hq | hq <;> first | (rw [hq]; exact List.mem_cons_self) | (repeat (first | exact hq | refine List.mem_cons_of_mem _ ?_ | refine List.mem_append_right _ ?_))))) (by assumption) (by assumption))
theorem F_list (w : World) (b : Nat) (n0 : List (Addr × Obj)) (x : Addr) (vs : Array Value) (ne : Nat) (h0 : (x, listOf vs ne) ∈ n0) (hb : b ≤ 550): D w b 142 n0 [.ref x] (OV True (.bool false) no) := by
  refine ⟨?_⟩
  k_fill
  intro p loose mean mg mb dp un gd cn cs a ccd cl outer A₀ base h₀ L m news s Q E S B F X N T hck hdp rq re
  have m0 := S _ h0
  refine wpAny_call ?_
  k_dflt ktr_enter
  k_steps
  all_goals first | (exact rq _ [] _ _ ⟨trivial, rfl, rfl⟩ (by k_asm) (News.sub (by k_asm) (fun q hq => (by repeat (first | exact hq | refine List.mem_cons_of_mem _ ?_ | refine List.mem_append_right _ ?_))))) | (exact re _ _ _ _ _ _ _ _ _ _ (by assumption) (by k_asm) (RaisedX.sub (by assumption) (fun q hq => (by rcases List.mem_cons.mp hq with hq | hq <;> first | (rw [hq]; exact List.mem_cons_self) | (repeat (first | exact hq | refine List.mem_cons_of_mem _ ?_ | refine List.mem_append_right _ ?_))))) (by assumption) (by assumption))
theorem F_fail (w : World) (b : Nat) (n0 : List (Addr × Obj)) (x dx : Addr) (es : List DictEntry) (ne : Nat) (h0 : (x, instObj 47 dx) ∈ n0) (h1 : (dx, dictOf es ne) ∈ n0) (hb : b ≤ 550): D w b 142 n0 [.ref x] (OV True (.bool true) no) := by
  refine ⟨?_⟩
  k_fill
  intro p loose mean mg mb dp un gd cn cs a ccd cl outer A₀ base h₀ L m news s Q E S B F X N T hck hdp rq re
  have m0 := S _ h0
  have m1 := S _ h1
  refine wpAny_call ?_
  k_dflt ktr_enter
  k_steps
  all_goals first | (exact rq _ [] _ _ ⟨trivial, rfl, rfl⟩ (by k_asm) (News.sub (by k_asm) (fun q hq => (by repeat (first | exact hq | refine List.mem_cons_of_mem _ ?_ | refine List.mem_append_right _ ?_))))) | (exact re _ _ _ _ _ _ _ _ _ _ (by assumption) (by k_asm) (RaisedX.sub (by assumption) (fun q hq => (by rcases List.mem_cons.mp hq with hq | hq <;> first | (rw [hq]; exact List.mem_cons_self) | (repeat (first | exact hq | refine List.mem_cons_of_mem _ ?_ | refine List.mem_append_right _ ?_))))) (by assumption) (by assumption))
theorem words4 : True := by
  k_with "h142" => exact F_list _ 540 _ _ _ _ (by k_mem) (by decide)
  k_with "h142" => exact F_nr _ 540 _ _ _ _ _ (by k_mem) (by k_mem) (by decide)
  k_with "h142" => exact F_str _ 540 _ _ _ (by decide)
  trivial
theorem pl_str (w : World) (b : Nat) (n0 : List (Addr × Obj)) (i : Str) (t : Tok)  (hb : b ≤ 540): D w b 428 n0 [.str i t] (OV True (.str i t) no) := by
  refine ⟨?_⟩
  k_fill
  intro p loose mean mg mb dp un gd cn cs a ccd cl outer A₀ base h₀ L m news s Q E S B F X N T hck hdp rq re
  refine wpAny_call ?_
  k_dflt ktr_enter
  k_steps
  all_goals first | (exact rq _ [] _ _ ⟨trivial, rfl, rfl⟩ (by k_asm) (News.sub (by k_asm) (fun q hq => (by repeat (first | exact hq | refine List.mem_cons_of_mem _ ?_ | refine List.mem_append_right _ ?_))))) | (exact re _ _ _ _ _ _ _ _ _ _ (by assumption) (by k_asm) (RaisedX.sub (by assumption) (fun q hq => (by rcases List.mem_cons.mp hq with hq | hq <;> first | (rw [hq]; exact List.mem_cons_self) | (repeat (first | exact hq | refine List.mem_cons_of_mem _ ?_ | refine List.mem_append_right _ ?_))))) (by assumption) (by assumption))
theorem pl_tup (w : World) (b : Nat) (n0 : List (Addr × Obj)) (t : Addr) (vs : List Value) (h0 : (t, tup vs) ∈ n0) (hb : b ≤ 540): D w b 428 n0 [.ref t] (OV True (.ref t) no) := by
  refine ⟨?_⟩
  k_fill
  intro p loose mean mg mb dp un gd cn cs a ccd cl outer A₀ base h₀ L m news s Q E S B F X N T hck hdp rq re
  have m0 := S _ h0
  refine wpAny_call ?_
  k_dflt ktr_enter
  k_steps
  all_goals first | (exact rq _ [] _ _ ⟨trivial, rfl, rfl⟩ (by k_asm) (News.sub (by k_asm) (fun q hq => (by repeat (first | exact hq | refine List.mem_cons_of_mem _ ?_ | refine List.mem_append_right _ ?_))))) | (exact re _ _ _ _ _ _ _ _ _ _ (by assumption) (by k_asm) (RaisedX.sub (by assumption) (fun q hq => (by rcases List.mem_cons.mp hq with hq | hq <;> first | (rw [hq]; exact List.mem_cons_self) | (repeat (first | exact hq | refine List.mem_cons_of_mem _ ?_ | refine List.mem_append_right _ ?_))))) (by assumption) (by assumption))
theorem words5 : True := by
  k_with "h428" => exact pl_tup _ 530 _ _ _ (by k_mem) (by decide)
  k_with "h428" => exact pl_str _ 530 _ _ _ (by decide)
  trivial
theorem cn_later (w : World) (b : Nat) (n0 : List (Addr × Obj)) (nd ch x : Addr) (t1 t2 t3 : Tok) (h0 : (nd, tup [.str (Str.ofString "later") t1, .ref ch, .ref x]) ∈ n0) (h1 : (ch, tup [.str (Str.ofString "chars") t2, .str (Str.ofString "ab") t3]) ∈ n0) (hb : b ≤ 540): D w b 269 n0 [.ref nd] (OV True (.ref nd) no) := by
  refine ⟨?_⟩
  k_fill
  intro p loose mean mg mb dp un gd cn cs a ccd cl outer A₀ base h₀ L m news s Q E S B F X N T hck hdp rq re
  have m0 := S _ h0
  have m1 := S _ h1
  refine wpAny_call ?_
  k_dflt ktr_enter
  k_steps
  all_goals first | (exact rq _ [] _ _ ⟨trivial, rfl, rfl⟩ (by k_asm) (News.sub (by k_asm) (fun q hq => (by repeat (first | exact hq | refine List.mem_cons_of_mem _ ?_ | refine List.mem_append_right _ ?_))))) | (exact re _ _ _ _ _ _ _ _ _ _ (by assumption) (by k_asm) (RaisedX.sub (by assumption) (fun q hq => (by rcases List.mem_cons.mp hq with hq | hq <;> first | (rw [hq]; exact List.mem_cons_self) | (repeat (first | exact hq | refine List.mem_cons_of_mem _ ?_ | refine List.mem_append_right _ ?_))))) (by assumption) (by assumption))
theorem cn_now (w : World) (b : Nat) (n0 : List (Addr × Obj)) (nd ch x : Addr) (t1 t2 t3 : Tok) (h0 : (nd, tup [.str (Str.ofString "now") t1, .ref ch, .ref x]) ∈ n0) (h1 : (ch, tup [.str (Str.ofString "chars") t2, .str (Str.ofString "ab") t3]) ∈ n0) (hb : b ≤ 540): D w b 269 n0 [.ref nd] (OV True (.ref nd) no) := by
  refine ⟨?_⟩
  k_fill
  intro p loose mean mg mb dp un gd cn cs a ccd cl outer A₀ base h₀ L m news s Q E S B F X N T hck hdp rq re
  have m0 := S _ h0
  have m1 := S _ h1
  refine wpAny_call ?_
  k_dflt ktr_enter
  k_steps
  all_goals first | (exact rq _ [] _ _ ⟨trivial, rfl, rfl⟩ (by k_asm) (News.sub (by k_asm) (fun q hq => (by repeat (first | exact hq | refine List.mem_cons_of_mem _ ?_ | refine List.mem_append_right _ ?_))))) | (exact re _ _ _ _ _ _ _ _ _ _ (by assumption) (by k_asm) (RaisedX.sub (by assumption) (fun q hq => (by rcases List.mem_cons.mp hq with hq | hq <;> first | (rw [hq]; exact List.mem_cons_self) | (repeat (first | exact hq | refine List.mem_cons_of_mem _ ?_ | refine List.mem_append_right _ ?_))))) (by assumption) (by assumption))
theorem words6 : True := by
  k_with "h269" => exact cn_later _ 530 _ _ _ _ _ _ _ (by k_mem) (by k_mem) (by decide)
  k_with "h269" => exact cn_now _ 530 _ _ _ _ _ _ _ (by k_mem) (by k_mem) (by decide)
  trivial
theorem w_un (w : World) (b : Nat) (n0 : List (Addr × Obj)) (tree x hk : Addr) (t1 t2 : Tok) (op : Str) (O : Out) (h0 : (tree, tup [.str (Str.ofString "unary") t1, .str op t2, .ref x]) ∈ n0) (h1 : D w (b + 5) 395 n0 [.str op t2, .ref x, .ref hk] O) (hb : b ≤ 520): D w b 374 n0 [.ref tree, .ref hk] O := by
  refine ⟨?_⟩
  k_fill
  intro p loose mean mg mb dp un gd cn cs a ccd cl outer A₀ base h₀ L m news s Q E S B F X N T hck hdp rq re
  have m0 := S _ h0
  refine wpAny_call ?_
  k_dflt ktr_enter
  k_steps
  all_goals first | (exact rq _ _ _ _ (by assumption) (by k_asm) (by k_asm)) | (exact re _ _ _ _ _ _ _ _ _ _ (by assumption) (by k_asm) (RaisedX.sub (by assumption) (fun q hq => (by rcases List.mem_cons.mp hq with hq | hq <;> first | (rw [hq]; exact List.mem_cons_self) | (repeat (first | exact hq | refine List.mem_cons_of_mem _ ?_ | refine List.mem_append_right _ ?_))))) (by assumption) (by assumption))
theorem w_name (w : World) (b : Nat) (n0 : List (Addr × Obj)) (nm : Addr) (t5 t6 : Tok) (hk dk dv fd lg : Addr) (k1 k2 k3 k4 k5 k6 k7 w1 w2 : Tok) (bv v : Value) (oV : Obj) (h0 : (nm, tup [.str (Str.ofString "name") t5, .str (Str.ofString "R") t6]) ∈ n0) (h1 : (hk, instObj 363 dk) ∈ n0) (h2 : (dk, dictOf [ent w (Str.ofString "values") k1 (.ref dv), ent w (Str.ofString "functions") k2 (.ref fd), ent w (Str.ofString "width") k3 (.int 16 w1), ent w (Str.ofString "most_length") k4 (.int 12 w2), ent w (Str.ofString "log") k5 (.ref lg)] 5) ∈ n0) (h3 : (dv, oV) ∈ n0) (h4 : Obj.IsDictOf (PySem.strKind PySem.Challenge.rw_rh0230_01.row.prog w) oV (strPairs [(.str (Str.ofString "R") k6, bv), (.str (Str.ofString "X") k7, v)])) (h5 : (dv == sysModules) = false) (hb : b ≤ 520): D w b 374 n0 [.ref nm, .ref hk] (OV True bv no) := by
  refine ⟨?_⟩
  k_fill
  intro p loose mean mg mb dp un gd cn cs a ccd cl outer A₀ base h₀ L m news s Q E S B F X N T hck hdp rq re
  have m0 := S _ h0
  have m1 := S _ h1
  have m2 := S _ h2
  have m3 := S _ h3
  refine wpAny_call ?_
  k_dflt ktr_enter
  k_steps
  all_goals first | (exact rq _ [] _ _ ⟨trivial, rfl, rfl⟩ (by k_asm) (News.sub (by k_asm) (fun q hq => (by repeat (first | exact hq | refine List.mem_cons_of_mem _ ?_ | refine List.mem_append_right _ ?_))))) | (exact re _ _ _ _ _ _ _ _ _ _ (by assumption) (by k_asm) (RaisedX.sub (by assumption) (fun q hq => (by rcases List.mem_cons.mp hq with hq | hq <;> first | (rw [hq]; exact List.mem_cons_self) | (repeat (first | exact hq | refine List.mem_cons_of_mem _ ?_ | refine List.mem_append_right _ ?_))))) (by assumption) (by assumption))
theorem w_text (w : World) (b : Nat) (n0 : List (Addr × Obj)) (tx hk : Addr) (t5 t6 : Tok) (h0 : (tx, tup [.str (Str.ofString "text") t5, .str (Str.ofString "ab") t6]) ∈ n0) (hb : b ≤ 520): D w b 374 n0 [.ref tx, .ref hk] (OV True (.str (Str.ofString "ab") t6) no) := by
  refine ⟨?_⟩
  k_fill
  intro p loose mean mg mb dp un gd cn cs a ccd cl outer A₀ base h₀ L m news s Q E S B F X N T hck hdp rq re
  have m0 := S _ h0
  refine wpAny_call ?_
  k_dflt ktr_enter
  k_steps
  all_goals first | (exact rq _ [] _ _ ⟨trivial, rfl, rfl⟩ (by k_asm) (News.sub (by k_asm) (fun q hq => (by repeat (first | exact hq | refine List.mem_cons_of_mem _ ?_ | refine List.mem_append_right _ ?_))))) | (exact re _ _ _ _ _ _ _ _ _ _ (by assumption) (by k_asm) (RaisedX.sub (by assumption) (fun q hq => (by rcases List.mem_cons.mp hq with hq | hq <;> first | (rw [hq]; exact List.mem_cons_self) | (repeat (first | exact hq | refine List.mem_cons_of_mem _ ?_ | refine List.mem_append_right _ ?_))))) (by assumption) (by assumption))
theorem ni_ref (w : World) (b : Nat) (n0 : List (Addr × Obj)) (part nm hk : Addr) (t3 t4 : Tok) (nB : List (Addr × Obj)) (x dx : Addr) (q1 q2 q3 kt : Tok) (kd : Str) (ow ky : Value) (h0 : (part, tup [.str (Str.ofString "unary") t3, .str (Str.ofString "$") t4, .ref nm]) ∈ n0) (h1 : D w (b + 5) 374 n0 [.ref nm, .ref hk] (OV True (.ref x) no)) (h2 : (x, instObj 110 dx) ∈ n0) (h3 : (dx, nrDict w q1 q2 q3 kt kd ow ky) ∈ n0) (h4 : (x, instObj 110 dx) ∈ nB) (h5 : (dx, nrDict w q1 q2 q3 kt kd ow ky) ∈ nB) (hb : b ≤ 520): D w b 388 n0 [.ref part, .ref hk] (ONR w nB True kd ow ky no) := by
  refine ⟨?_⟩
  k_fill
  intro p loose mean mg mb dp un gd cn cs a ccd cl outer A₀ base h₀ L m news s Q E S B F X N T hck hdp rq re
  have m0 := S _ h0
  have m2 := S _ h2
  have m3 := S _ h3
  refine wpAny_call ?_
  k_dflt ktr_enter
  k_steps
  all_goals first | (exact rq _ [] _ _ ⟨trivial, _, _, _, _, _, _, rfl, (by assumption), (by assumption)⟩ (by k_asm) (News.sub (by k_asm) (fun q hq => (by repeat (first | exact hq | refine List.mem_cons_of_mem _ ?_ | refine List.mem_append_right _ ?_))))) | (exact re _ _ _ _ _ _ _ _ _ _ (by assumption) (by k_asm) (RaisedX.sub (by assumption) (fun q hq => (by rcases List.mem_cons.mp hq with hq | hq <;> first | (rw [hq]; exact List.mem_cons_self) | (repeat (first | exact hq | refine List.mem_cons_of_mem _ ?_ | refine List.mem_append_right _ ?_))))) (by assumption) (by assumption))
theorem ni_X (w : World) (b : Nat) (n0 : List (Addr × Obj)) (part nm hk : Addr) (t3 t4 : Tok) (nB : List (Addr × Obj)) (kb : Tok) (h0 : (part, tup [.str (Str.ofString "unary") t3, .str (Str.ofString "$") t4, .ref nm]) ∈ n0) (h1 : D w (b + 5) 374 n0 [.ref nm, .ref hk] (OV True (.str (Str.ofString "X") kb) no)) (hb : b ≤ 520): D w b 388 n0 [.ref part, .ref hk] (ONR w nB True (Str.ofString "var") .none (.str (Str.ofString "X") kb) no) := by
  refine ⟨?_⟩
  k_fill
  intro p loose mean mg mb dp un gd cn cs a ccd cl outer A₀ base h₀ L m news s Q E S B F X N T hck hdp rq re
  have m0 := S _ h0
  refine wpAny_call ?_
  k_dflt ktr_enter
  k_steps
  all_goals first | (refine' fin_g rq ?cF ?cN ?ch ?cg; (case cF => k_asm); (case cN => k_asm); (case ch => exact fun q hq => (by repeat (first | exact hq | refine List.mem_cons_of_mem _ ?_ | refine List.mem_append_right _ ?_))); (case cg => exact ⟨(by first | trivial | assumption), _, _, _, _, _, _, rfl, List.mem_append_left _ (by k_mem), List.mem_append_left _ (by k_mem)⟩)) | (exact re _ _ _ _ _ _ _ _ _ _ (by assumption) (by k_asm) (RaisedX.sub (by assumption) (fun q hq => (by rcases List.mem_cons.mp hq with hq | hq <;> first | (rw [hq]; exact List.mem_cons_self) | (repeat (first | exact hq | refine List.mem_cons_of_mem _ ?_ | refine List.mem_append_right _ ?_))))) (by assumption) (by assumption))
theorem ni_4 (w : World) (b : Nat) (n0 : List (Addr × Obj)) (part nm hk : Addr) (t3 t4 : Tok) (nB : List (Addr × Obj)) (kb : Tok) (O : Out) (h0 : (part, tup [.str (Str.ofString "unary") t3, .str (Str.ofString "$") t4, .ref nm]) ∈ n0) (h1 : D w (b + 5) 374 n0 [.ref nm, .ref hk] (OV True (.str (Str.ofString "") kb) no)) (h2 : O.raises 4) (hb : b ≤ 520): D w b 388 n0 [.ref part, .ref hk] O := by
  refine ⟨?_⟩
  k_fill
  intro p loose mean mg mb dp un gd cn cs a ccd cl outer A₀ base h₀ L m news s Q E S B F X N T hck hdp rq re
  have m0 := S _ h0
  have hJ : excJ (KF w.params) 34 33 excBm "Exception.__new__" 31 = true := by kernel_rfl
  refine wpAny_call ?_
  k_dflt ktr_enter
  k_steps
  all_goals first | (exact rq _ _ _ _ (by assumption) (by k_asm) (by k_asm)) | (exact re _ _ _ _ _ _ _ _ _ _ (by assumption) (by k_asm) (RaisedX.sub (by assumption) (fun q hq => (by rcases List.mem_cons.mp hq with hq | hq <;> first | (rw [hq]; exact List.mem_cons_self) | (repeat (first | exact hq | refine List.mem_cons_of_mem _ ?_ | refine List.mem_append_right _ ?_))))) (by assumption) (by assumption))
theorem o_var (w : World) (b : Nat) (n0 : List (Addr × Obj)) (nm : Addr) (t yt : Tok) (ow : Value) (gv : Prop) (rs : Int → Prop) (hk dk dv fd lg : Addr) (k1 k2 k3 k4 k5 k6 k7 w1 w2 : Tok) (bv v : Value) (oV : Obj) (h0 : NI w (b + 5) n0 nm hk (ONR w n0 gv (Str.ofString "var") ow (.str (Str.ofString "X") yt) rs)) (h1 : (hk, instObj 363 dk) ∈ n0) (h2 : (dk, dictOf [ent w (Str.ofString "values") k1 (.ref dv), ent w (Str.ofString "functions") k2 (.ref fd), ent w (Str.ofString "width") k3 (.int 16 w1), ent w (Str.ofString "most_length") k4 (.int 12 w2), ent w (Str.ofString "log") k5 (.ref lg)] 5) ∈ n0) (h3 : (dv, oV) ∈ n0) (h4 : Obj.IsDictOf (PySem.strKind PySem.Challenge.rw_rh0230_01.row.prog w) oV (strPairs [(.str (Str.ofString "R") k6, bv), (.str (Str.ofString "X") k7, v)])) (h5 : (dv == sysModules) = false) (hb : b ≤ 520): D w b 395 n0 [.str (Str.ofString "$") t, .ref nm, .ref hk] (OV gv v rs) := by
  refine ⟨?_⟩
  k_fill
  intro p loose mean mg mb dp un gd cn cs a ccd cl outer A₀ base h₀ L m news s Q E S B F X N T hck hdp rq re
  have m1 := S _ h1
  have m2 := S _ h2
  have m3 := S _ h3
  refine wpAny_call ?_
  k_dflt ktr_enter
  k_steps
  all_goals first | (exact rq _ [] _ _ ⟨(by assumption), rfl, rfl⟩ (by k_asm) (News.sub (by k_asm) (fun q hq => (by repeat (first | exact hq | refine List.mem_cons_of_mem _ ?_ | refine List.mem_append_right _ ?_))))) | (exact re _ _ _ _ _ _ _ _ _ _ (by assumption) (by k_asm) (RaisedX.sub (by assumption) (fun q hq => (by rcases List.mem_cons.mp hq with hq | hq <;> first | (rw [hq]; exact List.mem_cons_self) | (repeat (first | exact hq | refine List.mem_cons_of_mem _ ?_ | refine List.mem_append_right _ ?_))))) (by assumption) (by assumption))
theorem o_8 (w : World) (b : Nat) (n0 : List (Addr × Obj)) (nm hk : Addr) (t : Tok) (kd : Str) (ow ky : Value) (gv : Prop) (rs : Int → Prop) (h0 : NI w (b + 5) n0 nm hk (ONR w n0 gv kd ow ky rs)) (h1 : kd ≠ (Str.ofString "var")) (hb : b ≤ 520): D w b 395 n0 [.str (Str.ofString "$") t, .ref nm, .ref hk] ⟨fun _ _ => False, fun n => rs n ∨ n = 8⟩ := by
  refine ⟨?_⟩
  k_fill
  intro p loose mean mg mb dp un gd cn cs a ccd cl outer A₀ base h₀ L m news s Q E S B F X N T hck hdp rq re
  have hJ : excJ (KF w.params) 34 33 excBm "Exception.__new__" 31 = true := by kernel_rfl
  refine wpAny_call ?_
  k_dflt ktr_enter
  k_steps
  all_goals first | (exact absurd (by simpa using (by assumption : (kd != Str.ofString "var") = false)) h1) | (exact re _ _ _ _ _ _ _ _ _ _ (by first | exact Or.inl (by assumption) | exact Or.inr rfl) (by k_asm) (RaisedX.sub (by assumption) (fun q hq => (by rcases List.mem_cons.mp hq with hq | hq <;> first | (rw [hq]; exact List.mem_cons_self) | (repeat (first | exact hq | refine List.mem_cons_of_mem _ ?_ | refine List.mem_append_right _ ?_))))) (by assumption) (by assumption))
theorem o_dot (w : World) (b : Nat) (n0 : List (Addr × Obj)) (part nm hk : Addr) (t t3 t4 : Tok) (kd : Str) (ow ky : Value) (gv : Prop) (rs : Int → Prop) (h0 : (part, tup [.str (Str.ofString "unary") t3, .str (Str.ofString "$") t4, .ref nm]) ∈ n0) (h1 : NI w (b + 5) n0 nm hk (ONR w n0 gv kd ow ky rs)) (hb : b ≤ 520): D w b 395 n0 [.str (Str.ofString ".") t, .ref part, .ref hk] (ONR w n0 gv kd ow ky rs) := by
  refine ⟨?_⟩
  k_fill
  intro p loose mean mg mb dp un gd cn cs a ccd cl outer A₀ base h₀ L m news s Q E S B F X N T hck hdp rq re
  have m0 := S _ h0
  refine wpAny_call ?_
  k_dflt ktr_enter
  k_steps
  all_goals first | (refine' fin_g rq ?cF ?cN ?ch ?cg; (case cF => k_asm); (case cN => k_asm); (case ch => exact fun q hq => (by repeat (first | exact hq | refine List.mem_cons_of_mem _ ?_ | refine List.mem_append_right _ ?_))); (case cg => exact ⟨(by assumption), _, _, _, _, _, _, rfl, (by first | assumption | exact List.mem_append_left _ (by k_mem)), (by first | assumption | exact List.mem_append_left _ (by k_mem))⟩)) | (exact re _ _ _ _ _ _ _ _ _ _ (by assumption) (by k_asm) (RaisedX.sub (by assumption) (fun q hq => (by rcases List.mem_cons.mp hq with hq | hq <;> first | (rw [hq]; exact List.mem_cons_self) | (repeat (first | exact hq | refine List.mem_cons_of_mem _ ?_ | refine List.mem_append_right _ ?_))))) (by assumption) (by assumption))
theorem o_at (w : World) (b : Nat) (n0 : List (Addr × Obj)) (part nm hk : Addr) (t t3 t4 : Tok) (kd : Str) (ow ky : Value) (gv : Prop) (rs : Int → Prop) (h0 : (part, tup [.str (Str.ofString "unary") t3, .str (Str.ofString "$") t4, .ref nm]) ∈ n0) (h1 : NI w (b + 5) n0 nm hk (ONR w n0 gv kd ow ky rs)) (hb : b ≤ 520): D w b 395 n0 [.str (Str.ofString "@") t, .ref part, .ref hk] (OPc w n0 gv kd ow ky rs) := by
  refine ⟨?_⟩
  k_fill
  intro p loose mean mg mb dp un gd cn cs a ccd cl outer A₀ base h₀ L m news s Q E S B F X N T hck hdp rq re
  have m0 := S _ h0
  refine wpAny_call ?_
  k_dflt ktr_enter
  k_steps
  all_goals first | (refine' fin_g rq ?cF ?cN ?ch ?cg; (case cF => k_asm); (case cN => k_asm); (case ch => exact fun q hq => (by repeat (first | exact hq | refine List.mem_cons_of_mem _ ?_ | refine List.mem_append_right _ ?_))); (case cg => exact ⟨(by assumption), _, _, _, _, _, _, _, _, _, _, _, rfl, List.mem_append_left _ (by k_mem), List.mem_append_left _ (by k_mem), List.mem_append_left _ (by k_mem), List.mem_append_left _ (by k_mem), List.mem_append_left _ (by k_mem)⟩)) | (exact re _ _ _ _ _ _ _ _ _ _ (by assumption) (by k_asm) (RaisedX.sub (by assumption) (fun q hq => (by rcases List.mem_cons.mp hq with hq | hq <;> first | (rw [hq]; exact List.mem_cons_self) | (repeat (first | exact hq | refine List.mem_cons_of_mem _ ?_ | refine List.mem_append_right _ ?_))))) (by assumption) (by assumption))
theorem o_tilde (w : World) (b : Nat) (n0 : List (Addr × Obj)) (x hk : Addr) (t : Tok) (v : Value) (gv : Prop) (rs : Int → Prop) (h0 : D w (b + 5) 374 n0 [.ref x, .ref hk] (OV gv v rs)) (h1 : D w 540 142 [] [v] (OV True (.bool false) no)) (hb : b ≤ 520): D w b 395 n0 [.str (Str.ofString "~") t, .ref x, .ref hk] (OFl gv rs) := by
  refine ⟨?_⟩
  k_fill
  intro p loose mean mg mb dp un gd cn cs a ccd cl outer A₀ base h₀ L m news s Q E S B F X N T hck hdp rq re
  refine wpAny_call ?_
  k_dflt ktr_enter
  k_steps
  all_goals first | (refine' fin_g rq ?cF ?cN ?ch ?cg; (case cF => k_asm); (case cN => k_asm); (case ch => exact fun q hq => (by repeat (first | exact hq | refine List.mem_cons_of_mem _ ?_ | refine List.mem_append_right _ ?_))); (case cg => exact ⟨(by assumption), _, _, _, _, rfl, (by k_mem), (by k_mem)⟩)) | (exact re _ _ _ _ _ _ _ _ _ _ (by assumption) (by k_asm) (RaisedX.sub (by assumption) (fun q hq => (by rcases List.mem_cons.mp hq with hq | hq <;> first | (rw [hq]; exact List.mem_cons_self) | (repeat (first | exact hq | refine List.mem_cons_of_mem _ ?_ | refine List.mem_append_right _ ?_))))) (by assumption) (by assumption))
theorem o_star (w : World) (b : Nat) (n0 : List (Addr × Obj)) (x hk : Addr) (t : Tok)  (hb : b ≤ 520): D w b 395 n0 [.str (Str.ofString "*") t, .ref x, .ref hk] (ODl w (.ref x)) := by
  refine ⟨?_⟩
  k_fill
  intro p loose mean mg mb dp un gd cn cs a ccd cl outer A₀ base h₀ L m news s Q E S B F X N T hck hdp rq re
  refine wpAny_call ?_
  k_dflt ktr_enter
  k_steps
  all_goals first | (refine' fin_g rq ?cF ?cN ?ch ?cg; (case cF => k_asm); (case cN => k_asm); (case ch => exact fun q hq => (by repeat (first | exact hq | refine List.mem_cons_of_mem _ ?_ | refine List.mem_append_right _ ?_))); (case cg => exact ⟨_, _, _, rfl, (by k_mem), (by k_mem)⟩)) | (exact re _ _ _ _ _ _ _ _ _ _ (by assumption) (by k_asm) (RaisedX.sub (by assumption) (fun q hq => (by rcases List.mem_cons.mp hq with hq | hq <;> first | (rw [hq]; exact List.mem_cons_self) | (repeat (first | exact hq | refine List.mem_cons_of_mem _ ?_ | refine List.mem_append_right _ ?_))))) (by assumption) (by assumption))
theorem w_join (w : World) (b : Nat) (n0 : List (Addr × Obj)) (tree tx part hk : Addr) (t1 : Tok) (O : Out) (h0 : (tree, tup [.str (Str.ofString "join") t1, .ref tx, .ref part]) ∈ n0) (h1 : D w (b + 5) 402 n0 [.ref tree, .ref hk] O) (hb : b ≤ 520): D w b 374 n0 [.ref tree, .ref hk] O := by
  refine ⟨?_⟩
  k_fill
  intro p loose mean mg mb dp un gd cn cs a ccd cl outer A₀ base h₀ L m news s Q E S B F X N T hck hdp rq re
  have m0 := S _ h0
  refine wpAny_call ?_
  k_dflt ktr_enter
  k_steps
  all_goals first | (exact rq _ _ _ _ (by assumption) (by k_asm) (by k_asm)) | (exact re _ _ _ _ _ _ _ _ _ _ (by assumption) (by k_asm) (RaisedX.sub (by assumption) (fun q hq => (by rcases List.mem_cons.mp hq with hq | hq <;> first | (rw [hq]; exact List.mem_cons_self) | (repeat (first | exact hq | refine List.mem_cons_of_mem _ ?_ | refine List.mem_append_right _ ?_))))) (by assumption) (by assumption))
theorem w_bin (w : World) (b : Nat) (n0 : List (Addr × Obj)) (tree tx part hk : Addr) (t1 t2 : Tok) (op : Str) (O : Out) (h0 : (tree, tup [.str (Str.ofString "binary") t1, .str op t2, .ref tx, .ref part]) ∈ n0) (h1 : D w (b + 5) 402 n0 [.ref tree, .ref hk] O) (hb : b ≤ 520): D w b 374 n0 [.ref tree, .ref hk] O := by
  refine ⟨?_⟩
  k_fill
  intro p loose mean mg mb dp un gd cn cs a ccd cl outer A₀ base h₀ L m news s Q E S B F X N T hck hdp rq re
  have m0 := S _ h0
  refine wpAny_call ?_
  k_dflt ktr_enter
  k_steps
  all_goals first | (exact rq _ _ _ _ (by assumption) (by k_asm) (by k_asm)) | (exact re _ _ _ _ _ _ _ _ _ _ (by assumption) (by k_asm) (RaisedX.sub (by assumption) (fun q hq => (by rcases List.mem_cons.mp hq with hq | hq <;> first | (rw [hq]; exact List.mem_cons_self) | (repeat (first | exact hq | refine List.mem_cons_of_mem _ ?_ | refine List.mem_append_right _ ?_))))) (by assumption) (by assumption))
theorem two_join (w : World) (b : Nat) (n0 : List (Addr × Obj)) (tree tx part hk : Addr) (t1 t6 : Tok) (v : Value) (P : Value → Prop) (gv : Prop) (rs : Int → Prop) (h0 : (tree, tup [.str (Str.ofString "join") t1, .ref tx, .ref part]) ∈ n0) (h1 : D w (b + 5) 374 n0 [.ref tx, .ref hk] (OV True (.str (Str.ofString "ab") t6) no)) (h2 : D w (b + 5) 374 n0 [.ref part, .ref hk] (OV gv v rs)) (h3 : D w 540 142 [] [v] (OV True (.bool false) no)) (h4 : D w (b + 5) 311 n0 [.ref hk, .str (Str.ofString "ab") t6, v] (OVP True P no)) (hb : b ≤ 520): D w b 402 n0 [.ref tree, .ref hk] (OVP gv P rs) := by
  refine ⟨?_⟩
  k_fill
  intro p loose mean mg mb dp un gd cn cs a ccd cl outer A₀ base h₀ L m news s Q E S B F X N T hck hdp rq re
  have m0 := S _ h0
  refine wpAny_call ?_
  k_dflt ktr_enter
  k_steps
  all_goals first | (rename Out.gives _ _ _ => hg9; exact rq _ [] _ _ ⟨(by assumption), rfl, hg9.2.2⟩ (by k_asm) (News.sub (by k_asm) (fun q hq => (by repeat (first | exact hq | refine List.mem_cons_of_mem _ ?_ | refine List.mem_append_right _ ?_))))) | (exact re _ _ _ _ _ _ _ _ _ _ (by assumption) (by k_asm) (RaisedX.sub (by assumption) (fun q hq => (by rcases List.mem_cons.mp hq with hq | hq <;> first | (rw [hq]; exact List.mem_cons_self) | (repeat (first | exact hq | refine List.mem_cons_of_mem _ ?_ | refine List.mem_append_right _ ?_))))) (by assumption) (by assumption))
theorem two_later (w : World) (b : Nat) (n0 : List (Addr × Obj)) (tree tx part nm hk : Addr) (t1 t2 t3 t4 t6 : Tok) (kd : Str) (ow ky : Value) (gv : Prop) (rs : Int → Prop) (h0 : (tree, tup [.str (Str.ofString "binary") t1, .str (Str.ofString ".") t2, .ref tx, .ref part]) ∈ n0) (h1 : (part, tup [.str (Str.ofString "unary") t3, .str (Str.ofString "$") t4, .ref nm]) ∈ n0) (h2 : D w (b + 5) 374 n0 [.ref tx, .ref hk] (OV True (.str (Str.ofString "ab") t6) no)) (h3 : NI w (b + 5) n0 nm hk (ONR w n0 gv kd ow ky rs)) (hb : b ≤ 520): D w b 402 n0 [.ref tree, .ref hk] (OPl w n0 gv (Str.ofString "later") kd ow ky rs) := by
  refine ⟨?_⟩
  k_fill
  intro p loose mean mg mb dp un gd cn cs a ccd cl outer A₀ base h₀ L m news s Q E S B F X N T hck hdp rq re
  have m0 := S _ h0
  have m1 := S _ h1
  refine wpAny_call ?_
  k_dflt ktr_enter
  k_steps
  all_goals first | (refine' fin_g rq ?cF ?cN ?ch ?cg; (case cF => k_asm); (case cN => k_asm); (case ch => exact fun q hq => (by repeat (first | exact hq | refine List.mem_cons_of_mem _ ?_ | refine List.mem_append_right _ ?_))); (case cg => exact ⟨(by assumption), _, _, _, _, _, _, _, _, _, _, _, _, _, _, rfl, List.mem_append_left _ (by k_mem), List.mem_append_left _ (by k_mem), List.mem_append_left _ (by k_mem), List.mem_append_left _ (by k_mem), List.mem_append_left _ (by k_mem), List.mem_append_left _ (by k_mem)⟩)) | (exact re _ _ _ _ _ _ _ _ _ _ (by assumption) (by k_asm) (RaisedX.sub (by assumption) (fun q hq => (by rcases List.mem_cons.mp hq with hq | hq <;> first | (rw [hq]; exact List.mem_cons_self) | (repeat (first | exact hq | refine List.mem_cons_of_mem _ ?_ | refine List.mem_append_right _ ?_))))) (by assumption) (by assumption))
theorem two_now (w : World) (b : Nat) (n0 : List (Addr × Obj)) (tree tx part nm hk : Addr) (t1 t2 t3 t4 t6 : Tok) (kd : Str) (ow ky : Value) (gv : Prop) (rs : Int → Prop) (h0 : (tree, tup [.str (Str.ofString "binary") t1, .str (Str.ofString "$") t2, .ref tx, .ref part]) ∈ n0) (h1 : (part, tup [.str (Str.ofString "unary") t3, .str (Str.ofString "$") t4, .ref nm]) ∈ n0) (h2 : D w (b + 5) 374 n0 [.ref tx, .ref hk] (OV True (.str (Str.ofString "ab") t6) no)) (h3 : NI w (b + 5) n0 nm hk (ONR w n0 gv kd ow ky rs)) (hb : b ≤ 520): D w b 402 n0 [.ref tree, .ref hk] (OPl w n0 gv (Str.ofString "now") kd ow ky rs) := by
  refine ⟨?_⟩
  k_fill
  intro p loose mean mg mb dp un gd cn cs a ccd cl outer A₀ base h₀ L m news s Q E S B F X N T hck hdp rq re
  have m0 := S _ h0
  have m1 := S _ h1
  refine wpAny_call ?_
  k_dflt ktr_enter
  k_steps
  all_goals first | (refine' fin_g rq ?cF ?cN ?ch ?cg; (case cF => k_asm); (case cN => k_asm); (case ch => exact fun q hq => (by repeat (first | exact hq | refine List.mem_cons_of_mem _ ?_ | refine List.mem_append_right _ ?_))); (case cg => exact ⟨(by assumption), _, _, _, _, _, _, _, _, _, _, _, _, _, _, rfl, List.mem_append_left _ (by k_mem), List.mem_append_left _ (by k_mem), List.mem_append_left _ (by k_mem), List.mem_append_left _ (by k_mem), List.mem_append_left _ (by k_mem), List.mem_append_left _ (by k_mem)⟩)) | (exact re _ _ _ _ _ _ _ _ _ _ (by assumption) (by k_asm) (RaisedX.sub (by assumption) (fun q hq => (by rcases List.mem_cons.mp hq with hq | hq <;> first | (rw [hq]; exact List.mem_cons_self) | (repeat (first | exact hq | refine List.mem_cons_of_mem _ ?_ | refine List.mem_append_right _ ?_))))) (by assumption) (by assumption))
theorem jv_i (w : World) (b : Nat) (n0 : List (Addr × Obj)) (t t6 : Tok) (hk dk dv fd lg : Addr) (k1 k2 k3 k4 k5 k6 k7 w1 w2 : Tok) (bv v2 : Value) (oV : Obj) (h0 : (hk, instObj 363 dk) ∈ n0) (h1 : (dk, dictOf [ent w (Str.ofString "values") k1 (.ref dv), ent w (Str.ofString "functions") k2 (.ref fd), ent w (Str.ofString "width") k3 (.int 16 w1), ent w (Str.ofString "most_length") k4 (.int 12 w2), ent w (Str.ofString "log") k5 (.ref lg)] 5) ∈ n0) (h2 : (dv, oV) ∈ n0) (h3 : Obj.IsDictOf (PySem.strKind PySem.Challenge.rw_rh0230_01.row.prog w) oV (strPairs [(.str (Str.ofString "R") k6, bv), (.str (Str.ofString "X") k7, v2)])) (h4 : (dv == sysModules) = false) (hb : b ≤ 540): D w b 311 n0 [.ref hk, .str (Str.ofString "ab") t6, .int 5 t] ⟨fun y ext => ext = [] ∧ ∃ q, y = .str (Str.ofString "ab5") q, no⟩ := by
  refine ⟨?_⟩
  k_fill
  intro p loose mean mg mb dp un gd cn cs a ccd cl outer A₀ base h₀ L m news s Q E S B F X N T hck hdp rq re
  have m0 := S _ h0
  have m1 := S _ h1
  have m2 := S _ h2
  refine wpAny_call ?_
  k_dflt ktr_enter
  k_steps
  all_goals first | (exact rq _ [] _ _ ⟨rfl, _, (by first | rfl | rw [glue_t] | rw [glue_5])⟩ (by k_asm) (News.sub (by k_asm) (fun q hq => (by repeat (first | exact hq | refine List.mem_cons_of_mem _ ?_ | refine List.mem_append_right _ ?_))))) | (exact re _ _ _ _ _ _ _ _ _ _ (by assumption) (by k_asm) (RaisedX.sub (by assumption) (fun q hq => (by rcases List.mem_cons.mp hq with hq | hq <;> first | (rw [hq]; exact List.mem_cons_self) | (repeat (first | exact hq | refine List.mem_cons_of_mem _ ?_ | refine List.mem_append_right _ ?_))))) (by assumption) (by assumption))
theorem jv_t (w : World) (b : Nat) (n0 : List (Addr × Obj)) (t t6 : Tok) (hk dk dv fd lg : Addr) (k1 k2 k3 k4 k5 k6 k7 w1 w2 : Tok) (bv v2 : Value) (oV : Obj) (h0 : (hk, instObj 363 dk) ∈ n0) (h1 : (dk, dictOf [ent w (Str.ofString "values") k1 (.ref dv), ent w (Str.ofString "functions") k2 (.ref fd), ent w (Str.ofString "width") k3 (.int 16 w1), ent w (Str.ofString "most_length") k4 (.int 12 w2), ent w (Str.ofString "log") k5 (.ref lg)] 5) ∈ n0) (h2 : (dv, oV) ∈ n0) (h3 : Obj.IsDictOf (PySem.strKind PySem.Challenge.rw_rh0230_01.row.prog w) oV (strPairs [(.str (Str.ofString "R") k6, bv), (.str (Str.ofString "X") k7, v2)])) (h4 : (dv == sysModules) = false) (hb : b ≤ 540): D w b 311 n0 [.ref hk, .str (Str.ofString "ab") t6, .str (Str.ofString "t") t] ⟨fun y ext => ext = [] ∧ ∃ q, y = .str (Str.ofString "abt") q, no⟩ := by
  refine ⟨?_⟩
  k_fill
  intro p loose mean mg mb dp un gd cn cs a ccd cl outer A₀ base h₀ L m news s Q E S B F X N T hck hdp rq re
  have m0 := S _ h0
  have m1 := S _ h1
  have m2 := S _ h2
  refine wpAny_call ?_
  k_dflt ktr_enter
  k_steps
  all_goals first | (exact rq _ [] _ _ ⟨rfl, _, (by first | rfl | rw [glue_t] | rw [glue_5])⟩ (by k_asm) (News.sub (by k_asm) (fun q hq => (by repeat (first | exact hq | refine List.mem_cons_of_mem _ ?_ | refine List.mem_append_right _ ?_))))) | (exact re _ _ _ _ _ _ _ _ _ _ (by assumption) (by k_asm) (RaisedX.sub (by assumption) (fun q hq => (by rcases List.mem_cons.mp hq with hq | hq <;> first | (rw [hq]; exact List.mem_cons_self) | (repeat (first | exact hq | refine List.mem_cons_of_mem _ ?_ | refine List.mem_append_right _ ?_))))) (by assumption) (by assumption))
theorem jv_e (w : World) (b : Nat) (n0 : List (Addr × Obj)) (t t6 : Tok) (hk dk dv fd lg : Addr) (k1 k2 k3 k4 k5 k6 k7 w1 w2 : Tok) (bv v2 : Value) (oV : Obj) (h0 : (hk, instObj 363 dk) ∈ n0) (h1 : (dk, dictOf [ent w (Str.ofString "values") k1 (.ref dv), ent w (Str.ofString "functions") k2 (.ref fd), ent w (Str.ofString "width") k3 (.int 16 w1), ent w (Str.ofString "most_length") k4 (.int 12 w2), ent w (Str.ofString "log") k5 (.ref lg)] 5) ∈ n0) (h2 : (dv, oV) ∈ n0) (h3 : Obj.IsDictOf (PySem.strKind PySem.Challenge.rw_rh0230_01.row.prog w) oV (strPairs [(.str (Str.ofString "R") k6, bv), (.str (Str.ofString "X") k7, v2)])) (h4 : (dv == sysModules) = false) (hb : b ≤ 540): D w b 311 n0 [.ref hk, .str (Str.ofString "ab") t6, .str (Str.ofString "") t] (OV True (.str (Str.ofString "ab") t6) no) := by
  refine ⟨?_⟩
  k_fill
  intro p loose mean mg mb dp un gd cn cs a ccd cl outer A₀ base h₀ L m news s Q E S B F X N T hck hdp rq re
  have m0 := S _ h0
  have m1 := S _ h1
  have m2 := S _ h2
  refine wpAny_call ?_
  k_dflt ktr_enter
  k_steps
  all_goals first | (exact rq _ [] _ _ ⟨trivial, rfl, rfl⟩ (by k_asm) (News.sub (by k_asm) (fun q hq => (by repeat (first | exact hq | refine List.mem_cons_of_mem _ ?_ | refine List.mem_append_right _ ?_))))) | (exact re _ _ _ _ _ _ _ _ _ _ (by assumption) (by k_asm) (RaisedX.sub (by assumption) (fun q hq => (by rcases List.mem_cons.mp hq with hq | hq <;> first | (rw [hq]; exact List.mem_cons_self) | (repeat (first | exact hq | refine List.mem_cons_of_mem _ ?_ | refine List.mem_append_right _ ?_))))) (by assumption) (by assumption))
theorem told_val (w : World) (b : Nat) (n0 : List (Addr × Obj)) (tree hk lg : Addr) (O : Out) (h0 : D w (b + 5) 374 n0 [.ref tree, .ref hk] O) (h1 : ∀ v ext, O.gives v ext → D w 540 142 (ext ++ n0) [v] (OV True (.bool false) no)) (hb : b ≤ 500) : DT w b n0 tree hk lg (GVal O) := by
  refine ⟨?_⟩
  k_fill
  intro p loose mean mg mb dp un gd cn cs a ccd A₀ h₀ L m news s Q E S ap B F X N T hck hdp ret
  have hJ : excJ (KF w.params) 34 33 excBm "Exception.__new__" 31 = true := by kernel_rfl
  refine wpAny_call ?_
  k_dflt (refine' code_defS0 ?k1 ?k2 ?k3 ?k4 ?k5 ?kA ?k6 ?k7 ?k8 ?k9 ?kB ?_ ?kK ?c2 ?c3 ?c4 ?c5; (case kA => exact rfl); (case kK => assumption); (case k1 => k_asm); (case k2 => k_asm); (case k3 => k_asm); (case k4 => k_asm); (case k5 => k_asm); (case k6 => k_is); (case k7 => k_is); (case k8 => ktr_room); (case k9 => exact BindsTo.of_eq rfl); (case c5 => decide); (case kB => exact locs rfl); (case c2 => exact rfl); (case c3 => exact rfl); (case c4 => exact rfl); intro g' L' h' FG' F' N' B' X' T' D'; (try dsimp only); (try k_lift B'))
  k_steps
  all_goals first | first | (refine' fin_t ret ?cF ?cN ?cl ?ch ?cg; (case cF => k_asm); (case cN => k_asm); (case cl => k_mem); (case ch => exact fun q hq => (by repeat (first | exact hq | refine List.mem_cons_of_mem _ ?_ | refine List.mem_append_right _ ?_))); (case cg => exact ⟨rfl, Or.inl ⟨_, _, _, (by assumption), (fun q hq => by repeat (first | exact List.mem_append_left _ hq | refine List.mem_cons_of_mem _ ?_)), (by k_mem)⟩⟩)) | (refine' fin_t ret ?cF ?cN ?cl ?ch ?cg; (case cF => k_asm); (case cN => k_asm); (case cl => k_mem); (case ch => exact fun q hq => (by repeat (first | exact hq | refine List.mem_cons_of_mem _ ?_ | refine List.mem_append_right _ ?_))); (case cg => exact ⟨rfl, Or.inr ⟨_, _, _, (by assumption), (by k_mem)⟩⟩)) | skip
theorem told_fail (w : World) (b : Nat) (n0 : List (Addr × Obj)) (tree hk lg : Addr) (O : Out) (h0 : D w (b + 5) 374 n0 [.ref tree, .ref hk] O) (h1 : ∀ v ext, O.gives v ext → D w 540 142 (ext ++ n0) [v] (OV True (.bool true) no)) (hb : b ≤ 500) : DT w b n0 tree hk lg (GFail O) := by
  refine ⟨?_⟩
  k_fill
  intro p loose mean mg mb dp un gd cn cs a ccd A₀ h₀ L m news s Q E S ap B F X N T hck hdp ret
  have hJ : excJ (KF w.params) 34 33 excBm "Exception.__new__" 31 = true := by kernel_rfl
  refine wpAny_call ?_
  k_dflt (refine' code_defS0 ?k1 ?k2 ?k3 ?k4 ?k5 ?kA ?k6 ?k7 ?k8 ?k9 ?kB ?_ ?kK ?c2 ?c3 ?c4 ?c5; (case kA => exact rfl); (case kK => assumption); (case k1 => k_asm); (case k2 => k_asm); (case k3 => k_asm); (case k4 => k_asm); (case k5 => k_asm); (case k6 => k_is); (case k7 => k_is); (case k8 => ktr_room); (case k9 => exact BindsTo.of_eq rfl); (case c5 => decide); (case kB => exact locs rfl); (case c2 => exact rfl); (case c3 => exact rfl); (case c4 => exact rfl); intro g' L' h' FG' F' N' B' X' T' D'; (try dsimp only); (try k_lift B'))
  k_steps
  all_goals first | first | (refine' fin_t ret ?cF ?cN ?cl ?ch ?cg; (case cF => k_asm); (case cN => k_asm); (case cl => k_mem); (case ch => exact fun q hq => (by repeat (first | exact hq | refine List.mem_cons_of_mem _ ?_ | refine List.mem_append_right _ ?_))); (case cg => exact ⟨rfl, Or.inl ⟨_, _, _, (by assumption), (by k_mem)⟩⟩)) | (refine' fin_t ret ?cF ?cN ?cl ?ch ?cg; (case cF => k_asm); (case cN => k_asm); (case cl => k_mem); (case ch => exact fun q hq => (by repeat (first | exact hq | refine List.mem_cons_of_mem _ ?_ | refine List.mem_append_right _ ?_))); (case cg => exact ⟨rfl, Or.inr ⟨_, _, _, (by assumption), (by k_mem)⟩⟩)) | skip
theorem new_nr : ∀ (w : World) (p : Program) (loose : List Str) (mean : ExcName → Option Value) (mg mb : Str → Option Value) (dp un : Nat) (gd : Option (List Code)) (cn : Str) (cs : Scope) (a : Addr) (ccd : Value) (cl : List (Str × Addr)) (outer : List Env) (A₀ : Around) (base h₀ : Heap) (L : Addr) (m : Str → Option Value) (news : List (Addr × Obj)) (s : Shared) (Q E : Value → Shared → Prop) (kd : Str) (kt : Tok) (ow ky : Value), Below A₀ base outer h₀ → Fr h₀ L s.heap m → (KF w.params).In h₀ → News h₀ L s.heap news → Top p loose mean mg mb h₀ → cs.kind = .function → dp < 520 →
    (∀ x dx q1 q2 q3 h' tk', Fr h₀ L h' m → News h₀ L h' ((x, instObj 110 dx) :: (dx, nrDict w q1 q2 q3 kt kd ow ky) :: news) → (∀ p ∈ news, p.1 < dx) → dx < x → Q (.ref x) { s with heap := h', toks := tk' }) →
    wpAny (model PySem.Challenge.rw_rh0230_01.row.prog w) (ktrTop dp un gd cn cs L a ccd cl outer) (call (.ref 110) [.str kd kt, ow, ky]) Q E s := by
  k_fill
  intro w p loose mean mg mb dp un gd cn cs a ccd cl outer A₀ base h₀ L m news s Q E kd kt ow ky B F X N T hck hdp  ret
  k_dflt (refine' call_cls ?k1 ?k2 ?k3 ?k4 ?k5 ?k6 ?_; (case k1 => k_asm); (case k2 => k_asm); (case k3 => k_asm); (case k4 => k_is); (case k5 => k_is); (case k6 => k_is); intro x' d' h' F' N' l1 l2; (try k_lt l1); (try k_lt2 l2); ktr_enter)
  k_steps
  all_goals first | (refine' ret _ _ _ _ _ _ _ ?cF ?cN ?l0 ?l1; (case cF => k_asm); (case cN => k_asm); (case l0 => first | assumption | omega | (show (_ : Nat) < _; omega) | exact List.forall_mem_cons.mpr ⟨(by assumption : _ < _ ∧ _ < _ ∧ _).1, List.forall_mem_cons.mpr ⟨(by assumption : _ < _ ∧ _ < _ ∧ _).2.1, ktn_ltOf (by assumption : _ < _ ∧ _ < _ ∧ _).2.2⟩⟩); (case l1 => first | assumption | omega | (show (_ : Nat) < _; omega) | exact List.forall_mem_cons.mpr ⟨(by assumption : _ < _ ∧ _ < _ ∧ _).1, List.forall_mem_cons.mpr ⟨(by assumption : _ < _ ∧ _ < _ ∧ _).2.1, ktn_ltOf (by assumption : _ < _ ∧ _ < _ ∧ _).2.2⟩⟩)) | skip
theorem new_ho : ∀ (w : World) (p : Program) (loose : List Str) (mean : ExcName → Option Value) (mg mb : Str → Option Value) (dp un : Nat) (gd : Option (List Code)) (cn : Str) (cs : Scope) (a : Addr) (ccd : Value) (cl : List (Str × Addr)) (outer : List Env) (A₀ : Around) (base h₀ : Heap) (L : Addr) (m : Str → Option Value) (news : List (Addr × Obj)) (s : Shared) (Q E : Value → Shared → Prop) (wd : Str) (kt nt : Tok) (nn : Int), Below A₀ base outer h₀ → Fr h₀ L s.heap m → (KF w.params).In h₀ → News h₀ L s.heap news → Top p loose mean mg mb h₀ → cs.kind = .function → dp < 520 →
    (∀ x dx q1 q2 q3 q4 h' tk', Fr h₀ L h' m → News h₀ L h' ((x, instObj 131 dx) :: (dx, dictOf [ent w (Str.ofString "word") q1 (.str wd kt), ent w (Str.ofString "number") q2 (.int nn nt), ent w (Str.ofString "mark") q3 (.int 0 q4)] 3) :: news) → (∀ p ∈ news, p.1 < dx) → dx < x → Q (.ref x) { s with heap := h', toks := tk' }) →
    wpAny (model PySem.Challenge.rw_rh0230_01.row.prog w) (ktrTop dp un gd cn cs L a ccd cl outer) (call (.ref 131) [.str wd kt, .int nn nt]) Q E s := by
  k_fill
  intro w p loose mean mg mb dp un gd cn cs a ccd cl outer A₀ base h₀ L m news s Q E wd kt nt nn B F X N T hck hdp  ret
  k_dflt (refine' call_cls ?k1 ?k2 ?k3 ?k4 ?k5 ?k6 ?_; (case k1 => k_asm); (case k2 => k_asm); (case k3 => k_asm); (case k4 => k_is); (case k5 => k_is); (case k6 => k_is); intro x' d' h' F' N' l1 l2; (try k_lt l1); (try k_lt2 l2); ktr_enter)
  k_steps
  all_goals first | (refine' ret _ _ _ _ _ _ _ _ ?cF ?cN ?l0 ?l1; (case cF => k_asm); (case cN => k_asm); (case l0 => first | assumption | omega | (show (_ : Nat) < _; omega) | exact List.forall_mem_cons.mpr ⟨(by assumption : _ < _ ∧ _ < _ ∧ _).1, List.forall_mem_cons.mpr ⟨(by assumption : _ < _ ∧ _ < _ ∧ _).2.1, ktn_ltOf (by assumption : _ < _ ∧ _ < _ ∧ _).2.2⟩⟩); (case l1 => first | assumption | omega | (show (_ : Nat) < _; omega) | exact List.forall_mem_cons.mpr ⟨(by assumption : _ < _ ∧ _ < _ ∧ _).1, List.forall_mem_cons.mpr ⟨(by assumption : _ < _ ∧ _ < _ ∧ _).2.1, ktn_ltOf (by assumption : _ < _ ∧ _ < _ ∧ _).2.2⟩⟩)) | skip
theorem new_hk : ∀ (w : World) (p : Program) (loose : List Str) (mean : ExcName → Option Value) (mg mb : Str → Option Value) (dp un : Nat) (gd : Option (List Code)) (cn : Str) (cs : Scope) (a : Addr) (ccd : Value) (cl : List (Str × Addr)) (outer : List Env) (A₀ : Around) (base h₀ : Heap) (L : Addr) (m : Str → Option Value) (news : List (Addr × Obj)) (s : Shared) (Q E : Value → Shared → Prop) (dv fd : Addr) (w1 w2 : Tok), Below A₀ base outer h₀ → Fr h₀ L s.heap m → (KF w.params).In h₀ → News h₀ L s.heap news → Top p loose mean mg mb h₀ → cs.kind = .function → dp < 520 →
    (∀ x dx lg q1 q2 q3 q4 q5 h' tk', Fr h₀ L h' m → News h₀ L h' ((lg, listOf #[] 0) :: (x, instObj 363 dx) :: (dx, dictOf [ent w (Str.ofString "values") q1 (.ref dv), ent w (Str.ofString "functions") q2 (.ref fd), ent w (Str.ofString "width") q3 (.int 16 w1), ent w (Str.ofString "most_length") q4 (.int 12 w2), ent w (Str.ofString "log") q5 (.ref lg)] 5) :: news) → (∀ p ∈ news, p.1 < dx) → dx < x → (∀ q ∈ (x, instObj 363 dx) :: (dx, dictOf [ent w (Str.ofString "values") q1 (.ref dv), ent w (Str.ofString "functions") q2 (.ref fd), ent w (Str.ofString "width") q3 (.int 16 w1), ent w (Str.ofString "most_length") q4 (.int 12 w2), ent w (Str.ofString "log") q5 (.ref lg)] 5) :: news, q.1 < lg) → Q (.ref x) { s with heap := h', toks := tk' }) →
    wpAny (model PySem.Challenge.rw_rh0230_01.row.prog w) (ktrTop dp un gd cn cs L a ccd cl outer) (call (.ref 363) [.ref dv, .ref fd, .int 16 w1, .int 12 w2]) Q E s := by
  k_fill
  intro w p loose mean mg mb dp un gd cn cs a ccd cl outer A₀ base h₀ L m news s Q E dv fd w1 w2 B F X N T hck hdp  ret
  k_dflt (refine' call_cls ?k1 ?k2 ?k3 ?k4 ?k5 ?k6 ?_; (case k1 => k_asm); (case k2 => k_asm); (case k3 => k_asm); (case k4 => k_is); (case k5 => k_is); (case k6 => k_is); intro x' d' h' F' N' l1 l2; (try k_lt l1); (try k_lt2 l2); ktr_enter)
  k_steps
  all_goals first | (refine' ret _ _ _ _ _ _ _ _ _ _ ?cF ?cN ?l0 ?l1 ?l2; (case cF => k_asm); (case cN => k_asm); (case l0 => first | assumption | omega | (show (_ : Nat) < _; omega) | exact List.forall_mem_cons.mpr ⟨(by assumption : _ < _ ∧ _ < _ ∧ _).1, List.forall_mem_cons.mpr ⟨(by assumption : _ < _ ∧ _ < _ ∧ _).2.1, ktn_ltOf (by assumption : _ < _ ∧ _ < _ ∧ _).2.2⟩⟩); (case l1 => first | assumption | omega | (show (_ : Nat) < _; omega) | exact List.forall_mem_cons.mpr ⟨(by assumption : _ < _ ∧ _ < _ ∧ _).1, List.forall_mem_cons.mpr ⟨(by assumption : _ < _ ∧ _ < _ ∧ _).2.1, ktn_ltOf (by assumption : _ < _ ∧ _ < _ ∧ _).2.2⟩⟩); (case l2 => first | assumption | omega | (show (_ : Nat) < _; omega) | exact List.forall_mem_cons.mpr ⟨(by assumption : _ < _ ∧ _ < _ ∧ _).1, List.forall_mem_cons.mpr ⟨(by assumption : _ < _ ∧ _ < _ ∧ _).2.1, ktn_ltOf (by assumption : _ < _ ∧ _ < _ ∧ _).2.2⟩⟩)) | skip
theorem nx : ∀ (w : World) (p : Program) (loose : List Str) (mean : ExcName → Option Value) (mg mb : Str → Option Value) (dp un : Nat) (gd : Option (List Code)) (cn : Str) (cs : Scope) (a : Addr) (ccd : Value) (cl : List (Str × Addr)) (outer : List Env) (A₀ : Around) (base h₀ : Heap) (L : Addr) (m : Str → Option Value) (news : List (Addr × Obj)) (s : Shared) (Q E : Value → Shared → Prop) (fd cells : Addr) (k0 : Nat) (ut mt : Tok) (t many : Int) (ws : List Value) (ns : List Int), Below A₀ base outer h₀ → Fr h₀ L s.heap m → (KF w.params).In h₀ → News h₀ L s.heap ((fd, listOf #[.ref cells, .int t ut] 0) :: (cells, listOf ws.toArray k0) :: news) → Top p loose mean mg mb h₀ → cs.kind = .function → dp < 520 → 0 ≤ t → t ≤ 10 → 0 < many → many ≤ 9 → IntsAre ws ns → ns.length ≤ 8 → (∀ p ∈ news, p.1 ≠ fd) → cells ≠ fd →
    (∀ i it ut' h' tk', 0 ≤ i → i < many → Fr h₀ L h' m → News h₀ L h' ((fd, listOf #[.ref cells, .int (t + 1) ut'] 0) :: (cells, listOf ws.toArray k0) :: news) → Q (.int i it) { s with heap := h', toks := tk' }) →
    wpAny (model PySem.Challenge.rw_rh0230_01.row.prog w) (ktrTop dp un gd cn cs L a ccd cl outer) (call (.ref 416) [.ref fd, .int many mt]) Q E s := by
  k_fill
  intro w p loose mean mg mb dp un gd cn cs a ccd cl outer A₀ base h₀ L m news s Q E fd cells k0 ut mt t many ws ns B F X N T hck hdp h0 h1 h2 h3 h4 h5 h6 h7 ret
  refine wpAny_call ?_
  k_dflt ktr_enter
  k_steps
  all_goals first | (refine' ret _ _ _ _ _ ?g1 ?g2 ?cF ?cN; (case g1 => exact Int.fmod_nonneg_of_pos _ h2); (case g2 => exact Int.fmod_lt_of_pos _ h2); (case cF => k_asm); (case cN => k_asm)) | skip
theorem lt_lo : ∀ (w : World) (p : Program) (loose : List Str) (mean : ExcName → Option Value) (mg mb : Str → Option Value) (dp un : Nat) (gd : Option (List Code)) (cn : Str) (cs : Scope) (a : Addr) (ccd : Value) (cl : List (Str × Addr)) (outer : List Env) (A₀ : Around) (base h₀ : Heap) (L : Addr) (m : Str → Option Value) (news : List (Addr × Obj)) (s : Shared) (Q E : Value → Shared → Prop) (f : Int) (ft : Tok), Below A₀ base outer h₀ → Fr h₀ L s.heap m → (KF w.params).In h₀ → News h₀ L s.heap news → Top p loose mean mg mb h₀ → cs.kind = .function → dp < 520 → 0 ≤ f → f < 5 →
    (∀ (r : Value) (nm part tx a1 a2 a3 a4 : Addr) (t0 t1 t2 t3 t4 t5 u1 v1 u2 v2 u3 v3 u4 v4 : Tok), ∀ n1 h' tk', Fr h₀ L h' m → News h₀ L h' n1 → (∀ q ∈ news, q ∈ n1) → (nm, tup [.str (Str.ofString "name") t0, .str (Str.ofString "R") t1]) ∈ n1 → (part, tup [.str (Str.ofString "unary") t2, .str (Str.ofString "$") t3, .ref nm]) ∈ n1 → (tx, tup [.str (Str.ofString "text") t4, .str (Str.ofString "ab") t5]) ∈ n1 → (a1, tup [.str (Str.ofString "unary") u1, .str (Str.ofString ".") v1, .ref part]) ∈ n1 → (a2, tup [.str (Str.ofString "unary") u2, .str (Str.ofString "@") v2, .ref part]) ∈ n1 → (a3, tup [.str (Str.ofString "binary") u3, .str (Str.ofString ".") v3, .ref tx, .ref part]) ∈ n1 → (a4, tup [.str (Str.ofString "binary") u4, .str (Str.ofString "$") v4, .ref tx, .ref part]) ∈ n1 → #[Value.ref part, .ref a1, .ref a2, .ref a3, .ref a4][f.toNat]? = some r → Q r { s with heap := h', toks := tk' }) →
    wpAny (model PySem.Challenge.rw_rh0230_01.row.prog w) (ktrTop dp un gd cn cs L a ccd cl outer) (call (.ref 423) [.int f ft]) Q E s := by
  k_fill
  intro w p loose mean mg mb dp un gd cn cs a ccd cl outer A₀ base h₀ L m news s Q E f ft B F X N T hck hdp h0 h1 ret
  refine wpAny_call ?_
  k_dflt ktr_enter
  k_steps
  all_goals first | first | (refine' ret _ _ _ _ _ _ _ _ _ _ _ _ _ _ _ _ _ _ _ _ _ _ _ _ _ ?cF ?cN ?ch ?e0 ?e1 ?e2 ?e3 ?e4 ?e5 ?e6 ?hx; (case cF => k_asm); (case cN => k_asm); (case ch => exact fun q hq => (by repeat (first | exact hq | refine List.mem_cons_of_mem _ ?_ | refine List.mem_append_right _ ?_))); (case hx => assumption); (case e1 => k_mem); (case e0 => k_mem); (case e5 => k_mem); (case e2 => k_mem); (case e3 => k_mem); (case e4 => k_mem); (case e6 => k_mem)) | (exfalso; omega) | skip
theorem lt_hi : ∀ (w : World) (p : Program) (loose : List Str) (mean : ExcName → Option Value) (mg mb : Str → Option Value) (dp un : Nat) (gd : Option (List Code)) (cn : Str) (cs : Scope) (a : Addr) (ccd : Value) (cl : List (Str × Addr)) (outer : List Env) (A₀ : Around) (base h₀ : Heap) (L : Addr) (m : Str → Option Value) (news : List (Addr × Obj)) (s : Shared) (Q E : Value → Shared → Prop) (f : Int) (ft : Tok), Below A₀ base outer h₀ → Fr h₀ L s.heap m → (KF w.params).In h₀ → News h₀ L s.heap news → Top p loose mean mg mb h₀ → cs.kind = .function → dp < 520 → 5 ≤ f → f < 9 →
    (∀ (r : Value) (nm part tx a5 a6 ar a7 a8 : Addr) (t0 t1 t2 t3 t4 t5 u1 u2 v2 u3 v3 u4 v4 : Tok), ∀ n1 h' tk', Fr h₀ L h' m → News h₀ L h' n1 → (∀ q ∈ news, q ∈ n1) → (nm, tup [.str (Str.ofString "name") t0, .str (Str.ofString "R") t1]) ∈ n1 → (part, tup [.str (Str.ofString "unary") t2, .str (Str.ofString "$") t3, .ref nm]) ∈ n1 → (tx, tup [.str (Str.ofString "text") t4, .str (Str.ofString "ab") t5]) ∈ n1 → (a5, tup [.str (Str.ofString "join") u1, .ref tx, .ref part]) ∈ n1 → (ar, tup [.ref part]) ∈ n1 → (a6, tup [.str (Str.ofString "call") u2, .str (Str.ofString "F") v2, .ref ar]) ∈ n1 → (a7, tup [.str (Str.ofString "unary") u3, .str (Str.ofString "~") v3, .ref part]) ∈ n1 → (a8, tup [.str (Str.ofString "unary") u4, .str (Str.ofString "*") v4, .ref part]) ∈ n1 → #[Value.ref a5, .ref a6, .ref a7, .ref a8][(f - 5).toNat]? = some r → Q r { s with heap := h', toks := tk' }) →
    wpAny (model PySem.Challenge.rw_rh0230_01.row.prog w) (ktrTop dp un gd cn cs L a ccd cl outer) (call (.ref 423) [.int f ft]) Q E s := by
  k_fill
  intro w p loose mean mg mb dp un gd cn cs a ccd cl outer A₀ base h₀ L m news s Q E f ft B F X N T hck hdp h0 h1 ret
  refine wpAny_call ?_
  k_dflt ktr_enter
  k_steps
  all_goals first | first | (refine' ret _ _ _ _ _ _ _ _ _ _ _ _ _ _ _ _ _ _ _ _ _ _ _ _ _ ?cF ?cN ?ch ?e0 ?e1 ?e2 ?e3 ?e4 ?e5 ?e6 ?e7 ?hx; (case cF => k_asm); (case cN => k_asm); (case ch => exact fun q hq => (by repeat (first | exact hq | refine List.mem_cons_of_mem _ ?_ | refine List.mem_append_right _ ?_))); (case hx => assumption); (case e1 => k_mem); (case e0 => k_mem); (case e3 => k_mem); (case e2 => k_mem); (case e5 => k_mem); (case e4 => k_mem); (case e6 => k_mem); (case e7 => k_mem)) | (exfalso; omega) | skip
theorem pl_int (w : World) (b : Nat) (n0 : List (Addr × Obj)) (i : Int) (t : Tok)  (hb : b ≤ 540): D w b 428 n0 [.int i t] (OV True (.int i t) no) := by
  refine ⟨?_⟩
  k_fill
  intro p loose mean mg mb dp un gd cn cs a ccd cl outer A₀ base h₀ L m news s Q E S B F X N T hck hdp rq re
  refine wpAny_call ?_
  k_dflt ktr_enter
  k_steps
  all_goals first | (exact rq _ [] _ _ ⟨trivial, rfl, rfl⟩ (by k_asm) (News.sub (by k_asm) (fun q hq => (by repeat (first | exact hq | refine List.mem_cons_of_mem _ ?_ | refine List.mem_append_right _ ?_))))) | (exact re _ _ _ _ _ _ _ _ _ _ (by assumption) (by k_asm) (RaisedX.sub (by assumption) (fun q hq => (by rcases List.mem_cons.mp hq with hq | hq <;> first | (rw [hq]; exact List.mem_cons_self) | (repeat (first | exact hq | refine List.mem_cons_of_mem _ ?_ | refine List.mem_append_right _ ?_))))) (by assumption) (by assumption))
theorem pl_none (w : World) (b : Nat) (n0 : List (Addr × Obj))   (hb : b ≤ 540): D w b 428 n0 [.none] (OV True .none no) := by
  refine ⟨?_⟩
  k_fill
  intro p loose mean mg mb dp un gd cn cs a ccd cl outer A₀ base h₀ L m news s Q E S B F X N T hck hdp rq re
  refine wpAny_call ?_
  k_dflt ktr_enter
  k_steps
  all_goals first | (exact rq _ [] _ _ ⟨trivial, rfl, rfl⟩ (by k_asm) (News.sub (by k_asm) (fun q hq => (by repeat (first | exact hq | refine List.mem_cons_of_mem _ ?_ | refine List.mem_append_right _ ?_))))) | (exact re _ _ _ _ _ _ _ _ _ _ (by assumption) (by k_asm) (RaisedX.sub (by assumption) (fun q hq => (by rcases List.mem_cons.mp hq with hq | hq <;> first | (rw [hq]; exact List.mem_cons_self) | (repeat (first | exact hq | refine List.mem_cons_of_mem _ ?_ | refine List.mem_append_right _ ?_))))) (by assumption) (by assumption))
theorem pl_ref (w : World) (b : Nat) (n0 : List (Addr × Obj)) (x dx : Addr) (q1 q2 q3 kt q4 : Tok) (kd ky : Str) (h0 : (x, instObj 110 dx) ∈ n0) (h1 : (dx, nrDict w q1 q2 q3 kt kd .none (.str ky q4)) ∈ n0) (hb : b ≤ 540) : DN w b n0 x kd .none (.str ky q4) := by
  refine ⟨?_⟩
  k_fill
  intro p loose mean mg mb dp un gd cn cs a ccd cl outer A₀ base h₀ L m news s Q E S B F X N T hck hdp ret
  have m0 := S _ h0
  have m1 := S _ h1
  refine wpAny_call ?_
  k_dflt ktr_enter
  k_steps
  all_goals first | (refine' ret _ _ _ _ _ ?cF ?cN ?l0; (case cF => k_asm); (case cN => exact News.sub (by k_asm) (by intro q hq; rcases List.mem_cons.mp hq with e | hq; (first | (rw [e]; k_mem)); (repeat (first | exact hq | refine List.mem_cons_of_mem _ ?_)))); (case l0 => first | assumption | omega)) | skip
theorem pl_refo (w : World) (b : Nat) (n0 : List (Addr × Obj)) (x dx ho dh : Addr) (q1 q2 q3 q4 q5 q6 q7 kt wt nt yt : Tok) (kd wd : Str) (nn ky : Int) (h0 : (x, instObj 110 dx) ∈ n0) (h1 : (dx, nrDict w q1 q2 q3 kt kd (.ref ho) (.int ky yt)) ∈ n0) (h2 : (ho, instObj 131 dh) ∈ n0) (h3 : (dh, dictOf [ent w (Str.ofString "word") q4 (.str wd wt), ent w (Str.ofString "number") q5 (.int nn nt), ent w (Str.ofString "mark") q6 (.int 0 q7)] 3) ∈ n0) (hb : b ≤ 540) : DN w b n0 x kd (.int nn nt) (.int ky yt) := by
  refine ⟨?_⟩
  k_fill
  intro p loose mean mg mb dp un gd cn cs a ccd cl outer A₀ base h₀ L m news s Q E S B F X N T hck hdp ret
  have m0 := S _ h0
  have m1 := S _ h1
  have m2 := S _ h2
  have m3 := S _ h3
  refine wpAny_call ?_
  k_dflt ktr_enter
  k_steps
  all_goals first | (refine' ret _ _ _ _ _ ?cF ?cN ?l0; (case cF => k_asm); (case cN => exact News.sub (by k_asm) (by intro q hq; rcases List.mem_cons.mp hq with e | hq; (first | (rw [e]; k_mem)); (repeat (first | exact hq | refine List.mem_cons_of_mem _ ?_)))); (case l0 => first | assumption | omega)) | skip
theorem pl_del (w : World) (b : Nat) (n0 : List (Addr × Obj)) (x dx t : Addr) (q1 : Tok) (d : Dat) (h0 : (x, instObj 89 dx) ∈ n0) (h1 : (dx, dictOf [ent w (Str.ofString "tree") q1 (.ref t)] 1) ∈ n0) (h2 : DatIn n0 (.ref t) d) (hb : b ≤ 540): D w b 428 n0 [.ref x] (OD n0 (.tuple [.str (Str.ofString "delayed"), d])) := by
  refine ⟨?_⟩
  k_fill
  intro p loose mean mg mb dp un gd cn cs a ccd cl outer A₀ base h₀ L m news s Q E S B F X N T hck hdp rq re
  have m0 := S _ h0
  have m1 := S _ h1
  refine wpAny_call ?_
  k_dflt ktr_enter
  k_steps
  all_goals first | (refine' fin_g rq ?cF ?cN ?ch ?cg; (case cF => k_asm); (case cN => k_asm); (case ch => exact fun q hq => (by repeat (first | exact hq | refine List.mem_cons_of_mem _ ?_ | refine List.mem_append_right _ ?_))); (case cg => exact DatIn.tuple (List.mem_append_left _ (by k_mem)) (.cons (.str _ _) (.cons (DatIn.mono memR h2) (.nil))))) | (exact re _ _ _ _ _ _ _ _ _ _ (by assumption) (by k_asm) (RaisedX.sub (by assumption) (fun q hq => (by rcases List.mem_cons.mp hq with hq | hq <;> first | (rw [hq]; exact List.mem_cons_self) | (repeat (first | exact hq | refine List.mem_cons_of_mem _ ?_ | refine List.mem_append_right _ ?_))))) (by assumption) (by assumption))
theorem pl_pat2 (w : World) (b : Nat) (n0 : List (Addr × Obj)) (x dx nd rf : Addr) (q1 q2 : Tok) (tag kd : Str) (nv ky : Value) (h0 : (x, instObj 68 dx) ∈ n0) (h1 : (dx, dictOf [ent w (Str.ofString "node") q1 (.ref nd)] 1) ∈ n0) (h2 : (nd, tup [.str tag q2, .ref rf]) ∈ n0) (h3 : DN w (b + 5) n0 rf kd nv ky) (hb : b ≤ 540): D w b 428 n0 [.ref x] (OPn2 tag kd nv ky) := by
  refine ⟨?_⟩
  k_fill
  intro p loose mean mg mb dp un gd cn cs a ccd cl outer A₀ base h₀ L m news s Q E S B F X N T hck hdp rq re
  have m0 := S _ h0
  have m1 := S _ h1
  have m2 := S _ h2
  refine wpAny_call ?_
  k_dflt ktr_enter
  k_steps
  all_goals first | (refine' fin_g rq ?cF ?cN ?ch ?cg; (case cF => k_asm); (case cN => k_asm); (case ch => exact fun q hq => (by repeat (first | exact hq | refine List.mem_cons_of_mem _ ?_ | refine List.mem_append_right _ ?_))); (case cg => exact ⟨_, _, _, _, _, _, rfl, by k_mem, by k_mem⟩)) | (exact re _ _ _ _ _ _ _ _ _ _ (by assumption) (by k_asm) (RaisedX.sub (by assumption) (fun q hq => (by rcases List.mem_cons.mp hq with hq | hq <;> first | (rw [hq]; exact List.mem_cons_self) | (repeat (first | exact hq | refine List.mem_cons_of_mem _ ?_ | refine List.mem_append_right _ ?_))))) (by assumption) (by assumption))
theorem pl_pat3 (w : World) (b : Nat) (n0 : List (Addr × Obj)) (x dx nd ch rf : Addr) (q1 q2 : Tok) (tag kd : Str) (nv ky : Value) (cs2 : List Value) (h0 : (x, instObj 68 dx) ∈ n0) (h1 : (dx, dictOf [ent w (Str.ofString "node") q1 (.ref nd)] 1) ∈ n0) (h2 : (nd, tup [.str tag q2, .ref ch, .ref rf]) ∈ n0) (h3 : DN w (b + 5) n0 rf kd nv ky) (h4 : (ch, tup cs2) ∈ n0) (hb : b ≤ 540): D w b 428 n0 [.ref x] (OPn3 tag ch kd nv ky) := by
  refine ⟨?_⟩
  k_fill
  intro p loose mean mg mb dp un gd cn cs a ccd cl outer A₀ base h₀ L m news s Q E S B F X N T hck hdp rq re
  have m0 := S _ h0
  have m1 := S _ h1
  have m2 := S _ h2
  have m4 := S _ h4
  refine wpAny_call ?_
  k_dflt ktr_enter
  k_steps
  all_goals first | (refine' fin_g rq ?cF ?cN ?ch ?cg; (case cF => k_asm); (case cN => k_asm); (case ch => exact fun q hq => (by repeat (first | exact hq | refine List.mem_cons_of_mem _ ?_ | refine List.mem_append_right _ ?_))); (case cg => exact ⟨_, _, _, _, _, _, rfl, by k_mem, by k_mem⟩)) | (exact re _ _ _ _ _ _ _ _ _ _ (by assumption) (by k_asm) (RaisedX.sub (by assumption) (fun q hq => (by rcases List.mem_cons.mp hq with hq | hq <;> first | (rw [hq]; exact List.mem_cons_self) | (repeat (first | exact hq | refine List.mem_cons_of_mem _ ?_ | refine List.mem_append_right _ ?_))))) (by assumption) (by assumption))
theorem du_8 (w : World) (b : Nat) (n0 : List (Addr × Obj)) (bv v : Value) (f : Int) (ft : Tok) (h0 : f = 8) (hb : b ≤ 520) : DU w b n0 [.int f ft, bv, v] (OD n0 (.tuple [.tuple [.str (Str.ofString "value"), .tuple [.str (Str.ofString "delayed"), .tuple [.str (Str.ofString "unary"), .str (Str.ofString "$"), .tuple [.str (Str.ofString "name"), .str (Str.ofString "R")]]]], .list []])) := by
  refine ⟨?_⟩
  k_fill
  intro p loose mean mg mb dp un gd cn cs a ccd cl outer A₀ base h₀ L m news s Q E S B F X N T hck hdp hun rq
  refine wpAny_call ?_
  k_dflt ktr_enter
  k_steps
  all_goals first | (refine' fin_g rq ?cF ?cN ?ch ?cg; (case cF => k_asm); (case cN => k_asm); (case ch => exact fun q hq => (by repeat (first | exact hq | refine List.mem_cons_of_mem _ ?_ | refine List.mem_append_right _ ?_))); (case cg => exact by show DatIn _ _ _; walk_at "m dat")) | skip
theorem du_4 (w : World) (b : Nat) (n0 : List (Addr × Obj)) (v : Value) (f : Int) (ft bt : Tok) (h0 : f < 8) (hb : b ≤ 520) : DU w b n0 [.int f ft, .str (Str.ofString "") bt, v] (OD n0 (.tuple [.tuple [.str (Str.ofString "error"), .int 4], .list []])) := by
  refine ⟨?_⟩
  k_fill
  intro p loose mean mg mb dp un gd cn cs a ccd cl outer A₀ base h₀ L m news s Q E S B F X N T hck hdp hun rq
  refine wpAny_call ?_
  k_dflt ktr_enter
  k_steps
  all_goals first | (refine' fin_g rq ?cF ?cN ?ch ?cg; (case cF => k_asm); (case cN => k_asm); (case ch => exact fun q hq => (by repeat (first | exact hq | refine List.mem_cons_of_mem _ ?_ | refine List.mem_append_right _ ?_))); (case cg => exact by show DatIn _ _ _; walk_at "m dat")) | skip
theorem du_nX (w : World) (b : Nat) (n0 : List (Addr × Obj)) (v : Value) (f : Int) (ft bt : Tok) (h0 : 0 < f) (h1 : f < 5) (hb : b ≤ 520) : DU w b n0 [.int f ft, .str (Str.ofString "X") bt, v] (OD n0 (.tuple [.tuple [.str (Str.ofString "value"), (nodeD (.tuple [.str (Str.ofString "name"), .str (Str.ofString "var"), .none, .str (Str.ofString "X")]) f)], .list []])) := by
  refine ⟨?_⟩
  k_fill
  intro p loose mean mg mb dp un gd cn cs a ccd cl outer A₀ base h₀ L m news s Q E S B F X N T hck hdp hun rq
  refine wpAny_call ?_
  k_dflt ktr_enter
  k_steps
  all_goals first | (refine' fin_g rq ?cF ?cN ?ch ?cg; (case cF => k_asm); (case cN => k_asm); (case ch => exact fun q hq => (by repeat (first | exact hq | refine List.mem_cons_of_mem _ ?_ | refine List.mem_append_right _ ?_))); (case cg => exact by (show DatIn _ _ _; (have hf : f = 1 ∨ f = 2 ∨ f = 3 ∨ f = 4 := by omega); (rename (getElem? (_ : Array Value) _) = some _ => hz); (rcases hf with e | e | e | e <;> subst e <;> (simp only [Int.reduceSub, Int.reduceToNat, List.getElem?_toArray, List.getElem?_cons_zero, List.getElem?_cons_succ, Option.some.injEq] at hz; subst hz; simp only [nodeD_1, nodeD_2, nodeD_3, nodeD_4]; walk_at "m dat"))))) | skip
theorem du_nR (w : World) (b : Nat) (n0 : List (Addr × Obj)) (v : Value) (f : Int) (ft : Tok) (x dx : Addr) (es : List DictEntry) (ne : Nat) (kd : Str) (nv ky : Value) (dnv dky : Dat) (h0 : 0 < f) (h1 : f < 5) (h2 : (x, instObj 110 dx) ∈ n0) (h3 : (dx, dictOf es ne) ∈ n0) (h4 : DN w (b + 5) n0 x kd nv ky) (h5 : ∀ n, DatIn n nv dnv) (h6 : ∀ n, DatIn n ky dky) (hb : b ≤ 520) : DU w b n0 [.int f ft, .ref x, v] (OD n0 (.tuple [.tuple [.str (Str.ofString "value"), (nodeD (.tuple [.str (Str.ofString "name"), .str kd, dnv, dky]) f)], .list []])) := by
  refine ⟨?_⟩
  k_fill
  intro p loose mean mg mb dp un gd cn cs a ccd cl outer A₀ base h₀ L m news s Q E S B F X N T hck hdp hun rq
  have m2 := S _ h2
  have m3 := S _ h3
  refine wpAny_call ?_
  k_dflt ktr_enter
  k_steps
  all_goals first | (refine' fin_g rq ?cF ?cN ?ch ?cg; (case cF => k_asm); (case cN => k_asm); (case ch => exact fun q hq => (by repeat (first | exact hq | refine List.mem_cons_of_mem _ ?_ | refine List.mem_append_right _ ?_))); (case cg => exact by (show DatIn _ _ _; (have hf : f = 1 ∨ f = 2 ∨ f = 3 ∨ f = 4 := by omega); (rename (getElem? (_ : Array Value) _) = some _ => hz); (rcases hf with e | e | e | e <;> subst e <;> (simp only [Int.reduceSub, Int.reduceToNat, List.getElem?_toArray, List.getElem?_cons_zero, List.getElem?_cons_succ, Option.some.injEq] at hz; subst hz; simp only [nodeD_1, nodeD_2, nodeD_3, nodeD_4]; walk_at "m dat"))))) | skip
theorem du_e8 (w : World) (b : Nat) (n0 : List (Addr × Obj)) (v : Value) (f : Int) (ft : Tok) (x dx : Addr) (es : List DictEntry) (ne : Nat) (kd : Str) (nv ky : Value) (dnv dky : Dat) (h0 : f = 0 ∨ 5 ≤ f) (h1 : f < 8) (h2 : kd ≠ (Str.ofString "var")) (h3 : (x, instObj 110 dx) ∈ n0) (h4 : (dx, dictOf es ne) ∈ n0) (h5 : DN w (b + 5) n0 x kd nv ky) (h6 : ∀ n, DatIn n nv dnv) (h7 : ∀ n, DatIn n ky dky) (hb : b ≤ 520) : DU w b n0 [.int f ft, .ref x, v] (OD n0 (.tuple [.tuple [.str (Str.ofString "error"), .int 8], .list []])) := by
  refine ⟨?_⟩
  k_fill
  intro p loose mean mg mb dp un gd cn cs a ccd cl outer A₀ base h₀ L m news s Q E S B F X N T hck hdp hun rq
  have m3 := S _ h3
  have m4 := S _ h4
  refine wpAny_call ?_
  k_dflt ktr_enter
  k_steps
  all_goals first | (refine' fin_g rq ?cF ?cN ?ch ?cg; (case cF => k_asm); (case cN => k_asm); (case ch => exact fun q hq => (by repeat (first | exact hq | refine List.mem_cons_of_mem _ ?_ | refine List.mem_append_right _ ?_))); (case cg => exact by show DatIn _ _ _; walk_at "m dat")) | skip
theorem du_vX (w : World) (b : Nat) (n0 : List (Addr × Obj)) (v : Value) (f : Int) (ft bt : Tok) (dv : Dat) (h0 : f = 0 ∨ f = 6 ∨ f = 7) (h1 : ∀ n, DatIn n v dv) (hb : b ≤ 520) : DU w b n0 [.int f ft, .str (Str.ofString "X") bt, v] (OD n0 (dueV dv f)) := by
  refine ⟨?_⟩
  k_fill
  intro p loose mean mg mb dp un gd cn cs a ccd cl outer A₀ base h₀ L m news s Q E S B F X N T hck hdp hun rq
  refine wpAny_call ?_
  k_dflt ktr_enter
  k_steps
  all_goals first | (refine' fin_g rq ?cF ?cN ?ch ?cg; (case cF => k_asm); (case cN => k_asm); (case ch => exact fun q hq => (by repeat (first | exact hq | refine List.mem_cons_of_mem _ ?_ | refine List.mem_append_right _ ?_))); (case cg => exact by (show DatIn _ _ _; (have hf : f = 0 ∨ f = 6 ∨ f = 7 := by omega); (rcases hf with e | e | e <;> subst e <;> (first | (exfalso; omega) | (simp only [dueV_0, dueV_6, dueV_7]; walk_at "m dat")))))) | skip
theorem du_vR (w : World) (b : Nat) (n0 : List (Addr × Obj)) (v : Value) (f : Int) (ft : Tok) (dv : Dat) (x dx : Addr) (es : List DictEntry) (ne : Nat) (kd : Str) (nv ky : Value) (dnv dky : Dat) (h0 : f = 0 ∨ f = 6 ∨ f = 7) (h1 : ∀ n, DatIn n v dv) (h2 : kd = (Str.ofString "var")) (h3 : (x, instObj 110 dx) ∈ n0) (h4 : (dx, dictOf es ne) ∈ n0) (h5 : DN w (b + 5) n0 x kd nv ky) (h6 : ∀ n, DatIn n nv dnv) (h7 : ∀ n, DatIn n ky dky) (hb : b ≤ 520) : DU w b n0 [.int f ft, .ref x, v] (OD n0 (dueV dv f)) := by
  subst h2
  refine ⟨?_⟩
  k_fill
  intro p loose mean mg mb dp un gd cn cs a ccd cl outer A₀ base h₀ L m news s Q E S B F X N T hck hdp hun rq
  have m3 := S _ h3
  have m4 := S _ h4
  refine wpAny_call ?_
  k_dflt ktr_enter
  k_steps
  all_goals first | (refine' fin_g rq ?cF ?cN ?ch ?cg; (case cF => k_asm); (case cN => k_asm); (case ch => exact fun q hq => (by repeat (first | exact hq | refine List.mem_cons_of_mem _ ?_ | refine List.mem_append_right _ ?_))); (case cg => exact by (show DatIn _ _ _; (have hf : f = 0 ∨ f = 6 ∨ f = 7 := by omega); (rcases hf with e | e | e <;> subst e <;> (first | (exfalso; omega) | (simp only [dueV_0, dueV_6, dueV_7]; walk_at "m dat")))))) | skip
theorem du_5Xi (w : World) (b : Nat) (n0 : List (Addr × Obj)) (f : Int) (ft bt vt : Tok) (h0 : f = 5) (hb : b ≤ 520) : DU w b n0 [.int f ft, .str (Str.ofString "X") bt, .int 5 vt] (OD n0 (.tuple [.tuple [.str (Str.ofString "value"), .str (Str.ofString "ab5")], .list []])) := by
  refine ⟨?_⟩
  k_fill
  intro p loose mean mg mb dp un gd cn cs a ccd cl outer A₀ base h₀ L m news s Q E S B F X N T hck hdp hun rq
  refine wpAny_call ?_
  k_dflt ktr_enter
  k_steps
  all_goals first | (refine' fin_g rq ?cF ?cN ?ch ?cg; (case cF => k_asm); (case cN => k_asm); (case ch => exact fun q hq => (by repeat (first | exact hq | refine List.mem_cons_of_mem _ ?_ | refine List.mem_append_right _ ?_))); (case cg => exact by show DatIn _ _ _; walk_at "m dat")) | skip
theorem du_5Ri (w : World) (b : Nat) (n0 : List (Addr × Obj)) (f : Int) (ft vt : Tok) (x dx : Addr) (es : List DictEntry) (ne : Nat) (kd : Str) (nv ky : Value) (dnv dky : Dat) (h0 : f = 5) (h1 : kd = (Str.ofString "var")) (h2 : (x, instObj 110 dx) ∈ n0) (h3 : (dx, dictOf es ne) ∈ n0) (h4 : DN w (b + 5) n0 x kd nv ky) (h5 : ∀ n, DatIn n nv dnv) (h6 : ∀ n, DatIn n ky dky) (hb : b ≤ 520) : DU w b n0 [.int f ft, .ref x, .int 5 vt] (OD n0 (.tuple [.tuple [.str (Str.ofString "value"), .str (Str.ofString "ab5")], .list []])) := by
  subst h1
  refine ⟨?_⟩
  k_fill
  intro p loose mean mg mb dp un gd cn cs a ccd cl outer A₀ base h₀ L m news s Q E S B F X N T hck hdp hun rq
  have m2 := S _ h2
  have m3 := S _ h3
  refine wpAny_call ?_
  k_dflt ktr_enter
  k_steps
  all_goals first | (refine' fin_g rq ?cF ?cN ?ch ?cg; (case cF => k_asm); (case cN => k_asm); (case ch => exact fun q hq => (by repeat (first | exact hq | refine List.mem_cons_of_mem _ ?_ | refine List.mem_append_right _ ?_))); (case cg => exact by show DatIn _ _ _; walk_at "m dat")) | skip
theorem du_5Xt (w : World) (b : Nat) (n0 : List (Addr × Obj)) (f : Int) (ft bt vt : Tok) (h0 : f = 5) (hb : b ≤ 520) : DU w b n0 [.int f ft, .str (Str.ofString "X") bt, .str (Str.ofString "t") vt] (OD n0 (.tuple [.tuple [.str (Str.ofString "value"), .str (Str.ofString "abt")], .list []])) := by
  refine ⟨?_⟩
  k_fill
  intro p loose mean mg mb dp un gd cn cs a ccd cl outer A₀ base h₀ L m news s Q E S B F X N T hck hdp hun rq
  refine wpAny_call ?_
  k_dflt ktr_enter
  k_steps
  all_goals first | (refine' fin_g rq ?cF ?cN ?ch ?cg; (case cF => k_asm); (case cN => k_asm); (case ch => exact fun q hq => (by repeat (first | exact hq | refine List.mem_cons_of_mem _ ?_ | refine List.mem_append_right _ ?_))); (case cg => exact by show DatIn _ _ _; walk_at "m dat")) | skip
theorem du_5Rt (w : World) (b : Nat) (n0 : List (Addr × Obj)) (f : Int) (ft vt : Tok) (x dx : Addr) (es : List DictEntry) (ne : Nat) (kd : Str) (nv ky : Value) (dnv dky : Dat) (h0 : f = 5) (h1 : kd = (Str.ofString "var")) (h2 : (x, instObj 110 dx) ∈ n0) (h3 : (dx, dictOf es ne) ∈ n0) (h4 : DN w (b + 5) n0 x kd nv ky) (h5 : ∀ n, DatIn n nv dnv) (h6 : ∀ n, DatIn n ky dky) (hb : b ≤ 520) : DU w b n0 [.int f ft, .ref x, .str (Str.ofString "t") vt] (OD n0 (.tuple [.tuple [.str (Str.ofString "value"), .str (Str.ofString "abt")], .list []])) := by
  subst h1
  refine ⟨?_⟩
  k_fill
  intro p loose mean mg mb dp un gd cn cs a ccd cl outer A₀ base h₀ L m news s Q E S B F X N T hck hdp hun rq
  have m2 := S _ h2
  have m3 := S _ h3
  refine wpAny_call ?_
  k_dflt ktr_enter
  k_steps
  all_goals first | (refine' fin_g rq ?cF ?cN ?ch ?cg; (case cF => k_asm); (case cN => k_asm); (case ch => exact fun q hq => (by repeat (first | exact hq | refine List.mem_cons_of_mem _ ?_ | refine List.mem_append_right _ ?_))); (case cg => exact by show DatIn _ _ _; walk_at "m dat")) | skip
theorem du_5Xe (w : World) (b : Nat) (n0 : List (Addr × Obj)) (f : Int) (ft bt vt : Tok) (h0 : f = 5) (hb : b ≤ 520) : DU w b n0 [.int f ft, .str (Str.ofString "X") bt, .str (Str.ofString "") vt] (OD n0 (.tuple [.tuple [.str (Str.ofString "value"), .str (Str.ofString "ab")], .list []])) := by
  refine ⟨?_⟩
  k_fill
  intro p loose mean mg mb dp un gd cn cs a ccd cl outer A₀ base h₀ L m news s Q E S B F X N T hck hdp hun rq
  refine wpAny_call ?_
  k_dflt ktr_enter
  k_steps
  all_goals first | (refine' fin_g rq ?cF ?cN ?ch ?cg; (case cF => k_asm); (case cN => k_asm); (case ch => exact fun q hq => (by repeat (first | exact hq | refine List.mem_cons_of_mem _ ?_ | refine List.mem_append_right _ ?_))); (case cg => exact by show DatIn _ _ _; walk_at "m dat")) | skip
theorem du_5Re (w : World) (b : Nat) (n0 : List (Addr × Obj)) (f : Int) (ft vt : Tok) (x dx : Addr) (es : List DictEntry) (ne : Nat) (kd : Str) (nv ky : Value) (dnv dky : Dat) (h0 : f = 5) (h1 : kd = (Str.ofString "var")) (h2 : (x, instObj 110 dx) ∈ n0) (h3 : (dx, dictOf es ne) ∈ n0) (h4 : DN w (b + 5) n0 x kd nv ky) (h5 : ∀ n, DatIn n nv dnv) (h6 : ∀ n, DatIn n ky dky) (hb : b ≤ 520) : DU w b n0 [.int f ft, .ref x, .str (Str.ofString "") vt] (OD n0 (.tuple [.tuple [.str (Str.ofString "value"), .str (Str.ofString "ab")], .list []])) := by
  subst h1
  refine ⟨?_⟩
  k_fill
  intro p loose mean mg mb dp un gd cn cs a ccd cl outer A₀ base h₀ L m news s Q E S B F X N T hck hdp hun rq
  have m2 := S _ h2
  have m3 := S _ h3
  refine wpAny_call ?_
  k_dflt ktr_enter
  k_steps
  all_goals first | (refine' fin_g rq ?cF ?cN ?ch ?cg; (case cF => k_asm); (case cN => k_asm); (case ch => exact fun q hq => (by repeat (first | exact hq | refine List.mem_cons_of_mem _ ?_ | refine List.mem_append_right _ ?_))); (case cg => exact by show DatIn _ _ _; walk_at "m dat")) | skip
theorem lam (w : World) (b : Nat) (n0 : List (Addr × Obj)) (lam c' : Addr) (oc : Obj) (vs : Array Value) (t : Tok) (qual : Str) (pm ct : Value) (ls : Addr) (v : Value) (k : Nat) (h0 : (lam, kla_obj (Str.ofString "<lambda>") qual (lamAO lamE) (lamBO lamE) (lamSO lamE) [] pm c' ct) ∈ n0) (h1 : (c', oc) ∈ n0) (h2 : oc.data = .fields vs) (h3 : vs[1]? = some (.str qual t)) (h4 : (ls, listOf #[v] k) ∈ n0) (hb : b ≤ 540): D w b lam n0 [.ref ls] (OV True v no) := by
  refine ⟨?_⟩
  k_fill
  intro p loose mean mg mb dp un gd cn cs a ccd cl outer A₀ base h₀ L m news s Q E S B F X N T hck hdp rq re
  have m0 := S _ h0
  have m1 := S _ h1
  have m4 := S _ h4
  refine wpAny_call ?_
  k_dflt (refine' kla_code ?k1 ?k2 ?k3 ?k4 ?k5 ?kA ?kF ?kK ?k6 ?k7 ?k8 ?k9 ?kB ?_ ?c2 ?c3 ?c4 ?c5; (case kA => exact rfl); (case kF => exact rfl); (case kK => assumption); (case k1 => k_asm); (case k2 => k_asm); (case k3 => k_asm); (case k4 => k_asm); (case k5 => k_asm); (case k6 => k_mem); (case k7 => exact codeRec_news (by k_asm) (by k_mem) (by assumption) (by assumption)); (case k8 => k_room); (case k9 => exact rfl); (case c5 => decide); (case kB => exact locs rfl); (case c2 => exact rfl); (case c3 => exact rfl); (case c4 => exact rfl); k_whole; intro g' L' h' FG' F' N' B' X' T'; (try dsimp only); (try k_lift B'); (try k_fold))
  with_unfolding_all show wpAny _ _ (eval (Expr.Subscript (Expr.Name _ _) (Expr.Constant _ _ _) _) _) _ _ _
  k_steps
  all_goals first | (exact rq _ [] _ _ ⟨trivial, rfl, rfl⟩ (by k_asm) (News.sub (by k_asm) (fun q hq => (by repeat (first | exact hq | refine List.mem_cons_of_mem _ ?_ | refine List.mem_append_right _ ?_))))) | (exact re _ _ _ _ _ _ _ _ _ _ (by assumption) (by k_asm) (RaisedX.sub (by assumption) (fun q hq => (by rcases List.mem_cons.mp hq with hq | hq <;> first | (rw [hq]; exact List.mem_cons_self) | (repeat (first | exact hq | refine List.mem_cons_of_mem _ ?_ | refine List.mem_append_right _ ?_))))) (by assumption) (by assumption))
theorem told_call (w : World) (b : Nat) (n0 : List (Addr × Obj)) (tree hk lg : Addr) (ar part lam c2 : Addr) (t1 t2 k8 : Tok) (oF : Obj) (nm2 qual2 : Str) (pr2 : Arguments) (bd2 : Expr) (sc2 : Scope) (pm2 ct2 : Value) (gv : Prop) (rs : Int → Prop) (dk dv fd : Addr) (k1 k2 k3 k4 k5 k6 k7 w1 w2 : Tok) (v : Value) (oV : Obj) (h0 : (tree, tup [.str (Str.ofString "call") t1, .str (Str.ofString "F") t2, .ref ar]) ∈ n0) (h1 : (ar, tup [.ref part]) ∈ n0) (h2 : D w (b + 10) 374 n0 [.ref part, .ref hk] (OV gv v rs)) (h3 : D w 540 142 [] [v] (OV True (.bool false) no)) (h4 : (hk, instObj 363 dk) ∈ n0) (h5 : (dk, dictOf [ent w (Str.ofString "values") k1 (.ref dv), ent w (Str.ofString "functions") k2 (.ref fd), ent w (Str.ofString "width") k3 (.int 16 w1), ent w (Str.ofString "most_length") k4 (.int 12 w2), ent w (Str.ofString "log") k5 (.ref lg)] 5) ∈ n0) (h6 : (fd, oF) ∈ n0) (h7 : Obj.IsDictOf (PySem.strKind PySem.Challenge.rw_rh0230_01.row.prog w) oF (strPairs [(.str (Str.ofString "F") k8, .ref lam)])) (h8 : (fd == sysModules) = false) (h9 : LamOk w n0 lam v) (h10 : (lam, kla_obj nm2 qual2 pr2 bd2 sc2 [] pm2 c2 ct2) ∈ n0) (hb : b ≤ 500) : DT w b n0 tree hk lg (GCall gv v rs) := by
  refine ⟨?_⟩
  k_fill
  intro p loose mean mg mb dp un gd cn cs a ccd A₀ h₀ L m news s Q E S ap B F X N T hck hdp ret
  have m0 := S _ h0
  have m1 := S _ h1
  have m4 := S _ h4
  have m5 := S _ h5
  have m6 := S _ h6
  have m10 := S _ h10
  have hJ : excJ (KF w.params) 34 33 excBm "Exception.__new__" 31 = true := by kernel_rfl
  refine wpAny_call ?_
  k_dflt (refine' code_defS0 ?k1 ?k2 ?k3 ?k4 ?k5 ?kA ?k6 ?k7 ?k8 ?k9 ?kB ?_ ?kK ?c2 ?c3 ?c4 ?c5; (case kA => exact rfl); (case kK => assumption); (case k1 => k_asm); (case k2 => k_asm); (case k3 => k_asm); (case k4 => k_asm); (case k5 => k_asm); (case k6 => k_is); (case k7 => k_is); (case k8 => ktr_room); (case k9 => exact BindsTo.of_eq rfl); (case c5 => decide); (case kB => exact locs rfl); (case c2 => exact rfl); (case c3 => exact rfl); (case c4 => exact rfl); intro g' L' h' FG' F' N' B' X' T' D'; (try dsimp only); (try k_lift B'))
  k_steps
  all_goals first | first | (refine' ret _ [_, _, _] _ _ _ _ ?g ?cF ?cN; (case cF => k_asm); (case cN => k_dflt assumption); (case g => exact Or.inl ⟨(by assumption), _, _, _, _, rfl, (by k_mem), (by k_mem)⟩)) | (refine' fin_t ret ?cF ?cN ?cl ?ch ?cg; (case cF => k_asm); (case cN => k_asm); (case cl => k_mem); (case ch => exact fun q hq => (by repeat (first | exact hq | refine List.mem_cons_of_mem _ ?_ | refine List.mem_append_right _ ?_))); (case cg => exact Or.inr ⟨rfl, _, _, _, (by assumption), (by k_mem)⟩)) | skip
section
open PySem PySem.W PyProof.Rows PySem.Calls PySem.Spec
inductive Rem (x : Addr × Obj) : List (Addr × Obj) → List (Addr × Obj) → Prop
  | here (l : List (Addr × Obj)) : Rem x (x :: l) l
  | there (y : Addr × Obj) {l r : List (Addr × Obj)} : Rem x l r → Rem x (y :: l) (y :: r)
theorem Rem.has {x : Addr × Obj} {l r : List (Addr × Obj)} (h : Rem x l r) : x ∈ l := by
  induction h with
  | here l => exact .head _
  | there y _ ih => exact .tail _ ih
theorem Rem.sub {x : Addr × Obj} {l r : List (Addr × Obj)} (h : Rem x l r) : ∀ q ∈ r, q ∈ l := by
  induction h with
  | here l => exact fun q hq => .tail _ hq
  | there y _ ih =>
    intro q hq
    rcases List.mem_cons.mp hq with e | hq
    · rw [e]; exact .head _
    · exact .tail _ (ih q hq)
theorem ne_obj {h₀ h : Heap} {L a b : Addr} {oa ob : Obj} {l : List (Addr × Obj)} (N : News h₀ L h l) (ha : (a, oa) ∈ l) (hb : (b, ob) ∈ l) (hne : oa ≠ ob) : a ≠ b := fun e => by
  have h1 := (N _ ha).1
  have h2 := (N _ hb).1
  simp only at h1 h2
  rw [e, h2] at h1
  exact hne (Option.some.inj h1).symm
def seqLen (o : Obj) : Nat := match o.data with | .seq v _ => v.size | _ => 0
theorem ne_len {oa ob : Obj} (h : seqLen oa ≠ seqLen ob) : oa ≠ ob := fun e => h (congrArg seqLen e)
theorem nx_use {w : World} {p : Program} {loose : List Str} {mean : ExcName → Option Value} {mg mb : Str → Option Value} {dp un : Nat} {gd : Option (List Code)} {cn : Str} {cs : Scope} {a : Addr} {ccd : Value} {cl : List (Str × Addr)} {outer : List Env} {A₀ : Around} {base h₀ : Heap} {L : Addr} {m : Str → Option Value} {led rest : List (Addr × Obj)} {s : Shared} {Q E : Value → Shared → Prop}
    {fd cells : Addr} {k0 : Nat} {ut mt : Tok} {t many : Int} {ws : List Value} {ns : List Int}
    (B : Below A₀ base outer h₀) (F : Fr h₀ L s.heap m) (X : (KF w.params).In h₀) (N : News h₀ L s.heap led) (T : Top p loose mean mg mb h₀) (hk : cs.kind = .function) (hd : dp < 520)
    (hR : Rem (fd, listOf #[.ref cells, .int t ut] 0) led rest) (hc : (cells, listOf ws.toArray k0) ∈ rest) (ap : ∀ p ∈ rest, p.1 ≠ fd)
    (t1 : 0 ≤ t) (t2 : t ≤ 10) (m1 : 0 < many) (m2 : many ≤ 9) (hI : IntsAre ws ns) (hln : ns.length ≤ 8)
    (ret : ∀ i it ut' h' tk', 0 ≤ i → i < many → Fr h₀ L h' m → News h₀ L h' ((fd, listOf #[.ref cells, .int (t + 1) ut'] 0) :: rest) → Q (.int i it) { s with heap := h', toks := tk' }) :
    wpAny (model PySem.Challenge.rw_rh0230_01.row.prog w) (ktrTop dp un gd cn cs L a ccd cl outer) (call (.ref 416) [.ref fd, .int many mt]) Q E s :=
  nx w p loose mean mg mb dp un gd cn cs a ccd cl outer A₀ base h₀ L m rest s Q E fd cells k0 ut mt t many ws ns B F X
    (fun q hq => by
      rcases List.mem_cons.mp hq with e | hq
      · rw [e]; exact N _ hR.has
      rcases List.mem_cons.mp hq with e | hq
      · rw [e]; exact N _ (hR.sub _ hc)
      · exact N _ (hR.sub _ hq)) T hk hd t1 t2 m1 m2 hI hln ap (ap _ hc)
    (fun i it ut' h' tk' g1 g2 F' N' => ret i it ut' h' tk' g1 g2 F' (fun q hq => by
      rcases List.mem_cons.mp hq with e | hq
      · rw [e]; exact N' _ (.head _)
      · exact N' _ (.tail _ (.tail _ hq))))
theorem made_s {prog : Program} {w : World} {h₀ h : Heap} {L : Addr} {m : Str → Option Value} {news : List (Addr × Obj)} {vs : List (Value × Value)} {P : Heap → Prop} (F : Fr h₀ L h m) (N : News h₀ L h news) (hbig : h₀.NoLimit) (hk : allStrKeys vs = true) (hn : ((strPairs vs).map (·.1)).Nodup)
    (k : ∀ h' o, Fr h₀ L h' m → News h₀ L h' ((h.objs.size, o) :: news) → (∀ p ∈ news, p.1 < h.objs.size) → (h.objs.size == sysModules) = false → o.IsDictOf (PySem.strKind prog w) (strPairs vs) → P h') :
    ∃ kvs, Carries (PySem.strKind prog w) vs kvs ∧ (h.push { cls := .type "dict", data := .dict #[] }).DictOf (PySem.strKind prog w) h.objs.size [] ∧
      ∀ h', h'.DictOf (PySem.strKind prog w) h.objs.size (merged [] kvs) → Heap.SameBut h.objs.size (h.push { cls := .type "dict", data := .dict #[] }) h' → P h' :=
  made_str F N hk hn fun h' o F' N' hd => k h' o F' N' (fun p hp => Heap.lt_size (N p hp).1) (F.notModules (modules_low hbig)) hd
end
section
open PySem PySem.W PyProof.Rows PySem.Calls PySem.Spec
inductive IsTree (n : List (Addr × Obj)) : Addr → Int → Prop
  | t0 {nm part : Addr} {a b c d : Tok} : (nm, tup [.str (Str.ofString "name") a, .str (Str.ofString "R") b]) ∈ n → (part, tup [.str (Str.ofString "unary") c, .str (Str.ofString "$") d, .ref nm]) ∈ n → IsTree n part 0
  | t1 {nm part x : Addr} {a b c d u v : Tok} : (nm, tup [.str (Str.ofString "name") a, .str (Str.ofString "R") b]) ∈ n → (part, tup [.str (Str.ofString "unary") c, .str (Str.ofString "$") d, .ref nm]) ∈ n → (x, tup [.str (Str.ofString "unary") u, .str (Str.ofString ".") v, .ref part]) ∈ n → IsTree n x 1
  | t2 {nm part x : Addr} {a b c d u v : Tok} : (nm, tup [.str (Str.ofString "name") a, .str (Str.ofString "R") b]) ∈ n → (part, tup [.str (Str.ofString "unary") c, .str (Str.ofString "$") d, .ref nm]) ∈ n → (x, tup [.str (Str.ofString "unary") u, .str (Str.ofString "@") v, .ref part]) ∈ n → IsTree n x 2
  | t3 {nm part tx x : Addr} {a b c d e f u v : Tok} : (nm, tup [.str (Str.ofString "name") a, .str (Str.ofString "R") b]) ∈ n → (part, tup [.str (Str.ofString "unary") c, .str (Str.ofString "$") d, .ref nm]) ∈ n → (tx, tup [.str (Str.ofString "text") e, .str (Str.ofString "ab") f]) ∈ n → (x, tup [.str (Str.ofString "binary") u, .str (Str.ofString ".") v, .ref tx, .ref part]) ∈ n → IsTree n x 3
  | t4 {nm part tx x : Addr} {a b c d e f u v : Tok} : (nm, tup [.str (Str.ofString "name") a, .str (Str.ofString "R") b]) ∈ n → (part, tup [.str (Str.ofString "unary") c, .str (Str.ofString "$") d, .ref nm]) ∈ n → (tx, tup [.str (Str.ofString "text") e, .str (Str.ofString "ab") f]) ∈ n → (x, tup [.str (Str.ofString "binary") u, .str (Str.ofString "$") v, .ref tx, .ref part]) ∈ n → IsTree n x 4
  | t5 {nm part tx x : Addr} {a b c d e f u : Tok} : (nm, tup [.str (Str.ofString "name") a, .str (Str.ofString "R") b]) ∈ n → (part, tup [.str (Str.ofString "unary") c, .str (Str.ofString "$") d, .ref nm]) ∈ n → (tx, tup [.str (Str.ofString "text") e, .str (Str.ofString "ab") f]) ∈ n → (x, tup [.str (Str.ofString "join") u, .ref tx, .ref part]) ∈ n → IsTree n x 5
  | t6 {nm part ar x : Addr} {a b c d u v : Tok} : (nm, tup [.str (Str.ofString "name") a, .str (Str.ofString "R") b]) ∈ n → (part, tup [.str (Str.ofString "unary") c, .str (Str.ofString "$") d, .ref nm]) ∈ n → (ar, tup [.ref part]) ∈ n → (x, tup [.str (Str.ofString "call") u, .str (Str.ofString "F") v, .ref ar]) ∈ n → IsTree n x 6
  | t7 {nm part x : Addr} {a b c d u v : Tok} : (nm, tup [.str (Str.ofString "name") a, .str (Str.ofString "R") b]) ∈ n → (part, tup [.str (Str.ofString "unary") c, .str (Str.ofString "$") d, .ref nm]) ∈ n → (x, tup [.str (Str.ofString "unary") u, .str (Str.ofString "~") v, .ref part]) ∈ n → IsTree n x 7
  | t8 {nm part x : Addr} {a b c d u v : Tok} : (nm, tup [.str (Str.ofString "name") a, .str (Str.ofString "R") b]) ∈ n → (part, tup [.str (Str.ofString "unary") c, .str (Str.ofString "$") d, .ref nm]) ∈ n → (x, tup [.str (Str.ofString "unary") u, .str (Str.ofString "*") v, .ref part]) ∈ n → IsTree n x 8
theorem IsTree.mono {n n' : List (Addr × Obj)} {x : Addr} {f : Int} (h : ∀ p ∈ n, p.2.cls = .type "tuple" → p ∈ n') (t : IsTree n x f) : IsTree n' x f := by
  have g : ∀ {a : Addr} {vs : List Value}, (a, tup vs) ∈ n → (a, tup vs) ∈ n' := fun hm => h _ hm rfl
  cases t with
  | t0 h1 h2 => exact .t0 (g h1) (g h2)
  | t1 h1 h2 h3 => exact .t1 (g h1) (g h2) (g h3)
  | t2 h1 h2 h3 => exact .t2 (g h1) (g h2) (g h3)
  | t3 h1 h2 h3 h4 => exact .t3 (g h1) (g h2) (g h3) (g h4)
  | t4 h1 h2 h3 h4 => exact .t4 (g h1) (g h2) (g h3) (g h4)
  | t5 h1 h2 h3 h4 => exact .t5 (g h1) (g h2) (g h3) (g h4)
  | t6 h1 h2 h3 h4 => exact .t6 (g h1) (g h2) (g h3) (g h4)
  | t7 h1 h2 h3 => exact .t7 (g h1) (g h2) (g h3)
  | t8 h1 h2 h3 => exact .t8 (g h1) (g h2) (g h3)
theorem lt_all {w : World} {p : Program} {loose : List Str} {mean : ExcName → Option Value} {mg mb : Str → Option Value} {dp un : Nat} {gd : Option (List Code)} {cn : Str} {cs : Scope} {a : Addr} {ccd : Value} {cl : List (Str × Addr)} {outer : List Env} {A₀ : Around} {base h₀ : Heap} {L : Addr} {m : Str → Option Value} {news : List (Addr × Obj)} {s : Shared} {Q E : Value → Shared → Prop} {f : Int} {ft : Tok}
    (B : Below A₀ base outer h₀) (F : Fr h₀ L s.heap m) (X : (KF w.params).In h₀) (N : News h₀ L s.heap news) (T : Top p loose mean mg mb h₀) (hk : cs.kind = .function) (hd : dp < 520) (f0 : 0 ≤ f) (f9 : f < 9)
    (ret : ∀ tree n1 h' tk', Fr h₀ L h' m → News h₀ L h' n1 → (∀ q ∈ news, q ∈ n1) → IsTree n1 tree f → Q (.ref tree) { s with heap := h', toks := tk' }) :
    wpAny (model PySem.Challenge.rw_rh0230_01.row.prog w) (ktrTop dp un gd cn cs L a ccd cl outer) (call (.ref 423) [.int f ft]) Q E s := by
  by_cases h5 : f < 5
  · refine lt_lo w p loose mean mg mb dp un gd cn cs a ccd cl outer A₀ base h₀ L m news s Q E f ft B F X N T hk hd f0 h5 ?_
    intro r nm part tx a1 a2 a3 a4 t0 t1 t2 t3 t4 t5 u1 v1 u2 v2 u3 v3 u4 v4 n1 h' tk' F' N' S e0 e1 e2 e3 e4 e5 e6 hr
    have hf : f = 0 ∨ f = 1 ∨ f = 2 ∨ f = 3 ∨ f = 4 := by omega
    rcases hf with e | e | e | e | e <;> subst e <;> simp at hr <;> subst hr
    · exact ret _ _ _ _ F' N' S (.t0 e0 e1)
    · exact ret _ _ _ _ F' N' S (.t1 e0 e1 e3)
    · exact ret _ _ _ _ F' N' S (.t2 e0 e1 e4)
    · exact ret _ _ _ _ F' N' S (.t3 e0 e1 e2 e5)
    · exact ret _ _ _ _ F' N' S (.t4 e0 e1 e2 e6)
  · refine lt_hi w p loose mean mg mb dp un gd cn cs a ccd cl outer A₀ base h₀ L m news s Q E f ft B F X N T hk hd (by omega) f9 ?_
    intro r nm part tx a5 a6 ar a7 a8 t0 t1 t2 t3 t4 t5 u1 u2 v2 u3 v3 u4 v4 n1 h' tk' F' N' S e0 e1 e2 e3 e4 e5 e6 e7 hr
    have hf : f = 5 ∨ f = 6 ∨ f = 7 ∨ f = 8 := by omega
    rcases hf with e | e | e | e <;> subst e <;> simp at hr <;> subst hr
    · exact ret _ _ _ _ F' N' S (.t5 e0 e1 e2 e3)
    · exact ret _ _ _ _ F' N' S (.t6 e0 e1 e4 e5)
    · exact ret _ _ _ _ F' N' S (.t7 e0 e1 e6)
    · exact ret _ _ _ _ F' N' S (.t8 e0 e1 e7)
def GT (w : World) (n : List (Addr × Obj)) (how : Str) (d : Dat) (ld : List Dat) : Addr → List (Addr × Obj) → Array Value → Prop := fun r ext logs =>
  ∃ tk v, (r, tup [.str how tk, v]) ∈ ext ∧ D w 490 428 (ext ++ n) [v] (OD (ext ++ n) d) ∧ DatAll (ext ++ n) logs.toList ld
def Told (w : World) (n : List (Addr × Obj)) (tree hk lg : Addr) (how : Str) (d : Dat) (ld : List Dat) : Prop := DT w 490 n tree hk lg (GT w n how d ld)
theorem D.sub {w : World} {b : Nat} {f : Addr} {n0 n1 : List (Addr × Obj)} {args : List Value} {O : Out} (hD : D w b f n0 args O) (hs : ∀ q ∈ n0, q ∈ n1) : D w b f n1 args O := D.weak hD hs (fun _ _ h => h) (fun _ h => h)
theorem told_use {w : World} {p : Program} {loose : List Str} {mean : ExcName → Option Value} {mg mb : Str → Option Value} {dp un : Nat} {gd : Option (List Code)} {cn : Str} {cs : Scope} {a : Addr} {ccd : Value} {A₀ : Around} {h₀ : Heap} {L : Addr} {m : Str → Option Value} {news n1 : List (Addr × Obj)} {s : Shared} {Q E : Value → Shared → Prop}
    {tree hk lg : Addr} {f : Int} {how : Str} {d dd : Dat} {ld : List Dat} {dargs : List Value}
    (B : Below A₀ h₀ [] h₀) (F : Fr h₀ L s.heap m) (X : (KF w.params).In h₀) (N : News h₀ L s.heap n1) (T : Top p loose mean mg mb h₀) (hkk : cs.kind = .function) (hd : dp < 490)
    (tr : IsTree n1 tree f) (hlg : (lg, listOf #[] 0) ∈ n1) (apart : ∀ q ∈ news, q.1 ≠ lg) (sub : ∀ q ∈ news, q ∈ n1)
    (hT : ∀ rest tree, (∀ q ∈ news, q ∈ rest) → IsTree rest tree f → Told w rest tree hk lg how d ld)
    (hU : ∀ n2, (∀ q ∈ news, q ∈ n2) → DU w 490 n2 dargs (OD n2 dd))
    (ret : ∀ r n2 logs k h' tk' tk v, Fr h₀ L h' m → News h₀ L h' n2 → (lg, listOf logs k) ∈ n2 → (r, tup [.str how tk, v]) ∈ n2 → D w 490 428 n2 [v] (OD n2 d) → DatAll n2 logs.toList ld → DU w 490 n2 dargs (OD n2 dd) → (∀ q ∈ news, q ∈ n2) → Q (.ref r) { s with heap := h', toks := tk' }) :
    wpAny (model PySem.Challenge.rw_rh0230_01.row.prog w) (ktrTop dp un gd cn cs L a ccd [] []) (call (.ref 409) [.ref tree, .ref hk]) Q E s := by
  have hne : ∀ p ∈ n1, p.2.cls = .type "tuple" → p.1 ≠ lg := fun p hp hc e => by
    have h1 := (N _ hp).1
    have h2 := (N _ hlg).1
    rw [e, h2] at h1
    rw [← Option.some.inj h1] at hc
    exact absurd (Value.type.inj hc) (by decide)
  let rest := n1.filter fun p => decide (p.1 ≠ lg)
  have hin : ∀ p ∈ n1, p.1 ≠ lg → p ∈ rest := fun p hp hq => List.mem_filter.mpr ⟨hp, by simpa using hq⟩
  have hout : ∀ p ∈ rest, p ∈ n1 ∧ p.1 ≠ lg := fun p hp => ⟨(List.mem_filter.mp hp).1, by simpa using (List.mem_filter.mp hp).2⟩
  have hs : ∀ q ∈ news, q ∈ rest := fun q hq => hin q (sub q hq) (apart q hq)
  refine (hT rest tree hs (tr.mono fun p hp hc => hin p hp (hne p hp hc))).go p loose mean mg mb dp un gd cn cs a ccd A₀ h₀ L m rest s Q E (fun q h => h) (fun q hq => (hout q hq).2) B F X (fun q hq => ?_) T hkk hd ?_
  · rcases List.mem_cons.mp hq with e | hq
    · rw [e]; exact N _ hlg
    · exact N _ (hout q hq).1
  · intro r ext logs k h' tk' ⟨tk, v, hr, hD, hl⟩ F' N'
    have sb : ∀ q ∈ ext ++ rest, q ∈ ext ++ (lg, listOf logs k) :: rest := fun q hq => by
      rcases List.mem_append.mp hq with hq | hq
      · exact List.mem_append_left _ hq
      · exact List.mem_append_right _ (.tail _ hq)
    have sn : ∀ q ∈ news, q ∈ ext ++ (lg, listOf logs k) :: rest := fun q hq => List.mem_append_right _ (.tail _ (hs q hq))
    exact ret r _ logs k h' tk' tk v F' N' (List.mem_append_right _ (.head _)) (List.mem_append_left _ hr)
      (D.weak hD sb (fun v ext' hg => DatIn.mono (fun q hq => by
        rcases List.mem_append.mp hq with hq | hq
        · exact List.mem_append_left _ hq
        · exact List.mem_append_right _ (sb q hq)) hg) (fun _ h => h))
      (DatAll.mono sb hl) (hU _ sn) sn
theorem fin_eq {prog : Program} {w : World} {A : Around} {E : Value → Shared → Prop} {s : Shared} {h₀ : Heap} {L : Addr} {led na e1 n2 nb e2 : List (Addr × Obj)} {Q : Value → Shared → Prop} {D1 D2 lg : Addr} {how : Str} {tk : Tok} {v1 v2 : Value} {logs : Array Value} {k : Nat} {d : Dat} {ld : List Dat}
    (N : News h₀ L s.heap led) (m2 : (D2, tup [.ref D1, .ref lg]) ∈ led) (m1 : (D1, tup [.str how tk, v1]) ∈ led) (ml : (lg, listOf logs k) ∈ led)
    (h1 : (OD na d).gives v1 e1) (s1 : ∀ q ∈ e1 ++ na, q ∈ led) (hl : DatAll n2 logs.toList ld) (s2 : ∀ q ∈ n2, q ∈ led) (h3 : (OD nb (.tuple [.tuple [.str how, d], .list ld])).gives v2 e2) (s3 : ∀ q ∈ e2 ++ nb, q ∈ led)
    (hok : kqdOk 8 (.tuple [.tuple [.str how, d], .list ld]) = true) (hu : A.units + 64 < cLine) (hq : Q (.bool true) s) : wpAny (model prog w) A (compareOp .Eq (.ref D2) v2) Q E s :=
  dat_eq N (n₁ := led) (.tuple m2 (.cons (.tuple m1 (.cons (.str _ _) (.cons (DatIn.mono s1 h1) .nil))) (.cons (.list (vs := logs.toList) (n := k) (by simpa using ml) (hl.mono s2)) .nil))) (fun _ h => h) h3 s3 hok hu hq
end
theorem words7 : True := by
  k_with "call ref cons nil" => (k_here; (with_reducible show wpAny _ _ (call (Value.ref 110) [_, _, _]) _ _ _); k_dflt (refine' new_nr _ _ _ _ _ _ _ _ _ _ _ _ _ _ _ _ _ _ _ _ _ _ _ _ _ _ _ _ ?B ?F ?X ?N ?T ?hk ?hd  ?_; (case B => k_asm); (case F => k_asm); (case X => k_asm); (case T => k_asm);  (case N => k_asm); (case hk => exact rfl); (case hd => walk_at "m hd"); (intro x' dx' q1' q2' q3' h' tk' F' N' l1 l2; (try k_lt l1); (try k_lt2 l2); (try dsimp only))))
  k_with "call ref cons nil" => (k_here; (with_reducible show wpAny _ _ (call (Value.ref 131) [_, _]) _ _ _); k_dflt (refine' new_ho _ _ _ _ _ _ _ _ _ _ _ _ _ _ _ _ _ _ _ _ _ _ _ _ _ _ _ _ ?B ?F ?X ?N ?T ?hk ?hd  ?_; (case B => k_asm); (case F => k_asm); (case X => k_asm); (case T => k_asm);  (case N => k_asm); (case hk => exact rfl); (case hd => walk_at "m hd"); (intro x' dx' q1' q2' q3' q4' h' tk' F' N' l1 l2; (try k_lt l1); (try k_lt2 l2); (try dsimp only))))
  k_with "call ref cons nil" => (k_here; (with_reducible show wpAny _ _ (call (Value.ref 363) [_, _, _, _]) _ _ _); k_dflt (refine' new_hk _ _ _ _ _ _ _ _ _ _ _ _ _ _ _ _ _ _ _ _ _ _ _ _ _ _ _ _ ?B ?F ?X ?N ?T ?hk ?hd  ?_; (case B => k_asm); (case F => k_asm); (case X => k_asm); (case T => k_asm);  (case N => k_asm); (case hk => exact rfl); (case hd => walk_at "m hd"); (intro x' dx' lg' q1' q2' q3' q4' q5' h' tk' F' N' l1 l2 l3; (try k_lt l1); (try k_lt2 l2); (try dsimp only))))
  k_with "call ref cons nil" => (k_here; (with_reducible show wpAny _ _ (call (Value.ref 416) [_, _]) _ _ _); k_dflt (refine' nx_use ?B ?F ?X ?N ?T ?hk ?hd ?hR ?hc ?ap ?t1 ?t2 ?m1 ?m2 ?I ?ln ?_; (case B => k_asm); (case F => k_asm); (case X => k_asm); (case N => k_asm); (case T => k_asm); (case hk => exact rfl); (case hd => walk_at "m hd"); (case hR => (repeat (first | exact Rem.here _ | apply Rem.there))); (case hc => k_mem); (case ap => ((repeat (refine List.forall_mem_cons.mpr (And.intro ?_ ?_); (first | (show (_ : Nat) ≠ _; omega) | (apply Nat.ne_of_lt; (try dsimp only); omega) | (apply Nat.ne_of_gt; (try dsimp only); omega) | (show _ ≠ _; exact ne_obj (by assumption) (by k_mem) (by k_mem) (ne_len (by decide)))))); (first | exact (fun p hp => absurd hp List.not_mem_nil) | (intro p9 hp9; (have h9 := (by assumption : ∀ p ∈ _, p.1 < _) p9 hp9); exact Nat.ne_of_lt (Nat.lt_trans h9 (by show (_ : Nat) < _; omega)))))); (case t1 => omega); (case t2 => omega); (case m1 => omega); (case m2 => omega); (case I => assumption); (case ln => omega); (intro i' it' ut' h' tk' g1 g2 F' N'; (try dsimp only))))
  k_with "Exists" => (k_here; refine made_s (by k_asm) (by k_asm) (Top.nolimit (by k_asm)) (by rfl) (of_decide_eq_true (by rfl)) ?_; intro h' o' F' N' l1 lo' hd'; (try k_lt l1))
  trivial
theorem words8 : True := by
  k_with "call ref cons nil" => (k_here; (with_reducible show wpAny _ _ (call (Value.ref 435) _) _ _ _); k_dflt (refine' DU.use ?hD ?S ?B ?F ?X ?N ?T ?hk ?hd ?hu ?_; (case hD => with_reducible assumption); (case B => k_asm); (case F => k_asm); (case X => k_asm); (case N => k_asm); (case S => walk_at "m sub"); (case T => k_asm); (case hk => exact rfl); (case hd => walk_at "m hd"); (case hu => assumption); (intro v' ext' h' tk' hG' F' N'; (try dsimp only))))
  k_with "call ref cons nil" => (k_here; (with_reducible show wpAny _ _ (call (Value.ref 423) _) _ _ _); k_dflt (refine' lt_all ?B ?F ?X ?N ?T ?hk ?hd ?a ?b ?_; (case B => k_asm); (case F => k_asm); (case X => k_asm); (case N => k_asm); (case T => k_asm); (case hk => exact rfl); (case hd => walk_at "m hd"); (case a => assumption); (case b => assumption); (intro tree' n1' h' tk' F' N' S' tr'; (try dsimp only))))
  k_with "call ref cons nil" => (k_here; (with_reducible show wpAny _ _ (call (Value.ref 409) _) _ _ _); k_dflt (refine' told_use ?B ?F ?X ?N ?T ?hk ?hd ?tr ?lg ?ap ?sub ?hT ?hU ?_; (case B => k_asm); (case F => k_asm); (case X => k_asm); (case N => k_asm); (case T => k_asm); (case hk => exact rfl); (case hd => walk_at "m hd"); (case tr => assumption); (case hT => assumption); (case hU => assumption); (case ap => assumption); (case lg => exact (by assumption : ∀ q ∈ _ :: _, q ∈ _) _ (List.mem_cons_self)); (case sub => exact fun q hq => (by assumption : ∀ q ∈ _ :: _, q ∈ _) q (List.mem_cons_of_mem _ hq)); (intro r' n2' logs' k' h' tk' tk2' v' F' N' ml' mr' hD' hl' hU' sn'; (have q1 := sn' _ (by assumption : (_, instObj 363 _) ∈ _)); (have q2 := sn' _ (by assumption : (_, dictOf _ 5) ∈ _)); (have q3 := sn' _ (by assumption : ((437 : Addr), tabObj _) ∈ _)); (try dsimp only))))
  k_with "compareOp Eq ref" => (k_here; (with_reducible show wpAny _ _ (compareOp CmpOp.Eq (Value.ref _) _) _ _ _); k_dflt (refine' fin_eq ?N ?m2 ?m1 ?ml ?h1 ?s1 ?hl ?s2 ?h3 ?s3 ?hok ?hu ?_; (case N => k_asm); (case m2 => k_mem); (case m1 => k_mem); (case ml => k_mem); (case h1 => assumption); (case h3 => assumption); (case s1 => (intro q hq; rcases List.mem_append.mp hq with hq | hq <;> k_mem)); (case s3 => (intro q hq; rcases List.mem_append.mp hq with hq | hq <;> k_mem)); (case hl => assumption); (case s2 => (intro q hq; k_mem)); (case hok => assumption); (case hu => ((have hcL9 := cLine_is); (try dsimp only [ktrTop]); omega))))
  trivial
theorem law_E : ∀ (w : World) (p : Program) (loose : List Str) (mean : ExcName → Option Value) (mg mb : Str → Option Value) (dp un : Nat) (gd : Option (List Code)) (a : Addr) (A₀ : Around) (h₀ : Heap) (L : Addr) (news : List (Addr × Obj)) (s : Shared) (Q : Flow → Shared → Prop) (E : Value → Shared → Prop) (sl fdA so : Addr) (bv v : Value) (f : Int) (ft : Tok) (hk dk dv fdd lg : Addr) (k1 k2 k3 k4 k5 w1 w2 : Tok) (ps : Array Value) (how : Str) (d : Dat) (ld : List Dat) (B : Below A₀ h₀ [] h₀) (F : Fr h₀ L s.heap (fun y => if y = (Str.ofString "hooks") then some (.ref hk) else (fun y => if y = (Str.ofString "form") then some (.int f ft) else (fun y => if y = (Str.ofString "value") then some (v) else (fun y => if y = (Str.ofString "borne") then some (bv) else (fun y => if y = (Str.ofString "some") then some (.ref so) else (fun y => if y = (Str.ofString "feed") then some (.ref fdA) else (fun x => List.lookup x [((Str.ofString "script"), Value.ref sl)].reverse) y) y) y) y) y) y)) (X : (KF w.params).In h₀) (N : News h₀ L s.heap ((lg, listOf #[] 0) :: news)) (T : Top p loose mean mg mb h₀) (hdp : dp < 400) (hun : un < 1000) (C : CodeHd h₀ 441 437) (fin : ∀ h' tk' m' news' ps', Fr h₀ L h' m' → News h₀ L h' news' → (437, tabObj ps') ∈ news' → Q (.ret (.bool true)) { s with heap := h', toks := tk' }) (apart : ∀ q ∈ news, q.1 ≠ lg) (f0 : 0 ≤ f) (f9 : f < 9) (hh : (hk, instObj 363 dk) ∈ news) (hh2 : (dk, dictOf [ent w (Str.ofString "values") k1 (.ref dv), ent w (Str.ofString "functions") k2 (.ref fdd), ent w (Str.ofString "width") k3 (.int 16 w1), ent w (Str.ofString "most_length") k4 (.int 12 w2), ent w (Str.ofString "log") k5 (.ref lg)] 5) ∈ news) (hps : (437, tabObj ps) ∈ news) (hT : ∀ rest tree, (∀ q ∈ news, q ∈ rest) → IsTree rest tree f → Told w rest tree hk lg how d ld) (hU : ∀ n2, (∀ q ∈ news, q ∈ n2) → DU w 490 n2 [.int f ft, bv, v] (OD n2 (.tuple [.tuple [.str how, d], .list ld]))) (hok : kqdOk 8 (.tuple [.tuple [.str how, d], .list ld]) = true), wpAny (model PySem.Challenge.rw_rh0230_01.row.prog w) (ktrTop dp un gd (Str.ofString "law") (fnS (stAt 56)) L a (.ref 441) [] []) (execs ((fnB (stAt 56)).drop 5) (envOf (Str.ofString "law") (fnS (stAt 56)) L a (.ref 441))) Q E s := by
  k_fill
  intro w p loose mean mg mb dp un gd a A₀ h₀ L news s Q E sl fdA so bv v f ft hk dk dv fdd lg k1 k2 k3 k4 k5 w1 w2 ps how d ld B F X N T hdp hun C fin apart f0 f9 hh hh2 hps hT hU hok
  k_steps
  all_goals exact fin _ _ _ _ _ (by k_asm) (by k_asm) (by k_mem)
section
open PySem PySem.W PyProof.Rows PySem.Calls PySem.Spec
theorem DN.low {w : World} {b b' : Nat} {n0 : List (Addr × Obj)} {x : Addr} {kd : Str} {nv ky : Value} (hb : b' ≤ b) (h : DN w b n0 x kd nv ky) : DN w b' n0 x kd nv ky :=
  ⟨fun _ _ _ _ _ _ _ _ _ _ _ _ _ _ _ _ _ _ _ _ _ _ _ S B F X N T hk hd ret => h.use S B F X N T hk (Nat.lt_of_lt_of_le hd hb) ret⟩
theorem NI.low {w : World} {b b' : Nat} {n0 : List (Addr × Obj)} {nm hk : Addr} {O : Out} (hb : b' ≤ b) (h : NI w b n0 nm hk O) : NI w b' n0 nm hk O :=
  ⟨fun part t3 t4 n1 S hp => (h.go part t3 t4 n1 S hp).low hb⟩
theorem DT.weak {w : World} {b : Nat} {n0 : List (Addr × Obj)} {tree hk lg : Addr} {G G' : Addr → List (Addr × Obj) → Array Value → Prop} (h : DT w b n0 tree hk lg G) (hg : ∀ r ext logs, G r ext logs → G' r ext logs) : DT w b n0 tree hk lg G' :=
  ⟨fun p loose mean mg mb dp un gd cn cs a ccd A₀ h₀ L m news s Q E S ap B F X N T hkk hd ret => h.go p loose mean mg mb dp un gd cn cs a ccd A₀ h₀ L m news s Q E S ap B F X N T hkk hd
    (fun r ext logs k h' tk' g F' N' => ret r ext logs k h' tk' (hg r ext logs g) F' N')⟩
theorem ov_od {w : World} {b : Nat} {n : List (Addr × Obj)} {v : Value} {d : Dat} (h : D w b 428 n [v] (OV True v no)) (hd : ∀ n', DatIn n' v d) : D w b 428 n [v] (OD n d) :=
  D.weak h (fun _ h => h) (fun v' ext g => by obtain ⟨_, rfl, rfl⟩ := g; exact hd _) (fun _ h => h)
inductive Borne (w : World) (n : List (Addr × Obj)) : Value → Nat → Prop
  | r0 {x dx : Addr} {q1 q2 q3 kt yt : Tok} : (x, instObj 110 dx) ∈ n → (dx, nrDict w q1 q2 q3 kt (Str.ofString "var") .none (.str (Str.ofString "X") yt)) ∈ n → Borne w n (.ref x) 0
  | r1 {x dx : Addr} {q1 q2 q3 kt yt : Tok} : (x, instObj 110 dx) ∈ n → (dx, nrDict w q1 q2 q3 kt (Str.ofString "keyword") .none (.str (Str.ofString "X") yt)) ∈ n → Borne w n (.ref x) 1
  | r2 {x dx ho dh : Addr} {q1 q2 q3 q4 q5 q6 q7 kt yt wt nt : Tok} : (x, instObj 110 dx) ∈ n → (dx, nrDict w q1 q2 q3 kt (Str.ofString "item") (.ref ho) (.int 0 yt)) ∈ n → (ho, instObj 131 dh) ∈ n → (dh, dictOf [ent w (Str.ofString "word") q4 (.str (Str.ofString "ARRAY") wt), ent w (Str.ofString "number") q5 (.int 3 nt), ent w (Str.ofString "mark") q6 (.int 0 q7)] 3) ∈ n → Borne w n (.ref x) 2
  | r3 {x dx ho dh : Addr} {q1 q2 q3 q4 q5 q6 q7 kt yt wt nt : Tok} : (x, instObj 110 dx) ∈ n → (dx, nrDict w q1 q2 q3 kt (Str.ofString "field") (.ref ho) (.int 1 yt)) ∈ n → (ho, instObj 131 dh) ∈ n → (dh, dictOf [ent w (Str.ofString "word") q4 (.str (Str.ofString "NODE") wt), ent w (Str.ofString "number") q5 (.int 4 nt), ent w (Str.ofString "mark") q6 (.int 0 q7)] 3) ∈ n → Borne w n (.ref x) 3
  | s4 {t : Tok} : Borne w n (.str (Str.ofString "X") t) 4
  | s5 {t : Tok} : Borne w n (.str (Str.ofString "") t) 5
theorem Borne.mono {w : World} {n n' : List (Addr × Obj)} {v : Value} {k : Nat} (S : ∀ q ∈ n, q ∈ n') (h : Borne w n v k) : Borne w n' v k := by
  cases h with
  | r0 a b => exact .r0 (S _ a) (S _ b)
  | r1 a b => exact .r1 (S _ a) (S _ b)
  | r2 a b c d => exact .r2 (S _ a) (S _ b) (S _ c) (S _ d)
  | r3 a b c d => exact .r3 (S _ a) (S _ b) (S _ c) (S _ d)
  | s4 => exact .s4
  | s5 => exact .s5
inductive Val : Value → Nat → Prop
  | i {t : Tok} : Val (.int 5 t) 0
  | t {t : Tok} : Val (.str (Str.ofString "t") t) 1
  | e {t : Tok} : Val (.str (Str.ofString "") t) 2
def kdOf : Nat → Str
  | 1 => Str.ofString "keyword"
  | 2 => Str.ofString "item"
  | 3 => Str.ofString "field"
  | _ => Str.ofString "var"
def nvD : Nat → Dat
  | 2 => .int 3
  | 3 => .int 4
  | _ => .none
def kyD : Nat → Dat
  | 2 => .int 0
  | 3 => .int 1
  | _ => .str (Str.ofString "X")
def nameD (k : Nat) : Dat := .tuple [.str (Str.ofString "name"), .str (kdOf k), nvD k, kyD k]
def valD : Nat → Dat
  | 0 => .int 5
  | 1 => .str (Str.ofString "t")
  | _ => .str (Str.ofString "")
def joinD : Nat → Str
  | 0 => Str.ofString "ab5"
  | 1 => Str.ofString "abt"
  | _ => Str.ofString "ab"
def delD : Dat := .tuple [.str (Str.ofString "delayed"), .tuple [.str (Str.ofString "unary"), .str (Str.ofString "$"), .tuple [.str (Str.ofString "name"), .str (Str.ofString "R")]]]
def due (kb jv : Nat) (f : Int) : Str × Dat × List Dat :=
  if f = 8 then (Str.ofString "value", delD, []) else if kb = 5 then (Str.ofString "error", .int 4, []) else if 0 < f ∧ f < 5 then (Str.ofString "value", nodeD (nameD kb) f, [])
  else if kb = 1 ∨ kb = 2 ∨ kb = 3 then (Str.ofString "error", .int 8, []) else if f = 7 then (Str.ofString "fail", .none, []) else if f = 5 then (Str.ofString "value", .str (joinD jv), [])
  else if f = 6 then (Str.ofString "value", valD jv, [.tuple [.str (Str.ofString "F"), .int 1]]) else (Str.ofString "value", valD jv, [])
theorem Val.dat {v : Value} {j : Nat} (h : Val v j) : ∀ n, DatIn n v (valD j) := by
  intro n
  cases h with
  | i => exact .int _ _
  | t => exact .str _ _
  | e => exact .str _ _
theorem Val.fail {w : World} {v : Value} {j : Nat} (h : Val v j) (n : List (Addr × Obj)) : D w 540 142 n [v] (OV True (.bool false) no) := by
  cases h with
  | i => exact F_int w 540 n _ _ (by decide)
  | t => exact F_str w 540 n _ _ (by decide)
  | e => exact F_str w 540 n _ _ (by decide)
theorem Val.plain {w : World} {v : Value} {j : Nat} (h : Val v j) (n : List (Addr × Obj)) : D w 490 428 n [v] (OD n (valD j)) := by
  refine ov_od ?_ h.dat
  cases h with
  | i => exact pl_int w 490 n _ _ (by decide)
  | t => exact pl_str w 490 n _ _ (by decide)
  | e => exact pl_str w 490 n _ _ (by decide)
structure Hk (w : World) (n : List (Addr × Obj)) (hk lg : Addr) (bv v : Value) : Prop where
  ex : ∃ (dk dv fd lam c' : Addr) (k1 k2 k3 k4 k5 k6 k7 k8 w1 w2 : Tok) (oV oF oc : Obj) (qual : Str) (pm ct : Value) (vs : Array Value) (t : Tok),
    (hk, instObj 363 dk) ∈ n ∧ (dk, dictOf [ent w (Str.ofString "values") k1 (.ref dv), ent w (Str.ofString "functions") k2 (.ref fd), ent w (Str.ofString "width") k3 (.int 16 w1), ent w (Str.ofString "most_length") k4 (.int 12 w2), ent w (Str.ofString "log") k5 (.ref lg)] 5) ∈ n ∧
    (dv, oV) ∈ n ∧ Obj.IsDictOf (PySem.strKind PySem.Challenge.rw_rh0230_01.row.prog w) oV (strPairs [(.str (Str.ofString "R") k6, bv), (.str (Str.ofString "X") k7, v)]) ∧ (dv == sysModules) = false ∧
    (fd, oF) ∈ n ∧ Obj.IsDictOf (PySem.strKind PySem.Challenge.rw_rh0230_01.row.prog w) oF (strPairs [(.str (Str.ofString "F") k8, .ref lam)]) ∧ (fd == sysModules) = false ∧
    (lam, kla_obj (Str.ofString "<lambda>") qual (lamAO lamE) (lamBO lamE) (lamSO lamE) [] pm c' ct) ∈ n ∧ (c', oc) ∈ n ∧ oc.data = .fields vs ∧ vs[1]? = some (.str qual t)
theorem Hk.mono {w : World} {n n' : List (Addr × Obj)} {hk lg : Addr} {bv v : Value} (S : ∀ q ∈ n, q ∈ n') (h : Hk w n hk lg bv v) : Hk w n' hk lg bv v := by
  obtain ⟨dk, dv, fd, lam, c', k1, k2, k3, k4, k5, k6, k7, k8, w1, w2, oV, oF, oc, qual, pm, ct, vs, t, a1, a2, a3, a4, a5, a6, a7, a8, a9, b1, b2, b3⟩ := h.ex
  exact ⟨dk, dv, fd, lam, c', k1, k2, k3, k4, k5, k6, k7, k8, w1, w2, oV, oF, oc, qual, pm, ct, vs, t, S _ a1, S _ a2, S _ a3, a4, a5, S _ a6, a7, a8, S _ a9, S _ b1, b2, b3⟩
section
variable {w : World} {n : List (Addr × Obj)} {hk lg nm part tx : Addr} {bv v : Value} {kb jv : Nat} {a b c d e f' : Tok}
theorem wnm (H : Hk w n hk lg bv v) (h : (nm, tup [.str (Str.ofString "name") a, .str (Str.ofString "R") b]) ∈ n) : D w 520 374 n [.ref nm, .ref hk] (OV True bv no) := by
  obtain ⟨dk, dv, fd, lam, c', k1, k2, k3, k4, k5, k6, k7, k8, w1, w2, oV, oF, oc, qual, pm, ct, vs, t, a1, a2, a3, a4, a5, a6, a7, a8, a9, b1, b2, b3⟩ := H.ex
  exact w_name w 520 n nm a b hk dk dv fd lg k1 k2 k3 k4 k5 k6 k7 w1 w2 bv v oV h a1 a2 a3 a4 a5 (by decide)
structure NmOk (w : World) (n : List (Addr × Obj)) (nm hk : Addr) (kd : Str) (dn : Dat) : Prop where
  ex : ∃ (ow ky nv kyv : Value) (dnv dky : Dat), NI w 515 n nm hk (ONR w n True kd ow ky no) ∧
    (∀ n1 x dx q1 q2 q3 kt, (∀ q ∈ n, q ∈ n1) → (x, instObj 110 dx) ∈ n1 → (dx, nrDict w q1 q2 q3 kt kd ow ky) ∈ n1 → DN w 530 n1 x kd nv kyv) ∧ (∀ n1, DatIn n1 nv dnv) ∧ (∀ n1, DatIn n1 kyv dky) ∧ dn = .tuple [.str (Str.ofString "name"), .str kd, dnv, dky]
theorem nmOk (hb : Borne w n bv kb) (h4 : kb ≤ 4) (H : Hk w n hk lg bv v) (h : (nm, tup [.str (Str.ofString "name") a, .str (Str.ofString "R") b]) ∈ n) : NmOk w n nm hk (kdOf kb) (nameD kb) := by
  cases hb with
  | r0 x1 x2 => exact ⟨_, _, _, _, _, _, ⟨fun part t3 t4 n1 S hp => ni_ref w 515 n1 part nm hk t3 t4 n _ _ _ _ _ _ _ _ _ hp (wnm (H.mono S) (S _ h)) (S _ x1) (S _ x2) x1 x2 (by decide)⟩, fun n1 x dx q1 q2 q3 kt S y1 y2 => pl_ref w 530 n1 x dx q1 q2 q3 kt _ _ _ y1 y2 (by decide), fun _ => .none, fun _ => .str _ _, rfl⟩
  | r1 x1 x2 => exact ⟨_, _, _, _, _, _, ⟨fun part t3 t4 n1 S hp => ni_ref w 515 n1 part nm hk t3 t4 n _ _ _ _ _ _ _ _ _ hp (wnm (H.mono S) (S _ h)) (S _ x1) (S _ x2) x1 x2 (by decide)⟩, fun n1 x dx q1 q2 q3 kt S y1 y2 => pl_ref w 530 n1 x dx q1 q2 q3 kt _ _ _ y1 y2 (by decide), fun _ => .none, fun _ => .str _ _, rfl⟩
  | r2 x1 x2 x3 x4 => exact ⟨_, _, _, _, _, _, ⟨fun part t3 t4 n1 S hp => ni_ref w 515 n1 part nm hk t3 t4 n _ _ _ _ _ _ _ _ _ hp (wnm (H.mono S) (S _ h)) (S _ x1) (S _ x2) x1 x2 (by decide)⟩, fun n1 x dx q1 q2 q3 kt S y1 y2 => pl_refo w 530 n1 x dx _ _ q1 q2 q3 _ _ _ _ kt _ _ _ _ _ _ _ y1 y2 (S _ x3) (S _ x4) (by decide), fun _ => .int _ _, fun _ => .int _ _, rfl⟩
  | r3 x1 x2 x3 x4 => exact ⟨_, _, _, _, _, _, ⟨fun part t3 t4 n1 S hp => ni_ref w 515 n1 part nm hk t3 t4 n _ _ _ _ _ _ _ _ _ hp (wnm (H.mono S) (S _ h)) (S _ x1) (S _ x2) x1 x2 (by decide)⟩, fun n1 x dx q1 q2 q3 kt S y1 y2 => pl_refo w 530 n1 x dx _ _ q1 q2 q3 _ _ _ _ kt _ _ _ _ _ _ _ y1 y2 (S _ x3) (S _ x4) (by decide), fun _ => .int _ _, fun _ => .int _ _, rfl⟩
  | s4 => exact ⟨_, _, _, _, _, _, ⟨fun part t3 t4 n1 S hp => ni_X w 515 n1 part nm hk t3 t4 n _ hp (wnm (H.mono S) (S _ h)) (by decide)⟩, fun n1 x dx q1 q2 q3 kt S y1 y2 => pl_ref w 530 n1 x dx q1 q2 q3 kt _ _ _ y1 y2 (by decide), fun _ => .none, fun _ => .str _ _, rfl⟩
  | s5 => exact absurd h4 (by decide)
theorem ni5 (hb : Borne w n bv 5) (H : Hk w n hk lg bv v) (h : (nm, tup [.str (Str.ofString "name") a, .str (Str.ofString "R") b]) ∈ n) (O : Out) (hO : O.raises 4) : NI w 515 n nm hk O := by
  cases hb with
  | s5 => exact ⟨fun part t3 t4 n1 S hp => ni_4 w 515 n1 part nm hk t3 t4 n _ O hp (wnm (H.mono S) (S _ h)) hO (by decide)⟩
theorem partV (hb : Borne w n bv kb) (hv : kb = 0 ∨ kb = 4) (H : Hk w n hk lg bv v) (h : (nm, tup [.str (Str.ofString "name") a, .str (Str.ofString "R") b]) ∈ n) (hp : (part, tup [.str (Str.ofString "unary") c, .str (Str.ofString "$") d, .ref nm]) ∈ n) :
    D w 505 374 n [.ref part, .ref hk] (OV True v no) := by
  obtain ⟨dk, dv, fd, lam, c', k1, k2, k3, k4, k5, k6, k7, k8, w1, w2, oV, oF, oc, qual, pm, ct, vs, t, a1, a2, a3, a4, a5, a6, a7, a8, a9, b1, b2, b3⟩ := id H.ex
  refine w_un w 505 n part nm hk c d _ _ hp ?_ (by decide)
  cases hb with
  | r0 x1 x2 => exact o_var w 510 n nm d _ _ True no hk dk dv fd lg k1 k2 k3 k4 k5 k6 k7 w1 w2 _ v oV ⟨fun part t3 t4 n1 S hp => ni_ref w 515 n1 part nm hk t3 t4 n _ _ _ _ _ _ _ _ _ hp (wnm (H.mono S) (S _ h)) (S _ x1) (S _ x2) x1 x2 (by decide)⟩ a1 a2 a3 a4 a5 (by decide)
  | s4 => exact o_var w 510 n nm d _ _ True no hk dk dv fd lg k1 k2 k3 k4 k5 k6 k7 w1 w2 _ v oV ⟨fun part t3 t4 n1 S hp => ni_X w 515 n1 part nm hk t3 t4 n _ hp (wnm (H.mono S) (S _ h)) (by decide)⟩ a1 a2 a3 a4 a5 (by decide)
  | _ => omega
theorem partE (hb : Borne w n bv kb) (hv : kb ≠ 0 ∧ kb ≠ 4) (H : Hk w n hk lg bv v) (h : (nm, tup [.str (Str.ofString "name") a, .str (Str.ofString "R") b]) ∈ n) (hp : (part, tup [.str (Str.ofString "unary") c, .str (Str.ofString "$") d, .ref nm]) ∈ n) :
    D w 505 374 n [.ref part, .ref hk] (OV False v (fun k => k = if kb = 5 then 4 else 8)) := by
  refine w_un w 505 n part nm hk c d _ _ hp ?_ (by decide)
  by_cases h5 : kb = 5
  · subst h5
    obtain ⟨dk, dv, fd, lam, c', k1, k2, k3, k4, k5, k6, k7, k8, w1, w2, oV, oF, oc, qual, pm, ct, vs, t, a1, a2, a3, a4, a5, a6, a7, a8, a9, b1, b2, b3⟩ := id H.ex
    exact o_var w 510 n nm d 0 .none False _ hk dk dv fd lg k1 k2 k3 k4 k5 k6 k7 w1 w2 _ v oV (ni5 hb H h _ rfl) a1 a2 a3 a4 a5 (by decide)
  · have hle : kb ≤ 4 := by cases hb <;> first | decide | exact absurd rfl h5
    obtain ⟨ow, ky, nv, kyv, dnv, dky, hN, _⟩ := (nmOk hb hle H h).ex
    refine D.weak (o_8 w 510 n nm hk d (kdOf kb) ow ky True no hN ?_ (by decide)) (fun _ h => h) (fun _ _ h => h.elim) (fun k hk => ?_)
    · cases hb with
      | r0 => exact absurd rfl hv.1
      | r1 => decide +kernel
      | r2 => decide +kernel
      | r3 => decide +kernel
      | s4 => exact absurd rfl hv.2
      | s5 => exact absurd rfl h5
    · rcases hk with hk | hk
      · exact hk.elim
      · show k = _; rw [if_neg h5]; exact hk
end
section
variable {w : World} {n : List (Addr × Obj)} {tree hk lg : Addr} {O : Out} {d : Dat}
theorem told_ok (h : DT w 490 n tree hk lg (GVal O)) (hno : ∀ k, ¬ O.raises k) (hv : ∀ v ext n1, O.gives v ext → (∀ q ∈ ext ++ n, q ∈ n1) → D w 490 428 n1 [v] (OD n1 d)) : Told w n tree hk lg (Str.ofString "value") d [] := by
  refine DT.weak h fun r ext' logs g => ?_
  obtain ⟨rfl, ⟨v, ext, tk, hg, hs, hr⟩ | ⟨k, tk, u, hk, _⟩⟩ := g
  · exact ⟨tk, v, hr, hv v ext _ hg (fun q hq => by
      rcases List.mem_append.mp hq with hq | hq
      · exact List.mem_append_left _ (hs q hq)
      · exact List.mem_append_right _ hq), .nil⟩
  · exact absurd hk (hno k)
theorem plain_int (n1 : List (Addr × Obj)) (k : Int) (u : Tok) : D w 490 428 n1 [.int k u] (OD n1 (.int k)) := ov_od (pl_int w 490 n1 k u (by decide)) (fun _ => .int _ _)
theorem told_err {e : Int} (h : DT w 490 n tree hk lg (GVal O)) (hg : ∀ v ext, ¬ O.gives v ext) (hr : ∀ k, O.raises k → k = e) : Told w n tree hk lg (Str.ofString "error") (.int e) [] := by
  refine DT.weak h fun r ext' logs g => ?_
  obtain ⟨rfl, ⟨v, ext, tk, hg', hs, hr'⟩ | ⟨k, tk, u, hk, hm⟩⟩ := g
  · exact absurd hg' (hg v ext)
  · obtain rfl := hr k hk
    exact ⟨tk, _, hm, plain_int _ _ _, .nil⟩
theorem told_fok (h : DT w 490 n tree hk lg (GFail O)) (hno : ∀ k, ¬ O.raises k) : Told w n tree hk lg (Str.ofString "fail") .none [] := by
  refine DT.weak h fun r ext' logs g => ?_
  obtain ⟨rfl, ⟨v, ext, tk, hg, hr⟩ | ⟨k, tk, u, hk, _⟩⟩ := g
  · exact ⟨tk, _, hr, ov_od (pl_none w 490 _ (by decide)) (fun _ => .none), .nil⟩
  · exact absurd hk (hno k)
theorem told_ferr {e : Int} (h : DT w 490 n tree hk lg (GFail O)) (hg : ∀ v ext, ¬ O.gives v ext) (hr : ∀ k, O.raises k → k = e) : Told w n tree hk lg (Str.ofString "error") (.int e) [] := by
  refine DT.weak h fun r ext' logs g => ?_
  obtain ⟨rfl, ⟨v, ext, tk, hg', hr'⟩ | ⟨k, tk, u, hk, hm⟩⟩ := g
  · exact absurd hg' (hg v ext)
  · obtain rfl := hr k hk
    exact ⟨tk, _, hm, plain_int _ _ _, .nil⟩
end
end
section
open PySem PySem.W PyProof.Rows PySem.Calls PySem.Spec
section
variable {w : World} {n : List (Addr × Obj)} {x hk lg nm part tx : Addr} {bv v : Value} {kb jv : Nat} {a b c d e f' : Tok}
theorem Borne.kinds (h : Borne w n bv kb) : kb = 0 ∨ kb = 1 ∨ kb = 2 ∨ kb = 3 ∨ kb = 4 ∨ kb = 5 := by cases h <;> decide
theorem nmPlain {kd : Str} {ow ky nv kyv : Value} {dnv dky : Dat} {n1 : List (Addr × Obj)} {y : Addr}
    (h : DN w 530 n1 y kd nv kyv) (h1 : ∀ n1, DatIn n1 nv dnv) (h2 : ∀ n1, DatIn n1 kyv dky) : D w 490 428 n1 [.ref y] (OD n1 (.tuple [.str (Str.ofString "name"), .str kd, dnv, dky])) :=
  D.weak (DN.toD (h.low (by decide))) (fun _ h => h) (fun r ext g => ONm.dat g (h1 _) (h2 _)) (fun _ h => h)
theorem tDot (hb : Borne w n bv kb) (H : Hk w n hk lg bv v) (h : (nm, tup [.str (Str.ofString "name") a, .str (Str.ofString "R") b]) ∈ n) (hp : (part, tup [.str (Str.ofString "unary") c, .str (Str.ofString "$") d, .ref nm]) ∈ n)
    (hx : (x, tup [.str (Str.ofString "unary") e, .str (Str.ofString ".") f', .ref part]) ∈ n) : Told w n x hk lg (due kb jv 1).1 (due kb jv 1).2.1 (due kb jv 1).2.2 := by
  by_cases h5 : kb = 5
  · subst h5
    refine told_err (e := 4) (told_val w 490 n x hk lg _ (w_un w 495 n x part hk e f' _ _ hx (o_dot w 500 n part nm hk f' c d (Str.ofString "var") .none .none False (fun k => k = 4) hp ((ni5 hb H h _ rfl).low (by decide)) (by decide)) (by decide)) (fun _ _ g => g.1.elim) (by decide)) (fun _ _ g => g.1.elim) (fun _ hk => hk)
  · have h4 : kb ≤ 4 := by rcases hb.kinds with e | e | e | e | e | e <;> omega
    obtain ⟨ow, ky, nv, kyv, dnv, dky, hN, hP, h1, h2, hd⟩ := (nmOk hb h4 H h).ex
    have hdue : due kb jv 1 = (Str.ofString "value", nameD kb, []) := by rcases hb.kinds with rfl | rfl | rfl | rfl | rfl | rfl <;> first | rfl | exact absurd rfl h5
    rw [hdue, hd]
    refine told_ok (told_val w 490 n x hk lg _ (w_un w 495 n x part hk e f' _ _ hx (o_dot w 500 n part nm hk f' c d _ _ _ True no hp (hN.low (by decide)) (by decide)) (by decide)) (fun v' ext g => ?_) (by decide)) (fun _ hk => hk) (fun v' ext n1 g S => ?_)
    · obtain ⟨_, y, dy, q1, q2, q3, kt, rfl, m1, m2⟩ := g
      exact F_nr w 540 _ y dy _ _ m1 m2 (by decide)
    · obtain ⟨_, y, dy, q1, q2, q3, kt, rfl, m1, m2⟩ := g
      exact nmPlain (ow := ow) (ky := ky) (hP n1 y dy q1 q2 q3 kt (fun q hq => S q (List.mem_append_right _ hq)) (S _ m1) (S _ m2)) h1 h2
theorem tAt (hb : Borne w n bv kb) (H : Hk w n hk lg bv v) (h : (nm, tup [.str (Str.ofString "name") a, .str (Str.ofString "R") b]) ∈ n) (hp : (part, tup [.str (Str.ofString "unary") c, .str (Str.ofString "$") d, .ref nm]) ∈ n)
    (hx : (x, tup [.str (Str.ofString "unary") e, .str (Str.ofString "@") f', .ref part]) ∈ n) : Told w n x hk lg (due kb jv 2).1 (due kb jv 2).2.1 (due kb jv 2).2.2 := by
  by_cases h5 : kb = 5
  · subst h5
    refine told_err (e := 4) (told_val w 490 n x hk lg _ (w_un w 495 n x part hk e f' _ _ hx (o_at w 500 n part nm hk f' c d (Str.ofString "var") .none .none False (fun k => k = 4) hp ((ni5 hb H h _ rfl).low (by decide)) (by decide)) (by decide)) (fun _ _ g => g.1.elim) (by decide)) (fun _ _ g => g.1.elim) (fun _ hk => hk)
  · have h4 : kb ≤ 4 := by rcases hb.kinds with e | e | e | e | e | e <;> omega
    obtain ⟨ow, ky, nv, kyv, dnv, dky, hN, hP, h1, h2, hd⟩ := (nmOk hb h4 H h).ex
    have hdue : due kb jv 2 = (Str.ofString "value", nodeD (nameD kb) 2, []) := by rcases hb.kinds with rfl | rfl | rfl | rfl | rfl | rfl <;> first | rfl | exact absurd rfl h5
    rw [hdue, hd, nodeD_2]
    refine told_ok (told_val w 490 n x hk lg _ (w_un w 495 n x part hk e f' _ _ hx (o_at w 500 n part nm hk f' c d _ _ _ True no hp (hN.low (by decide)) (by decide)) (by decide)) (fun v' ext g => ?_) (by decide)) (fun _ hk => hk) (fun v' ext n1 g S => ?_)
    · obtain ⟨_, z, dz, nd, q0, q4, y, dy, q1, q2, q3, kt, rfl, m1, m2, m3, m4, m5⟩ := g
      exact F_pat w 540 _ z dz _ _ m1 m2 (by decide)
    · obtain ⟨_, z, dz, nd, q0, q4, y, dy, q1, q2, q3, kt, rfl, m1, m2, m3, m4, m5⟩ := g
      refine D.weak (pl_pat2 w 490 n1 z dz nd y q0 q4 _ _ nv kyv (S _ m1) (S _ m2) (S _ m3) ((hP n1 y dy q1 q2 q3 kt (fun q hq => S q (List.mem_append_right _ hq)) (S _ m4) (S _ m5)).low (by decide)) (by decide)) (fun _ h => h) (fun r ext' g' => ?_) (fun _ h => h)
      obtain ⟨z', nr, p0, p1, p2, p3, rfl, e1, e2⟩ := g'
      exact .tuple (List.mem_append_left _ e1) (.cons (.str _ _) (.cons (.str _ _) (.cons (.tuple (List.mem_append_left _ e2) (.cons (.str _ _) (.cons (.str _ _) (.cons (h1 _) (.cons (h2 _) .nil))))) .nil)))
theorem plDat {kd tag : Str} {ow ky nv kyv : Value} {dnv dky : Dat} {gv : Prop} {rs : Int → Prop} (hP : ∀ n1 x dx q1 q2 q3 kt, (∀ q ∈ n, q ∈ n1) → (x, instObj 110 dx) ∈ n1 → (dx, nrDict w q1 q2 q3 kt kd ow ky) ∈ n1 → DN w 530 n1 x kd nv kyv) (h1 : ∀ n1, DatIn n1 nv dnv) (h2 : ∀ n1, DatIn n1 kyv dky)
    (v' : Value) (ext n1 : List (Addr × Obj)) (g : (OPl w n gv tag kd ow ky rs).gives v' ext) (S : ∀ q ∈ ext ++ n, q ∈ n1) :
    D w 490 428 n1 [v'] (OD n1 (.tuple [.str (Str.ofString "pattern"), .str tag, .tuple [.str (Str.ofString "chars"), .str (Str.ofString "ab")], .tuple [.str (Str.ofString "name"), .str kd, dnv, dky]])) := by
  obtain ⟨_, z, dz, nd, ch, q0, q4, q5, q6, y, dy, q1, q2, q3, kt, rfl, m1, m2, m3, m4, m5, m6⟩ := g
  refine D.weak (pl_pat3 w 490 n1 z dz nd ch y q0 q4 _ _ nv kyv _ (S _ m1) (S _ m2) (S _ m3) ((hP n1 y dy q1 q2 q3 kt (fun q hq => S q (List.mem_append_right _ hq)) (S _ m5) (S _ m6)).low (by decide)) (S _ m4) (by decide)) (fun _ h => h) (fun r ext' g' => ?_) (fun _ h => h)
  obtain ⟨z', nr, p0, p1, p2, p3, rfl, e1, e2⟩ := g'
  exact .tuple (List.mem_append_left _ e1) (.cons (.str _ _) (.cons (.str _ _) (.cons (.tuple (List.mem_append_right _ (S _ m4)) (.cons (.str _ _) (.cons (.str _ _) .nil))) (.cons (.tuple (List.mem_append_left _ e2) (.cons (.str _ _) (.cons (.str _ _) (.cons (h1 _) (.cons (h2 _) .nil))))) .nil))))
theorem plFail {kd tag : Str} {ow ky : Value} {gv : Prop} {rs : Int → Prop} (v' : Value) (ext : List (Addr × Obj)) (g : (OPl w n gv tag kd ow ky rs).gives v' ext) : D w 540 142 (ext ++ n) [v'] (OV True (.bool false) no) := by
  obtain ⟨_, z, dz, nd, ch, q0, q4, q5, q6, y, dy, q1, q2, q3, kt, rfl, m1, m2, m3, m4, m5, m6⟩ := g
  exact F_pat w 540 _ z dz _ _ m1 m2 (by decide)
theorem tLater {g1 g2 : Tok} (hb : Borne w n bv kb) (H : Hk w n hk lg bv v) (h : (nm, tup [.str (Str.ofString "name") a, .str (Str.ofString "R") b]) ∈ n) (hp : (part, tup [.str (Str.ofString "unary") c, .str (Str.ofString "$") d, .ref nm]) ∈ n)
    (ht : (tx, tup [.str (Str.ofString "text") g1, .str (Str.ofString "ab") g2]) ∈ n) (hx : (x, tup [.str (Str.ofString "binary") e, .str (Str.ofString ".") f', .ref tx, .ref part]) ∈ n) : Told w n x hk lg (due kb jv 3).1 (due kb jv 3).2.1 (due kb jv 3).2.2 := by
  have hw : D w 505 374 n [.ref tx, .ref hk] (OV True (.str (Str.ofString "ab") g2) no) := Mine.w_text w 505 n tx hk g1 g2 ht (by decide)
  by_cases h5 : kb = 5
  · subst h5
    refine told_err (e := 4) (told_val w 490 n x hk lg _ (w_bin w 495 n x tx part hk e f' _ _ hx (two_later w 500 n x tx part nm hk e f' c d g2 (Str.ofString "var") .none .none False (fun k => k = 4) hx hp hw ((ni5 hb H h _ rfl).low (by decide)) (by decide)) (by decide)) (fun _ _ g => g.1.elim) (by decide)) (fun _ _ g => g.1.elim) (fun _ hk => hk)
  · have h4 : kb ≤ 4 := by rcases hb.kinds with e | e | e | e | e | e <;> omega
    obtain ⟨ow, ky, nv, kyv, dnv, dky, hN, hP, h1, h2, hd⟩ := (nmOk hb h4 H h).ex
    have hdue : due kb jv 3 = (Str.ofString "value", nodeD (nameD kb) 3, []) := by rcases hb.kinds with rfl | rfl | rfl | rfl | rfl | rfl <;> first | rfl | exact absurd rfl h5
    rw [hdue, hd, nodeD_3]
    exact told_ok (told_val w 490 n x hk lg _ (w_bin w 495 n x tx part hk e f' _ _ hx (two_later w 500 n x tx part nm hk e f' c d g2 _ _ _ True no hx hp hw (hN.low (by decide)) (by decide)) (by decide)) plFail (by decide)) (fun _ hk => hk) (plDat hP h1 h2)
theorem tNow {g1 g2 : Tok} (hb : Borne w n bv kb) (H : Hk w n hk lg bv v) (h : (nm, tup [.str (Str.ofString "name") a, .str (Str.ofString "R") b]) ∈ n) (hp : (part, tup [.str (Str.ofString "unary") c, .str (Str.ofString "$") d, .ref nm]) ∈ n)
    (ht : (tx, tup [.str (Str.ofString "text") g1, .str (Str.ofString "ab") g2]) ∈ n) (hx : (x, tup [.str (Str.ofString "binary") e, .str (Str.ofString "$") f', .ref tx, .ref part]) ∈ n) : Told w n x hk lg (due kb jv 4).1 (due kb jv 4).2.1 (due kb jv 4).2.2 := by
  have hw : D w 505 374 n [.ref tx, .ref hk] (OV True (.str (Str.ofString "ab") g2) no) := Mine.w_text w 505 n tx hk g1 g2 ht (by decide)
  by_cases h5 : kb = 5
  · subst h5
    refine told_err (e := 4) (told_val w 490 n x hk lg _ (w_bin w 495 n x tx part hk e f' _ _ hx (two_now w 500 n x tx part nm hk e f' c d g2 (Str.ofString "var") .none .none False (fun k => k = 4) hx hp hw ((ni5 hb H h _ rfl).low (by decide)) (by decide)) (by decide)) (fun _ _ g => g.1.elim) (by decide)) (fun _ _ g => g.1.elim) (fun _ hk => hk)
  · have h4 : kb ≤ 4 := by rcases hb.kinds with e | e | e | e | e | e <;> omega
    obtain ⟨ow, ky, nv, kyv, dnv, dky, hN, hP, h1, h2, hd⟩ := (nmOk hb h4 H h).ex
    have hdue : due kb jv 4 = (Str.ofString "value", nodeD (nameD kb) 4, []) := by rcases hb.kinds with rfl | rfl | rfl | rfl | rfl | rfl <;> first | rfl | exact absurd rfl h5
    rw [hdue, hd, nodeD_4]
    exact told_ok (told_val w 490 n x hk lg _ (w_bin w 495 n x tx part hk e f' _ _ hx (two_now w 500 n x tx part nm hk e f' c d g2 _ _ _ True no hx hp hw (hN.low (by decide)) (by decide)) (by decide)) plFail (by decide)) (fun _ hk => hk) (plDat hP h1 h2)
theorem tStar (h : (nm, tup [.str (Str.ofString "name") a, .str (Str.ofString "R") b]) ∈ n) (hp : (part, tup [.str (Str.ofString "unary") c, .str (Str.ofString "$") d, .ref nm]) ∈ n)
    (hx : (x, tup [.str (Str.ofString "unary") e, .str (Str.ofString "*") f', .ref part]) ∈ n) : Told w n x hk lg (due kb jv 8).1 (due kb jv 8).2.1 (due kb jv 8).2.2 := by
  show Told w n x hk lg (Str.ofString "value") delD []
  refine told_ok (told_val w 490 n x hk lg _ (w_un w 495 n x part hk e f' _ _ hx (o_star w 500 n part hk f' (by decide)) (by decide)) (fun v' ext g => ?_) (by decide)) (fun _ hk => hk) (fun v' ext n1 g S => ?_)
  · obtain ⟨z, dz, q0, rfl, m1, m2⟩ := g
    exact F_del w 540 _ z dz _ _ (List.mem_append_left _ m1) (List.mem_append_left _ m2) (by decide)
  · obtain ⟨z, dz, q0, rfl, m1, m2⟩ := g
    have s := fun q hq => S q (List.mem_append_right ext hq)
    exact pl_del w 490 n1 z dz part q0 _ (S _ (List.mem_append_left _ m1)) (S _ (List.mem_append_left _ m2)) (.tuple (s _ hp) (.cons (.str _ _) (.cons (.str _ _) (.cons (.tuple (s _ h) (.cons (.str _ _) (.cons (.str _ _) .nil))) .nil)))) (by decide)
def errOf (kb : Nat) : Int := if kb = 5 then 4 else 8
theorem due_err (hb : Borne w n bv kb) (hv : kb ≠ 0 ∧ kb ≠ 4) (f : Int) (hf : f = 0 ∨ f = 5 ∨ f = 6 ∨ f = 7) : due kb jv f = (Str.ofString "error", .int (errOf kb), []) := by
  rcases hb.kinds with rfl | rfl | rfl | rfl | rfl | rfl <;> first | exact absurd rfl hv.1 | exact absurd rfl hv.2 | (rcases hf with rfl | rfl | rfl | rfl <;> rfl)
theorem partW (hb : Borne w n bv kb) (H : Hk w n hk lg bv v) (h : (nm, tup [.str (Str.ofString "name") a, .str (Str.ofString "R") b]) ∈ n) (hp : (part, tup [.str (Str.ofString "unary") c, .str (Str.ofString "$") d, .ref nm]) ∈ n) :
    ((kb = 0 ∨ kb = 4) ∧ D w 505 374 n [.ref part, .ref hk] (OV True v no)) ∨ ((kb ≠ 0 ∧ kb ≠ 4) ∧ D w 505 374 n [.ref part, .ref hk] (OV False v (fun k => k = errOf kb))) := by
  by_cases hv : kb = 0 ∨ kb = 4
  · exact .inl ⟨hv, partV hb hv H h hp⟩
  · have hv' : kb ≠ 0 ∧ kb ≠ 4 := ⟨fun e => hv (.inl e), fun e => hv (.inr e)⟩
    exact .inr ⟨hv', partE hb hv' H h hp⟩
theorem tPart (hb : Borne w n bv kb) (hj : Val v jv) (H : Hk w n hk lg bv v) (h : (nm, tup [.str (Str.ofString "name") a, .str (Str.ofString "R") b]) ∈ n) (hp : (part, tup [.str (Str.ofString "unary") c, .str (Str.ofString "$") d, .ref nm]) ∈ n) :
    Told w n part hk lg (due kb jv 0).1 (due kb jv 0).2.1 (due kb jv 0).2.2 := by
  rcases partW hb H h hp with ⟨hv, hD⟩ | ⟨hv, hD⟩
  · have hdue : due kb jv 0 = (Str.ofString "value", valD jv, []) := by rcases hv with rfl | rfl <;> rfl
    rw [hdue]
    refine told_ok (told_val w 490 n part hk lg _ (hD.low (by decide)) (fun v' ext g => ?_) (by decide)) (fun _ hk => hk) (fun v' ext n1 g S => ?_)
    · obtain ⟨_, rfl, rfl⟩ := g; exact hj.fail _
    · obtain ⟨_, rfl, rfl⟩ := g; exact hj.plain _
  · rw [due_err hb hv 0 (.inl rfl)]
    exact told_err (told_val w 490 n part hk lg _ (hD.low (by decide)) (fun _ _ g => g.1.elim) (by decide)) (fun _ _ g => g.1.elim) (fun _ hk => hk)
theorem jvAll {t6 : Tok} (hj : Val v jv) (H : Hk w n hk lg bv v) : D w 505 311 n [.ref hk, .str (Str.ofString "ab") t6, v] (OVP True (fun y => ∃ q, y = .str (joinD jv) q) no) := by
  obtain ⟨dk, dv, fd, lam, c', k1, k2, k3, k4, k5, k6, k7, k8, w1, w2, oV, oF, oc, qual, pm, ct, vs, t, a1, a2, a3, a4, a5, a6, a7, a8, a9, b1, b2, b3⟩ := H.ex
  cases hj with
  | i => exact D.weak (jv_i w 505 n _ t6 hk dk dv fd lg k1 k2 k3 k4 k5 k6 k7 w1 w2 bv _ oV a1 a2 a3 a4 a5 (by decide)) (fun _ h => h) (fun y ext g => ⟨trivial, g.1, g.2⟩) (fun _ h => h)
  | t => exact D.weak (jv_t w 505 n _ t6 hk dk dv fd lg k1 k2 k3 k4 k5 k6 k7 w1 w2 bv _ oV a1 a2 a3 a4 a5 (by decide)) (fun _ h => h) (fun y ext g => ⟨trivial, g.1, g.2⟩) (fun _ h => h)
  | e => exact D.weak (jv_e w 505 n _ t6 hk dk dv fd lg k1 k2 k3 k4 k5 k6 k7 w1 w2 bv _ oV a1 a2 a3 a4 a5 (by decide)) (fun _ h => h) (fun y ext g => ⟨trivial, g.2.2, _, g.2.1⟩) (fun _ h => h)
theorem tJoin {g1 g2 : Tok} (hb : Borne w n bv kb) (hj : Val v jv) (H : Hk w n hk lg bv v) (h : (nm, tup [.str (Str.ofString "name") a, .str (Str.ofString "R") b]) ∈ n) (hp : (part, tup [.str (Str.ofString "unary") c, .str (Str.ofString "$") d, .ref nm]) ∈ n)
    (ht : (tx, tup [.str (Str.ofString "text") g1, .str (Str.ofString "ab") g2]) ∈ n) (hx : (x, tup [.str (Str.ofString "join") e, .ref tx, .ref part]) ∈ n) : Told w n x hk lg (due kb jv 5).1 (due kb jv 5).2.1 (due kb jv 5).2.2 := by
  have hw : D w 505 374 n [.ref tx, .ref hk] (OV True (.str (Str.ofString "ab") g2) no) := Mine.w_text w 505 n tx hk g1 g2 ht (by decide)
  rcases partW hb H h hp with ⟨hv, hD⟩ | ⟨hv, hD⟩
  · have hdue : due kb jv 5 = (Str.ofString "value", .str (joinD jv), []) := by rcases hv with rfl | rfl <;> rfl
    rw [hdue]
    refine told_ok (told_val w 490 n x hk lg _ (w_join w 495 n x tx part hk e _ hx (two_join w 500 n x tx part hk e g2 v _ True no hx hw hD (hj.fail _) (jvAll hj H) (by decide)) (by decide)) (fun v' ext g => ?_) (by decide)) (fun _ hk => hk) (fun v' ext n1 g S => ?_)
    · obtain ⟨_, rfl, q, rfl⟩ := g; exact F_str w 540 _ _ _ (by decide)
    · obtain ⟨_, rfl, q, rfl⟩ := g; exact ov_od (pl_str w 490 _ _ _ (by decide)) (fun _ => .str _ _)
  · rw [due_err hb hv 5 (.inr (.inl rfl))]
    exact told_err (told_val w 490 n x hk lg _ (w_join w 495 n x tx part hk e _ hx (two_join w 500 n x tx part hk e g2 v _ False _ hx hw hD (hj.fail _) (jvAll hj H) (by decide)) (by decide)) (fun _ _ g => g.1.elim) (by decide)) (fun _ _ g => g.1.elim) (fun _ hk => hk)
theorem tTilde (hb : Borne w n bv kb) (hj : Val v jv) (H : Hk w n hk lg bv v) (h : (nm, tup [.str (Str.ofString "name") a, .str (Str.ofString "R") b]) ∈ n) (hp : (part, tup [.str (Str.ofString "unary") c, .str (Str.ofString "$") d, .ref nm]) ∈ n)
    (hx : (x, tup [.str (Str.ofString "unary") e, .str (Str.ofString "~") f', .ref part]) ∈ n) : Told w n x hk lg (due kb jv 7).1 (due kb jv 7).2.1 (due kb jv 7).2.2 := by
  rcases partW hb H h hp with ⟨hv, hD⟩ | ⟨hv, hD⟩
  · have hdue : due kb jv 7 = (Str.ofString "fail", .none, []) := by rcases hv with rfl | rfl <;> rfl
    rw [hdue]
    refine told_fok (told_fail w 490 n x hk lg _ (w_un w 495 n x part hk e f' _ _ hx (o_tilde w 500 n part hk f' v True no hD (hj.fail _) (by decide)) (by decide)) (fun v' ext g => ?_) (by decide)) (fun _ hk => hk)
    obtain ⟨_, z, dz, es, ne, rfl, m1, m2⟩ := g
    exact F_fail w 540 _ z dz es ne (List.mem_append_left _ m1) (List.mem_append_left _ m2) (by decide)
  · rw [due_err hb hv 7 (.inr (.inr (.inr rfl)))]
    exact told_ferr (told_fail w 490 n x hk lg _ (w_un w 495 n x part hk e f' _ _ hx (o_tilde w 500 n part hk f' v False _ hD (hj.fail _) (by decide)) (by decide)) (fun _ _ g => g.1.elim) (by decide)) (fun _ _ g => g.1.elim) (fun _ hk => hk)
theorem tCall {ar : Addr} (hb : Borne w n bv kb) (hj : Val v jv) (H : Hk w n hk lg bv v) (h : (nm, tup [.str (Str.ofString "name") a, .str (Str.ofString "R") b]) ∈ n) (hp : (part, tup [.str (Str.ofString "unary") c, .str (Str.ofString "$") d, .ref nm]) ∈ n)
    (ha : (ar, tup [.ref part]) ∈ n) (hx : (x, tup [.str (Str.ofString "call") e, .str (Str.ofString "F") f', .ref ar]) ∈ n) : Told w n x hk lg (due kb jv 6).1 (due kb jv 6).2.1 (due kb jv 6).2.2 := by
  obtain ⟨dk, dv, fd, lm, c', k1, k2, k3, k4, k5, k6, k7, k8, w1, w2, oV, oF, oc, qual, pm, ct, vs, t, a1, a2, a3, a4, a5, a6, a7, a8, a9, b1, b2, b3⟩ := id H.ex
  have hL : LamOk w n lm v := fun ls k n1 S hm => lam w 530 n1 lm c' oc vs t qual pm ct ls v k (S _ a9) (S _ b1) b2 b3 hm (by decide)
  rcases partW hb H h hp with ⟨hv, hD⟩ | ⟨hv, hD⟩
  · have hdue : due kb jv 6 = (Str.ofString "value", valD jv, [.tuple [.str (Str.ofString "F"), .int 1]]) := by rcases hv with rfl | rfl <;> rfl
    rw [hdue]
    refine DT.weak (told_call w 490 n x hk lg ar part lm c' e f' k8 oF _ qual _ _ _ pm ct True no dk dv fd k1 k2 k3 k4 k5 k6 k7 w1 w2 v oV hx ha (hD.low (by decide)) (hj.fail _) a1 a2 a6 a7 a8 hL a9 (by decide)) (fun r ext logs g => ?_)
    rcases g with ⟨_, l, t1, tk, u, rfl, m1, m2⟩ | ⟨_, _, _, _, hn, _⟩
    · exact ⟨tk, v, m2, hj.plain _, .cons (.tuple (List.mem_append_left _ m1) (.cons (.str _ _) (.cons (.int _ _) .nil))) .nil⟩
    · exact hn.elim
  · rw [due_err hb hv 6 (.inr (.inr (.inl rfl)))]
    refine DT.weak (told_call w 490 n x hk lg ar part lm c' e f' k8 oF _ qual _ _ _ pm ct False _ dk dv fd k1 k2 k3 k4 k5 k6 k7 w1 w2 v oV hx ha (hD.low (by decide)) (hj.fail _) a1 a2 a6 a7 a8 hL a9 (by decide)) (fun r ext logs g => ?_)
    rcases g with ⟨hf, _⟩ | ⟨rfl, k, tk, u, hn, m⟩
    · exact hf.elim
    · obtain rfl := hn
      exact ⟨tk, _, m, plain_int _ _ _, .nil⟩
theorem toldAll {tree : Addr} {f : Int} (hb : Borne w n bv kb) (hj : Val v jv) (H : Hk w n hk lg bv v) (tr : IsTree n tree f) : Told w n tree hk lg (due kb jv f).1 (due kb jv f).2.1 (due kb jv f).2.2 := by
  cases tr with
  | t0 h1 h2 => exact tPart hb hj H h1 h2
  | t1 h1 h2 h3 => exact tDot hb H h1 h2 h3
  | t2 h1 h2 h3 => exact tAt hb H h1 h2 h3
  | t3 h1 h2 h3 h4 => exact tLater hb H h1 h2 h3 h4
  | t4 h1 h2 h3 h4 => exact tNow hb H h1 h2 h3 h4
  | t5 h1 h2 h3 h4 => exact tJoin hb hj H h1 h2 h3 h4
  | t6 h1 h2 h3 h4 => exact tCall hb hj H h1 h2 h3 h4
  | t7 h1 h2 h3 => exact tTilde hb hj H h1 h2 h3
  | t8 h1 h2 h3 => exact tStar h1 h2 h3
end
end
section
open PySem PySem.W PyProof.Rows PySem.Calls PySem.Spec
section
variable {w : World} {n : List (Addr × Obj)} {bv v : Value} {kb jv : Nat}
def dueT (kb jv : Nat) (f : Int) : Dat := .tuple [.tuple [.str (due kb jv f).1, (due kb jv f).2.1], .list (due kb jv f).2.2]
theorem refOk (hb : Borne w n bv kb) (h3 : kb ≤ 3) : ∃ (x dx : Addr) (es : List DictEntry) (ne : Nat) (nv ky : Value), bv = .ref x ∧ (x, instObj 110 dx) ∈ n ∧ (dx, dictOf es ne) ∈ n ∧ DN w 495 n x (kdOf kb) nv ky ∧ (∀ n, DatIn n nv (nvD kb)) ∧ (∀ n, DatIn n ky (kyD kb)) := by
  cases hb with
  | r0 a b => exact ⟨_, _, _, _, _, _, rfl, a, b, pl_ref w 495 n _ _ _ _ _ _ _ _ _ a b (by decide), fun _ => .none, fun _ => .str _ _⟩
  | r1 a b => exact ⟨_, _, _, _, _, _, rfl, a, b, pl_ref w 495 n _ _ _ _ _ _ _ _ _ a b (by decide), fun _ => .none, fun _ => .str _ _⟩
  | r2 a b c d => exact ⟨_, _, _, _, _, _, rfl, a, b, pl_refo w 495 n _ _ _ _ _ _ _ _ _ _ _ _ _ _ _ _ _ _ _ a b c d (by decide), fun _ => .int _ _, fun _ => .int _ _⟩
  | r3 a b c d => exact ⟨_, _, _, _, _, _, rfl, a, b, pl_refo w 495 n _ _ _ _ _ _ _ _ _ _ _ _ _ _ _ _ _ _ _ a b c d (by decide), fun _ => .int _ _, fun _ => .int _ _⟩
  | s4 => exact absurd h3 (by decide)
  | s5 => exact absurd h3 (by decide)
theorem dueAll {f : Int} {ft : Tok} (hb : Borne w n bv kb) (hj : Val v jv) (f0 : 0 ≤ f) (f9 : f < 9) : DU w 490 n [.int f ft, bv, v] (OD n (dueT kb jv f)) := by
  have hk := hb.kinds
  by_cases h8 : f = 8
  · have e : dueT kb jv f = .tuple [.tuple [.str (Str.ofString "value"), delD], .list []] := by subst h8; rfl
    rw [e]; exact du_8 w 490 n bv v f ft h8 (by decide)
  by_cases h5 : kb = 5
  · subst h5
    have e : dueT 5 jv f = .tuple [.tuple [.str (Str.ofString "error"), .int 4], .list []] := by
      have hf : f = 0 ∨ f = 1 ∨ f = 2 ∨ f = 3 ∨ f = 4 ∨ f = 5 ∨ f = 6 ∨ f = 7 := by omega
      rcases hf with e | e | e | e | e | e | e | e <;> subst e <;> rfl
    rw [e]
    cases hb with
    | s5 => exact du_4 w 490 n v f ft _ (by omega) (by decide)
  by_cases h14 : 0 < f ∧ f < 5
  · have hf : f = 1 ∨ f = 2 ∨ f = 3 ∨ f = 4 := by omega
    have e : dueT kb jv f = .tuple [.tuple [.str (Str.ofString "value"), nodeD (nameD kb) f], .list []] := by
      rcases hk with rfl | rfl | rfl | rfl | rfl | rfl <;> first | exact absurd rfl h5 | (rcases hf with e | e | e | e <;> subst e <;> rfl)
    rw [e]
    by_cases h4 : kb = 4
    · subst h4
      cases hb with
      | s4 => exact du_nX w 490 n v f ft _ h14.1 h14.2 (by decide)
    · obtain ⟨x, dx, es, ne, nv, ky, rfl, m1, m2, hD, d1, d2⟩ := refOk hb (by omega)
      exact du_nR w 490 n v f ft x dx es ne _ nv ky _ _ h14.1 h14.2 m1 m2 hD d1 d2 (by decide)
  have hf : f = 0 ∨ f = 5 ∨ f = 6 ∨ f = 7 := by omega
  by_cases he : kb = 1 ∨ kb = 2 ∨ kb = 3
  · have e : dueT kb jv f = .tuple [.tuple [.str (Str.ofString "error"), .int 8], .list []] := by
      rcases he with rfl | rfl | rfl <;> (rcases hf with e | e | e | e <;> subst e <;> rfl)
    rw [e]
    obtain ⟨x, dx, es, ne, nv, ky, rfl, m1, m2, hD, d1, d2⟩ := refOk hb (by omega)
    exact du_e8 w 490 n v f ft x dx es ne _ nv ky _ _ (by omega) (by omega) (by rcases he with rfl | rfl | rfl <;> decide +kernel) m1 m2 hD d1 d2 (by decide)
  have h04 : kb = 0 ∨ kb = 4 := by omega
  by_cases hf5 : f = 5
  · have e : dueT kb jv f = .tuple [.tuple [.str (Str.ofString "value"), .str (joinD jv)], .list []] := by subst hf5; rcases h04 with rfl | rfl <;> rfl
    rw [e]
    rcases h04 with rfl | rfl
    · obtain ⟨x, dx, es, ne, nv, ky, rfl, m1, m2, hD, d1, d2⟩ := refOk hb (by decide)
      cases hj with
      | i => exact du_5Ri w 490 n f ft _ x dx es ne _ nv ky _ _ hf5 rfl m1 m2 hD d1 d2 (by decide)
      | t => exact du_5Rt w 490 n f ft _ x dx es ne _ nv ky _ _ hf5 rfl m1 m2 hD d1 d2 (by decide)
      | e => exact du_5Re w 490 n f ft _ x dx es ne _ nv ky _ _ hf5 rfl m1 m2 hD d1 d2 (by decide)
    · cases hb with
      | s4 =>
        cases hj with
        | i => exact du_5Xi w 490 n f ft _ _ hf5 (by decide)
        | t => exact du_5Xt w 490 n f ft _ _ hf5 (by decide)
        | e => exact du_5Xe w 490 n f ft _ _ hf5 (by decide)
  have hf3 : f = 0 ∨ f = 6 ∨ f = 7 := by omega
  have e : dueT kb jv f = dueV (valD jv) f := by rcases h04 with rfl | rfl <;> (rcases hf3 with e | e | e <;> subst e <;> rfl)
  rw [e]
  rcases h04 with rfl | rfl
  · obtain ⟨x, dx, es, ne, nv, ky, rfl, m1, m2, hD, d1, d2⟩ := refOk hb (by decide)
    exact du_vR w 490 n v f ft _ x dx es ne _ nv ky _ _ hf3 hj.dat rfl m1 m2 hD d1 d2 (by decide)
  · cases hb with
    | s4 => exact du_vX w 490 n v f ft _ _ hf3 hj.dat (by decide)
theorem due_ok : ∀ kb < 6, ∀ jv < 3, ∀ f < 9, kqdOk 8 (dueT kb jv (Int.ofNat f)) = true := by decide +kernel
theorem Borne.lt (h : Borne w n bv kb) : kb < 6 := by cases h <;> decide
theorem Val.lt (h : Val v jv) : jv < 3 := by cases h <;> decide
end
end
section
open PySem PySem.W PyProof.Rows PySem.Calls
theorem law_E2 : ∀ (w : World) (p : Program) (loose : List Str) (mean : ExcName → Option Value) (mg mb : Str → Option Value) (dp un : Nat) (gd : Option (List Code)) (a : Addr) (A₀ : Around) (h₀ : Heap) (L : Addr) (news : List (Addr × Obj)) (s : Shared) (Q : Flow → Shared → Prop) (E : Value → Shared → Prop) (sl fdA so hk lg : Addr) (bv v : Value) (f : Int) (ft : Tok) (ps : Array Value) (B : Below A₀ h₀ [] h₀) (F : Fr h₀ L s.heap (fun y => if y = (Str.ofString "hooks") then some (.ref hk) else (fun y => if y = (Str.ofString "form") then some (.int f ft) else (fun y => if y = (Str.ofString "value") then some (v) else (fun y => if y = (Str.ofString "borne") then some (bv) else (fun y => if y = (Str.ofString "some") then some (.ref so) else (fun y => if y = (Str.ofString "feed") then some (.ref fdA) else (fun x => List.lookup x [((Str.ofString "script"), Value.ref sl)].reverse) y) y) y) y) y) y)) (X : (KF w.params).In h₀) (N : News h₀ L s.heap ((lg, listOf #[] 0) :: news)) (T : Top p loose mean mg mb h₀) (hdp : dp < 400) (hun : un < 1000) (C : CodeHd h₀ 441 437) (fin : ∀ h' tk' m' news' ps', Fr h₀ L h' m' → News h₀ L h' news' → (437, tabObj ps') ∈ news' → Q (.ret (.bool true)) { s with heap := h', toks := tk' }) (apart : ∀ q ∈ news, q.1 ≠ lg) (f0 : 0 ≤ f) (f9 : f < 9) (hb : ∃ kb, Borne w news bv kb) (hj : ∃ jv, Val v jv) (H : Hk w news hk lg bv v) (hps : (437, tabObj ps) ∈ news), wpAny (model PySem.Challenge.rw_rh0230_01.row.prog w) (ktrTop dp un gd (Str.ofString "law") (fnS (stAt 56)) L a (.ref 441) [] []) (execs ((fnB (stAt 56)).drop 5) (envOf (Str.ofString "law") (fnS (stAt 56)) L a (.ref 441))) Q E s := by
  intro w p loose mean mg mb dp un gd a A₀ h₀ L news s Q E sl fdA so hk lg bv v f ft ps B F X N T hdp hun C fin apart f0 f9 hb hj H hps
  obtain ⟨kb, hb⟩ := hb
  obtain ⟨jv, hj⟩ := hj
  obtain ⟨dk, dv, fd, lam, c', k1, k2, k3, k4, k5, k6, k7, k8, w1, w2, oV, oF, oc, qual, pm, ct, vs, t, a1, a2, a3, a4, a5, a6, a7, a8, a9, b1, b2, b3⟩ := id H.ex
  have hok : kqdOk 8 (dueT kb jv f) = true := by
    have h := due_ok kb hb.lt jv hj.lt f.toNat (by omega)
    rwa [show Int.ofNat f.toNat = f from Int.toNat_of_nonneg f0] at h
  exact law_E w p loose mean mg mb dp un gd a A₀ h₀ L news s Q E sl fdA so bv v f ft hk dk dv fd lg k1 k2 k3 k4 k5 w1 w2 ps (due kb jv f).1 (due kb jv f).2.1 (due kb jv f).2.2 B F X N T hdp hun C fin apart f0 f9 a1 a2 hps
    (fun rest tree S tr => toldAll (hb.mono S) hj (H.mono S) tr) (fun n2 S => dueAll (hb.mono S) hj f0 f9) hok
theorem borne_of {w : World} {n : List (Addr × Obj)} {bv : Value} {i : Int} {x0 x1 x2 x3 : Addr} {t4 t5 : Tok} (hy : #[Value.ref x0, .ref x1, .ref x2, .ref x3, .str (Str.ofString "X") t4, .str (Str.ofString "") t5][i.toNat]? = some bv) (h0 : 0 ≤ i) (h6 : i < 6)
    (b0 : Borne w n (.ref x0) 0) (b1 : Borne w n (.ref x1) 1) (b2 : Borne w n (.ref x2) 2) (b3 : Borne w n (.ref x3) 3) : ∃ kb, Borne w n bv kb := by
  have hi : i = 0 ∨ i = 1 ∨ i = 2 ∨ i = 3 ∨ i = 4 ∨ i = 5 := by omega
  rcases hi with e | e | e | e | e | e <;> subst e <;> simp at hy <;> subst hy
  · exact ⟨_, b0⟩
  · exact ⟨_, b1⟩
  · exact ⟨_, b2⟩
  · exact ⟨_, b3⟩
  · exact ⟨_, .s4⟩
  · exact ⟨_, .s5⟩
theorem val_of {v : Value} {i : Int} {t0 t1 t2 : Tok} (hy : #[Value.int 5 t0, .str (Str.ofString "t") t1, .str (Str.ofString "") t2][i.toNat]? = some v) (h0 : 0 ≤ i) (h3 : i < 3) : ∃ jv, Val v jv := by
  have hi : i = 0 ∨ i = 1 ∨ i = 2 := by omega
  rcases hi with e | e | e <;> subst e <;> simp at hy <;> subst hy
  · exact ⟨_, .i⟩
  · exact ⟨_, .t⟩
  · exact ⟨_, .e⟩
end
theorem words9 : True := by
  k_with "execs cons Assign cons" => (k_here; (with_reducible show wpAny _ _ (execs [_, _] _) _ _ _); k_dflt (refine' law_E2 _ _ _ _ _ _ _ _ _ _ _ _ _ _ _ _ _ _ _ _ _ _ _ _ _ _ _ ?B ?F ?X ?N ?T ?hdp ?hun ?C ?fin ?ap ?f0 ?f9 ?hb ?hj ?H ?hps; (case B => k_asm); (case F => k_asm); (case X => k_asm); (case N => k_asm); (case T => k_asm); (case hdp => assumption); (case hun => assumption); (case C => assumption); (case fin => assumption); (case f0 => assumption); (case f9 => assumption); (case hb => exact borne_of (by assumption) (by assumption) (by assumption) (.r0 (by k_mem) (by k_mem)) (.r1 (by k_mem) (by k_mem)) (.r2 (by k_mem) (by k_mem) (by k_mem) (by k_mem)) (.r3 (by k_mem) (by k_mem) (by k_mem) (by k_mem))); (case hj => exact val_of (by assumption) (by assumption) (by assumption)); (case H => exact ⟨⟨_, _, _, _, _, _, _, _, _, _, _, _, _, _, _, _, _, _, _, _, _, _, _, (by k_mem), (by k_mem), (by k_mem), (by assumption), (by assumption), (by k_mem), (by assumption), (by assumption), (by k_mem), (by k_mem), (by assumption), (by assumption)⟩⟩); (case hps => k_mem); (case ap => exact fun q hq => Nat.ne_of_lt ((by assumption : ∀ q ∈ _, q.1 < _) q hq))))
  trivial
theorem law_A : ∀ (w : World) (p : Program) (loose : List Str) (mean : ExcName → Option Value) (mg mb : Str → Option Value) (dp un : Nat) (gd : Option (List Code)) (a : Addr) (A₀ : Around) (h₀ : Heap) (L : Addr) (news : List (Addr × Obj)) (s : Shared) (Q : Flow → Shared → Prop) (E : Value → Shared → Prop) (sl : Addr) (ws : List Value) (ns : List Int) (B : Below A₀ h₀ [] h₀) (F : Fr h₀ L s.heap (fun x => List.lookup x [((Str.ofString "script"), Value.ref sl)].reverse)) (X : (KF w.params).In h₀) (N : News h₀ L s.heap ([(437, tabObj #[])])) (T : Top p loose mean mg mb h₀) (hdp : dp < 400) (hun : un < 1000) (C : CodeHd h₀ 441 437) (fin : ∀ h' tk' m' news' ps', Fr h₀ L h' m' → News h₀ L h' news' → (437, tabObj ps') ∈ news' → Q (.ret (.bool true)) { s with heap := h', toks := tk' }) (hsl : h₀.IsList sl ws.toArray) (hI : IntsAre ws ns) (hln : ns.length ≤ 63), wpAny (model PySem.Challenge.rw_rh0230_01.row.prog w) (ktrTop dp un gd (Str.ofString "law") (fnS (stAt 56)) L a (.ref 441) [] []) (execs ((fnB (stAt 56)).drop 0) (envOf (Str.ofString "law") (fnS (stAt 56)) L a (.ref 441))) Q E s := by
  k_fill
  intro w p loose mean mg mb dp un gd a A₀ h₀ L news s Q E sl ws ns B F X N T hdp hun C fin hsl hI hln
  k_steps
end Mine
end
theorem PySem.Challenge.cw_rh0230_01_holds : PySem.Challenge.rw_rh0230_01.Holds := by
  k_with_none
  w_on
  refine holds_law (by decide +kernel) fun said => ?_
  refine holds_open (q := Mine.view) (loose := Mine.looseT) (Xt := Mine.XtT) (XP := XL Mine.view []) (Yf := Hook.obs (kHook Mine.KF Mine.KAs Mine.keys_T)) (Ya := Hook.val (kHook Mine.KF Mine.KAs Mine.keys_T)) (YP := Hook.says (kHook Mine.KF Mine.KAs Mine.keys_T)) (N := 6008) Mine.left_T (Hook.of (kHook Mine.KF Mine.KAs Mine.keys_T)) (Hook.keeps (kHook Mine.KF Mine.KAs Mine.keys_T)) (fun s e => xl_of s (Bool.and_eq_true_iff.mp e).1) XL.keeps (by rfl) (by rfl) (by rfl) (fun s e => recFacts_of (Bool.and_eq_true_iff.mp e).2) (by rfl) (by first | assumption | decide +kernel) (by decide +kernel) ⟨rfl, rfl, rfl, rfl, rfl, by decide +kernel⟩ ?hw ?hc
  case hw => w_witness2
  case hc =>
    k_go0
    all_goals try k_fold
    refine' Mine.law_A _ _ _ _ _ _ _ _ _ _ _ _ _ [] _ _ _ _ _ _ ?B ?F ?X ?N ?T ?hdp ?hun ?C ?fin ?hsl ?hI ?hln
    case B => assumption
    case F => assumption
    case X => assumption
    case N => assumption
    case T => assumption
    case hdp => decide
    case hun => decide
    case C => assumption
    case hsl => assumption
    case hI => assumption
    case hln => omega
    intro h' tk' m' news' ps' F' N' mp
    k_steps
